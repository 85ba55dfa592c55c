import PyProof.Rows.All
import Wide.All
import OpenK.AllK
import Wide.FinOn
import HandS.ForExc
import HandS.ForMost
import HandS.Wide
import HandS.IsInst
import HandS.TupAny
import HandS.Deep
import HandS.Style
import HandS.Flow
import HandS.TupLe
import HandS.Conv
import HandS.Zip
import HandS.Rev
import HandS.TupLen
import HandS.More
import HandS.StrMore
import KE.DataMinMax
import KE.DataCmp
import KE.SortData
import KE.KDictCopyH
import KE.KDictSum
import HandS.ExcIs
import HandS.TryOnly
import HandS.Strs
import HandS.TupMul
import KE.GoesMore
import KE.GoesEnum
import HandS.RevTup
import PyProof.ListNew
import PyProof.CollectWalk
import HandS.DictComp
import HandS.Sort
import KE.GoesRev
import KE.KDictItemsList
import HandS.ExcValue
import KE.KDictZip
import KE.KDictKeyed
import KE.GoesComp
import KE.GoesRaise
import HandS.Iter
import HandS.ForDict
import KE.KStateDown
import HandS.Base
import HandS.Words
import HandS.Head0
import HandS.Head1
import HandS.Head2
import HandS.HeadEnd
import HandS.HeadHook1
import HandS.HeadHook2
import HandS.HeadHook3
import HandS.HeadHook4
import PySem.Challenge.RW_chiefway_k12_a_book_made
set_option Elab.async false
set_option linter.all false
set_option maxRecDepth 100000
set_option maxHeartbeats 4000000
namespace L2.Pf
open PySem PySem.Spec PyProof.Rows
def bltN0:List Str:=["len","max","min","sum","int","str","list","tuple","dict","sorted","any","all","isinstance","range","zip","enumerate","reversed","bool"]
def subC0 (c x:Str):Bool:=c == x || x == "ChiefError" || x == "ValueError"
def dfn (x q:Str) (st:Stmt):He.DefD:=⟨(x,none),q,q,defArgs st,defBody st,defScope st,[],[]⟩
def oneCB (K:PySem.W.Frag) (C:Addr):Bool :=
 PySem.W.excIn K C [.type "ValueError",.type "Exception",.type "BaseException",.type "object"] "ValueError.__new__" && (PySem.W.keepIn K (.ref C) &&
  (decide (PySem.W.subIn K (.ref C) (.type "BaseException")=some true) && (decide (PySem.W.typeIn K (.ref C)=some (.type "type")) && (PySem.W.hasDictIn K C &&
  (He.eqO (PySem.W.findIn K (.ref C) "__getattribute__") (some (some (.builtin "BaseException.__getattribute__"))) && (He.eqO (PySem.W.findIn K (.ref C) "__getattr__") (some none) &&
  (He.eqO (PySem.W.findIn K (.ref C) "__class__") (some (some (.builtin "object.__class__"))) && (decide (PySem.W.mroIn K C (.type "object")=some true) &&
  (decide (PySem.W.subIn K (.ref C) (.type "ValueError")=some true) && decide (PySem.W.subIn K (.ref C) (.ref C)=some true))))))))))
def clsB (EX:List Str) (K:PySem.W.Frag):Bool :=
 (EX.all fun c=>oneCB K (He.ga K c)) && ((EX.all fun c=>EX.all fun x=>decide (PySem.W.subIn K (.ref (He.ga K c)) (.ref (He.ga K x))=some (subC0 c x))) &&
  (EX.isEmpty || (He.eqO (PySem.W.specialIn K (.builtin "object.__class__") "__get__") (some (some (.builtin "getset_descriptor.__get__"))) && decide (PySem.W.takesIn K (.builtin "object.__class__")=some true))))
def tbB (K:PySem.W.Frag) (d:Str × List Str):Bool:=match K.lookup (He.ga K d.1) with
 | some ⟨.type c,_,.seq its _,_⟩=>decide (c="tuple") && (decide (its.size <= sizeLine) && He.relAll (d.2.map V.str) its.toList)
 | _=>false
def exB (EX:List Str) (tbs:List (Str × List Str)) (K:PySem.W.Frag):Bool:=clsB EX K && tbs.all (tbB K)
def frcL {α:Type}:List Nat -> (List Nat -> α) -> α
 | [],k=>k []
 | a :: r,k=>HandSHeadRun.frNat a fun a=>frcL r fun r=>k (a :: r)
theorem zc9 {α:Type}:∀ (l:List Nat) (k:List Nat -> α),frcL l k=k l
 | [],k=>rfl
 | a :: r,k=>by
  show (HandSHeadRun.frNat a fun a=>frcL r fun r=>k (a :: r))=_
  rw [HandSHeadRun.frNat_eq,zc9 r]
def adr1 (g:Addr -> Option Obj) (xs:List Str):List Addr:=xs.map (He.ga (He.frG g [mainGlobals]))
def adr2 (g:Addr -> Option Obj) (as:List Addr):List Addr:=as.flatMap fun a=>match g a with
 | some o=>He.refsO o
 | none=>[]
def ordL (n:Nat) (fa:List He.Fa) (fn:List He.DefD) (ex:PySem.W.Frag -> Bool) (xs ys:List Str) (g:Addr -> Option Obj):He.AlX :=
 frcL (adr1 g xs) fun a1=>frcL (adr1 g ys) fun b1=>frcL (adr2 g a1) fun a2=>frcL (adr2 g b1) fun b2=>(He.obsT fa fn [] (He.frG g (mainGlobals :: (b1 ++ (b2 ++ (a1 ++ a2))))),ex (He.frG g (mainGlobals :: (b1 ++ (b2 ++ (a1 ++ a2))))))
def hookL (fa:List He.Fa) (fn:List He.DefD) (ex:PySem.W.Frag -> Bool) (xs ys:List Str):PySem.W.Hook where
 α:=He.AlX
 obs:=fun s=>ordL 0 fa fn ex xs ys s.heap.get?
 val:=fun w=>(He.valT fn [] w,true)
 says:=fun w h=>∃ K:PySem.W.Frag,K.In h /\ He.SaysX fa fn [] [] ex w h K
 of:=fun _ _ e=>by
  unfold ordL at e
  rw [zc9,zc9,zc9,zc9] at e
  exact ⟨_,He.frG_in,⟨congrArg (fun z:He.AlX=>z.1) e,congrArg (fun z:He.AlX=>z.2) e,fun _ z=>(nomatch z),fun _ z=>(nomatch z),fun _ z=>(nomatch z)⟩⟩
 keeps:=fun _ _ _ ⟨K,hK,c⟩ k=>⟨K,PySem.W.Frag.In.keeps hK k,⟨c.t,c.more,c.hd,c.out,fun _ z=>(nomatch z)⟩⟩
theorem zoK {fa:List He.Fa} {fn:List He.DefD} {ex:PySem.W.Frag -> Bool} {xs ys:List Str} {g:Addr -> Option Obj} {s:Shared} (h:∀ a,g a=s.heap.get? a):ordL 0 fa fn ex xs ys g=(hookL fa fn ex xs ys).obs s:=by
 have e:g=s.heap.get?:=funext h
 rw [e]; rfl
def faOf (fn:List He.DefD) (tbs:List (Str × List Str)) (EX:List Str) (gl:List He.Fa):List He.Fa :=
 fn.map (fun d=>He.Fa.glo d.at_.1) ++ (tbs.map (fun d=>He.Fa.glo d.1) ++ (EX.map He.Fa.glo ++ ((("ValueError":Str) :: bltN0).map He.Fa.free ++ gl)))
end L2.Pf
namespace Law
open PySem PySem.Spec PyProof.Rows L2 L2.Pf
def top (i:Nat):Stmt:=PySem.Challenge.pw_chiefway_k12_a_book_made.main.body.getD i (.Pass ⟨0,0,0,0⟩)
def EX:List Str:=["ChiefError","NoForm","NoKind","NoMake","NoRoad","NoWheel"]
end Law
namespace LawH
open PySem PySem.Spec PyProof.Rows L2 L2.Pf Law
def fn0:List He.DefD:=[dfn "is_whole" "is_whole" (top 8),dfn "wheel" "wheel" (top 9),dfn "on" "on" (top 10),dfn "gathered" "gathered" (top 12),dfn "form" "form" (top 13),dfn "is_name" "is_name" (top 17),dfn "is_price" "is_price" (top 18),dfn "kinds_of" "kinds_of" (top 19),dfn "road_of" "road_of" (top 20),dfn "form_of" "form_of" (top 21),dfn "make_of" "make_of" (top 22),dfn "book" "book" (top 23),dfn "_law_mixed" "_law_mixed" (top 25),dfn "_law_number" "_law_number" (top 26),dfn "_law_wheel" "_law_wheel" (top 27),dfn "_law_whole" "_law_whole" (top 28),dfn "_law_names" "_law_names" (top 29),dfn "_law_pairs" "_law_pairs" (top 30),dfn "_law_deed" "_law_deed" (top 31),dfn "_law_road" "_law_road" (top 32),dfn "_law_make" "_law_make" (top 33),dfn "_law_raw" "_law_raw" (top 34),dfn "_law_alike" "_law_alike" (top 35),dfn "_law_form" "_law_form" (top 36),dfn "_law_due" "_law_due" (top 37),dfn "_law_copied" "_law_copied" (top 38),dfn "law" "law" (top 39)]
def fn:List He.DefD:=fn0
def tbs:List (Str × List Str):=[("KEPT",["let","in","pick","again"])]
def glF:List He.Fa:=[.str "LETTERS" "abcdefghijklmnopqrstuvwxyz"]
def nm0:List Str:=["ChiefError","NoWheel","NoForm","NoKind","NoRoad","NoMake","is_whole","wheel","on","gathered","form","LETTERS","KEPT","is_name","is_price","kinds_of","road_of","form_of","make_of","book","_law_mixed","_law_number","_law_wheel","_law_whole","_law_names","_law_pairs","_law_deed","_law_road","_law_make","_law_raw"]
def nm1:List Str:=["_law_alike","_law_form","_law_due","_law_copied"]
def nms:List Str:=nm0 ++ (nm1)
def xsF:List Str:=fn.map fun d=>d.at_.1
def ysF:List Str:=EX ++ tbs.map fun d=>d.1
noncomputable abbrev hk:PySem.W.Hook:=hookL (faOf fn tbs EX glF) fn (exB EX tbs) xsF ysF
noncomputable def ob (s:PySem.W.SharedT):He.AlX:=ordL 0 (faOf fn tbs EX glF) fn (exB EX tbs) xsF ysF (HandSHeadRun.getT s)
theorem ob_eq (s:PySem.W.SharedT):ob s=hk.obs s.abs:=zoK (HandSHeadRun.getT_eq s)
theorem run (w:World):HandSHeadRun.RunEq (PySem.W.OpenLaw.row PySem.Challenge.rw_chiefway_k12_a_book_made) (PySem.W.view (PySem.W.OpenLaw.row PySem.Challenge.rw_chiefway_k12_a_book_made).prog [39]) hk ob 40000 nms w:=by
 intro os
 kernel_rfl
set_option maxHeartbeats 0 in
theorem law0 (k:(PySem.W.OpenLaw.row PySem.Challenge.rw_chiefway_k12_a_book_made).wellSaid=true -> (PySem.W.OpenLaw.row PySem.Challenge.rw_chiefway_k12_a_book_made).Holds):PySem.Challenge.rw_chiefway_k12_a_book_made.Holds:=by
 w_on; o_law; exact k (by assumption)
open PySem.W in
set_option maxHeartbeats 0 in
theorem ahead (said:(PySem.W.OpenLaw.row PySem.Challenge.rw_chiefway_k12_a_book_made).wellSaid=true) (call:WalkO (PySem.W.view (PySem.W.OpenLaw.row PySem.Challenge.rw_chiefway_k12_a_book_made).prog [39]) nms (XL (PySem.W.view (PySem.W.OpenLaw.row PySem.Challenge.rw_chiefway_k12_a_book_made).prog [39]) []) hk.says (PySem.W.OpenLaw.row PySem.Challenge.rw_chiefway_k12_a_book_made).toRowW (HandSHeadRun.topDef (OpenLaw.row PySem.Challenge.rw_chiefway_k12_a_book_made).prog 39) [] fun f vs=>PySem.call f vs):(PySem.W.OpenLaw.row PySem.Challenge.rw_chiefway_k12_a_book_made).Holds:=by
 refine HandSHeadRun.head_any (M:=40000) (d:=HandSHeadRun.topDef (OpenLaw.row PySem.Challenge.rw_chiefway_k12_a_book_made).prog 39) (kwd:=[]) ob_eq (by kernel_rfl) (fun s=>by kernel_rfl) run (by kernel_rfl) (by kernel_rfl) (by kernel_rfl) (by rfl) said (by decide +kernel) ⟨rfl,rfl,rfl,rfl,rfl,by decide +kernel⟩ ?hw call
 case hw=>w_witness2
end LawH
namespace L2.Pf
open PySem PySem.Spec PyProof.Rows
inductive D where
 | non | bl (b:Bool) | int (i:Int) | str (s:Str)
 | tup (xs:List D) | lst (xs:List D)
 | dK (kvs:List (Key × D)) | dT (kvs:List (List Key × D))
 | exc (c:Str)
 | tupN (xs:List Str)
 deriving Inhabited
def D.mut:D -> Bool
 | .lst _=>true | .dK _=>true | .dT _=>true | _=>false
mutual
def D.imm:D -> Bool
 | .non=>true | .bl _=>true | .int _=>true | .str _=>true
 | .tup xs=>D.imms xs
 | .lst _=>false | .dK _=>false | .dT _=>false | .exc _=>false | .tupN _=>true
def D.imms:List D -> Bool
 | []=>true | x :: xs=>D.imm x && D.imms xs
end
mutual
def D.py:D -> PyData
 | .non=>.none | .bl b=>.bool b | .int i=>.int i | .str s=>.str s
 | .tup xs=>.tuple (D.pys xs) | .lst xs=>.list (D.pys xs)
 | .dK _=>.dict [] | .dT _=>.dict [] | .exc _=>.dict [] | .tupN _=>.dict []
def D.pys:List D -> List PyData
 | []=>[] | x :: xs=>D.py x :: D.pys xs
end
def D.shaped (d:D):Bool:=SeqAt.shaped d.py
inductive R (α:Type) where
 | ok (a:α) | exc (c:Str) | bad
 deriving Inhabited
def R.bind {α β:Type}:R α -> (α -> R β) -> R β
 | .ok a,f=>f a | .exc c,_=>.exc c | .bad,_=>.bad
instance:Monad R where
 pure:=R.ok
 bind:=R.bind
theorem R.bind_ok {α β:Type} (a:α) (f:α -> R β):(R.ok a >>= f)=f a:=rfl
def R.of {α:Type}:Option α -> R α
 | some a=>.ok a | none=>.bad
def R.nox {α:Type}:R α -> R α
 | .exc _=>.bad | r=>r
def R.when {α:Type} (c:Bool) (r:R α):R α:=if c=true then r else .bad
def mulOk (i j:Int):Bool:=decide (i.natAbs < 2 ^ 64) || decide (j.natAbs < 2 ^ 64) || decide (i.natAbs.log2+j.natAbs.log2 < 1000000)
def divOk (j:Int):Bool:=decide (0 < j) && decide (j.natAbs.log2 < 9000)
inductive BOp where | add | sub | mul | div | mod | pow
 deriving DecidableEq
inductive COp where | eq | ne | lt | le | gt | ge | is | isnot | isin | notin
 deriving DecidableEq
def dAdd:D -> D -> R D
 | .int i,.int j=>.ok (.int (i+j))
 | .str a,.str b=>R.when (decide (a.length+b.length <= sizeLine)) (.ok (.str (a ++ b)))
 | .lst a,.lst b=>R.when (decide (a.length+b.length <= sizeLine)) (.ok (.lst (a ++ b)))
 | .tup a,.tup b=>R.when (decide (a.length+b.length <= sizeLine)) (.ok (.tup (a ++ b)))
 | _,_=>.bad
def dSub:D -> D -> R D
 | .int i,.int j=>.ok (.int (i - j))
 | _,_=>.bad
def repOk (n:Nat) (k:Int):Bool:=decide (-(2 ^ 63) <= k) && decide (k < 2 ^ 63) && decide (n * k.toNat <= sizeLine)
def dMul:D -> D -> R D
 | .int i,.int j=>R.when (mulOk i j) (.ok (.int (i * j)))
 | .tup xs,.int k=>R.when (!xs.isEmpty && decide (1 <= k) && decide (k <= 1000) && decide (xs.length <= 1000)) (.ok (.tup (List.replicate k.toNat xs).flatten))
 | _,_=>.bad
def dRep:D -> D -> R D
 | .lst xs,.int k=>R.when (repOk xs.length k) (.ok (.lst (List.replicate k.toNat xs).flatten))
 | _,_=>.bad
def dDiv:D -> D -> R D
 | .int i,.int j=>R.when (divOk j) (.ok (.int (i / j)))
 | _,_=>.bad
def dMod:D -> D -> R D
 | .int i,.int j=>R.when (decide (0 < j)) (.ok (.int (i % j)))
 | _,_=>.bad
def dPow:D -> D -> R D
 | .int i,.int j=>R.when (decide (0 <= j) && decide (j <= 1000000) && decide (i.natAbs < 2 ^ 64)) (.ok (.int (i ^ j.toNat)))
 | _,_=>.bad
def dBin:BOp -> D -> D -> R D
 | .add,a,b=>dAdd a b | .sub,a,b=>dSub a b | .mul,a,b=>dMul a b | .div,a,b=>dDiv a b | .mod,a,b=>dMod a b | .pow,a,b=>dPow a b
def dNeg:D -> R D
 | .int i=>.ok (.int (-i)) | _=>.bad
def zac:D -> R Bool
 | .non=>.ok false | .bl b=>.ok b | .int i=>.ok (i != 0)
 | .str s=>R.when (decide (s.length <= sizeLine)) (.ok ((s.length:Int) != 0))
 | .lst xs=>.ok (!xs.isEmpty) | .tup xs=>.ok (!xs.isEmpty)
 | .dK _=>.bad | .dT _=>.bad | .exc _=>.bad | .tupN _=>.bad
def dEq (a b:D):R Bool:=R.when (a.shaped && b.shaped) (.ok (PyData.eqv a.py b.py))
def isNon:D -> Bool | .non=>true | _=>false
def dIs:D -> D -> R Bool
 | a,.non=>.ok (isNon a)
 | .bl a,.bl b=>.ok (decide (a=b))
 | _,_=>.bad
def ordOk (a b:D):Bool:=a.shaped && b.shaped && PySem.W.alike a.py b.py && !isNon a
def dOrd (p:Int -> Int -> Bool) (q:PyData -> PyData -> Bool):D -> D -> R Bool
 | .int i,.int j=>.ok (p i j)
 | a,b=>R.when (ordOk a b) (.ok (q a.py b.py))
def keyD:D -> Option Key
 | .int i=>some (.inl i) | .str s=>some (.inr s) | _=>none
def keysD:List D -> Option (List Key)
 | []=>some []
 | x :: xs=>match keyD x,keysD xs with
  | some k,some ks=>some (k :: ks)
  | _,_=>none
def look {κ:Type} [DecidableEq κ] (kvs:List (κ × D)) (k:κ):Option D:=(kvs.find? fun kv=>decide (kv.1=k)).map (·.2)
def put {κ:Type} [DecidableEq κ] (kvs:List (κ × D)) (k:κ) (v:D):List (κ × D) :=
 if (kvs.find? fun kv=>decide (kv.1=k)).isSome then kvs.map fun kv=>if kv.1=k then (kv.1,v) else kv else kvs ++ [(k,v)]
def dLook:D -> D -> R (Option D)
 | .dK kvs,k=>(R.of (keyD k)).bind fun k=>.ok (look kvs k)
 | .dT kvs,.tup ks=>(R.of (keysD ks)).bind fun k=>.ok (look kvs k)
 | _,_=>.bad
def flatD:D -> Bool
 | .non=>true | .bl _=>true | .int _=>true | .str _=>true | _=>false
def dIn (x:D):D -> R Bool
 | .str b=>match x with
  | .str a=>.ok (!(Builtin.Str.occurrences b a 0 b.length 1).isEmpty)
  | _=>.bad
 | .lst xs=>R.when (x.shaped && D.shaped (.lst xs)) (.ok (xs.any fun z=>PyData.eqv z.py x.py))
 | .tup xs=>R.when (flatD x && xs.all flatD) (.ok (xs.any fun z=>PyData.eqv z.py x.py))
 | .tupN xs=>R.when (flatD x && (xs.map D.str).all flatD) (.ok ((xs.map D.str).any fun z=>PyData.eqv z.py x.py))
 | .dK kvs=>(dLook (.dK kvs) x).bind fun o=>.ok o.isSome
 | .dT kvs=>(dLook (.dT kvs) x).bind fun o=>.ok o.isSome
 | _=>.bad
def dCmp:COp -> D -> D -> R Bool
 | .eq,a,b=>dEq a b
 | .ne,a,b=>(dEq a b).bind fun c=>.ok (!c)
 | .lt,a,b=>dOrd (fun i j=>decide (i < j)) (fun x y=>PySem.W.dataLt x y) a b
 | .le,a,b=>dOrd (fun i j=>decide (i <= j)) (fun x y=>!PySem.W.dataLt y x) a b
 | .gt,a,b=>dOrd (fun i j=>decide (j < i)) (fun x y=>PySem.W.dataLt y x) a b
 | .ge,a,b=>dOrd (fun i j=>decide (j <= i)) (fun x y=>!PySem.W.dataLt x y) a b
 | .is,a,b=>dIs a b
 | .isnot,a,b=>(dIs a b).bind fun c=>.ok (!c)
 | .isin,a,b=>dIn a b
 | .notin,a,b=>(dIn a b).bind fun c=>.ok (!c)
def sameF:D -> D -> Bool
 | .int i,.int j=>decide (i=j) | .str i,.str j=>decide (i=j) | .bl i,.bl j=>decide (i=j) | .non,.non=>true | _,_=>false
def dEqD:D -> D -> R Bool
 | .dK ks,.dK ls=>R.when (decide (ks.length=ls.length) && ks.all fun p=>match look ls p.1 with | some d=>sameF d p.2 | none=>false) (.ok true)
 | _,_=>.bad
def dDisp (t:Bool) (x y:D):R D:=if t=true then (match x with
 | .tup ks=>(R.of (keysD ks)).bind fun k=>.ok (.dT [(k,y)])
 | _=>.bad) else (R.of (keyD x)).bind fun k=>.ok (.dK [(k,y)])
def dIdx:D -> D -> R D
 | .lst xs,.int i=>R.of (atI xs i)
 | .tup xs,.int i=>R.of (atI xs i)
 | .tupN xs,.int i=>R.of (atI (xs.map D.str) i)
 | .str s,.int i=>R.when (decide (s.length <= sizeLine)) ((R.of (atI s.cps.toList i)).bind fun c=>.ok (.str ⟨#[c]⟩))
 | .dK kvs,k=>(dLook (.dK kvs) k).bind fun o=>R.of o
 | .dT kvs,k=>(dLook (.dT kvs) k).bind fun o=>R.of o
 | _,_=>.bad
def cut {α:Type} (xs:List α) (lo hi:Option Int):List α:=(xs.drop (HT.sIx xs.length 0 lo)).take (HT.sIx xs.length xs.length hi - HT.sIx xs.length 0 lo)
def zaH:D -> Option Int -> Option Int -> R D
 | .lst xs,lo,hi=>.ok (.lst (cut xs lo hi))
 | .tup xs,lo,hi=>.ok (.tup (cut xs lo hi))
 | .str s,lo,hi=>R.when (decide (s.length <= sizeLine)) (.ok (.str (cutS s lo hi)))
 | _,_,_=>.bad
def pickI (n lo k:Nat):List Nat:=sliceRange (sliceBounds (some (lo:Int)) none (some (k:Int)) n).1 (sliceBounds (some (lo:Int)) none (some (k:Int)) n).2.1 (sliceBounds (some (lo:Int)) none (some (k:Int)) n).2.2
def pickL {α:Type} (xs:List α) (lo k:Nat):List α:=(pickI xs.length lo k).filterMap fun i=>xs[i]?
def pickB {α:Type} (xs:List α) (lo hi k:Int):List α:=(sliceRange (sliceBounds (some lo) (some hi) (some k) xs.length).1 (sliceBounds (some lo) (some hi) (some k) xs.length).2.1 (sliceBounds (some lo) (some hi) (some k) xs.length).2.2).filterMap fun i=>xs[i]?
def dInt:D -> R Int
 | .int i=>.ok i | _=>.bad
def tupB:D -> Bool
 | .tup (_ :: _)=>true | _=>false
def othB:D -> Bool
 | .bl _=>true | .int _=>true | .str _=>true | .lst _=>true | _=>false
def zcQ (xs:List D):Bool:=(xs.all fun x=>x.shaped && xs.all fun y=>PySem.W.alike x.py y.py) && (xs.all tupB || xs.all othB) && decide (xs.length <= sizeLine)
def sortD (xs:List D):R (List D):=R.when (zcQ xs) (.ok (xs.mergeSort (PySem.W.dataLe false D.py)))
def keyV:Key -> D
 | .inl i=>.int i | .inr s=>.str s
def ziC (i:Int):Int:=hashInt i
def zlR:Key -> Option Int
 | .inl i=>some (ziC i) | .inr _=>none
def zcv:List Key -> Option (List Int)
 | []=>some []
 | k :: ks=>match zlR k,zcv ks with
  | some h,some hs=>some (h :: hs)
  | _,_=>none
def zfD (ks:List Key):Option Int:=(zcv ks).map fun hs=>reduceHash (Builtin.Tuple.tupleHashOf hs)
def zbe:List (List Key) -> Option (List Int)
 | []=>some []
 | k :: ks=>match zfD k,zbe ks with
  | some h,some hs=>some (h :: hs)
  | _,_=>none
def zgE (ks:List (List Key)):Bool:=match zbe ks with
 | some hs=>decide hs.Nodup | none=>false
inductive Bi where
 | tupN | len | max2 | min2 | maxl | minl | sum | int | str | list | tuple | dict | sorted | any | all
 deriving DecidableEq
def intsD:List D -> Option (List Int)
 | []=>some []
 | .int i :: xs=>(intsD xs).map (i :: ·)
 | _ :: _=>none
def bls:List D -> Option (List Bool)
 | []=>some []
 | .bl i :: xs=>(bls xs).map (i :: ·)
 | _ :: _=>none
def strs':List D -> Option (List Str)
 | []=>some []
 | .str i :: xs=>(strs' xs).map (i :: ·)
 | _ :: _=>none
def maxI:Int -> List Int -> Int
 | m,[]=>m | m,x :: xs=>maxI (if x > m then x else m) xs
def minI:Int -> List Int -> Int
 | m,[]=>m | m,x :: xs=>minI (if x < m then x else m) xs
def dMaxL (f:Int -> List Int -> Int) (xs:List D):R D:=(R.of (intsD xs)).bind fun ns=>match ns with
 | []=>.bad
 | n :: r=>.ok (.int (f n r))
def maxDI (c:Int):List Int -> Int
 | []=>c | n :: ns=>maxI n ns
def zdI:List D -> Option (List (Key × D))
 | []=>some []
 | .tup [k,v] :: r=>match keyD k,zdI r with
  | some k,some r=>some ((k,v) :: r)
  | _,_=>none
 | _ :: _=>none
def biEv:Bi -> List D -> R D
 | .len,[.str s]=>R.when (decide (s.length <= sizeLine)) (.ok (.int s.length))
 | .len,[.lst xs]=>.ok (.int xs.length)
 | .len,[.tup xs]=>.ok (.int xs.length)
 | .len,[.tupN xs]=>.ok (.int (xs.map D.str).length)
 | .list,[.tupN xs]=>.ok (.lst (xs.map D.str))
 | .tupN,[.lst xs]=>(R.of (strs' xs)).bind fun ss=>.ok (.tupN ss)
 | .len,[.dK xs]=>.ok (.int xs.length)
 | .len,[.dT xs]=>.ok (.int xs.length)
 | .max2,[.int m,.int n]=>.ok (.int (if n > m then n else m))
 | .min2,[.int m,.int n]=>.ok (.int (if n < m then n else m))
 | .maxl,[.lst xs]=>dMaxL maxI xs
 | .maxl,[.tup xs]=>dMaxL maxI xs
 | .minl,[.lst xs]=>dMaxL minI xs
 | .minl,[.tup xs]=>dMaxL minI xs
 | .sum,[.lst xs]=>(R.of (intsD xs)).bind fun ns=>.ok (.int ns.sum)
 | .int,[.int i]=>.ok (.int i)
 | .int,[.bl b]=>.ok (.int (if b then 1 else 0))
 | .int,[.str s]=>R.when (decide (s.length <= 640)) ((R.of (PySem.intText? s)).bind fun n=>.ok (.int n))
 | .str,[.int i]=>R.when (decide (i.natAbs.log2 < 1920)) (.ok (.str (Str.ofString (toString i))))
 | .list,[.lst xs]=>.ok (.lst xs)
 | .list,[.tup xs]=>.ok (.lst xs)
 | .tuple,[.lst xs]=>.ok (.tup xs)
 | .tuple,[.tup xs]=>.ok (.tup xs)
 | .dict,[.dK kvs]=>.ok (.dK kvs)
 | .dict,[.dT kvs]=>R.when (zgE (kvs.map (·.1))) (.ok (.dT kvs))
 | .dict,[.lst xs]=>(R.of (zdI xs)).bind fun kvs=>.ok (.dK (kvs.foldl (fun acc p=>put acc p.1 p.2) []))
 | .sorted,[.dT kvs]=>(sortD (kvs.map fun kv=>.tup (kv.1.map keyV))).bind fun r=>.ok (.lst r)
 | .sorted,[.lst xs]=>(sortD xs).bind fun r=>.ok (.lst r)
 | .any,[.lst xs]=>(R.of (bls xs)).bind fun bs=>.ok (.bl (bs.any id))
 | .all,[.lst xs]=>(R.of (bls xs)).bind fun bs=>.ok (.bl (bs.all id))
 | _,_=>.bad
inductive Me where | join | split | index | get2 | get1 | indexT
 deriving DecidableEq
def zd7 (d:D):List D -> Nat -> Option Nat
 | [],_=>none
 | x :: xs,n=>if PyData.eqv x.py d.py then some n else zd7 d xs (n+1)
def zeJ (z:Str):List Str -> Nat -> Option Nat
 | [],_=>none
 | y :: ys,n=>if y=z then some n else zeJ z ys (n+1)
def meEv:Me -> D -> List D -> R D
 | .indexT,.tupN ys,[.str z]=>(R.of (zeJ z ys 0)).bind fun n=>.ok (.int n)
 | .join,.str a,[.lst xs]=>(R.of (strs' xs)).bind fun ys=>R.when (decide ((ys.map (·.length)).sum+ys.length * a.length <= 16777216)) (.ok (.str (Txt.join a ys)))
 | .split,.str a,[.str b]=>R.when (decide (b.length ≠ 0) && decide (a.length+2 <= sizeLine)) (.ok (.lst ((Txt.split a b).map .str)))
 | .index,.lst xs,[d]=>R.when (d.shaped && D.shaped (.lst xs)) ((R.of (zd7 d xs 0)).bind fun n=>.ok (.int n))
 | .get2,.dK kvs,[k,d]=>(dLook (.dK kvs) k).bind fun o=>.ok (o.getD d)
 | .get2,.dT kvs,[k,d]=>(dLook (.dT kvs) k).bind fun o=>.ok (o.getD d)
 | .get1,.dK kvs,[k]=>(dLook (.dK kvs) k).bind fun o=>.ok (o.getD .non)
 | .get1,.dT kvs,[k]=>(dLook (.dT kvs) k).bind fun o=>.ok (o.getD .non)
 | _,_,_=>.bad
def meOk:Me -> D -> Bool
 | .join,.str _=>true | .split,.str _=>true | .index,.lst _=>true | .indexT,.tupN _=>true
 | .get2,.dK _=>true | .get2,.dT _=>true | .get1,.dK _=>true | .get1,.dT _=>true
 | _,_=>false
inductive Ty where | int | bool | str | tuple | list | dict
 deriving DecidableEq
def Ty.nm:Ty -> String
 | .int=>"int" | .bool=>"bool" | .str=>"str" | .tuple=>"tuple" | .list=>"list" | .dict=>"dict"
def tyD:D -> String
 | .non=>"NoneType" | .bl _=>"bool" | .int _=>"int" | .str _=>"str" | .tup _=>"tuple" | .lst _=>"list" | .dK _=>"dict" | .dT _=>"dict" | .exc _=>"" | .tupN _=>"tuple"
def isiT (a:String) (t:Ty):Bool:=a == t.nm || (a == "bool" && t == .int)
def isiD (d:D) (ts:List Ty):R Bool:=match d with
 | .exc _=>.bad | .dT _=>.bad | .tupN _=>.bad
 | d=>.ok (ts.any fun t=>isiT (tyD d) t)
inductive Tg where
 | one (i:Nat) | many (is:List Nat)
mutual
inductive E where
 | var (i:Nat) | glob (x:Str)
 | int (n:Int) | str (s:Str) | bl (b:Bool) | non
 | bin (op:BOp) (a b:E) | neg (a:E) | not (a:E)
 | cmp (op:COp) (a b:E) | chain (o p:COp) (a b c:E)
 | and (es:Es) | or (es:Es)
 | tup (es:Es) | lst (es:Es) | dnewK | dnewT | disp1 (t:Bool) (k v:E) | rep (a k:E)
 | idx (a i:E) | slcA (a:E) | slcL (a lo:E) | slcH (a hi:E) | slcB (a lo hi:E)
 | call (f:Str) (args:Es) (im:Bool)
 | bi (b:Bi) (args:Es) | me (m:Me) (o:E) (args:Es)
 | isi (a:E) (t:Ty) | isiL (a:E) (ts:List Ty)
 | lrev (a:E) | revL (a:E) | stpL (a:E) (lo k:Nat) | valsL (a:E) | maxD (a:E) (c:Int) | stpB (a lo:E) (hi k:Nat) | itemsL (a:E) | zipL (a b:E) | inR (neg:Bool) (a b:E) | chain3 (o p q:COp) (a b c d:E) | eqD (ne:Bool) (i j:Nat) | inG (neg:Bool) (a:E) (g:Str) (ss:List Str) | dispN (ks:List Str) (es:Es)
 | lc (elt:E) (tg:Tg) (it:It) (own:List Nat) | lcIf (elt:E) (tg:Tg) (it:It) (cond:E) (own:List Nat)
inductive Es where
 | nil | cons (e:E) (es:Es)
inductive It where
 | seq (e:E) | range1 (a:E) | range2 (a b:E) | range3 (a b:E) (c:Int)
 | zip2 (a b:E) | zip3 (a b c:E) | enum (a:E) | keys (a:E) | items (a:E) | sorted (a:E) | rev (a:E)
end
mutual
inductive Xp where
 | pure (e:E) | call (f:Str) (args:Es) (k p:Nat) | callF (f:Str) (args:Es) (k:Nat) | callP (f:Str) (args:Xps) (im:Bool)
 | tup (xs:Xps) | tupOf (x:Xp) | lc (x:Xp) (tg:Tg) (it:It) (own:List Nat) (p:Nat) | bin (op:BOp) (a:Xp) (b:E)
 | setd (p:Nat) (k v:E) | cmpX (op:COp) (a:Xp) (b:E)
inductive Xps where
 | nil | cons (x:Xp) (r:Xps)
end
inductive HE where
 | non | bl (b:Bool) | int (n:Int) | var (i:Nat) | is1 (x:Str) | isN (xs:List Str)
 | not (a:HE) | and (a b:HE) | or (a b:HE) | lst (xs:List Str) | add (i:Nat) (xs:List Str)
inductive Gd where
 | ifF (e:E) | forF (k lo n:Nat) (e:E) | asgI (y:Nat) (e:E)
inductive Ap where
 | one (j:Nat) (c:Int) | all (k lo n:Nat) (c:Int) | clr (x k:Nat)
def apX:Ap -> Nat
 | .one _ _=>0 | .all k _ _ _=>k | .clr x _=>x
mutual
inductive S where
 | asg (i:Nat) (e:E) | asgT (is:List Nat) (e:E) | par (is:List Nat) (es:Es)
 | setI (i:Nat) (ix e:E) | setI2 (i:Nat) (ix iy e:E)
 | append (i:Nat) (e:E) | insert (i:Nat) (a e:E) | pop (i:Nat) | clear (i:Nat)
 | expr (e:E) | ifs (c:E) (a b:Ss) | whl (c:E) (b:Ss) | for (t:Tg) (it:It) (b:Ss)
 | ret (e:E) | brk | cont | pass | raise (c:Str) | raise0 | try0 (b:Ss) | forK (t:Tg) (i:Nat) (im:Bool) (b:Ss)
 | appC (e x:E)
 | asgL (i:Nat) (elt:E) (tg:Tg) (it:It) (own:List Nat)
 | xasg (i:Nat) (x:Xp) | xasgT (is:List Nat) (x:Xp) | xret (x:Xp)
 | xapp (i:Nat) (x:Xp) | xif (neg:Bool) (x:Xp) (a b:Ss)
 | tryX (j:Option Nat) (e:E) (x:Str) (o:Option Nat) (hs:List (Nat × HE)) (re:Option Str)
inductive Ss where
 | nil | cons (s:S) (r:Ss)
 /-- no statement: what is not kept is forgotten -/
 | reb (ks:List Nat) (r:Ss)
 /-- i=[{},{}]; for k in it: x=ex; i[ix][x]=val -/
 | two (i k x:Nat) (it:It) (ex ix val:E) (r:Ss)
 /-- i=f(..),looks,and a change of the answer's own lists -/
 | yng (i:Nat) (f:Str) (args:Es) (gs:List Gd) (ap:Ap) (r:Ss)
end
abbrev Env:=List (Option D)
abbrev Fn:=Str -> List D -> R (D × List D)
def getV (ρ:Env) (i:Nat):R D:=match ρ[i]? with
 | some (some d)=>.ok d
 | _=>.bad
def zar:List Nat -> List D -> Env -> Env
 | i :: is,d :: ds,ρ=>zar is ds (ρ.set i (some d))
 | _,_,ρ=>ρ
def setT:Tg -> D -> Env -> R Env
 | .one i,d,ρ=>.ok (ρ.set i (some d))
 | .many is,.tup ds,ρ=>R.when (is.length == ds.length) (.ok (zar is ds ρ))
 | .many is,.lst ds,ρ=>R.when (is.length == ds.length) (.ok (zar is ds ρ))
 | .many _,_,_=>.bad
def wipeD (ρ:Env):List Nat -> Env
 | []=>ρ
 | v :: vs=>(wipeD ρ vs).set v none
def zaq (lo:Int) (n:Nat):List D:=(List.range n).map fun i=>.int (lo+(i:Nat))
def zda (lo c:Int) (n:Nat):List D:=(List.range n).map fun i=>.int (lo+(i:Nat) * c)
def rngOk (i:Int):Bool:=decide (-(2 ^ 62) <= i) && decide (i < 2 ^ 62)
def rgcOk (lo hi c:Int):Bool:=decide (c ≠ 0) && decide (c.natAbs < 1073741824) && Builtin.Range.small lo hi c && decide (0 <= Builtin.Range.rangeSize lo hi c)
def zipD:List D -> List D -> List D
 | x :: xs,y :: ys=>.tup [x,y] :: zipD xs ys
 | _,_=>[]
def zip3D:List D -> List D -> List D -> List D
 | x :: xs,y :: ys,z :: zs=>.tup [x,y,z] :: zip3D xs ys zs
 | _,_,_=>[]
def enumD:Nat -> List D -> List D
 | _,[]=>[] | n,x :: xs=>.tup [.int n,x] :: enumD (n+1) xs
def seqD:D -> R (List D)
 | .lst xs=>.ok xs | .tup xs=>.ok xs | .tupN xs=>.ok (xs.map D.str)
 | .str s=>.ok (s.cps.toList.map fun c=>.str ⟨#[c]⟩)
 | _=>.bad
def ltsD:D -> R (List D)
 | .lst xs=>.ok xs | .tup xs=>.ok xs | _=>.bad
def lstD:D -> R (List D)
 | .lst xs=>.ok xs | _=>.bad
def zip2D (x y:D):R (List D):=(ltsD x).bind fun xs=>(ltsD y).bind fun ys=>.ok (zipD xs ys)
def zcR:D -> R (List D)
 | .dK kvs=>.ok (kvs.map fun kv=>keyV kv.1)
 | .dT kvs=>.ok (kvs.map fun kv=>.tup (kv.1.map keyV))
 | _=>.bad
def ziD:D -> R (List D)
 | .dK kvs=>.ok (kvs.map (·.2)) | _=>.bad
def zeK:D -> R (List D)
 | .dK kvs=>.ok (kvs.map fun kv=>.tup [keyV kv.1,kv.2])
 | _=>.bad
def zoL:D -> R (List D)
 | .dK kvs=>.ok (kvs.map fun kv=>.tup [keyV kv.1,kv.2])
 | .dT kvs=>.ok (kvs.map fun kv=>.tup [.tup (kv.1.map keyV),kv.2])
 | _=>.bad
def ziE:D -> R (List D)
 | .dT kvs=>.ok (kvs.map fun kv=>.tup [.tup (kv.1.map keyV),kv.2])
 | _=>.bad
def zlS:D -> R (List D)
 | .dT kvs=>sortD (kvs.map fun kv=>.tup (kv.1.map keyV))
 | .lst xs=>sortD xs
 | _=>.bad
def lcL (tg:Tg) (body:Env -> R (Option D)) (ρ:Env):List D -> R (List D)
 | []=>.ok []
 | x :: xs=>(setT tg x ρ).bind fun ρ1=>(body ρ1).bind fun o=>(lcL tg body ρ xs).bind fun r=>.ok (o.toList ++ r)
section
variable (G:Str -> Option D) (F:Fn)
mutual
def evE:E -> Env -> R D
 | .var i,ρ=>getV ρ i
 | .glob x,_=>R.of (G x)
 | .int n,_=>.ok (.int n)
 | .str s,_=>.ok (.str s)
 | .bl b,_=>.ok (.bl b)
 | .non,_=>.ok .non
 | .bin op a b,ρ=>(evE a ρ).bind fun x=>(evE b ρ).bind fun y=>dBin op x y
 | .neg a,ρ=>(evE a ρ).bind fun x=>dNeg x
 | .not a,ρ=>(evE a ρ).bind fun x=>(zac x).bind fun b=>.ok (.bl (!b))
 | .cmp op a b,ρ=>(evE a ρ).bind fun x=>(evE b ρ).bind fun y=>(dCmp op x y).bind fun c=>.ok (.bl c)
 | .chain o p a b c,ρ=>(evE a ρ).bind fun x=>(evE b ρ).bind fun y=>(dCmp o x y).bind fun k =>
   if k=true then (evE c ρ).bind fun z=>(dCmp p y z).bind fun k=>.ok (.bl k) else .ok (.bl false)
 | .and es,ρ=>evAnd es ρ
 | .or es,ρ=>evOr es ρ
 | .tup es,ρ=>(evEs es ρ).bind fun x=>R.when (decide (x.length <= sizeLine)) (.ok (.tup x))
 | .lst es,ρ=>(evEs es ρ).bind fun x=>R.when (decide (x.length <= sizeLine)) (.ok (.lst x))
 | .rep a k,ρ=>(evE a ρ).bind fun x=>(evE k ρ).bind fun y=>dRep x y
 | .dnewK,_=>.ok (.dK [])
 | .dnewT,_=>.ok (.dT [])
 | .disp1 t k v,ρ=>(evE k ρ).bind fun x=>(evE v ρ).bind fun y=>dDisp t x y
 | .idx a i,ρ=>(evE a ρ).bind fun x=>(evE i ρ).bind fun y=>dIdx x y
 | .slcA a,ρ=>(evE a ρ).bind fun x=>zaH x none none
 | .slcL a lo,ρ=>(evE a ρ).bind fun x=>(evE lo ρ).bind fun y=>(dInt y).bind fun i=>zaH x (some i) none
 | .slcH a hi,ρ=>(evE a ρ).bind fun x=>(evE hi ρ).bind fun y=>(dInt y).bind fun i=>zaH x none (some i)
 | .slcB a lo hi,ρ=>(evE a ρ).bind fun x=>(evE lo ρ).bind fun y=>(dInt y).bind fun i=>(evE hi ρ).bind fun z=>(dInt z).bind fun j=>zaH x (some i) (some j)
 | .call f args im,ρ=>(evEs args ρ).bind fun x=>(F f x).bind fun r=>R.when (r.2.isEmpty && (!im || r.1.imm)) (.ok r.1)
 | .bi b args,ρ=>(evEs args ρ).bind fun x=>biEv b x
 | .me m o args,ρ=>(evE o ρ).bind fun x=>R.when (meOk m x) ((evEs args ρ).bind fun y=>meEv m x y)
 | .lrev a,ρ=>(evE a ρ).bind fun x=>(lstD x).bind fun xs=>.ok (.lst xs.reverse)
 | .revL a,ρ=>(evE a ρ).bind fun x=>(lstD x).bind fun xs=>.ok (.lst xs.reverse)
 | .stpL a lo k,ρ=>(evE a ρ).bind fun x=>(lstD x).bind fun xs=>.ok (.lst (pickL xs lo k))
 | .valsL a,ρ=>(evE a ρ).bind fun x=>(ziD x).bind fun xs=>.ok (.lst xs)
 | .maxD a c,ρ=>(evE a ρ).bind fun x=>(lstD x).bind fun xs=>(R.of (intsD xs)).bind fun ns=>.ok (.int (maxDI c ns))
 | .stpB a lo hi k,ρ=>(evE a ρ).bind fun x=>(lstD x).bind fun xs=>(evE lo ρ).bind fun y=>(dInt y).bind fun i=>.ok (.lst (pickB xs i hi k))
 | .itemsL a,ρ=>(evE a ρ).bind fun x=>(ziE x).bind fun xs=>.ok (.lst xs)
 | .zipL a b,ρ=>(evE a ρ).bind fun x=>(evE b ρ).bind fun y=>(zip2D x y).bind fun zs=>R.when (decide (zs.length <= sizeLine)) (.ok (.lst zs))
 | .inR neg a b,ρ=>(evE a ρ).bind fun x=>(evE b ρ).bind fun y=>(dInt x).bind fun i=>(dInt y).bind fun j=>R.when (rngOk j) (.ok (.bl (if neg=true then !(decide (0 <= i) && decide (i < j)) else decide (0 <= i) && decide (i < j))))
 | .chain3 o p q a b c d,ρ=>(evE a ρ).bind fun x=>(evE b ρ).bind fun y=>(dCmp o x y).bind fun k =>
   if k=true then (evE c ρ).bind fun z=>(dCmp p y z).bind fun k=>(if k=true then (evE d ρ).bind fun w=>(dCmp q z w).bind fun k=>.ok (.bl k) else .ok (.bl false)) else .ok (.bl false)
 | .eqD ne i j,ρ=>(getV ρ i).bind fun x=>(getV ρ j).bind fun y=>(dEqD x y).bind fun c=>.ok (.bl (if ne=true then !c else c))
 | .inG neg a _ ss,ρ=>(evE a ρ).bind fun x=>R.when (flatD x) (.ok (.bl (if neg=true then !(ss.any fun z=>PyData.eqv (.str z) x.py) else ss.any fun z=>PyData.eqv (.str z) x.py)))
 | .dispN ks es,ρ=>(evEs es ρ).bind fun xs=>R.when (decide (xs.length=ks.length)) (.ok (.dK ((ks.zip xs).map fun p=>(.inr p.1,p.2))))
 | .isi a t,ρ=>(evE a ρ).bind fun x=>(isiD x [t]).bind fun b=>.ok (.bl b)
 | .isiL a ts,ρ=>(evE a ρ).bind fun x=>(isiD x ts).bind fun b=>.ok (.bl b)
 | .lc elt tg it own,ρ=>(evI it ρ).bind fun xs =>
   (R.nox (lcL tg (fun ρ=>(evE elt ρ).bind fun y=>.ok (some y)) (wipeD ρ own) xs)).bind fun r=>R.when (decide (r.length <= sizeLine)) (.ok (.lst r))
 | .lcIf elt tg it cond own,ρ=>(evI it ρ).bind fun xs =>
   (R.nox (lcL tg (fun ρ=>(evE cond ρ).bind fun c=>(zac c).bind fun b=>if b=true then (evE elt ρ).bind fun y=>.ok (some y) else .ok none) (wipeD ρ own) xs)).bind fun r=>R.when (decide (r.length <= sizeLine)) (.ok (.lst r))
def evAnd:Es -> Env -> R D
 | .nil,_=>.bad
 | .cons e .nil,ρ=>evE e ρ
 | .cons e (.cons f r),ρ=>(evE e ρ).bind fun x=>(zac x).bind fun c=>if c=true then evAnd (.cons f r) ρ else .ok x
def evOr:Es -> Env -> R D
 | .nil,_=>.bad
 | .cons e .nil,ρ=>evE e ρ
 | .cons e (.cons f r),ρ=>(evE e ρ).bind fun x=>(zac x).bind fun c=>if c=true then .ok x else evOr (.cons f r) ρ
def evEs:Es -> Env -> R (List D)
 | .nil,_=>.ok []
 | .cons e es,ρ=>(evE e ρ).bind fun x=>(evEs es ρ).bind fun y=>.ok (x :: y)
def evI:It -> Env -> R (List D)
 | .seq e,ρ=>(evE e ρ).bind fun x=>seqD x
 | .range1 a,ρ=>(evE a ρ).bind fun x=>(dInt x).bind fun j=>R.when (rngOk j) (.ok (zaq 0 j.toNat))
 | .range2 a b,ρ=>(evE a ρ).bind fun x=>(evE b ρ).bind fun y=>(dInt x).bind fun i=>(dInt y).bind fun j=>R.when (rngOk i && rngOk j) (.ok (zaq i (j - i).toNat))
 | .range3 a b c,ρ=>(evE a ρ).bind fun x=>(evE b ρ).bind fun y=>(dInt x).bind fun i=>(dInt y).bind fun j=>R.when (rgcOk i j c) (.ok (zda i c (Builtin.Range.rangeSize i j c).toNat))
 | .zip2 a b,ρ=>(evE a ρ).bind fun x=>(evE b ρ).bind fun y=>zip2D x y
 | .zip3 a b c,ρ=>(evE a ρ).bind fun x=>(evE b ρ).bind fun y=>(evE c ρ).bind fun z=>(ltsD x).bind fun xs=>(ltsD y).bind fun ys=>(ltsD z).bind fun zs=>.ok (zip3D xs ys zs)
 | .enum a,ρ=>(evE a ρ).bind fun x=>(ltsD x).bind fun xs=>.ok (enumD 0 xs)
 | .keys a,ρ=>(evE a ρ).bind fun x=>zcR x
 | .items a,ρ=>(evE a ρ).bind fun x=>zoL x
 | .sorted a,ρ=>(evE a ρ).bind fun x=>zlS x
 | .rev a,ρ=>(evE a ρ).bind fun x=>(ltsD x).bind fun xs=>.ok xs.reverse
end
def getO (ρ:Env) (i:Nat):Option D:=(ρ[i]?).getD none
def mutAt (ρ:Env) (i:Nat):Bool:=match getO ρ i with
 | some d=>d.mut | none=>false
def zbY (ρ ρ2:Env) (p:Nat):Env:=if mutAt ρ p && mutAt ρ2 p then ρ.set p (getO ρ2 p) else ρ
def lcX (tg:Tg) (own:List Nat) (p:Nat) (body:Env -> R (D × Env)):List D -> Env -> R (List D × Env)
 | [],ρ=>.ok ([],ρ)
 | x :: xs,ρ=>(setT tg x (wipeD ρ own)).bind fun ρ1=>(body ρ1).bind fun q=>(lcX tg own p body xs (zbY ρ q.2 p)).bind fun r=>.ok (q.1 :: r.1,r.2)
def ioR (ρ:Env) (p:Nat) (r:D × List D):R (D × Env):=match r.2 with
 | [o]=>R.when (o.mut && mutAt ρ p) (.ok (r.1,ρ.set p (some o)))
 | _=>.bad
def ioF (ρ:Env) (m:Bool) (r:D × List D):R (D × Env):=match r.2 with
 | [_]=>R.when m (.ok (r.1,ρ))
 | _=>.bad
def mutK (ds:List D) (k:Nat):Bool:=match ds[k]? with
 | some d=>d.mut | none=>false
def dSet:D -> D -> D -> R D
 | .lst xs,.int i,d=>(R.of (ixN xs.length i)).bind fun j=>.ok (.lst (xs.set j d))
 | .dK kvs,k,d=>R.when (decide (kvs.length < sizeLine)) ((R.of (keyD k)).bind fun k=>.ok (.dK (put kvs k d)))
 | .dT kvs,.tup ks,d=>R.when (decide (kvs.length < sizeLine)) ((R.of (keysD ks)).bind fun k=>.ok (.dT (put kvs k d)))
 | _,_,_=>.bad
def setdD:D -> D -> D -> R (D × D)
 | .dT kvs,.tup ks,y=>R.when (decide (kvs.length < sizeLine)) ((R.of (keysD ks)).bind fun k=>match look kvs k with
  | some d=>.ok (d,.dT kvs)
  | none=>.ok (y,.dT (put kvs k y)))
 | _,_,_=>.bad
mutual
def evX:Xp -> Env -> R (D × Env)
 | .pure e,ρ=>(evE G F e ρ).bind fun d=>.ok (d,ρ)
 | .call f args _ p,ρ=>(evEs G F args ρ).bind fun ds=>(F f ds).bind fun r=>ioR ρ p r
 | .callF f args k,ρ=>(evEs G F args ρ).bind fun ds=>(F f ds).bind fun r=>ioF ρ (mutK ds k) r
 | .callP f args im,ρ=>(evXs args ρ).bind fun q=>(F f q.1).bind fun r=>R.when (r.2.isEmpty && (!im || r.1.imm)) (.ok (r.1,q.2))
 | .tup xs,ρ=>(evXs xs ρ).bind fun q=>R.when (decide (q.1.length <= sizeLine)) (.ok (.tup q.1,q.2))
 | .tupOf x,ρ=>(evX x ρ).bind fun q=>(lstD q.1).bind fun xs=>.ok (.tup xs,q.2)
 | .lc x tg it own p,ρ=>(evI G F it ρ).bind fun xs=>(lcX tg own p (evX x) xs ρ).bind fun q=>R.when (decide (q.1.length <= sizeLine)) (.ok (.lst q.1,q.2))
 | .bin op a b,ρ=>(evX a ρ).bind fun q=>(evE G F b q.2).bind fun y=>(dBin op q.1 y).bind fun d=>.ok (d,q.2)
 | .setd p k v,ρ=>(getV ρ p).bind fun o=>(evE G F k ρ).bind fun x=>(evE G F v ρ).bind fun y=>(setdD o x y).bind fun w=>R.when (w.2.mut && mutAt ρ p) (.ok (w.1,ρ.set p (some w.2)))
 | .cmpX op a b,ρ=>(evX a ρ).bind fun q=>(evE G F b q.2).bind fun y=>(dCmp op q.1 y).bind fun d=>.ok (.bl d,q.2)
def evXs:Xps -> Env -> R (List D × Env)
 | .nil,ρ=>.ok ([],ρ)
 | .cons x r,ρ=>(evX x ρ).bind fun q=>(evXs r q.2).bind fun w=>.ok (q.1 :: w.1,w.2)
end
def evL (elt:E) (tg:Tg) (it:It) (own:List Nat) (ρ:Env):R D:=(evI G F it ρ).bind fun xs=>R.when (decide (xs.length <= sizeLine)) ((lcL tg (fun ρ=>(evE G F elt ρ).bind fun y=>.ok (some y)) (wipeD ρ own) xs).bind fun r=>.ok (.lst r))
inductive Fl where | next | brk | cont | ret (d:D)
def zam (tg:Tg) (body:Env -> R (Fl × Env)):List D -> Env -> R (Fl × Env)
 | [],ρ=>.ok (.next,ρ)
 | x :: xs,ρ=>(setT tg x ρ).bind fun ρ1=>(body ρ1).bind fun p=>match p.1 with
  | .next=>zam tg body xs p.2
  | .cont=>zam tg body xs p.2
  | .brk=>.ok (.next,p.2)
  | .ret d=>.ok (.ret d,p.2)
def zaE (c:Env -> R Bool) (body:Env -> R (Fl × Env)):Nat -> Env -> R (Fl × Env)
 | 0,_=>.bad
 | n+1,ρ=>(c ρ).bind fun b=>if b=true then (body ρ).bind fun p=>(match p.1 with
   | .next=>zaE c body n p.2
   | .cont=>zaE c body n p.2
   | .brk=>.ok (.next,p.2)
   | .ret d=>.ok (.ret d,p.2)) else .ok (.next,ρ)
def subC (c x:Str):Bool:=c == x || x == "ChiefError" || x == "ValueError"
def heEv (c:Str) (ρ:Env):HE -> R D
 | .non=>.ok .non | .bl b=>.ok (.bl b) | .int n=>.ok (.int n) | .var i=>getV ρ i
 | .is1 x=>.ok (.bl (subC c x)) | .isN xs=>.ok (.bl (xs.any (subC c)))
 | .not a=>(heEv c ρ a).bind fun x=>(zac x).bind fun b=>.ok (.bl (!b))
 | .and a b=>(heEv c ρ a).bind fun x=>(zac x).bind fun k=>if k=true then heEv c ρ b else .ok x
 | .or a b=>(heEv c ρ a).bind fun x=>(zac x).bind fun k=>if k=true then .ok x else heEv c ρ b
 | .lst xs=>R.when (decide (xs.length <= sizeLine)) (.ok (.lst (xs.map fun x=>.bl (subC c x))))
 | .add i xs=>(getV ρ i).bind fun o=>R.when (decide (xs.length <= sizeLine)) (dAdd o (.lst (xs.map fun x=>.bl (subC c x))))
def hsEv (c:Str):List (Nat × HE) -> Env -> R Env
 | [],ρ=>.ok ρ
 | (k,h) :: r,ρ=>(heEv c ρ h).bind fun d=>hsEv c r (ρ.set k (some d))
def unset (ρ:Env):Option Nat -> Env
 | none=>ρ | some i=>ρ.set i none
def setO (ρ:Env) (d:D):Option Nat -> Env
 | none=>ρ | some i=>ρ.set i (some d)
def tryR (ρ:Env) (j:Option Nat) (x:Str) (o:Option Nat) (hs:List (Nat × HE)) (re:Option Str):R D -> R (Fl × Env)
 | .ok d=>.ok (.next,setO ρ d j)
 | .exc c=>if subC c x=true then (match re with
   | some c'=>.exc c'
   | none=>(hsEv c hs (unset ρ o)).bind fun ρ1=>.ok (.next,unset ρ1 o)) else .exc c
 | .bad=>.bad
def evT (c:E) (ρ:Env):R Bool:=(evE G F c ρ).bind fun x=>zac x
def forgD (p:Nat -> D -> Bool):Nat -> Env -> Env
 | _,[]=>[]
 | n,o :: ρ=>(match o with | some d=>if p n d=true then some d else none | none=>none) :: forgD p (n+1) ρ
def keyT:D -> R (List Key)
 | .tup ks=>R.of (keysD ks) | _=>.bad
def ziF (j:D) (key:List Key) (v:D) (q:List (List Key × D) × List (List Key × D)):R (List (List Key × D) × List (List Key × D)):=match j with
 | .int j=>if j=0 then R.when (decide (q.1.length < sizeLine)) (.ok (put q.1 key v,q.2)) else if j=1 then R.when (decide (q.2.length < sizeLine)) (.ok (q.1,put q.2 key v)) else .bad
 | _=>.bad
def twoL (k x:Nat) (ex ix val:E):List D -> Env -> List (List Key × D) × List (List Key × D) -> R (Env × List (List Key × D) × List (List Key × D))
 | [],ρ,q=>.ok (ρ,q)
 | d :: ds,ρ,q=>R.when d.imm ((evE G F ex (ρ.set k (some d))).bind fun y=>R.when y.imm ((evE G F val ((ρ.set k (some d)).set x (some y))).bind fun v=>R.when v.imm ((evE G F ix ((ρ.set k (some d)).set x (some y))).bind fun j=>(keyT y).bind fun key=>(ziF j key v q).bind fun q=>twoL k x ex ix val ds ((ρ.set k (some d)).set x (some y)) q)))
def forG (k:Nat) (e:E):List D -> Env -> R (Bool × Env)
 | [],ρ=>.ok (true,ρ)
 | d :: ds,ρ=>(evT G F e (ρ.set k (some d))).bind fun b=>if b=true then .ok (false,ρ.set k (some d)) else forG k e ds (ρ.set k (some d))
def gdsEv:List Gd -> Env -> R (Bool × Env)
 | [],ρ=>.ok (true,ρ)
 | .ifF e :: gs,ρ=>(evT G F e ρ).bind fun b=>if b=true then .ok (false,ρ) else gdsEv gs ρ
 | .forF k lo n e :: gs,ρ=>(forG G F k e (zaq lo n) ρ).bind fun q=>if q.1=true then gdsEv gs q.2 else .ok q
 | .asgI y e :: gs,ρ=>(evE G F e ρ).bind fun d=>R.when d.imm (gdsEv gs (ρ.set y (some d)))
def lenOk:Option D -> Bool
 | some (.lst xs)=>decide (xs.length <= 1000000) | _=>false
def tupD:D -> R (List D)
 | .tup xs=>.ok xs | _=>.bad
def zeL:Option D -> Bool
 | some (.lst _)=>true | _=>false
def clrX (k:Nat):D -> R D
 | .tup ds=>R.when (zeL ds[k]? && D.imms (ds.set k .non)) (.ok (.tup (ds.set k (.lst []))))
 | _=>.bad
def clrL (k:Nat):List D -> R (List D)
 | []=>.ok []
 | d :: ds=>(clrX k d).bind fun x=>(clrL k ds).bind fun r=>.ok (x :: r)
def apEv (ap:Ap) (i:Nat) (d:D) (ρ:Env):R Env:=match ap with
 | .one j _=>(tupD d).bind fun xs=>R.when (lenOk xs[j]?) (.ok (ρ.set i none))
 | .all k lo n _=>(tupD d).bind fun xs=>R.when ((List.range n).all fun t=>lenOk xs[lo+t]?) (.ok ((ρ.set k none).set i none))
 | .clr x k=>(lstD d).bind fun xs=>(clrL k xs).bind fun ys=>.ok ((ρ.set x none).set i (some (.lst ys)))
def fltI:D -> Bool
 | .lst xs=>D.imms xs | d=>d.imm
variable (wf:Nat)
mutual
def evS:S -> Env -> R (Fl × Env)
 | .asg i e,ρ=>(evE G F e ρ).bind fun x=>.ok (.next,ρ.set i (some x))
 | .asgL i elt tg it own,ρ=>(evL G F elt tg it own ρ).bind fun x=>.ok (.next,ρ.set i (some x))
 | .asgT is e,ρ=>(evE G F e ρ).bind fun x=>(setT (.many is) x ρ).bind fun ρ=>.ok (.next,ρ)
 | .par is es,ρ=>(evEs G F es ρ).bind fun x=>R.when (is.length == x.length) (.ok (.next,zar is x ρ))
 | .setI i ix e,ρ=>(evE G F e ρ).bind fun x=>(getV ρ i).bind fun o=>(evE G F ix ρ).bind fun k=>(dSet o k x).bind fun d=>.ok (.next,ρ.set i (some d))
 | .setI2 i ix iy e,ρ=>(evE G F e ρ).bind fun x=>(getV ρ i).bind fun o=>(evE G F ix ρ).bind fun k=>(evE G F iy ρ).bind fun l=>(dIdx o k).bind fun o2=>(dSet o2 l x).bind fun d2=>(dSet o k d2).bind fun d=>.ok (.next,ρ.set i (some d))
 | .append i e,ρ=>(getV ρ i).bind fun o=>match o with
  | .lst xs=>(evE G F e ρ).bind fun x=>R.when (decide (xs.length < sizeLine)) (.ok (.next,ρ.set i (some (.lst (xs ++ [x])))))
  | _=>.bad
 | .insert i a e,ρ=>(getV ρ i).bind fun o=>match o with
  | .lst xs=>(evE G F a ρ).bind fun k=>(evE G F e ρ).bind fun x=>(dInt k).bind fun n=>R.when (decide (xs.length < sizeLine) && decide (0 <= n) && decide (n < 2 ^ 63)) (.ok (.next,ρ.set i (some (.lst (xs.take n.toNat ++ [x] ++ xs.drop n.toNat)))))
  | _=>.bad
 | .pop i,ρ=>(getV ρ i).bind fun o=>match o with
  | .lst xs=>R.when (!xs.isEmpty) (.ok (.next,ρ.set i (some (.lst xs.dropLast))))
  | _=>.bad
 | .clear i,ρ=>(getV ρ i).bind fun o=>match o with
  | .lst _=>.ok (.next,ρ.set i (some (.lst [])))
  | _=>.bad
 | .expr e,ρ=>(evE G F e ρ).bind fun _=>.ok (.next,ρ)
 | .ifs c a b,ρ=>(evT G F c ρ).bind fun x=>if x=true then evSs a ρ else evSs b ρ
 | .whl c b,ρ=>zaE (evT G F c) (evSs b) wf ρ
 | .for t it b,ρ=>(evI G F it ρ).bind fun xs=>zam t (evSs b) xs ρ
 | .ret e,ρ=>(evE G F e ρ).bind fun x=>.ok (.ret x,ρ)
 | .brk,ρ=>.ok (.brk,ρ)
 | .cont,ρ=>.ok (.cont,ρ)
 | .pass,ρ=>.ok (.next,ρ)
 | .raise c,_=>.exc c
 | .raise0,_=>.bad
 | .try0 b,ρ=>R.nox (evSs b ρ)
 | .forK t i im b,ρ=>(getV ρ i).bind fun x=>(if im=true then zeK x else zcR x).bind fun xs=>R.nox (zam t (evSs b) xs ρ)
 | .appC e x,ρ=>(evE G F e ρ).bind fun o=>(lstD o).bind fun xs=>(evE G F x ρ).bind fun _=>R.when (decide (xs.length < sizeLine)) (.ok (.next,ρ))
 | .tryX j e x o hs re,ρ=>tryR ρ j x o hs re (evE G F e ρ)
 | .xasg i x,ρ=>(R.nox (evX G F x ρ)).bind fun q=>.ok (.next,q.2.set i (some q.1))
 | .xasgT is x,ρ=>(R.nox (evX G F x ρ)).bind fun q=>(setT (.many is) q.1 q.2).bind fun ρ=>.ok (.next,ρ)
 | .xret x,ρ=>(R.nox (evX G F x ρ)).bind fun q=>.ok (.ret q.1,q.2)
 | .xapp i x,ρ=>(getV ρ i).bind fun o0=>(lstD o0).bind fun _=>(R.nox (evX G F x ρ)).bind fun q=>(getV q.2 i).bind fun o=>(lstD o).bind fun xs=>R.when (decide (xs.length < sizeLine)) (.ok (.next,q.2.set i (some (.lst (xs ++ [q.1])))))
 | .xif neg x a b,ρ=>(R.nox (evX G F x ρ)).bind fun q=>(zac q.1).bind fun k=>if (k != neg)=true then evSs a q.2 else evSs b q.2
def evSs:Ss -> Env -> R (Fl × Env)
 | .nil,ρ=>.ok (.next,ρ)
 | .reb ks r,ρ=>evSs r (forgD (fun j d=>d.imm || ks.contains j && fltI d) 0 ρ)
 | .two i k x it ex ix val r,ρ=>R.when (decide (i < ρ.length /\ x < ρ.length)) ((evI G F it (((ρ.set i none).set k none).set x none)).bind fun xs=>(twoL G F k x ex ix val xs (((ρ.set i none).set k none).set x none) ([],[])).bind fun q=>evSs r (q.1.set i (some (.lst [.dT q.2.1,.dT q.2.2]))))
 | .yng i f args gs ap r,ρ=>R.when (decide (i < ρ.length) && decide (apX ap < ρ.length)) ((evEs G F args ρ).bind fun ds=>(F f ds).bind fun q=>R.when q.2.isEmpty ((gdsEv G F gs (ρ.set i (some q.1))).bind fun w=>if w.1=true then (apEv ap i q.1 w.2).bind fun ρ'=>evSs r ρ' else .ok (.ret (.bl false),w.2)))
 | .cons s r,ρ=>(evS s ρ).bind fun p=>match p.1 with
  | .next=>evSs r p.2
  | f=>.ok (f,p.2)
end
end
structure Def where
 name:Str
 ps:List Str
 N:List Str
 io:List Nat
 fresh:Bool
 body:Ss
def outs (ρ:Env) (is:List Nat):List D:=is.map fun i=>((ρ[i]?).getD none).getD .non
def endOf (io:List Nat):R (Fl × Env) -> R (D × List D)
 | .ok (.ret d,ρ)=>.ok (d,outs ρ io)
 | .ok (.next,ρ)=>.ok (.non,outs ρ io)
 | .ok (.brk,_)=>.bad
 | .ok (.cont,_)=>.bad
 | .exc c=>if io.isEmpty then .exc c else .bad
 | .bad=>.bad
def zaJ (n:Nat) (ds:List D):Env:=ds.map some ++ List.replicate (n - ds.length) none
def evF (G:Str -> Option D) (T:List Def) (wf:Nat):Nat -> Fn
 | 0,_,_=>.bad
 | n+1,f,ds=>match T.find? fun d=>d.name == f with
  | none=>.bad
  | some d=>if ds.length == d.ps.length then endOf d.io (evSs G (evF G T wf n) wf d.body (zaJ d.N.length ds)) else .bad
end L2.Pf
namespace L2.Pf
open PySem PySem.Spec PyProof.Rows
def mutO:HO -> Bool
 | .lst _=>true | .dK _=>true | .dT _=>true | _=>false
def tupO:HO -> Bool
 | .tup _=>true | .frz _ (.tup _)=>true | _=>false
theorem zb7 {u:HO} (h:tupO u=true) (m:mutO u=true):False:=by cases u <;> first | (cases m; done) | (cases h; done)
def KL (K:PySem.W.Frag) (a:Addr) (xs:List V):Prop :=
 ∃ (o:Obj) (its:Array Value) (n:Nat),K.lookup a=some o /\ o.cls=.type "list" /\ o.dict=none /\ o.data=.seq its n /\ its.size <= sizeLine /\ Vals xs its.toList
mutual
inductive Rep (K:PySem.W.Frag) (H:Hp) (P:Addr -> Prop):D -> V -> Prop
 | non:Rep K H P .non .non
 | bl (b:Bool):Rep K H P (.bl b) (.bl b)
 | int (i:Int):Rep K H P (.int i) (.int i)
 | str (s:Str):Rep K H P (.str s) (.str s)
 | tup {a:Addr} {vs:List V} {ds:List D} (h:H a=some (.tup vs)) (r:Reps K H P ds vs):Rep K H P (.tup ds) (.ref a)
 | tupN {a:Addr} {o:Obj} {ss:List Str} (h:H a=some (.frz o (.tup (ss.map V.str)))) (hd:o.dict=none):Rep K H P (.tupN ss) (.ref a)
 | lst {a:Addr} {vs:List V} {ds:List D} (h:Rd H a (.lst vs)) (p:P a) (r:Reps K H P ds vs):Rep K H P (.lst ds) (.ref a)
 | lstK {a:Addr} {vs:List V} {ds:List D} (h:KL K a vs) (r:Reps K H P ds vs):Rep K H P (.lst ds) (.ref a)
 | dK {a:Addr} {kvs:List (Key × D)} {ws:List (Key × V)} (h:Rd H a (.dK ws)) (p:P a) (k:kvs.map (·.1)=ws.map (·.1)) (r:Reps K H P (kvs.map (·.2)) (ws.map (·.2))):Rep K H P (.dK kvs) (.ref a)
 | dT {a:Addr} {kvs:List (List Key × D)} {ws:List (List Key × V)} (h:Rd H a (.dT ws)) (p:P a) (k:kvs.map (·.1)=ws.map (·.1)) (r:Reps K H P (kvs.map (·.2)) (ws.map (·.2))):Rep K H P (.dT kvs) (.ref a)
inductive Reps (K:PySem.W.Frag) (H:Hp) (P:Addr -> Prop):List D -> List V -> Prop
 | nil:Reps K H P [] []
 | cons {d:D} {v:V} {ds:List D} {vs:List V} (h:Rep K H P d v) (t:Reps K H P ds vs):Reps K H P (d :: ds) (v :: vs)
end
structure Le (P P':Addr -> Prop) (H H':Hp):Prop where
 tup:∀ a u,tupO u=true -> H a=some u -> H' a=some u
 rd:∀ a u,mutO u=true -> P a -> Rd H a u -> Rd H' a u
 imp:∀ a u,mutO u=true -> P a -> Rd H a u -> P' a
section
variable {K:PySem.W.Frag} {H H':Hp} {P P':Addr -> Prop}
mutual
theorem Rep.mono (l:Le P P' H H'):∀ {d:D} {v:V},Rep K H P d v -> Rep K H' P' d v
 | _,_,.non=>.non
 | _,_,.bl b=>.bl b
 | _,_,.int i=>.int i
 | _,_,.str s=>.str s
 | _,_,.tup h r=>.tup (l.tup _ _ rfl h) (Reps.mono l r)
 | _,_,.tupN h hd=>.tupN (l.tup _ _ rfl h) hd
 | _,_,.lst h p r=>.lst (l.rd _ _ rfl p h) (l.imp _ _ rfl p h) (Reps.mono l r)
 | _,_,.lstK h r=>.lstK h (Reps.mono l r)
 | _,_,.dK h p k r=>.dK (l.rd _ _ rfl p h) (l.imp _ _ rfl p h) k (Reps.mono l r)
 | _,_,.dT h p k r=>.dT (l.rd _ _ rfl p h) (l.imp _ _ rfl p h) k (Reps.mono l r)
theorem Reps.mono (l:Le P P' H H'):∀ {ds:List D} {vs:List V},Reps K H P ds vs -> Reps K H' P' ds vs
 | _,_,.nil=>.nil
 | _,_,.cons h t=>.cons (Rep.mono l h) (Reps.mono l t)
end
theorem Rep.weak (h:∀ a,P a -> P' a) {d:D} {v:V} (r:Rep K H P d v):Rep K H P' d v:=r.mono ⟨fun _ _ _ e=>e,fun _ _ _ _ e=>e,fun a _ _ p _=>h a p⟩
theorem Reps.weak (h:∀ a,P a -> P' a) {d:List D} {v:List V} (r:Reps K H P d v):Reps K H P' d v:=r.mono ⟨fun _ _ _ e=>e,fun _ _ _ _ e=>e,fun a _ _ p _=>h a p⟩
theorem zcw {a:Addr} {u:HO} (r:Rd H a u):∃ o,H a=some o:=by
 rcases r with r | ⟨o,r⟩
 ·exact ⟨_,r⟩
 ·exact ⟨_,r⟩
theorem zrs {p:Addr} {o:HO} (hp:H p=none):Le P (fun b=>P b /\ b ≠ p) H (upd H p o) :=
  ⟨fun a u _ e=>by rw [upd_ne (ne_of_none e hp)]; exact e,
   fun a u _ _ e=>by
    obtain ⟨o',e'⟩:=zcw e
    have ne:=ne_of_none e' hp
    rcases e with e | ⟨ob,e⟩
    · exact .inl (by rw [upd_ne ne]; exact e)
    · exact .inr ⟨ob,by rw [upd_ne ne]; exact e⟩,
   fun a u _ q e=>by
    obtain ⟨o',e'⟩:=zcw e
    exact ⟨q,ne_of_none e' hp⟩⟩
theorem Reps.length:∀ {ds:List D} {vs:List V},Reps K H P ds vs -> ds.length=vs.length
 | _,_,.nil=>rfl
 | _,_,.cons _ t=>by rw [List.length_cons,List.length_cons,Reps.length t]
theorem Reps.get:∀ {ds:List D} {vs:List V} {i:Nat} {d:D},Reps K H P ds vs -> ds[i]?=some d -> ∃ v,vs[i]?=some v /\ Rep K H P d v
 | _,_,_,_,.nil,e=>by simp at e
 | _,_,0,_,.cons h _,e=>by simp at e; subst e; exact ⟨_,rfl,h⟩
 | _,_,i+1,d,.cons _ t,e=>by
  obtain ⟨v,h1,h2⟩:=Reps.get (i:=i) t (by simpa using e)
  exact ⟨v,by simpa using h1,h2⟩
theorem Reps.getV:∀ {ds:List D} {vs:List V} {i:Nat} {v:V},Reps K H P ds vs -> vs[i]?=some v -> ∃ d,ds[i]?=some d /\ Rep K H P d v
 | _,_,_,_,.nil,e=>by simp at e
 | _,_,0,_,.cons h _,e=>by simp at e; subst e; exact ⟨_,rfl,h⟩
 | _,_,i+1,d,.cons _ t,e=>by
  obtain ⟨v,h1,h2⟩:=Reps.getV (i:=i) t (by simpa using e)
  exact ⟨v,by simpa using h1,h2⟩
theorem Reps.append:∀ {ds es:List D} {vs us:List V},Reps K H P ds vs -> Reps K H P es us -> Reps K H P (ds ++ es) (vs ++ us)
 | _,_,_,_,.nil,s=>s
 | _,_,_,_,.cons h t,s=>.cons h (Reps.append t s)
theorem Reps.take:∀ {ds:List D} {vs:List V} (n:Nat),Reps K H P ds vs -> Reps K H P (ds.take n) (vs.take n)
 | _,_,0,_=>.nil
 | _,_,_+1,.nil=>.nil
 | _,_,n+1,.cons h t=>.cons h (Reps.take n t)
theorem Reps.drop:∀ {ds:List D} {vs:List V} (n:Nat),Reps K H P ds vs -> Reps K H P (ds.drop n) (vs.drop n)
 | _,_,0,r=>r
 | _,_,_+1,.nil=>.nil
 | _,_,n+1,.cons _ t=>Reps.drop n t
theorem Reps.set {d:D} {v:V} (h:Rep K H P d v):∀ {ds:List D} {vs:List V} (n:Nat),Reps K H P ds vs -> Reps K H P (ds.set n d) (vs.set n v)
 | _,_,_,.nil=>.nil
 | _,_,0,.cons _ t=>.cons h t
 | _,_,n+1,.cons q t=>.cons q (Reps.set h n t)
theorem Reps.reverse {ds:List D} {vs:List V} (r:Reps K H P ds vs):Reps K H P ds.reverse vs.reverse:=by
 induction ds generalizing vs with
 | nil=>cases r; exact .nil
 | cons d ds ih =>
  cases r with
  | cons h t =>
   rw [List.reverse_cons,List.reverse_cons]
   exact (ih t).append (.cons h .nil)
theorem Reps.dropLast {ds:List D} {vs:List V} (r:Reps K H P ds vs):Reps K H P ds.dropLast vs.dropLast:=by
 rw [List.dropLast_eq_take,List.dropLast_eq_take,r.length]
 exact r.take _
theorem Reps.rep (n:Nat) {ds:List D} {vs:List V} (r:Reps K H P ds vs):Reps K H P (List.replicate n ds).flatten (List.replicate n vs).flatten:=by
 induction n with
 | zero=>exact .nil
 | succ n ih =>
  rw [List.replicate_succ,List.replicate_succ,List.flatten_cons,List.flatten_cons]
  exact r.append ih
theorem Reps.ints:∀ (ns:List Int),Reps K H P (ns.map .int) (ns.map .int)
 | []=>.nil
 | n :: ns=>.cons (.int n) (Reps.ints ns)
theorem Reps.strs:∀ (ns:List Str),Reps K H P (ns.map .str) (ns.map .str)
 | []=>.nil
 | n :: ns=>.cons (.str n) (Reps.strs ns)
mutual
theorem Rep.of_imm:∀ {d:D} {v:V},Rep K H P d v -> d.imm=true -> Rep K H P' d v
 | _,_,.non,_=>.non
 | _,_,.bl b,_=>.bl b
 | _,_,.int i,_=>.int i
 | _,_,.str s,_=>.str s
 | _,_,.tup h r,e=>.tup h (Reps.of_imms r e)
 | _,_,.tupN h hd,_=>.tupN h hd
 | _,_,.lst _ _ _,e=>by simp [D.imm] at e
 | _,_,.lstK _ _,e=>by simp [D.imm] at e
 | _,_,.dK _ _ _ _,e=>by simp [D.imm] at e
 | _,_,.dT _ _ _ _,e=>by simp [D.imm] at e
theorem Reps.of_imms:∀ {ds:List D} {vs:List V},Reps K H P ds vs -> D.imms ds=true -> Reps K H P' ds vs
 | _,_,.nil,_=>.nil
 | _,_,.cons h t,e=>by
  have e':=Bool.and_eq_true_iff.mp (show (D.imm _ && D.imms _)=true from e)
  exact .cons (Rep.of_imm h e'.1) (Reps.of_imms t e'.2)
end
end
structure Fx where
 P0:Addr -> Prop
 H0:Hp
 IO:List Addr
 ios:List Nat
def PPa (F:Fx) (A:Addr -> Prop) (b:Addr):Prop:=(F.P0 b \/ F.H0 b=none) /\ ¬ A b
def Ext (A:Addr -> Prop) (H H':Hp):Prop:=∀ b o,H b=some o -> (mutO o=true -> ¬ A b) -> H' b=some o
abbrev Nix:Addr -> Prop:=fun _=>False
def OwnAt (K:PySem.W.Frag) (H:Hp) (P:Addr -> Prop) (a:Addr):D -> Prop
 | .lst ds=>∃ vs,H a=some (.lst vs) /\ Reps K H P ds vs
 | .dK kvs=>∃ ws:List (Key × V),H a=some (.dK ws) /\ kvs.map (·.1)=ws.map (·.1) /\ Reps K H P (kvs.map (·.2)) (ws.map (·.2))
 | .dT kvs=>∃ ws:List (List Key × V),H a=some (.dT ws) /\ kvs.map (·.1)=ws.map (·.1) /\ Reps K H P (kvs.map (·.2)) (ws.map (·.2))
 | _=>False
def Slot (K:PySem.W.Frag) (H:Hp) (P A:Addr -> Prop) (own:Bool) (d:D) (v:V):Prop :=
 if (own && d.mut)=true then ∃ a,v=.ref a /\ A a /\ OwnAt K H P a d else Rep K H P d v
structure EnvR (K:PySem.W.Frag) (F:Fx) (O:List Nat) (A:Addr -> Prop) (σ:St) (ρ:Env) (H:Hp):Prop where
 len:σ.length=ρ.length
 ext:Ext (fun b=>b ∈ F.IO) F.H0 H
 val:∀ (i:Nat) (d:D),ρ[i]?=some (some d) -> ∃ v,σ[i]?=some (some v) /\ Slot K H (PPa F A) A (O.contains i) d v
 inj:∀ (i j:Nat) (a:Addr) (di dj:D),O.contains i=true -> O.contains j=true -> ρ[i]?=some (some di) -> ρ[j]?=some (some dj) -> di.mut=true -> dj.mut=true -> σ[i]?=some (some (.ref a)) -> σ[j]?=some (some (.ref a)) -> i=j
 aM:∀ a,A a -> ∃ o,H a=some o /\ mutO o=true
 aF:∀ a,A a -> a ∈ F.IO \/ F.H0 a=none
 io:∀ a,a ∈ F.IO -> A a /\ ∃ j d,j ∈ F.ios /\ O.contains j=true /\ ρ[j]?=some (some d) /\ d.mut=true /\ σ[j]?=some (some (.ref a))
section
variable {K:PySem.W.Frag} {F:Fx} {O:List Nat} {A B:Addr -> Prop} {σ:St} {ρ:Env} {H H' H2:Hp} {P:Addr -> Prop}
theorem Ext.refl:Ext A H H:=fun _ _ e _=>e
theorem Ext.trans (h:Ext A H H') (h2:Ext A H' H2):Ext A H H2:=fun b o e n=>h2 b o (h b o e n) n
theorem Ext.mono (h:Ext A H H') (q:∀ b,A b -> B b):Ext B H H':=fun b o e n=>h b o e fun m z=>n m (q b z)
theorem Ext.nix (h:Ext Nix H H'):Ext B H H':=h.mono fun _ z=>z.elim
theorem Ext.all (h:Ext Nix H H') {b:Addr} {o:HO} (e:H b=some o):H' b=some o:=h b o e fun _ z=>z
theorem Ext.new {p:Addr} {o:HO} (hp:H p=none):Ext A H (upd H p o):=fun b u e _=>by rw [upd_ne (ne_of_none e hp)]; exact e
theorem Ext.le (h:Ext A H H') (q:∀ b,P b -> ¬ A b):Le P P H H' :=
 ⟨fun a u hu e=>h a _ e (fun z=>(zb7 hu z).elim),fun a u m p r=>by
  rcases r with r | ⟨ob,r⟩
  ·exact .inl (h a u r fun _=>q a p)
  ·exact .inr ⟨ob,h a _ r fun z=>by cases z⟩,fun _ _ _ p _=>p⟩
theorem Rep.ext {d:D} {v:V} (r:Rep K H P d v) (h:Ext A H H') (q:∀ b,P b -> ¬ A b):Rep K H' P d v:=r.mono (h.le q)
theorem Reps.ext {d:List D} {v:List V} (r:Reps K H P d v) (h:Ext A H H') (q:∀ b,P b -> ¬ A b):Reps K H' P d v:=r.mono (h.le q)
theorem PPa.not {b:Addr} (h:PPa F A b):¬ A b:=h.2
theorem OwnAt.ext {a:Addr} {d:D} (r:OwnAt K H P a d) (h:Ext Nix H H'):OwnAt K H' P a d:=by
 cases d with
 | lst ds=>obtain ⟨vs,e,t⟩:=r; exact ⟨vs,h.all e,t.ext h fun _ _ z=>z⟩
 | dK kvs=>obtain ⟨vs,e,k,t⟩:=r; exact ⟨vs,h.all e,k,t.ext h fun _ _ z=>z⟩
 | dT kvs=>obtain ⟨vs,e,k,t⟩:=r; exact ⟨vs,h.all e,k,t.ext h fun _ _ z=>z⟩
 | _=>exact False.elim r
theorem Slot.ext {o:Bool} {d:D} {v:V} (r:Slot K H P A o d v) (h:Ext Nix H H'):Slot K H' P A o d v:=by
 unfold Slot at r ⊢
 split
 ·rename_i c
  rw [if_pos c] at r
  obtain ⟨a,e,m,q⟩:=r
  exact ⟨a,e,m,q.ext h⟩
 ·rename_i c
  rw [if_neg c] at r
  exact r.ext h fun _ _ z=>z
theorem EnvR.step (I:EnvR K F O A σ ρ H) (h:Ext Nix H H'):EnvR K F O A σ ρ H' :=
 ⟨I.len,fun b o e n=>h.all (I.ext b o e n),fun i d e=>let ⟨v,e1,s⟩:=I.val i d e; ⟨v,e1,s.ext h⟩,I.inj,fun a m=>let ⟨o,e,q⟩:=I.aM a m; ⟨o,h.all e,q⟩,I.aF,I.io⟩
theorem EnvR.notA (I:EnvR K F O A σ ρ H) {p:Addr} (hp:H p=none):¬ A p:=fun m=>by
 obtain ⟨o,e,_⟩:=I.aM p m
 rw [hp] at e; cases e
theorem EnvR.noneH0 (I:EnvR K F O A σ ρ H) {p:Addr} (hp:H p=none):F.H0 p=none:=by
 cases e:F.H0 p with
 | none=>rfl
 | some o =>
  by_cases m:p ∈ F.IO
  ·exact absurd (I.io p m).1 (I.notA hp)
  ·have:=I.ext p o e fun _=>m
   rw [hp] at this; cases this
theorem EnvR.newP (I:EnvR K F O A σ ρ H) {p:Addr} (hp:H p=none):PPa F A p:=⟨.inr (I.noneH0 hp),I.notA hp⟩
def RepT (K:PySem.W.Frag) (H:Hp) (P:Addr -> Prop) (d:D) (v:V):Prop:=Rep K H P d v \/ ∃ a,v=.ref a /\ OwnAt K H P a d
theorem RepT.ext {d:D} {v:V} (r:RepT K H P d v) (h:Ext Nix H H'):RepT K H' P d v:=by
 rcases r with r | ⟨a,e,r⟩
 ·exact .inl (r.ext h fun _ _ z=>z)
 ·exact .inr ⟨a,e,r.ext h⟩
theorem RepT.int {i:Int} {v:V} (r:RepT K H P (.int i) v):v=.int i:=by
 rcases r with r | ⟨a,e,r⟩
 ·cases r; rfl
 ·exact r.elim
theorem RepT.str {i:Str} {v:V} (r:RepT K H P (.str i) v):v=.str i:=by
 rcases r with r | ⟨a,e,r⟩
 ·cases r; rfl
 ·exact r.elim
theorem RepT.bl {i:Bool} {v:V} (r:RepT K H P (.bl i) v):v=.bl i:=by
 rcases r with r | ⟨a,e,r⟩
 ·cases r; rfl
 ·exact r.elim
theorem RepT.non {v:V} (r:RepT K H P .non v):v=.non:=by
 rcases r with r | ⟨a,e,r⟩
 ·cases r; rfl
 ·exact r.elim
theorem RepT.exc {c:Str} {v:V} (r:RepT K H P (.exc c) v):False:=by
 rcases r with r | ⟨a,e,r⟩
 ·cases r
 ·exact r.elim
theorem RepT.tup {ds:List D} {v:V} (r:RepT K H P (.tup ds) v):∃ a vs,v=.ref a /\ H a=some (.tup vs) /\ Reps K H P ds vs:=by
 rcases r with r | ⟨a,e,r⟩
 ·cases r with
  | tup h r=>exact ⟨_,_,rfl,h,r⟩
 ·exact r.elim
theorem RepT.tupN {ss:List Str} {v:V} (r:RepT K H P (.tupN ss) v):∃ a o,v=.ref a /\ H a=some (.frz o (.tup (ss.map V.str))) /\ o.dict=none:=by
 rcases r with r | ⟨a,e,r⟩
 ·cases r with
  | tupN h hd=>exact ⟨_,_,rfl,h,hd⟩
 ·exact r.elim
theorem RepT.lst {ds:List D} {v:V} (r:RepT K H P (.lst ds) v):∃ a vs,v=.ref a /\ SqL K H a vs /\ Reps K H P ds vs:=by
 rcases r with r | ⟨a,e,vs,h,r⟩
 ·cases r with
  | lst h p r=>exact ⟨_,_,rfl,.inl h,r⟩
  | lstK h r=>exact ⟨_,_,rfl,.inr h,r⟩
 ·exact ⟨a,vs,e,SqL.of h,r⟩
theorem RepT.dK {kvs:List (Key × D)} {v:V} (r:RepT K H P (.dK kvs) v):∃ (a:Addr) (ws:List (Key × V)),v=.ref a /\ Rd H a (.dK ws) /\ kvs.map (·.1)=ws.map (·.1) /\ Reps K H P (kvs.map (·.2)) (ws.map (·.2)):=by
 rcases r with r | ⟨a,e,vs,h,k,r⟩
 ·cases r with
  | dK h p k r=>exact ⟨_,_,rfl,h,k,r⟩
 ·exact ⟨a,vs,e,.inl h,k,r⟩
theorem RepT.dT {kvs:List (List Key × D)} {v:V} (r:RepT K H P (.dT kvs) v):∃ (a:Addr) (ws:List (List Key × V)),v=.ref a /\ Rd H a (.dT ws) /\ kvs.map (·.1)=ws.map (·.1) /\ Reps K H P (kvs.map (·.2)) (ws.map (·.2)):=by
 rcases r with r | ⟨a,e,vs,h,k,r⟩
 ·cases r with
  | dT h p k r=>exact ⟨_,_,rfl,h,k,r⟩
 ·exact ⟨a,vs,e,.inl h,k,r⟩
theorem EnvR.top (I:EnvR K F O A σ ρ H) {i:Nat} {d:D} {v:V} (e:ρ[i]?=some (some d)) (ev:σ[i]?=some (some v)):RepT K H (PPa F A) d v:=by
 obtain ⟨v',e1,s⟩:=I.val i d e
 rw [ev] at e1; cases e1
 unfold Slot at s
 split at s
 ·obtain ⟨a,q,_,w⟩:=s
  exact .inr ⟨a,q,w⟩
 ·exact .inl s
theorem EnvR.plain (I:EnvR K F O A σ ρ H) {i:Nat} {d:D} {v:V} (e:ρ[i]?=some (some d)) (ev:σ[i]?=some (some v)) (ho:O.contains i=false):Rep K H (PPa F A) d v:=by
 obtain ⟨v',e1,s⟩:=I.val i d e
 rw [ev] at e1; cases e1
 unfold Slot at s
 rw [ho,Bool.false_and,if_neg Bool.false_ne_true] at s
 exact s
theorem OwnAt.mono {a:Addr} {d:D} {P':Addr -> Prop} (l:Le P P' H H') (ha:∀ o,H a=some o -> mutO o=true -> H' a=some o) (r:OwnAt K H P a d):OwnAt K H' P' a d:=by
 cases d with
 | lst ds=>obtain ⟨vs,e,t⟩:=r; exact ⟨vs,ha _ e rfl,t.mono l⟩
 | dK kvs=>obtain ⟨vs,e,k,t⟩:=r; exact ⟨vs,ha _ e rfl,k,t.mono l⟩
 | dT kvs=>obtain ⟨vs,e,k,t⟩:=r; exact ⟨vs,ha _ e rfl,k,t.mono l⟩
 | _=>exact False.elim r
theorem OwnAt.there {a:Addr} {d:D} (r:OwnAt K H P a d):∃ o,H a=some o /\ mutO o=true:=by
 cases d with
 | lst ds=>obtain ⟨vs,e,t⟩:=r; exact ⟨_,e,rfl⟩
 | dK kvs=>obtain ⟨vs,e,k,t⟩:=r; exact ⟨_,e,rfl⟩
 | dT kvs=>obtain ⟨vs,e,k,t⟩:=r; exact ⟨_,e,rfl⟩
 | _=>exact False.elim r
theorem OwnAt.mut {a:Addr} {d:D} (r:OwnAt K H P a d):d.mut=true:=by
 cases d <;> first | rfl | exact False.elim r
theorem OwnAt.rep {a:Addr} {d:D} (r:OwnAt K H P a d) (p:P a):Rep K H P d (.ref a):=by
 cases d with
 | lst ds=>obtain ⟨vs,e,t⟩:=r; exact .lst (.inl e) p t
 | dK kvs=>obtain ⟨vs,e,k,t⟩:=r; exact .dK (.inl e) p k t
 | dT kvs=>obtain ⟨vs,e,k,t⟩:=r; exact .dT (.inl e) p k t
 | _=>exact False.elim r
theorem EnvR.own (I:EnvR K F O A σ ρ H) {i:Nat} {d:D} (e:ρ[i]?=some (some d)) (ho:O.contains i=true) (m:d.mut=true):∃ a,σ[i]?=some (some (.ref a)) /\ A a /\ OwnAt K H (PPa F A) a d:=by
 obtain ⟨v,e1,s⟩:=I.val i d e
 unfold Slot at s
 rw [ho,m,Bool.true_and,if_pos rfl] at s
 obtain ⟨a,rfl,q⟩:=s
 exact ⟨a,e1,q⟩
theorem zaf {p:Nat -> Bool} {i:Nat} (h:(O.filter p).contains i=true):O.contains i=true /\ p i=true:=by
 rw [List.contains_iff_mem] at h ⊢
 exact List.mem_filter.mp h
theorem zaj {p:Nat -> Bool} {i:Nat} (h:O.contains i=true) (hp:p i=true):(O.filter p).contains i=true:=by
 rw [List.contains_iff_mem] at h ⊢
 exact List.mem_filter.mpr ⟨h,hp⟩
theorem EnvR.setPlain (I:EnvR K F O A σ ρ H) {i:Nat} {d:D} {v:V} (r:Rep K H (PPa F A) d v) (hio:i ∉ F.ios):EnvR K F (O.filter (· != i)) A (σ.set i (some v)) (ρ.set i (some d)) H:=by
 have hc:(O.filter (· != i)).contains i=false:=by
  cases c:(O.filter (· != i)).contains i with
  | false=>rfl
  | true=>have:=(zaf c).2; simp at this
 refine ⟨by simpa using I.len,I.ext,fun j e h=>?_,fun j k a di dj hj hk ej ek mj mk sj sk=>?_,I.aM,I.aF,fun a m=>?_⟩
 ·by_cases c:i=j
  ·subst c
   have hlt:i < ρ.length:=by
    by_cases z:i < ρ.length
    ·exact z
    ·rw [List.getElem?_eq_none (by simpa using z)] at h; cases h
   rw [List.getElem?_set_self hlt] at h
   cases h
   refine ⟨v,List.getElem?_set_self (by rw [I.len]; exact hlt),?_⟩
   unfold Slot
   rw [hc,Bool.false_and,if_neg Bool.false_ne_true]
   exact r
  ·rw [List.getElem?_set_ne c] at h
   obtain ⟨u,e1,s⟩:=I.val j e h
   refine ⟨u,by rw [List.getElem?_set_ne c]; exact e1,?_⟩
   have:(O.filter (· != i)).contains j=O.contains j:=by
    cases z:O.contains j with
    | true=>exact zaj z (by simp; exact fun q=>c q.symm)
    | false =>
     cases w:(O.filter (· != i)).contains j with
     | false=>rfl
     | true=>rw [(zaf w).1] at z; cases z
   rw [this]
   exact s
 ·obtain ⟨hj1,hj2⟩:=zaf hj
  obtain ⟨hk1,hk2⟩:=zaf hk
  have nj:i ≠ j:=by intro z; subst z; simp at hj2
  have nk:i ≠ k:=by intro z; subst z; simp at hk2
  rw [List.getElem?_set_ne nj] at ej sj
  rw [List.getElem?_set_ne nk] at ek sk
  exact I.inj j k a di dj hj1 hk1 ej ek mj mk sj sk
 ·obtain ⟨q,j,d',h1,h2,h3,h4,h5⟩:=I.io a m
  have nj:i ≠ j:=fun z=>hio (by rw [z]; exact h1)
  exact ⟨q,j,d',h1,zaj h2 (by simp; exact fun q=>nj q.symm),by rw [List.getElem?_set_ne nj]; exact h3,h4,by rw [List.getElem?_set_ne nj]; exact h5⟩
theorem EnvR.drop (I:EnvR K F O A σ ρ H) (p:Nat -> Bool) (hp:∀ i,i ∈ F.ios -> p i=true):∃ A',(∀ a,A' a -> A a) /\ EnvR K F (O.filter p) A' σ ρ H:=by
 refine ⟨fun b=>A b /\ (b ∈ F.IO \/ ∃ i d,(O.filter p).contains i=true /\ ρ[i]?=some (some d) /\ d.mut=true /\ σ[i]?=some (some (.ref b))),fun _ z=>z.1,?_⟩
 have wk:∀ b,PPa F A b -> PPa F (fun b=>A b /\ (b ∈ F.IO \/ ∃ i d,(O.filter p).contains i=true /\ ρ[i]?=some (some d) /\ d.mut=true /\ σ[i]?=some (some (.ref b)))) b:=fun b z=>⟨z.1,fun q=>z.2 q.1⟩
 have lw:=(⟨fun _ _ _ e=>e,fun _ _ _ _ e=>e,fun a _ _ q _=>wk a q⟩:Le (PPa F A) _ H H)
 refine ⟨I.len,I.ext,fun i d h=>?_,fun j k a di dj hj hk ej ek mj mk sj sk=>I.inj j k a di dj (zaf hj).1 (zaf hk).1 ej ek mj mk sj sk,fun a m=>I.aM a m.1,fun a m=>I.aF a m.1,fun a m=>?_⟩
 ·obtain ⟨v,e1,s⟩:=I.val i d h
  refine ⟨v,e1,?_⟩
  unfold Slot at s ⊢
  by_cases c:(O.contains i && d.mut)=true
  ·rw [if_pos c] at s
   rw [Bool.and_eq_true] at c
   obtain ⟨a,rfl,ha,o⟩:=s
   by_cases c2:(O.filter p).contains i=true
   ·rw [c2,c.2,Bool.true_and,if_pos rfl]
    exact ⟨a,rfl,⟨ha,.inr ⟨i,d,c2,h,c.2,e1⟩⟩,o.mono lw fun _ e _=>e⟩
   ·rw [if_neg (by rw [Bool.and_eq_true]; exact fun z=>c2 z.1)]
    have nio:a ∉ F.IO:=fun m=>by
     obtain ⟨_,j,d',h1,h2,h3,h4,h5⟩:=I.io a m
     have:=I.inj i j a d d' c.1 h2 h h3 c.2 h4 e1 h5
     subst this
     exact c2 (zaj c.1 (hp i h1))
    refine (o.mono lw fun _ e _=>e).rep ⟨(I.aF a ha).elim (fun m=>absurd m nio) .inr,fun z=>?_⟩
    rcases z.2 with m | ⟨j,d',h2,h3,h4,h5⟩
    ·exact nio m
    ·have:=I.inj i j a d d' c.1 (zaf h2).1 h h3 c.2 h4 e1 h5
     subst this
     exact c2 h2
  ·rw [if_neg c] at s
   rw [if_neg (by
    rw [Bool.and_eq_true] at c ⊢
    exact fun z=>c ⟨(zaf z.1).1,z.2⟩)]
   exact s.mono lw
 ·obtain ⟨q,j,d',h1,h2,h3,h4,h5⟩:=I.io a m
  exact ⟨⟨q,.inl m⟩,j,d',h1,zaj h2 (hp j h1),h3,h4,h5⟩
theorem EnvR.setOwn (I:EnvR K F O A σ ρ H) (x:Ext Nix H H') {i:Nat} {d:D} {a:Addr} (hn:H a=none) (o:OwnAt K H' (fun b=>PPa F A b /\ b ≠ a) a d) (hio:i ∉ F.ios) :
  EnvR K F (i :: O.filter (· != i)) (fun b=>A b \/ b=a) (σ.set i (some (.ref a))) (ρ.set i (some d)) H':=by
 have h0:=I.noneH0 hn
 have lw:Le (PPa F A) (PPa F fun b=>A b \/ b=a) H H':=⟨fun a u _ e=>x.all e,fun a u _ _ r=>by
  rcases r with r | ⟨ob,r⟩
  ·exact .inl (x.all r)
  ·exact .inr ⟨ob,x.all r⟩,fun b u _ q r=>⟨q.1,fun z=>by
   rcases z with z | z
   ·exact q.2 z
   ·subst z
    obtain ⟨o',e'⟩:=zcw r
    rw [hn] at e'; cases e'⟩⟩
 have lo:Le (fun b=>PPa F A b /\ b ≠ a) (PPa F fun b=>A b \/ b=a) H' H':=⟨fun _ _ _ e=>e,fun _ _ _ _ e=>e,fun b _ _ q _=>⟨q.1.1,fun z=>z.elim q.1.2 q.2⟩⟩
 have nA:∀ b,A b -> b ≠ a:=fun b m z=>by
  subst z
  obtain ⟨o',e',_⟩:=I.aM b m
  rw [hn] at e'; cases e'
 have co:∀ j,j ≠ i -> (i :: O.filter (· != i)).contains j=O.contains j:=fun j hj=>by
  have e1:(i :: O.filter (· != i)).contains j=(O.filter (· != i)).contains j:=by
   simp [hj]
  rw [e1]
  cases z:O.contains j with
  | true=>exact zaj z (by simpa using hj)
  | false =>
   cases w:(O.filter (· != i)).contains j with
   | false=>rfl
   | true=>rw [(zaf w).1] at z; cases z
 have ci:(i :: O.filter (· != i)).contains i=true:=by simp
 refine ⟨by simpa using I.len,fun b u e n=>x.all (I.ext b u e n),fun j e h=>?_,fun j k b di dj hj hk ej ek mj mk sj sk=>?_,fun b m=>?_,fun b m=>?_,fun b m=>?_⟩
 ·by_cases c:i=j
  ·subst c
   have hlt:i < ρ.length:=by
    by_cases z:i < ρ.length
    ·exact z
    ·rw [List.getElem?_eq_none (by simpa using z)] at h; cases h
   rw [List.getElem?_set_self hlt] at h
   cases h
   refine ⟨.ref a,List.getElem?_set_self (by rw [I.len]; exact hlt),?_⟩
   unfold Slot
   rw [ci,o.mut,Bool.true_and,if_pos rfl]
   exact ⟨a,rfl,.inr rfl,o.mono lo fun _ e _=>e⟩
  ·rw [List.getElem?_set_ne c] at h
   obtain ⟨u,e1,s⟩:=I.val j e h
   refine ⟨u,by rw [List.getElem?_set_ne c]; exact e1,?_⟩
   rw [co j (fun q=>c q.symm)]
   unfold Slot at s ⊢
   split
   ·rename_i z
    rw [if_pos z] at s
    obtain ⟨b,rfl,hb,q⟩:=s
    exact ⟨b,rfl,.inl hb,q.mono lw fun _ e _=>x.all e⟩
   ·rename_i z
    rw [if_neg z] at s
    exact s.mono lw
 ·by_cases c:i=j
  ·by_cases c2:i=k
   ·rw [<- c,<- c2]
   ·exfalso
    subst c
    have hlt:i < ρ.length:=by
     by_cases z:i < ρ.length
     ·exact z
     ·rw [List.getElem?_eq_none (by simpa using z)] at ej; cases ej
    rw [List.getElem?_set_self (by rw [I.len]; exact hlt)] at sj
    cases sj
    rw [List.getElem?_set_ne c2] at ek sk
    rw [co k (fun q=>c2 q.symm)] at hk
    obtain ⟨b,e1,hb,_⟩:=I.own ek hk mk
    rw [sk] at e1; cases e1
    exact nA _ hb rfl
  ·by_cases c2:i=k
   ·exfalso
    subst c2
    have hlt:i < ρ.length:=by
     by_cases z:i < ρ.length
     ·exact z
     ·rw [List.getElem?_eq_none (by simpa using z)] at ek; cases ek
    rw [List.getElem?_set_self (by rw [I.len]; exact hlt)] at sk
    cases sk
    rw [List.getElem?_set_ne c] at ej sj
    rw [co j (fun q=>c q.symm)] at hj
    obtain ⟨b,e1,hb,_⟩:=I.own ej hj mj
    rw [sj] at e1; cases e1
    exact nA _ hb rfl
   ·rw [List.getElem?_set_ne c] at ej sj
    rw [List.getElem?_set_ne c2] at ek sk
    rw [co j (fun q=>c q.symm)] at hj
    rw [co k (fun q=>c2 q.symm)] at hk
    exact I.inj j k b di dj hj hk ej ek mj mk sj sk
 ·rcases m with m | m
  ·obtain ⟨o',e',q⟩:=I.aM b m
   exact ⟨o',x.all e',q⟩
  ·subst m
   exact o.there
 ·rcases m with m | m
  ·exact I.aF b m
  ·subst m
   exact .inr h0
 ·obtain ⟨q,j,d',h1,h2,h3,h4,h5⟩:=I.io b m
  have nj:i ≠ j:=fun z=>hio (by rw [z]; exact h1)
  exact ⟨.inl q,j,d',h1,by rw [co j (fun q=>nj q.symm)]; exact h2,by rw [List.getElem?_set_ne nj]; exact h3,h4,by rw [List.getElem?_set_ne nj]; exact h5⟩
theorem EnvR.mutate (I:EnvR K F O A σ ρ H) {i:Nat} {d d':D} {a:Addr} {o:HO} (e:ρ[i]?=some (some d)) (ho:O.contains i=true) (m:d.mut=true) (es:σ[i]?=some (some (.ref a))) (m':mutO o=true)
  (w:OwnAt K (upd H a o) (PPa F A) a d'):EnvR K F O A σ (ρ.set i (some d')) (upd H a o):=by
 obtain ⟨a',ea,hA,oo⟩:=I.own e ho m
 rw [es] at ea; cases ea
 have lw:Le (PPa F A) (PPa F A) H (upd H a o):=⟨fun b u hu eb=>by
  have ne:b ≠ a:=by
   intro z; subst z
   obtain ⟨o',e',q⟩:=oo.there
   rw [eb] at e'; cases e'; exact zb7 hu q
  rw [upd_ne ne]; exact eb,fun b u mu q r=>by
  have ne:b ≠ a:=fun z=>by subst z; exact q.2 hA
  rcases r with r | ⟨ob,r⟩
  ·exact .inl (by rw [upd_ne ne]; exact r)
  ·exact .inr ⟨ob,by rw [upd_ne ne]; exact r⟩,fun _ _ _ q _=>q⟩
 have hlt:i < ρ.length:=(List.getElem?_eq_some_iff.mp e).1
 refine ⟨by simpa using I.len,fun b u eb n=>?_,fun j f h=>?_,fun j k b di dj hj hk ej ek mj mk sj sk=>?_,fun b q=>?_,I.aF,fun b q=>?_⟩
 ·by_cases z:b=a
  ·subst z
   rcases I.aF b hA with q | q
   ·obtain ⟨o',e',q'⟩:=oo.there
    have hM:=I.ext b u eb
    by_cases mu:mutO u=true
    ·exact absurd q (n mu)
    ·have:=hM (fun z=>absurd z mu)
     rw [e'] at this; cases this
     exact absurd q' mu
   ·rw [eb] at q; cases q
  ·rw [upd_ne z]; exact I.ext b u eb n
 ·by_cases c:i=j
  ·subst c
   rw [List.getElem?_set_self hlt] at h
   cases h
   refine ⟨.ref a,es,?_⟩
   unfold Slot
   rw [ho,w.mut,Bool.true_and,if_pos rfl]
   exact ⟨a,rfl,hA,w⟩
  ·rw [List.getElem?_set_ne c] at h
   obtain ⟨u,e1,s⟩:=I.val j f h
   refine ⟨u,e1,?_⟩
   unfold Slot at s ⊢
   split
   ·rename_i z
    rw [if_pos z] at s
    rw [Bool.and_eq_true] at z
    obtain ⟨b,rfl,hb,q⟩:=s
    refine ⟨b,rfl,hb,q.mono lw fun o' e' _=>?_⟩
    have ne:b ≠ a:=fun w=>c (I.inj i j a d f ho z.1 e h m z.2 es (by rw [<- w]; exact e1))
    rw [upd_ne ne]; exact e'
   ·rename_i z
    rw [if_neg z] at s
    exact s.mono lw
 ·have back:∀ (j:Nat) (dj:D),(ρ.set i (some d'))[j]?=some (some dj) -> dj.mut=true -> ∃ dj',ρ[j]?=some (some dj') /\ dj'.mut=true:=fun j dj ej mj=>by
   by_cases c:i=j
   ·subst c; exact ⟨d,e,m⟩
   ·rw [List.getElem?_set_ne c] at ej; exact ⟨dj,ej,mj⟩
  obtain ⟨x,ex,mx⟩:=back j di ej mj
  obtain ⟨y,ey,my⟩:=back k dj ek mk
  exact I.inj j k b x y hj hk ex ey mx my sj sk
 ·by_cases z:b=a
  ·subst z; exact ⟨o,upd_same,m'⟩
  ·rw [upd_ne z]; exact I.aM b q
 ·obtain ⟨q1,j,dj,h1,h2,h3,h4,h5⟩:=I.io b q
  by_cases c:i=j
  ·subst c
   exact ⟨q1,i,d',h1,h2,List.getElem?_set_self hlt,w.mut,h5⟩
  ·exact ⟨q1,j,dj,h1,h2,by rw [List.getElem?_set_ne c]; exact h3,h4,h5⟩
end
end L2.Pf
namespace L2.Pf
open PySem PySem.Spec PyProof.Rows
theorem zhz (l:Addr) (items:Array Value) (n:Nat) (dd:Option Addr) (sl:Array (Option Value)) (u:Tok) :
  Meets (Builtin.«tuple.__mul__» ⟨[.ref l,.int 1 u],[]⟩) (fun _ R s=>s.heap.get? l=some { cls:=.type "tuple",dict:=dd,data:=.seq items n,slots:=sl } /\ R (.ok (.ret (Value.ref l))) s) :=
 .of_wp fun prog w A R s h=>by
  obtain ⟨hp,g,d,tk,os⟩:=s
  obtain ⟨hl,h⟩:=h
  have f1:=AutoSeq1.idx_int
  wp_walk using wpAny_loadPart' hl
  repeat (first
   | (refine wpAny_ite_false (by decide) ?_; wp_walk using wpAny_loadPart' hl)
   | (refine wpAny_ite_true (by simp) ?_; wp_walk using wpAny_loadPart' hl))
  all_goals first
   | exact ⟨_,rfl,h⟩
   | exact h
section
variable {X:Cx}
theorem zoM:OpR X (binaryOp .Mult) (fun x y H Q=>∃ l xs,x=.ref l /\ y=.int 1 /\ SqT X.K H l xs /\ Q (.ref l) H):=by
 intro pins s σ H x y v u Q I rx ry h
 obtain ⟨l,xs,rfl,rfl,hT,q⟩:=h
 cases rx
 obtain ⟨t,rfl⟩:=ry
 obtain ⟨its,r,⟨⟨cls,dd,data,sl⟩,ho,hc,n,hd⟩,hs⟩:=I.tuple hT
 simp only at hc hd
 subst hc hd
 refine wpAny_binaryOp_repeat_ref (T:="tuple") (U:="int") (by decide) ⟨_,ho,rfl⟩ (fun s'=>typeIs_int s' 1 t) noFill_tuple_mul F.fills_int_mul F.slot_int_rmul repeat_tuple F.slot_int_index.lookup
  (call_meets F.slot_int_rmul (typeIs_int s 1 t) F.entry_int_rmul (F.args_int_rmul_2 _ _) (int_rmul_tuple 1 t l its.toArray n dd sl)
   ⟨ho,rfl,⟨_,ho,rfl⟩,call_meets F.slot_tuple_mul ⟨_,ho,rfl⟩ F.entry_tuple_mul (F.args_tuple_mul_2 _ _) (zhz l its.toArray n dd sl t) ⟨ho,?_⟩⟩)
 exact ⟨.ref l,H,I,rfl,q⟩
end
end L2.Pf
namespace L2.Pf
open PySem PySem.Spec PyProof.Rows
def WE (X:Cx) (e:Expr):TE:=fun σ H Q=>∀ (pins:List (Addr × Obj)) (s:Shared),Inv X pins σ H s -> wpAny (model X.prog X.w) X.A (eval e X.env) (EP X pins σ Q) X.xe s
theorem pe_we {X:Cx} {e:Expr}:PE X e (WE X e):=⟨fun pins s σ H Q I h=>h pins s I⟩
theorem we_of {X:Cx} {e:Expr} {t:TE} {σ:St} {H:Hp} {Q:VK} (h:PE X e t) (q:t σ H Q):WE X e σ H Q:=fun pins s I=>h.run pins s σ H Q I q
def WT (X:Cx) (e:Expr):TT:=fun σ H Q=>∀ (pins:List (Addr × Obj)) (s:Shared),Inv X pins σ H s -> wpAny (model X.prog X.w) X.A (isTrue e X.env (eval e X.env)) (TP X pins σ Q) X.xe s
theorem pt_wt {X:Cx} {e:Expr}:PT X e (WT X e):=⟨fun pins s σ H Q I h=>h pins s I⟩
theorem wt_of {X:Cx} {e:Expr} {t:TT} {σ:St} {H:Hp} {Q:Bool -> Hp -> Prop} (h:PT X e t) (q:t σ H Q):WT X e σ H Q:=fun pins s I=>h.run pins s σ H Q I q
def WA (X:Cx) (es:List Expr):TA:=fun σ H Q=>∀ (pos:Pos) (pins:List (Addr × Obj)) (s:Shared),Inv X pins σ H s -> wpAny (model X.prog X.w) X.A (spliced (backTo pos (starEach es X.env))) (AP X pins σ Q) X.xe s
theorem pa_wa {X:Cx} {es:List Expr}:PA X es (WA X es):=⟨fun pos pins s σ H Q I h=>h pos pins s I⟩
theorem wa_of {X:Cx} {es:List Expr} {t:TA} {σ:St} {H:Hp} {Q:List V -> Hp -> Prop} (h:PA X es t) (q:t σ H Q):WA X es σ H Q:=fun pos pins s I=>h.run pos pins s σ H Q I q
def OM (X:Cx) (f:Value -> Value -> Sem Value):R2:=fun x y H Q=>∀ (pins:List (Addr × Obj)) (s:Shared) (σ:St) (v u:Value),Inv X pins σ H s -> RelV x v -> RelV y u -> wpAny (model X.prog X.w) X.A (f v u) (EP X pins σ Q) X.xe s
theorem op_om {X:Cx} {f:Value -> Value -> Sem Value}:OpR X f (OM X f):=fun pins s σ H x y v u Q I rx ry h=>h pins s σ v u I rx ry
theorem om_of {X:Cx} {f:Value -> Value -> Sem Value} {r:R2} {x y:V} {H:Hp} {Q:VK} (h:OpR X f r) (q:r x y H Q):OM X f x y H Q:=fun pins s σ v u I rx ry=>h pins s σ H x y v u Q I rx ry q
def CM (X:Cx) (f:Value):List V -> Hp -> VK -> Prop:=fun xs H Q=>∀ (pins:List (Addr × Obj)) (s:Shared) (σ:St) (us:List Value),Inv X pins σ H s -> Vals xs us -> wpAny (model X.prog X.w) X.A (call f us) (EP X pins σ Q) X.xe s
theorem ziG {X:Cx} {f:Value}:CallR X f (CM X f):=fun pins s σ H xs us Q I r h=>h pins s σ us I r
theorem cm_of {X:Cx} {f:Value} {r:List V -> Hp -> VK -> Prop} {xs:List V} {H:Hp} {Q:VK} (h:CallR X f r) (q:r xs H Q):CM X f xs H Q:=fun pins s σ us I rx=>h pins s σ H xs us Q I rx q
theorem zae {α:Type} {c:Bool} {r:R α} {d:α} (h:R.when c r=.ok d):c=true /\ r=.ok d:=by
 unfold R.when at h
 split at h
 ·rename_i z; exact ⟨z,h⟩
 ·cases h
def FreshR (K:PySem.W.Frag) (H H':Hp) (P:Addr -> Prop) (d:D) (v:V):Prop:=d.mut=true -> ∃ a,v=.ref a /\ H a=none /\ OwnAt K H' (fun b=>P b /\ b ≠ a) a d
def NewP (P:Addr -> Prop) (H:Hp):Prop:=∀ p,H p=none -> P p
def Out (K:PySem.W.Frag) (P:Addr -> Prop) (H:Hp) (d:D) (Q:VK):Prop:=∀ v H',Ext Nix H H' -> Rep K H' P d v -> Q v H'
def OutF (K:PySem.W.Frag) (P:Addr -> Prop) (H:Hp) (d:D) (Q:VK):Prop:=∀ v H',Ext Nix H H' -> Rep K H' P d v -> FreshR K H H' P d v -> Q v H'
section
variable {K:PySem.W.Frag} {H H':Hp} {P:Addr -> Prop} {Q:VK}
theorem zaL {p:Addr} (h:Ext Nix H H') (e:H' p=none):H p=none:=by
 cases q:H p with
 | none=>rfl
 | some o =>
  have:=h.all q
  rw [e] at this; cases this
theorem FreshR.back {H0:Hp} {d:D} {v:V} (h:Ext Nix H0 H) (r:FreshR K H H' P d v):FreshR K H0 H' P d v:=fun m =>
 let ⟨a,e,n,o⟩:=r m; ⟨a,e,zaL h n,o⟩
theorem FreshR.flat {d:D} {v:V} (h:d.mut=false):FreshR K H H' P d v:=fun m=>by rw [h] at m; cases m
theorem Reps.new {p:Addr} {o:HO} (hp:H p=none) {ds:List D} {vs:List V} (r:Reps K H P ds vs):Reps K (upd H p o) (fun b=>P b /\ b ≠ p) ds vs:=r.mono (zrs hp)
theorem zaC {p:Addr} (hp:H p=none) (np:P p) {ds:List D} {vs:List V} (r:Reps K H P ds vs) (q:OutF K P H (.lst ds) Q):Q (.ref p) (upd H p (.lst vs)) :=
 q _ _ (Ext.new hp) (.lst (.inl upd_same) np ((r.new hp).weak fun _ z=>z.1)) fun _=>⟨p,rfl,hp,vs,upd_same,r.new hp⟩
theorem zb0 {p:Addr} (hp:H p=none) {ds:List D} {vs:List V} (r:Reps K H P ds vs) (q:OutF K P H (.tup ds) Q):Q (.ref p) (upd H p (.tup vs)) :=
 q _ _ (Ext.new hp) (.tup upd_same ((r.new hp).weak fun _ z=>z.1)) (FreshR.flat rfl)
theorem zlT {p:Addr} {o:Obj} (hp:H p=none) (ho:o.dict=none) {ss:List Str} (q:OutF K P H (.tupN ss) Q):Q (.ref p) (upd H p (.frz o (.tup (ss.map V.str)))) :=
 q _ _ (Ext.new hp) (.tupN upd_same ho) (FreshR.flat rfl)
theorem ziH {p:Addr} (hp:H p=none) (np:P p) {kvs:List (Key × D)} {ws:List (Key × V)} (k:kvs.map (·.1)=ws.map (·.1)) (r:Reps K H P (kvs.map (·.2)) (ws.map (·.2))) (q:OutF K P H (.dK kvs) Q):Q (.ref p) (upd H p (.dK ws)) :=
 q _ _ (Ext.new hp) (.dK (.inl upd_same) np k ((r.new hp).weak fun _ z=>z.1)) fun _=>⟨p,rfl,hp,ws,upd_same,k,r.new hp⟩
theorem zoj {p:Addr} (hp:H p=none) (np:P p) {kvs:List (List Key × D)} {ws:List (List Key × V)} (k:kvs.map (·.1)=ws.map (·.1)) (r:Reps K H P (kvs.map (·.2)) (ws.map (·.2))) (q:OutF K P H (.dT kvs) Q):Q (.ref p) (upd H p (.dT ws)) :=
 q _ _ (Ext.new hp) (.dT (.inl upd_same) np k ((r.new hp).weak fun _ z=>z.1)) fun _=>⟨p,rfl,hp,ws,upd_same,k,r.new hp⟩
theorem OutF.now {d:D} {v:V} (q:OutF K P H d Q) (m:d.mut=false) (r:Rep K H P d v):Q v H:=q v H Ext.refl r (FreshR.flat m)
theorem Out.now {d:D} {v:V} (q:Out K P H d Q) (r:Rep K H P d v):Q v H:=q v H Ext.refl r
end
def bopOf:BOp -> Operator
 | .add=>.Add | .sub=>.Sub | .mul=>.Mult | .div=>.FloorDiv | .mod=>.Mod | .pow=>.Pow
section
variable {X:Cx} {H:Hp} {P:Addr -> Prop} {Q:VK} {x y:V}
theorem ziI {pins:List (Addr × Obj)} {s:Shared} {σ:St} {l b:Addr} {xs ys:List V} {v u:Value} (I:Inv X pins σ H s) (hl:SqL X.K H l xs) (hb:SqL X.K H b ys) (hz:xs.length+ys.length <= sizeLine)
  (q:∀ p,H p=none -> Q (.ref p) (upd H p (.lst (xs ++ ys)))):wpAny (model X.prog X.w) X.A (binaryOp .Add (.ref l) (.ref b)) (EP X pins σ Q) X.xe s:=by
 obtain ⟨its,r,⟨⟨cls,dd,data,sl⟩,n,ho,hc,hdd,hd⟩,z1⟩:=I.list hl
 obtain ⟨its2,r2,⟨⟨cls2,dd2,data2,sl2⟩,n2,ho2,hc2,hdd2,hd2⟩,z2⟩:=I.list hb
 simp only at hc hd hc2 hd2 hdd hdd2
 subst hc hd hc2 hd2 hdd hdd2
 have e:its.toArray ++ its2.toArray=(its ++ its2).toArray:=by simp
 have l1:=r.length
 have l2:=r2.length
 refine concat_meets ⟨_,ho,rfl⟩ ⟨_,ho2,rfl⟩ noFill_list_add seq_list_add PySem.F.slot_list_add PySem.F.entry_list_add (PySem.F.args_list_add_2 _ _) (list_addW l b its.toArray its2.toArray n n2 none none sl sl2 (by rw [List.size_toArray,List.size_toArray]; omega)) ⟨ho,ho2,?_⟩
 rw [e]
 exact ⟨.ref _,_,I.lnew (t':=s.toks) (r.append r2) (by rw [List.length_append]; omega),rfl,q _ I.fresh⟩
theorem zrt {da db d:D} (hx:RepT X.K H P da x) (hy:RepT X.K H P db y) (e:dAdd da db=.ok d) (np:NewP P H) (q:OutF X.K P H d Q):OM X (binaryOp .Add) x y H Q:=by
 cases da <;> cases db <;> try (simp only [dAdd] at e; cases e)
 ·rename_i i j
  obtain rfl:=hx.int
  obtain rfl:=hy.int
  exact om_of op_add ⟨i,j,rfl,rfl,q.now rfl (.int _)⟩
 ·rename_i i j
  obtain rfl:=hx.str
  obtain rfl:=hy.str
  obtain ⟨c,e⟩:=zae e
  cases e
  exact om_of op_add_str ⟨i,j,rfl,rfl,of_decide_eq_true c,q.now rfl (.str _)⟩
 ·rename_i xs ys
  obtain ⟨a,vs,rfl,h1,r1⟩:=hx.tup
  obtain ⟨b,us,rfl,h2,r2⟩:=hy.tup
  obtain ⟨c,e⟩:=zae e
  ·cases e
   have c':=of_decide_eq_true c
   refine om_of op_catA ⟨a,b,vs,us,rfl,rfl,SqT.of h1,SqT.of h2,by rw [<- r1.length,<- r2.length]; exact c',fun z=>?_,fun _ z=>?_,fun _ _ p hp=>zb0 hp (r1.append r2) q⟩
   ·subst z
    cases r1
    exact q.now rfl (.tup h2 r2)
   ·subst z
    cases r2
    rw [List.append_nil] at q
    exact q.now rfl (.tup h1 r1)
 ·rename_i xs ys
  obtain ⟨a,vs,rfl,h1,r1⟩:=hx.lst
  obtain ⟨b,us,rfl,h2,r2⟩:=hy.lst
  obtain ⟨c,e⟩:=zae e
  ·cases e
   have c':=of_decide_eq_true c
   intro pins s σ v u I rx ry
   cases rx
   cases ry
   exact ziI (v:=.none) (u:=.none) I h1 h2 (by rw [<- r1.length,<- r2.length]; exact c') fun p hp=>zaC hp (np p hp) (r1.append r2) q
theorem ziJ {op:BOp} {da db d:D} (hx:RepT X.K H P da x) (hy:RepT X.K H P db y) (e:dBin op da db=.ok d) (np:NewP P H) (q:OutF X.K P H d Q):OM X (binaryOp (bopOf op)) x y H Q:=by
 cases op with
 | add=>exact zrt hx hy e np q
 | sub =>
  cases da <;> cases db <;> try (simp only [dBin,dSub] at e; cases e)
  obtain rfl:=hx.int
  obtain rfl:=hy.int
  exact om_of op_sub ⟨_,_,rfl,rfl,q.now rfl (.int _)⟩
 | mul =>
  cases da <;> cases db <;> try (simp only [dBin,dMul] at e; cases e)
  rotate_left
  ·rename_i xs k
   obtain ⟨c,e⟩:=zae (show R.when _ _=_ from e)
   cases e
   rw [Bool.and_eq_true,Bool.and_eq_true,Bool.and_eq_true] at c
   obtain ⟨⟨⟨c1,c2⟩,c3⟩,c4⟩:=c
   have c2:=of_decide_eq_true c2
   have c3:=of_decide_eq_true c3
   have c4:=of_decide_eq_true c4
   obtain ⟨a,vs,rfl,h1,r1⟩:=hx.tup
   obtain rfl:=hy.int
   by_cases k1:k=1
   ·subst k1
    have e1:(List.replicate (1:Int).toNat xs).flatten=xs:=by simp
    rw [e1] at q
    exact om_of zoM ⟨a,vs,rfl,rfl,SqT.of h1,q.now rfl (.tup h1 r1)⟩
   ·refine om_of op_repT ⟨a,k,vs,rfl,rfl,SqT.of h1,fun z=>?_,by omega,c3,by rw [<- r1.length]; exact c4,fun p hp=>zb0 hp (r1.rep k.toNat) q⟩
    subst z
    cases r1
    cases c1
  obtain rfl:=hx.int
  obtain rfl:=hy.int
  simp only [dBin,dMul,R.when] at e
  split at e
  ·rename_i c
   cases e
   unfold mulOk at c
   rw [Bool.or_eq_true,Bool.or_eq_true] at c
   rcases c with (c | c) | c
   ·have:=of_decide_eq_true c
    exact om_of op_mul ⟨_,_,rfl,rfl,.inl (by omega),q.now rfl (.int _)⟩
   ·have:=of_decide_eq_true c
    exact om_of op_mul ⟨_,_,rfl,rfl,.inr (by omega),q.now rfl (.int _)⟩
   ·exact om_of op_mulW ⟨_,_,rfl,rfl,(show CMulW _ _ from of_decide_eq_true (p:=_ < 1000000) c),q.now rfl (.int _)⟩
  ·cases e
 | div =>
  cases da <;> cases db <;> try (simp only [dBin,dDiv] at e; cases e)
  obtain rfl:=hx.int
  obtain rfl:=hy.int
  simp only [dBin,dDiv,R.when] at e
  split at e
  ·rename_i c
   cases e
   unfold divOk at c
   rw [Bool.and_eq_true] at c
   exact om_of op_fdivW ⟨_,_,rfl,rfl,⟨of_decide_eq_true c.1,of_decide_eq_true c.2⟩,q.now rfl (.int _)⟩
  ·cases e
 | mod =>
  cases da <;> cases db <;> try (simp only [dBin,dMod] at e; cases e)
  obtain rfl:=hx.int
  obtain rfl:=hy.int
  simp only [dBin,dMod,R.when] at e
  split at e
  ·rename_i c
   cases e
   exact om_of op_mod ⟨_,_,rfl,rfl,of_decide_eq_true c,q.now rfl (.int _)⟩
  ·cases e
 | pow =>
  cases da <;> cases db <;> try (simp only [dBin,dPow] at e; cases e)
  obtain rfl:=hx.int
  obtain rfl:=hy.int
  simp only [dBin,dPow,R.when] at e
  split at e
  ·rename_i c
   cases e
   rw [Bool.and_eq_true,Bool.and_eq_true] at c
   exact om_of op_pow ⟨_,_,rfl,rfl,⟨of_decide_eq_true c.1.1,of_decide_eq_true c.1.2,of_decide_eq_true c.2⟩,q.now rfl (.int _)⟩
  ·cases e
theorem zru {ds:List D} {dk d:D} {a:Addr} (hx:OwnAt X.K H P a (.lst ds)) (hy:RepT X.K H P dk y) (e:dRep (.lst ds) dk=.ok d) (np:NewP P H) (q:OutF X.K P H d Q):OM X (binaryOp .Mult) (.ref a) y H Q:=by
 cases dk <;> try (simp only [dRep] at e; cases e)
 rename_i k
 obtain rfl:=hy.int
 obtain ⟨vs,h,r⟩:=hx
 simp only [dRep,R.when] at e
 split at e
 ·rename_i c
  cases e
  unfold repOk at c
  rw [Bool.and_eq_true,Bool.and_eq_true] at c
  refine om_of op_rep ⟨a,k,vs,rfl,rfl,h,of_decide_eq_true c.1.1,of_decide_eq_true c.1.2,by rw [<- r.length]; exact of_decide_eq_true c.2,fun p hp=>zaC hp (np p hp) (r.rep _) q⟩
 ·cases e
theorem zok {da d:D} (hx:RepT X.K H P da x) (e:dNeg da=.ok d) (q:OutF X.K P H d Q):rU (fun i=>.int (-i)) x H Q:=by
 cases da <;> try (simp only [dNeg] at e; cases e)
 obtain rfl:=hx.int
 exact ⟨_,rfl,q.now rfl (.int _)⟩
theorem zaY {da:D} {b:Bool} (hx:RepT X.K H P da x) (e:zac da=.ok b):TruV X.K x H b:=by
 cases da with
 | non=>cases e; obtain rfl:=hx.non; rfl
 | bl c=>cases e; obtain rfl:=hx.bl; rfl
 | int i=>cases e; obtain rfl:=hx.int; rfl
 | str s =>
  obtain rfl:=hx.str
  simp only [zac,R.when] at e
  split at e
  ·rename_i c
   cases e
   exact ⟨of_decide_eq_true c,rfl⟩
  ·cases e
 | tup xs =>
  cases e
  obtain ⟨a,vs,rfl,h,r⟩:=hx.tup
  refine .inr (.inl ⟨vs,SqT.of h,?_⟩)
  cases r <;> rfl
 | lst xs =>
  cases e
  obtain ⟨a,vs,rfl,h,r⟩:=hx.lst
  refine .inl ⟨vs,h,?_⟩
  cases r <;> rfl
 | dK kvs=>cases e
 | dT kvs=>cases e
 | exc c=>cases e
 | tupN c=>cases e
end
end L2.Pf
namespace L2.Pf
open PySem PySem.Spec PyProof.Rows
def copOf:COp -> CmpOp
 | .eq=>.Eq | .ne=>.NotEq | .lt=>.Lt | .le=>.LtE | .gt=>.Gt | .ge=>.GtE | .is=>.Is | .isnot=>.IsNot | .isin=>.In | .notin=>.NotIn
section
variable {K:PySem.W.Frag} {H:Hp} {P:Addr -> Prop}
theorem zcx:∀ xs:List D,D.pys xs=xs.map D.py
 | []=>rfl
 | x :: xs=>by rw [D.pys,zcx xs]; rfl
mutual
theorem Rep.dp:∀ {d:D} {v:V},Rep K H P d v -> d.py.canLay0=true -> Dp K H v d.py
 | _,_,.non,_=>.non
 | _,_,.bl b,_=>.bl b
 | _,_,.int i,_=>.int i
 | _,_,.str s,_=>.str s
 | _,_,.tup h r,e=>.tup (SqT.of h) (Reps.dp r (by simpa [D.py,PyData.canLay0] using e))
 | _,_,.lst h _ r,e=>.lst (.inl h) (Reps.dp r (by simpa [D.py,PyData.canLay0] using e))
 | _,_,.lstK h r,e=>.lst (.inr h) (Reps.dp r (by simpa [D.py,PyData.canLay0] using e))
 | _,_,.dK _ _ _ _,e=>by simp [D.py,PyData.canLay0] at e
 | _,_,.dT _ _ _ _,e=>by simp [D.py,PyData.canLay0] at e
 | _,_,.tupN _ _,e=>by simp [D.py,PyData.canLay0] at e
theorem Reps.dp:∀ {ds:List D} {vs:List V},Reps K H P ds vs -> PyData.canLayAll0 (D.pys ds)=true -> DpAll K H vs (D.pys ds)
 | _,_,.nil,_=>.nil
 | _,_,.cons h t,e=>by
  rw [D.pys,PyData.canLayAll0,Bool.and_eq_true] at e
  exact .cons (Rep.dp h e.1) (Reps.dp t e.2)
end
theorem RepT.dp {d:D} {v:V} (r:RepT K H P d v) (h:d.shaped=true):Dp K H v d.py:=by
 have c:d.py.canLay0=true:=SeqAt.canLay_of_shaped h
 rcases r with r | ⟨a,e,r⟩
 ·exact r.dp c
 ·subst e
  cases d with
  | lst ds =>
   obtain ⟨vs,h1,r⟩:=r
   exact .lst (SqL.of h1) (r.dp (by simpa [D.py,PyData.canLay0] using c))
  | dK kvs=>simp [D.py,PyData.canLay0] at c
  | dT kvs=>simp [D.py,PyData.canLay0] at c
  | _=>exact r.elim
theorem RepT.isNon {d:D} {v:V} (r:RepT K H P d v):decide (v=.non)=isNon d:=by
 rcases r with r | ⟨a,e,r⟩
 ·cases r <;> rfl
 ·subst e
  cases d <;> first | rfl | exact r.elim
theorem zb8 {d:D} {v:V} {k:Key} (r:RepT K H P d v) (e:keyD d=some k):v=kV k:=by
 cases d <;> simp only [keyD] at e <;> cases e
 ·rw [r.int]; rfl
 ·rw [r.str]; rfl
theorem zbf:∀ {ds:List D} {vs:List V} {ks:List Key},Reps K H P ds vs -> keysD ds=some ks -> vs=ks.map kV
 | _,_,_,.nil,e=>by cases e; rfl
 | d :: ds,v :: vs,ks,.cons h t,e=>by
  rw [keysD] at e
  split at e
  ·rename_i k ks' e1 e2
   cases e
   rw [zb8 (.inl h) e1,zbf t e2]
   rfl
  ·cases e
def RelL (K:PySem.W.Frag) (H:Hp) (P:Addr -> Prop):Option D -> Option V -> Prop
 | some d,some v=>Rep K H P d v
 | none,none=>True
 | _,_=>False
theorem zcZ {κ:Type} [DecidableEq κ] (k:κ):∀ {kvs:List (κ × D)} {ws:List (κ × V)},kvs.map (·.1)=ws.map (·.1) -> Reps K H P (kvs.map (·.2)) (ws.map (·.2)) -> RelL K H P (look kvs k) (valV ws k)
 | [],[],_,_=>trivial
 | [],_ :: _,e,_=>by cases e
 | _ :: _,[],e,_=>by cases e
 | (a,d) :: kvs,(b,v) :: ws,e,r=>by
  have e1:a=b:=(List.cons.inj e).1
  have e2:=(List.cons.inj e).2
  subst e1
  cases r with
  | cons h t =>
   have ih:=zcZ k e2 t
   unfold look valV at ih ⊢
   rw [List.find?_cons,List.find?_cons]
   by_cases c:a=k
   ·subst c
    simp only [decide_true,Option.map_some]
    exact h
   ·simpa [c] using ih
theorem zbm {dk:D} {d:D} {x y:V} {o:Option D} (hx:RepT K H P dk x) (hy:RepT K H P d y) (e:dLook dk d=.ok o):∃ a ov,x=.ref a /\ DGet H a y ov /\ RelL K H P o ov:=by
 cases dk <;> (try (simp only [dLook] at e; cases e; done))
 ·rename_i kvs
  obtain ⟨a,ws,rfl,h,k,r⟩:=hx.dK
  simp only [dLook] at e
  cases ek:keyD d with
  | none=>rw [ek] at e; cases e
  | some key =>
   rw [ek] at e
   cases e
   exact ⟨a,_,rfl,.inl ⟨ws,key,h,zb8 hy ek,rfl⟩,zcZ key k r⟩
 ·rename_i kvs
  obtain ⟨a,ws,rfl,h,k,r⟩:=hx.dT
  cases d <;> (try (simp only [dLook] at e; cases e; done))
  rename_i ks
  simp only [dLook] at e
  cases ek:keysD ks with
  | none=>rw [ek] at e; cases e
  | some key =>
   rw [ek] at e
   cases e
   obtain ⟨b,vs,rfl,hb,rb⟩:=hy.tup
   have:=zbf rb ek
   subst this
   exact ⟨a,_,rfl,.inr ⟨ws,key,b,h,rfl,hb,rfl⟩,zcZ key k r⟩
theorem zbM {d:D} {v:V} (r:RepT K H P d v) (e:flatD d=true):flatV v=true:=by
 rcases r with r | ⟨a,_,r⟩
 ·cases r <;> first | rfl | cases e
 ·cases d <;> first | exact r.elim | cases e
theorem zbg:∀ {ds:List D} {vs:List V},Reps K H P ds vs -> ds.all flatD=true -> vs.all flatV=true
 | _,_,.nil,_=>rfl
 | _,_,.cons h t,e=>by
  rw [List.all_cons,Bool.and_eq_true] at e ⊢
  exact ⟨zbM (.inl h) e.1,zbg t e.2⟩
theorem zoN {d e:D} {v u:V} (r:RepT K H P d v) (q:RepT K H P e u) (fd:flatD d=true) (fe:flatD e=true):eqV v u=PyData.eqv d.py e.py:=by
 cases d <;> (try (cases fd; done)) <;> cases e <;> (try (cases fe; done)) <;>
  first
  | (rw [r.non,q.non]; rfl) | (rw [r.non,q.bl]; rfl) | (rw [r.non,q.int]; rfl) | (rw [r.non,q.str]; rfl)
  | (rw [r.bl,q.non]; rfl) | (rw [r.bl,q.bl]; rfl) | (rw [r.bl,q.int]; rfl) | (rw [r.bl,q.str]; rfl)
  | (rw [r.int,q.non]; rfl) | (rw [r.int,q.bl]; rfl) | (rw [r.int,q.int]; rfl) | (rw [r.int,q.str]; rfl)
  | (rw [r.str,q.non]; rfl) | (rw [r.str,q.bl]; rfl) | (rw [r.str,q.int]; rfl) | (rw [r.str,q.str]; rfl)
theorem zcy {d:D} {v:V} (r:RepT K H P d v) (fd:flatD d=true):∀ {ds:List D} {vs:List V},Reps K H P ds vs -> ds.all flatD=true -> inV v vs=ds.any fun z=>PyData.eqv z.py d.py
 | _,_,.nil,_=>rfl
 | _,_,.cons h t,e=>by
  rw [List.all_cons,Bool.and_eq_true] at e
  have ih:=zcy r fd t e.2
  unfold inV at ih ⊢
  rw [List.any_cons,List.any_cons,ih,zoN (.inl h) r e.1 fd]
end
theorem ziK {a b:PyData} (h:PySem.W.alike a b=true) (d:D) (e:a=d.py) (n:isNon d=false):a ≠ .none:=by
 intro z
 subst e
 cases d <;> simp [D.py] at z
 cases n
section
variable {X:Cx} {H:Hp} {P:Addr -> Prop} {Q:VK} {x y:V} {da db:D} {c:Bool}
theorem zgF {op:CmpOp} {p:Int -> Int -> Bool} {q:PyData -> PyData -> Bool} (hu:X.A.units+64 < cLine) (hx:RepT X.K H P da x) (hy:RepT X.K H P db y) (e:dOrd p q da db=.ok c) (hq:Q (.bl c) H)
    (ri:OpR X (compareOp op) (rI0 fun i j=>.bl (p i j)))
    (rd:∀ {s:Shared} {a b:Value} {da db:PyData} {as bs:List Addr} {Q:Value -> Shared -> Prop},Reads s.heap a da as -> Reads s.heap b db bs -> PySem.W.alike da db=true -> da ≠ .none -> X.A.units+min da.depth db.depth < cLine -> Q (.bool (q da db)) s -> wpAny (model X.prog X.w) X.A (compareOp op a b) Q X.xe s) :
    OM X (compareOp op) x y H Q:=by
  have main:R.when (ordOk da db) (.ok (q da.py db.py))=.ok c -> OM X (compareOp op) x y H Q:=fun e=>by
    obtain ⟨g,e⟩:=zae e
    cases e
    unfold ordOk at g
    rw [Bool.and_eq_true,Bool.and_eq_true,Bool.and_eq_true] at g
    obtain ⟨⟨⟨g1,g2⟩,g3⟩,g4⟩:=g
    intro pins s σ v u I rx ry
    obtain ⟨as,r1⟩:=Dp.reads I _ _ _ (hx.dp g1) rx
    obtain ⟨bs,r2⟩:=Dp.reads I _ _ _ (hy.dp g2) ry
    refine rd r1 r2 g3 (ziK g3 da rfl (by simpa using g4)) ?_ ⟨.bl _,H,I,rfl,hq⟩
    exact SeqAt.room_of_shaped g1 hu
  cases da <;> cases db <;> first
    | (have e':_=R.ok c:=e
       obtain rfl:=hx.int
       obtain rfl:=hy.int
       cases e'
       exact om_of ri ⟨_,_,rfl,rfl,hq⟩)
    | exact main e
theorem om_in (hu:X.A.units+65 < cLine) (hx:RepT X.K H P da x) (hy:RepT X.K H P db y) (e:dIn da db=.ok c) (q:Q (.bl c) H):OM X (compareOp .In) x y H Q:=by
 cases db with
 | str b =>
  cases da <;> simp only [dIn] at e <;> cases e
  obtain rfl:=hx.str
  obtain rfl:=hy.str
  exact om_of op_in_str ⟨_,_,rfl,rfl,q⟩
 | lst xs =>
  obtain ⟨g,e⟩:=zae (show R.when (da.shaped && D.shaped (.lst xs)) _=_ from e)
  cases e
  rw [Bool.and_eq_true] at g
  refine om_of (op_inD hu) ⟨da.py,D.pys xs,hx.dp g.1,hy.dp g.2,g.1,g.2,?_⟩
  rw [zcx,List.any_map]
  exact q
 | tup xs =>
  obtain ⟨g,e⟩:=zae (show R.when (flatD da && xs.all flatD) _=_ from e)
  cases e
  rw [Bool.and_eq_true] at g
  obtain ⟨a,vs,rfl,h,r⟩:=hy.tup
  refine om_of op_in_seq ⟨a,vs,rfl,.inr (SqT.of h),zbM hx g.1,zbg r g.2,?_⟩
  show Q (.bl (if false=true then _ else inV x vs)) H
  rw [if_neg Bool.false_ne_true,zcy hx g.1 r g.2]
  exact q
 | tupN xs =>
  obtain ⟨g,e⟩:=zae (show R.when (flatD da && (xs.map D.str).all flatD) _=_ from e)
  cases e
  obtain ⟨a,o,rfl,h,_⟩:=hy.tupN
  rw [Bool.and_eq_true] at g
  have all:=g.2
  have g:=g.1
  have r:Reps X.K H P (xs.map D.str) (xs.map V.str):=Reps.strs xs
  refine om_of op_in_seq ⟨a,_,rfl,.inr (.inl (.inr ⟨o,h⟩)),zbM hx g,zbg r all,?_⟩
  show Q (.bl (if false=true then _ else inV x _)) H
  rw [if_neg Bool.false_ne_true,zcy hx g r all]
  exact q
 | dK kvs =>
  have e':(dLook (.dK kvs) da).bind (fun o=>.ok o.isSome)=.ok c:=e
  cases el:dLook (.dK kvs) da with
  | ok o =>
   rw [el] at e'
   cases e'
   obtain ⟨a,ov,rfl,g,rl⟩:=zbm hy hx el
   intro pins s σ v u I rx ry
   cases ry
   refine d_in (by omega) I g rx fun s' I'=>⟨.bl _,H,I',rfl,?_⟩
   cases o <;> cases ov <;> first | exact q | exact rl.elim
  | exc c=>rw [el] at e'; cases e'
  | bad=>rw [el] at e'; cases e'
 | dT kvs =>
  have e':(dLook (.dT kvs) da).bind (fun o=>.ok o.isSome)=.ok c:=e
  cases el:dLook (.dT kvs) da with
  | ok o =>
   rw [el] at e'
   cases e'
   obtain ⟨a,ov,rfl,g,rl⟩:=zbm hy hx el
   intro pins s σ v u I rx ry
   cases ry
   refine d_in (by omega) I g rx fun s' I'=>⟨.bl _,H,I',rfl,?_⟩
   cases o <;> cases ov <;> first | exact q | exact rl.elim
  | exc c=>rw [el] at e'; cases e'
  | bad=>rw [el] at e'; cases e'
 | _=>cases e
theorem zlU (hu:X.A.units+65 < cLine) (hx:RepT X.K H P da x) (hy:RepT X.K H P db y) (e:dIn da db=.ok c) (q:Q (.bl (!c)) H):OM X (compareOp .NotIn) x y H Q:=by
 cases db with
 | str b =>
  cases da <;> simp only [dIn] at e <;> cases e
  obtain rfl:=hx.str
  obtain rfl:=hy.str
  exact om_of op_notin_str ⟨_,_,rfl,rfl,q⟩
 | lst xs =>
  obtain ⟨g,e⟩:=zae (show R.when (da.shaped && D.shaped (.lst xs)) _=_ from e)
  cases e
  rw [Bool.and_eq_true] at g
  refine om_of (op_notInD hu) ⟨da.py,D.pys xs,hx.dp g.1,hy.dp g.2,g.1,g.2,?_⟩
  rw [zcx,List.any_map]
  exact q
 | tup xs =>
  obtain ⟨g,e⟩:=zae (show R.when (flatD da && xs.all flatD) _=_ from e)
  cases e
  rw [Bool.and_eq_true] at g
  obtain ⟨a,vs,rfl,h,r⟩:=hy.tup
  refine om_of op_notIn_seq ⟨a,vs,rfl,.inr (SqT.of h),zbM hx g.1,zbg r g.2,?_⟩
  show Q (.bl (if true=true then !inV x vs else _)) H
  rw [if_pos rfl,zcy hx g.1 r g.2]
  exact q
 | tupN xs =>
  obtain ⟨g,e⟩:=zae (show R.when (flatD da && (xs.map D.str).all flatD) _=_ from e)
  cases e
  obtain ⟨a,o,rfl,h,_⟩:=hy.tupN
  rw [Bool.and_eq_true] at g
  have all:=g.2
  have g:=g.1
  have r:Reps X.K H P (xs.map D.str) (xs.map V.str):=Reps.strs xs
  refine om_of op_notIn_seq ⟨a,_,rfl,.inr (.inl (.inr ⟨o,h⟩)),zbM hx g,zbg r all,?_⟩
  show Q (.bl (if true=true then !inV x _ else _)) H
  rw [if_pos rfl,zcy hx g r all]
  exact q
 | dK kvs =>
  have e':(dLook (.dK kvs) da).bind (fun o=>.ok o.isSome)=.ok c:=e
  cases el:dLook (.dK kvs) da with
  | ok o =>
   rw [el] at e'
   cases e'
   obtain ⟨a,ov,rfl,g,rl⟩:=zbm hy hx el
   intro pins s σ v u I rx ry
   cases ry
   refine d_notIn (by omega) I g rx fun s' I'=>⟨.bl _,H,I',rfl,?_⟩
   cases o <;> cases ov <;> first | exact q | exact rl.elim
  | exc c=>rw [el] at e'; cases e'
  | bad=>rw [el] at e'; cases e'
 | dT kvs =>
  have e':(dLook (.dT kvs) da).bind (fun o=>.ok o.isSome)=.ok c:=e
  cases el:dLook (.dT kvs) da with
  | ok o =>
   rw [el] at e'
   cases e'
   obtain ⟨a,ov,rfl,g,rl⟩:=zbm hy hx el
   intro pins s σ v u I rx ry
   cases ry
   refine d_notIn (by omega) I g rx fun s' I'=>⟨.bl _,H,I',rfl,?_⟩
   cases o <;> cases ov <;> first | exact q | exact rl.elim
  | exc c=>rw [el] at e'; cases e'
  | bad=>rw [el] at e'; cases e'
 | _=>cases e
theorem om_is (hx:RepT X.K H P da x) (hy:RepT X.K H P db y) (e:dIs da db=.ok c):(Q (.bl c) H -> OM X (compareOp .Is) x y H Q) /\ (Q (.bl (!c)) H -> OM X (compareOp .IsNot) x y H Q):=by
 have non:db=.non -> (Q (.bl c) H -> OM X (compareOp .Is) x y H Q) /\ (Q (.bl (!c)) H -> OM X (compareOp .IsNot) x y H Q):=fun z=>by
  subst z
  obtain rfl:=hy.non
  have e':c=isNon da:=by cases da <;> (cases e; rfl)
  subst e'
  rw [<- hx.isNon]
  exact ⟨fun q=>om_of op_isN ⟨rfl,q⟩,fun q=>om_of op_notN ⟨rfl,q⟩⟩
 cases db with
 | non=>exact non rfl
 | bl b =>
  cases da <;> (try (cases e; done))
  rename_i a
  have e':c=decide (a=b):=by cases e; rfl
  subst e'
  obtain rfl:=hx.bl
  obtain rfl:=hy.bl
  exact ⟨fun q=>om_of op_is_bl ⟨a,b,rfl,rfl,q⟩,fun q=>om_of op_isnot_bl ⟨a,b,rfl,rfl,q⟩⟩
 | _=>cases da <;> cases e
theorem om_eq (hu:X.A.units+65 < cLine) (hx:RepT X.K H P da x) (hy:RepT X.K H P db y) (e:dEq da db=.ok c):(Q (.bl c) H -> OM X (compareOp .Eq) x y H Q) /\ (Q (.bl (!c)) H -> OM X (compareOp .NotEq) x y H Q):=by
 obtain ⟨g,e⟩:=zae e
 cases e
 rw [Bool.and_eq_true] at g
 exact ⟨fun q=>om_of (op_eqD (by omega)) ⟨_,_,hx.dp g.1,hy.dp g.2,g.1,g.2,q⟩,fun q=>om_of (op_neD (by omega)) ⟨_,_,hx.dp g.1,hy.dp g.2,g.1,g.2,q⟩⟩
theorem zd8 {r:R Bool} {c:Bool} (h:(r.bind fun c=>.ok (!c))=R.ok c):∃ b,r=.ok b /\ c=!b:=by
 cases r with
 | ok b=>cases h; exact ⟨b,rfl,rfl⟩
 | exc c=>cases h
 | bad=>cases h
theorem za9 {op:COp} (hu:X.A.units+65 < cLine) (hx:RepT X.K H P da x) (hy:RepT X.K H P db y) (e:dCmp op da db=.ok c) (q:Q (.bl c) H):OM X (compareOp (copOf op)) x y H Q:=by
 cases op with
 | eq=>exact (om_eq hu hx hy e).1 q
 | ne=>obtain ⟨b,e1,rfl⟩:=zd8 (show (dEq da db).bind _=_ from e); exact (om_eq hu hx hy e1).2 q
 | lt=>exact zgF (by omega) hx hy e q op_lt PySem.W.lt_data
 | le=>exact zgF (p:=fun i j=>decide (i <= j)) (q:=fun x y=>!PySem.W.dataLt y x) (by omega) hx hy e q op_le PySem.W.le_data
 | gt=>exact zgF (p:=fun i j=>decide (j < i)) (q:=fun x y=>PySem.W.dataLt y x) (by omega) hx hy e q op_gt PySem.W.gt_data
 | ge=>exact zgF (p:=fun i j=>decide (j <= i)) (q:=fun x y=>!PySem.W.dataLt x y) (by omega) hx hy e q op_ge PySem.W.ge_data
 | is=>exact (om_is hx hy e).1 q
 | isnot=>obtain ⟨b,e1,rfl⟩:=zd8 (show (dIs da db).bind _=_ from e); exact (om_is hx hy e1).2 q
 | isin=>exact om_in hu hx hy e q
 | notin=>obtain ⟨b,e1,rfl⟩:=zd8 (show (dIn da db).bind _=_ from e); exact zlU hu hx hy e1 q
end
end L2.Pf
namespace L2.Pf
open PySem PySem.Spec PyProof.Rows
section
variable {prog:Program} {w:World} {K:Type} [DecidableEq K] {knd:HeapKind prog w K} {A:Around} {E:Value -> Shared -> Prop} {s:Shared}
theorem zeM {h:Heap} {d:Addr} {xs:List (K × Addr × Value)} (hd:h.DictOfH knd d xs) (hst:∀ h',(∀ b o,h.get? b=some o -> h'.get? b=some o) -> ∀ x ∈ xs,knd.is h' x.1 x.2.1) (o:Obj):(h.push o).DictOfH knd d xs:=by
 obtain ⟨ob,es,ep,e,c,dd,k,i,n⟩:=hd
 exact ⟨ob,es,ep,Heap.get?_push_of_some _ e,c,dd,k,hst _ fun b o e=>Heap.get?_push_of_some _ e,n⟩
theorem zcS {h:Shared} {d:Addr} {xs:List (K × Addr × Value)} (hd:h.heap.DictOfH knd d xs):h.TypeIs (.ref d) "dict":=by
 obtain ⟨ob,es,ep,e,c,_⟩:=hd
 exact ⟨ob,e,c.1⟩
theorem zhA {o:Addr} {more:List (K × Addr × Value)} {Q:Value -> Shared -> Prop} (hu:knd.room A.in1.in1) (hoS:(o == sysModules)=false) (ho:s.heap.DictOfH knd o more) (hsz:more.length <= sizeLine)
  (hty:∀ s':Shared,(∀ b o,s.heap.get? b=some o -> s'.heap.get? b=some o) -> ∀ x ∈ more,s'.TypeIs (.ref x.2.1) "tuple") (hap:(more.map fun x=>knd.hash x.1).Nodup)
  (hst:∀ h',(∀ b o,s.heap.get? b=some o -> h'.get? b=some o) -> ∀ x ∈ more,knd.is h' x.1 x.2.1)
  (h:∀ h',h'.DictOfH knd s.heap.objs.size more -> Heap.SameBut s.heap.objs.size (s.heap.push { cls:=.type "dict",data:=.dict #[] }) h' -> Q (.ref s.heap.objs.size) { s with heap:=h' }) :
  wpAny (model prog w) A (call (.type "dict") [.ref o]) Q E s:=by
 refine callType_codes (Q₁:=fun obj s₁=>obj=.ref s.heap.objs.size /\ s₁={ s with heap:=s.heap.push { cls:=.type "dict",data:=.dict #[] } }) F.kt_called_dict (F.kt_typeCall_dict_1 _) F.entry_dict_init (kt_code_dict_new _ ⟨rfl,rfl⟩) ?_
 rintro obj s₁ ⟨rfl,rfl⟩
 have hnew:(s.heap.push { cls:=.type "dict",data:=.dict #[] }).DictOfH knd s.heap.objs.size []:=Heap.DictOfH.new s.heap
 have hk:∀ b u,s.heap.get? b=some u -> (s.heap.push { cls:=.type "dict",data:=.dict #[] }).get? b=some u:=fun b u e=>Heap.get?_push_of_some _ e
 have ho':(s.heap.push { cls:=.type "dict",data:=.dict #[] }).DictOfH knd o more:=zeM ho hst _
 have hn:(more.map (·.1)).Nodup:=let ⟨_,_,_,_,_,_,_,_,hn⟩:=ho; hn
 have hdo:s.heap.objs.size ≠ o:=by
  obtain ⟨_,_,_,hg,_⟩:=ho
  exact fun e=>absurd (Heap.lt_size hg) (by rw [e]; exact Nat.lt_irrefl _)
 have hT:Shared.TypeIs { s with heap:=s.heap.push { cls:=.type "dict",data:=.dict #[] } } (.ref o) "dict":=zcS ho'
 have hTn:Shared.TypeIs { s with heap:=s.heap.push { cls:=.type "dict",data:=.dict #[] } } (.ref s.heap.objs.size) "dict":=zcS hnew
 refine ⟨hTn,F.args_dict_init_2 _ _,?_⟩
 unfold Builtin.«dict.__init__»
 refine wpAny_bind ?_
 unfold Builtin.Dict.selfAndRest
 refine wpAny_bind (wpAny_notOrdered_dict hTn ?_)
 show wpAny _ _ (pure (s.heap.objs.size,[Value.ref o])) _ _ _
 refine wpAny_pure ?_
 show wpAny _ _ (Builtin.Dict.updateFrom "dict.__init__" s.heap.objs.size (.ref o) [] .none) _ _ _
 unfold Builtin.Dict.updateFrom
 refine wpAny_bind (wpAny_typeOf hT ?_)
 rw [if_neg (by decide)]
 refine wpAny_bind ?_
 unfold Builtin.Dict.merge
 refine wpAny_bind ?_
 unfold Builtin.Dict.readDirectly
 refine wpAny_bind (wpAny_isInstance hT isSubtype_dict_dict ?_)
 simp only [Bool.not_true,Bool.false_eq_true,if_false]
 refine wpAny_bind (wpAny_specialOf hT F.slot_dict_iter.lookup (wpAny_pure ?_))
 simp only [beq_self_eq_true,if_true]
 refine wpAny_bind (wpAny_pure ?_)
 refine wpAny_mergeDict_heap (hsz:=by simpa using hsz) hu hdo hoS hnew ho' (.inr ⟨hty _ hk,hap⟩) fun h' hd' _ hs'=>?_
 show wpAny _ _ (Builtin.Dict.addKeywords s.heap.objs.size [] >>= _) _ _ _
 rw [storedAllH_nil_of_nodup more hn] at hd'
 exact wpAny_bind (wpAny_pure (wpAny_pure ⟨rfl,h h' hd' hs'⟩))
end
theorem zeN {w:World} {P:Program}:∀ {ks:List Key} {hs:List Int},zcv ks=some hs -> ks.map (mixKind P w).hash=hs
 | [],_,e=>by cases e; rfl
 | k :: ks,hs,e=>by
  rw [zcv] at e
  cases k with
  | inr x=>cases e
  | inl i =>
   cases e2:zcv ks with
   | none=>rw [e2] at e; cases e
   | some r =>
    rw [e2] at e
    cases e
    rw [List.map_cons,zeN e2]
    rfl
theorem ziL {w:World} {P:Program}:∀ {ks:List (List Key)} {hs:List Int},zbe ks=some hs -> ks.map (tupleKind (mixKind P w)).hash=hs
 | [],_,e=>by cases e; rfl
 | k :: ks,hs,e=>by
  rw [zbe] at e
  cases e1:zfD k with
  | none=>rw [e1] at e; cases e
  | some z =>
   cases e2:zbe ks with
   | none=>rw [e1,e2] at e; cases e
   | some r =>
    rw [e1,e2] at e
    cases e
    rw [List.map_cons,ziL e2]
    unfold zfD at e1
    cases e3:zcv k with
    | none=>rw [e3] at e1; cases e1
    | some q =>
     rw [e3] at e1
     cases e1
     show tupleKeyHash (mixKind P w) k :: r=_
     unfold tupleKeyHash
     rw [zeN e3]
theorem zlV {w:World} {P:Program} {ks:List (List Key)} (h:zgE ks=true):(ks.map (tupleKind (mixKind P w)).hash).Nodup:=by
 unfold zgE at h
 cases e:zbe ks with
 | none=>rw [e] at h; cases h
 | some hs =>
  rw [e] at h
  rw [ziL e]
  exact of_decide_eq_true h
section
variable {X:Cx}
theorem zhB (hu:X.A.units+2 < cLine):CallR X (.type "dict") (fun xs H Q=>∃ (a:Addr) (kvs:List (List Key × V)),xs=[.ref a] /\ Rd H a (.dT kvs) /\ zgE (kvs.map (·.1))=true /\ ∀ p,H p=none -> Q (.ref p) (upd H p (.dT kvs))):=by
 intro pins s σ H xs us Q I r q
 obtain ⟨a,kvs,ex,hd,hap,q⟩:=q
 subst ex
 obtain ⟨u,eu,rx⟩:=vals1 r
 subst eu
 cases rx
 obtain ⟨z,lo,vs,rel,dd⟩:=dt_rd I.hok hd
 have el:kvs.length=vs.length:=rel.length
 have ek:kvs.map (·.1)=vs.map (·.1):=by
  clear dd hap q z hd el
  induction rel with
  | nil=>rfl
  | cons h t ih=>rw [List.map_cons,List.map_cons,h.1,ih]
 have hkey:∀ x ∈ vs,H x.2.1=some (.tup (x.1.map kV)):=by
  clear dd hap q z hd el ek
  induction rel with
  | nil=>intro x hx; exact nomatch hx
  | @cons p y ps ys h t ih =>
   intro x hx
   rcases List.mem_cons.mp hx with e | hx
   ·subst e; rw [<- h.1]; exact h.2.1
   ·exact ih x hx
 have hst:∀ h',(∀ b o,s.heap.get? b=some o -> h'.get? b=some o) -> ∀ x ∈ vs,(tupleKind (mixKind X.prog X.w)).is h' x.1 x.2.1:=fun h' hk x hx=>by
  obtain ⟨o,its,n,h1,h2,h3,h4⟩:=key_of I.hok (hkey x hx)
  exact ⟨o,its,n,hk _ _ h1,h2,h3,h4⟩
 refine zhA (knd:=tupleKind (mixKind X.prog X.w)) (show X.A.units+1+1 < cLine from hu) lo dd (by rw [<- el]; exact z) (fun s' hk x hx=>?_) (by
  have:=zlV (w:=X.w) (P:=X.prog) hap
  rw [ek,List.map_map] at this
  exact this) hst fun h' d' hs=>?_
 ·obtain ⟨o,its,n,h1,h2,h3,h4⟩:=key_of I.hok (hkey x hx)
  exact ⟨o,hk _ _ h1,h2⟩
 ·have hm:(s.heap.objs.size == sysModules)=false:=beq_eq_false_iff_ne.mpr (Nat.ne_of_gt I.big)
  obtain ⟨o,es,ep,g1,g2,g3,g4,g5,g6⟩:=d'
  refine ⟨.ref s.heap.objs.size,upd H s.heap.objs.size (.dT kvs),I.laid (t':=s.toks) (fun b u e=>(hs.2 b (Nat.ne_of_lt (Heap.lt_size e))).trans (Heap.get?_push_of_some _ e)) (Nat.le_refl _)
   (show ObjOk X.prog X.w _ _ _ (.dT kvs) from ⟨z,hm,vs,Paired.mapP rel fun p y r=>⟨r.1,?_,r.2.2⟩,o,es,ep,g1,g2,g3,g4,g6⟩),rfl,q _ (I.hok.fresh (Nat.le_refl _))⟩
  rw [upd_ne (ne_of_none r.2.1 (I.hok.fresh (Nat.le_refl _)))]
  exact r.2.1
end
end L2.Pf
namespace L2.Pf
open PySem PySem.Spec PyProof.Rows
theorem bind_ok {α β:Type} {r:R α} {f:α -> R β} {b:β} (h:r.bind f=.ok b):∃ a,r=.ok a /\ f a=.ok b:=by
 cases r with
 | ok a=>exact ⟨a,rfl,h⟩
 | exc c=>cases h
 | bad=>cases h
theorem of_ok {α:Type} {o:Option α} {a:α} (h:R.of o=.ok a):o=some a:=by
 cases o with
 | none=>cases h
 | some b=>cases h; rfl
section
variable {K:PySem.W.Frag} {H:Hp} {P:Addr -> Prop}
theorem ziM {ds:List D} {vs:List V} {i:Int} {d:D} (r:Reps K H P ds vs) (e:atI ds i=some d):∃ v,atI vs i=some v /\ Rep K H P d v:=by
 unfold atI at e ⊢
 rw [<- r.length]
 cases ej:ixN ds.length i with
 | none=>rw [ej] at e; cases e
 | some j =>
  rw [ej] at e
  exact r.get e
theorem ziN {ds:List D} {vs:List V} {lo hi:Option Int} (r:Reps K H P ds vs):Reps K H P (cut ds lo hi) (cutV vs lo hi):=by
 unfold cut cutV
 rw [<- r.length]
 exact (r.drop _).take _
inductive RepTs (K:PySem.W.Frag) (H:Hp) (P:Addr -> Prop):List D -> List V -> Prop
 | nil:RepTs K H P [] []
 | cons {d:D} {v:V} {ds:List D} {vs:List V} (h:RepT K H P d v) (t:RepTs K H P ds vs):RepTs K H P (d :: ds) (v :: vs)
theorem RepTs.one {d:D} {vs:List V} (r:RepTs K H P [d] vs):∃ v,vs=[v] /\ RepT K H P d v:=by
 cases r with
 | cons h t=>cases t; exact ⟨_,rfl,h⟩
theorem RepTs.two {d e:D} {vs:List V} (r:RepTs K H P [d,e] vs):∃ v u,vs=[v,u] /\ RepT K H P d v /\ RepT K H P e u:=by
 cases r with
 | cons h t =>
  obtain ⟨u,rfl,q⟩:=t.one
  exact ⟨_,_,rfl,h,q⟩
theorem zbn:∀ {xs:List D} {ns:List Int},intsD xs=some ns -> xs=ns.map .int
 | [],_,e=>by cases e; rfl
 | .int i :: xs,ns,e=>by
  rw [intsD] at e
  cases q:intsD xs with
  | none=>rw [q] at e; cases e
  | some r=>rw [q] at e; cases e; rw [zbn q]; rfl
 | .non :: _,_,e=>by cases e
 | .bl _ :: _,_,e=>by cases e
 | .str _ :: _,_,e=>by cases e
 | .tup _ :: _,_,e=>by cases e
 | .lst _ :: _,_,e=>by cases e
 | .dK _ :: _,_,e=>by cases e
 | .dT _ :: _,_,e=>by cases e
 | .exc _ :: _,_,e=>by cases e
theorem ziO:∀ {xs:List D} {ns:List Bool},bls xs=some ns -> xs=ns.map .bl
 | [],_,e=>by cases e; rfl
 | .bl i :: xs,ns,e=>by
  rw [bls] at e
  cases q:bls xs with
  | none=>rw [q] at e; cases e
  | some r=>rw [q] at e; cases e; rw [ziO q]; rfl
 | .non :: _,_,e=>by cases e
 | .int _ :: _,_,e=>by cases e
 | .str _ :: _,_,e=>by cases e
 | .tup _ :: _,_,e=>by cases e
 | .lst _ :: _,_,e=>by cases e
 | .dK _ :: _,_,e=>by cases e
 | .dT _ :: _,_,e=>by cases e
 | .exc _ :: _,_,e=>by cases e
theorem zfE:∀ {xs:List D} {ns:List Str},strs' xs=some ns -> xs=ns.map .str
 | [],_,e=>by cases e; rfl
 | .str i :: xs,ns,e=>by
  rw [strs'] at e
  cases q:strs' xs with
  | none=>rw [q] at e; cases e
  | some r=>rw [q] at e; cases e; rw [zfE q]; rfl
 | .non :: _,_,e=>by cases e
 | .bl _ :: _,_,e=>by cases e
 | .int _ :: _,_,e=>by cases e
 | .tup _ :: _,_,e=>by cases e
 | .lst _ :: _,_,e=>by cases e
 | .dK _ :: _,_,e=>by cases e
 | .dT _ :: _,_,e=>by cases e
 | .exc _ :: _,_,e=>by cases e
theorem za1:∀ {ns:List Int} {vs:List V},Reps K H P (ns.map .int) vs -> vs=ns.map .int
 | [],_,.nil=>rfl
 | n :: ns,_,.cons h t=>by cases h; rw [za1 t]; rfl
theorem zd9:∀ {ns:List Bool} {vs:List V},Reps K H P (ns.map .bl) vs -> vs=ns.map .bl
 | [],_,.nil=>rfl
 | n :: ns,_,.cons h t=>by cases h; rw [zd9 t]; rfl
theorem zdb:∀ {ns:List Str} {vs:List V},Reps K H P (ns.map .str) vs -> vs=ns.map .str
 | [],_,.nil=>rfl
 | n :: ns,_,.cons h t=>by cases h; rw [zdb t]; rfl
theorem ziP:∀ (ns:List Int) (m:Int),maxI m ns ∈ m :: ns /\ ∀ y ∈ m :: ns,y <= maxI m ns
 | [],m=>⟨List.mem_singleton.mpr rfl,fun y hy=>by rw [List.mem_singleton.mp hy]; exact Int.le_refl _⟩
 | x :: xs,m=>by
  obtain ⟨h1,h2⟩:=ziP xs (if x > m then x else m)
  refine ⟨?_,fun y hy=>?_⟩
  ·show maxI (if x > m then x else m) xs ∈ _
   rcases List.mem_cons.mp h1 with e | e
   ·rw [e]; split <;> simp
   ·exact List.mem_cons_of_mem _ (List.mem_cons_of_mem _ e)
  ·show y <= maxI (if x > m then x else m) xs
   have h3:=h2 _ List.mem_cons_self
   rcases List.mem_cons.mp hy with e | e
   ·subst e; exact Int.le_trans (by split <;> omega) h3
   ·rcases List.mem_cons.mp e with e | e
    ·subst e; exact Int.le_trans (by split <;> omega) h3
    ·exact h2 y (List.mem_cons_of_mem _ e)
theorem ziQ:∀ (ns:List Int) (m:Int),minI m ns ∈ m :: ns /\ ∀ y ∈ m :: ns,minI m ns <= y
 | [],m=>⟨List.mem_singleton.mpr rfl,fun y hy=>by rw [List.mem_singleton.mp hy]; exact Int.le_refl _⟩
 | x :: xs,m=>by
  obtain ⟨h1,h2⟩:=ziQ xs (if x < m then x else m)
  refine ⟨?_,fun y hy=>?_⟩
  ·show minI (if x < m then x else m) xs ∈ _
   rcases List.mem_cons.mp h1 with e | e
   ·rw [e]; split <;> simp
   ·exact List.mem_cons_of_mem _ (List.mem_cons_of_mem _ e)
  ·show minI (if x < m then x else m) xs <= y
   have h3:=h2 _ List.mem_cons_self
   rcases List.mem_cons.mp hy with e | e
   ·subst e; exact Int.le_trans h3 (by split <;> omega)
   ·rcases List.mem_cons.mp e with e | e
    ·subst e; exact Int.le_trans h3 (by split <;> omega)
    ·exact h2 y (List.mem_cons_of_mem _ e)
theorem zea {α:Type} (p:α -> Bool):∀ l:List α,(l.find? p).isSome=l.any p
 | []=>rfl
 | a :: l=>by
  rw [List.find?_cons,List.any_cons]
  cases p a with
  | true=>rfl
  | false=>exact zea p l
theorem zbN {κ:Type} [DecidableEq κ] (k:κ) (d:D) (v:V):∀ {kvs:List (κ × D)} {ws:List (κ × V)},kvs.map (·.1)=ws.map (·.1) -> (put kvs k d).map (·.1)=(putK ws k v).map (·.1):=by
 intro kvs ws e
 have any:(kvs.find? fun kv=>decide (kv.1=k)).isSome=ws.any fun kv=>decide (kv.1=k):=by
  rw [zea]
  have h1:(kvs.any fun kv=>decide (kv.1=k))=(kvs.map (·.1)).any fun x=>decide (x=k):=by rw [List.any_map]; rfl
  have h2:(ws.any fun kv=>decide (kv.1=k))=(ws.map (·.1)).any fun x=>decide (x=k):=by rw [List.any_map]; rfl
  rw [h1,h2,e]
 unfold put putK
 rw [any]
 split
 ·rw [List.map_map,List.map_map]
  have f1:((fun kv:κ × D=>kv.1) ∘ fun kv=>if kv.1=k then (kv.1,d) else kv)=fun kv=>kv.1:=by
   funext kv; simp only [Function.comp]; split <;> rfl
  have f2:((fun kv:κ × V=>kv.1) ∘ fun kv=>if kv.1=k then (kv.1,v) else kv)=fun kv=>kv.1:=by
   funext kv; simp only [Function.comp]; split <;> rfl
  rw [f1,f2]
  exact e
 ·rw [List.map_append,List.map_append,e]; rfl
theorem zbO {κ:Type} [DecidableEq κ] {P:Addr -> Prop} (k:κ) {d:D} {v:V} (rv:Rep K H P d v) {kvs:List (κ × D)} {ws:List (κ × V)} (e:kvs.map (·.1)=ws.map (·.1)) (r:Reps K H P (kvs.map (·.2)) (ws.map (·.2))):Reps K H P ((put kvs k d).map (·.2)) ((putK ws k v).map (·.2)):=by
 have any:(kvs.find? fun kv=>decide (kv.1=k)).isSome=ws.any fun kv=>decide (kv.1=k):=by
  rw [zea]
  have h1:(kvs.any fun kv=>decide (kv.1=k))=(kvs.map (·.1)).any fun x=>decide (x=k):=by rw [List.any_map]; rfl
  have h2:(ws.any fun kv=>decide (kv.1=k))=(ws.map (·.1)).any fun x=>decide (x=k):=by rw [List.any_map]; rfl
  rw [h1,h2,e]
 unfold put putK
 rw [any]
 split
 ·rename_i c; clear any c
  induction kvs generalizing ws with
  | nil=>cases ws with
   | nil=>exact .nil
   | cons _ _=>cases e
  | cons p kvs ih =>
   cases ws with
   | nil=>cases e
   | cons q ws =>
    have e1:p.1=q.1:=(List.cons.inj e).1
    have e2:=(List.cons.inj e).2
    cases r with
    | cons h t =>
     have ih':=ih e2 t
     rw [List.map_cons,List.map_cons,List.map_cons,List.map_cons]
     refine .cons ?_ ih'
     rw [e1]
     by_cases c:q.1=k
     ·rw [if_pos c,if_pos c]; exact rv
     ·rw [if_neg c,if_neg c]; exact h
 ·rw [List.map_append,List.map_append]
  exact r.append (.cons rv .nil)
theorem ziR {kvs:List (Key × D)} {ws:List (Key × V)}:∀ {as:List (Key × D)} {bs:List (Key × V)},kvs.map (·.1)=ws.map (·.1) -> Reps K H P (kvs.map (·.2)) (ws.map (·.2)) -> as.map (·.1)=bs.map (·.1) -> Reps K H P (as.map (·.2)) (bs.map (·.2)) →
  (kvs.foldl (fun acc p=>put acc p.1 p.2) as).map (·.1)=(mergeK bs ws).map (·.1) /\ Reps K H P ((kvs.foldl (fun acc p=>put acc p.1 p.2) as).map (·.2)) ((mergeK bs ws).map (·.2)):=by
 induction kvs generalizing ws with
 | nil =>
  intro as bs e r e2 r2
  cases ws with
  | nil=>exact ⟨e2,r2⟩
  | cons _ _=>cases e
 | cons p kvs ih =>
  intro as bs e r e2 r2
  cases ws with
  | nil=>cases e
  | cons q ws =>
   have h1:p.1=q.1:=(List.cons.inj e).1
   have h2:=(List.cons.inj e).2
   cases r with
   | cons hr ht =>
    have k1:=zbN p.1 p.2 q.2 e2
    have v1:=zbO p.1 hr e2 r2
    rw [h1] at k1 v1
    have:=ih h2 ht k1 v1
    rw [<- h1] at this
    have e3:mergeK bs (q :: ws)=mergeK (putK bs p.1 q.2) ws:=by rw [h1]; rfl
    rw [e3]
    exact this
theorem zeO:∀ {xs:List D} {vs:List V} {kvs:List (Key × D)},Reps K H P xs vs -> zdI xs=some kvs -> ∃ (ps:List Addr) (ws:List (Key × V)),vs=ps.map V.ref /\ Paired (fun p kv=>SqT K H p [kV kv.1,kv.2]) ps ws /\ kvs.map (·.1)=ws.map (·.1) /\ Reps K H P (kvs.map (·.2)) (ws.map (·.2))
 | [],_,kvs,r,e=>by
  cases r; cases e
  exact ⟨[],[],rfl,.nil,rfl,.nil⟩
 | x :: xs,_,kvs,r,e=>by
  cases r with
  | cons h t =>
   cases x <;> (try (cases e; done))
   rename_i ds
   rcases ds with _ | ⟨k,_ | ⟨v,_ | ⟨_,_⟩⟩⟩ <;> (try (cases e; done))
   have e':(match keyD k,zdI xs with
    | some k,some r=>some ((k,v) :: r)
    | _,_=>none)=some kvs:=e
   cases ek:keyD k with
   | none=>rw [ek] at e'; cases e'
   | some key =>
    cases er:zdI xs with
    | none=>rw [ek,er] at e'; cases e'
    | some rest =>
     rw [ek,er] at e'
     cases e'
     obtain ⟨ps,ws,h1,h2,h3,h4⟩:=zeO t er
     cases h with
     | tup hb rb =>
      rename_i b us
      match us,rb with
      | [kv,vv],.cons hk (.cons hv .nil) =>
        have:=zb8 (.inl hk) ek
        subst this
        exact ⟨b :: ps,(key,vv) :: ws,by rw [h1]; rfl,.cons (SqT.of hb) h2,by rw [List.map_cons,List.map_cons,h3],.cons hv h4⟩
end
section
variable {X:Cx} {H:Hp} {P:Addr -> Prop} {Q:VK} {x y:V} {da di d:D}
def zeP:D -> Bool | .dK _=>true | .dT _=>true | _=>false
theorem zoO (hx:RepT X.K H P da x) (hy:RepT X.K H P di y) (e:dIdx da di=.ok d) (nd:zeP da=false) (q:Out X.K P H d Q):rIx X.K x y H Q:=by
 cases da <;> (try (cases nd; done)) <;> (try (cases di <;> cases e; done)) <;> cases di <;> (try (cases e; done))
 ·rename_i s i
  obtain rfl:=hx.str
  obtain rfl:=hy.int
  obtain ⟨c,e⟩:=zae e
  obtain ⟨a,e1,e2⟩:=bind_ok e
  cases e2
  exact .inr (.inr ⟨s,i,a,rfl,rfl,of_decide_eq_true c,of_ok e1,q.now (.str _)⟩)
 ·rename_i xs i
  obtain ⟨a,vs,rfl,h,r⟩:=hx.tup
  obtain rfl:=hy.int
  obtain ⟨v,ev,rv⟩:=ziM r (of_ok e)
  exact .inr (.inl ⟨a,vs,i,v,rfl,rfl,SqT.of h,ev,q.now rv⟩)
 ·rename_i xs i
  obtain ⟨a,vs,rfl,h,r⟩:=hx.lst
  obtain rfl:=hy.int
  obtain ⟨v,ev,rv⟩:=ziM r (of_ok e)
  exact .inl ⟨a,vs,i,v,rfl,rfl,h,ev,q.now rv⟩
 ·rename_i xs i
  obtain ⟨a,o,rfl,h,_⟩:=hx.tupN
  obtain rfl:=hy.int
  obtain ⟨v,ev,rv⟩:=ziM (Reps.strs xs) (of_ok e)
  exact .inr (.inl ⟨a,_,i,v,rfl,rfl,.inl (.inr ⟨o,h⟩),ev,q.now rv⟩)
theorem zlW (hx:RepT X.K H P da x) (hy:RepT X.K H P di y) (e:dIdx da di=.ok d) (nd:zeP da=true) (q:Out X.K P H d Q):∃ a v,x=.ref a /\ DGet H a y (some v) /\ Q v H:=by
 have main:(dLook da di).bind (fun o=>R.of o)=.ok d -> ∃ a v,x=.ref a /\ DGet H a y (some v) /\ Q v H:=fun e=>by
  obtain ⟨o,e1,e2⟩:=bind_ok e
  have:=of_ok e2
  subst this
  obtain ⟨a,ov,ex,g,rl⟩:=zbm hx hy e1
  cases ov with
  | none=>exact rl.elim
  | some v=>exact ⟨a,v,ex,g,q.now rl⟩
 cases da <;> (try (cases nd; done)) <;> exact main e
theorem zeb {lo hi:Option Int} (hx:RepT X.K H P da x) (e:zaH da lo hi=.ok d) (np:NewP P H) (q:OutF X.K P H d Q):(rSlL X.K x lo hi H Q) \/ (rSlA X.K x lo hi H Q) \/ (rSlS x lo hi H Q):=by
 cases da <;> (try (cases e; done))
 ·rename_i s
  obtain rfl:=hx.str
  obtain ⟨c,e⟩:=zae e
  cases e
  exact .inr (.inr ⟨s,rfl,of_decide_eq_true c,q.now rfl (.str _)⟩)
 ·rename_i xs
  obtain ⟨a,vs,rfl,h,r⟩:=hx.tup
  cases e
  refine .inr (.inl ⟨a,vs,rfl,SqT.of h,fun z=>?_,fun _ p hp=>zb0 hp (ziN r) q⟩)
  have ec:cut xs lo hi=xs:=by
   unfold cut
   rw [r.length,z.1,z.2,List.drop_zero,Nat.sub_zero,<- r.length,List.take_length]
  rw [ec] at q
  exact q.now rfl (.tup h r)
 ·rename_i xs
  obtain ⟨a,vs,rfl,h,r⟩:=hx.lst
  cases e
  exact .inl ⟨a,vs,rfl,h,fun p hp=>zaC hp (np p hp) (ziN r) q⟩
end
def zgG:Bi -> Str
 | .tupN=>"tuple" | .len=>"len" | .max2=>"max" | .min2=>"min" | .maxl=>"max" | .minl=>"min" | .sum=>"sum" | .int=>"int" | .str=>"str" | .list=>"list" | .tuple=>"tuple" | .dict=>"dict" | .sorted=>"sorted" | .any=>"any" | .all=>"all"
def biF:Bi -> Value
 | .tupN=>.type "tuple" | .len=>.builtin "len" | .max2=>.builtin "max" | .min2=>.builtin "min" | .maxl=>.builtin "max" | .minl=>.builtin "min" | .sum=>.builtin "sum" | .int=>.type "int" | .str=>.type "str" | .list=>.type "list" | .tuple=>.type "tuple" | .dict=>.type "dict" | .sorted=>.builtin "sorted" | .any=>.builtin "any" | .all=>.builtin "all"
section
variable {X:Cx} {H:Hp} {P:Addr -> Prop} {Q:VK}
theorem zdJ {κ:Type} {kvs:List (κ × D)} {ws:List (κ × V)} (k:kvs.map (·.1)=ws.map (·.1)):kvs.length=ws.length:=by
 have:=congrArg List.length k
 simpa using this
theorem zoP (hc:X.calm=true) {xs:List D} {ns:List Int} {n:Int} {a:Addr} {vs:List V} {K:PySem.W.Frag} (e:intsD xs=some (n :: ns)) (h:SqL X.K H a vs) (r:Reps K H P xs vs) (q:Q (.int (maxI n ns)) H):CM X (.builtin "max") [.ref a] H Q:=by
 have ex:=zbn e
 subst ex
 have ev:=za1 r
 subst ev
 refine cm_of (cr_max hc) ⟨a,n :: ns,rfl,h,Nat.succ_pos _,fun m hm hle=>?_⟩
 obtain ⟨h1,h2⟩:=ziP ns n
 have e1:=hle _ h1
 have e2:=h2 _ hm
 have:m=maxI n ns:=by omega
 rw [this]; exact q
theorem zoQ (hc:X.calm=true) {xs:List D} {ns:List Int} {n:Int} {a:Addr} {vs:List V} {K:PySem.W.Frag} (e:intsD xs=some (n :: ns)) (h:SqL X.K H a vs) (r:Reps K H P xs vs) (q:Q (.int (minI n ns)) H):CM X (.builtin "min") [.ref a] H Q:=by
 have ex:=zbn e
 subst ex
 have ev:=za1 r
 subst ev
 refine cm_of (cr_min hc) ⟨a,n :: ns,rfl,h,Nat.succ_pos _,fun m hm hle=>?_⟩
 obtain ⟨h1,h2⟩:=ziQ ns n
 have e1:=hle _ h1
 have e2:=h2 _ hm
 have:m=minI n ns:=by omega
 rw [this]; exact q
theorem zdc:∀ (ns:List Int) (m:Int),ns.foldl max m=maxI m ns
 | [],_=>rfl
 | x :: xs,m=>by
  show xs.foldl max (max m x)=maxI (if x > m then x else m) xs
  rw [zdc xs,show max m x=(if x > m then x else m) by split <;> omega]
theorem zeQ:∀ (ns:List Int) (m:Int),ns.foldl min m=minI m ns
 | [],_=>rfl
 | x :: xs,m=>by
  show xs.foldl min (min m x)=minI (if x < m then x else m) xs
  rw [zeQ xs,show min m x=(if x < m then x else m) by split <;> omega]
theorem zcz (ns:List Int):PySem.W.AlikeAll (ns.map .int):=by
 refine ⟨fun x hx y hy=>?_,fun x hx=>?_⟩
 ·obtain ⟨i,_,rfl⟩:=List.mem_map.mp hx
  obtain ⟨j,_,rfl⟩:=List.mem_map.mp hy
  rfl
 ·obtain ⟨i,_,rfl⟩:=List.mem_map.mp hx
  intro z; cases z
theorem zbP:∀ ns:List Int,PyData.depthAll (ns.map .int)=0
 | []=>rfl
 | n :: ns=>by
  show max (PyData.depth (.int n)) (PyData.depthAll (ns.map .int))=0
  rw [zbP ns]; rfl
theorem zbQ {h:Heap}:∀ {ns:List Int} {us:List Value},Vals (ns.map V.int) us -> ∃ as,ReadsAll h us (ns.map .int) as
 | [],_,.nil=>⟨_,.nil⟩
 | n :: ns,_,.cons r t=>by
  obtain ⟨k,rfl⟩:=r
  obtain ⟨as,q⟩:=zbQ (h:=h) t
  exact ⟨_,.cons (.int n k) q⟩
theorem zoR (hc:X.calm=true) (hu:X.A.units+65 < cLine) {xs:List D} {ns:List Int} {n:Int} {a:Addr} {vs:List V} (e:intsD xs=some (n :: ns)) (h:H a=some (.tup vs)) (r:Reps X.K H P xs vs) (q:Q (.int (maxI n ns)) H):CM X (.builtin "max") [.ref a] H Q:=by
 have ex:=zbn e
 subst ex
 have ev:=za1 r
 subst ev
 intro pins s σ us I rv
 rw [Vals.ref1 rv]
 obtain ⟨its,ri,ht,_⟩:=I.tuple (SqT.of h)
 obtain ⟨as,hr⟩:=zbQ (h:=s.heap) ri
 refine PySem.W.max_tuple_data (I.ok.hd hc) (show s.heap.IsTuple a its.toArray from ht) (x:=.int n) (xs:=ns.map .int) (as:=as) (by simpa using hr) (zcz (n :: ns)) (by have:=zbP (n :: ns); show _+1+PyData.depthAll ((n :: ns).map .int) < _; omega) fun i v h' tk bs _ rd hk=>?_
 rw [PySem.W.maxD_ints,zdc] at rd
 cases rd with
 | int i t=>exact ⟨.int _,H,I.kept hk,⟨_,rfl⟩,q⟩
theorem zoS (hc:X.calm=true) (hu:X.A.units+65 < cLine) {xs:List D} {ns:List Int} {n:Int} {a:Addr} {vs:List V} (e:intsD xs=some (n :: ns)) (h:H a=some (.tup vs)) (r:Reps X.K H P xs vs) (q:Q (.int (minI n ns)) H):CM X (.builtin "min") [.ref a] H Q:=by
 have ex:=zbn e
 subst ex
 have ev:=za1 r
 subst ev
 intro pins s σ us I rv
 rw [Vals.ref1 rv]
 obtain ⟨its,ri,ht,_⟩:=I.tuple (SqT.of h)
 obtain ⟨as,hr⟩:=zbQ (h:=s.heap) ri
 refine PySem.W.min_tuple_data (I.ok.hd hc) (show s.heap.IsTuple a its.toArray from ht) (x:=.int n) (xs:=ns.map .int) (as:=as) (by simpa using hr) (zcz (n :: ns)) (by have:=zbP (n :: ns); show _+1+PyData.depthAll ((n :: ns).map .int) < _; omega) fun i v h' tk bs _ rd hk=>?_
 rw [PySem.W.minD_ints,zeQ] at rd
 cases rd with
 | int i t=>exact ⟨.int _,H,I.kept hk,⟨_,rfl⟩,q⟩
theorem ziS {K:PySem.W.Frag} {ds:List D} {vs:List V} (r:RepTs K H P ds vs):(ds=[] /\ vs=[]) \/ (∃ d v,ds=[d] /\ vs=[v] /\ RepT K H P d v) \/ (∃ d e v u,ds=[d,e] /\ vs=[v,u] /\ RepT K H P d v /\ RepT K H P e u) \/ ∃ a b c l,ds=a :: b :: c :: l:=by
 cases r with
 | nil=>exact .inl ⟨rfl,rfl⟩
 | cons h t =>
  cases t with
  | nil=>exact .inr (.inl ⟨_,_,rfl,rfl,h⟩)
  | cons h2 t =>
   cases t with
   | nil=>exact .inr (.inr (.inl ⟨_,_,_,_,rfl,rfl,h,h2⟩))
   | cons h3 t=>exact .inr (.inr (.inr ⟨_,_,_,_,rfl⟩))
theorem zdH {X:Cx}:CallR X (.type "tuple") (fun xs H Q=>∃ p ys,xs=[.ref p] /\ SqL X.K H p ys /\ ∀ l o,H l=none -> o.dict=none -> Q (.ref l) (upd H l (.frz o (.tup ys)))):=by
 intro pins s σ H xs us Q I r h
 obtain ⟨p,ys,rfl,hq,q⟩:=h
 obtain ⟨u,rfl,rx⟩:=vals1 r
 cases rx
 obtain ⟨its,r',pl,hz⟩:=I.list hq
 have hlen:=r'.length
 refine call_tuple_list pl.isList (fun h' kp=>?_) (by simp only [List.size_toArray] <;> omega)
 have I1:Inv X pins σ H { s with heap:=h' }:=I.kept (t':=s.toks) kp
 have I2:Inv X pins σ (upd H h'.objs.size (.frz { cls:=.type "tuple",data:=.seq its.toArray } (.tup ys))) { s with heap:=h'.push { cls:=.type "tuple",data:=.seq its.toArray } } :=
  I1.laid (t':=s.toks) (fun b o e=>Heap.get?_push_of_some _ e) (Nat.le_refl _) (show ObjOk X.prog X.w _ _ _ (.frz _ (.tup ys)) from ⟨Heap.get?_push_size _ rfl,hz,its,r',IsTup.new _ _⟩)
 exact ⟨.ref h'.objs.size,_,I2,rfl,q _ _ (I1.hok.fresh (Nat.le_refl _)) rfl⟩
theorem zrv {d0 d:D} {v:V} (hv:RepT X.K H P d0 v) (e:biEv .len [d0]=.ok d) (q:OutF X.K P H d Q):CM X (.builtin "len") [v] H Q:=by
 cases d0 <;> (try (cases e; done))
 ·obtain rfl:=hv.str
  obtain ⟨c,e⟩:=zae e
  cases e
  exact cm_of call_len ⟨_,_,rfl,⟨of_decide_eq_true c,rfl⟩,q.now rfl (.int _)⟩
 ·obtain ⟨a,vs,rfl,h,r⟩:=hv.tup
  cases e
  refine cm_of call_len ⟨_,_,rfl,.inr ⟨_,SqT.of h,rfl⟩,?_⟩
  rw [<- r.length]
  exact q.now rfl (.int _)
 ·obtain ⟨a,vs,rfl,h,r⟩:=hv.lst
  cases e
  refine cm_of call_len ⟨_,_,rfl,.inl ⟨_,h,rfl⟩,?_⟩
  rw [<- r.length]
  exact q.now rfl (.int _)
 ·obtain ⟨a,ws,rfl,h,k,r⟩:=hv.dK
  cases e
  intro pins s σ us I rv
  rw [Vals.ref1 rv]
  exact d_len I h fun t s' I'=>⟨.int ws.length,H,I',⟨t,rfl⟩,by rw [<- zdJ k]; exact q.now rfl (.int _)⟩
 ·obtain ⟨a,ws,rfl,h,k,r⟩:=hv.dT
  cases e
  intro pins s σ us I rv
  rw [Vals.ref1 rv]
  obtain ⟨z,hd,ys,rel,dd⟩:=dt_rd I.hok h
  have hl:ws.length=ys.length:=Paired.length rel
  refine call_len_dictH hd dd (by rw [<- hl]; rw [sizeLine_eq] at z; omega) ?_
  rw [<- hl]
  exact ⟨.int ((ws.length:Nat):Int),H,I.tok _,⟨_,rfl⟩,by rw [<- zdJ k]; exact q.now rfl (.int _)⟩
 ·obtain ⟨a,o,rfl,h,_⟩:=hv.tupN
  cases e
  refine cm_of call_len ⟨_,_,rfl,.inr ⟨_,.inl (.inr ⟨o,h⟩),rfl⟩,?_⟩
  rw [List.length_map]
  rw [List.length_map] at q
  exact q.now rfl (.int _)
def ziT:Bi -> Bool | .sorted=>false | _=>true
theorem cm_bi {b:Bi} {ds:List D} {d:D} {vs:List V} (hc:X.calm=true) (hu:X.A.units+65 < cLine) (hv:RepTs X.K H P ds vs) (e:biEv b ds=.ok d) (np:NewP P H) (hb:ziT b=true) (q:OutF X.K P H d Q):CM X (biF b) vs H Q:=by
 rcases ziS hv with ⟨rfl,rfl⟩ | ⟨d0,v,rfl,rfl,h0⟩ | ⟨d0,d1,v,u,rfl,rfl,h0,h1⟩ | ⟨x,y,z,l,rfl⟩
 ·cases b <;> cases e
 ·cases b with
  | len=>exact zrv h0 e q
  | maxl =>
   cases d0 <;> (try (cases e; done))
   ·obtain ⟨ns,e1,e2⟩:=bind_ok (show (R.of (intsD _)).bind _=_ from e)
    obtain ⟨a,vs,rfl,h,r⟩:=h0.tup
    cases ns with
    | nil=>cases e2
    | cons n ns =>
     cases e2
     exact zoR hc hu (of_ok e1) h r (q.now rfl (.int _))
   ·obtain ⟨ns,e1,e2⟩:=bind_ok (show (R.of (intsD _)).bind _=_ from e)
    obtain ⟨a,vs,rfl,h,r⟩:=h0.lst
    cases ns with
    | nil=>cases e2
    | cons n ns =>
     cases e2
     exact zoP hc (of_ok e1) h r (q.now rfl (.int _))
  | minl =>
   cases d0 <;> (try (cases e; done))
   ·obtain ⟨ns,e1,e2⟩:=bind_ok (show (R.of (intsD _)).bind _=_ from e)
    obtain ⟨a,vs,rfl,h,r⟩:=h0.tup
    cases ns with
    | nil=>cases e2
    | cons n ns =>
     cases e2
     exact zoS hc hu (of_ok e1) h r (q.now rfl (.int _))
   ·obtain ⟨ns,e1,e2⟩:=bind_ok (show (R.of (intsD _)).bind _=_ from e)
    obtain ⟨a,vs,rfl,h,r⟩:=h0.lst
    cases ns with
    | nil=>cases e2
    | cons n ns =>
     cases e2
     exact zoQ hc (of_ok e1) h r (q.now rfl (.int _))
  | sum =>
   cases d0 <;> (try (cases e; done))
   obtain ⟨ns,e1,e2⟩:=bind_ok (show (R.of (intsD _)).bind _=_ from e)
   obtain ⟨a,vs,rfl,h,r⟩:=h0.lst
   cases e2
   have ex:=zbn (of_ok e1)
   subst ex
   have ev:=za1 r
   subst ev
   exact cm_of (cr_sum hc) ⟨a,ns,rfl,h,q.now rfl (.int _)⟩
  | int =>
   cases d0 <;> (try (cases e; done))
   ·obtain rfl:=h0.bl
    cases e
    exact cm_of call_int1 (.inr ⟨_,rfl,q.now rfl (.int _)⟩)
   ·obtain rfl:=h0.int
    cases e
    exact cm_of call_int1 (.inl ⟨_,rfl,q.now rfl (.int _)⟩)
   ·obtain rfl:=h0.str
    obtain ⟨c,e⟩:=zae e
    obtain ⟨n,e1,e2⟩:=bind_ok e
    cases e2
    exact cm_of call_int_str ⟨_,n,rfl,of_ok e1,of_decide_eq_true c,q.now rfl (.int _)⟩
  | str =>
   cases d0 <;> (try (cases e; done))
   obtain rfl:=h0.int
   obtain ⟨c,e⟩:=zae e
   cases e
   exact cm_of call_str_int ⟨_,rfl,of_decide_eq_true c,q.now rfl (.str _)⟩
  | list =>
   cases d0 <;> (try (cases e; done))
   ·obtain ⟨a,vs,rfl,h,r⟩:=h0.tup
    cases e
    exact cm_of call_list_of ⟨a,vs,rfl,.inr (SqT.of h),fun l hl=>zaC hl (np l hl) r q⟩
   ·obtain ⟨a,vs,rfl,h,r⟩:=h0.lst
    cases e
    exact cm_of call_list_of ⟨a,vs,rfl,.inl h,fun l hl=>zaC hl (np l hl) r q⟩
   ·obtain ⟨a,o,rfl,h,_⟩:=h0.tupN
    cases e
    exact cm_of call_list_of ⟨a,_,rfl,.inr (.inl (.inr ⟨o,h⟩)),fun l hl=>zaC hl (np l hl) (Reps.strs _) q⟩
  | tupN =>
   cases d0 <;> (try (cases e; done))
   obtain ⟨ss,e1,e2⟩:=bind_ok (show (R.of (strs' _)).bind _=_ from e)
   cases e2
   obtain ⟨a,vs,rfl,h,r⟩:=h0.lst
   have ex:=zfE (of_ok e1)
   subst ex
   have ev:=zdb r
   subst ev
   exact cm_of zdH ⟨a,_,rfl,h,fun l o hl ho=>zlT hl ho q⟩
  | tuple =>
   cases d0 <;> (try (cases e; done))
   ·obtain ⟨a,vs,rfl,h,r⟩:=h0.tup
    cases e
    exact cm_of call_tuple_of ⟨a,vs,rfl,.inr ⟨SqT.of h,q.now rfl (.tup h r)⟩⟩
   ·obtain ⟨a,vs,rfl,h,r⟩:=h0.lst
    cases e
    exact cm_of call_tuple_of ⟨a,vs,rfl,.inl ⟨h,fun l hl=>zb0 hl r q⟩⟩
  | dict =>
   cases d0 <;> (try (cases e; done))
   ·rename_i xs
    obtain ⟨kvs,e1,e2⟩:=bind_ok (show (R.of (zdI xs)).bind _=_ from e)
    cases e2
    obtain ⟨a,vs,rfl,h,r⟩:=h0.lst
    obtain ⟨ps,ws,rfl,h2,h3,h4⟩:=zeO r (of_ok e1)
    obtain ⟨m1,m2⟩:=ziR (as:=[]) (bs:=[]) h3 h4 rfl .nil
    exact cm_of (call_dictP hc) ⟨a,ps,ws,rfl,h,h2,fun l hl=>ziH hl (np l hl) m1 m2 q⟩
   ·obtain ⟨a,ws,rfl,h,k,r⟩:=h0.dK
    cases e
    exact cm_of call_dictD ⟨a,ws,rfl,h,fun l hl=>ziH hl (np l hl) k r q⟩
   ·obtain ⟨a,ws,rfl,h,k,r⟩:=h0.dT
    obtain ⟨c,e⟩:=zae e
    cases e
    exact cm_of (zhB (by omega)) ⟨a,ws,rfl,h,by rw [<- k]; exact c,fun l hl=>zoj hl (np l hl) k r q⟩
  | any =>
   cases d0 <;> (try (cases e; done))
   obtain ⟨ns,e1,e2⟩:=bind_ok (show (R.of (bls _)).bind _=_ from e)
   obtain ⟨a,vs,rfl,h,r⟩:=h0.lst
   cases e2
   have ex:=ziO (of_ok e1)
   subst ex
   have ev:=zd9 r
   subst ev
   exact cm_of (cr_any hc) ⟨a,ns,rfl,h,q.now rfl (.bl _)⟩
  | all =>
   cases d0 <;> (try (cases e; done))
   obtain ⟨ns,e1,e2⟩:=bind_ok (show (R.of (bls _)).bind _=_ from e)
   obtain ⟨a,vs,rfl,h,r⟩:=h0.lst
   cases e2
   have ex:=ziO (of_ok e1)
   subst ex
   have ev:=zd9 r
   subst ev
   exact cm_of (cr_all hc) ⟨a,ns,rfl,h,q.now rfl (.bl _)⟩
  | sorted=>cases hb
  | max2=>cases d0 <;> cases e
  | min2=>cases d0 <;> cases e
 ·cases b with
  | max2 =>
   cases d0 <;> (try (cases e; done)) <;> cases d1 <;> (try (cases e; done))
   obtain rfl:=h0.int
   obtain rfl:=h1.int
   cases e
   exact cm_of (call_max2 hc) ⟨_,_,rfl,q.now rfl (.int _)⟩
  | min2 =>
   cases d0 <;> (try (cases e; done)) <;> cases d1 <;> (try (cases e; done))
   obtain rfl:=h0.int
   obtain rfl:=h1.int
   cases e
   exact cm_of (call_min2 hc) ⟨_,_,rfl,q.now rfl (.int _)⟩
  | _=>cases d0 <;> cases e
 ·cases b <;> cases x <;> (try (cases e; done)) <;> cases y <;> cases e
def meId:Me -> String | .join=>"str.join" | .split=>"str.split" | .index=>"list.index" | .get2=>"dict.get" | .get1=>"dict.get" | .indexT=>"tuple.index"
theorem zeR (z:Str):∀ (ys:List Str) (n m:Nat),zeJ z ys n=some m -> n <= m /\ ys[m - n]?=some z /\ ∀ j,j < m - n -> ys[j]? ≠ some z
 | [],_,_,e=>by cases e
 | y :: ys,n,m,e=>by
  rw [zeJ] at e
  split at e
  ·rename_i c
   cases e
   subst c
   refine ⟨Nat.le_refl _,by simp,fun j hj=>by omega⟩
  ·rename_i c
   obtain ⟨h1,h2,h4⟩:=zeR z ys (n+1) m e
   refine ⟨by omega,?_,fun j hj hy=>?_⟩
   ·rw [show m - n=(m - (n+1))+1 by omega,List.getElem?_cons_succ]
    exact h2
   ·cases j with
    | zero =>
     rw [List.getElem?_cons_zero] at hy
     exact c (by simpa using hy)
    | succ j =>
     rw [List.getElem?_cons_succ] at hy
     exact h4 j (by omega) hy
theorem zdK (d:D):∀ (xs:List D) (n m:Nat),zd7 d xs n=some m -> n <= m /\ ∃ z,xs[m - n]?=some z /\ PyData.eqv z.py d.py=true /\ ∀ (j:Nat) (y:D),j < m - n -> xs[j]?=some y -> PyData.eqv y.py d.py=false
 | [],_,_,e=>by cases e
 | x :: xs,n,m,e=>by
  rw [zd7] at e
  split at e
  ·rename_i c
   cases e
   refine ⟨Nat.le_refl _,x,by simp,c,fun j y hj=>by omega⟩
  ·rename_i c
   obtain ⟨h1,z,h2,h3,h4⟩:=zdK d xs (n+1) m e
   refine ⟨by omega,z,?_,h3,fun j y hj hy=>?_⟩
   ·rw [show m - n=(m - (n+1))+1 by omega,List.getElem?_cons_succ]
    exact h2
   ·cases j with
    | zero =>
     rw [List.getElem?_cons_zero] at hy
     cases hy
     simpa using c
    | succ j =>
     rw [List.getElem?_cons_succ] at hy
     exact h4 j y (by omega) hy
end
end L2.Pf
namespace L2.Pf
open PySem PySem.Spec PyProof.Rows
mutual
theorem zgH {h:Heap}:∀ (d:PyData) (v:Value) (as:List Addr),PySem.W.alike d d=true -> Reads h v d as -> ∀ x ∈ as,x < h.objs.size
 | .none,_,_,_,r,x,hx=>by cases r; cases hx
 | .bool _,_,_,_,r,x,hx=>by cases r; cases hx
 | .int _,_,_,_,r,x,hx=>by cases r; cases hx
 | .str _,_,_,_,r,x,hx=>by cases r; cases hx
 | .list xs,_,_,hal,r,x,hx=>by
  cases r with
  | list h1 h2 h3 h4 =>
   rcases List.mem_cons.mp hx with e | hx
   ·rw [e]; exact Heap.lt_size h1
   ·exact zb1 xs _ _ (by simpa [PySem.W.alike] using hal) h4 x hx
 | .tuple xs,_,_,hal,r,x,hx=>by
  cases r with
  | tuple h1 h2 h3 h4=>exact zb1 xs _ _ (by simpa [PySem.W.alike] using hal) h4 x hx
 | .dict _,_,_,hal,_,_,_=>absurd hal (by simp [PySem.W.alike])
theorem zb1 {h:Heap}:∀ (ds:List PyData) (vs:List Value) (as:List Addr),PySem.W.alikeAll ds ds=true -> ReadsAll h vs ds as -> ∀ x ∈ as,x < h.objs.size
 | [],_,_,_,r,x,hx=>by cases r; cases hx
 | d :: ds,_,_,hal,r,x,hx=>by
  cases r with
  | cons h1 h2 =>
   rw [PySem.W.alikeAll,Bool.and_eq_true] at hal
   rcases List.mem_append.mp hx with hx | hx
   ·exact zgH d _ _ hal.1 h1 x hx
   ·exact zb1 ds _ _ hal.2 h2 x hx
end
section
variable {X:Cx} {pins:List (Addr × Obj)} {σ:St} {H:Hp} {s:Shared} {P:Addr -> Prop}
abbrev encP:D × V -> PyData:=fun b=>b.1.py
theorem zec:∀ {ds:List D} {vs:List V} {us:List Value},ds.length=vs.length -> Vals vs us -> PySem.W.EachIs (fun u (b:D × V)=>RelV b.2 u) us (ds.zip vs)
 | [],[],_,_,.nil=>.nil
 | d :: ds,v :: vs,_,hl,.cons r t=>.cons r (zec (by simpa using hl) t)
 | [],_ :: _,_,hl,_=>by simp at hl
 | _ :: _,[],_,hl,_=>by simp at hl
theorem zcA (I:Inv X pins σ H s) {a:Addr} (ha:s.heap.objs.size <= a):∀ {ds:List D} {vs:List V} {us:List Value},(∀ d ∈ ds,d.shaped=true /\ PySem.W.alike d.py d.py=true) -> Reps X.K H P ds vs -> Vals vs us -> PySem.W.EachIs (fun u (b:D × V)=>∃ as,Reads s.heap u (encP b) as /\ a ∉ as) us (ds.zip vs)
 | _,_,_,_,.nil,.nil=>.nil
 | d :: ds,v :: vs,_,hd,.cons q r,.cons rv t=>by
  obtain ⟨h1,h2⟩:=hd d (by simp)
  obtain ⟨as,hr⟩:=Dp.reads I _ _ _ ((RepT.dp (.inl q)) h1) rv
  exact .cons ⟨as,hr,fun z=>absurd (zgH _ _ _ h2 hr a z) (Nat.not_lt.mpr ha)⟩ (zcA I ha (fun e he=>hd e (by simp [he])) r t)
theorem zgI {K:PySem.W.Frag}:∀ {ds:List D} {vs:List V},Reps K H P ds vs -> ∀ b ∈ ds.zip vs,Rep K H P b.1 b.2
 | _,_,.nil,b,hb=>by cases hb
 | d :: ds,v :: vs,.cons q r,b,hb=>by
  rcases List.mem_cons.mp hb with e | hb
  ·rw [e]; exact q
  ·exact zgI r b hb
theorem ziU {K:PySem.W.Frag}:∀ {l:List (D × V)},(∀ b ∈ l,Rep K H P b.1 b.2) -> Reps K H P (l.map (·.1)) (l.map (·.2))
 | [],_=>.nil
 | b :: l,h=>.cons (h b (by simp)) (ziU fun c hc=>h c (by simp [hc]))
theorem zbz:∀ {us:List Value} {l:List (D × V)},PySem.W.EachIs (fun u (b:D × V)=>RelV b.2 u) us l -> Vals (l.map (·.2)) us
 | _,_,.nil=>.nil
 | _,_,.cons r t=>.cons r (zbz t)
theorem zfF:∀ {ds:List D} {vs:List V},ds.length=vs.length -> (ds.zip vs).map (·.1)=ds
 | [],[],_=>rfl
 | d :: ds,v :: vs,h=>by
  show d :: (ds.zip vs).map (·.1)=_
  rw [zfF (by simpa using h)]
 | [],_ :: _,h=>by simp at h
 | _ :: _,[],h=>by simp at h
structure SortFacts (ds:List D) (vs:List V):Prop where
 al:PySem.W.AllAlike ((ds.zip vs).map encP)
 so:PySem.W.Sortable ((ds.zip vs).map encP)
 sh:∀ d ∈ ds,d.shaped=true /\ PySem.W.alike d.py d.py=true
 ln:ds.length <= sizeLine
theorem zdL {ds:List D} {vs:List V} (hl:ds.length=vs.length) (ok:zcQ ds=true):SortFacts ds vs:=by
 unfold zcQ at ok
 rw [Bool.and_eq_true,Bool.and_eq_true] at ok
 obtain ⟨⟨h1,h2⟩,h3⟩:=ok
 rw [List.all_eq_true] at h1
 have sh:∀ d ∈ ds,d.shaped=true /\ ∀ e ∈ ds,PySem.W.alike d.py e.py=true:=fun d hd=>by
  have:=h1 d hd
  rw [Bool.and_eq_true,List.all_eq_true] at this
  exact this
 have hz:∀ x ∈ (ds.zip vs).map encP,∃ d ∈ ds,d.py=x:=fun x hx=>by
  have e:(ds.zip vs).map encP=ds.map D.py:=by
   rw [show (encP:D × V -> PyData)=D.py ∘ (·.1) from rfl,<- List.map_map,zfF hl]
  rw [e] at hx
  obtain ⟨d,hd,e⟩:=List.mem_map.mp hx
  exact ⟨d,hd,e⟩
 refine ⟨fun x hx y hy=>?_,?_,fun d hd=>⟨(sh d hd).1,(sh d hd).2 d hd⟩,of_decide_eq_true h3⟩
 ·obtain ⟨d,hd,rfl⟩:=hz x hx
  obtain ⟨e,he,rfl⟩:=hz y hy
  exact (sh d hd).2 e he
 ·rw [Bool.or_eq_true,List.all_eq_true,List.all_eq_true] at h2
  rcases h2 with h2 | h2
  ·refine .inl fun x hx=>?_
   obtain ⟨d,hd,rfl⟩:=hz x hx
   have:=h2 d hd
   cases d <;> (try (cases this; done))
   rename_i xs
   cases xs with
   | nil=>cases this
   | cons a r=>exact ⟨a.py,D.pys r,rfl⟩
  ·refine .inr fun x hx=>?_
   obtain ⟨d,hd,rfl⟩:=hz x hx
   have:=h2 d hd
   cases d <;> first | (cases this; done) | exact ⟨(fun z=>nomatch z),(fun xs z=>nomatch z)⟩
theorem zdM {K:PySem.W.Frag} {ds:List D} {vs:List V} (r:Reps K H P ds vs):Reps K H P (ds.mergeSort (PySem.W.dataLe false D.py)) (((ds.zip vs).mergeSort (PySem.W.dataLe false encP)).map (·.2)) /\ (((ds.zip vs).mergeSort (PySem.W.dataLe false encP)).map (·.2)).length=ds.length:=by
 have e:ds.mergeSort (PySem.W.dataLe false D.py)=((ds.zip vs).mergeSort (PySem.W.dataLe false encP)).map (·.1):=by
  have:=List.map_mergeSort (r:=PySem.W.dataLe false encP) (s:=PySem.W.dataLe false D.py) (f:=fun b:D × V=>b.1) (l:=ds.zip vs) (fun a _ b _=>rfl)
  rw [this,zfF r.length]
 refine ⟨?_,?_⟩
 ·rw [e]
  refine ziU fun b hb=>zgI r b ?_
  exact List.mem_mergeSort.mp hb
 ·rw [List.length_map,List.length_mergeSort,List.length_zip,<- r.length]; omega
theorem zgJ {d:D} (h:d.shaped=true):d.py.depth <= 64:=SeqAt.depth_of_shaped h
theorem zed {K:PySem.W.Frag}:∀ k:List Key,Reps K H P (k.map keyV) (k.map kV)
 | []=>.nil
 | .inl i :: k=>.cons (.int i) (zed k)
 | .inr i :: k=>.cons (.str i) (zed k)
theorem zlX {ds:List D} {vs:List V} {a:Addr} {Q:VK} (hu:X.A.units+100 < cLine) (hl:SqL X.K H a vs) (r:Reps X.K H P ds vs) (ok:zcQ ds=true) (np:NewP P H) (q:OutF X.K P H (.lst (ds.mergeSort (PySem.W.dataLe false D.py))) Q):CM X (.builtin "sorted") [.ref a] H Q:=by
 intro pins s σ us I rv
 rw [Vals.ref1 rv]
 obtain ⟨its,ri,p,_⟩:=I.list hl
 have sf:=zdL (vs:=vs) r.length ok
 obtain ⟨sr,sl⟩:=zdM r
 refine PySem.W.sorted_data (bs:=ds.zip vs) (enc:=encP) (R:=fun u b=>RelV b.2 u) p.isList (zec r.length ri) ((zcA I (Nat.le_refl _) sf.sh r ri).mono fun _ _ ⟨as,h,_⟩=>⟨as,h⟩) sf.al sf.so (by rw [List.length_zip]; exact Nat.le_trans (Nat.min_le_left _ _) sf.ln) (fun b hb=>?_) fun out hlen ho=>?_
 ·have:=zgJ (sf.sh b.1 (List.of_mem_zip hb).1).1
  show X.A.units+2+b.1.py.depth < cLine
  omega
 ·obtain ⟨ep,he'⟩:=PyProof.Rows.sortedAll_at s.heap its (List.toArray out)
  refine ⟨.ref _,upd H (s.heap.objs.size+1) (.lst (((ds.zip vs).mergeSort (PySem.W.dataLe false encP)).map (·.2))),I.laid (t':=s.toks) (fun _ _=>PyProof.Rows.sortedAll_old) (Nat.le_succ _) ⟨by rw [sl]; exact sf.ln,out,ep,zbz ho,he'⟩,rfl,?_⟩
  exact zaC (I.hok.fresh (Nat.le_succ _)) (np _ (I.hok.fresh (Nat.le_succ _))) sr q
theorem zlY {kvs:List (List Key × D)} {ws:List (List Key × V)} {a:Addr} {Q:VK} (hc:X.calm=true) (hu:X.A.units+100 < cLine) (hd:Rd H a (.dT ws)) (hk:kvs.map (·.1)=ws.map (·.1)) (ok:zcQ (kvs.map fun kv=>.tup (kv.1.map keyV))=true) (np:NewP P H) (q:OutF X.K P H (.lst ((kvs.map fun kv=>D.tup (kv.1.map keyV)).mergeSort (PySem.W.dataLe false D.py))) Q):CM X (.builtin "sorted") [.ref a] H Q:=by
 intro pins s σ us I rv
 rw [Vals.ref1 rv]
 obtain ⟨z,lo,xs,rel,o,es,ep,ho,hx,hdat,hes,_,_⟩:=dt_rd I.hok hd
 have l1:ws.length=xs.length:=Paired.length rel
 have l2:es.size=xs.length:=by rw [<- Array.length_toList,hes,List.length_map]
 have kr:∀ {ws:List (List Key × V)} {xs:List (List Key × Addr × Value)} {kvs:List (List Key × D)},kvs.map (·.1)=ws.map (·.1) -> KT H ws xs -> Reps X.K H P (kvs.map fun kv=>D.tup (kv.1.map keyV)) (xs.map fun x=>V.ref x.2.1):=by
  intro ws xs kvs hk rel
  induction rel generalizing kvs with
  | nil =>
   cases kvs with
   | nil=>exact .nil
   | cons _ _=>cases hk
  | cons h t ih =>
   cases kvs with
   | nil=>cases hk
   | cons kv kvs =>
    have e1:kv.1=_:=(List.cons.inj hk).1
    refine .cons ?_ (ih (List.cons.inj hk).2)
    show Rep X.K H P (D.tup (kv.1.map keyV)) _
    rw [e1]
    exact .tup h.2.1 (zed _)
 have r:=kr hk rel
 have sf:=zdL (vs:=xs.map fun x=>V.ref x.2.1) r.length ok
 obtain ⟨sr,sl⟩:=zdM r
 have hn:es.size <= sizeLine:=by rw [l2,<- l1]; exact z
 refine Calls.call_function_entry PyProof.Rows.kind_sorted PyProof.Rows.plain_sorted PyProof.Rows.entry_sorted (PyProof.Rows.args_sorted1 _) ?_
 unfold Builtin.«sorted»
 refine wpAny_bind (m:=checkCount "sorted" 1 1 _) (wpAny_pure ?_)
 refine wpAny_bind (PySem.W.kdu_collect (A:=X.A.in1) (KdlSrc.rawDict lo) (I.ok.hd hc) ⟨o,ho,hx,hdat⟩ hn fun h' tk acc hkp hacc=>?_)
 have hv:Vals (xs.map fun x=>V.ref x.2.1) acc.toList:=by
  have hal:acc.toList.length=xs.length:=by rw [Array.length_toList,hacc.1,l2]
  have pt:∀ (j:Nat) (v:Value),acc.toList[j]?=some v -> ∃ x,xs[j]?=some x /\ v=Value.ref x.2.1:=fun j v e=>by
   obtain ⟨hi,e2⟩:=hacc.2 j v (by rw [<- Array.getElem?_toList]; exact e)
   have e3:es.toList[j]?=some es[j]:=by rw [Array.getElem?_toList,Array.getElem?_eq_getElem hi]
   rw [hes,List.getElem?_map] at e3
   cases ex:xs[j]? with
   | none=>rw [ex] at e3; cases e3
   | some x =>
    rw [ex] at e3
    refine ⟨x,rfl,?_⟩
    have e4:entryOfKey (tupleKind (mixKind X.prog X.w)) x=es[j]:=Option.some.inj e3
    rw [e2,<- e4]; rfl
  have go:∀ (xs:List (List Key × Addr × Value)) (us:List Value),us.length=xs.length -> (∀ (j:Nat) (v:Value),us[j]?=some v -> ∃ x,xs[j]?=some x /\ v=Value.ref x.2.1) -> Vals (xs.map fun x=>V.ref x.2.1) us:=by
   intro xs
   induction xs with
   | nil =>
    intro us hl _
    cases us with
    | nil=>exact .nil
    | cons _ _=>simp at hl
   | cons x xs ih =>
    intro us hl hp
    cases us with
    | nil=>simp at hl
    | cons u us =>
     obtain ⟨y,e1,e2⟩:=hp 0 u rfl
     have:x=y:=by simpa using e1
     subst this
     refine .cons ?_ (ih us (by simpa using hl) fun j v e=>?_)
     ·rw [e2]; rfl
     ·obtain ⟨y,e1,e2⟩:=hp (j+1) v (by simpa using e)
      exact ⟨y,by simpa using e1,e2⟩
  exact go xs acc.toList hal pt
 have I1:Inv X pins σ H { s with heap:=h',toks:=tk }:=I.kept hkp
 refine wpAny_bind (wpAny_newList ?_ (by rw [Array.length_toList,hacc.1]; exact hn))
 have hoL:(h'.push (seqObj "list" acc.toList.toArray 0)).get? h'.objs.size=some (seqObj "list" acc.toList.toArray 0):=Heap.get?_push_size _ rfl
 have er:PySem.W.EachIs (fun u (b:D × V)=>∃ as,Reads (h'.push (seqObj "list" acc.toList.toArray 0)) u (encP b) as /\ h'.objs.size ∉ as) acc.toList ((kvs.map fun kv=>D.tup (kv.1.map keyV)).zip (xs.map fun x=>V.ref x.2.1)) :=
  (zcA I1 (Nat.le_refl _) sf.sh r hv).mono fun _ _ ⟨as,h,n⟩=>⟨as,PyProof.Rows.Reads.keeps (fun _ _ e=>Heap.get?_push_of_some _ e) h,n⟩
 refine wpAny_bind (wpAny_holding (PySem.W.list_sort_data (s:={ s with heap:=h'.push (seqObj "list" acc.toList.toArray 0),toks:=tk }) (bs:=(kvs.map fun kv=>D.tup (kv.1.map keyV)).zip (xs.map fun x=>V.ref x.2.1)) (enc:=encP) (R:=fun u b=>RelV b.2 u) hoL (zec r.length hv) er sf.al sf.so
  (by rw [List.length_zip]; exact Nat.le_trans (Nat.min_le_left _ _) sf.ln) (fun b hb=>?_) fun out hlen ho'=>?_))
 ·have:=zgJ (sf.sh b.1 (List.of_mem_zip hb).1).1
  show X.A.units+1+1+b.1.py.depth < cLine
  omega
 ·obtain ⟨e',he'⟩:=PyProof.Rows.sortedHeap_at (vs:=acc.toList) (out:=List.toArray out) hoL
  refine wpAny_pure ⟨_,rfl,.ref h'.objs.size,upd H h'.objs.size (.lst ((((kvs.map fun kv=>D.tup (kv.1.map keyV)).zip (xs.map fun x=>V.ref x.2.1)).mergeSort (PySem.W.dataLe false encP)).map (·.2))),I1.laid (t':=tk) (fun b u e=>?_) (Nat.le_refl _)
   ⟨by rw [sl]; exact sf.ln,out,e',zbz ho',he'⟩,rfl,?_⟩
  ·have hb:b < h'.objs.size:=Heap.lt_size e
   rw [PyProof.Rows.sortedHeap_old (Nat.ne_of_lt hb) (by rw [size_push']; exact Nat.lt_succ_of_lt hb)]
   exact Heap.get?_push_of_some _ e
  ·exact zaC (I1.hok.fresh (Nat.le_refl _)) (np _ (I1.hok.fresh (Nat.le_refl _))) sr q
end
end L2.Pf
namespace L2.Pf
open PySem PySem.Spec PyProof.Rows
def findD (T:List Def) (f:Str):Option Def:=T.find? fun d=>d.name == f
def visB (sc:Scope) (x:Str):Bool:=(match sc.names.lookup x with | some .local=>true | some .cell=>true | some .free=>true | _=>false) && !(x == ("__debug__":Str)) && !(x == ("__classdict__":Str))
def glB (sc:Scope) (x:Str):Bool:=(match sc.names.lookup x with | some .globalImplicit=>true | _=>false) && !(x == ("__debug__":Str)) && !(x == ("__name__":Str))
theorem zbw {sc:Scope} {x:Str} (h:visB sc x=true):Vis sc x /\ (x == ("__debug__":Str))=false /\ (x == ("__classdict__":Str))=false:=by
 unfold visB at h
 rw [Bool.and_eq_true,Bool.and_eq_true] at h
 obtain ⟨⟨h1,h2⟩,h3⟩:=h
 refine ⟨?_,by simpa using h2,by simpa using h3⟩
 unfold Vis
 split at h1
 ·rename_i e; exact .inl e
 ·rename_i e; exact .inr (.inl e)
 ·rename_i e; exact .inr (.inr e)
 ·cases h1
theorem gl_of {X:Cx} {x:Str} (h:glB X.env.scope x=true):Gl X x /\ (x == ("__debug__":Str))=false /\ x ≠ "__name__":=by
 unfold glB at h
 rw [Bool.and_eq_true,Bool.and_eq_true] at h
 obtain ⟨⟨h1,h2⟩,h3⟩:=h
 refine ⟨?_,by simpa using h2,by simpa using h3⟩
 show X.env.scope.names.lookup x=some .globalImplicit
 split at h1
 ·rename_i e; exact e
 ·cases h1
def isOp:BOp -> Operator -> Bool
 | .add,.Add=>true | .sub,.Sub=>true | .mul,.Mult=>true | .div,.FloorDiv=>true | .mod,.Mod=>true | .pow,.Pow=>true | _,_=>false
theorem ziV {o:BOp} {p:Operator} (h:isOp o p=true):p=bopOf o:=by cases o <;> cases p <;> first | rfl | cases h
def isCop:COp -> CmpOp -> Bool
 | .eq,.Eq=>true | .ne,.NotEq=>true | .lt,.Lt=>true | .le,.LtE=>true | .gt,.Gt=>true | .ge,.GtE=>true | .is,.Is=>true | .isnot,.IsNot=>true | .isin,.In=>true | .notin,.NotIn=>true | _,_=>false
theorem zas {o:COp} {p:CmpOp} (h:isCop o p=true):p=copOf o:=by cases o <;> cases p <;> first | rfl | cases h
def zbR (o:CmpOp) (e:Expr):Bool:=!behindInMarks o e
def bareO (O:List Nat):E -> Bool
 | .var i=>O.contains i | _=>false
def bares (O:List Nat):Es -> Bool
 | .nil=>false | .cons e r=>bareO O e || bares O r
def frE (T:List Def):E -> Bool
 | .revL _=>true | .stpL _ _ _=>true | .valsL _=>true | .maxD _ _=>true | .stpB _ _ _ _=>true | .itemsL _=>true | .zipL _ _=>true | .inR _ _ _=>true | .chain3 _ _ _ _ _ _ _=>true | .eqD _ _ _=>true | .inG _ _ _ _=>true | .dispN _ _=>true
 | .lst _=>true | .dnewK=>true | .dnewT=>true | .disp1 _ _ _=>true | .rep _ _=>true | .slcA _=>true | .slcL _ _=>true | .slcH _ _=>true | .slcB _ _ _=>true
 | .bin _ _ _=>true | .lrev _=>true | .bi _ _=>true | .me m _ _=>(match m with | .split=>true | .join=>true | .index=>true | .indexT=>true | _=>false) | .lc _ _ _ _=>true | .lcIf _ _ _ _ _=>true
 | .call f _ _=>(match findD T f with | some d=>d.fresh | none=>false)
 | .neg _=>true | .not _=>true | .cmp _ _ _=>true | .chain _ _ _ _ _=>true | .tup _=>true | .int _=>true | .str _=>true | .bl _=>true | .non=>true
 | _=>false
def notSl:Expr -> Bool
 | .Slice ..=>false | _=>true
theorem zb9 {e:Expr} (h:notSl e=true):PlainIx e:=by
 intro o i
 cases e <;> first | rfl | cases h
theorem zhC {e:Expr} (h:notSl e=true):NoSl e:=by
 intro o i
 cases e <;> first | rfl | cases h
def zaw:Expr -> Bool
 | .Starred ..=>false | _=>true
theorem zab {e:Expr} {es:List Expr} {env:PySem.Env} (h:zaw e=true):starEach (e :: es) env=(false,eval e env) :: starEach es env:=by
 cases e <;> first | rfl | cases h
theorem zao {pos:Pos} {env:PySem.Env}:∀ {es:List Expr},es.all zaw=true -> (backTo pos (starEach es env)).any (·.1)=false
 | [],_=>rfl
 | e :: es,h=>by
  rw [List.all_cons,Bool.and_eq_true] at h
  rw [zab h.1]
  have ih:=zao (pos:=pos) (env:=env) h.2
  unfold backTo at ih ⊢
  rw [List.map_cons,List.any_cons,ih]
  rfl
def zdd:Expr -> Bool
 | .Call (.Name _ _) [] [] _=>false | _=>true
theorem zaD {o:Expr} {m:Str} {env:PySem.Env} {w:Sem Value} (h:zdd o=true):attributeBase o m env w=w:=by
 unfold attributeBase
 split
 ·cases h
 ·rfl
def zbb (N:List Str) (sc:Scope):List Nat -> List Expr -> Bool
 | [],[]=>true
 | i :: is,.Name x _ :: xs=>(N[i]? == some x) && (match sc.names.lookup x with | some .local=>true | some .cell=>true | _=>false) && zbb N sc is xs
 | _,_=>false
def chkT (N:List Str) (sc:Scope):Tg -> Expr -> Bool
 | .one i,.Name x _=>(N[i]? == some x) && (match sc.names.lookup x with | some .local=>true | some .cell=>true | _=>false)
 | .many is,.Tuple xs _ _=>zbb N sc is xs
 | _,_=>false
def tgIn (own:List Nat):Tg -> Bool
 | .one i=>own.contains i | .many is=>is.all own.contains
def zeS:Ty -> Str
 | .int=>"int" | .bool=>"bool" | .str=>"str" | .tuple=>"tuple" | .list=>"list" | .dict=>"dict"
def ownP (N:List Str) (own:List Nat):List (Str × Nat):=own.map fun i=>(N.getD i Str.empty,i)
def ziW:Me -> Str
 | .join=>"join" | .split=>"split" | .index=>"index" | .get2=>"get" | .get1=>"get" | .indexT=>"index"
def zdN:Me -> Bool | .join=>true | .split=>true | .index=>true | .indexT=>true | _=>false
def zb2 (sc:Scope):List Ty -> List Expr -> Bool
 | [],[]=>true
 | t :: ts,.Name y _ :: ys=>(y == zeS t) && glB sc y && zb2 sc ts ys
 | _,_=>false
def ziX:Expr -> Bool
 | .Set ..=>false | _=>true
theorem zaX {e:Expr} {env:PySem.Env} (h:ziX e=true):∀ x,foldedSetIterable e env x=pure x:=by
 intro x
 cases e <;> first | rfl | cases h
def zcB:Expr -> Bool
 | .Tuple ..=>true | _=>false
def litI (c:Int):Expr -> Bool
 | .Constant (.int m) _ _=>c == m
 | .UnaryOp .USub (.Constant (.int m) _ _) _=>c == -m
 | _=>false
def bareI (O:List Nat):It -> Bool
 | .seq e=>bareO O e | .range1 _=>false | .range2 _ _=>false | .range3 _ _ _=>false
 | .zip2 a b=>bareO O a || bareO O b | .zip3 a b c=>bareO O a || bareO O b || bareO O c
 | .enum a=>bareO O a | .keys a=>bareO O a | .items a=>bareO O a | .sorted a=>bareO O a | .rev a=>bareO O a
def call1 (sc:Scope) (f:Str):Expr -> (Expr -> Bool) -> Bool
 | .Call (.Name g _) [x] [] _,k=>(g == f) && glB sc g && k x
 | _,_=>false
def call2 (sc:Scope) (f:Str):Expr -> (Expr -> Expr -> Bool) -> Bool
 | .Call (.Name g _) [x,y] [] _,k=>(g == f) && glB sc g && k x y
 | _,_=>false
def call3 (sc:Scope) (f:Str):Expr -> (Expr -> Expr -> Expr -> Bool) -> Bool
 | .Call (.Name g _) [x,y,z] [] _,k=>(g == f) && glB sc g && k x y z
 | _,_=>false
theorem zaM {sc:Scope} {f:Str} {e:Expr} {k:Expr -> Bool} (h:call1 sc f e k=true):∃ p x q,e=.Call (.Name f p) [x] [] q /\ glB sc f=true /\ k x=true:=by
 unfold call1 at h
 split at h
 ·simp only [Bool.and_eq_true] at h
  have ef:=beq_iff_eq.mp h.1.1
  subst ef
  exact ⟨_,_,_,rfl,h.1.2,h.2⟩
 ·cases h
theorem zbo {sc:Scope} {f:Str} {e:Expr} {k:Expr -> Expr -> Bool} (h:call2 sc f e k=true):∃ p x y q,e=.Call (.Name f p) [x,y] [] q /\ glB sc f=true /\ k x y=true:=by
 unfold call2 at h
 split at h
 ·simp only [Bool.and_eq_true] at h
  have ef:=beq_iff_eq.mp h.1.1
  subst ef
  exact ⟨_,_,_,_,rfl,h.1.2,h.2⟩
 ·cases h
theorem zee {sc:Scope} {f:Str} {e:Expr} {k:Expr -> Expr -> Expr -> Bool} (h:call3 sc f e k=true):∃ p x y z q,e=.Call (.Name f p) [x,y,z] [] q /\ glB sc f=true /\ k x y z=true:=by
 unfold call3 at h
 split at h
 ·simp only [Bool.and_eq_true] at h
  have ef:=beq_iff_eq.mp h.1.1
  subst ef
  exact ⟨_,_,_,_,_,rfl,h.1.2,h.2⟩
 ·cases h
def isTab (d:Def):Bool:=d.io == [999]
def tabB (T:List Def) (g:Str) (ss:List Str):Bool:=match findD T g with
 | some d=>isTab d && (d.ps == ss) | none=>false
def keysB:List Str -> List (Option Expr) -> Bool
 | [],[]=>true
 | k :: ks,some (.Constant (.str s) _ _) :: r=>(k == s) && keysB ks r
 | _,_=>false
def zgK:List Str -> Bool
 | []=>true | k :: ks=>!ks.contains k && zgK ks
def zde:Expr -> (Expr -> Bool) -> Bool
 | .Subscript x (.Slice none none (some (.UnaryOp .USub (.Constant (.int 1) _ _) _)) _) _,k=>k x
 | _,_=>false
def isStp (lo k:Nat):Expr -> (Expr -> Bool) -> Bool
 | .Subscript x (.Slice (some (.Constant (.int l) _ _)) none (some (.Constant (.int m) _ _)) _) _,c=>(l == (lo:Int)) && (m == (k:Int)) && decide (0 < k) && c x
 | _,_=>false
def zdf (sc:Scope):Expr -> (Expr -> Bool) -> Bool
 | .Call (.Name g _) [.Call (.Attribute o m apos) [] [] cpos] [] _,k=>(g == ("list":Str)) && glB sc g && (m == ("values":Str)) && zdd o && (apos.endLine == cpos.line) && k o
 | _,_=>false
def zdg (hi k:Nat):Expr -> (Expr -> Expr -> Bool) -> Bool
 | .Subscript x (.Slice (some l) (some (.Constant (.int h) _ _)) (some (.Constant (.int m) _ _)) _) _,c=>(h == (hi:Int)) && (m == (k:Int)) && decide (0 < k) && c x l
 | _,_=>false
def zb3 (sc:Scope):Expr -> (Expr -> Bool) -> Bool
 | .Call (.Name g _) [.Call (.Attribute o m apos) [] [] cpos] [] _,k=>(g == ("list":Str)) && glB sc g && (m == ("items":Str)) && zdd o && (apos.endLine == cpos.line) && k o
 | _,_=>false
def zdh (sc:Scope) (c:Int):Expr -> (Expr -> Bool) -> Bool
 | .Call (.Name g _) [x] [⟨some d,v,_⟩] _,k=>(g == ("max":Str)) && glB sc g && (d == ("default":Str)) && litI c v && k x
 | _,_=>false
def isInR (sc:Scope) (neg:Bool):Expr -> (Expr -> Expr -> Bool) -> Bool
 | .Compare x [o] [.Call (.Name g _) [y] [] _] _,k=>isCop (if neg=true then .notin else .isin) o && (g == ("range":Str)) && glB sc g && k x y
 | _,_=>false
section
variable (N:List Str) (T:List Def)
mutual
def chkE (sc:Scope) (O:List Nat):E -> Expr -> Bool
 | .var i,e0=>match e0 with
  | .Name x _=>(N[i]? == some x) && visB sc x
  | _=>false
 | .glob x,e0=>match e0 with
  | .Name y _=>(x == y) && glB sc y
  | _=>false
 | .int n,e0=>match e0 with
  | .Constant (.int m) _ _=>n == m
  | _=>false
 | .str s,e0=>match e0 with
  | .Constant (.str t) _ _=>s == t
  | _=>false
 | .bl b,e0=>match e0 with
  | .Constant (.bool c) _ _=>b == c
  | _=>false
 | .non,e0=>match e0 with
  | .Constant .none _ _=>true
  | _=>false
 | .bin op a b,e0=>match e0 with
  | .BinOp x o y _=>isOp op o && chkE sc O a x && chkE sc O b y
  | _=>false
 | .rep a k,e0=>match e0 with
  | .BinOp x .Mult y _=>frE T a && chkE sc O a x && chkE sc O k y
  | _=>false
 | .neg a,e0=>match e0 with
  | .UnaryOp .USub x _=>chkE sc O a x
  | _=>false
 | .not a,e0=>match e0 with
  | .UnaryOp .Not x _=>chkE sc O a x
  | _=>false
 | .cmp op a b,e0=>match e0 with
  | .Compare x [o] [y] _=>isCop op o && zbR o y && chkE sc O a x && chkE sc O b y
  | _=>false
 | .chain o p a b c,e0=>match e0 with
  | .Compare x [o1,p1] [y,z] _=>isCop o o1 && isCop p p1 && zbR p1 z && chkE sc O a x && chkE sc O b y && chkE sc O c z
  | _=>false
 | .and es,e0=>match e0 with
  | .BoolOp .And xs _=>chkEs sc O es xs && !bares O es
  | _=>false
 | .or es,e0=>match e0 with
  | .BoolOp .Or xs _=>chkEs sc O es xs && !bares O es
  | _=>false
 | .tup es,e0=>match e0 with
  | .Tuple xs _ _=>chkEs sc O es xs && !bares O es
  | _=>false
 | .lst es,e0=>match e0 with
  | .List xs _=>chkEs sc O es xs && !bares O es
  | _=>false
 | .dnewK,e0=>match e0 with
  | .Dict [] [] _=>true
  | _=>false
 | .dnewT,e0=>match e0 with
  | .Dict [] [] _=>true
  | _=>false
 | .disp1 _ k v,e0=>match e0 with
  | .Dict [some x] [y] _=>chkE sc O k x && chkE sc O v y && !bareO O v
  | _=>false
 | .idx a i,e0=>match e0 with
  | .Subscript x y _=>notSl y && chkE sc O a x && chkE sc O i y
  | _=>false
 | .slcA a,e0=>match e0 with
  | .Subscript x (.Slice none none none _) _=>chkE sc O a x
  | _=>false
 | .slcL a lo,e0=>match e0 with
  | .Subscript x (.Slice (some l) none none _) _=>chkE sc O a x && chkE sc O lo l
  | _=>false
 | .slcH a hi,e0=>match e0 with
  | .Subscript x (.Slice none (some h) none _) _=>chkE sc O a x && chkE sc O hi h
  | _=>false
 | .slcB a lo hi,e0=>match e0 with
  | .Subscript x (.Slice (some l) (some h) none _) _=>chkE sc O a x && chkE sc O lo l && chkE sc O hi h
  | _=>false
 | .call f args im,e0=>match e0 with
  | .Call (.Name g _) xs [] _=>(f == g) && glB sc g && chkEs sc O args xs && (im || !bares O args) && !xs.isEmpty && (findD T f).isSome && (match findD T f with | some d=>d.io.isEmpty | none=>false)
  | _=>false
 | .bi b args,e0=>match e0 with
  | .Call (.Name g _) xs [] _=>(zgG b == g) && glB sc g && chkEs sc O args xs && !xs.isEmpty
  | _=>false
 | .me m o args,e0=>match e0 with
  | .Call (.Attribute x nm apos) xs [] pos=>(ziW m == nm) && zdd x && chkE sc O o x && chkEs sc O args xs && (apos.endLine == pos.line) && decide (xs.length < 20) && !xs.isEmpty && (zdN m || !bares O args)
  | _=>false
 | .lrev a,e=>call1 sc "list" e fun x=>call1 sc "reversed" x fun y=>chkE sc O a y
 | .revL a,e=>zde e fun x=>chkE sc O a x
 | .stpL a lo k,e=>isStp lo k e fun x=>chkE sc O a x
 | .valsL a,e=>zdf sc e fun x=>chkE sc O a x
 | .maxD a c,e=>zdh sc c e fun x=>chkE sc O a x
 | .stpB a lo hi k,e=>zdg hi k e fun x l=>chkE sc O a x && chkE sc O lo l
 | .itemsL a,e=>zb3 sc e fun x=>chkE sc O a x
 | .zipL a b,e=>call1 sc "list" e fun z=>call2 sc "zip" z fun x y=>chkE sc O a x && chkE sc O b y
 | .inR neg a b,e=>isInR sc neg e fun x y=>chkE sc O a x && chkE sc O b y
 | .chain3 o p q a b c d,e0=>match e0 with
  | .Compare x [o1,p1,q1] [y,z,w] _=>isCop o o1 && isCop p p1 && isCop q q1 && zbR q1 w && chkE sc O a x && chkE sc O b y && chkE sc O c z && chkE sc O d w
  | _=>false
 | .eqD ne i j,e0=>match e0 with
  | .Compare (.Name x _) [o] [.Name y _] _=>isCop (if ne=true then .ne else .eq) o && (N[i]? == some x) && visB sc x && O.contains i && (N[j]? == some y) && visB sc y && O.contains j
  | _=>false
 | .inG neg a g ss,e0=>match e0 with
  | .Compare x [o] [.Name y _] _=>isCop (if neg=true then .notin else .isin) o && (g == y) && glB sc y && tabB T g ss && chkE sc O a x
  | _=>false
 | .dispN ks es,e0=>match e0 with
  | .Dict keys vals _=>keysB ks keys && chkEs sc O es vals && !bares O es && decide (ks.length <= 15) && zgK ks && !ks.isEmpty && decide (keys.length=vals.length)
  | _=>false
 | .isi a t,e0=>match e0 with
  | .Call (.Name g _) [x,.Name y _] [] _=>(g == ("isinstance":Str)) && glB sc g && chkE sc O a x && (y == zeS t) && glB sc y
  | _=>false
 | .isiL a ts,e0=>match e0 with
  | .Call (.Name g _) [x,.Tuple ys _ _] [] _=>(g == ("isinstance":Str)) && glB sc g && chkE sc O a x && zb2 sc ts ys && decide (ts.length < 100)
  | _=>false
 | .lc elt tg it own,e0=>match e0 with
  | .ListComp x [⟨tgx,itx,[],0⟩] scope _=>chkI sc O it tgx itx && blkC N sc scope (ownP N own) && (own.all fun i=>!O.contains i) && tgIn own tg && chkT N scope tg tgx && chkE (relS scope sc) O elt x && !bareO O elt
  | _=>false
 | .lcIf elt tg it cond own,e0=>match e0 with
  | .ListComp x [⟨tgx,itx,[c],0⟩] scope _=>chkI sc O it tgx itx && blkC N sc scope (ownP N own) && (own.all fun i=>!O.contains i) && tgIn own tg && chkT N scope tg tgx && chkE (relS scope sc) O cond c && chkE (relS scope sc) O elt x && !bareO O elt
  | _=>false
def chkEs (sc:Scope) (O:List Nat):Es -> List Expr -> Bool
 | .nil,[]=>true
 | .cons e r,x :: xs=>chkE sc O e x && chkEs sc O r xs
 | _,_=>false
def chkI (sc:Scope) (O:List Nat):It -> Expr -> Expr -> Bool
 | .seq e,_,x=>chkE sc O e x && ziX x
 | .range1 a,_,e=>call1 sc "range" e fun x=>chkE sc O a x
 | .range2 a b,_,e=>call2 sc "range" e fun x y=>chkE sc O a x && chkE sc O b y
 | .range3 a b c,_,e=>call3 sc "range" e fun x y z=>chkE sc O a x && chkE sc O b y && litI c z
 | .zip2 a b,tg,e=>call2 sc "zip" e fun x y=>chkE sc O a x && chkE sc O b y && zcB tg
 | .enum a,tg,e=>call1 sc "enumerate" e fun x=>chkE sc O a x && zcB tg
 | .rev a,_,e=>call1 sc "reversed" e fun x=>chkE sc O a x
 | .zip3 a b c,tg,e=>call3 sc "zip" e fun x y z=>chkE sc O a x && chkE sc O b y && chkE sc O c z && zcB tg
 | .keys _,_,_=>false
 | .items _,_,_=>false
 | .sorted _,_,_=>false
end
def chkC (sc:Scope) (O:List Nat):E -> Expr -> Bool
 | .and es,.BoolOp .And xs _=>chkEs N T sc O es xs
 | .or es,.BoolOp .Or xs _=>chkEs N T sc O es xs
 | c,x=>chkE N T sc O c x
theorem zaa {sc:Scope} {O:List Nat} {m:E} {x:Expr} (h:chkE N T sc O m x=true):zaw x=true:=by
 cases x <;> first | rfl | (cases m <;> simp [chkE,call1,zde,isStp,zdf,zdg,zb3,zdh,isInR] at h)
theorem za0 {sc:Scope} {O:List Nat}:∀ {m:Es} {xs:List Expr},chkEs N T sc O m xs=true -> xs.all zaw=true
 | .nil,[],_=>rfl
 | .nil,_ :: _,h=>by simp [chkEs] at h
 | .cons _ _,[],h=>by simp [chkEs] at h
 | .cons e r,x :: xs,h=>by
  rw [chkEs,Bool.and_eq_true] at h
  rw [List.all_cons,zaa N T h.1,za0 h.2]
  rfl
theorem zbp {N:List Str} {T:List Def} {sc:Scope} {O:List Nat} {m:It} {tg x:Expr} (h:chkI N T sc O m tg x=true):ziX x=true:=by
 cases m <;> first
  | (rw [chkI,Bool.and_eq_true] at h; exact h.2)
  | (obtain ⟨_,_,_,rfl,_⟩:=zaM h; rfl)
  | (obtain ⟨_,_,_,_,rfl,_⟩:=zbo h; rfl)
  | (obtain ⟨_,_,_,_,_,rfl,_⟩:=zee h; rfl)
  | (simp [chkI] at h)
end
end L2.Pf
namespace L2.Pf
open PySem PySem.Spec PyProof.Rows
def zca:List Str:=["len","max","min","sum","int","str","list","tuple","dict","sorted","any","all","isinstance","range","zip","enumerate","reversed","bool"]
mutual
def zgL:S -> Bool
 | .asg _ _=>true | .append _ _=>true | .whl _ b=>zdi b | _=>false
def zdi:Ss -> Bool
 | .nil=>true | .cons s r=>zgL s && zdi r | _=>false
end
def esAt:Es -> Nat -> Option E
 | .nil,_=>none | .cons e _,0=>some e | .cons _ r,j+1=>esAt r j
def frx:E -> Bool
 | .slcA _=>true | .slcL _ _=>true | .slcH _ _=>true | .slcB _ _ _=>true | .bin _ _ _=>true | .lst _=>true | .bi _ _=>true | _=>false
theorem zoT {T:List Def} {e:E} (h:frx e=true):frE T e=true:=by
 cases e <;> first | rfl | cases h
def newE (ks:List Nat) (o:Option E):Bool:=match o with
 | some e=>(match e with
  | .var i=>ks.contains i | e=>frx e)
 | none=>false
def zdj (m:Ss):Bool:=match m with
 | .nil=>true | _=>false
def tupJ (s:S) (r:Ss) (k:Es -> Bool):Bool:=zdj r && (match s with
 | .ret e=>(match e with
  | .tup es=>k es | _=>false)
 | _=>false)
mutual
def argS:S -> Nat -> Nat -> Bool
 | .ifs _ a b,j,p=>zdj b && argJ a j p
 | .asg i _,_,p=>i != p
 | _,_,_=>false
def argJ:Ss -> Nat -> Nat -> Bool
 | .cons s r,j,p=>(argS s j p && argJ r j p) || tupJ s r fun es=>newE [p] (esAt es j)
 | _,_,_=>false
end
section
variable (T:List Def)
def argO (ks:List Nat) (o:Option E):Bool:=match o with
 | some e=>(match e with
  | .var i=>ks.contains i | _=>false)
 | none=>false
def calJ (ks:List Nat) (f:Str) (args:Es) (q:Nat):Bool:=match findD T f with
 | some d=>d.io.isEmpty && (List.range d.ps.length).any fun p=>argJ d.body q p && argO ks (esAt args p)
 | none=>false
def itmJ (ks is:List Nat) (f:Str) (args:Es) (o:Option E):Bool:=newE (ks.filter fun i=>!is.contains i) o || (match o with
 | some e=>(match e with
  | .var i=>(List.range is.length).any fun q=>(is[q]? == some i) && calJ T ks f args q
  | _=>false)
 | none=>false)
def tailJ (ks:List Nat) (s:S) (r:Ss) (j:Nat):Bool:=match s with
 | .asgT is e=>decide is.Nodup && (match e with
  | .call f args im=>!im && (match r with
   | .cons s2 r2=>tupJ s2 r2 fun es=>itmJ T ks is f args (esAt es j)
   | _=>false)
  | _=>false)
 | _=>false
def endJ (ks:List Nat) (r:Ss) (j:Nat):Bool:=match r with
 | .cons s r=>(tupJ s r fun es=>newE ks (esAt es j)) || tailJ T ks s r j
 | _=>false
mutual
def newS:S -> Nat -> Bool
 | .ifs _ a b,j=>zdj b && newJ a j
 | .asg _ _,_=>true | .append _ _,_=>true | .whl _ b,_=>zdi b | _,_=>false
def newJ:Ss -> Nat -> Bool
 | .cons s r,j=>newS s j && newJ r j
 | .reb ks r,j=>endJ T ks r j
 | _,_=>false
end
end
def cJ (m:Ss) (k:Nat):Bool:=match m with
 | .cons s r=>zdj r && (match s with
  | .ret e=>(match e with
   | .lc x _ _ _=>(match x with
    | .tup es=>(match esAt es k with
     | some e=>frx e | none=>false)
    | _=>false)
   | _=>false)
  | _=>false)
 | _=>false
def NwI (H H':Hp) (vs:List V) (j:Nat) (xs:List D):Prop:=∃ (b:Addr) (us:List V),vs[j]?=some (.ref b) /\ H b=none /\ H' b=some (.lst us) /\ us.length=xs.length
def NewJ (H H':Hp) (r:D) (v:V) (j:Nat):Prop:=∀ ds xs,r=.tup ds -> ds[j]?=some (.lst xs) -> ∃ (a:Addr) (vs:List V),v=.ref a /\ H' a=some (.tup vs) /\ NwI H H' vs j xs
def ArgJ (H H':Hp) (as:List D) (ws:List V) (r:D) (v:V) (j p:Nat):Prop:=∀ ds xs,r=.tup ds -> ds[j]?=some (.lst xs) -> ∃ (a:Addr) (vs:List V),v=.ref a /\ H' a=some (.tup vs) /\ (NwI H H' vs j xs \/ (vs[j]?=ws[p]? /\ as[p]?=some (.lst xs)))
def CJ (H H':Hp) (r:D) (v:V) (k:Nat):Prop:=∀ xs,r=.lst xs -> ∃ (m:Addr) (us:List V),v=.ref m /\ H m=none /\ H' m=some (.lst us) ∧
 ∀ (i:Nat) (ds ys:List D),xs[i]?=some (.tup ds) -> ds[k]?=some (.lst ys) -> ∃ (t:Addr) (ws:List V) (b:Addr) (vs:List V),us[i]?=some (.ref t) /\ H' t=some (.tup ws) /\ ws[k]?=some (.ref b) /\ H b=none /\ H' b=some (.lst vs) /\ b ≠ m
structure Prom (T:List Def) (m:Ss) (np:Nat) (as:List D) (ws:List V) (H H':Hp) (r:D) (v:V):Prop where
 nj:∀ j,newJ T m j=true -> NewJ H H' r v j
 aj:∀ j p,p < np -> argJ m j p=true -> ArgJ H H' as ws r v j p
 cj:∀ k,cJ m k=true -> CJ H H' r v k
 tp:∀ j p,p < np -> argJ m j p=true -> ∃ ds,r=.tup ds
def spD (T:List Def) (K:PySem.W.Frag) (cls:Str -> Option Addr) (Fnc:Fn) (f:Str) (d:Def):Sp:=fun vs H Q E =>
 ∃ (ds:List D) (P0:Addr -> Prop) (IO:List Addr) (A:Addr -> Prop),EnvR K ⟨P0,H,IO,d.io⟩ d.io A (vs.map some) (ds.map some) H /\ vs.length=d.ps.length ∧
  match Fnc f ds with
  | .ok (r,outs)=>∀ v H',Ext (fun b=>b ∈ IO) H H' -> Rep K H' (fun b=>(P0 b \/ H b=none) /\ b ∉ IO) r v -> (d.fresh=true -> FreshR K H H' (fun b=>(P0 b \/ H b=none) /\ b ∉ IO) r v) -> (d.io=[] -> Prom T d.body d.ps.length ds vs H H' r v) →
    (∀ (k i:Nat) (o:D) (a:Addr),d.io[k]?=some i -> outs[k]?=some o -> o.mut=true -> vs[i]?=some (.ref a) -> OwnAt K H' (fun b=>(P0 b \/ H b=none) /\ b ∉ IO) a o) -> Q v H'
  | .exc c=>∀ C H',cls c=some C -> Ext (fun b=>b ∈ IO) H H' -> E (.ref C) none H'
  | .bad=>False
structure Hy (X:Cx) (T:List Def) (G:Str -> Option D) (Fnc:Fn) (n:Nat) (cls:Str -> Option Addr):Prop where
 calm:X.calm=true
 nd:X.N.Nodup
 room:Room n X.A
 glob:∀ x d,G x=some d -> ∃ v u,X.mg x=some u /\ RelV v u /\ ∀ K H P,Rep K H P d v
 blt:∀ x,x ∈ zca -> X.mg x=none
 flen:∀ f d ds,findD T f=some d -> Fnc f ds ≠ .bad -> ds.length=d.ps.length
 tab:∀ g d,findD T g=some d -> isTab d=true -> ∃ (a:Addr) (o:Obj) (its:Array Value) (n:Nat),X.mg g=some (.ref a) /\ X.K.lookup a=some o /\ o.cls=.type "tuple" /\ o.data=.seq its n /\ its.size <= sizeLine /\ Vals (d.ps.map V.str) its.toList
 fn:∀ f d,findD T f=some d -> isTab d=false -> ∃ a fd,X.mg f=some (.ref a) /\ PySem.W.keepIn X.K (.ref a)=true /\ Binds X.K fd d.ps [] /\ FnOk X.prog X.w X.K X.mg X.base (CX X.prog X.w) n a fd d.ps (spD T X.K cls Fnc f d)
theorem Hy.hu {X:Cx} {T:List Def} {G:Str -> Option D} {Fnc:Fn} {n:Nat} {cls:Str -> Option Addr} (h:Hy X T G Fnc n cls):X.A.units+65 < cLine:=by
 have:=h.room.un; omega
structure Got (K:PySem.W.Frag) (F:Fx) (A:Addr -> Prop) (O:List Nat) (T:List Def) (m:E) (H H':Hp) (d:D) (v:V):Prop where
 ext:Ext Nix H H'
 top:RepT K H' (PPa F A) d v
 rep:bareO O m=false -> Rep K H' (PPa F A) d v
 new:frE T m=true -> FreshR K H H' (PPa F A) d v
def PostR {α:Type} (okP:α -> Prop) (exP:Str -> Prop):R α -> Prop
 | .ok d=>okP d | .exc c=>exP c | .bad=>False
theorem PostR.of {α:Type} {p:α -> Prop} {e:Str -> Prop} {d:α} (h:p d):PostR p e (.ok d):=h
theorem PostR.bind {α β:Type} {okP:β -> Prop} {exP:Str -> Prop} {r:R α} {f:α -> R β} (h:PostR okP exP (r.bind f)):PostR (fun d=>PostR okP exP (f d)) exP r:=by
 cases r <;> exact h
theorem PostR.mono {α:Type} {p q:α -> Prop} {e e':Str -> Prop} {r:R α} (h:PostR p e r) (h1:∀ d,p d -> q d) (h2:∀ c,e c -> e' c):PostR q e' r:=by
 cases r with
 | ok d=>exact h1 d h
 | exc c=>exact h2 c h
 | bad=>exact h
theorem PostR.when {α:Type} {p:α -> Prop} {e:Str -> Prop} {c:Bool} {r:R α} (h:PostR p e (R.when c r)):c=true /\ PostR p e r:=by
 unfold R.when at h
 split at h
 ·rename_i z; exact ⟨z,h⟩
 ·exact h.elim
def noExc {α:Type} (r:R α):Prop:=∀ c,r ≠ .exc c
theorem PostR.get {α:Type} {p:α -> Prop} {e:Str -> Prop} {r:R α} (h:PostR p e r) (n:noExc r):∃ d,r=.ok d /\ p d:=by
 cases r with
 | ok d=>exact ⟨d,rfl,h⟩
 | exc c=>exact absurd rfl (n c)
 | bad=>exact h.elim
def ExW (cls:Str -> Option Addr) (W:WX) (σ:St) (H:Hp) (c:Str):Prop:=∀ C H',cls c=some C -> Ext Nix H H' -> W (.ref C) none σ H'
theorem ExW.step {cls:Str -> Option Addr} {W:WX} {σ:St} {H H1:Hp} {c:Str} (h:ExW cls W σ H c) (x:Ext Nix H H1):ExW cls W σ H1 c:=fun C H' e y=>h C H' e (x.trans y)
section
variable (T:List Def)
def SndE (m:E):Prop:=∀ {X:Cx} {e:Expr} {sc:Scope} {O:List Nat} {G:Str -> Option D} {Fnc:Fn} {n:Nat} {cls:Str -> Option Addr} {W:WX} {F:Fx} {A:Addr -> Prop} {σ:St} {ρ:Env} {H:Hp} {Q:VK},
 Hy X T G Fnc n cls -> Takes X W -> X.env.scope=sc -> chkE X.N T sc O m e=true -> EnvR X.K F O A σ ρ H →
 PostR (fun d=>∀ v H',Got X.K F A O T m H H' d v -> Q v H') (ExW cls W σ H) (evE G Fnc m ρ) -> WE X e σ H Q
def SndEs (m:Es):Prop:=∀ {X:Cx} {e:List Expr} {sc:Scope} {O:List Nat} {G:Str -> Option D} {Fnc:Fn} {n:Nat} {cls:Str -> Option Addr} {W:WX} {F:Fx} {A:Addr -> Prop} {σ:St} {ρ:Env} {H:Hp} {Q:List V -> Hp -> Prop},
 Hy X T G Fnc n cls -> Takes X W -> X.env.scope=sc -> chkEs X.N T sc O m e=true -> EnvR X.K F O A σ ρ H →
 PostR (fun ds=>∀ vs H',Ext Nix H H' -> RepTs X.K H' (PPa F A) ds vs -> (bares O m=false -> Reps X.K H' (PPa F A) ds vs) -> Q vs H') (ExW cls W σ H) (evEs G Fnc m ρ) -> WA X e σ H Q
end
section
variable {T:List Def} {X:Cx} {sc:Scope} {O:List Nat} {G:Str -> Option D} {Fnc:Fn} {n:Nat} {cls:Str -> Option Addr} {W:WX} {F:Fx} {A:Addr -> Prop} {σ:St} {ρ:Env} {H:Hp}
theorem EnvR.np (I:EnvR X.K F O A σ ρ H):NewP (PPa F A) H:=fun _ hp=>I.newP hp
theorem Got.of {K:PySem.W.Frag} {H':Hp} {d:D} {v:V} {m:E} (x:Ext Nix H H') (r:Rep K H' (PPa F A) d v) (f:FreshR K H H' (PPa F A) d v):Got K F A O T m H H' d v:=⟨x,.inl r,fun _=>r,fun _=>f⟩
theorem Got.ofn {K:PySem.W.Frag} {H':Hp} {d:D} {v:V} {m:E} (x:Ext Nix H H') (r:Rep K H' (PPa F A) d v) (hf:frE T m=false):Got K F A O T m H H' d v:=⟨x,.inl r,fun _=>r,fun z=>by rw [hf] at z; cases z⟩
theorem Got.flat {K:PySem.W.Frag} {d:D} {v:V} {m:E} (r:Rep K H (PPa F A) d v) (hf:d.mut=false):Got K F A O T m H H d v:=.of Ext.refl r (FreshR.flat hf)
theorem zaV {a b:E} {ea eb:Expr} {exc:Str -> Prop} {ok:D -> D -> Prop} {Rr:V -> V -> Hp -> Prop} (ha:SndE T a) (hb:SndE T b) (hy:Hy X T G Fnc n cls) (tk:Takes X W) (hs:X.env.scope=sc) (ca:chkE X.N T sc O a ea=true) (cb:chkE X.N T sc O b eb=true)
  (I:EnvR X.K F O A σ ρ H) (hex:∀ c,exc c -> ExW cls W σ H c) (h:PostR (fun x=>PostR (fun y=>ok x y) exc (evE G Fnc b ρ)) exc (evE G Fnc a ρ))
  (k:∀ x y v u H2,Ext Nix H H2 -> EnvR X.K F O A σ ρ H2 -> RepT X.K H2 (PPa F A) x v -> RepT X.K H2 (PPa F A) y u -> (frE T a=true -> ∃ H1,Ext Nix H H1 /\ Ext Nix H1 H2 /\ FreshR X.K H H1 (PPa F A) x v) -> ok x y -> Rr v u H2) :
  WE X ea σ H fun v H1=>WE X eb σ H1 fun u H2=>Rr v u H2:=by
 refine ha hy tk hs ca I (h.mono (fun x hx v H1 g=>?_) hex)
 have I1:=I.step g.ext
 refine hb hy tk hs cb I1 (hx.mono (fun y hy' u H2 g2=>?_) fun c hc=>(hex c hc).step g.ext)
 exact k x y v u H2 (g.ext.trans g2.ext) (I1.step g2.ext) (g.top.ext g2.ext) g2.top (fun f=>⟨H1,g.ext,g2.ext,g.new f⟩) hy'
theorem zak {K:PySem.W.Frag} {H2:Hp} {d:D} {Q:VK} {m:E} (x:Ext Nix H H2) (q:∀ v H',Got K F A O T m H H' d v -> Q v H'):OutF K (PPa F A) H2 d Q:=fun v H' y r f=>q v H' (.of (x.trans y) r (f.back x))
theorem zfG {K:PySem.W.Frag} {H2:Hp} {d:D} {Q:VK} {m:E} (x:Ext Nix H H2) (hf:frE T m=false) (q:∀ v H',Got K F A O T m H H' d v -> Q v H'):Out K (PPa F A) H2 d Q:=fun v H' y r=>q v H' (.ofn (x.trans y) r hf)
end
section
variable {T:List Def}
theorem zeT (op:BOp) (x y:D):noExc (dBin op x y):=by
 intro c
 cases op <;> cases x <;> cases y <;> first | (intro z; cases z; done) | (simp only [dBin,dAdd,dSub,dMul,dDiv,dMod,dPow,R.when]; split <;> intro z <;> cases z)
theorem zoU (i:Nat):SndE T (.var i):=by
 intro X e sc O G Fnc n cls W F A σ ρ H Q hy tk hs c I h
 cases e <;> (try (simp [chkE] at c; done))
 rename_i x p
 rw [chkE,Bool.and_eq_true] at c
 obtain ⟨c1,c2⟩:=c
 subst hs
 obtain ⟨v1,v2,v3⟩:=zbw c2
 have hN:X.N[i]?=some x:=by simpa using c1
 have h':PostR (fun d=>∀ v H',Got X.K F A O T (.var i) H H' d v -> Q v H') (ExW cls W σ H) (getV ρ i):=h
 unfold getV at h'
 split at h'
 ·rename_i d e1
  obtain ⟨v,e2,s⟩:=I.val i d e1
  refine we_of (pe_var hN v1 v2 v3) ⟨v,e2,h' v H ⟨Ext.refl,I.top e1 e2,fun b=>I.plain e1 e2 b,fun z=>by cases z⟩⟩
 ·exact h'.elim
theorem zlZ (x:Str):SndE T (.glob x):=by
 intro X e sc O G Fnc n cls W F A σ ρ H Q hy tk hs c I h
 cases e <;> (try (simp [chkE] at c; done))
 rename_i y p
 rw [chkE,Bool.and_eq_true] at c
 obtain ⟨c1,c2⟩:=c
 subst hs
 have ex:x=y:=by simpa using c1
 subst ex
 obtain ⟨g1,g2,g3⟩:=gl_of c2
 have h':PostR (fun d=>∀ v H',Got X.K F A O T (.glob x) H H' d v -> Q v H') (ExW cls W σ H) (R.of (G x)):=h
 cases eg:G x with
 | none=>rw [eg] at h'; exact h'.elim
 | some d =>
  rw [eg] at h'
  obtain ⟨v,u,hm,rl,rp⟩:=hy.glob x d eg
  exact we_of (pe_glob g1 hm rl g2) (h' v H (.ofn Ext.refl (rp _ _ _) rfl))
theorem zoV (k:Int):SndE T (.int k):=by
 intro X e sc O G Fnc n cls W F A σ ρ H Q hy tk hs c I h
 cases e <;> (try (simp [chkE] at c; done))
 rename_i cc j p
 cases cc <;> (try (simp [chkE] at c; done))
 rename_i m
 have em:k=m:=by simpa [chkE] using c
 subst em
 exact we_of pe_int (h (.int k) H (.flat (.int k) rfl))
theorem zoW (k:Str):SndE T (.str k):=by
 intro X e sc O G Fnc n cls W F A σ ρ H Q hy tk hs c I h
 cases e <;> (try (simp [chkE] at c; done))
 rename_i cc j p
 cases cc <;> (try (simp [chkE] at c; done))
 rename_i m
 have em:k=m:=by simpa [chkE] using c
 subst em
 exact we_of pe_str (h (.str k) H (.flat (.str k) rfl))
theorem zrw (k:Bool):SndE T (.bl k):=by
 intro X e sc O G Fnc n cls W F A σ ρ H Q hy tk hs c I h
 cases e <;> (try (simp [chkE] at c; done))
 rename_i cc j p
 cases cc <;> (try (simp [chkE] at c; done))
 rename_i m
 have em:k=m:=by simpa [chkE] using c
 subst em
 exact we_of pe_bl (h (.bl k) H (.flat (.bl k) rfl))
theorem zoX:SndE T .non:=by
 intro X e sc O G Fnc n cls W F A σ ρ H Q hy tk hs c I h
 cases e <;> (try (simp [chkE] at c; done))
 rename_i cc j p
 cases cc <;> (try (simp [chkE] at c; done))
 exact we_of pe_non (h .non H (.flat .non rfl))
theorem zoY {op:BOp} {a b:E} (ha:SndE T a) (hb:SndE T b):SndE T (.bin op a b):=by
 intro X e sc O G Fnc n cls W F A σ ρ H Q hy tk hs c I h
 cases e <;> (try (simp [chkE] at c; done))
 rename_i x o y p
 rw [chkE,Bool.and_eq_true,Bool.and_eq_true] at c
 obtain ⟨⟨c1,c2⟩,c3⟩:=c
 have:=ziV c1
 subst this
 refine we_of (pe_op op_om pe_we pe_we) (zaV (exc:=ExW cls W σ H) ha hb hy tk hs c2 c3 I (fun _ z=>z) ((show PostR _ _ ((evE G Fnc a ρ).bind fun x=>(evE G Fnc b ρ).bind fun y=>dBin op x y) from h).bind.mono (fun x hx=>hx.bind) fun _ z=>z) fun x y v u H2 e2 I2 rx ry _ q=>?_)
 obtain ⟨d,ed,q⟩:=q.get (zeT op x y)
 exact ziJ rx ry ed I2.np (zak e2 q)
theorem zoZ {a b:E} (ha:SndE T a) (hb:SndE T b):SndE T (.rep a b):=by
 intro X e sc O G Fnc n cls W F A σ ρ H Q hy tk hs c I h
 cases e <;> (try (simp [chkE] at c; done))
 rename_i x o y p
 cases o <;> (try (simp [chkE] at c; done))
 rw [chkE,Bool.and_eq_true,Bool.and_eq_true] at c
 obtain ⟨⟨c1,c2⟩,c3⟩:=c
 refine we_of (pe_op (op:=.Mult) op_om pe_we pe_we) (zaV (exc:=ExW cls W σ H) ha hb hy tk hs c2 c3 I (fun _ z=>z) ((show PostR _ _ ((evE G Fnc a ρ).bind fun x=>(evE G Fnc b ρ).bind fun y=>dRep x y) from h).bind.mono (fun x hx=>hx.bind) fun _ z=>z) fun x y v u H2 e2 I2 rx ry fr q=>?_)
 have q':PostR (fun d=>∀ v H',Got X.K F A O T (.rep a b) H H' d v -> Q v H') (ExW cls W σ H) (dRep x y):=q
 cases x <;> (try exact q'.elim)
 rename_i xs
 obtain ⟨d,ed,q⟩:=q'.get (by
  intro c
  cases y <;> first | (intro z; cases z; done) | (simp only [dRep,R.when]; split <;> intro z <;> cases z))
 obtain ⟨H1,x1,x2,f⟩:=fr c1
 obtain ⟨l,rfl,_,w⟩:=f rfl
 have w2:=OwnAt.ext w x2
 obtain ⟨vs,hv,rv⟩:=w2
 exact zru (P:=PPa F A) ⟨vs,hv,rv.weak fun _ z=>z.1⟩ ry ed I2.np (zak e2 q)
theorem zo0 {a:E} (ha:SndE T a):SndE T (.neg a):=by
 intro X e sc O G Fnc n cls W F A σ ρ H Q hy tk hs c I h
 cases e <;> (try (simp [chkE] at c; done))
 rename_i o x p
 cases o <;> (try (simp [chkE] at c; done))
 rw [chkE] at c
 refine we_of (pe_un un_neg pe_we) (ha hy tk hs c I ((show PostR _ _ ((evE G Fnc a ρ).bind fun x=>dNeg x) from h).bind.mono (fun x hx v H1 g=>?_) fun _ z=>z))
 obtain ⟨d,ed,q⟩:=hx.get (by intro c; cases x <;> intro z <;> cases z)
 exact zok g.top ed (zak g.ext q)
theorem zo1 {a:E} (ha:SndE T a):SndE T (.not a):=by
 intro X e sc O G Fnc n cls W F A σ ρ H Q hy tk hs c I h
 cases e <;> (try (simp [chkE] at c; done))
 rename_i o x p
 cases o <;> (try (simp [chkE] at c; done))
 rw [chkE] at c
 refine we_of (pe_notT pe_we) (ha hy tk hs c I ((show PostR _ _ ((evE G Fnc a ρ).bind fun x=>(zac x).bind fun b=>R.ok (D.bl (!b))) from h).bind.mono (fun x hx v H1 g=>?_) fun _ z=>z))
 obtain ⟨b,eb,q⟩:=hx.bind.get (by intro c; cases x <;> first | (intro z; cases z; done) | (simp only [zac,R.when]; split <;> intro z <;> cases z))
 exact ⟨b,zaY g.top eb,q _ _ (.of g.ext (.bl _) (FreshR.flat rfl))⟩
theorem zgM (x y:D):noExc (dEq x y):=by
 intro c; unfold dEq R.when; split <;> intro z <;> cases z
theorem zag {α β:Type} {r:R α} {f:α -> R β} (h:noExc r) (h2:∀ a,noExc (f a)):noExc (r.bind f):=by
 cases r with
 | ok a=>exact h2 a
 | exc c=>exact absurd rfl (h c)
 | bad=>intro c z; cases z
theorem zad {α:Type} (a:α):noExc (R.ok a):=fun c z=>by cases z
theorem zat {α:Type} (a:Option α):noExc (R.of a):=fun c z=>by cases a <;> cases z
theorem zal {α:Type} {c:Bool} {r:R α} (h:noExc r):noExc (R.when c r):=by
 intro c; unfold R.when; split
 ·exact h c
 ·intro z; cases z
theorem zcC (x y:D):noExc (dLook x y):=by
 cases x <;> first
  | exact zag (zat _) fun _=>zad _
  | (cases y <;> first | (intro c z; cases z; done) | exact zag (zat _) fun _=>zad _)
  | (intro c z; cases z)
theorem zgN (x y:D):noExc (dIn x y):=by
 cases y <;> first
  | (cases x <;> first | exact zad _ | (intro c z; cases z))
  | exact zal (zad _)
  | exact zag (zcC _ _) fun _=>zad _
  | (intro c z; cases z)
theorem zgO (x y:D):noExc (dIs x y):=by
 cases y <;> cases x <;> first | exact zad _ | (intro c z; cases z)
theorem zcb {p:Int -> Int -> Bool} {q:PyData -> PyData -> Bool} (x y:D):noExc (dOrd p q x y):=by
 cases x <;> cases y <;> first | exact zad _ | exact zal (zad _)
theorem zaA (op:COp) (x y:D):noExc (dCmp op x y):=by
 cases op with
 | eq=>exact zgM x y
 | ne=>exact zag (zgM x y) fun _=>zad _
 | lt=>exact zcb (p:=fun i j=>decide (i < j)) (q:=fun x y=>PySem.W.dataLt x y) x y
 | le=>exact zcb (p:=fun i j=>decide (i <= j)) (q:=fun x y=>!PySem.W.dataLt y x) x y
 | gt=>exact zcb (p:=fun i j=>decide (j < i)) (q:=fun x y=>PySem.W.dataLt y x) x y
 | ge=>exact zcb (p:=fun i j=>decide (j <= i)) (q:=fun x y=>!PySem.W.dataLt x y) x y
 | is=>exact zgO x y
 | isnot=>exact zag (zgO x y) fun _=>zad _
 | isin=>exact zgN x y
 | notin=>exact zag (zgN x y) fun _=>zad _
theorem zau (x:D):noExc (zac x):=by
 cases x <;> first | exact zad _ | exact zal (zad _) | (intro c z; cases z)
theorem zaF (x:D):noExc (dInt x):=by
 cases x <;> first | exact zad _ | (intro c z; cases z)
theorem zeU (x y:D):noExc (dIdx x y):=by
 cases x <;> first
  | exact zag (zcC _ _) fun _=>zat _
  | (cases y <;> first | exact zat _ | exact zal (zag (zat _) fun _=>zad _) | (intro c z; cases z))
  | (intro c z; cases z)
theorem zbq (x:D) (lo hi:Option Int):noExc (zaH x lo hi):=by
 cases x <;> first | exact zad _ | exact zal (zad _) | (intro c z; cases z)
theorem zaS {o:CmpOp} {e:Expr} (h:zbR o e=true):behindInMarks o e=false:=by
 unfold zbR at h; simpa using h
theorem zo2 {op:COp} {a b:E} (ha:SndE T a) (hb:SndE T b):SndE T (.cmp op a b):=by
 intro X e sc O G Fnc n cls W F A σ ρ H Q hy tk hs c I h
 cases e <;> (try (simp [chkE] at c; done))
 rename_i x os ys p
 cases os with
 | nil=>simp [chkE] at c
 | cons o os =>
  cases os with
  | cons _ _=>simp [chkE] at c
  | nil =>
   cases ys with
   | nil=>simp [chkE] at c
   | cons y ys =>
    cases ys with
    | cons _ _=>simp [chkE] at c
    | nil =>
     rw [chkE,Bool.and_eq_true,Bool.and_eq_true,Bool.and_eq_true] at c
     obtain ⟨⟨⟨c1,c4⟩,c2⟩,c3⟩:=c
     have:=zas c1
     subst this
     refine we_of (pe_cmpR op_om pe_we pe_we (zaS c4)) (zaV (exc:=ExW cls W σ H) ha hb hy tk hs c2 c3 I (fun _ z=>z) ((show PostR _ _ ((evE G Fnc a ρ).bind fun x=>(evE G Fnc b ρ).bind fun y=>(dCmp op x y).bind fun c=>R.ok (D.bl c)) from h).bind.mono (fun x hx=>hx.bind) fun _ z=>z) fun x y v u H2 e2 I2 rx ry _ q=>?_)
     obtain ⟨d,ed,q⟩:=q.bind.get (zaA op x y)
     exact za9 hy.hu rx ry ed (q _ _ (.of e2 (.bl _) (FreshR.flat rfl)))
theorem zeV {op pp:COp} {a b d:E} (ha:SndE T a) (hb:SndE T b) (hd:SndE T d):SndE T (.chain op pp a b d):=by
 intro X e sc O G Fnc n cls W F A σ ρ H Q hy tk hs c I h
 cases e <;> (try (simp [chkE] at c; done))
 rename_i x os ys p
 match os,ys,c with
 | [o1,p1],[y,z],c =>
  rw [chkE,Bool.and_eq_true,Bool.and_eq_true,Bool.and_eq_true,Bool.and_eq_true,Bool.and_eq_true] at c
  obtain ⟨⟨⟨⟨⟨c1,c2⟩,c3⟩,c4⟩,c5⟩,c6⟩:=c
  have:=zas c1
  subst this
  have:=zas c2
  subst this
  refine we_of (pe_chain op_om op_om pe_we pe_we pe_we (show behindInMarks _ z=false from zaS c3)) (zaV (exc:=ExW cls W σ H) ha hb hy tk hs c4 c5 I (fun _ z=>z) ((show PostR _ _ ((evE G Fnc a ρ).bind fun x=>(evE G Fnc b ρ).bind fun y=>(dCmp op x y).bind fun k =>
   if k=true then (evE G Fnc d ρ).bind fun z=>(dCmp pp y z).bind fun k=>R.ok (D.bl k) else R.ok (D.bl false)) from h).bind.mono (fun x hx=>hx.bind) fun _ z=>z) fun x y v u H2 e2 I2 rx ry _ q=>?_)
  obtain ⟨k,ek,q⟩:=q.bind.get (zaA op x y)
  refine za9 hy.hu rx ry ek ⟨k,rfl,?_⟩
  cases k with
  | true =>
   rw [if_pos rfl] at q ⊢
   refine hd hy tk hs c6 I2 (q.bind.mono (fun z hz w H3 g=>?_) fun c hc=>ExW.step hc e2)
   obtain ⟨k2,ek2,q2⟩:=hz.bind.get (zaA pp y z)
   exact za9 hy.hu (ry.ext g.ext) g.top ek2 (q2 _ _ (.of (e2.trans g.ext) (.bl _) (FreshR.flat rfl)))
  | false =>
   rw [if_neg Bool.false_ne_true] at q ⊢
   exact q _ _ (.of e2 (.bl _) (FreshR.flat rfl))
theorem zo3 {a b:E} (ha:SndE T a) (hb:SndE T b):SndE T (.idx a b):=by
 intro X e sc O G Fnc n cls W F A σ ρ H Q hy tk hs c I h
 cases e <;> (try (simp [chkE] at c; done))
 rename_i x y p
 rw [chkE,Bool.and_eq_true,Bool.and_eq_true] at c
 obtain ⟨⟨c1,c2⟩,c3⟩:=c
 have key:∀ {Rr:V -> V -> Hp -> Prop},(∀ (x y:D) (v u:V) (H2:Hp),Ext Nix H H2 -> RepT X.K H2 (PPa F A) x v -> RepT X.K H2 (PPa F A) y u -> PostR (fun d=>∀ v H',Got X.K F A O T (.idx a b) H H' d v -> Q v H') (ExW cls W σ H) (dIdx x y) -> evE G Fnc a ρ=.ok x -> Rr v u H2) →
   WE X x σ H fun v H1=>WE X y σ H1 fun u H2=>Rr v u H2:=fun {Rr} k=>by
  cases ea:evE G Fnc a ρ with
  | bad =>
   have h':PostR _ _ ((evE G Fnc a ρ).bind fun x=>(evE G Fnc b ρ).bind fun y=>dIdx x y):=h
   rw [ea] at h'; exact h'.elim
  | exc cc =>
   have h':PostR _ _ ((evE G Fnc a ρ).bind fun x=>(evE G Fnc b ρ).bind fun y=>dIdx x y):=h
   rw [ea] at h'
   refine ha hy tk hs c2 I ?_
   rw [ea]; exact h'
  | ok xd =>
   have h':PostR _ _ ((evE G Fnc a ρ).bind fun x=>(evE G Fnc b ρ).bind fun y=>dIdx x y):=h
   rw [ea] at h'
   refine zaV (exc:=ExW cls W σ H) (ok:=fun x y=>x=xd /\ PostR (fun d=>∀ v H',Got X.K F A O T (.idx a b) H H' d v -> Q v H') (ExW cls W σ H) (dIdx x y)) ha hb hy tk hs c2 c3 I (fun _ z=>z) ?_ fun x y v u H2 e2 I2 rx ry _ q=>k x y v u H2 e2 rx ry q.2 (by rw [q.1,ea])
   rw [ea]
   exact (show PostR _ _ ((evE G Fnc b ρ).bind fun y=>dIdx xd y) from h').bind.mono (fun y hy=>⟨rfl,hy⟩) fun _ z=>z
 by_cases dd:∃ kd,evE G Fnc a ρ=.ok kd /\ zeP kd=true
 ·obtain ⟨kd,ek,dk⟩:=dd
  refine we_of (pe_dget (by have:=hy.hu; omega) pe_we pe_we (zhC c1)) (key fun x y v u H2 e2 rx ry q ex=>?_)
  rw [ek] at ex
  cases ex
  obtain ⟨d,ed,q⟩:=q.get (zeU kd y)
  exact zlW rx ry ed dk (zfG e2 rfl q)
 ·refine we_of (pe_ix ix_seq pe_we pe_we (zb9 c1)) (key fun x y v u H2 e2 rx ry q ex=>?_)
  obtain ⟨d,ed,q⟩:=q.get (zeU x y)
  refine zoO rx ry ed ?_ (zfG e2 rfl q)
  cases z:zeP x with
  | false=>rfl
  | true=>exact absurd ⟨x,ex,z⟩ dd
end
end L2.Pf
namespace L2.Pf
open PySem PySem.Spec PyProof.Rows
section
variable {T:List Def}
theorem zo4:SndEs T .nil:=by
 intro X e sc O G Fnc n cls W F A σ ρ H Q hy tk hs c I h
 cases e <;> (try (simp [chkEs] at c; done))
 exact wa_of pa_nil (h [] H Ext.refl .nil fun _=>.nil)
theorem zl0 {a:E} {r:Es} (ha:SndE T a) (hr:SndEs T r):SndEs T (.cons a r):=by
 intro X e sc O G Fnc n cls W F A σ ρ H Q hy tk hs c I h
 cases e <;> (try (simp [chkEs] at c; done))
 rename_i x xs
 rw [chkEs,Bool.and_eq_true] at c
 have h':PostR _ _ ((evE G Fnc a ρ).bind fun x=>(evEs G Fnc r ρ).bind fun y=>R.ok (x :: y)):=h
 refine wa_of (pa_cons pe_we pa_wa (zab (zaa _ _ c.1))) (ha hy tk hs c.1 I (h'.bind.mono (fun d hd v H1 g=>?_) fun _ z=>z))
 refine hr hy tk hs c.2 (I.step g.ext) (hd.bind.mono (fun ds hds vs H2 x2 t p=>?_) fun c hc=>ExW.step hc g.ext)
 refine hds (v :: vs) H2 (g.ext.trans x2) (.cons (g.top.ext x2) t) fun b=>?_
 have b':(bareO O a || bares O r)=false:=b
 rw [Bool.or_eq_false_iff] at b'
 exact .cons ((g.rep b'.1).ext x2 fun _ _ z=>z) (p b'.2)
theorem zo5 {es:Es} (he:SndEs T es):SndE T (.tup es):=by
 intro X e sc O G Fnc n cls W F A σ ρ H Q hy tk hs c I h
 cases e <;> (try (simp [chkE] at c; done))
 rename_i xs k p
 rw [chkE,Bool.and_eq_true] at c
 have h':PostR _ _ ((evEs G Fnc es ρ).bind fun x=>R.when (decide (x.length <= sizeLine)) (R.ok (D.tup x))):=h
 refine we_of (pe_tup pa_wa) (he hy tk hs c.1 I (h'.bind.mono (fun ds hds vs H1 x1 t p=>?_) fun _ z=>z))
 obtain ⟨w,q⟩:=hds.when
 have r:=p (by simpa using c.2)
 refine ⟨by rw [<- r.length]; exact of_decide_eq_true w,fun pp hp=>zb0 (P:=PPa F A) hp r (zak x1 q)⟩
theorem zo6 {es:Es} (he:SndEs T es):SndE T (.lst es):=by
 intro X e sc O G Fnc n cls W F A σ ρ H Q hy tk hs c I h
 cases e <;> (try (simp [chkE] at c; done))
 rename_i xs p
 rw [chkE,Bool.and_eq_true] at c
 have h':PostR _ _ ((evEs G Fnc es ρ).bind fun x=>R.when (decide (x.length <= sizeLine)) (R.ok (D.lst x))):=h
 refine we_of (pe_lst pa_wa) (he hy tk hs c.1 I (h'.bind.mono (fun ds hds vs H1 x1 t p=>?_) fun _ z=>z))
 obtain ⟨w,q⟩:=hds.when
 have r:=p (by simpa using c.2)
 have I1:=I.step x1
 refine ⟨by rw [<- r.length]; exact of_decide_eq_true w,fun pp hp=>zaC (P:=PPa F A) hp (I1.newP hp) r (zak x1 q)⟩
theorem zrx:SndE T .dnewK:=by
 intro X e sc O G Fnc n cls W F A σ ρ H Q hy tk hs c I h
 cases e <;> (try (simp [chkE] at c; done))
 rename_i ks vs p
 cases ks <;> cases vs <;> (try (simp [chkE] at c; done))
 exact we_of pe_dnewK fun pp hp=>ziH (P:=PPa F A) (kvs:=[]) (ws:=[]) hp (I.newP hp) rfl .nil (zak Ext.refl h)
theorem zry:SndE T .dnewT:=by
 intro X e sc O G Fnc n cls W F A σ ρ H Q hy tk hs c I h
 cases e <;> (try (simp [chkE] at c; done))
 rename_i ks vs p
 cases ks <;> cases vs <;> (try (simp [chkE] at c; done))
 exact we_of pe_dnewT fun pp hp=>zoj (P:=PPa F A) (kvs:=[]) (ws:=[]) hp (I.newP hp) rfl .nil (zak Ext.refl h)
theorem zgP {X:Cx}:SlR X (fun x lo hi H Q=>rSlL X.K x lo hi H Q \/ rSlA X.K x lo hi H Q \/ rSlS x lo hi H Q):=SlR.or sl_list (SlR.or sl_tupA sl_str)
theorem zl1 {a:E} (ha:SndE T a):SndE T (.slcA a):=by
 intro X e sc O G Fnc n cls W F A σ ρ H Q hy tk hs c I h
 cases e <;> (try (simp [chkE] at c; done))
 rename_i x y p
 cases y <;> (try (simp [chkE] at c; done))
 rename_i l u s p2
 cases l <;> cases u <;> cases s <;> (try (simp [chkE] at c; done))
 rw [chkE] at c
 have h':PostR _ _ ((evE G Fnc a ρ).bind fun x=>zaH x none none):=h
 refine we_of (pe_slice zgP pe_we po_none po_none) (ha hy tk hs c I (h'.bind.mono (fun d hd v H1 g=>?_) fun _ z=>z))
 obtain ⟨r,er,q⟩:=hd.get (zbq d none none)
 exact zeb (P:=PPa F A) g.top er (I.step g.ext).np (zak g.ext q)
theorem zl2 {a b:E} (ha:SndE T a) (hb:SndE T b):SndE T (.slcL a b):=by
 intro X e sc O G Fnc n cls W F A σ ρ H Q hy tk hs c I h
 cases e <;> (try (simp [chkE] at c; done))
 rename_i x y p
 cases y <;> (try (simp [chkE] at c; done))
 rename_i l u s p2
 cases l <;> cases u <;> cases s <;> (try (simp [chkE] at c; done))
 rename_i l
 rw [chkE,Bool.and_eq_true] at c
 have h':PostR _ _ ((evE G Fnc a ρ).bind fun x=>(evE G Fnc b ρ).bind fun y=>(dInt y).bind fun i=>zaH x (some i) none):=h
 refine we_of (pe_slice zgP pe_we (po_some pe_we) po_none) (zaV (exc:=ExW cls W σ H) ha hb hy tk hs c.1 c.2 I (fun _ z=>z) (h'.bind.mono (fun x hx=>hx.bind) fun _ z=>z) fun x y v u H2 e2 I2 rx ry _ q=>?_)
 obtain ⟨i,ei,q⟩:=q.bind.get (zaF y)
 cases y <;> cases ei
 obtain rfl:=ry.int
 obtain ⟨r,er,q⟩:=q.get (zbq x _ none)
 exact ⟨i,rfl,zeb (P:=PPa F A) rx er I2.np (zak e2 q)⟩
theorem zl3 {a b:E} (ha:SndE T a) (hb:SndE T b):SndE T (.slcH a b):=by
 intro X e sc O G Fnc n cls W F A σ ρ H Q hy tk hs c I h
 cases e <;> (try (simp [chkE] at c; done))
 rename_i x y p
 cases y <;> (try (simp [chkE] at c; done))
 rename_i l u s p2
 cases l <;> cases u <;> cases s <;> (try (simp [chkE] at c; done))
 rename_i l
 rw [chkE,Bool.and_eq_true] at c
 have h':PostR _ _ ((evE G Fnc a ρ).bind fun x=>(evE G Fnc b ρ).bind fun y=>(dInt y).bind fun i=>zaH x none (some i)):=h
 refine we_of (pe_slice zgP pe_we po_none (po_some pe_we)) (zaV (exc:=ExW cls W σ H) ha hb hy tk hs c.1 c.2 I (fun _ z=>z) (h'.bind.mono (fun x hx=>hx.bind) fun _ z=>z) fun x y v u H2 e2 I2 rx ry _ q=>?_)
 obtain ⟨i,ei,q⟩:=q.bind.get (zaF y)
 cases y <;> cases ei
 obtain rfl:=ry.int
 obtain ⟨r,er,q⟩:=q.get (zbq x none _)
 exact ⟨i,rfl,zeb (P:=PPa F A) rx er I2.np (zak e2 q)⟩
theorem zl4 {a b d:E} (ha:SndE T a) (hb:SndE T b) (hd:SndE T d):SndE T (.slcB a b d):=by
 intro X e sc O G Fnc n cls W F A σ ρ H Q hy tk hs c I h
 cases e <;> (try (simp [chkE] at c; done))
 rename_i x y p
 cases y <;> (try (simp [chkE] at c; done))
 rename_i l u s p2
 cases l <;> cases u <;> cases s <;> (try (simp [chkE] at c; done))
 rename_i l u
 rw [chkE,Bool.and_eq_true,Bool.and_eq_true] at c
 have h':PostR _ _ ((evE G Fnc a ρ).bind fun x=>(evE G Fnc b ρ).bind fun y=>(dInt y).bind fun i=>(evE G Fnc d ρ).bind fun z=>(dInt z).bind fun j=>zaH x (some i) (some j)):=h
 refine we_of (pe_slice zgP pe_we (po_some pe_we) (po_some pe_we)) (zaV (exc:=ExW cls W σ H) ha hb hy tk hs c.1.1 c.1.2 I (fun _ z=>z) (h'.bind.mono (fun x hx=>hx.bind) fun _ z=>z) fun x y v u H2 e2 I2 rx ry _ q=>?_)
 obtain ⟨i,ei,q⟩:=q.bind.get (zaF y)
 cases y <;> cases ei
 obtain rfl:=ry.int
 have q':PostR (fun d'=>∀ v H',Got X.K F A O T (.slcB a b d) H H' d' v -> Q v H') (ExW cls W σ H) ((evE G Fnc d ρ).bind fun z=>(dInt z).bind fun j=>zaH x (some i) (some j)):=q
 refine ⟨i,rfl,hd hy tk hs c.2 I2 (q'.bind.mono (fun z hz w H3 g=>?_) fun c hc=>ExW.step hc e2)⟩
 obtain ⟨j,ej,q⟩:=hz.bind.get (zaF z)
 cases z <;> cases ej
 obtain rfl:=g.top.int
 obtain ⟨r,er,q⟩:=q.get (zbq x _ _)
 exact ⟨j,rfl,zeb (P:=PPa F A) (rx.ext g.ext) er (I2.step g.ext).np (zak (e2.trans g.ext) q)⟩
def zdO (T:List Def) (m:Es):Prop:=∀ {X:Cx} {e:List Expr} {pos:Pos} {sc:Scope} {O:List Nat} {G:Str -> Option D} {Fnc:Fn} {n:Nat} {cls:Str -> Option Addr} {W:WX} {F:Fx} {A:Addr -> Prop} {σ:St} {ρ:Env} {H:Hp} {Q:VK},
 Hy X T G Fnc n cls -> Takes X W -> X.env.scope=sc -> chkEs X.N T sc O m e=true -> bares O m=false -> EnvR X.K F O A σ ρ H →
 (PostR (fun d=>∀ v H',Ext Nix H H' -> Rep X.K H' (PPa F A) d v -> Q v H') (ExW cls W σ H) (evAnd G Fnc m ρ) -> WE X (.BoolOp .And e pos) σ H Q) ∧
 (PostR (fun d=>∀ v H',Ext Nix H H' -> Rep X.K H' (PPa F A) d v -> Q v H') (ExW cls W σ H) (evOr G Fnc m ρ) -> WE X (.BoolOp .Or e pos) σ H Q)
theorem zl5:zdO T .nil:=by
 intro X e pos sc O G Fnc n cls W F A σ ρ H Q hy tk hs c b I
 exact ⟨fun h=>h.elim,fun h=>h.elim⟩
theorem ziY {a:E} {r:Es} (ha:SndE T a) (hr:zdO T r):zdO T (.cons a r):=by
 intro X e pos sc O G Fnc n cls W F A σ ρ H Q hy tk hs c b I
 cases e <;> (try (simp [chkEs] at c; done))
 rename_i x xs
 rw [chkEs,Bool.and_eq_true] at c
 have b':(bareO O a || bares O r)=false:=b
 rw [Bool.or_eq_false_iff] at b'
 cases r with
 | nil =>
  cases xs <;> (try (simp [chkEs] at c; done))
  refine ⟨fun h=>?_,fun h=>?_⟩
  ·exact we_of (pe_one pe_we) (ha hy tk hs c.1 I ((show PostR _ _ (evE G Fnc a ρ) from h).mono (fun d q v H' g=>q v H' g.ext (g.rep b'.1)) fun _ z=>z))
  ·exact we_of (pe_one pe_we) (ha hy tk hs c.1 I ((show PostR _ _ (evE G Fnc a ρ) from h).mono (fun d q v H' g=>q v H' g.ext (g.rep b'.1)) fun _ z=>z))
 | cons f r =>
  cases xs <;> (try (simp [chkEs] at c; done))
  rename_i y ys
  refine ⟨fun h=>?_,fun h=>?_⟩
  ·have h':PostR _ _ ((evE G Fnc a ρ).bind fun x=>(zac x).bind fun c=>if c=true then evAnd G Fnc (.cons f r) ρ else R.ok x):=h
   refine we_of (pe_andT pe_we pe_we) (ha hy tk hs c.1 I (h'.bind.mono (fun d hd v H1 g=>?_) fun _ z=>z))
   obtain ⟨k,ek,q⟩:=hd.bind.get (zau d)
   refine ⟨k,zaY g.top ek,?_⟩
   cases k with
   | true =>
    rw [if_pos rfl] at q ⊢
    exact (hr hy tk hs c.2 b'.2 (I.step g.ext)).1 (q.mono (fun d q v H' x r=>q v H' (g.ext.trans x) r) fun c hc=>ExW.step hc g.ext)
   | false =>
    rw [if_neg Bool.false_ne_true] at q ⊢
    exact q v H1 g.ext (g.rep b'.1)
  ·have h':PostR _ _ ((evE G Fnc a ρ).bind fun x=>(zac x).bind fun c=>if c=true then R.ok x else evOr G Fnc (.cons f r) ρ):=h
   refine we_of (pe_orT pe_we pe_we) (ha hy tk hs c.1 I (h'.bind.mono (fun d hd v H1 g=>?_) fun _ z=>z))
   obtain ⟨k,ek,q⟩:=hd.bind.get (zau d)
   refine ⟨k,zaY g.top ek,?_⟩
   cases k with
   | true =>
    rw [if_pos rfl] at q ⊢
    exact q v H1 g.ext (g.rep b'.1)
   | false =>
    rw [if_neg Bool.false_ne_true] at q ⊢
    exact (hr hy tk hs c.2 b'.2 (I.step g.ext)).2 (q.mono (fun d q v H' x r=>q v H' (g.ext.trans x) r) fun c hc=>ExW.step hc g.ext)
theorem zo7 {es:Es} (h1:zdO T es):SndE T (.and es):=by
 intro X e sc O G Fnc n cls W F A σ ρ H Q hy tk hs c I h
 cases e <;> (try (simp [chkE] at c; done))
 rename_i o xs p
 cases o <;> (try (simp [chkE] at c; done))
 rw [chkE,Bool.and_eq_true] at c
 exact (h1 hy tk hs c.1 (by simpa using c.2) I).1 ((show PostR _ _ (evAnd G Fnc es ρ) from h).mono (fun d q v H' x r=>q v H' (.ofn x r rfl)) fun _ z=>z)
theorem zrz {es:Es} (h1:zdO T es):SndE T (.or es):=by
 intro X e sc O G Fnc n cls W F A σ ρ H Q hy tk hs c I h
 cases e <;> (try (simp [chkE] at c; done))
 rename_i o xs p
 cases o <;> (try (simp [chkE] at c; done))
 rw [chkE,Bool.and_eq_true] at c
 exact (h1 hy tk hs c.1 (by simpa using c.2) I).2 ((show PostR _ _ (evOr G Fnc es ρ) from h).mono (fun d q v H' x r=>q v H' (.ofn x r rfl)) fun _ z=>z)
theorem RepT.any {K:PySem.W.Frag} {H:Hp} {P:Addr -> Prop} {d:D} {v:V} (r:RepT K H P d v):Rep K H (fun _=>True) d v:=by
 rcases r with r | ⟨a,rfl,r⟩
 ·exact r.weak fun _ _=>trivial
 ·exact (r.mono (⟨fun _ _ _ e=>e,fun _ _ _ _ e=>e,fun _ _ _ _ _=>trivial⟩:Le P (fun _=>True) H H) fun _ e _=>e).rep trivial
theorem RepTs.any {K:PySem.W.Frag} {H:Hp} {P:Addr -> Prop} {d:List D} {v:List V} (r:RepTs K H P d v):Reps K H (fun _=>True) d v:=by
 induction r with
 | nil=>exact .nil
 | cons h t ih=>exact .cons h.any ih
theorem zgQ {α:Type} {xs:List α} {i:Nat} {x:α} (h:(xs.map some)[i]?=some (some x)):xs[i]?=some x:=by
 rw [List.getElem?_map] at h
 cases e:xs[i]? with
 | none=>rw [e] at h; cases h
 | some y=>rw [e] at h; cases h; rfl
theorem zbS {K:PySem.W.Frag} {H:Hp} {P:Addr -> Prop} {ds:List D} {vs:List V} (r:Reps K H P ds vs):EnvR K ⟨P,H,[],[]⟩ [] Nix (vs.map some) (ds.map some) H:=by
 refine ⟨by simp [r.length],fun b o e _=>e,fun i d e=>?_,fun i j a di dj hi=>by simp at hi,fun a m=>m.elim,fun a m=>m.elim,fun a m=>by simp at m⟩
 obtain ⟨v,ev,rv⟩:=r.get (zgQ e)
 refine ⟨v,by rw [List.getElem?_map,ev]; rfl,?_⟩
 unfold Slot
 rw [if_neg (by simp)]
 exact rv.weak fun b p=>⟨.inl p,fun z=>z⟩
theorem RepTs.length {K:PySem.W.Frag} {H:Hp} {P:Addr -> Prop} {d:List D} {v:List V} (r:RepTs K H P d v):d.length=v.length:=by
 induction r with
 | nil=>rfl
 | cons h t ih=>rw [List.length_cons,List.length_cons,ih]
theorem FreshR.weak {K:PySem.W.Frag} {H H':Hp} {P P':Addr -> Prop} {d:D} {v:V} (r:FreshR K H H' P d v) (h:∀ b,P b -> P' b):FreshR K H H' P' d v:=fun m=>by
 obtain ⟨a,e,n,o⟩:=r m
 refine ⟨a,e,n,?_⟩
 cases d with
 | lst ds=>obtain ⟨vs,e,t⟩:=o; exact ⟨vs,e,t.weak fun b z=>⟨h b z.1,z.2⟩⟩
 | dK kvs=>obtain ⟨vs,e,k,t⟩:=o; exact ⟨vs,e,k,t.weak fun b z=>⟨h b z.1,z.2⟩⟩
 | dT kvs=>obtain ⟨vs,e,k,t⟩:=o; exact ⟨vs,e,k,t.weak fun b z=>⟨h b z.1,z.2⟩⟩
 | _=>exact o.elim
theorem zaP {es:List Expr} (h:(!es.isEmpty)=true):∃ e r,es=e :: r:=by
 cases es with
 | nil=>cases h
 | cons e r=>exact ⟨e,r,rfl⟩
theorem zl6 {f:Str} {args:Es} {im:Bool} (he:SndEs T args):SndE T (.call f args im):=by
 intro X e sc O G Fnc n cls W F A σ ρ H Q hy tk hs c I h
 cases e <;> (try (simp [chkE] at c; done))
 rename_i fe xs kws p
 cases fe <;> (try (simp [chkE] at c; done))
 rename_i g pg
 cases kws <;> (try (simp [chkE] at c; done))
 rw [chkE] at c
 simp only [Bool.and_eq_true] at c
 obtain ⟨⟨⟨⟨⟨⟨c1,c2⟩,c3⟩,c4⟩,c5⟩,c6⟩,c7⟩:=c
 have ef:f=g:=by simpa using c1
 subst ef
 subst hs
 obtain ⟨g1,g2,g3⟩:=gl_of c2
 obtain ⟨x,r,rfl⟩:=zaP c5
 have st:=za0 _ _ c3
 rw [List.all_cons,Bool.and_eq_true] at st
 cases ed:findD T f with
 | none=>rw [ed] at c6; cases c6
 | some d =>
  rw [ed] at c7
  have io:d.io=[]:=List.isEmpty_iff.mp c7
  obtain ⟨a,fd,m1,m2,m3,m4⟩:=hy.fn f d ed (by unfold isTab; rw [io]; rfl)
  have h':PostR _ _ ((evEs G Fnc args ρ).bind fun x=>(Fnc f x).bind fun r=>R.when (r.2.isEmpty && (!im || r.1.imm)) (R.ok r.1)):=h
  refine we_of (pe_callS m4 hy.room g1 m1 m2 m3 (fun σ=>passAt tk σ) pa_wa g2 (zab st.1) (zao st.2)) (he hy tk rfl c3 I (h'.bind.mono (fun ds hds vs H1 x1 t p=>?_) fun _ z=>z))
  have I1:=I.step x1
  have len:ds.length=d.ps.length:=hy.flen f d ds ed (by intro z; rw [z] at hds; exact hds.elim)
  have lv:vs.length=d.ps.length:=by rw [<- t.length]; exact len
  have ne:∀ b:Addr,¬ (b ∈ ([]:List Addr)):=fun b z=>by cases z
  have exn:∀ {H2 H3:Hp},Ext (fun b=>b ∈ ([]:List Addr)) H2 H3 -> Ext Nix H2 H3:=fun h=>h.mono fun b z=>absurd z (ne b)
  by_cases hi:im=true
  ·refine ⟨ds,fun _=>True,[],Nix,by rw [io]; exact zbS t.any,lv,?_⟩
   cases er:Fnc f ds with
   | bad=>rw [er] at hds; exact hds.elim
   | exc cc =>
    rw [er] at hds
    exact fun C H' ec x=>hds C H' ec (x1.trans (exn x))
   | ok rr =>
    obtain ⟨r,outs⟩:=rr
    rw [er] at hds
    obtain ⟨w,q⟩:=PostR.when (show PostR _ _ (R.when (outs.isEmpty && (!im || r.imm)) (R.ok r)) from hds)
    rw [hi,Bool.and_eq_true] at w
    have imr:r.imm=true:=by simpa using w.2
    intro v H' x rv _ _ _
    have mm:r.mut=false:=by cases r <;> first | rfl | cases imr
    have rv':Rep X.K H' (PPa F A) r v:=rv.of_imm imr
    exact q v H' (.of (x1.trans (exn x)) rv' (FreshR.flat mm))
  ·have r:=p (by simpa [hi] using c4)
   refine ⟨ds,PPa F A,[],Nix,by rw [io]; exact zbS r,lv,?_⟩
   cases er:Fnc f ds with
   | bad=>rw [er] at hds; exact hds.elim
   | exc cc =>
    rw [er] at hds
    exact fun C H' ec x=>hds C H' ec (x1.trans (exn x))
   | ok rr =>
    obtain ⟨r,outs⟩:=rr
    rw [er] at hds
    obtain ⟨w,q⟩:=PostR.when (show PostR _ _ (R.when (outs.isEmpty && (!im || r.imm)) (R.ok r)) from hds)
    intro v H' x rv fr _ _
    have wk:∀ b,((PPa F A b \/ H1 b=none) /\ b ∉ ([]:List Addr)) -> PPa F A b:=fun b z=>by
     rcases z.1 with z | z
     ·exact z
     ·exact I1.newP z
    have rv':=rv.weak wk
    refine q v H' ⟨x1.trans (exn x),.inl rv',fun _=>rv',fun ff=>?_⟩
    have ff':d.fresh=true:=by
     have:(match findD T f with | some d=>d.fresh | none=>false)=true:=ff
     rw [ed] at this; exact this
    exact FreshR.back x1 ((fr ff').weak wk)
end
end L2.Pf
namespace L2.Pf
open PySem PySem.Spec PyProof.Rows
theorem zo8 (b:Bi):zgG b ∈ zca:=by cases b <;> decide
theorem zl7 (b:Bi):bootBuiltins (zgG b)=some (biF b):=by cases b <;> rfl
theorem zl8 (b:Bi):(∃ id,biF b=.builtin id) \/ ∃ T,biF b=.type T:=by cases b <;> first | exact .inl ⟨_,rfl⟩ | exact .inr ⟨_,rfl⟩
theorem zhD (f:Int -> List Int -> Int) (xs:List D):noExc (dMaxL f xs):=zag (zat _) fun ns=>by
 cases ns
 ·intro c z; cases z
 ·exact zad _
theorem zhE (xs:List D):noExc (sortD xs):=zal (zad _)
theorem zl9 (b:Bi) (ds:List D):noExc (biEv b ds):=by
 unfold biEv
 split <;> first
  | exact zad _
  | exact zhD _ _
  | exact zag (zhE _) fun _=>zad _
  | exact zal (zad _)
  | exact zag (zat _) fun _=>zad _
  | exact zal (zag (zat _) fun _=>zad _)
  | (intro c z; cases z)
section
variable {T:List Def}
theorem zrA {b:Bi} {args:Es} (he:SndEs T args):SndE T (.bi b args):=by
 intro X e sc O G Fnc n cls W F A σ ρ H Q hy tk hs c I h
 cases e <;> (try (simp [chkE] at c; done))
 rename_i fe xs kws p
 cases fe <;> (try (simp [chkE] at c; done))
 rename_i g pg
 cases kws <;> (try (simp [chkE] at c; done))
 rw [chkE] at c
 simp only [Bool.and_eq_true] at c
 obtain ⟨⟨⟨c1,c2⟩,c3⟩,c5⟩:=c
 have eg:zgG b=g:=by simpa using c1
 subst eg
 subst hs
 obtain ⟨g1,g2,g3⟩:=gl_of c2
 obtain ⟨x,r,rfl⟩:=zaP c5
 have st:=za0 _ _ c3
 rw [List.all_cons,Bool.and_eq_true] at st
 have h':PostR _ _ ((evEs G Fnc args ρ).bind fun x=>biEv b x):=h
 have key:(WA X (x :: r) σ H fun vs H1=>CM X (biF b) vs H1 Q):=by
  refine he hy tk rfl c3 I (h'.bind.mono (fun ds hds vs H1 x1 t p=>?_) fun _ z=>z)
  obtain ⟨d,ed,q⟩:=hds.get (zl9 b ds)
  by_cases c0:ziT b=true
  ·exact cm_bi (P:=PPa F A) hy.calm hy.hu t ed (I.step x1).np c0 (zak x1 q)
  ·have hu:X.A.units+100 < cLine:=by have:=hy.room.un; omega
   have np:=(I.step x1).np
   cases b <;> (try exact absurd rfl c0)
   rcases ziS t with ⟨rfl,rfl⟩ | ⟨d0,v,rfl,rfl,h0⟩ | ⟨d0,d1,v,u,rfl,rfl,h0,h1⟩ | ⟨a1,a2,a3,l,rfl⟩
   ·cases ed
   ·cases d0 <;> (try (cases ed; done))
    ·obtain ⟨a,ws,rfl,hl,rr⟩:=h0.lst
     obtain ⟨sr,e1,e2⟩:=bind_ok (show (sortD _).bind _=_ from ed)
     obtain ⟨ok,e1⟩:=zae e1
     cases e1
     cases e2
     exact zlX (P:=PPa F A) hu hl rr ok np (zak x1 q)
    ·obtain ⟨a,ws,rfl,hd,hk,rr⟩:=h0.dT
     obtain ⟨sr,e1,e2⟩:=bind_ok (show (sortD _).bind _=_ from ed)
     obtain ⟨ok,e1⟩:=zae e1
     cases e1
     cases e2
     exact zlY (P:=PPa F A) hy.calm hu hd hk ok np (zak x1 q)
   ·cases d0 <;> cases ed
   ·cases a1 <;> cases ed
 have hm:=hy.blt _ (zo8 b)
 have hv:=zl7 b
 rcases zl8 b with ⟨id,ei⟩ | ⟨ty,ei⟩
 ·rw [ei] at key hv
  exact we_of (pe_callB ziG g1 hm hv pa_wa g3 g2 (zab st.1) (zao st.2)) key
 ·rw [ei] at key hv
  exact we_of (pe_callTy ziG g1 hm hv pa_wa g3 g2 (zab st.1) (zao st.2)) key
theorem zef (m:Me) (o:D) (ds:List D):noExc (meEv m o ds):=by
 unfold meEv
 split <;> first
  | exact zag (zat _) fun _=>zal (zad _)
  | exact zal (zad _)
  | exact zal (zag (zat _) fun _=>zad _)
  | exact zag (zcC _ _) fun _=>zad _
  | exact zag (zat _) fun _=>zad _
  | (intro c z; cases z)
end
def MM (X:Cx) (id:String):V -> List V -> Hp -> VK -> Prop:=fun x xs H Q=>∀ (pins:List (Addr × Obj)) (s:Shared) (σ:St) (v:Value) (us:List Value),Inv X pins σ H s -> RelV x v -> Vals xs us -> wpAny (model X.prog X.w) X.A (call (.builtin id) (v :: us)) (EP X pins σ Q) X.xe s
theorem mt_mm {X:Cx} {id:String}:MtR X id (MM X id):=fun pins s σ H x xs v us Q I r rs h=>h pins s σ v us I r rs
theorem mm_of {X:Cx} {id:String} {r:V -> List V -> Hp -> VK -> Prop} {x:V} {xs:List V} {H:Hp} {Q:VK} (h:MtR X id r) (q:r x xs H Q):MM X id x xs H Q:=fun pins s σ v us I rx rs=>h pins s σ H x xs v us Q I rx rs q
section
variable {X:Cx} {H:Hp} {P:Addr -> Prop} {Q:VK}
theorem mm_me {m:Me} {o:D} {ds:List D} {d:D} {x:V} {vs:List V} (hu:X.A.units+65 < cLine) (ho:RepT X.K H P o x) (hv:RepTs X.K H P ds vs) (fl:zdN m=true) (e:meEv m o ds=.ok d) (np:NewP P H) (q:OutF X.K P H d Q):MM X (meId m) x vs H Q:=by
 rcases ziS hv with ⟨rfl,rfl⟩ | ⟨d0,v,rfl,rfl,h0⟩ | ⟨d0,d1,v,u,rfl,rfl,h0,h1⟩ | ⟨a,b,c,l,rfl⟩
 ·cases m <;> cases o <;> cases e
 ·cases m with
  | join =>
   cases o <;> (try (cases e; done)) <;> cases d0 <;> (try (cases e; done))
   rename_i a xs
   obtain rfl:=ho.str
   obtain ⟨p,us,rfl,h,r⟩:=h0.lst
   obtain ⟨ys,e1,e2⟩:=bind_ok (show (R.of (strs' xs)).bind _=_ from e)
   obtain ⟨w,e2⟩:=zae e2
   cases e2
   have ex:=zfE (of_ok e1)
   subst ex
   have ev:=zdb r
   subst ev
   exact mm_of mt_join ⟨a,p,ys,rfl,rfl,.inl h,of_decide_eq_true w,q.now rfl (.str _)⟩
  | split =>
   cases o <;> (try (cases e; done)) <;> cases d0 <;> (try (cases e; done))
   rename_i a b
   obtain rfl:=ho.str
   obtain rfl:=h0.str
   obtain ⟨w,e2⟩:=zae (show R.when _ _=_ from e)
   cases e2
   rw [Bool.and_eq_true] at w
   refine mm_of mt_split ⟨a,b,rfl,rfl,by simpa using of_decide_eq_true w.1,of_decide_eq_true w.2,fun p hp=>zaC hp (np p hp) (Reps.strs _) q⟩
  | index =>
   cases o <;> (try (cases e; done))
   rename_i xs
   obtain ⟨w,e2⟩:=zae (show R.when _ _=_ from e)
   rw [Bool.and_eq_true] at w
   obtain ⟨j,e1,e2⟩:=bind_ok e2
   cases e2
   obtain ⟨_,z,h2,h3,h4⟩:=zdK d0 xs 0 j (of_ok e1)
   have hd:=ho.dp w.2
   obtain ⟨p,us,rfl,h,r⟩:=ho.lst
   refine mm_of (mt_indexD hu) ⟨p,v,d0.py,D.pys xs,j,z.py,rfl,rfl,hd,h0.dp w.1,w.2,w.1,?_,h3,fun k y hk hy=>?_,q.now rfl (.int _)⟩
   ·rw [zcx,List.getElem?_map]
    rw [Nat.sub_zero] at h2
    rw [h2]; rfl
   ·rw [zcx,List.getElem?_map] at hy
    cases ey:xs[k]? with
    | none=>rw [ey] at hy; cases hy
    | some w =>
     rw [ey] at hy
     cases hy
     exact h4 k w (by omega) ey
  | get2=>cases fl
  | get1=>cases fl
  | indexT =>
   cases o <;> (try (cases e; done)) <;> cases d0 <;> (try (cases e; done))
   rename_i ys z
   obtain rfl:=h0.str
   obtain ⟨j,e3,e4⟩:=bind_ok (show (R.of (zeJ z ys 0)).bind _=_ from e)
   cases e4
   obtain ⟨p,ob,rfl,h,hd⟩:=ho.tupN
   obtain ⟨_,h2,h3⟩:=zeR z ys 0 j (of_ok e3)
   exact mm_of mt_tup_index ⟨p,ys,z,j,rfl,rfl,.inl (.inr ⟨ob,h⟩),h2,fun k hk=>h3 k (by omega),q.now rfl (.int _)⟩
 ·cases m <;> cases o <;> first | (cases e; done) | (cases fl; done) | (cases d0 <;> cases e)
 ·cases m <;> cases o <;> first | (cases e; done) | (cases fl; done) | (cases a <;> cases e)
theorem zrB {m:Me} {o:D} {ds:List D} {d:D} {x:V} {vs:List V} (hu:X.A.units+65 < cLine) (ho:RepT X.K H P o x) (hv:Reps X.K H P ds vs) (fl:zdN m=false) (e:meEv m o ds=.ok d) (q:Out X.K P H d Q):MM X "dict.get" x vs H Q:=by
 have two:∀ {k d0:D} {o2:Option D} {u w:V},dLook o k=.ok o2 -> RepT X.K H P k u -> Rep X.K H P d0 w -> o2.getD d0=d -> MM X "dict.get" x [u,w] H Q:=fun {k d0 o2 u w} el hk hw ed=>by
  obtain ⟨a,ov,rfl,g,rl⟩:=zbm ho hk el
  intro pins s σ v us I rx rs
  cases rx
  obtain ⟨u1,u2,rfl,r1,r2⟩:=vals2 rs
  refine d_get2 (by omega) I g r1 r2 fun w' s' I' r'=>⟨_,H,I',r',?_⟩
  subst ed
  cases o2 <;> cases ov <;> first | exact q.now hw | exact q.now rl | exact rl.elim
 have one:∀ {k:D} {o2:Option D} {u:V},dLook o k=.ok o2 -> RepT X.K H P k u -> o2.getD .non=d -> MM X "dict.get" x [u] H Q:=fun {k o2 u} el hk ed=>by
  obtain ⟨a,ov,rfl,g,rl⟩:=zbm ho hk el
  intro pins s σ v us I rx rs
  cases rx
  cases rs with
  | cons r1 rs =>
   cases rs
   refine d_get1 (by omega) I g r1 fun w' s' I' r'=>⟨_,H,I',r',?_⟩
   subst ed
   cases o2 <;> cases ov <;> first | exact q.now .non | exact q.now rl | exact rl.elim
 cases m <;> (try (cases fl; done))
 ·match ds,hv,e with
  | [k,d0],.cons hk (.cons hd .nil),e =>
   cases o <;> (try (cases e; done))
   ·obtain ⟨o2,e1,e2⟩:=bind_ok (show (dLook _ k).bind _=_ from e)
    cases e2
    exact two e1 (.inl hk) hd rfl
   ·obtain ⟨o2,e1,e2⟩:=bind_ok (show (dLook _ k).bind _=_ from e)
    cases e2
    exact two e1 (.inl hk) hd rfl
  | [],_,e=>cases o <;> cases e
  | [_],_,e=>cases o <;> cases e
  | _ :: _ :: _ :: _,_,e=>cases o <;> cases e
 ·match ds,hv,e with
  | [k],.cons hk .nil,e =>
   cases o <;> (try (cases e; done))
   ·obtain ⟨o2,e1,e2⟩:=bind_ok (show (dLook _ k).bind _=_ from e)
    cases e2
    exact one e1 (.inl hk) rfl
   ·obtain ⟨o2,e1,e2⟩:=bind_ok (show (dLook _ k).bind _=_ from e)
    cases e2
    exact one e1 (.inl hk) rfl
  | [],_,e=>cases o <;> cases e
  | _ :: _ :: _,_,e=>cases o <;> cases e
end
theorem zrC {X:Cx} {o e:Expr} {es:List Expr} {to:TE} {t:TA} {name:Str} {apos cpos:Pos} {id:String} {r:V -> List V -> Hp -> VK -> Prop} (slot:PySem.Slot "dict" name id) (hty:typeOf (.builtin id)=pure (.type "method_descriptor")) (hm:MtR X id r) (ho:PE X o to) (ha:PA X (e :: es) t)
  (hbase:attributeBase o name X.env (eval o X.env)=eval o X.env)
  (hfew:((backTo cpos (starEach (e :: es) X.env)).all (fun x=>!x.1) && (backToKw cpos (keywordEach [] X.env)).all (fun x=>x.1.isSome)
   && decide ((e :: es).length+([]:List Keyword).length+(if ([]:List Keyword).isEmpty then 0 else 1) < 30))=true)
  (hline:(apos.endLine == cpos.line)=true) (hs:starEach (e :: es) X.env=(false,eval e X.env) :: starEach es X.env) (hplain:(backTo cpos (starEach es X.env)).any (·.1)=false) :
  PE X (.Call (.Attribute o name apos) (e :: es) [] cpos) (fun σ H Q=>to σ H fun x H1=>(∃ a,x=.ref a /\ IsD H1 a) /\ t σ H1 fun xs H2=>r x xs H2 Q):=by
 refine ⟨fun pins s σ H Q I h=>?_⟩
 refine wpAny_Call_method_late hbase hfew hline rfl (thn (ho.run pins s σ H _ I h) fun v s1 ⟨x,H1,I1,r1,⟨a,ex,isd⟩,q1⟩=>?_)
 subst ex
 have r1':=r1
 cases r1
 obtain ⟨h1,h2,_⟩:=isD_at I1 isd
 refine ⟨"dict",id,PySem.F.plainAttrs_dict,slot,hty,h1,h2,?_⟩
 have hA:=ha.run cpos pins s1 σ H1 _ I1 q1
 rw [hs] at hA ⊢
 refine Calls.callWith_builtin (by show (false || (backTo cpos (starEach es X.env)).any (·.1))=false; rw [hplain] <;> rfl) (Calls.evalArgs_plain ?_)
 exact thn hA fun us s2 ⟨vs,H2,I2,r2,q2⟩=>hm pins s2 σ H2 _ vs _ us Q I2 r1' r2 q2
theorem zrD {X:Cx} {o e:Expr} {es:List Expr} {to:TE} {t:TA} {name:Str} {apos cpos:Pos} {id:String} {r:V -> List V -> Hp -> VK -> Prop} (slot:PySem.Slot "tuple" name id) (hty:typeOf (.builtin id)=pure (.type "method_descriptor")) (hm:MtR X id r) (ho:PE X o to) (ha:PA X (e :: es) t)
  (hbase:attributeBase o name X.env (eval o X.env)=eval o X.env)
  (hfew:((backTo cpos (starEach (e :: es) X.env)).all (fun x=>!x.1) && (backToKw cpos (keywordEach [] X.env)).all (fun x=>x.1.isSome)
   && decide ((e :: es).length+([]:List Keyword).length+(if ([]:List Keyword).isEmpty then 0 else 1) < 30))=true)
  (hline:(apos.endLine == cpos.line)=true) (hs:starEach (e :: es) X.env=(false,eval e X.env) :: starEach es X.env) (hplain:(backTo cpos (starEach es X.env)).any (·.1)=false) :
  PE X (.Call (.Attribute o name apos) (e :: es) [] cpos) (fun σ H Q=>to σ H fun x H1=>(∃ a ob vs,x=.ref a /\ H1 a=some (.frz ob (.tup vs)) /\ ob.dict=none) /\ t σ H1 fun xs H2=>r x xs H2 Q):=by
 refine ⟨fun pins s σ H Q I h=>?_⟩
 refine wpAny_Call_method_late hbase hfew hline rfl (thn (ho.run pins s σ H _ I h) fun v s1 ⟨x,H1,I1,r1,⟨a,ob,vs,ex,hq,hd⟩,q1⟩=>?_)
 subst ex
 have r1':=r1
 cases r1
 obtain ⟨g1,g2⟩:=I1.hok a _ hq
 obtain ⟨_,its,_,o2,ho2,hc2,_⟩:=g2
 rw [g1] at ho2; cases ho2
 refine ⟨"tuple",id,PySem.F.plainAttrs_tuple,slot,hty,⟨ob,g1,hc2⟩,fun b eb=>by cases eb; exact ⟨ob,g1,hd⟩,?_⟩
 have hA:=ha.run cpos pins s1 σ H1 _ I1 q1
 rw [hs] at hA ⊢
 refine Calls.callWith_builtin (by show (false || (backTo cpos (starEach es X.env)).any (·.1))=false; rw [hplain] <;> rfl) (Calls.evalArgs_plain ?_)
 exact thn hA fun us s2 ⟨vs,H2,I2,r2,q2⟩=>hm pins s2 σ H2 _ vs _ us Q I2 r1' r2 q2
theorem zbx {xs:List Expr} {env:PySem.Env} {cpos:Pos} (h:xs.all zaw=true) (hl:xs.length < 20) :
  ((backTo cpos (starEach xs env)).all (fun x=>!x.1) && (backToKw cpos (keywordEach [] env)).all (fun x=>x.1.isSome)
   && decide (xs.length+([]:List Keyword).length+(if ([]:List Keyword).isEmpty then 0 else 1) < 30))=true:=by
 have h1:(backTo cpos (starEach xs env)).all (fun x=>!x.1)=true:=by
  have:=zao (pos:=cpos) (env:=env) h
  rw [List.all_eq_true]
  rw [List.any_eq_false] at this
  intro x hx
  have:=this x hx
  simpa using this
 rw [h1,Bool.true_and]
 have h2:(backToKw cpos (keywordEach [] env)).all (fun x=>x.1.isSome)=true:=rfl
 rw [h2,Bool.true_and]
 apply decide_eq_true
 simp
 omega
section
variable {T:List Def}
theorem zrE {m:Me} {o:E} {args:Es} (ho:SndE T o) (he:SndEs T args):SndE T (.me m o args):=by
 intro X e sc O G Fnc n cls W F A σ ρ H Q hy tk hs c I h
 cases e <;> (try (simp [chkE] at c; done))
 rename_i fe xs kws p
 cases fe <;> (try (simp [chkE] at c; done))
 rename_i ox g apos
 cases kws <;> (try (simp [chkE] at c; done))
 rw [chkE] at c
 simp only [Bool.and_eq_true] at c
 obtain ⟨⟨⟨⟨⟨⟨⟨c1,c2⟩,c3⟩,c4⟩,c5⟩,c6⟩,c7⟩,c8⟩:=c
 have eg:ziW m=g:=by simpa using c1
 subst eg
 have cl:=of_decide_eq_true c6
 have st:=za0 _ _ c4
 have h':PostR _ _ ((evE G Fnc o ρ).bind fun x=>R.when (meOk m x) ((evEs G Fnc args ρ).bind fun y=>meEv m x y)):=h
 by_cases mt:m=.indexT
 ·subst mt
  obtain ⟨x,r,rfl⟩:=zaP c7
  have st':=st
  rw [List.all_cons,Bool.and_eq_true] at st'
  have key:WE X ox σ H fun v H1=>(∃ a ob vs,v=.ref a /\ H1 a=some (.frz ob (.tup vs)) /\ ob.dict=none) /\ WA X (x :: r) σ H1 fun vs H2=>MM X "tuple.index" v vs H2 Q:=by
   refine ho hy tk hs c3 I (h'.bind.mono (fun od hod v H1 g=>?_) fun _ z=>z)
   obtain ⟨w,hod⟩:=hod.when
   refine ⟨?_,he hy tk hs c4 (I.step g.ext) (hod.bind.mono (fun ds hds vs H2 x2 t _=>?_) fun c hc=>ExW.step hc g.ext)⟩
   ·cases od <;> (try (cases w; done))
    obtain ⟨p,ob,rfl,hl,hd⟩:=g.top.tupN
    exact ⟨p,ob,_,rfl,hl,hd⟩
   ·obtain ⟨d,ed,q⟩:=hds.get (zef .indexT od ds)
    exact mm_me (P:=PPa F A) hy.hu (g.top.ext x2) t rfl ed ((I.step g.ext).step x2).np (zak (g.ext.trans x2) q)
  exact we_of (zrD PySem.F.slot_tuple_index PySem.F.type_tuple_index mt_mm pe_we pa_wa (zaD c2) (zbx st cl) c5 (zab st'.1) (zao st'.2)) key
 by_cases fl:zdN m=true
 ·obtain ⟨x,r,rfl⟩:=zaP c7
  have st':=st
  rw [List.all_cons,Bool.and_eq_true] at st'
  have key:WE X ox σ H fun v H1=>tyV X.K (match m with | .index=>"list" | _=>"str") v H1 /\ WA X (x :: r) σ H1 fun vs H2=>MM X (meId m) v vs H2 Q:=by
   refine ho hy tk hs c3 I (h'.bind.mono (fun od hod v H1 g=>?_) fun _ z=>z)
   obtain ⟨w,hod⟩:=hod.when
   refine ⟨?_,he hy tk hs c4 (I.step g.ext) (hod.bind.mono (fun ds hds vs H2 x2 t _=>?_) fun c hc=>ExW.step hc g.ext)⟩
   ·cases m <;> (try (cases fl; done)) <;> (try (exact absurd rfl mt)) <;> cases od <;> (try (cases w; done))
    ·obtain rfl:=g.top.str; rfl
    ·obtain rfl:=g.top.str; rfl
    ·obtain ⟨p,us,rfl,hl,_⟩:=g.top.lst
     exact .inl ⟨rfl,us,hl⟩
   ·obtain ⟨d,ed,q⟩:=hds.get (zef m od ds)
    exact mm_me (P:=PPa F A) hy.hu (g.top.ext x2) t fl ed ((I.step g.ext).step x2).np (zak (g.ext.trans x2) q)
  cases m with
  | join=>exact we_of (pe_bm PySem.F.plainAttrs_str PySem.F.slot_str_join PySem.F.type_str_join mt_mm pe_we pa_wa (zaD c2) (zbx st cl) c5 (zab st'.1) (zao st'.2)) key
  | split=>exact we_of (pe_bm PySem.F.plainAttrs_str PySem.F.slot_str_split PySem.F.type_str_split mt_mm pe_we pa_wa (zaD c2) (zbx st cl) c5 (zab st'.1) (zao st'.2)) key
  | index=>exact we_of (pe_bm PySem.F.plainAttrs_list PySem.F.slot_list_index PySem.F.type_list_index mt_mm pe_we pa_wa (zaD c2) (zbx st cl) c5 (zab st'.1) (zao st'.2)) key
  | get2=>cases fl
  | get1=>cases fl
  | indexT=>exact absurd rfl mt
 ·have hisD:∀ {od:D} {v:V} {H1:Hp},meOk m od=true -> RepT X.K H1 (PPa F A) od v -> ∃ a,v=.ref a /\ IsD H1 a:=fun {od v H1} w t=>by
   cases m <;> (try (exact absurd rfl fl)) <;> cases od <;> (try (cases w; done))
   ·obtain ⟨a,ws,rfl,hd,_⟩:=t.dK
    exact ⟨a,rfl,.inl ⟨ws,hd⟩⟩
   ·obtain ⟨a,ws,rfl,hd,_⟩:=t.dT
    exact ⟨a,rfl,.inr ⟨ws,hd⟩⟩
   ·obtain ⟨a,ws,rfl,hd,_⟩:=t.dK
    exact ⟨a,rfl,.inl ⟨ws,hd⟩⟩
   ·obtain ⟨a,ws,rfl,hd,_⟩:=t.dT
    exact ⟨a,rfl,.inr ⟨ws,hd⟩⟩
  have fl':zdN m=false:=by simpa using fl
  have nm:ziW m="get":=by cases m <;> first | rfl | exact absurd rfl fl
  obtain ⟨x,r,rfl⟩:=zaP c7
  have st':=st
  rw [List.all_cons,Bool.and_eq_true] at st'
  have nb:bares O args=false:=by
   rw [fl',Bool.false_or] at c8
   simpa using c8
  have key:WE X ox σ H fun v H1=>(∃ a,v=.ref a /\ IsD H1 a) /\ WA X (x :: r) σ H1 fun vs H2=>MM X "dict.get" v vs H2 Q:=by
   refine ho hy tk hs c3 I (h'.bind.mono (fun od hod v H1 g=>?_) fun _ z=>z)
   obtain ⟨w,hod⟩:=hod.when
   refine ⟨hisD w g.top,he hy tk hs c4 (I.step g.ext) (hod.bind.mono (fun ds hds vs H2 x2 t p=>?_) fun c hc=>ExW.step hc g.ext)⟩
   obtain ⟨d,ed,q⟩:=hds.get (zef m od ds)
   refine zrB (P:=PPa F A) hy.hu (g.top.ext x2) (p nb) fl' ed (zfG (g.ext.trans x2) ?_ q)
   cases m <;> first | rfl | (cases fl'; done)
  rw [nm]
  exact we_of (zrC PySem.F.slot_dict_get PySem.F.type_dict_get mt_mm pe_we pa_wa (zaD c2) (zbx st cl) c5 (zab st'.1) (zao st'.2)) key
end
theorem ziZ {K:PySem.W.Frag} {H:Hp} {P:Addr -> Prop} {d:D} {v:V} {ts:List Ty} {b:Bool} (r:RepT K H P d v) (h:isiD d ts=.ok b):TyX K H v (.type (tyD d)) /\ b=ts.any fun t=>isiT (tyD d) t:=by
 cases d with
 | exc c=>cases h
 | tupN c=>cases h
 | dT kvs=>cases h
 | non=>cases h; obtain rfl:=r.non; exact ⟨.base .non,rfl⟩
 | bl x=>cases h; obtain rfl:=r.bl; exact ⟨.base (.bl x),rfl⟩
 | int x=>cases h; obtain rfl:=r.int; exact ⟨.base (.int x),rfl⟩
 | str x=>cases h; obtain rfl:=r.str; exact ⟨.base (.str x),rfl⟩
 | tup x=>cases h; obtain ⟨a,vs,rfl,e,_⟩:=r.tup; exact ⟨.base (.tup e),rfl⟩
 | dK x =>
  cases h
  obtain ⟨a,vs,rfl,e,_⟩:=r.dK
  rcases e with e | ⟨o,e⟩
  ·exact ⟨.base (.dK e),rfl⟩
  ·exact ⟨.fDict e,rfl⟩
 | lst x =>
  cases h
  obtain ⟨a,vs,rfl,e,_⟩:=r.lst
  rcases e with e | ⟨o,its,n,e,ec,_⟩
  ·rcases e with e | ⟨o,e⟩
   ·exact ⟨.base (.lst e),rfl⟩
   ·exact ⟨.base (.frz e),rfl⟩
  ·exact ⟨.kList e ec,rfl⟩
theorem zma:(["NoneType","bool","int","str","tuple","list","dict"].all fun a=>[Ty.int,.bool,.str,.tuple,.list,.dict].all fun t=>kitB a t.nm == some (isiT a t))=true:=by decide +kernel
theorem zi0 {d:D} {t:Ty} (h:∀ c,d ≠ .exc c):kitB (tyD d) t.nm=some (isiT (tyD d) t):=by
 have h1:=zma
 rw [List.all_eq_true] at h1
 have h2:=h1 (tyD d) (by cases d <;> first | (simp [tyD]; done) | exact absurd rfl (h _))
 rw [List.all_eq_true] at h2
 have h3:=h2 t (by cases t <;> simp)
 simpa using h3
theorem zi4 {d:D} {ts:List Ty} {b:Bool} (h:isiD d ts=.ok b):∀ c,d ≠ .exc c:=by
 intro c z; subst z; cases h
theorem zeW {K:PySem.W.Frag} {d:D} (h:∀ c,d ≠ .exc c):∀ ts:List Ty,PySem.W.kitAny K (.type (tyD d)) (ts.map fun t=>.type t.nm)=some (ts.any fun t=>isiT (tyD d) t)
 | []=>kitAny_nil
 | t :: ts=>by
  refine kitAny_cons (kit_ty (zi0 h)) (fun e=>?_) (fun e=>?_)
  ·rw [zeW h ts,List.any_cons,e,Bool.false_or]
  ·rw [List.any_cons,e,Bool.true_or]
theorem zo9 (t:Ty):bootBuiltins (zeS t)=some (.type t.nm):=by cases t <;> rfl
theorem pe_ty {X:Cx} {sc:Scope} {x:Str} {t:Ty} {p:Pos} (hs:X.env.scope=sc) (hb:∀ x,x ∈ zca -> X.mg x=none) (h1:(x == zeS t)=true) (h2:glB sc x=true):PE X (.Name x p) (tC (.ty t.nm)):=by
 have ex:x=zeS t:=by simpa using h1
 subst ex
 subst hs
 obtain ⟨g1,g2,g3⟩:=gl_of h2
 exact pe_bltn g1 (hb _ (by cases t <;> decide)) (zo9 t) rfl g3 g2
theorem zol {X:Cx} {sc:Scope} (hs:X.env.scope=sc) (hb:∀ x,x ∈ zca -> X.mg x=none):∀ {ts:List Ty} {ys:List Expr} {σ:St} {H:Hp} {Q:List V -> Hp -> Prop},zb2 sc ts ys=true -> Q (ts.map fun t=>.ty t.nm) H -> WA X ys σ H Q
 | [],[],σ,H,Q,_,q=>wa_of pa_nil q
 | [],_ :: _,_,_,_,h,_=>by simp [zb2] at h
 | t :: ts,[],_,_,_,h,_=>by simp [zb2] at h
 | t :: ts,y :: ys,σ,H,Q,h,q=>by
  cases y <;> (try (simp [zb2] at h; done))
  rename_i x p
  rw [zb2,Bool.and_eq_true,Bool.and_eq_true] at h
  refine wa_of (pa_cons (pe_ty hs hb h.1.1 h.1.2) pa_wa (zab rfl)) ?_
  exact zol hs hb h.2 q
theorem zeX (d:D) (ts:List Ty):noExc (isiD d ts):=by
 intro c
 cases d <;> intro z <;> cases z
section
variable {T:List Def}
theorem zpa {a:E} {t:Ty} (ha:SndE T a):SndE T (.isi a t):=by
 intro X e sc O G Fnc n cls W F A σ ρ H Q hy tk hs c I h
 cases e <;> (try (simp [chkE] at c; done))
 rename_i fe xs kws p
 cases fe <;> (try (simp [chkE] at c; done))
 rename_i g pg
 cases kws <;> (try (simp [chkE] at c; done))
 rcases xs with _ | ⟨x,_ | ⟨y,_ | ⟨z,zs⟩⟩⟩ <;> (try (simp [chkE] at c; done))
 cases y <;> (try (simp [chkE] at c; done))
 rename_i y py
 rw [chkE] at c
 simp only [Bool.and_eq_true] at c
 obtain ⟨⟨⟨⟨c1,c2⟩,c3⟩,c4⟩,c5⟩:=c
 have eg:g="isinstance":=by simpa using c1
 subst eg
 subst hs
 obtain ⟨g1,g2,g3⟩:=gl_of c2
 have h':PostR _ _ ((evE G Fnc a ρ).bind fun x=>(isiD x [t]).bind fun b=>R.ok (D.bl b)):=h
 refine we_of (pe_callB call_isi g1 (hy.blt _ (by decide)) rfl (pa_cons pe_we (pa_cons (pe_ty rfl hy.blt c4 c5) pa_nil (zab rfl)) (zab (zaa _ _ c3))) g3 g2 (zab (zaa _ _ c3)) rfl) ?_
 refine ha hy tk rfl c3 I (h'.bind.mono (fun d hd v H1 g=>?_) fun _ z=>z)
 obtain ⟨b,eb,q⟩:=hd.bind.get (zeX d [t])
 obtain ⟨ty,e1⟩:=ziZ g.top eb
 refine ⟨v,.ty t.nm,_,_,b,rfl,.ty _,ty,?_,q _ _ (.of g.ext (.bl _) (FreshR.flat rfl))⟩
 rw [e1,kit_ty (zi0 (zi4 eb))]
 simp
theorem zi5 {d:D}:∀ ts:List Ty,Paired ClsV (ts.map fun t=>V.ty t.nm) (ts.map fun t=>Value.type t.nm)
 | []=>.nil
 | t :: ts=>.cons (.ty _) (zi5 (d:=d) ts)
theorem zmb {a:E} {ts:List Ty} (ha:SndE T a):SndE T (.isiL a ts):=by
 intro X e sc O G Fnc n cls W F A σ ρ H Q hy tk hs c I h
 cases e <;> (try (simp [chkE] at c; done))
 rename_i fe xs kws p
 cases fe <;> (try (simp [chkE] at c; done))
 rename_i g pg
 cases kws <;> (try (simp [chkE] at c; done))
 rcases xs with _ | ⟨x,_ | ⟨y,_ | ⟨z,zs⟩⟩⟩ <;> (try (simp [chkE] at c; done))
 cases y <;> (try (simp [chkE] at c; done))
 rename_i ys k py
 rw [chkE] at c
 simp only [Bool.and_eq_true] at c
 obtain ⟨⟨⟨⟨c1,c2⟩,c3⟩,c4⟩,c5⟩:=c
 have eg:g="isinstance":=by simpa using c1
 subst eg
 subst hs
 obtain ⟨g1,g2,g3⟩:=gl_of c2
 have h':PostR _ _ ((evE G Fnc a ρ).bind fun x=>(isiD x ts).bind fun b=>R.ok (D.bl b)):=h
 refine we_of (pe_callB call_isiT g1 (hy.blt _ (by decide)) rfl (pa_cons pe_we (pa_cons (pe_tup pa_wa) pa_nil (zab rfl)) (zab (zaa _ _ c3))) g3 g2 (zab (zaa _ _ c3)) rfl) ?_
 refine ha hy tk rfl c3 I (h'.bind.mono (fun d hd v H1 g=>?_) fun _ z=>z)
 obtain ⟨b,eb,q⟩:=hd.bind.get (zeX d ts)
 obtain ⟨ty,e1⟩:=ziZ g.top eb
 refine zol rfl hy.blt c4 ⟨by rw [List.length_map]; have:=of_decide_eq_true c5; rw [sizeLine_eq]; omega,fun pp hp=>?_⟩
 have x2:Ext Nix H1 (upd H1 pp (.tup (ts.map fun t=>V.ty t.nm))):=Ext.new hp
 obtain ⟨ty2,_⟩:=ziZ (g.top.ext x2) eb
 refine ⟨v,pp,_,_,_,b,rfl,upd_same,zi5 (d:=d) ts,ty2,?_,q _ _ (.of (g.ext.trans x2) (.bl _) (FreshR.flat rfl))⟩
 rw [e1]
 exact zeW (zi4 eb) ts
end
end L2.Pf
namespace L2.Pf
open PySem PySem.Spec PyProof.Rows
def SqX (K:PySem.W.Frag) (t:Bool) (H:Hp) (a:Addr) (xs:List V):Prop:=if t=true then SqT K H a xs else SqL K H a xs
def itX (t:Bool) (h:Heap) (i a:Addr) (k:Nat):Prop:=if t=true then h.IsTupleIter i a k else h.IsListIter i a k
def isX (t:Bool) (h:Heap) (a:Addr) (items:Array Value):Prop:=if t=true then h.IsTuple a items else h.IsList a items
theorem zaB {t:Bool} {h:Heap} {i a:Addr} {k:Nat} (x:itX t h i a k):∃ o,h.get? i=some o /\ ∀ v,o.data ≠ .cell v:=by
 cases t with
 | true=>obtain ⟨o,e,_,d⟩:h.IsTupleIter i a k:=x; exact ⟨o,e,fun v q=>by rw [d] at q; cases q⟩
 | false=>obtain ⟨o,e,_,d⟩:h.IsListIter i a k:=x; exact ⟨o,e,fun v q=>by rw [d] at q; cases q⟩
theorem zby {t:Bool} {h h':Heap} {i a:Addr} {k:Nat} (x:itX t h i a k) (q:∀ o,h.get? i=some o -> h'.get? i=some o):itX t h' i a k:=by
 cases t with
 | true=>obtain ⟨o,e,c,d⟩:h.IsTupleIter i a k:=x; exact ⟨o,q o e,c,d⟩
 | false=>obtain ⟨o,e,c,d⟩:h.IsListIter i a k:=x; exact ⟨o,q o e,c,d⟩
theorem drX {prog:Program} {w:World} {A:Around} (t:Bool) (hh:A.handled=none) (it l:Addr) (hne:l ≠ it) (items:Array Value) :
  Draws prog w A it [it,l] items.size (fun i v=>items[i]?=some v) (fun i h=>itX t h it l i /\ isX t h l items):=by
 cases t with
 | true=>exact Draws.tuple hh it l hne items
 | false=>exact Draws.list hh it l hne items
def itO (t:Bool) (a:Addr):Obj:=if t=true then { cls:=.type "tuple_iterator",data:=.fields #[.ref a,.int 0 0] } else { cls:=.type "list_iterator",data:=.fields #[.ref a,.int 0 0] }
theorem bgX (t:Bool) (a:Addr) (items:Array Value):Begins (.ref a) (itO t a) fun h=>isX t h a items:=by
 cases t with
 | true=>exact begins_tuple a items
 | false=>exact begins_list a items
theorem zbA {t:Bool} {h:Heap} {i a:Addr} (e:h.get? i=some (itO t a)):itX t h i a 0:=by
 cases t with
 | true=>exact ⟨_,e,rfl,rfl⟩
 | false=>exact ⟨_,e,rfl,rfl⟩
section
variable {X:Cx} {pins:List (Addr × Obj)} {σ:St} {H:Hp} {s:Shared}
theorem zax {t:Bool} {a:Addr} {xs:List V} (I:Inv X pins σ H s) (h:SqX X.K t H a xs):∃ its:List Value,Vals xs its /\ isX t s.heap a its.toArray:=by
 cases t with
 | true =>
  obtain ⟨its,r,p,_⟩:=I.tuple (show SqT X.K H a xs from h)
  exact ⟨its,r,p⟩
 | false =>
  obtain ⟨its,r,p,_⟩:=I.list (show SqL X.K H a xs from h)
  exact ⟨its,r,p.isList⟩
theorem zbT {t:Bool} {a:Addr} {xs ys:List V} (I:Inv X pins σ H s) (h:SqX X.K t H a xs) (h':SqX X.K t H a ys):xs=ys:=by
 cases t with
 | true=>exact I.tuple_inj (show SqT X.K H a xs from h) h'
 | false=>exact I.list_inj (show SqL X.K H a xs from h) h'
theorem zcT {t:Bool} {h:Heap} {a:Addr} {items:Array Value} (x:isX t h a items):a < h.objs.size:=by
 cases t with
 | true=>obtain ⟨o,e,_⟩:h.IsTuple a items:=x; exact Heap.lt_size e
 | false=>obtain ⟨o,e,_⟩:h.IsList a items:=x; exact Heap.lt_size e
end
def Itzx (K:PySem.W.Frag) (t1 t2:Bool) (a b:Addr) (n1 n2:Nat):L2.It :=
 ⟨fun i H=>∃ (xs ys:List V) (x y:V),SqX K t1 H a xs /\ SqX K t2 H b ys /\ xs.length=n1 /\ ys.length=n2 /\ xs[i]?=some x /\ ys[i]?=some y,
  fun i H v H'=>∃ T x y,v=.ref T /\ H T=none /\ H'=upd H T (.tup [x,y]) /\ (∀ xs,SqX K t1 H a xs -> xs[i]?=some x) /\ ∀ ys,SqX K t2 H b ys -> ys[i]?=some y,
  fun i H=>∃ xs ys:List V,SqX K t1 H a xs /\ SqX K t2 H b ys /\ xs.length=n1 /\ ys.length=n2 /\ (n1 <= i \/ n2 <= i)⟩
theorem zi6 {z TI TO i1 i2 a b:Addr} (D:ZipApart z TI TO i1 i2 a b):ZipSep2 z TI TO i1 i2 [i1,a] [i2,b] :=
  ⟨D.TIz,D.TOz,D.TITO,D.TIi1,by simp,by simp only [List.mem_cons,List.not_mem_nil,or_false,not_or]; exact ⟨Ne.symm D.i1z,Ne.symm D.l1z⟩,by simp only [List.mem_cons,List.not_mem_nil,or_false,not_or]; exact ⟨D.TOi1,Ne.symm D.l1TO⟩,
   D.TIi2,by simp,by simp only [List.mem_cons,List.not_mem_nil,or_false,not_or]; exact ⟨Ne.symm D.i2z,Ne.symm D.l2z⟩,by simp only [List.mem_cons,List.not_mem_nil,or_false,not_or]; exact ⟨D.TOi2,Ne.symm D.l2TO⟩,
   by simp only [List.mem_cons,List.not_mem_nil,or_false,not_or]; exact ⟨D.i12,Ne.symm D.l2i1⟩,by simp only [List.mem_cons,List.not_mem_nil,or_false,not_or]; exact ⟨Ne.symm D.i12,Ne.symm D.l1i2⟩⟩
theorem zi7 {P:Program} {w:World} {K:PySem.W.Frag} {elts:List Expr} {kk:Nat} {tpos:Pos} {a b z TI TO i1 i2:Addr} {t1 t2:Bool} {n1 n2:Nat} (D:ZipApart z TI TO i1 i2 a b) :
  Turn P w K (.Tuple elts kk tpos) (Itzx K t1 t2 a b n1 n2) [z,TI,TO,i1,i2] z (fun i h=>IsZip h z TI TO .none /\ IsPair h TI (.ref i1) (.ref i2) /\ (∃ x y,IsPair h TO x y) /\ itX t1 h i1 a i /\ itX t2 h i2 b i /\ i <= n1 /\ i <= n2) where
 mem:=by simp
 obj:=fun i h st c hc=>by
  obtain ⟨hz,hTI,⟨x,y,hTO⟩,h1,h2,_⟩:=st
  have e':c=z \/ c=TI \/ c=TO \/ c=i1 \/ c=i2:=by simpa using hc
  rcases e' with q | q | q | q | q
  ·rw [q]; exact ⟨_,hz,fun v q=>nomatch q⟩
  ·rw [q]; exact ⟨_,hTI,fun v q=>nomatch q⟩
  ·rw [q]; exact ⟨_,hTO,fun v q=>nomatch q⟩
  ·rw [q]; exact zaB h1
  ·rw [q]; exact zaB h2
 keep:=fun i h h' st k=>by
  obtain ⟨hz,hTI,⟨x,y,hTO⟩,h1,h2,l1,l2⟩:=st
  exact ⟨k z (by simp) _ hz,k TI (by simp) _ hTI,⟨x,y,k TO (by simp) _ hTO⟩,zby h1 fun o q=>k i1 (by simp) o q,zby h2 fun o q=>k i2 (by simp) o q,l1,l2⟩
 item:=by
  intro X hP hw hK hc i pins s σ H E I hf st hg
  subst hP hw hK
  obtain ⟨hz,hTI,⟨x0,y0,hTO⟩,h1,h2,_,_⟩:=st
  obtain ⟨xs,ys,x,y,hqx,hqy,en1,en2,hx,hy⟩:=hg
  obtain ⟨its,rv,p⟩:=zax I hqx
  obtain ⟨its2,rv2,p2⟩:=zax I hqy
  obtain ⟨u,hu,ru⟩:=rv.get hx
  obtain ⟨u2,hu2,ru2⟩:=rv2.get hy
  have hzl:z < s.heap.objs.size:=Heap.lt_size hz
  have hi1:=(List.getElem?_eq_some_iff.mp hx).1
  have hi2:=(List.getElem?_eq_some_iff.mp hy).1
  have l1:=rv.length
  have l2:=rv2.length
  have hd:X.A.in1.handled=none:=I.ok.hd hc
  have D1:=drX (prog:=X.prog) (w:=X.w) t1 hd i1 a D.l1i1 its.toArray
  have D2:=drX (prog:=X.prog) (w:=X.w) t2 hd i2 b D.l2i2 its2.toArray
  refine wpAny_pyNext_zipD2_item (zi6 D) D1 D2 hz hTI hTO ⟨h1,p⟩ ⟨h2,p2⟩ (by rw [List.size_toArray]; omega) (by rw [List.size_toArray]; omega) fun x1 x2 h' tk e1 e2 z' TO' st1 st2 hT hsz hk=>?_
  have ex1:x1=u:=by
   have e1:its.toArray[i]?=some x1:=e1
   rw [List.getElem?_toArray,hu] at e1; cases e1; rfl
  have ex2:x2=u2:=by
   have e2:its2.toArray[i]?=some x2:=e2
   rw [List.getElem?_toArray,hu2] at e2; cases e2; rfl
  subst ex1 ex2
  refine ⟨_,rfl,wpAny_letOwnedTupleGo_zip (s:={ s with heap:=h',toks:=tk }) z' fun h'' z'' sb=>?_⟩
  have hT2:h''.get? s.heap.objs.size=some { cls:=.type "tuple",data:=.seq #[x1,x2] }:=(sb.2 _ (Nat.ne_of_gt hzl)).trans hT
  have new:ObjOk X.prog X.w (upd H s.heap.objs.size (.tup [x,y])) h'' s.heap.objs.size (.tup [x,y]) :=
   ⟨by show 2 <= sizeLine; decide,[x1,x2],.cons ru (.cons ru2 .nil),⟨_,hT2,rfl,_,rfl⟩⟩
  have I1:Inv X pins σ (upd H s.heap.objs.size (.tup [x,y])) { s with heap:=h'',toks:=tk } :=
   I.turnedNew (t':=tk) (ch:=[z,TI,TO,i1,i2]) (fun c o hb q=>(sb.2 c (fun q'=>hb (by simp [q']))).trans (hk c o (fun q'=>hb (by simp [q'])) (fun q'=>hb (by simp [q'])) (fun q'=>hb (by simp [q'])) (fun q'=>hb (by simp [q'])) q)) hf (Nat.le_refl _) new
  refine ⟨.ref s.heap.objs.size,_,I1,rfl,⟨_,x,y,rfl,I.hok.fresh (Nat.le_refl _),rfl,fun l hl=>by rw [zbT I hl hqx]; exact hx,fun l hl=>by rw [zbT I hl hqy]; exact hy⟩,⟨z'',?_,⟨x1,x2,?_⟩,?_,?_,by omega,by omega⟩,fun c hcm=>?_⟩
  ·exact (sb.2 _ D.TIz).trans (hk _ _ D.TIz D.TITO D.TIi1 D.TIi2 hTI)
  ·exact (sb.2 _ D.TOz).trans TO'
  ·exact zby st1.1 fun o q=>(sb.2 _ D.i1z).trans q
  ·exact zby st2.1 fun o q=>(sb.2 _ D.i2z).trans q
  ·have hlt:c < s.heap.objs.size:=by
    have e':c=z \/ c=TI \/ c=TO \/ c=i1 \/ c=i2:=by simpa using hcm
    rcases e' with q | q | q | q | q
    ·rw [q]; exact hzl
    ·rw [q]; exact Heap.lt_size hTI
    ·rw [q]; exact Heap.lt_size hTO
    ·rw [q]; obtain ⟨_,e1,_⟩:=zaB h1; exact Heap.lt_size e1
    ·rw [q]; obtain ⟨_,e2,_⟩:=zaB h2; exact Heap.lt_size e2
   rw [upd_ne (Nat.ne_of_lt hlt)]
   exact (hf c hcm).1
 done:=by
  intro X hP hw hK hc i pins s σ H E I hf st hg
  subst hP hw hK
  obtain ⟨hz,hTI,⟨x0,y0,hTO⟩,h1,h2,b1,b2⟩:=st
  obtain ⟨xs,ys,hqx,hqy,en1,en2,hend⟩:=hg
  obtain ⟨its,rv,p⟩:=zax I hqx
  obtain ⟨its2,rv2,p2⟩:=zax I hqy
  have l1:=rv.length
  have l2:=rv2.length
  have hd:X.A.in1.handled=none:=I.ok.hd hc
  have D1:=drX (prog:=X.prog) (w:=X.w) t1 hd i1 a D.l1i1 its.toArray
  have D2:=drX (prog:=X.prog) (w:=X.w) t2 hd i2 b D.l2i2 its2.toArray
  refine wpAny_pyNext_zipD2_end (zi6 D) D1 D2 hz hTI hTO ⟨h1,p⟩ ⟨h2,p2⟩ (by rw [List.size_toArray]; omega) (by rw [List.size_toArray]; omega) (by rw [List.size_toArray,List.size_toArray]; omega) fun h' tk hk=>?_
  exact ⟨rfl,I.turnedL (t':=tk) (ch:=[z,TI,TO,i1,i2]) (fun c o hb q =>
   hk c o (fun q'=>hb (by simp [q'])) (fun q'=>hb (by simp [q'])) (fun q'=>hb (by simp [q'])) (fun q'=>hb (by simp [q'])) q) hf⟩
 self:=fun A i s Q E st h=>wpAny_pyIter_zip st.1 h
def iZipX (K:PySem.W.Frag) (ta:TA):TI:=fun σ H R=>ta σ H fun vs H1=>∃ t1 t2 a b xs ys,vs=[.ref a,.ref b] /\ SqX K t1 H1 a xs /\ SqX K t2 H1 b ys /\ R (Itzx K t1 t2 a b xs.length ys.length) H1
theorem zpb {X:Cx} {e e2:Expr} {ta:TA} {p pos tpos:Pos} {elts:List Expr} {kk:Nat} (hg:Gl X "zip") (hm:X.mg "zip"=none) (ha:PA X [e,e2] ta)
  (hs:starEach [e,e2] X.env=(false,eval e X.env) :: starEach [e2] X.env:=by rfl) (hpl:(backTo pos (starEach [e2] X.env)).any (·.1)=false:=by rfl) :
  PI X (.Tuple elts kk tpos) (.Call (.Name "zip" p) [e,e2] [] pos) (iZipX X.K ta):=by
 refine ⟨fun pins s σ H R I h=>?_⟩
 refine Call_ (ld_blt I hg hm PyProof.Rows.boot_zip (PyProof.Rows.callWith_type1 (thn (ha.run pos pins s σ H _ I h) fun us s1 ⟨vs,H1,I1,r1,q1⟩=>?_) hs hpl))
 obtain ⟨t1,t2,a,b,xs,ys,ex,hqx,hqy,q⟩:=q1
 subst ex
 cases r1 with
 | cons r rr =>
  cases rr with
  | cons r' rr =>
   cases rr
   cases r
   cases r'
   have fresh5:∀ c,c ∈ [s1.heap.objs.size+4,s1.heap.objs.size+2,s1.heap.objs.size+3,s1.heap.objs.size,s1.heap.objs.size+1] -> FpOk X pins H1 c:=fun c hcm=>by
    have e':c=s1.heap.objs.size+4 \/ c=s1.heap.objs.size+2 \/ c=s1.heap.objs.size+3 \/ c=s1.heap.objs.size \/ c=s1.heap.objs.size+1:=by simpa using hcm
    have hle:s1.heap.objs.size <= c:=by
     rcases e' with z | z | z | z | z
     ·rw [z]; exact Nat.le_add_right _ _
     ·rw [z]; exact Nat.le_add_right _ _
     ·rw [z]; exact Nat.le_add_right _ _
     ·rw [z]; exact Nat.le_refl _
     ·rw [z]; exact Nat.le_add_right _ _
    exact I1.fpOk hle (I1.hok.fresh hle)
   obtain ⟨its,rv,p1⟩:=zax I1 hqx
   obtain ⟨its2,rv2,p2⟩:=zax I1 hqy
   refine zip_begins2 (bgX t1 a its.toArray) (bgX t2 b its2.toArray) p1 p2 fun h' hz hTI hTO h1 h2 hsz hk=>wpAny_pyIter_zip hz ?_
   have I2:Inv X pins σ H1 { s1 with heap:=h' }:=I1.kept (t':=s1.toks) hk
   exact ⟨s1.heap.objs.size+4,[s1.heap.objs.size+4,s1.heap.objs.size+2,s1.heap.objs.size+3,s1.heap.objs.size,s1.heap.objs.size+1],_,_,H1,rfl,I2,zi7 (PySem.W.ktu_apart s1.heap.objs.size a b (zcT p1) (zcT p2)),⟨hz,hTI,⟨_,_,hTO⟩,zbA h1,zbA h2,Nat.zero_le _,Nat.zero_le _⟩,fresh5,q⟩
theorem zfH {v:Value} {o:Obj} {Hh:Heap -> Prop} (B:Begins v o Hh) :
  Meets (Builtin.«enumerate.__new__» ⟨[.type "enumerate",v],[]⟩) (fun _ R s=>Hh s.heap ∧
   R (.ok (.ret (.ref (s.heap.push o).objs.size))) { s with heap:=(s.heap.push o).push { cls:=.type "enumerate",data:=.fields #[.none,.bool false,.ref s.heap.objs.size,rawInt 0,.none,.none] } }) :=
 .of_wp fun prog w A R s h=>by
  obtain ⟨hp,g,d,tk,os⟩:=s; obtain ⟨h1,h⟩:=h
  have sb:=sub_enumerate
  have qi:∀ {A':Around} {E:Value -> Shared -> Prop} {Q:Value -> Shared -> Prop},Q (.ref hp.objs.size) ⟨hp.push o,g,d,tk,os⟩ -> wpAny (model prog w) A' (pyIter v) Q E ⟨hp,g,d,tk,os⟩:=fun q=>B.iter prog w _ _ ⟨hp,g,d,tk,os⟩ _ h1 q
  wp_walk using qi
  refine wpAny_stack_any fun st=>wpAny_pure ?_
  split
  ·rename_i c _ _ _ _ _
   cases (c == Value.type "enumerate") <;> (wp_walk using qi; exact ⟨_,rfl,h⟩)
  ·wp_walk using qi
   exact ⟨_,rfl,h⟩
theorem zeY {prog:Program} {w:World} {A:Around} {E:Value -> Shared -> Prop} {s:Shared} {v:Value} {o:Obj} {Hh:Heap -> Prop} {Q:Value -> Shared -> Prop} (B:Begins v o Hh) (h1:Hh s.heap)
  (h:∀ h',IsEnum h' (s.heap.objs.size+1) s.heap.objs.size 0 .none -> h'.get? s.heap.objs.size=some o -> (∀ b o,s.heap.get? b=some o -> h'.get? b=some o) -> Q (.ref (s.heap.objs.size+1)) { s with heap:=h' }) :
  wpAny (model prog w) A (call (.type "enumerate") [v]) Q E s:=by
 refine callType_new F.called_enumerate (by decide) (F.typeCall_enumerate_1 _) (F.newCall_enumerate_1 _) (fun ob=>F.args_object_init_2 ob _) F.entry_enumerate_new (zfH B) ⟨h1,?_⟩
 have sz:(s.heap.push o).objs.size=s.heap.objs.size+1:=Heap.size_push ..
 show _ /\ _
 rw [sz]
 have en:IsEnum ((s.heap.push o).push { cls:=.type "enumerate",data:=.fields #[.none,.bool false,.ref s.heap.objs.size,rawInt 0,.none,.none] }) (s.heap.objs.size+1) s.heap.objs.size 0 .none:=by
  have z:=Heap.get?_push_size (s.heap.push o) (o:={ cls:=.type "enumerate",data:=.fields #[.none,.bool false,.ref s.heap.objs.size,rawInt 0,.none,.none] }) rfl
  rw [sz] at z; exact z
 exact ⟨⟨_,en,rfl⟩,h _ en (Heap.get?_push_of_some _ (Heap.get?_push_size _ B.free)) fun b u x=>Heap.get?_push_of_some _ (Heap.get?_push_of_some _ x)⟩
def Itex (K:PySem.W.Frag) (t:Bool) (a:Addr) (n:Nat):L2.It :=
 ⟨fun i H=>∃ (xs:List V) (x:V),SqX K t H a xs /\ xs.length=n /\ xs[i]?=some x,
  fun i H v H'=>∃ T x,v=.ref T /\ H T=none /\ H'=upd H T (.tup [.int (i:Nat),x]) /\ ∀ xs,SqX K t H a xs -> xs[i]?=some x,
  fun i H=>∃ xs:List V,SqX K t H a xs /\ xs.length=n /\ n <= i⟩
theorem zhF {P:Program} {w:World} {K:PySem.W.Frag} {elts:List Expr} {kk:Nat} {tpos:Pos} {a e i1:Addr} {t:Bool} {n:Nat} (ne:e ≠ i1) (na:a ≠ i1) (nae:e ≠ a) :
  Turn P w K (.Tuple elts kk tpos) (Itex K t a n) [e,i1] e (fun i h=>(∃ old,IsEnum h e i1 ((i:Nat):Int) old) /\ itX t h i1 a i /\ i <= n) where
 mem:=by simp
 obj:=fun i h st c hc=>by
  obtain ⟨⟨old,he⟩,h1,_⟩:=st
  have e':c=e \/ c=i1:=by simpa using hc
  rcases e' with q | q
  ·rw [q]; exact ⟨_,he,fun v q=>nomatch q⟩
  ·rw [q]; exact zaB h1
 keep:=fun i h h' st k=>by
  obtain ⟨⟨old,he⟩,h1,l1⟩:=st
  exact ⟨⟨old,k e (by simp) _ he⟩,zby h1 fun o q=>k i1 (by simp) o q,l1⟩
 item:=by
  intro X hP hw hK hc i pins s σ H E I hf st hg
  subst hP hw hK
  obtain ⟨⟨old,he⟩,h1,_⟩:=st
  obtain ⟨xs,x,hqx,en1,hx⟩:=hg
  obtain ⟨its,rv,p⟩:=zax I hqx
  obtain ⟨u,hu,ru⟩:=rv.get hx
  have hel:e < s.heap.objs.size:=Heap.lt_size he
  have hi1:=(List.getElem?_eq_some_iff.mp hx).1
  have l1:=rv.length
  have hd:X.A.in1.handled=none:=I.ok.hd hc
  have D1:=drX (prog:=X.prog) (w:=X.w) t hd i1 a na its.toArray
  refine wpAny_pyNext_enum_itemD D1 he ⟨h1,p⟩ (by rw [List.size_toArray]; omega) ne (by simp only [List.mem_cons,List.not_mem_nil,or_false,not_or]; exact ⟨ne,nae⟩) fun x1 h' tk e1 ho st1 hT hsz hk=>?_
  have ex1:x1=u:=by
   have e1:its.toArray[i]?=some x1:=e1
   rw [List.getElem?_toArray,hu] at e1; cases e1; rfl
  subst ex1
  refine ⟨_,rfl,wpAny_letOwnedTupleGo_enum (s:={ s with heap:=h',toks:=tk+1 }) ho fun h'' he' sb=>?_⟩
  have hT2:h''.get? s.heap.objs.size=some { cls:=.type "tuple",data:=.seq #[.int i tk,x1] }:=(sb.2 _ (Nat.ne_of_gt hel)).trans hT
  have new:ObjOk X.prog X.w (upd H s.heap.objs.size (.tup [.int (i:Nat),x])) h'' s.heap.objs.size (.tup [.int (i:Nat),x]) :=
   ⟨by show 2 <= sizeLine; decide,[.int i tk,x1],.cons ⟨_,rfl⟩ (.cons ru .nil),⟨_,hT2,rfl,_,rfl⟩⟩
  have I1:Inv X pins σ (upd H s.heap.objs.size (.tup [.int (i:Nat),x])) { s with heap:=h'',toks:=tk+1 } :=
   I.turnedNew (t':=tk+1) (ch:=[e,i1]) (fun c o hb q=>(sb.2 c (fun q'=>hb (by simp [q']))).trans (hk c o (fun q'=>hb (by simp [q'])) (fun q'=>hb (by simp [q'])) q)) hf (Nat.le_refl _) new
  refine ⟨.ref s.heap.objs.size,_,I1,rfl,⟨_,x,rfl,I.hok.fresh (Nat.le_refl _),rfl,fun l hl=>by rw [zbT I hl hqx]; exact hx⟩,⟨⟨x1,?_⟩,?_,by omega⟩,fun c hcm=>?_⟩
  ·have e1:((i+1:Nat):Int)=(i:Int)+1:=by omega
   rw [e1]; exact he'
  ·exact zby st1.1 fun o q=>(sb.2 _ (Ne.symm ne)).trans q
  ·have hlt:c < s.heap.objs.size:=by
    have e':c=e \/ c=i1:=by simpa using hcm
    rcases e' with q | q
    ·rw [q]; exact hel
    ·rw [q]; obtain ⟨_,e1,_⟩:=zaB h1; exact Heap.lt_size e1
   rw [upd_ne (Nat.ne_of_lt hlt)]
   exact (hf c hcm).1
 done:=by
  intro X hP hw hK hc i pins s σ H E I hf st hg
  subst hP hw hK
  obtain ⟨⟨old,he⟩,h1,b1⟩:=st
  obtain ⟨xs,hqx,en1,hend⟩:=hg
  obtain ⟨its,rv,p⟩:=zax I hqx
  have l1:=rv.length
  have hd:X.A.in1.handled=none:=I.ok.hd hc
  have D1:=drX (prog:=X.prog) (w:=X.w) t hd i1 a na its.toArray
  have ei:its.toArray.size=i:=by rw [List.size_toArray]; omega
  obtain ⟨f0,f1,f2,f3,f4,f5⟩:=hf i1 (by simp)
  refine wpAny_pyNext_enum_endD D1 he (by rw [ei]; exact ⟨h1,p⟩) fun h' eb=>⟨rfl,I.turned (t':=s.toks) (fun b o hb q=>eb b o hb q) f0 f1 f3 f4 f5⟩
 self:=fun A i s Q E st h=>by
  obtain ⟨⟨_,he⟩,_⟩:=st
  exact wpAny_pyIter_enum he h
def zrF (K:PySem.W.Frag) (ta:TA):TI:=fun σ H R=>ta σ H fun vs H1=>∃ t a xs,vs=[.ref a] /\ SqX K t H1 a xs /\ R (Itex K t a xs.length) H1
theorem zmc {X:Cx} {e:Expr} {ta:TA} {p pos tpos:Pos} {elts:List Expr} {kk:Nat} (hg:Gl X "enumerate") (hm:X.mg "enumerate"=none) (ha:PA X [e] ta)
  (hs:starEach [e] X.env=(false,eval e X.env) :: starEach [] X.env:=by rfl):PI X (.Tuple elts kk tpos) (.Call (.Name "enumerate" p) [e] [] pos) (zrF X.K ta):=by
 refine ⟨fun pins s σ H R I h=>?_⟩
 refine Call_ (ld_blt I hg hm boot_enumerate (PyProof.Rows.callWith_type1 (thn (ha.run pos pins s σ H _ I h) fun us s1 ⟨vs,H1,I1,r1,q1⟩=>?_) hs rfl))
 obtain ⟨t,a,xs,ex,hqx,q⟩:=q1
 subst ex
 cases r1 with
 | cons r rr =>
  cases rr
  cases r
  obtain ⟨its,rv,p1⟩:=zax I1 hqx
  have alt:=zcT p1
  refine zeY (bgX t a its.toArray) p1 fun h' he h1 hk=>wpAny_pyIter_enum he ?_
  have I2:Inv X pins σ H1 { s1 with heap:=h' }:=I1.kept (t':=s1.toks) hk
  refine ⟨s1.heap.objs.size+1,[s1.heap.objs.size+1,s1.heap.objs.size],_,_,H1,rfl,I2,zhF (e:=s1.heap.objs.size+1) (i1:=s1.heap.objs.size) (Nat.succ_ne_self _) (Nat.ne_of_lt alt) (Ne.symm (Nat.ne_of_lt (Nat.lt_succ_of_lt alt))),⟨⟨.none,he⟩,zbA h1,Nat.zero_le _⟩,fun c hcm=>?_,q⟩
  have e':c=s1.heap.objs.size+1 \/ c=s1.heap.objs.size:=by simpa using hcm
  have hle:s1.heap.objs.size <= c:=by
   rcases e' with z | z <;> rw [z] <;> omega
  exact I1.fpOk hle (I1.hok.fresh hle)
end L2.Pf
namespace L2.Pf
open PySem PySem.Spec PyProof.Rows
def WI (X:Cx) (tg iter:Expr):TI:=fun σ H R=>∀ (pins:List (Addr × Obj)) (s:Shared),Inv X pins σ H s →
  wpAny (model X.prog X.w) X.A (eval iter X.env) (fun v s1=>wpAny (model X.prog X.w) X.A (pyIter v) (PIE X pins σ tg R) X.xe s1) X.xe s
theorem pi_wi {X:Cx} {tg iter:Expr}:PI X tg iter (WI X tg iter):=⟨fun pins s σ H R I h=>h pins s I⟩
theorem wi_of {X:Cx} {tg iter:Expr} {t:TI} {σ:St} {H:Hp} {R:L2.It -> Hp -> Prop} (h:PI X tg iter t) (q:t σ H R):WI X tg iter σ H R:=fun pins s I=>h.run pins s σ H R I q
structure ItOK (K:PySem.W.Frag) (F:Fx) (A B:Addr -> Prop) (H1:Hp) (J:L2.It) (xs:List D):Prop where
 go:∀ H A',Ext B H1 H -> (∀ b,A' b -> A b \/ H1 b=none) -> ∀ i x,xs[i]?=some x -> J.go i H /\ ∀ v H',J.yld i H v H' -> Ext Nix H H' /\ Rep K H' (PPa F A') x v
 stop:∀ H,Ext B H1 H -> ∀ i,xs.length <= i -> J.stop i H
section
variable {K:PySem.W.Frag} {F:Fx} {A B A':Addr -> Prop} {H1 H H':Hp} {Q:VK}
theorem le_it (x:Ext B H1 H) (hb:∀ b,B b -> A b) (ha:∀ b,A' b -> A b \/ H1 b=none):Le (PPa F A) (PPa F A') H1 H :=
 ⟨fun a u hu e=>x a _ e (fun z=>(zb7 hu z).elim),fun a u _ q r=>by
  rcases r with r | ⟨ob,r⟩
  ·exact .inl (x a _ r fun _ z=>q.2 (hb a z))
  ·exact .inr ⟨ob,x a _ r fun _ z=>q.2 (hb a z)⟩,fun a u _ q r=>⟨q.1,fun z=>by
   rcases ha a z with z | z
   ·exact q.2 z
   ·obtain ⟨o,e⟩:=zcw r
    rw [z] at e; cases e⟩⟩
def TopOK (K:PySem.W.Frag) (F:Fx) (A B:Addr -> Prop) (H:Hp) (d:D) (v:V):Prop:=(∀ b,B b -> A b) /\ RepT K H (PPa F A) d v /\ ((∀ b,¬ B b) \/ Rep K H (PPa F A) d v)
theorem TopOK.sub {d:D} {v:V} (t:TopOK K F A B H d v):∀ b,B b -> A b:=t.1
theorem zom {a:Addr} {vs:List V} (r:SqL K H1 a vs) (n:∀ b,H1 b ≠ none -> b=a -> ¬ B b) (x:Ext B H1 H):SqL K H a vs:=by
 rcases r with r | r
 ·rcases r with r | ⟨o,r⟩
  ·exact .inl (.inl (x a _ r fun _=>n a (by rw [r]; simp) rfl))
  ·exact .inl (.inr ⟨o,x a _ r fun _=>n a (by rw [r]; simp) rfl⟩)
 ·exact .inr r
theorem TopOK.lst {ds:List D} {v:V} (t:TopOK K F A B H1 (.lst ds) v):∃ a vs,v=.ref a /\ SqL K H1 a vs /\ Reps K H1 (PPa F A) ds vs /\ ∀ H,Ext B H1 H -> SqL K H a vs:=by
 obtain ⟨hb,rt,t⟩:=t
 rcases t with t | t
 ·obtain ⟨a,vs,rfl,h,r⟩:=rt.lst
  exact ⟨a,vs,rfl,h,r,fun H x=>zom h (fun b _ _=>t b) x⟩
 ·cases t with
  | lst h p r=>exact ⟨_,_,rfl,.inl h,r,fun H x=>zom (K:=K) (.inl h) (fun b _ e z=>p.2 (hb _ (e ▸ z))) x⟩
  | lstK h r=>exact ⟨_,_,rfl,.inr h,r,fun H x=>.inr h⟩
theorem TopOK.tup {ds:List D} {v:V} (t:TopOK K F A B H1 (.tup ds) v):∃ a vs,v=.ref a /\ H1 a=some (.tup vs) /\ Reps K H1 (PPa F A) ds vs /\ ∀ H,Ext B H1 H -> SqT K H a vs:=by
 obtain ⟨hb,rt,_⟩:=t
 obtain ⟨a,vs,rfl,h,r⟩:=rt.tup
 exact ⟨a,vs,rfl,h,r,fun H x=>SqT.of (x a _ h (fun z=>by cases z))⟩
theorem zpc {a:Addr} {ds:List D} {vs:List V} (hb:∀ b,B b -> A b) (r:Reps K H1 (PPa F A) ds vs) (st:∀ H,Ext B H1 H -> SqL K H a vs):ItOK K F A B H1 (Itl K a) ds:=by
 refine ⟨fun H A' x ha i d e=>?_,fun H x i hi=>⟨vs,st H x,by rw [<- r.length]; exact hi⟩⟩
 obtain ⟨v,ev,rv⟩:=r.get e
 refine ⟨⟨vs,v,st H x,ev⟩,fun u H' y=>?_⟩
 obtain ⟨e1,y⟩:=y
 subst e1
 have:=y vs (st H' x)
 rw [ev] at this; cases this
 exact ⟨Ext.refl,rv.mono (le_it x hb ha)⟩
theorem zon {a:Addr} {ds:List D} {vs:List V} (hb:∀ b,B b -> A b) (r:Reps K H1 (PPa F A) ds vs) (st:∀ H,Ext B H1 H -> SqT K H a vs):ItOK K F A B H1 (Itt K a) ds:=by
 refine ⟨fun H A' x ha i d e=>?_,fun H x i hi=>⟨vs,st H x,by rw [<- r.length]; exact hi⟩⟩
 obtain ⟨v,ev,rv⟩:=r.get e
 refine ⟨⟨vs,v,st H x,ev⟩,fun u H' y=>?_⟩
 obtain ⟨e1,y⟩:=y
 subst e1
 have:=y vs (st H' x)
 rw [ev] at this; cases this
 exact ⟨Ext.refl,rv.mono (le_it x hb ha)⟩
theorem zrG {a:Addr} {ds:List D} {vs:List V} (hb:∀ b,B b -> A b) (r:Reps K H1 (PPa F A) ds vs) (st:∀ H,Ext B H1 H -> SqL K H a vs):ItOK K F A B H1 (Itv K a vs.length) ds.reverse:=by
 refine ⟨fun H A' x ha i d e=>?_,fun H x i hi=>by rw [List.length_reverse,r.length] at hi; exact hi⟩
 have hi:i < ds.length:=by
  have:=List.getElem?_eq_some_iff.mp e
  obtain ⟨h,_⟩:=this
  simpa using h
 rw [List.getElem?_reverse hi,r.length] at e
 obtain ⟨v,ev,rv⟩:=r.get e
 refine ⟨⟨by rw [<- r.length]; exact hi,vs,v,st H x,ev⟩,fun u H' y=>?_⟩
 obtain ⟨e1,y⟩:=y
 subst e1
 have:=y vs (st H' x)
 rw [ev] at this; cases this
 exact ⟨Ext.refl,rv.mono (le_it x hb ha)⟩
theorem zpd {a:Addr} {ds:List D} {vs:List V} (hb:∀ b,B b -> A b) (r:Reps K H1 (PPa F A) ds vs) (st:∀ H,Ext B H1 H -> SqT K H a vs):ItOK K F A B H1 (RT.ItvT K a vs.length) ds.reverse:=by
 refine ⟨fun H A' x ha i d e=>?_,fun H x i hi=>by rw [List.length_reverse,r.length] at hi; exact hi⟩
 have hi:i < ds.length:=by
  have:=List.getElem?_eq_some_iff.mp e
  obtain ⟨h,_⟩:=this
  simpa using h
 rw [List.getElem?_reverse hi,r.length] at e
 obtain ⟨v,ev,rv⟩:=r.get e
 refine ⟨⟨by rw [<- r.length]; exact hi,vs,v,st H x,ev⟩,fun u H' y=>?_⟩
 obtain ⟨e1,y⟩:=y
 subst e1
 have:=y vs (st H' x)
 rw [ev] at this; cases this
 exact ⟨Ext.refl,rv.mono (le_it x hb ha)⟩
theorem zgR {lo:Int} {n:Nat}:ItOK K F A B H1 (Itr lo n) (zaq lo n):=by
 refine ⟨fun H A' x ha i d e=>?_,fun H x i hi=>(by simpa [zaq] using hi:n <= i)⟩
 unfold zaq at e
 rw [List.getElem?_map] at e
 cases ei:(List.range n)[i]? with
 | none=>rw [ei] at e; cases e
 | some j =>
  rw [ei] at e
  cases e
  obtain ⟨h1,h2⟩:=List.getElem?_eq_some_iff.mp ei
  simp at h1 h2
  subst h2
  refine ⟨h1,fun v H' y=>?_⟩
  obtain ⟨e1,e2⟩:=y
  subst e1 e2
  exact ⟨Ext.refl,.int _⟩
theorem zpe {lo c:Int} {n:Nat}:ItOK K F A B H1 (Itc lo c n) (zda lo c n):=by
 refine ⟨fun H A' x ha i d e=>?_,fun H x i hi=>(by simpa [zda] using hi:n <= i)⟩
 unfold zda at e
 rw [List.getElem?_map] at e
 cases ei:(List.range n)[i]? with
 | none=>rw [ei] at e; cases e
 | some j =>
  rw [ei] at e
  cases e
  obtain ⟨h1,h2⟩:=List.getElem?_eq_some_iff.mp ei
  simp at h1 h2
  subst h2
  refine ⟨h1,fun v H' y=>?_⟩
  obtain ⟨e1,e2⟩:=y
  subst e1 e2
  exact ⟨Ext.refl,.int _⟩
theorem zrH {s:Str}:ItOK K F A B H1 (Its s) (s.cps.toList.map fun c=>.str ⟨#[c]⟩):=by
 refine ⟨fun H A' x ha i d e=>?_,fun H x i hi=>(by simpa using hi:s.cps.size <= i)⟩
 rw [List.getElem?_map] at e
 cases ei:s.cps.toList[i]? with
 | none=>rw [ei] at e; cases e
 | some c =>
  rw [ei] at e
  cases e
  obtain ⟨h1,h2⟩:=List.getElem?_eq_some_iff.mp ei
  refine ⟨(by simpa using h1:i < s.cps.size),fun v H' y=>?_⟩
  obtain ⟨e1,c',e2,e3⟩:=y
  subst e1 e3
  rw [<- Array.getElem?_toList,ei] at e2
  cases e2
  exact ⟨Ext.refl,.str _⟩
theorem zi8:∀ {xs ys:List D} {i:Nat} {d:D},(zipD xs ys)[i]?=some d -> ∃ x y,d=.tup [x,y] /\ xs[i]?=some x /\ ys[i]?=some y
 | [],_,_,_,e=>by simp [zipD] at e
 | _ :: _,[],_,_,e=>by simp [zipD] at e
 | x :: xs,y :: ys,0,d,e=>by simp [zipD] at e; exact ⟨x,y,e.symm,rfl,rfl⟩
 | x :: xs,y :: ys,i+1,d,e=>by
  obtain ⟨a,b,h1,h2,h3⟩:=zi8 (xs:=xs) (ys:=ys) (i:=i) (d:=d) (by simpa [zipD] using e)
  exact ⟨a,b,h1,by simpa using h2,by simpa using h3⟩
theorem zi9:∀ (xs ys:List D),(zipD xs ys).length=min xs.length ys.length
 | [],_=>by simp [zipD]
 | _ :: _,[]=>by simp [zipD]
 | x :: xs,y :: ys=>by simp [zipD,zi9 xs ys]
theorem zeg {T:Addr} {x y:D} {u w:V} (hT:H T=none) (rx:Rep K H (PPa F A') x u) (ry:Rep K H (PPa F A') y w):Ext Nix H (upd H T (.tup [u,w])) /\ Rep K (upd H T (.tup [u,w])) (PPa F A') (.tup [x,y]) (.ref T) :=
 ⟨Ext.new hT,.tup upd_same (.cons (rx.ext (Ext.new (A:=Nix) hT) fun _ _ z=>z) (.cons (ry.ext (Ext.new (A:=Nix) hT) fun _ _ z=>z) .nil))⟩
theorem zgS:∀ {xs:List D} {n i:Nat} {d:D},(enumD n xs)[i]?=some d -> ∃ x,d=.tup [.int ((n+i:Nat):Int),x] /\ xs[i]?=some x
 | [],_,_,_,e=>by simp [enumD] at e
 | x :: xs,n,0,d,e=>by simp [enumD] at e; exact ⟨x,by rw [<- e]; rfl,rfl⟩
 | x :: xs,n,i+1,d,e=>by
  obtain ⟨a,h1,h2⟩:=zgS (xs:=xs) (n:=n+1) (i:=i) (d:=d) (by simpa [enumD] using e)
  exact ⟨a,by rw [h1,show n+1+i=n+(i+1) by omega],by simpa using h2⟩
theorem zgT:∀ (n:Nat) (xs:List D),(enumD n xs).length=xs.length
 | _,[]=>rfl
 | n,x :: xs=>by simp [enumD,zgT (n+1) xs]
theorem zpf {a:Addr} {t:Bool} {ds:List D} {vs:List V} (hb:∀ b,B b -> A b) (r:Reps K H1 (PPa F A) ds vs) (st:∀ H,Ext B H1 H -> SqX K t H a vs):ItOK K F A B H1 (Itex K t a ds.length) (enumD 0 ds):=by
 refine ⟨fun H A' x ha i d e=>?_,fun H x i hi=>⟨vs,st H x,r.length.symm,by rw [zgT] at hi; exact hi⟩⟩
 obtain ⟨x1,rfl,e1⟩:=zgS e
 obtain ⟨v,ev,rv⟩:=r.get e1
 refine ⟨⟨vs,v,st H x,r.length.symm,ev⟩,fun w H' y=>?_⟩
 obtain ⟨T,v',rfl,hT,rfl,z1⟩:=y
 have z1:=z1 vs (st H x)
 rw [ev] at z1; cases z1
 rw [Nat.zero_add]
 exact zeg hT (.int _) (rv.mono (le_it x hb ha))
end
section
variable (T:List Def)
def SndI (m:It):Prop:=∀ {X:Cx} {tg e:Expr} {sc:Scope} {O:List Nat} {G:Str -> Option D} {Fnc:Fn} {n:Nat} {cls:Str -> Option Addr} {W:WX} {F:Fx} {A:Addr -> Prop} {σ:St} {ρ:Env} {H:Hp} {R:L2.It -> Hp -> Prop},
 Hy X T G Fnc n cls -> Takes X W -> X.env.scope=sc -> chkI X.N T sc O m tg e=true -> EnvR X.K F O A σ ρ H →
 PostR (fun xs=>∀ J H',Ext Nix H H' -> (∀ B:Addr -> Prop,(∀ b,B b -> A b) -> ((∀ b,¬ B b) \/ bareI O m=false) -> ItOK X.K F A B H' J xs) -> R J H') (ExW cls W σ H) (evI G Fnc m ρ) -> WI X tg e σ H R
end
section
variable {T:List Def}
theorem Got.topOK {K:PySem.W.Frag} {F:Fx} {A B:Addr -> Prop} {O:List Nat} {m:E} {H H':Hp} {d:D} {v:V} (g:Got K F A O T m H H' d v) (hb:∀ b,B b -> A b) (h:(∀ b,¬ B b) \/ bareO O m=false):TopOK K F A B H' d v :=
 ⟨hb,g.top,h.imp id g.rep⟩
theorem zmd {a:E} (ha:SndE T a):SndI T (.seq a):=by
 intro X tg e sc O G Fnc n cls W F A σ ρ H Rq hy tk hs c I h
 rw [chkI,Bool.and_eq_true] at c
 have h':PostR _ _ ((evE G Fnc a ρ).bind fun x=>seqD x):=h
 cases ea:evE G Fnc a ρ with
 | bad=>rw [ea] at h'; exact h'.elim
 | exc cc =>
  rw [ea] at h'
  exact wi_of (pi_list pe_we) (ha hy tk hs c.1 I (by rw [ea]; exact h'))
 | ok d =>
  rw [ea] at h'
  have k:PostR (fun xs=>∀ J H',Ext Nix H H' -> (∀ B:Addr -> Prop,(∀ b,B b -> A b) -> ((∀ b,¬ B b) \/ bareI O (.seq a)=false) -> ItOK X.K F A B H' J xs) -> Rq J H') (ExW cls W σ H) (seqD d):=h'
  cases d <;> (try exact k.elim)
  ·refine wi_of (pi_str pe_we) (ha hy tk hs c.1 I ?_)
   rw [ea]
   refine PostR.of fun v H' g=>?_
   obtain rfl:=g.top.str
   exact ⟨_,rfl,k _ _ g.ext fun B _ _=>zrH⟩
  ·refine wi_of (pi_tup pe_we) (ha hy tk hs c.1 I ?_)
   rw [ea]
   refine PostR.of fun v H' g=>?_
   obtain ⟨p,vs,rfl,hp,r⟩:=g.top.tup
   refine ⟨p,rfl,⟨vs,SqT.of hp⟩,k _ _ g.ext fun B hb hB=>?_⟩
   exact zon hb r fun H2 x=>SqT.of (x _ _ hp (fun z=>by cases z))
  ·refine wi_of (pi_list pe_we) (ha hy tk hs c.1 I ?_)
   rw [ea]
   refine PostR.of fun v H' g=>?_
   obtain ⟨p,vs,rfl,hp,r⟩:=g.top.lst
   refine ⟨p,rfl,⟨vs,hp⟩,k _ _ g.ext fun B hb hB=>?_⟩
   obtain ⟨p',vs',e1,h1,r1,st⟩:=(g.topOK hb hB).lst
   cases e1
   exact zpc hb r1 st
  ·refine wi_of (pi_tup pe_we) (ha hy tk hs c.1 I ?_)
   rw [ea]
   refine PostR.of fun v H' g=>?_
   obtain ⟨p,o,rfl,hp,_⟩:=g.top.tupN
   refine ⟨p,rfl,⟨_,.inl (.inr ⟨o,hp⟩)⟩,k _ _ g.ext fun B hb hB=>?_⟩
   exact zon hb (Reps.strs _) fun H2 x=>.inl (.inr ⟨o,x _ _ hp (fun z=>by cases z)⟩)
theorem args1 {a:E} (ha:SndE T a) {X:Cx} {x:Expr} {sc:Scope} {O:List Nat} {G:Str -> Option D} {Fnc:Fn} {n:Nat} {cls:Str -> Option Addr} {W:WX} {F:Fx} {A:Addr -> Prop} {σ:St} {ρ:Env} {H:Hp} {Q:List V -> Hp -> Prop}
  (hy:Hy X T G Fnc n cls) (tk:Takes X W) (hs:X.env.scope=sc) (c:chkE X.N T sc O a x=true) (I:EnvR X.K F O A σ ρ H)
  (h:PostR (fun d=>∀ v H',Got X.K F A O T a H H' d v -> Q [v] H') (ExW cls W σ H) (evE G Fnc a ρ)):WA X [x] σ H Q :=
 wa_of (pa_cons pe_we pa_nil (zab (zaa _ _ c))) (ha hy tk hs c I h)
theorem args2 {a b:E} (ha:SndE T a) (hb:SndE T b) {X:Cx} {x y:Expr} {sc:Scope} {O:List Nat} {G:Str -> Option D} {Fnc:Fn} {n:Nat} {cls:Str -> Option Addr} {W:WX} {F:Fx} {A:Addr -> Prop} {σ:St} {ρ:Env} {H:Hp} {Q:List V -> Hp -> Prop} {ok:D -> D -> Prop}
  (hy:Hy X T G Fnc n cls) (tk:Takes X W) (hs:X.env.scope=sc) (c1:chkE X.N T sc O a x=true) (c2:chkE X.N T sc O b y=true) (I:EnvR X.K F O A σ ρ H)
  (h:PostR (fun x=>PostR (fun y=>ok x y) (ExW cls W σ H) (evE G Fnc b ρ)) (ExW cls W σ H) (evE G Fnc a ρ))
  (k:∀ x y v u H1 H2,Got X.K F A O T a H H1 x v -> Got X.K F A O T b H1 H2 y u -> ok x y -> Q [v,u] H2):WA X [x,y] σ H Q:=by
 refine wa_of (pa_cons pe_we (pa_cons pe_we pa_nil (zab (zaa _ _ c2))) (zab (zaa _ _ c1))) ?_
 refine ha hy tk hs c1 I (h.mono (fun x hx v H1 g=>?_) fun _ z=>z)
 exact hb hy tk hs c2 (I.step g.ext) (hx.mono (fun y hy' u H2 g2=>k x y v u H1 H2 g g2 hy') fun c hc=>hc.step g.ext)
theorem zfI {a:E} (ha:SndE T a):SndI T (.range1 a):=by
 intro X tg e sc O G Fnc n cls W F A σ ρ H Rq hy tk hs c I h
 obtain ⟨pg,x,p,rfl,c2,c3⟩:=zaM (show call1 sc "range" e _=true from c)
 subst hs
 obtain ⟨g1,_,_⟩:=gl_of c2
 have h':PostR _ _ ((evE G Fnc a ρ).bind fun x=>(dInt x).bind fun j=>R.when (rngOk j) (R.ok (zaq 0 j.toNat))):=h
 refine wi_of (pi_range1 g1 (hy.blt _ (by decide)) pa_wa (zab (zaa _ _ c3))) (args1 ha hy tk rfl c3 I (h'.bind.mono (fun d hd v H1 g=>?_) fun _ z=>z))
 obtain ⟨j,ej,q⟩:=hd.bind.get (zaF d)
 cases d <;> cases ej
 obtain rfl:=g.top.int
 obtain ⟨w,q⟩:=PostR.when q
 unfold rngOk at w
 rw [Bool.and_eq_true] at w
 exact ⟨j,rfl,of_decide_eq_true w.1,of_decide_eq_true w.2,q _ _ g.ext fun B _ _=>zgR⟩
theorem zfJ {a b:E} (ha:SndE T a) (hb:SndE T b):SndI T (.range2 a b):=by
 intro X tg e sc O G Fnc n cls W F A σ ρ H Rq hy tk hs c I h
 obtain ⟨pg,x,y,p,rfl,c2,c3⟩:=zbo (show call2 sc "range" e _=true from c)
 subst hs
 rw [Bool.and_eq_true] at c3
 obtain ⟨c3,c4⟩:=c3
 obtain ⟨g1,_,_⟩:=gl_of c2
 have h':PostR _ _ ((evE G Fnc a ρ).bind fun x=>(evE G Fnc b ρ).bind fun y=>(dInt x).bind fun i=>(dInt y).bind fun j=>R.when (rngOk i && rngOk j) (R.ok (zaq i (j - i).toNat))):=h
 refine wi_of (pi_range2 g1 (hy.blt _ (by decide)) pa_wa (by rw [zab (zaa _ _ c3),zab (zaa _ _ c4)]; rfl) (by rw [zab (zaa _ _ c4)]; rfl)) (args2 ha hb hy tk rfl c3 c4 I (h'.bind.mono (fun x hx=>hx.bind) fun _ z=>z) fun d e v u H1 H2 g g2 q=>?_)
 obtain ⟨i,ei,q⟩:=q.bind.get (zaF d)
 have q:PostR (fun xs=>∀ J H',_ -> _ -> _) _ ((dInt e).bind _):=q
 obtain ⟨j,ej,q⟩:=q.bind.get (zaF e)
 cases d <;> cases ei
 cases e <;> cases ej
 obtain rfl:=g.top.int
 obtain rfl:=g2.top.int
 obtain ⟨w,q⟩:=PostR.when q
 unfold rngOk at w
 rw [Bool.and_eq_true,Bool.and_eq_true,Bool.and_eq_true] at w
 exact ⟨i,j,rfl,⟨of_decide_eq_true w.1.1,of_decide_eq_true w.1.2,of_decide_eq_true w.2.1,of_decide_eq_true w.2.2⟩,q _ _ (g.ext.trans g2.ext) fun B _ _=>zgR⟩
theorem zrI {X:Cx} {c:Int} {z:Expr} {σ:St} {H:Hp} {Q:VK} (h:litI c z=true) (q:Q (.int c) H):WE X z σ H Q:=by
 unfold litI at h
 split at h
 ·rename_i m _ _
  have:c=m:=by simpa using h
  subst this
  exact we_of pe_int q
 ·rename_i m _ _ _
  have:c=-m:=by simpa using h
  subst this
  exact we_of (pe_un un_neg pe_int) ⟨m,rfl,q⟩
 ·cases h
theorem zgU {c:Int} {z:Expr} (h:litI c z=true):zaw z=true:=by
 cases z <;> first | rfl | cases h
theorem zfK {a b:E} {k:Int} (ha:SndE T a) (hb:SndE T b):SndI T (.range3 a b k):=by
 intro X tg e sc O G Fnc n cls W F A σ ρ H Rq hy tk hs c I h
 obtain ⟨pg,x,y,z,p,rfl,c2,c3⟩:=zee (show call3 sc "range" e _=true from c)
 subst hs
 rw [Bool.and_eq_true,Bool.and_eq_true] at c3
 obtain ⟨⟨c3,c4⟩,c5⟩:=c3
 obtain ⟨g1,_,_⟩:=gl_of c2
 have h':PostR _ _ ((evE G Fnc a ρ).bind fun x=>(evE G Fnc b ρ).bind fun y=>(dInt x).bind fun i=>(dInt y).bind fun j=>R.when (rgcOk i j k) (R.ok (zda i k (Builtin.Range.rangeSize i j k).toNat))):=h
 refine wi_of (pi_range3 g1 (hy.blt _ (by decide)) (pa_cons pe_we (pa_cons pe_we (pa_cons pe_we pa_nil (zab (zgU c5))) (zab (zaa _ _ c4))) (zab (zaa _ _ c3))) (zab (zaa _ _ c3)) (zao (by rw [List.all_cons,List.all_cons,zaa _ _ c4,zgU c5]; rfl))) ?_
 refine ha hy tk rfl c3 I (h'.bind.mono (fun d hx v H1 g=>?_) fun _ z=>z)
 refine hb hy tk rfl c4 (I.step g.ext) (hx.bind.mono (fun e q u H2 g2=>?_) fun c hc=>ExW.step hc g.ext)
 refine zrI c5 ?_
 obtain ⟨i,ei,q⟩:=q.bind.get (zaF d)
 have q:PostR (fun xs=>∀ J H',_ -> _ -> _) _ ((dInt e).bind _):=q
 obtain ⟨j,ej,q⟩:=q.bind.get (zaF e)
 cases d <;> cases ei
 cases e <;> cases ej
 obtain rfl:=g.top.int
 obtain rfl:=g2.top.int
 obtain ⟨w,q⟩:=PostR.when q
 unfold rgcOk at w
 simp only [Bool.and_eq_true] at w
 exact ⟨i,j,k,_,rfl,⟨of_decide_eq_true w.1.1.1,of_decide_eq_true w.1.1.2,w.1.2,by have:=of_decide_eq_true w.2; omega⟩,q _ _ (g.ext.trans g2.ext) fun B _ _=>zpe⟩
theorem zcD {e:Expr} (h:zcB e=true):∃ xs k p,e=.Tuple xs k p:=by
 cases e <;> first | (cases h; done) | exact ⟨_,_,_,rfl⟩
theorem zdP (x y:D):noExc (zip2D x y):=by
 intro c
 cases x <;> cases y <;> intro z <;> cases z
def tB:D -> Bool
 | .tup _=>true | _=>false
theorem TopOK.sq {K:PySem.W.Frag} {F:Fx} {A B:Addr -> Prop} {H1:Hp} {d:D} {ds:List D} {v:V} (e:ltsD d=.ok ds) (t:TopOK K F A B H1 d v):∃ a vs,v=.ref a /\ SqX K (tB d) H1 a vs /\ Reps K H1 (PPa F A) ds vs /\ ∀ H,Ext B H1 H -> SqX K (tB d) H a vs:=by
 cases d <;> (try (cases e; done))
 ·cases e
  obtain ⟨a,vs,rfl,h,r,st⟩:=t.tup
  exact ⟨a,vs,rfl,SqT.of h,r,st⟩
 ·cases e
  obtain ⟨a,vs,rfl,h,r,st⟩:=t.lst
  exact ⟨a,vs,rfl,h,r,st⟩
theorem zdQ {K:PySem.W.Frag} {H:Hp} {P:Addr -> Prop} {d:D} {ds:List D} {v:V} (e:ltsD d=.ok ds) (t:RepT K H P d v):∃ a vs,v=.ref a /\ SqX K (tB d) H a vs /\ vs.length=ds.length:=by
 cases d <;> (try (cases e; done))
 ·cases e
  obtain ⟨a,vs,rfl,h,r⟩:=t.tup
  exact ⟨a,vs,rfl,SqT.of h,r.length.symm⟩
 ·cases e
  obtain ⟨a,vs,rfl,h,r⟩:=t.lst
  exact ⟨a,vs,rfl,h,r.length.symm⟩
theorem zpg {K:PySem.W.Frag} {F:Fx} {A B:Addr -> Prop} {H1:Hp} {t1 t2:Bool} {a b:Addr} {ds es:List D} {vs us:List V} (hb:∀ b,B b -> A b) (r:Reps K H1 (PPa F A) ds vs) (r2:Reps K H1 (PPa F A) es us) (st:∀ H,Ext B H1 H -> SqX K t1 H a vs) (st2:∀ H,Ext B H1 H -> SqX K t2 H b us) :
  ItOK K F A B H1 (Itzx K t1 t2 a b ds.length es.length) (zipD ds es):=by
 refine ⟨fun H A' x ha i d e=>?_,fun H x i hi=>⟨vs,us,st H x,st2 H x,r.length.symm,r2.length.symm,by rw [zi9] at hi; omega⟩⟩
 obtain ⟨x1,y1,rfl,e1,e2⟩:=zi8 e
 obtain ⟨v,ev,rv⟩:=r.get e1
 obtain ⟨u,eu,ru⟩:=r2.get e2
 refine ⟨⟨vs,us,v,u,st H x,st2 H x,r.length.symm,r2.length.symm,ev,eu⟩,fun w H' y=>?_⟩
 obtain ⟨T,v',u',rfl,hT,rfl,z1,z2⟩:=y
 have z1:=z1 vs (st H x)
 have z2:=z2 us (st2 H x)
 rw [ev] at z1; cases z1
 rw [eu] at z2; cases z2
 exact zeg hT (rv.mono (le_it x hb ha)) (ru.mono (le_it x hb ha))
theorem zja {a b:E} (ha:SndE T a) (hb:SndE T b):SndI T (.zip2 a b):=by
 intro X tg e sc O G Fnc n cls W F A σ ρ H Rq hy tk hs c I h
 obtain ⟨pg,x,y,p,rfl,c2,c3⟩:=zbo (show call2 sc "zip" e _=true from c)
 subst hs
 rw [Bool.and_eq_true] at c3
 rw [Bool.and_eq_true] at c3
 obtain ⟨⟨c3,c4⟩,c5⟩:=c3
 obtain ⟨tl,tk1,tp,rfl⟩:=zcD c5
 obtain ⟨g1,_,_⟩:=gl_of c2
 have h':PostR _ _ ((evE G Fnc a ρ).bind fun x=>(evE G Fnc b ρ).bind fun y=>zip2D x y):=h
 refine wi_of (zpb g1 (hy.blt _ (by decide)) pa_wa (zab (zaa _ _ c3)) (zao (by rw [List.all_cons,zaa _ _ c4]; rfl))) (args2 ha hb hy tk rfl c3 c4 I (h'.bind.mono (fun x hx=>hx.bind) fun _ z=>z) fun d e v u H1 H2 g g2 q=>?_)
 obtain ⟨xs,ex,q⟩:=q.get (zdP d e)
 have gt:∀ {B:Addr -> Prop},(∀ b,B b -> A b) -> ((∀ b,¬ B b) \/ bareI O (.zip2 a b)=false) -> TopOK X.K F A B H2 d v /\ TopOK X.K F A B H2 e u:=fun {B} hb hB=>by
  have hB1:(∀ b,¬ B b) \/ bareO O a=false:=hB.imp id fun z=>(Bool.or_eq_false_iff.mp z).1
  have hB2:(∀ b,¬ B b) \/ bareO O b=false:=hB.imp id fun z=>(Bool.or_eq_false_iff.mp z).2
  refine ⟨⟨hb,g.top.ext g2.ext,hB1.imp id fun z=>(g.rep z).ext g2.ext fun _ _ z=>z⟩,g2.topOK hb hB2⟩
 obtain ⟨ds,e1,ex⟩:=bind_ok (show (ltsD d).bind _=_ from ex)
 obtain ⟨es,e2,ex⟩:=bind_ok ex
 cases ex
 obtain ⟨p1,vs,rfl,hp1,l1⟩:=zdQ e1 (g.top.ext g2.ext)
 obtain ⟨p2,us,rfl,hp2,l2⟩:=zdQ e2 g2.top
 refine ⟨tB d,tB e,p1,p2,vs,us,rfl,hp1,hp2,?_⟩
 rw [l1,l2]
 refine q _ _ (g.ext.trans g2.ext) fun B hb hB=>?_
 obtain ⟨t1,t2⟩:=gt hb hB
 obtain ⟨p',vs',q1,h1,r1,st⟩:=t1.sq e1
 cases q1
 obtain ⟨p',us',q1,h1,r2,st2⟩:=t2.sq e2
 cases q1
 exact zpg hb r1 r2 st st2
theorem zcc (d:D):noExc (ltsD d):=by
 cases d <;> first | exact zad _ | (intro c z; cases z)
theorem zjb {a:E} (ha:SndE T a):SndI T (.enum a):=by
 intro X tg e sc O G Fnc n cls W F A σ ρ H Rq hy tk hs c I h
 obtain ⟨pg,x,p,rfl,c2,c3⟩:=zaM (show call1 sc "enumerate" e _=true from c)
 subst hs
 rw [Bool.and_eq_true] at c3
 obtain ⟨c3,c4⟩:=c3
 obtain ⟨tl,tk1,tp,rfl⟩:=zcD c4
 obtain ⟨g1,_,_⟩:=gl_of c2
 have h':PostR _ _ ((evE G Fnc a ρ).bind fun x=>(ltsD x).bind fun xs=>R.ok (enumD 0 xs)):=h
 refine wi_of (zmc g1 (hy.blt _ (by decide)) pa_wa (zab (zaa _ _ c3))) (args1 ha hy tk rfl c3 I (h'.bind.mono (fun d hd v H1 g=>?_) fun _ z=>z))
 obtain ⟨ds,e1,q⟩:=hd.bind.get (zcc d)
 obtain ⟨p1,vs,rfl,hp1,l1⟩:=zdQ e1 g.top
 have q:∀ J H',_:=q
 refine ⟨tB d,p1,vs,rfl,hp1,?_⟩
 rw [l1]
 refine q _ _ g.ext fun B hb hB=>?_
 obtain ⟨p',vs',q1,h1,r1,st⟩:=(g.topOK hb hB).sq e1
 cases q1
 exact zpf hb r1 st
theorem zme {a:E} (ha:SndE T a):SndI T (.rev a):=by
 intro X tg e sc O G Fnc n cls W F A σ ρ H Rq hy tk hs c I h
 obtain ⟨pg,x,p,rfl,c2,c3⟩:=zaM (show call1 sc "reversed" e _=true from c)
 subst hs
 obtain ⟨g1,_,_⟩:=gl_of c2
 have h':PostR _ _ ((evE G Fnc a ρ).bind fun x=>(ltsD x).bind fun xs=>R.ok xs.reverse):=h
 refine wi_of (RT.pi_revA g1 (hy.blt _ (by decide)) pe_we (zab (zaa _ _ c3))) (ha hy tk rfl c3 I (h'.bind.mono (fun d hd v H1 g=>?_) fun _ z=>z))
 cases d <;> (try exact (show PostR _ _ ((ltsD _).bind _) from hd).elim)
 ·have q:∀ J H',_:=hd
  obtain ⟨p1,vs,rfl,hp,r⟩:=g.top.tup
  refine ⟨p1,vs,rfl,.inr ⟨SqT.of hp,q _ _ g.ext fun B hb hB=>?_⟩⟩
  exact zpd hb r fun H2 x=>SqT.of (x _ _ hp (fun z=>by cases z))
 ·have q:∀ J H',_:=hd
  obtain ⟨p1,vs,rfl,hp,r⟩:=g.top.lst
  refine ⟨p1,vs,rfl,.inl ⟨hp,q _ _ g.ext fun B hb hB=>?_⟩⟩
  obtain ⟨p',vs',e1,h1,r1,st⟩:=(g.topOK hb hB).lst
  cases e1
  have el:vs.length=vs'.length:=by rw [<- r.length,<- r1.length]
  rw [el]
  exact zrG hb r1 st
theorem zeh {m:It} (h:∀ N T sc O tg e,chkI N T sc O m tg e=false):SndI T m:=by
 intro X tg e sc O G Fnc n cls W F A σ ρ H Rq hy tk hs c I _
 rw [h] at c; cases c
end
end L2.Pf
namespace L2.Pf
open PySem PySem.Spec PyProof.Rows
def Itz3 (K:PySem.W.Frag) (t1 t2 t3:Bool) (a b c:Addr) (n1 n2 n3:Nat):L2.It :=
 ⟨fun i H=>∃ (xs ys zs:List V) (x y z:V),SqX K t1 H a xs /\ SqX K t2 H b ys /\ SqX K t3 H c zs /\ xs.length=n1 /\ ys.length=n2 /\ zs.length=n3 /\ xs[i]?=some x /\ ys[i]?=some y /\ zs[i]?=some z,
  fun i H v H'=>∃ T x y z,v=.ref T /\ H T=none /\ H'=upd H T (.tup [x,y,z]) /\ (∀ xs,SqX K t1 H a xs -> xs[i]?=some x) /\ (∀ ys,SqX K t2 H b ys -> ys[i]?=some y) /\ ∀ zs,SqX K t3 H c zs -> zs[i]?=some z,
  fun i H=>∃ xs ys zs:List V,SqX K t1 H a xs /\ SqX K t2 H b ys /\ SqX K t3 H c zs /\ xs.length=n1 /\ ys.length=n2 /\ zs.length=n3 /\ (n1 <= i \/ n2 <= i \/ n3 <= i)⟩
theorem zjc {P:Program} {w:World} {K:PySem.W.Frag} {elts:List Expr} {kk:Nat} {tpos:Pos} {a b d z TI TO i1 i2 i3:Addr} {t1 t2 t3:Bool} {n1 n2 n3:Nat} (S:ZipSep3 z TI TO i1 i2 i3 [i1,a] [i2,b] [i3,d]) (l1:a ≠ i1) (l2:b ≠ i2) (l3:d ≠ i3) :
  Turn P w K (.Tuple elts kk tpos) (Itz3 K t1 t2 t3 a b d n1 n2 n3) [z,TI,TO,i1,i2,i3] z (fun i h=>IsZip h z TI TO .none /\ IsTupOf3 h TI (.ref i1) (.ref i2) (.ref i3) /\ (∃ x y u,IsTupOf3 h TO x y u) /\ itX t1 h i1 a i /\ itX t2 h i2 b i /\ itX t3 h i3 d i /\ i <= n1 /\ i <= n2 /\ i <= n3) where
 mem:=by simp
 obj:=fun i h st c hc=>by
  obtain ⟨hz,hTI,⟨x,y,u,hTO⟩,h1,h2,h3,_⟩:=st
  have e':c=z \/ c=TI \/ c=TO \/ c=i1 \/ c=i2 \/ c=i3:=by simpa using hc
  rcases e' with q | q | q | q | q | q
  ·rw [q]; exact ⟨_,hz,fun v q=>nomatch q⟩
  ·rw [q]; exact ⟨_,hTI,fun v q=>nomatch q⟩
  ·rw [q]; exact ⟨_,hTO,fun v q=>nomatch q⟩
  ·rw [q]; exact zaB h1
  ·rw [q]; exact zaB h2
  ·rw [q]; exact zaB h3
 keep:=fun i h h' st k=>by
  obtain ⟨hz,hTI,⟨x,y,u,hTO⟩,h1,h2,h3,b1,b2,b3⟩:=st
  exact ⟨k z (by simp) _ hz,k TI (by simp) _ hTI,⟨x,y,u,k TO (by simp) _ hTO⟩,zby h1 fun o q=>k i1 (by simp) o q,zby h2 fun o q=>k i2 (by simp) o q,zby h3 fun o q=>k i3 (by simp) o q,b1,b2,b3⟩
 item:=by
  intro X hP hw hK hc i pins s σ H E I hf st hg
  subst hP hw hK
  obtain ⟨hz,hTI,⟨x0,y0,u0,hTO⟩,h1,h2,h3,_,_,_⟩:=st
  obtain ⟨xs,ys,zs,x,y,z',hqx,hqy,hqz,en1,en2,en3,hx,hy,hzz⟩:=hg
  obtain ⟨its,rv,p⟩:=zax I hqx
  obtain ⟨its2,rv2,p2⟩:=zax I hqy
  obtain ⟨its3,rv3,p3⟩:=zax I hqz
  obtain ⟨u,hu,ru⟩:=rv.get hx
  obtain ⟨u2,hu2,ru2⟩:=rv2.get hy
  obtain ⟨u3,hu3,ru3⟩:=rv3.get hzz
  have hzl:z < s.heap.objs.size:=Heap.lt_size hz
  have hi1:=(List.getElem?_eq_some_iff.mp hx).1
  have hi2:=(List.getElem?_eq_some_iff.mp hy).1
  have hi3:=(List.getElem?_eq_some_iff.mp hzz).1
  have e1:=rv.length
  have e2:=rv2.length
  have e3:=rv3.length
  have hd:X.A.in1.handled=none:=I.ok.hd hc
  have D1:=drX (prog:=X.prog) (w:=X.w) t1 hd i1 a l1 its.toArray
  have D2:=drX (prog:=X.prog) (w:=X.w) t2 hd i2 b l2 its2.toArray
  have D3:=drX (prog:=X.prog) (w:=X.w) t3 hd i3 d l3 its3.toArray
  refine wpAny_pyNext_zipD3_item S D1 D2 D3 hz hTI hTO ⟨h1,p⟩ ⟨h2,p2⟩ ⟨h3,p3⟩ (by rw [List.size_toArray]; omega) (by rw [List.size_toArray]; omega) (by rw [List.size_toArray]; omega) fun x1 x2 x3 h' tk f1 f2 f3 zz TO' st1 st2 st3 hT hsz hk=>?_
  have ex1:x1=u:=by
   have f1:its.toArray[i]?=some x1:=f1
   rw [List.getElem?_toArray,hu] at f1; cases f1; rfl
  have ex2:x2=u2:=by
   have f2:its2.toArray[i]?=some x2:=f2
   rw [List.getElem?_toArray,hu2] at f2; cases f2; rfl
  have ex3:x3=u3:=by
   have f3:its3.toArray[i]?=some x3:=f3
   rw [List.getElem?_toArray,hu3] at f3; cases f3; rfl
  subst ex1 ex2 ex3
  refine ⟨_,rfl,wpAny_letOwnedTupleGo_zip (s:={ s with heap:=h',toks:=tk }) zz fun h'' z'' sb=>?_⟩
  have hT2:h''.get? s.heap.objs.size=some { cls:=.type "tuple",data:=.seq #[x1,x2,x3] }:=(sb.2 _ (Nat.ne_of_gt hzl)).trans hT
  have new:ObjOk X.prog X.w (upd H s.heap.objs.size (.tup [x,y,z'])) h'' s.heap.objs.size (.tup [x,y,z']) :=
   ⟨by show 3 <= sizeLine; decide,[x1,x2,x3],.cons ru (.cons ru2 (.cons ru3 .nil)),⟨_,hT2,rfl,_,rfl⟩⟩
  have I1:Inv X pins σ (upd H s.heap.objs.size (.tup [x,y,z'])) { s with heap:=h'',toks:=tk } :=
   I.turnedNew (t':=tk) (ch:=[z,TI,TO,i1,i2,i3]) (fun c o hb q=>(sb.2 c (fun q'=>hb (by simp [q']))).trans (hk c o (fun q'=>hb (by simp [q'])) (fun q'=>hb (by simp [q'])) (fun q'=>hb (by simp [q'])) (fun q'=>hb (by simp [q'])) (fun q'=>hb (by simp [q'])) q)) hf (Nat.le_refl _) new
  refine ⟨.ref s.heap.objs.size,_,I1,rfl,⟨_,x,y,z',rfl,I.hok.fresh (Nat.le_refl _),rfl,fun l hl=>by rw [zbT I hl hqx]; exact hx,fun l hl=>by rw [zbT I hl hqy]; exact hy,fun l hl=>by rw [zbT I hl hqz]; exact hzz⟩,⟨z'',?_,⟨x1,x2,x3,?_⟩,?_,?_,?_,by omega,by omega,by omega⟩,fun c hcm=>?_⟩
  ·exact (sb.2 _ S.TIz).trans (hk _ _ S.TIz S.TITO S.TIi1 S.TIi2 S.TIi3 hTI)
  ·exact (sb.2 _ S.TOz).trans TO'
  ·exact zby st1.1 fun o q=>(sb.2 _ (Ne.symm S.zi1)).trans q
  ·exact zby st2.1 fun o q=>(sb.2 _ (Ne.symm S.zi2)).trans q
  ·exact zby st3.1 fun o q=>(sb.2 _ (Ne.symm S.zi3)).trans q
  ·have hlt:c < s.heap.objs.size:=by
    have e':c=z \/ c=TI \/ c=TO \/ c=i1 \/ c=i2 \/ c=i3:=by simpa using hcm
    rcases e' with q | q | q | q | q | q
    ·rw [q]; exact hzl
    ·rw [q]; exact Heap.lt_size hTI
    ·rw [q]; exact Heap.lt_size hTO
    ·rw [q]; obtain ⟨_,e1,_⟩:=zaB h1; exact Heap.lt_size e1
    ·rw [q]; obtain ⟨_,e2,_⟩:=zaB h2; exact Heap.lt_size e2
    ·rw [q]; obtain ⟨_,e3,_⟩:=zaB h3; exact Heap.lt_size e3
   rw [upd_ne (Nat.ne_of_lt hlt)]
   exact (hf c hcm).1
 done:=by
  intro X hP hw hK hc i pins s σ H E I hf st hg
  subst hP hw hK
  obtain ⟨hz,hTI,⟨x0,y0,u0,hTO⟩,h1,h2,h3,b1,b2,b3⟩:=st
  obtain ⟨xs,ys,zs,hqx,hqy,hqz,en1,en2,en3,hend⟩:=hg
  obtain ⟨its,rv,p⟩:=zax I hqx
  obtain ⟨its2,rv2,p2⟩:=zax I hqy
  obtain ⟨its3,rv3,p3⟩:=zax I hqz
  have e1:=rv.length
  have e2:=rv2.length
  have e3:=rv3.length
  have hd:X.A.in1.handled=none:=I.ok.hd hc
  have D1:=drX (prog:=X.prog) (w:=X.w) t1 hd i1 a l1 its.toArray
  have D2:=drX (prog:=X.prog) (w:=X.w) t2 hd i2 b l2 its2.toArray
  have D3:=drX (prog:=X.prog) (w:=X.w) t3 hd i3 d l3 its3.toArray
  refine wpAny_pyNext_zipD3_end S D1 D2 D3 hz hTI hTO ⟨h1,p⟩ ⟨h2,p2⟩ ⟨h3,p3⟩ (by rw [List.size_toArray]; omega) (by rw [List.size_toArray]; omega) (by rw [List.size_toArray]; omega) (by rw [List.size_toArray,List.size_toArray,List.size_toArray]; omega) fun h' tk hk=>?_
  exact ⟨rfl,I.turnedL (t':=tk) (ch:=[z,TI,TO,i1,i2,i3]) (fun c o hb q =>
   hk c o (fun q'=>hb (by simp [q'])) (fun q'=>hb (by simp [q'])) (fun q'=>hb (by simp [q'])) (fun q'=>hb (by simp [q'])) (fun q'=>hb (by simp [q'])) q) hf⟩
 self:=fun A i s Q E st h=>wpAny_pyIter_zip st.1 h
def iZip3 (K:PySem.W.Frag) (ta:TA):TI:=fun σ H R=>ta σ H fun vs H1=>∃ t1 t2 t3 a b c xs ys zs,vs=[.ref a,.ref b,.ref c] /\ SqX K t1 H1 a xs /\ SqX K t2 H1 b ys /\ SqX K t3 H1 c zs /\ R (Itz3 K t1 t2 t3 a b c xs.length ys.length zs.length) H1
theorem zph {X:Cx} {e e2 e3:Expr} {ta:TA} {p pos tpos:Pos} {elts:List Expr} {kk:Nat} (hg:Gl X "zip") (hm:X.mg "zip"=none) (ha:PA X [e,e2,e3] ta)
  (hs:starEach [e,e2,e3] X.env=(false,eval e X.env) :: starEach [e2,e3] X.env:=by rfl) (hpl:(backTo pos (starEach [e2,e3] X.env)).any (·.1)=false:=by rfl) :
  PI X (.Tuple elts kk tpos) (.Call (.Name "zip" p) [e,e2,e3] [] pos) (iZip3 X.K ta):=by
 refine ⟨fun pins s σ H R I h=>?_⟩
 refine Call_ (ld_blt I hg hm PyProof.Rows.boot_zip (PyProof.Rows.callWith_type1 (thn (ha.run pos pins s σ H _ I h) fun us s1 ⟨vs,H1,I1,r1,q1⟩=>?_) hs hpl))
 obtain ⟨t1,t2,t3,a,b,d,xs,ys,zs,ex,hqx,hqy,hqz,q⟩:=q1
 subst ex
 cases r1 with
 | cons r rr =>
  cases rr with
  | cons r' rr =>
   cases rr with
   | cons r'' rr =>
    cases rr
    cases r
    cases r'
    cases r''
    have fresh6:∀ c,c ∈ [s1.heap.objs.size+5,s1.heap.objs.size+3,s1.heap.objs.size+4,s1.heap.objs.size,s1.heap.objs.size+1,s1.heap.objs.size+2] -> FpOk X pins H1 c:=fun c hcm=>by
     have e':c=s1.heap.objs.size+5 \/ c=s1.heap.objs.size+3 \/ c=s1.heap.objs.size+4 \/ c=s1.heap.objs.size \/ c=s1.heap.objs.size+1 \/ c=s1.heap.objs.size+2:=by simpa using hcm
     have hle:s1.heap.objs.size <= c:=by
      rcases e' with z | z | z | z | z | z
      ·rw [z]; exact Nat.le_add_right _ _
      ·rw [z]; exact Nat.le_add_right _ _
      ·rw [z]; exact Nat.le_add_right _ _
      ·rw [z]; exact Nat.le_refl _
      ·rw [z]; exact Nat.le_add_right _ _
      ·rw [z]; exact Nat.le_add_right _ _
     exact I1.fpOk hle (I1.hok.fresh hle)
    obtain ⟨its,rv,p1⟩:=zax I1 hqx
    obtain ⟨its2,rv2,p2⟩:=zax I1 hqy
    obtain ⟨its3,rv3,p3⟩:=zax I1 hqz
    have la:a < s1.heap.objs.size:=zcT p1
    have lb:b < s1.heap.objs.size:=zcT p2
    have ld:d < s1.heap.objs.size:=zcT p3
    refine zip_begins3 (bgX t1 a its.toArray) (bgX t2 b its2.toArray) (bgX t3 d its3.toArray) p1 p2 p3 fun h' hz hTI hTO h1 h2 h3 hsz hk=>wpAny_pyIter_zip hz ?_
    have I2:Inv X pins σ H1 { s1 with heap:=h' }:=I1.kept (t':=s1.toks) hk
    have S:=zip_sep3 (N:=s1.heap.objs.size) (fp1:=[a]) (fp2:=[b]) (fp3:=[d]) (fun x hx=>by rw [List.mem_singleton.mp hx]; exact la) (fun x hx=>by rw [List.mem_singleton.mp hx]; exact lb) (fun x hx=>by rw [List.mem_singleton.mp hx]; exact ld)
    exact ⟨s1.heap.objs.size+5,[s1.heap.objs.size+5,s1.heap.objs.size+3,s1.heap.objs.size+4,s1.heap.objs.size,s1.heap.objs.size+1,s1.heap.objs.size+2],_,_,H1,rfl,I2,zjc S (Nat.ne_of_lt la) (Nat.ne_of_lt (Nat.lt_add_right 1 lb)) (Nat.ne_of_lt (Nat.lt_add_right 2 ld)),⟨hz,hTI,⟨_,_,_,hTO⟩,zbA h1,zbA h2,zbA h3,Nat.zero_le _,Nat.zero_le _,Nat.zero_le _⟩,fresh6,q⟩
theorem zgV:∀ {xs ys zs:List D} {i:Nat} {d:D},(zip3D xs ys zs)[i]?=some d -> ∃ x y z,d=.tup [x,y,z] /\ xs[i]?=some x /\ ys[i]?=some y /\ zs[i]?=some z
 | [],_,_,_,_,e=>by simp [zip3D] at e
 | _ :: _,[],_,_,_,e=>by simp [zip3D] at e
 | _ :: _,_ :: _,[],_,_,e=>by simp [zip3D] at e
 | x :: xs,y :: ys,z :: zs,0,d,e=>by simp [zip3D] at e; exact ⟨x,y,z,e.symm,rfl,rfl,rfl⟩
 | x :: xs,y :: ys,z :: zs,i+1,d,e=>by
  obtain ⟨a,b,c,h1,h2,h3,h4⟩:=zgV (xs:=xs) (ys:=ys) (zs:=zs) (i:=i) (d:=d) (by simpa [zip3D] using e)
  exact ⟨a,b,c,h1,by simpa using h2,by simpa using h3,by simpa using h4⟩
theorem zgW:∀ (xs ys zs:List D),(zip3D xs ys zs).length=min xs.length (min ys.length zs.length)
 | [],_,_=>by simp [zip3D]
 | _ :: _,[],_=>by simp [zip3D]
 | _ :: _,_ :: _,[]=>by simp [zip3D]
 | x :: xs,y :: ys,z :: zs=>by
  have:=zgW xs ys zs
  simp only [zip3D,List.length_cons]
  omega
theorem zpi {K:PySem.W.Frag} {F:Fx} {A B:Addr -> Prop} {H1:Hp} {t1 t2 t3:Bool} {a b c:Addr} {ds es fs:List D} {vs us ws:List V} (hb:∀ b,B b -> A b) (r:Reps K H1 (PPa F A) ds vs) (r2:Reps K H1 (PPa F A) es us) (r3:Reps K H1 (PPa F A) fs ws) (st:∀ H,Ext B H1 H -> SqX K t1 H a vs) (st2:∀ H,Ext B H1 H -> SqX K t2 H b us) (st3:∀ H,Ext B H1 H -> SqX K t3 H c ws) :
  ItOK K F A B H1 (Itz3 K t1 t2 t3 a b c ds.length es.length fs.length) (zip3D ds es fs):=by
 refine ⟨fun H A' x ha i d e=>?_,fun H x i hi=>⟨vs,us,ws,st H x,st2 H x,st3 H x,r.length.symm,r2.length.symm,r3.length.symm,by rw [zgW] at hi; omega⟩⟩
 obtain ⟨x1,y1,q1,rfl,e1,e2,e3⟩:=zgV e
 obtain ⟨v,ev,rv⟩:=r.get e1
 obtain ⟨u,eu,ru⟩:=r2.get e2
 obtain ⟨w,ew,rw'⟩:=r3.get e3
 refine ⟨⟨vs,us,ws,v,u,w,st H x,st2 H x,st3 H x,r.length.symm,r2.length.symm,r3.length.symm,ev,eu,ew⟩,fun q H' y=>?_⟩
 obtain ⟨T,v',u',w',rfl,hT,rfl,z1,z2,z3⟩:=y
 have z1:=z1 vs (st H x)
 have z2:=z2 us (st2 H x)
 have z3:=z3 ws (st3 H x)
 rw [ev] at z1; cases z1
 rw [eu] at z2; cases z2
 rw [ew] at z3; cases z3
 have rr:Reps K H (PPa F A') [x1,y1,q1] [v,u,w]:=.cons (rv.mono (le_it x hb ha)) (.cons (ru.mono (le_it x hb ha)) (.cons (rw'.mono (le_it x hb ha)) .nil))
 exact ⟨Ext.new hT,.tup upd_same ((rr.new hT).weak fun _ z=>z.1)⟩
theorem zhG (x y z:D):noExc ((ltsD x).bind fun xs=>(ltsD y).bind fun ys=>(ltsD z).bind fun zs=>R.ok (zip3D xs ys zs)):=zag (zcc x) fun _=>zag (zcc y) fun _=>zag (zcc z) fun _=>zad _
section
variable {T:List Def}
theorem zjd {a b d:E} (ha:SndE T a) (hb:SndE T b) (hd:SndE T d):SndI T (.zip3 a b d):=by
 intro X tg e sc O G Fnc n cls W F A σ ρ H Rq hy tk hs c I h
 obtain ⟨pg,x,y,y2,p,rfl,c2,c3⟩:=zee (show call3 sc "zip" e _=true from c)
 subst hs
 rw [Bool.and_eq_true,Bool.and_eq_true,Bool.and_eq_true] at c3
 obtain ⟨⟨⟨c3,c4⟩,c6⟩,c5⟩:=c3
 obtain ⟨tl,tk1,tp,rfl⟩:=zcD c5
 obtain ⟨g1,_,_⟩:=gl_of c2
 have h':PostR _ _ ((evE G Fnc a ρ).bind fun x=>(evE G Fnc b ρ).bind fun y=>(evE G Fnc d ρ).bind fun z=>(ltsD x).bind fun xs=>(ltsD y).bind fun ys=>(ltsD z).bind fun zs=>R.ok (zip3D xs ys zs)):=h
 refine wi_of (zph g1 (hy.blt _ (by decide)) pa_wa (zab (zaa _ _ c3)) (zao (by rw [List.all_cons,List.all_cons,zaa _ _ c4,zaa _ _ c6]; rfl))) ?_
 refine wa_of (pa_cons pe_we pa_wa (zab (zaa _ _ c3))) (ha hy tk rfl c3 I (h'.bind.mono (fun d1 q1 v H1 g=>?_) fun _ z=>z))
 refine wa_of (pa_cons pe_we pa_wa (zab (zaa _ _ c4))) (hb hy tk rfl c4 (I.step g.ext) (q1.bind.mono (fun d2 q2 u H2 g2=>?_) fun _ z=>ExW.step z g.ext))
 refine wa_of (pa_cons pe_we pa_nil (zab (zaa _ _ c6))) (hd hy tk rfl c6 ((I.step g.ext).step g2.ext) (q2.bind.mono (fun d3 q3 w H3 g3=>?_) fun _ z=>ExW.step (ExW.step z g.ext) g2.ext))
 obtain ⟨xs,ex,q⟩:=q3.get (zhG d1 d2 d3)
 have gt:∀ {B:Addr -> Prop},(∀ b,B b -> A b) -> ((∀ b,¬ B b) \/ bareI O (.zip3 a b d)=false) -> TopOK X.K F A B H3 d1 v /\ TopOK X.K F A B H3 d2 u /\ TopOK X.K F A B H3 d3 w:=fun {B} hb hB=>by
  have hB':(∀ b,¬ B b) \/ (bareO O a=false /\ bareO O b=false /\ bareO O d=false):=hB.imp id fun z=>by
   have z:(bareO O a || bareO O b || bareO O d)=false:=z
   rw [Bool.or_eq_false_iff,Bool.or_eq_false_iff] at z
   exact ⟨z.1.1,z.1.2,z.2⟩
  have hB1:(∀ b,¬ B b) \/ bareO O a=false:=hB'.imp id fun z=>z.1
  have hB2:(∀ b,¬ B b) \/ bareO O b=false:=hB'.imp id fun z=>z.2.1
  have hB3:(∀ b,¬ B b) \/ bareO O d=false:=hB'.imp id fun z=>z.2.2
  refine ⟨⟨hb,(g.top.ext g2.ext).ext g3.ext,hB1.imp id fun z=>((g.rep z).ext g2.ext fun _ _ z=>z).ext g3.ext fun _ _ z=>z⟩,⟨hb,g2.top.ext g3.ext,hB2.imp id fun z=>(g2.rep z).ext g3.ext fun _ _ z=>z⟩,g3.topOK hb hB3⟩
 obtain ⟨ds,e1,ex⟩:=bind_ok (show (ltsD d1).bind _=_ from ex)
 obtain ⟨es,e2,ex⟩:=bind_ok ex
 obtain ⟨fs,e3,ex⟩:=bind_ok ex
 cases ex
 obtain ⟨p1,vs,rfl,hp1,l1⟩:=zdQ e1 ((g.top.ext g2.ext).ext g3.ext)
 obtain ⟨p2,us,rfl,hp2,l2⟩:=zdQ e2 (g2.top.ext g3.ext)
 obtain ⟨p3,ws,rfl,hp3,l3⟩:=zdQ e3 g3.top
 refine ⟨tB d1,tB d2,tB d3,p1,p2,p3,vs,us,ws,rfl,hp1,hp2,hp3,?_⟩
 rw [l1,l2,l3]
 refine q _ _ ((g.ext.trans g2.ext).trans g3.ext) fun B hb hB=>?_
 obtain ⟨t1,t2,t3⟩:=gt hb hB
 obtain ⟨p',vs',q1,h1,r1,st⟩:=t1.sq e1
 cases q1
 obtain ⟨p',us',q1,h1,r2,st2⟩:=t2.sq e2
 cases q1
 obtain ⟨p',ws',q1,h1,r3,st3⟩:=t3.sq e3
 cases q1
 exact zpi hb r1 r2 r3 st st2 st3
end
end L2.Pf
namespace L2.Pf
open PySem PySem.Spec PyProof.Rows
theorem R.assoc {α β γ:Type} (r:R α) (f:α -> R β) (g:β -> R γ):(r.bind f).bind g=r.bind fun x=>(f x).bind g:=by cases r <;> rfl
def WW (X:Cx) (e:Expr):TT:=fun σ H Q=>∀ (whole:Sem Value) (pins:List (Addr × Obj)) (s:Shared),Inv X pins σ H s -> wpAny (model X.prog X.w) X.A (isTrue e X.env whole) (TP X pins σ Q) X.xe s
theorem pw_ww {X:Cx} {e:Expr}:PW X e (WW X e):=⟨fun wh pins s σ H Q I h=>h wh pins s I⟩
theorem ww_of {X:Cx} {e:Expr} {t:TT} {σ:St} {H:Hp} {Q:Bool -> Hp -> Prop} (h:PW X e t) (q:t σ H Q):WW X e σ H Q:=fun wh pins s I=>h.run wh pins s σ H Q I q
section
variable (T:List Def)
def SndT (m:E):Prop:=∀ {X:Cx} {e:Expr} {sc:Scope} {O:List Nat} {G:Str -> Option D} {Fnc:Fn} {n:Nat} {cls:Str -> Option Addr} {W:WX} {F:Fx} {A:Addr -> Prop} {σ:St} {ρ:Env} {H:Hp} {Q:Bool -> Hp -> Prop},
 Hy X T G Fnc n cls -> Takes X W -> X.env.scope=sc -> chkE X.N T sc O m e=true -> EnvR X.K F O A σ ρ H →
 PostR (fun b=>∀ H',Ext Nix H H' -> Q b H') (ExW cls W σ H) ((evE G Fnc m ρ).bind zac) -> WT X e σ H Q
def SndTs (m:Es):Prop:=∀ {X:Cx} {e:List Expr} {pos:Pos} {sc:Scope} {O:List Nat} {G:Str -> Option D} {Fnc:Fn} {n:Nat} {cls:Str -> Option Addr} {W:WX} {F:Fx} {A:Addr -> Prop} {σ:St} {ρ:Env} {H:Hp} {Q:Bool -> Hp -> Prop},
 Hy X T G Fnc n cls -> Takes X W -> X.env.scope=sc -> chkEs X.N T sc O m e=true -> EnvR X.K F O A σ ρ H →
 (PostR (fun b=>∀ H',Ext Nix H H' -> Q b H') (ExW cls W σ H) ((evAnd G Fnc m ρ).bind zac) -> WW X (.BoolOp .And e pos) σ H Q) ∧
 (PostR (fun b=>∀ H',Ext Nix H H' -> Q b H') (ExW cls W σ H) ((evOr G Fnc m ρ).bind zac) -> WW X (.BoolOp .Or e pos) σ H Q)
end
section
variable {T:List Def}
theorem zhH {m:E} (h:SndE T m) (hp:∀ N sc O e,chkE N T sc O m e=true -> ∀ (env:PySem.Env) (whole:Sem Value),isTrue e env whole=(do let v <- whole; standAt e.pos; holding [v] (truthy v))):SndT T m:=by
 intro X e sc O G Fnc n cls W F A σ ρ H Q hy tk hs c I q
 refine wt_of (pt_truth pe_we (hp _ _ _ _ c X.env)) (h hy tk hs c I (q.bind.mono (fun d hd v H1 g=>?_) fun _ z=>z))
 obtain ⟨b,eb,q⟩:=hd.get (zau d)
 exact ⟨b,zaY g.top eb,q _ g.ext⟩
theorem zmf {a:E} (ha:SndT T a):SndT T (.not a):=by
 intro X e sc O G Fnc n cls W F A σ ρ H Q hy tk hs c I h
 cases e <;> (try (simp [chkE] at c; done))
 rename_i o x p
 cases o <;> (try (simp [chkE] at c; done))
 rw [chkE] at c
 refine wt_of (pt_not pt_wt) (ha hy tk hs c I ?_)
 have h':PostR _ _ (((evE G Fnc a ρ).bind fun x=>(zac x).bind fun b=>R.ok (D.bl (!b))).bind zac):=h
 rw [R.assoc] at h'
 cases ea:evE G Fnc a ρ with
 | bad=>rw [ea] at h'; exact h'.elim
 | exc cc=>rw [ea] at h'; exact h'
 | ok d =>
  rw [ea] at h'
  cases et:zac d with
  | bad =>
   have h2:PostR _ _ (((zac d).bind fun b=>R.ok (D.bl (!b))).bind zac):=h'
   rw [et] at h2; exact h2.elim
  | exc cc=>exact absurd et (zau d cc)
  | ok b =>
   have h2:PostR _ _ (((zac d).bind fun b=>R.ok (D.bl (!b))).bind zac):=h'
   rw [et] at h2
   show PostR _ _ (zac d)
   rw [et]
   exact h2
theorem zmg {op:COp} {a b:E} (ha:SndE T a) (hb:SndE T b):SndT T (.cmp op a b):=by
 intro X e sc O G Fnc n cls W F A σ ρ H Q hy tk hs c I h
 cases e <;> (try (simp [chkE] at c; done))
 rename_i x os ys p
 match os,ys,c with
 | [o],[y],c =>
  rw [chkE,Bool.and_eq_true,Bool.and_eq_true,Bool.and_eq_true] at c
  obtain ⟨⟨⟨c1,c4⟩,c2⟩,c3⟩:=c
  have:=zas c1
  subst this
  have h':PostR _ _ (((evE G Fnc a ρ).bind fun x=>(evE G Fnc b ρ).bind fun y=>(dCmp op x y).bind fun c=>R.ok (D.bl c)).bind zac):=h
  rw [R.assoc] at h'
  refine wt_of (pt_cmpR op_om pe_we pe_we (zaS c4)) (zaV (exc:=ExW cls W σ H) ha hb hy tk hs c2 c3 I (fun _ z=>z) (h'.bind.mono (fun x hx=>(show PostR _ _ ((evE G Fnc b ρ).bind fun y=>((dCmp op x y).bind fun c=>R.ok (D.bl c)).bind zac) from (R.assoc _ _ _) ▸ hx).bind) fun _ z=>z) fun x y v u H2 e2 I2 rx ry _ q=>?_)
  have q':PostR (fun b=>∀ H',Ext Nix H H' -> Q b H') (ExW cls W σ H) (((dCmp op x y).bind fun c=>R.ok (D.bl c)).bind zac):=q
  rw [R.assoc] at q'
  obtain ⟨d,ed,q⟩:=q'.bind.get (zaA op x y)
  exact za9 hy.hu rx ry ed ⟨d,rfl,q _ e2⟩
theorem zhI {op pp:COp} {a b d:E} (h:SndE T (.chain op pp a b d)) (ha:SndE T a) (hb:SndE T b) (hd:SndE T d):SndT T (.chain op pp a b d):=by
 intro X e sc O G Fnc n cls W F A σ ρ H Q hy tk hs c I h
 cases e <;> (try (simp [chkE] at c; done))
 rename_i x os ys p
 match os,ys,c with
 | [o1,p1],[y,z],c =>
  rw [chkE,Bool.and_eq_true,Bool.and_eq_true,Bool.and_eq_true,Bool.and_eq_true,Bool.and_eq_true] at c
  obtain ⟨⟨⟨⟨⟨c1,c2⟩,c3⟩,c4⟩,c5⟩,c6⟩:=c
  have:=zas c1
  subst this
  have:=zas c2
  subst this
  have h':PostR _ _ (((evE G Fnc a ρ).bind fun x=>(evE G Fnc b ρ).bind fun y=>(dCmp op x y).bind fun k =>
   if k=true then (evE G Fnc d ρ).bind fun z=>(dCmp pp y z).bind fun k=>R.ok (D.bl k) else R.ok (D.bl false)).bind zac):=h
  rw [R.assoc] at h'
  refine wt_of (pt_chain op_om op_om pe_we pe_we pe_we (show behindInMarks _ z=false from zaS c3)) (zaV (exc:=ExW cls W σ H) ha hb hy tk hs c4 c5 I (fun _ z=>z) (h'.bind.mono (fun x hx=>(show PostR _ _ ((evE G Fnc b ρ).bind fun y=>((dCmp op x y).bind fun k =>
   if k=true then (evE G Fnc d ρ).bind fun z=>(dCmp pp y z).bind fun k=>R.ok (D.bl k) else R.ok (D.bl false)).bind zac) from (R.assoc _ _ _) ▸ hx).bind) fun _ z=>z) fun x y v u H2 e2 I2 rx ry _ q=>?_)
  have q':PostR (fun b=>∀ H',Ext Nix H H' -> Q b H') (ExW cls W σ H) (((dCmp op x y).bind fun k =>
   if k=true then (evE G Fnc d ρ).bind fun z=>(dCmp pp y z).bind fun k=>R.ok (D.bl k) else R.ok (D.bl false)).bind zac):=q
  rw [R.assoc] at q'
  obtain ⟨k,ek,q⟩:=q'.bind.get (zaA op x y)
  refine za9 hy.hu rx ry ek ⟨k,rfl,?_⟩
  cases k with
  | true =>
   rw [if_pos rfl] at q ⊢
   rw [R.assoc] at q
   refine hd hy tk hs c6 I2 (q.bind.mono (fun z hz w H3 g=>?_) fun c hc=>ExW.step hc e2)
   rw [R.assoc] at hz
   obtain ⟨k2,ek2,q2⟩:=hz.bind.get (zaA pp y z)
   exact za9 hy.hu (ry.ext g.ext) g.top ek2 ⟨k2,rfl,q2 _ (e2.trans g.ext)⟩
  | false =>
   rw [if_neg Bool.false_ne_true] at q ⊢
   exact ⟨false,rfl,q _ e2⟩
theorem zpj:SndTs T .nil:=by
 intro X e pos sc O G Fnc n cls W F A σ ρ H Q hy tk hs c I
 exact ⟨fun h=>h.elim,fun h=>h.elim⟩
theorem zmh {a:E} {r:Es} (ha:SndT T a) (hr:SndTs T r):SndTs T (.cons a r):=by
 intro X e pos sc O G Fnc n cls W F A σ ρ H Q hy tk hs c I
 cases e <;> (try (simp [chkEs] at c; done))
 rename_i x xs
 rw [chkEs,Bool.and_eq_true] at c
 cases r with
 | nil =>
  cases xs <;> (try (simp [chkEs] at c; done))
  exact ⟨fun h=>ww_of (pw_and1 pt_wt) (ha hy tk hs c.1 I h),fun h=>ww_of (pw_or1 pt_wt) (ha hy tk hs c.1 I h)⟩
 | cons f r =>
  cases xs <;> (try (simp [chkEs] at c; done))
  rename_i y ys
  refine ⟨fun h=>?_,fun h=>?_⟩
  ·have h':PostR _ _ (((evE G Fnc a ρ).bind fun x=>(zac x).bind fun c=>if c=true then evAnd G Fnc (.cons f r) ρ else R.ok x).bind zac):=h
   refine ww_of (pw_and pt_wt pw_ww) (ha hy tk hs c.1 I ?_)
   cases ea:evE G Fnc a ρ with
   | bad=>rw [ea] at h'; exact h'.elim
   | exc cc=>rw [ea] at h'; exact h'
   | ok d =>
    rw [ea] at h'
    have h2:PostR (fun b=>∀ H',Ext Nix H H' -> Q b H') (ExW cls W σ H) (((zac d).bind fun c=>if c=true then evAnd G Fnc (.cons f r) ρ else R.ok d).bind zac):=h'
    show PostR _ _ (zac d)
    cases et:zac d with
    | bad=>rw [et] at h2; exact h2.elim
    | exc cc=>exact absurd et (zau d cc)
    | ok b =>
     rw [et] at h2
     refine PostR.of fun H1 x1=>?_
     cases b with
     | true =>
      rw [if_pos rfl]
      exact (hr hy tk hs c.2 (I.step x1)).1 ((show PostR _ _ ((evAnd G Fnc (.cons f r) ρ).bind zac) from h2).mono (fun b q H' x=>q H' (x1.trans x)) fun c hc=>ExW.step hc x1)
     | false =>
      rw [if_neg Bool.false_ne_true]
      have h3:PostR (fun b=>∀ H',Ext Nix H H' -> Q b H') (ExW cls W σ H) (zac d):=h2
      rw [et] at h3
      exact h3 _ x1
  ·have h':PostR _ _ (((evE G Fnc a ρ).bind fun x=>(zac x).bind fun c=>if c=true then R.ok x else evOr G Fnc (.cons f r) ρ).bind zac):=h
   refine ww_of (pw_or pt_wt pw_ww) (ha hy tk hs c.1 I ?_)
   cases ea:evE G Fnc a ρ with
   | bad=>rw [ea] at h'; exact h'.elim
   | exc cc=>rw [ea] at h'; exact h'
   | ok d =>
    rw [ea] at h'
    have h2:PostR (fun b=>∀ H',Ext Nix H H' -> Q b H') (ExW cls W σ H) (((zac d).bind fun c=>if c=true then R.ok d else evOr G Fnc (.cons f r) ρ).bind zac):=h'
    show PostR _ _ (zac d)
    cases et:zac d with
    | bad=>rw [et] at h2; exact h2.elim
    | exc cc=>exact absurd et (zau d cc)
    | ok b =>
     rw [et] at h2
     refine PostR.of fun H1 x1=>?_
     cases b with
     | false =>
      rw [if_neg Bool.false_ne_true]
      exact (hr hy tk hs c.2 (I.step x1)).2 ((show PostR _ _ ((evOr G Fnc (.cons f r) ρ).bind zac) from h2).mono (fun b q H' x=>q H' (x1.trans x)) fun c hc=>ExW.step hc x1)
     | true =>
      rw [if_pos rfl]
      have h3:PostR (fun b=>∀ H',Ext Nix H H' -> Q b H') (ExW cls W σ H) (zac d):=h2
      rw [et] at h3
      exact h3 _ x1
theorem zmi {es:Es} (h1:SndTs T es):SndT T (.and es):=by
 intro X e sc O G Fnc n cls W F A σ ρ H Q hy tk hs c I h
 cases e <;> (try (simp [chkE] at c; done))
 rename_i o xs p
 cases o <;> (try (simp [chkE] at c; done))
 rw [chkE,Bool.and_eq_true] at c
 exact fun pins s I0=>(h1 hy tk hs c.1 I).1 h _ pins s I0
theorem zpk {es:Es} (h1:SndTs T es):SndT T (.or es):=by
 intro X e sc O G Fnc n cls W F A σ ρ H Q hy tk hs c I h
 cases e <;> (try (simp [chkE] at c; done))
 rename_i o xs p
 cases o <;> (try (simp [chkE] at c; done))
 rw [chkE,Bool.and_eq_true] at c
 exact fun pins s I0=>(h1 hy tk hs c.1 I).2 h _ pins s I0
end
end L2.Pf
namespace L2.Pf
open PySem PySem.Spec PyProof.Rows
def gMany:List Nat -> TGs
 | []=>gNil | i :: is=>gCons (gName i) (gMany is)
def gMix (K:PySem.W.Frag) (n:Nat) (t:TGs):TG:=fun v σ H Q=>gTup K n t v σ H Q \/ gLst K n t v σ H Q
theorem zgX {X:Cx} {pos:Pos} {es:List Expr} {k:Nat} {t:TGs} {n:Nat} (hc:X.calm=true) (h:PGs X es t)
  (hn:(assignEach es X.env).length=n) (hst:(assignEach es X.env).findIdx? (·.1)=none):PG X (.Tuple es k pos) (gMix X.K n t):=by
 refine ⟨fun pins s σ H v u Q I r hw=>?_⟩
 rcases hw with hw | hw
 ·exact (pg_tup hc h hn hst).run pins s σ H v u Q I r hw
 ·exact (pg_lst hc h hn hst).run pins s σ H v u Q I r hw
def gTg (K:PySem.W.Frag):Tg -> TG
 | .one i=>gName i | .many is=>gMix K is.length (gMany is)
def zan:Tg -> List Nat
 | .one i=>[i] | .many is=>is
structure TgX (X:Cx) (raw:Scope):Prop where
 loc:∀ x,raw.names.lookup x=some .local -> X.env.scope.names.lookup x=some .local
 cel:∀ x,raw.names.lookup x=some .cell -> X.env.scope.names.lookup x=some .cell /\ X.fn x=true
theorem zoo {X:Cx} {raw:Scope} {i:Nat} {x:Str} {p:Pos} (nd:X.N.Nodup) (tx:TgX X raw) (h:((X.N[i]? == some x) && (match raw.names.lookup x with | some .local=>true | some .cell=>true | _=>false))=true):PG X (.Name x p) (gName i):=by
 rw [Bool.and_eq_true] at h
 have h1:X.N[i]?=some x:=by simpa using h.1
 have h2:=h.2
 split at h2
 ·rename_i e
  exact pg_name nd h1 (.inl (tx.loc x e)) (.inr (tx.loc x e))
 ·rename_i e
  exact pg_name nd h1 (.inr (tx.cel x e).1) (.inl (tx.cel x e).2)
 ·cases h2
theorem zcd {X:Cx} {raw:Scope} (nd:X.N.Nodup) (tx:TgX X raw):∀ {is:List Nat} {es:List Expr},zbb X.N raw is es=true -> PGs X es (gMany is) /\ (assignEach es X.env).length=is.length /\ (assignEach es X.env).findIdx? (·.1)=none
 | [],[],_=>⟨pgs_nil,rfl,rfl⟩
 | [],_ :: _,h=>by simp [zbb] at h
 | _ :: _,[],h=>by simp [zbb] at h
 | i :: is,e :: es,h=>by
  cases e <;> (try (simp [zbb] at h; done))
  rename_i x p
  rw [zbb,Bool.and_eq_true] at h
  obtain ⟨h1,h2,h3⟩:=zcd nd tx h.2
  refine ⟨pgs_cons (zoo nd tx h.1) h1 rfl,?_,?_⟩
  ·show (assignEach es X.env).length+1=_
   rw [h2]; rfl
  ·show ((false,_) :: assignEach es X.env).findIdx? (·.1)=none
   rw [List.findIdx?_cons,if_neg Bool.false_ne_true,h3]
   rfl
theorem pg_tg {X:Cx} {raw:Scope} (hc:X.calm=true) (nd:X.N.Nodup) (tx:TgX X raw) {tg:Tg} {e:Expr} (h:chkT X.N raw tg e=true):PG X e (gTg X.K tg):=by
 cases tg with
 | one i =>
  cases e <;> (try (simp [chkT] at h; done))
  exact zoo nd tx h
 | many is =>
  cases e <;> (try (simp [chkT] at h; done))
  obtain ⟨h1,h2,h3⟩:=zcd nd tx (show zbb X.N raw is _=true from h)
  exact zgX hc h1 h2 h3
structure FrT (tg:List Nat) (σ σ':St):Prop where
 len:σ'.length=σ.length
 off:∀ j,j ∉ tg -> σ'[j]?=σ[j]?
section
variable {K:PySem.W.Frag} {F:Fx} {O:List Nat} {A:Addr -> Prop} {σ:St} {ρ ρ':Env} {H H':Hp}
theorem zhJ {O:List Nat} {i:Nat} (h:O.contains i=false):O.filter (· != i)=O:=by
 apply List.filter_eq_self.mpr
 intro a ha
 simp
 intro z
 subst z
 simp at h
 exact h ha
theorem zbB {i:Nat} {d:D} {v:V} (I:EnvR K F O A σ ρ H) (r:Rep K H (PPa F A) d v) (ho:O.contains i=false):EnvR K F O A (σ.set i (some v)) (ρ.set i (some d)) H:=by
 have I':EnvR K ⟨F.P0,F.H0,F.IO,F.ios.filter fun j=>O.contains j⟩ O A σ ρ H:=⟨I.len,I.ext,I.val,I.inj,I.aM,I.aF,fun a m=>by
  obtain ⟨h1,j,d,h2,h3,h4⟩:=I.io a m
  exact ⟨h1,j,d,List.mem_filter.mpr ⟨h2,h3⟩,h3,h4⟩⟩
 have I2:=I'.setPlain (i:=i) (v:=v) (d:=d) r fun z=>by
  have:=(List.mem_filter.mp z).2
  rw [ho] at this; cases this
 rw [zhJ ho] at I2
 exact ⟨I2.len,I2.ext,I2.val,I2.inj,I2.aM,I2.aF,fun a m=>by
  obtain ⟨h1,j,d,h2,h3,h4⟩:=I2.io a m
  exact ⟨h1,j,d,(List.mem_filter.mp h2).1,h3,h4⟩⟩
theorem zc0:∀ {is:List Nat} {ds:List D} {vs:List V} {σ:St} {ρ:Env} {Q:St -> Hp -> Prop},EnvR K F O A σ ρ H -> Reps K H (PPa F A) ds vs -> is.length=ds.length -> (∀ i ∈ is,O.contains i=false) →
  (∀ σ',EnvR K F O A σ' (zar is ds ρ) H -> FrT is σ σ' -> Q σ' H) -> gMany is vs σ H Q
 | [],[],_,σ,ρ,Q,I,.nil,_,_,q=>⟨rfl,q σ I ⟨rfl,fun _ _=>rfl⟩⟩
 | [],_ :: _,_,_,_,_,_,_,h,_,_=>by simp at h
 | _ :: _,[],_,_,_,_,_,_,h,_,_=>by simp at h
 | i :: is,d :: ds,v :: vs,σ,ρ,Q,I,.cons h t,hl,hf,q=>by
  refine ⟨v,vs,rfl,?_⟩
  show gMany is vs (σ.set i (some v)) H Q
  refine zc0 (zbB I h (hf i (by simp))) t (by simpa using hl) (fun j hj=>hf j (by simp [hj])) fun σ' I' fr=>?_
  refine q σ' I' ⟨by rw [fr.len,List.length_set],fun j hj=>?_⟩
  rw [fr.off j (fun z=>hj (by simp [z])),List.getElem?_set_ne (fun z=>hj (by simp [z]))]
theorem zcU {tg:Tg} {d:D} {v:V} {Q:St -> Hp -> Prop} (I:EnvR K F O A σ ρ H) (r:Rep K H (PPa F A) d v) (e:setT tg d ρ=.ok ρ') (hf:∀ i ∈ zan tg,O.contains i=false)
  (q:∀ σ',EnvR K F O A σ' ρ' H -> FrT (zan tg) σ σ' -> Q σ' H):gTg K tg v σ H Q:=by
 cases tg with
 | one i =>
  cases e
  refine q _ (zbB I r (hf i (by simp [zan]))) ⟨by rw [List.length_set],fun j hj=>?_⟩
  rw [List.getElem?_set_ne (fun z=>hj (by simp [zan,z]))]
 | many is =>
  cases d <;> (try (cases e; done))
  ·rename_i ds
   obtain ⟨w,e⟩:=zae (show R.when _ _=_ from e)
   cases e
   have w:is.length=ds.length:=by simpa using w
   cases r with
   | tup h r =>
    exact .inl ⟨_,_,rfl,SqT.of h,by rw [<- r.length,w],zc0 I r w hf q⟩
  ·rename_i ds
   obtain ⟨w,e⟩:=zae (show R.when _ _=_ from e)
   cases e
   have w:is.length=ds.length:=by simpa using w
   cases r with
   | lst h p r =>
    exact .inr ⟨_,_,rfl,.inl h,by rw [<- r.length,w],zc0 I r w hf q⟩
   | lstK h r =>
    exact .inr ⟨_,_,rfl,.inr h,by rw [<- r.length,w],zc0 I r w hf q⟩
theorem zbr (σ:St) (j:Nat):∀ vs:List Nat,(wipe σ vs)[j]?=if j ∈ vs then (if j < σ.length then some none else none) else σ[j]?
 | []=>by simp [wipe]
 | v :: vs=>by
  unfold wipe
  by_cases c:v=j
  ·subst c
   by_cases l:v < σ.length
   ·rw [List.getElem?_set_self (by rw [wipe_length]; exact l)]
    simp [l]
   ·rw [List.getElem?_eq_none (by rw [List.length_set,wipe_length]; omega)]
    simp [l]
  ·rw [List.getElem?_set_ne c,zbr σ j vs]
   have:(j ∈ v :: vs)=(j ∈ vs):=propext ⟨fun z=>(List.mem_cons.mp z).resolve_left (fun q=>c q.symm),List.mem_cons_of_mem _⟩
   simp only [this]
theorem zbC (ρ:Env):∀ vs:List Nat,(wipeD ρ vs).length=ρ.length
 | []=>rfl
 | v :: vs=>by unfold wipeD; rw [List.length_set,zbC ρ vs]
theorem za2 (σ:Env) (j:Nat):∀ vs:List Nat,(wipeD σ vs)[j]?=if j ∈ vs then (if j < σ.length then some none else none) else σ[j]?
 | []=>by simp [wipeD]
 | v :: vs=>by
  unfold wipeD
  by_cases c:v=j
  ·subst c
   by_cases l:v < σ.length
   ·rw [List.getElem?_set_self (by rw [zbC]; exact l)]
    simp [l]
   ·rw [List.getElem?_eq_none (by rw [List.length_set,zbC]; omega)]
    simp [l]
  ·rw [List.getElem?_set_ne c,za2 σ j vs]
   have:(j ∈ v :: vs)=(j ∈ vs):=propext ⟨fun z=>(List.mem_cons.mp z).resolve_left (fun q=>c q.symm),List.mem_cons_of_mem _⟩
   simp only [this]
theorem zdk {σ σ':St} {tg vs:List Nat} (fr:FrT tg (wipe σ vs) σ') (h:∀ i ∈ tg,i ∈ vs):wipe σ' vs=wipe σ vs:=by
 apply List.ext_getElem?
 intro j
 rw [zbr,zbr]
 have hl:σ'.length=σ.length:=by rw [fr.len,wipe_length]
 split
 ·rw [hl]
 ·rename_i c
  rw [fr.off j (fun z=>c (h j z)),zbr,if_neg c]
theorem zce {own:List Nat} (I:EnvR K F O A σ ρ H) (ho:∀ i ∈ own,O.contains i=false):EnvR K F O A (wipe σ own) (wipeD ρ own) H:=by
 have back:∀ {i:Nat} {d:D},(wipeD ρ own)[i]?=some (some d) -> ρ[i]?=some (some d) /\ i ∉ own:=fun {i d} e=>by
  rw [za2] at e
  split at e
  ·split at e <;> cases e
  ·rename_i c; exact ⟨e,c⟩
 have vs:∀ {i:Nat},i ∉ own -> (wipe σ own)[i]?=σ[i]?:=fun {i} c=>by rw [zbr,if_neg c]
 refine ⟨by rw [wipe_length,zbC]; exact I.len,I.ext,fun i d e=>?_,fun i j a di dj hi hj ei ej mi mj si sj=>?_,I.aM,I.aF,fun a m=>?_⟩
 ·obtain ⟨e1,c⟩:=back e
  rw [vs c]
  exact I.val i d e1
 ·obtain ⟨e1,c1⟩:=back ei
  obtain ⟨e2,c2⟩:=back ej
  rw [vs c1] at si
  rw [vs c2] at sj
  exact I.inj i j a di dj hi hj e1 e2 mi mj si sj
 ·obtain ⟨h1,j,d,h2,h3,h4,h5,h6⟩:=I.io a m
  have c:j ∉ own:=fun z=>by rw [ho j z] at h3; cases h3
  exact ⟨h1,j,d,h2,h3,by rw [za2,if_neg c]; exact h4,h5,by rw [vs c]; exact h6⟩
theorem zbs {p:Addr} {u:HO} (I:EnvR K F O A σ ρ H) (hp:H p=none) (x:∀ b o,H b=some o -> H' b=some o) (hn:H' p=some u) (hm:mutO u=true):EnvR K F O (fun b=>A b \/ b=p) σ ρ H':=by
 have lw:Le (PPa F A) (PPa F fun b=>A b \/ b=p) H H':=⟨fun a u _ e=>x a _ e,fun a u _ _ r=>by
  rcases r with r | ⟨ob,r⟩
  ·exact .inl (x a _ r)
  ·exact .inr ⟨ob,x a _ r⟩,fun b u _ q r=>⟨q.1,fun z=>by
   rcases z with z | z
   ·exact q.2 z
   ·subst z
    obtain ⟨o',e'⟩:=zcw r
    rw [hp] at e'; cases e'⟩⟩
 refine ⟨I.len,fun b o e n=>x b o (I.ext b o e n),fun i d e=>?_,I.inj,fun a m=>?_,fun a m=>?_,fun a m=>?_⟩
 ·obtain ⟨v,e1,s⟩:=I.val i d e
  refine ⟨v,e1,?_⟩
  unfold Slot at s ⊢
  split
  ·rename_i c
   rw [if_pos c] at s
   obtain ⟨a,e,m,q⟩:=s
   exact ⟨a,e,.inl m,q.mono lw fun o e' _=>x a o e'⟩
  ·rename_i c
   rw [if_neg c] at s
   exact s.mono lw
 ·rcases m with m | m
  ·obtain ⟨o,e,q⟩:=I.aM a m
   exact ⟨o,x a o e,q⟩
  ·subst m; exact ⟨u,hn,hm⟩
 ·rcases m with m | m
  ·exact I.aF a m
  ·subst m; exact .inr (I.noneH0 hp)
 ·obtain ⟨h1,r⟩:=I.io a m
  exact ⟨.inl h1,r⟩
end
end L2.Pf
namespace L2.Pf
open PySem PySem.Spec PyProof.Rows
theorem zeZ {scope sc:Scope} {x:Str} {k:NameKind} (h:scope.names.lookup x=some k) (hk:(k == .free)=false):(relS scope sc).names.lookup x=some k:=by
 unfold relS
 show (scope.names.map fun (p:Str × NameKind)=>if (p.2 == .free && sc.kind == .function && sc.names.lookup p.1 == some .cell)=true then (p.1,.cell) else (p.1,p.2)).lookup x=some k
 generalize scope.names=l at h ⊢
 induction l with
 | nil=>cases h
 | cons p r ih =>
  obtain ⟨n,c⟩:=p
  rw [List.lookup_cons] at h
  rw [List.map_cons,List.lookup_cons]
  cases e:x == n with
  | true =>
   rw [e] at h
   cases h
   simp only [hk,Bool.false_and,Bool.false_eq_true,if_false,e]
  | false =>
   rw [e] at h
   have:(x == (if (c == .free && sc.kind == .function && sc.names.lookup n == some .cell)=true then (n,NameKind.cell) else (n,c)).1)=false:=by split <;> exact e
   simp only [this]
   exact ih h
section
variable {T:List Def} {X:Cx} {sc:Scope} {G:Str -> Option D} {Fnc:Fn} {n:Nat} {cls:Str -> Option Addr}
def W0:WX:=fun _ _ _ _=>False
theorem ze0:Takes X W0:=fun u s' ⟨a,B,sI,pins,σ,H,cls,d,e,I,nb,up,sky,na,os,ag,w⟩=>w.elim
theorem za3 (hy:Hy X T G Fnc n cls) (s:Shared) (H:Hp) (scope:Scope) (C:Addr) (cl:List (Str × Addr)) (fp:List Addr):Hy (X.blk s H scope (compEnvC scope cl C X.env) fp) T G Fnc n cls :=
 ⟨hy.calm,hy.nd,hy.room,hy.glob,hy.blt,hy.flen,hy.tab,hy.fn⟩
theorem zdl (hs:X.env.scope=sc) (s:Shared) (H:Hp) (scope:Scope) (C:Addr) (cl:List (Str × Addr)) (fp:List Addr):TgX (X.blk s H scope (compEnvC scope cl C X.env) fp) scope:=by
 refine ⟨fun x h=>?_,fun x h=>⟨?_,?_⟩⟩
 ·exact zeZ (sc:=X.env.scope) h rfl
 ·exact zeZ (sc:=X.env.scope) h rfl
 ·show (scope.names.lookup x == some .cell)=true
  rw [h]; rfl
def BE (X:Cx) (scope:Scope) (e:Expr):TE:=fun σ H Q=>∀ (s:Shared) (H0:Hp) (C:Addr) (cl:List (Str × Addr)) (fp:List Addr),WE (X.blk s H0 scope (compEnvC scope cl C X.env) fp) e σ H Q
def BT (X:Cx) (scope:Scope) (e:Expr):TT:=fun σ H Q=>∀ (s:Shared) (H0:Hp) (C:Addr) (cl:List (Str × Addr)) (fp:List Addr),WT (X.blk s H0 scope (compEnvC scope cl C X.env) fp) e σ H Q
theorem pe_be {scope:Scope} {e:Expr} (s:Shared) (H:Hp) (C:Addr) (cl:List (Str × Addr)) (fp:List Addr):PE (X.blk s H scope (compEnvC scope cl C X.env) fp) e (BE X scope e):=⟨fun pins s' σ H' Q I h=>h s H C cl fp pins s' I⟩
theorem pt_bt {scope:Scope} {e:Expr} (s:Shared) (H:Hp) (C:Addr) (cl:List (Str × Addr)) (fp:List Addr):PT (X.blk s H scope (compEnvC scope cl C X.env) fp) e (BT X scope e):=⟨fun pins s' σ H' Q I h=>h s H C cl fp pins s' I⟩
theorem be_of {scope:Scope} {e:Expr} {m:E} {O:List Nat} {F:Fx} {A:Addr -> Prop} {σ:St} {ρ:Env} {H:Hp} {Q:VK} {d:D} (hm:SndE T m) (hy:Hy X T G Fnc n cls) (hs:X.env.scope=sc) (c:chkE X.N T (relS scope sc) O m e=true) (I:EnvR X.K F O A σ ρ H)
  (e1:evE G Fnc m ρ=.ok d) (q:∀ v H',Got X.K F A O T m H H' d v -> Q v H'):BE X scope e σ H Q:=fun s H0 C cl fp =>
 hm (X:=X.blk s H0 scope (compEnvC scope cl C X.env) fp) (W:=W0) (za3 hy s H0 scope C cl fp) ze0 (by subst hs; rfl) c I (by rw [e1]; exact q)
theorem bt_of {scope:Scope} {e:Expr} {m:E} {O:List Nat} {F:Fx} {A:Addr -> Prop} {σ:St} {ρ:Env} {H:Hp} {Q:Bool -> Hp -> Prop} {b:Bool} (hm:SndT T m) (hy:Hy X T G Fnc n cls) (hs:X.env.scope=sc) (c:chkE X.N T (relS scope sc) O m e=true) (I:EnvR X.K F O A σ ρ H)
  (e1:(evE G Fnc m ρ).bind zac=.ok b) (q:∀ H',Ext Nix H H' -> Q b H'):BT X scope e σ H Q:=fun s H0 C cl fp =>
 hm (X:=X.blk s H0 scope (compEnvC scope cl C X.env) fp) (W:=W0) (za3 hy s H0 scope C cl fp) ze0 (by subst hs; rfl) c I (by rw [e1]; exact q)
theorem ze1 {N:List Str} {sc scope:Scope} {own:List Nat} (h:blkC N sc scope (ownP N own)=true):BlkOk N sc scope (ownP N own) /\ (ownP N own).map (·.2)=own:=by
 refine ⟨blkOk_by h,?_⟩
 unfold ownP
 rw [List.map_map]
 exact List.map_id' own
theorem tg_in {own:List Nat} {tg:Tg} (h:tgIn own tg=true):∀ i ∈ zan tg,i ∈ own:=by
 intro i hi
 cases tg with
 | one j =>
  have:i=j:=by simpa [zan] using hi
  subst this
  simpa [tgIn] using h
 | many is =>
  have h':(is.all own.contains)=true:=h
  rw [List.all_eq_true] at h'
  simpa using h' i hi
theorem zop {K:PySem.W.Frag} {F:Fx} {O own:List Nat} {A:Addr -> Prop} {σ:St} {ρ:Env} {H1:Hp} {J:L2.It} {xs r:List D} {tg:Tg} {body:Env -> R (Option D)} {tt:TT} {te:TE} {Q:VK}
  (I:EnvR K F O A σ ρ H1) (ho:∀ i ∈ own,O.contains i=false) (ht:∀ i ∈ zan tg,i ∈ own) (it:ItOK K F A Nix H1 J xs) (hz:r.length <= sizeLine) (ev:lcL tg body (wipeD ρ own) xs=.ok r)
  (step:∀ {A':Addr -> Prop} {σ2:St} {ρ2:Env} {H2:Hp} {o:Option D} {Nx:Hp -> Prop} {D:Addr} {acc:List V},EnvR K F O A' σ2 ρ2 H2 -> body ρ2=.ok o -> H2 D=some (.lst acc) -> (o=none -> ∀ H',Ext Nix H2 H' -> Nx H') -> (∀ y,o=some y -> acc.length < sizeLine /\ ∀ v H4,Ext Nix H2 H4 -> Rep K H4 (PPa F A') y v -> Nx (upd H4 D (.lst (acc ++ [v])))) →
   tt σ2 H2 fun b H3=>if b=true then te σ2 H3 fun y H4=>∃ acc,H4 D=some (.lst acc) /\ acc.length < sizeLine /\ Nx (upd H4 D (.lst (acc ++ [y]))) else Nx H3)
  (q:∀ v H',Ext Nix H1 H' -> (∃ a vs,v=.ref a /\ H1 a=none /\ H' a=some (.lst vs) /\ Reps K H' (fun b=>PPa F A b /\ b ≠ a) r vs) -> Q v H') :
  ∀ D,H1 D=none -> ∃ W:Nat -> Nat -> Hp -> Prop,(∃ m,W 0 m (upd H1 D (.lst []))) /\ ∀ i m H,W i m H →
   (J.stop i H /\ Q (.ref D) H) \/ (J.go i H /\ ∃ Nx:Hp -> Prop,(∀ H',Nx H' -> ∃ m',m' < m /\ W (i+1) m' H') /\ ∀ x H',J.yld i H x H' -> gTg K tg x (wipe σ own) H' fun σ2 H2=>wipe σ2 own=wipe σ own /\ tt σ2 H2 fun b H3 =>
    if b=true then te σ2 H3 fun y H4=>∃ acc,H4 D=some (.lst acc) /\ acc.length < sizeLine /\ Nx (upd H4 D (.lst (acc ++ [y]))) else Nx H3):=by
 intro D hD
 have np:PPa F A D:=I.newP hD
 refine ⟨fun i m H=>m=xs.length - i /\ i <= xs.length /\ (∀ b o,H1 b=some o -> H b=some o) /\ ∃ ad acc r',H D=some (.lst acc) /\ Reps K H (PPa F fun b=>A b \/ b=D) ad acc /\ lcL tg body (wipeD ρ own) (xs.drop i)=.ok r' /\ ad ++ r'=r,
  ⟨xs.length,by simp,Nat.zero_le _,fun b o e=>by rw [upd_ne (ne_of_none e hD)]; exact e,[],[],r,upd_same,.nil,by simpa using ev,rfl⟩,?_⟩
 rintro i m H ⟨rfl,hi,keep,ad,acc,r',hDD,rep,evr,er⟩
 have x1:Ext Nix H1 H:=fun b o e _=>keep b o e
 by_cases hlt:i < xs.length
 ·refine .inr ?_
  have ex:xs[i]?=some xs[i]:=List.getElem?_eq_getElem hlt
  obtain ⟨go,yl⟩:=it.go H (fun b=>A b \/ b=D) x1 (fun b z=>z.imp id fun z=>by rw [z]; exact hD) i xs[i] ex
  refine ⟨go,fun H'=>(∀ b o,H1 b=some o -> H' b=some o) /\ ∃ ad acc r',H' D=some (.lst acc) /\ Reps K H' (PPa F fun b=>A b \/ b=D) ad acc /\ lcL tg body (wipeD ρ own) (xs.drop (i+1))=.ok r' /\ ad ++ r'=r,
   fun H' w=>⟨xs.length - (i+1),by omega,rfl,hlt,w⟩,fun x H' y=>?_⟩
  obtain ⟨x2,rx⟩:=yl x H' y
  rw [List.drop_eq_getElem_cons hlt] at evr
  obtain ⟨ρ1,e1,evr⟩:=bind_ok (show (setT tg xs[i] (wipeD ρ own)).bind _=_ from evr)
  obtain ⟨o,e2,evr⟩:=bind_ok evr
  obtain ⟨r2,e3,evr⟩:=bind_ok evr
  cases evr
  have keep':∀ b o,H1 b=some o -> H' b=some o:=fun b o e=>x2.all (keep b o e)
  have I':=zbs (zce I ho) hD keep' (x2.all hDD) rfl
  refine zcU I' rx e1 (fun j hj=>ho j (ht j hj)) fun σ2 I2 fr=>⟨zdk fr ht,?_⟩
  refine step I2 e2 (x2.all hDD) (fun eo H3 x3=>?_) fun y eo=>?_
  ·subst eo
   exact ⟨fun b o e=>x3.all (keep' b o e),ad,acc,r2,x3.all (x2.all hDD),(rep.ext x2 fun _ _ z=>z).ext x3 fun _ _ z=>z,e3,by simpa using er⟩
  ·subst eo
   have hl:ad.length=acc.length:=rep.length
   have hr:r.length=ad.length+(1+r2.length):=by rw [<- er]; simp; omega
   refine ⟨by omega,fun v H4 x4 rv=>⟨fun b o e=>?_,ad ++ [y],acc ++ [v],r2,upd_same,?_,e3,by rw [<- er]; simp⟩⟩
   ·have:=keep' b o e
    rw [upd_ne (ne_of_none e hD)]
    exact x4.all this
   ·have lw:Le (PPa F fun b=>A b \/ b=D) (PPa F fun b=>A b \/ b=D) H4 (upd H4 D (.lst (acc ++ [v]))) :=
     ⟨fun a u hu e=>by
      by_cases c:a=D
      ·subst c
       rw [x4.all (x2.all hDD)] at e; cases e; cases hu
      ·rw [upd_ne c]; exact e,fun a u _ p r=>by
      have c:a ≠ D:=fun z=>p.2 (.inr z)
      rcases r with r | ⟨ob,r⟩
      ·exact .inl (by rw [upd_ne c]; exact r)
      ·exact .inr ⟨ob,by rw [upd_ne c]; exact r⟩,fun a u _ p _=>p⟩
    exact Reps.mono lw (((rep.ext x2 fun _ _ z=>z).ext x4 fun _ _ z=>z).append (.cons rv .nil))
 ·have ei:i=xs.length:=by omega
  refine .inl ⟨it.stop H x1 i (by omega),q _ _ x1 ⟨D,acc,rfl,hD,hDD,?_⟩⟩
  have hdr:xs.drop i=[]:=List.drop_eq_nil_iff.mpr (by omega)
  rw [hdr] at evr
  cases evr
  have:ad=r:=by simpa using er
  subst this
  exact rep.weak fun b z=>⟨⟨z.1,fun w=>z.2 (.inl w)⟩,fun w=>z.2 (.inr w)⟩
end
section
variable {T:List Def}
theorem zdR {α:Type} {p:α -> Prop} {e:Str -> Prop} {r:R α} (h:PostR p e (R.nox r)):∃ d,r=.ok d /\ p d:=by
 cases r with
 | ok d=>exact ⟨d,rfl,h⟩
 | exc c=>exact h.elim
 | bad=>exact h.elim
theorem zfL {K:PySem.W.Frag} {F:Fx} {A:Addr -> Prop} {O:List Nat} {m:E} {H H1 H':Hp} {r:List D} {v:V} (np:∀ p,H1 p=none -> PPa F A p) (x:Ext Nix H H1) (x2:Ext Nix H1 H') (h:∃ a vs,v=.ref a /\ H1 a=none /\ H' a=some (.lst vs) /\ Reps K H' (fun b=>PPa F A b /\ b ≠ a) r vs):Got K F A O T m H H' (.lst r) v:=by
 obtain ⟨a,vs,rfl,hn,ha,rr⟩:=h
 have rp:Rep K H' (PPa F A) (.lst r) (.ref a):=.lst (.inl ha) (np a hn) (rr.weak fun _ z=>z.1)
 exact .of (x.trans x2) rp fun _=>⟨a,rfl,zaL x hn,vs,ha,rr⟩
theorem lc_t {elt:E} {tg:Tg} {it:It} {own:List Nat} (he:SndE T elt) (hi:SndI T it) {X:Cx} {x tgx itx:Expr} {scope:Scope} {p:Pos} {O:List Nat} {G:Str -> Option D} {Fnc:Fn} {n:Nat} {cls:Str -> Option Addr} {W:WX} {F:Fx} {A:Addr -> Prop} {σ:St} {ρ:Env} {H:Hp} {Q:VK}
  (hy:Hy X T G Fnc n cls) (tk:Takes X W) (c:chkE X.N T X.env.scope O (.lc elt tg it own) (.ListComp x [⟨tgx,itx,[],0⟩] scope p)=true) (I:EnvR X.K F O A σ ρ H)
  (h:PostR (fun d=>∀ v H',Got X.K F A O T (.lc elt tg it own) H H' d v -> Q v H') (ExW cls W σ H) (evE G Fnc (.lc elt tg it own) ρ)) :
  BlkOk X.N X.env.scope scope (ownP X.N own) /\ (∀ x,foldedSetIterable itx X.env x=pure x) /\ (∀ (s:Shared) (H:Hp) (C:Addr) (cl:List (Str × Addr)) (fp:List Addr),PG (X.blk s H scope (compEnvC scope cl C X.env) fp) tgx (gTg X.K tg)) ∧
  tLc (WI X tgx itx) (gTg X.K tg) tYes (BE X scope x) ((ownP X.N own).map (·.2)) σ H Q:=by
  rw [chkE] at c
  simp only [Bool.and_eq_true] at c
  obtain ⟨⟨⟨⟨⟨⟨c1,c2⟩,c3⟩,c4⟩,c5⟩,c6⟩,c7⟩:=c
  obtain ⟨bk,eo⟩:=ze1 c2
  have ho:∀ i ∈ own,O.contains i=false:=fun i hi=>by
   have:=List.all_eq_true.mp c3 i hi
   simpa using this
  have hset:∀ x,foldedSetIterable itx X.env x=pure x:=zaX (zbp c1)
  have h':PostR (fun d=>∀ v H',Got X.K F A O T (.lc elt tg it own) H H' d v -> Q v H') (ExW cls W σ H) ((evI G Fnc it ρ).bind fun xs =>
   (R.nox (lcL tg (fun ρ=>(evE G Fnc elt ρ).bind fun y=>.ok (some y)) (wipeD ρ own) xs)).bind fun r=>R.when (decide (r.length <= sizeLine)) (.ok (.lst r))):=h
  refine ⟨bk,hset,fun s H C cl fp=>pg_tg (za3 hy s H scope C cl fp).calm (za3 hy s H scope C cl fp).nd (zdl rfl s H scope C cl fp) c5,?_⟩
  rw [eo]
  refine hi hy tk rfl c1 I (h'.bind.mono (fun xs hxs J H1 x1 itok=>?_) fun _ z=>z)
  obtain ⟨r,er,q⟩:=zdR (e:=ExW cls W σ H) hxs.bind
  obtain ⟨hz,q⟩:=PostR.when (e:=ExW cls W σ H) q
  have I1:=I.step x1
  refine zop (body:=fun ρ=>(evE G Fnc elt ρ).bind fun y=>.ok (some y)) I1 ho (tg_in c4) (itok Nix (fun _ z=>z.elim) (.inl fun _ z=>z)) (of_decide_eq_true hz) er (fun {A' σ2 ρ2 H2 o Nx D acc} I2 eb hD k1 k2=>?_) fun v H' x2 hh=>q v H' (zfL (fun p hp=>I1.newP hp) x1 x2 hh)
  obtain ⟨y,ey,eo'⟩:=bind_ok eb
  cases eo'
  simp only [tYes,↓reduceIte]
  obtain ⟨hl,k2⟩:=k2 y rfl
  exact be_of he hy rfl c6 I2 ey fun v H' g=>⟨acc,g.ext.all hD,hl,k2 v H' g.ext (g.rep (by simpa using c7))⟩
theorem zrJ {elt:E} {tg:Tg} {it:It} {own:List Nat} (he:SndE T elt) (hi:SndI T it):SndE T (.lc elt tg it own):=by
 intro X e sc O G Fnc n cls W F A σ ρ H Q hy tk hs c I h
 cases e <;> (try (simp [chkE] at c; done))
 rename_i x gs scope p
 match gs,c with
 | [⟨tgx,itx,[],0⟩],c =>
  subst hs
  obtain ⟨bk,hset,pg,t⟩:=lc_t he hi hy tk c I h
  exact we_of (pe_lc (g:=gTg X.K tg) hy.calm hy.nd pi_wi bk pg (fun _ _ _ _ _=>pts_nil) (fun s H C cl fp=>pe_be s H C cl fp) hset) t
theorem zoq {elt cond:E} {tg:Tg} {it:It} {own:List Nat} (he:SndE T elt) (hc:SndT T cond) (hi:SndI T it) {X:Cx} {x cx tgx itx:Expr} {scope:Scope} {p:Pos} {O:List Nat} {G:Str -> Option D} {Fnc:Fn} {n:Nat} {cls:Str -> Option Addr} {W:WX} {F:Fx} {A:Addr -> Prop} {σ:St} {ρ:Env} {H:Hp} {Q:VK}
  (hy:Hy X T G Fnc n cls) (tk:Takes X W) (c:chkE X.N T X.env.scope O (.lcIf elt tg it cond own) (.ListComp x [⟨tgx,itx,[cx],0⟩] scope p)=true) (I:EnvR X.K F O A σ ρ H)
  (h:PostR (fun d=>∀ v H',Got X.K F A O T (.lcIf elt tg it cond own) H H' d v -> Q v H') (ExW cls W σ H) (evE G Fnc (.lcIf elt tg it cond own) ρ)) :
  BlkOk X.N X.env.scope scope (ownP X.N own) /\ (∀ x,foldedSetIterable itx X.env x=pure x) /\ (∀ (s:Shared) (H:Hp) (C:Addr) (cl:List (Str × Addr)) (fp:List Addr),PG (X.blk s H scope (compEnvC scope cl C X.env) fp) tgx (gTg X.K tg)) ∧
  tLc (WI X tgx itx) (gTg X.K tg) (BT X scope cx) (BE X scope x) ((ownP X.N own).map (·.2)) σ H Q:=by
  rw [chkE] at c
  simp only [Bool.and_eq_true] at c
  obtain ⟨⟨⟨⟨⟨⟨⟨c1,c2⟩,c3⟩,c4⟩,c5⟩,c8⟩,c6⟩,c7⟩:=c
  obtain ⟨bk,eo⟩:=ze1 c2
  have ho:∀ i ∈ own,O.contains i=false:=fun i hi=>by
   have:=List.all_eq_true.mp c3 i hi
   simpa using this
  have hset:∀ x,foldedSetIterable itx X.env x=pure x:=zaX (zbp c1)
  have h':PostR (fun d=>∀ v H',Got X.K F A O T (.lcIf elt tg it cond own) H H' d v -> Q v H') (ExW cls W σ H) ((evI G Fnc it ρ).bind fun xs =>
   (R.nox (lcL tg (fun ρ=>(evE G Fnc cond ρ).bind fun c=>(zac c).bind fun b=>if b=true then (evE G Fnc elt ρ).bind fun y=>.ok (some y) else .ok none) (wipeD ρ own) xs)).bind fun r=>R.when (decide (r.length <= sizeLine)) (.ok (.lst r))):=h
  refine ⟨bk,hset,fun s H C cl fp=>pg_tg (za3 hy s H scope C cl fp).calm (za3 hy s H scope C cl fp).nd (zdl rfl s H scope C cl fp) c5,?_⟩
  rw [eo]
  refine hi hy tk rfl c1 I (h'.bind.mono (fun xs hxs J H1 x1 itok=>?_) fun _ z=>z)
  obtain ⟨r,er,q⟩:=zdR (e:=ExW cls W σ H) hxs.bind
  obtain ⟨hz,q⟩:=PostR.when (e:=ExW cls W σ H) q
  have I1:=I.step x1
  refine zop (body:=fun ρ=>(evE G Fnc cond ρ).bind fun c=>(zac c).bind fun b=>if b=true then (evE G Fnc elt ρ).bind fun y=>.ok (some y) else .ok none) I1 ho (tg_in c4) (itok Nix (fun _ z=>z.elim) (.inl fun _ z=>z)) (of_decide_eq_true hz) er (fun {A' σ2 ρ2 H2 o Nx D acc} I2 eb hD k1 k2=>?_) fun v H' x2 hh=>q v H' (zfL (fun p hp=>I1.newP hp) x1 x2 hh)
  obtain ⟨cd,ec,eb⟩:=bind_ok eb
  obtain ⟨b,et,eb⟩:=bind_ok eb
  refine bt_of (b:=b) hc hy rfl c8 I2 (by rw [ec]; exact et) fun H3 x3=>?_
  cases b with
  | false =>
   rw [if_neg Bool.false_ne_true] at eb ⊢
   cases eb
   exact k1 rfl H3 x3
  | true =>
   rw [if_pos rfl] at eb ⊢
   obtain ⟨y,ey,eo'⟩:=bind_ok eb
   cases eo'
   obtain ⟨hl,k2⟩:=k2 y rfl
   exact be_of he hy rfl c6 (I2.step x3) ey fun v H' g=>⟨acc,g.ext.all (x3.all hD),hl,k2 v H' (x3.trans g.ext) (g.rep (by simpa using c7))⟩
theorem zmj {elt cond:E} {tg:Tg} {it:It} {own:List Nat} (he:SndE T elt) (hc:SndT T cond) (hi:SndI T it):SndE T (.lcIf elt tg it cond own):=by
 intro X e sc O G Fnc n cls W F A σ ρ H Q hy tk hs c I h
 cases e <;> (try (simp [chkE] at c; done))
 rename_i x gs scope p
 match gs,c with
 | [⟨tgx,itx,[cx],0⟩],c =>
  subst hs
  obtain ⟨bk,hset,pg,t⟩:=zoq he hc hi hy tk c I h
  exact we_of (pe_lc (g:=gTg X.K tg) hy.calm hy.nd pi_wi bk pg (fun s H C cl fp=>pts_one (pt_bt s H C cl fp)) (fun s H C cl fp=>pe_be s H C cl fp) hset) t
end
end L2.Pf
namespace L2.Pf
open PySem PySem.Spec PyProof.Rows
def empO (t:Bool):HO:=if t=true then .dT [] else .dK []
theorem zrK {X:Cx} {pins:List (Addr × Obj)} {σ:St} {H H':Hp} {s:Shared} {a:Addr} {y v:V} {u r:Value} {A:Around} {E:Value -> Shared -> Prop} {Q:Unit -> Shared -> Prop} (hu:A.units+1 < cLine) (I:Inv X pins σ H s) (g:DPut H a y v H') (ry:RelV y u) (rv:RelV v r) (h:∀ s',Inv X pins σ H' s' -> Q () s') :
  wpAny (model X.prog X.w) A (dictSet a u r) Q E s:=by
 rcases g with ⟨kvs,k,e,ey,l,eH⟩ | ⟨kvs,k,b,e,ey,eb,l,eH⟩
 ·subst ey eH
  obtain ⟨z,hd,vs,rel,dd⟩:=dk_of I.hok e
  have hz:vs.length <= sizeLine:=by rw [<- rel.length]; exact z
  have hl:(putK kvs k v).length <= sizeLine:=by have:=length_putK kvs k v; omega
  refine wpAny_dictSet_pairs (hsz:=hz) (kV_is ry) dd fun h' dd' hs=>h _ ?_
  have he:∃ q,h'.get? a=some q:=let ⟨q,_,_,hq,_⟩:=dd'; ⟨q,hq⟩
  exact d_write I (by rw [e]; exact True.intro) hs he (dk_new hl hd (rel.put k rv) dd')
 ·subst ey eH
  cases (show u=Value.ref b from ry)
  obtain ⟨z,hd,xs,rel,dd⟩:=dt_of I.hok e
  have hz:xs.length <= sizeLine:=by rw [<- Paired.length rel]; exact z
  have hl:(putK kvs k v).length <= sizeLine:=by have:=length_putK kvs k v; omega
  refine wpAny_dictSet_heap (hsz:=hz) (show A.units < cLine by omega) (key_of I.hok eb) dd fun h' dd' hs=>h _ ?_
  obtain ⟨q,es,ep,hq,h2,h3,h4,_,h5⟩:=dd'
  refine d_write I (by rw [e]; exact True.intro) hs ⟨q,hq⟩ ⟨hl,hd,_,(rel.put k eb rv).keeps fun c ys ec=>?_,q,es,ep,hq,h2,h3,h4,h5⟩
  rw [upd_ne (ne_of ec e (fun z=>nomatch z))]
  exact ec
def zrL (t:Bool) (tk tv:TE):TE:=fun σ H Q=>∀ p,H p=none -> tk σ (upd H p (empO t)) fun x H1=>tv σ H1 fun y H2=>∃ H3,DPut H2 p x y H3 /\ Q (.ref p) H3
theorem zmk {X:Cx} {pos:Pos} {k v:Expr} {tk tv:TE} {t:Bool} (hu:X.A.units+1 < cLine) (hk:PE X k tk) (hv:PE X v tv):PE X (.Dict [some k] [v] pos) (zrL t tk tv):=by
 refine ⟨fun pins s σ H Q I q=>?_⟩
 have hn:=I.hok.fresh (Nat.le_refl s.heap.objs.size)
 have I1:Inv X pins σ (upd H s.heap.objs.size (empO t)) { s with heap:=s.heap.push { cls:=.type "dict",data:=.dict #[] } }:=by
  cases t with
  | false=>exact I.laid (a:=s.heap.objs.size) (o:=.dK []) (h':=s.heap.push { cls:=.type "dict",data:=.dict #[] }) (t':=s.toks) (fun _ _ q=>Heap.get?_push_of_some _ q) (Nat.le_refl _) (dk_empty s.heap I.big)
  | true=>exact I.laid (a:=s.heap.objs.size) (o:=.dT []) (h':=s.heap.push { cls:=.type "dict",data:=.dict #[] }) (t':=s.toks) (fun _ _ q=>Heap.get?_push_of_some _ q) (Nat.le_refl _) (dt_empty s.heap I.big)
 refine wpAny_Dict_any rfl rfl (by simp) (by simp) ?_
 refine thn ((pps_cons hk hv pps_nil).run pins _ σ _ (fun ps H2=>match ps with
  | [(x,y)]=>∃ H3,DPut H2 s.heap.objs.size x y H3 /\ Q (.ref s.heap.objs.size) H3
  | _=>False) I1 (q _ hn)) fun ws s2 ⟨ps,H2,I2,rel,q2⟩=>?_
 cases rel with
 | nil=>exact q2.elim
 | @cons x a xs as h tl =>
  cases tl with
  | cons _ _=>exact q2.elim
  | nil =>
   obtain ⟨H3,dp,q3⟩:=q2
   unfold storeAll
   rw [List.forIn_cons]
   refine wpAny_bind (wpAny_bind (zrK hu I2 dp h.1 h.2 fun s3 I3=>wpAny_pure ?_))
   show wpAny _ _ (forIn [] PUnit.unit _) _ _ _
   rw [List.forIn_nil]
   exact wpAny_pure ⟨.ref s.heap.objs.size,_,I3,rfl,q3⟩
theorem zhK (t:Bool) (x y:D):noExc (dDisp t x y):=by
 unfold dDisp
 split
 ·cases x <;> first | exact zag (zat _) fun _=>zad _ | (intro c z; cases z)
 ·exact zag (zat _) fun _=>zad _
section
variable {T:List Def}
theorem zje {t:Bool} {a b:E} (ha:SndE T a) (hb:SndE T b):SndE T (.disp1 t a b):=by
 intro X e sc O G Fnc n cls W F A σ ρ H Q hy tk hs c I h
 cases e <;> (try (simp [chkE] at c; done))
 rename_i keys values pos
 match keys,values,c with
 | [some ek],[ev],c =>
  rw [chkE,Bool.and_eq_true,Bool.and_eq_true] at c
  obtain ⟨⟨c1,c2⟩,c3⟩:=c
  have h':PostR (fun d=>∀ v H',Got X.K F A O T (.disp1 t a b) H H' d v -> Q v H') (ExW cls W σ H) ((evE G Fnc a ρ).bind fun x=>(evE G Fnc b ρ).bind fun y=>dDisp t x y):=h
  refine we_of (zmk (t:=t) (by have:=hy.hu; omega) pe_we pe_we) fun p hp=>?_
  have x1:Ext Nix H (upd H p (empO t)):=Ext.new hp
  have I1:EnvR X.K F O (fun b=>A b \/ b=p) σ ρ (upd H p (empO t)):=zbs I hp (fun b o e=>x1.all e) upd_same (by cases t <;> rfl)
  refine ha hy tk hs c1 I1 (h'.bind.mono (fun x hx v H2 g=>?_) fun c hc=>hc.step x1)
  refine hb hy tk hs c2 (I1.step g.ext) (hx.bind.mono (fun y hy' u H3 g2=>?_) fun c hc=>hc.step (x1.trans g.ext))
  obtain ⟨d,ed,q⟩:=hy'.get (zhK t x y)
  have x3:Ext Nix (upd H p (empO t)) H3:=g.ext.trans g2.ext
  have hp3:H3 p=some (empO t):=x3.all upd_same
  have np:PPa F A p:=I.newP hp
  have ru:=g2.rep (by simpa using c3)
  have xf:∀ o,Ext Nix H (upd H3 p o):=fun o b q e _=>by
   rw [upd_ne (ne_of_none e hp)]
   exact x3.all (x1.all e)
  have le:∀ o,Le (PPa F fun b=>A b \/ b=p) (fun b=>PPa F A b /\ b ≠ p) H3 (upd H3 p o):=fun o =>
   ⟨fun b u hu eb=>by
    have ne:b ≠ p:=fun z=>by subst z; rw [hp3] at eb; cases t <;> (cases eb; cases hu)
    rw [upd_ne ne]; exact eb,fun b u _ q r=>by
    have ne:b ≠ p:=fun z=>q.2 (.inr z)
    rcases r with r | ⟨ob,r⟩
    ·exact .inl (by rw [upd_ne ne]; exact r)
    ·exact .inr ⟨ob,by rw [upd_ne ne]; exact r⟩,fun b u _ q r=>⟨⟨q.1,fun z=>q.2 (.inl z)⟩,fun z=>q.2 (.inr z)⟩⟩
  cases t with
  | false =>
   have hp4:H3 p=some (.dK []):=hp3
   obtain ⟨k,e1,e2⟩:=bind_ok (show (R.of (keyD x)).bind _=_ from ed)
   cases e2
   have ev:=zb8 (g.top.ext g2.ext) (of_ok e1)
   subst ev
   refine ⟨_,DPut.k (k:=k) (v:=u) hp4 (by rw [sizeLine_eq]; simp),q _ _ (.of (xf _) ?_ fun _=>⟨p,rfl,hp,?_⟩)⟩
   ·exact .dK (kvs:=[(k,y)]) (ws:=[(k,u)]) (.inl upd_same) np rfl (.cons ((ru.mono (le _)).weak fun _ z=>z.1) .nil)
   ·exact ⟨[(k,u)],upd_same,rfl,.cons (ru.mono (le _)) .nil⟩
  | true =>
   have hp4:H3 p=some (.dT []):=hp3
   cases x <;> (try (cases ed; done))
   rename_i ks
   obtain ⟨k,e1,e2⟩:=bind_ok (show (R.of (keysD ks)).bind _=_ from ed)
   cases e2
   obtain ⟨bt,vs,rfl,hb2,rb⟩:=(g.top.ext g2.ext).tup
   have ev:=zbf rb (of_ok e1)
   subst ev
   refine ⟨_,DPut.t (k:=k) (v:=u) hp4 hb2 (by rw [sizeLine_eq]; simp),q _ _ (.of (xf _) ?_ fun _=>⟨p,rfl,hp,?_⟩)⟩
   ·exact .dT (kvs:=[(k,y)]) (ws:=[(k,u)]) (.inl upd_same) np rfl (.cons ((ru.mono (le _)).weak fun _ z=>z.1) .nil)
   ·exact ⟨[(k,u)],upd_same,rfl,.cons (ru.mono (le _)) .nil⟩
end
end L2.Pf
namespace L2.Pf
open PySem PySem.Spec PyProof.Rows RT
section
variable {prog:Program} {w:World} {A:Around} {E:Value -> Shared -> Prop} {s:Shared}
theorem zml {i l:Addr} {its:Array Value} {R:Result -> Shared -> Prop} {n0:Addr} (nh:A.handled=none) (hi:s.heap.IsRevIter i l ((its.size:Int) - 1)) (hl:s.heap.IsList l its) (ne:l ≠ i) (sz:its.size <= sizeLine)
  (n1:n0 ≠ i) (n2:n0 ≠ l) (h0:s.heap.get? n0=some { cls:=.type "list",data:=.seq #[] })
  (hR:∀ s' acc c',(∀ b o,b ≠ i -> b ≠ n0 -> s.heap.get? b=some o -> s'.heap.get? b=some o) -> s'={ s with heap:=s'.heap,toks:=s'.toks } -> s'.heap.get? n0=some { cls:=.type "list",dict:=none,data:=.seq acc c',slots:=#[] } →
   ItemsOf (fun j v=>its[its.size - 1 - j]?=some v) acc its.size -> R (.ok (.ret .none)) s') :
  wpAny (model prog w) A.in1 (Builtin.«list.__init__» ⟨[.ref n0,.ref i],[]⟩)
   (fun f s'=>match f with | .done f=>R (.ok f) s' | .again c'=>c'.quiet=true /\ codeAny (model prog w) A c' R s') (fun e s'=>R (.error e) s') s:=by
 have W:=(Walks.listRev (prog:=prog) (w:=w) (A:=A.in1) nh i l ne its).toS
 have nf:n0 ∉ [i,l]:=by simp only [List.mem_cons,List.not_mem_nil,or_false,not_or]; exact ⟨n1,n2⟩
 show wpAny _ A.in1 (do let z <- Builtin.List.listItems (.ref n0); Builtin.List.listUpdate (.ref n0) (fun _=>#[]); letGo z.toList.reverse; Builtin.List.listExtendWith (.ref n0) (.ref i) .none) _ _ s
 refine wpAny_bind ?_
 unfold Builtin.List.listItems; refine wpAny_bind (wpAny_seqItems h0 rfl (wpAny_pure ?_))
 show wpAny _ A.in1 (updateSeq n0 (fun _=>#[]) >>= fun _=>letGo (#[]:Array Value).toList.reverse >>= fun _=>Builtin.List.listExtendWith (.ref n0) (.ref i) .none) _ _ s
 refine wpAny_bind (wpAny_updateSeq h0 rfl ?_)
 have h2:=Heap.get?_update_self (Obj.mapSeq (fun _=>(#[]:Array Value))) h0 rfl
 have o2:∀ b u,b ≠ n0 -> s.heap.get? b=some u -> (s.heap.update n0 (Obj.mapSeq (fun _=>(#[]:Array Value)))).get? b=some u:=fun b u hb e=>(Heap.get?_update_other _ _ (Ne.symm hb)).trans e
 refine wpAny_bind (wpAny_letGo ?_)
 have hi2:(s.heap.update n0 (Obj.mapSeq (fun _=>(#[]:Array Value)))).IsRevIter i l ((its.size:Int) - 1):=hi.at fun u e=>o2 i u (Ne.symm n1) e
 have hl2:(s.heap.update n0 (Obj.mapSeq (fun _=>(#[]:Array Value)))).IsList l its:=by
  obtain ⟨u,e,r⟩:=hl
  exact ⟨u,o2 l u (Ne.symm n2) e,r⟩
 generalize hg:(s.heap.update n0 (Obj.mapSeq (fun _=>(#[]:Array Value))))=g at h2 o2 hi2 hl2
 have ty:({ s with heap:=g }:Shared).TypeIs (.ref i) "list_reverseiterator":=Heap.IsRevIter.typeIs (s:={ s with heap:=g }) hi2
 have q1:Builtin.List.listSameRef (.ref n0) (.ref i)=false:=by simp [Builtin.List.listSameRef,n1]
 unfold Builtin.List.listExtendWith; refine wpAny_bind (wpAny_typeOf ty ?_)
 rw [if_neg (by rw [q1]; decide)]
 refine wpAny_bind (wpAny_pyIter_revIter (s:={ s with heap:=g }) hi2 ?_)
 refine wpAny_bind (wpAny_holding ?_); unfold Builtin.List.listLengthHint; refine wpAny_bind (wpAny_specialOf ty nolen_lri ?_)
 show wpAny _ A.in1 (specialOf (.ref i) (Str.ofString "__length_hint__") >>= _) _ _ _
 refine wpAny_bind (wpAny_specialOf ty hint_lri ?_)
 generalize hq:("list_reverseiterator.__length_hint__":String)=nm
 wp_delta
 rw [show splitId nm=some ("list_reverseiterator","__length_hint__") from by subst hq; decide +kernel]
 subst hq
 refine wpAny_bind (wpAny_isInstance (b:=true) ty (by rw [isSubtype_type]; kernel_rfl) ?_)
 refine wpAny_pure ?_
 rw [if_neg (by decide)]
 have z0:((its.size:Nat):Int) - 1 - ((0:Nat):Int)=(its.size:Int) - 1:=by omega
 refine wpAny_pure ⟨plainId_quiet F.plain_extend_loop _,codeAny_extend_loopS W sz _ nf _ its.size 0 _ _ _ rfl (Nat.zero_le _) ⟨Nat.zero_le _,by rw [z0]; exact hi2,hl2⟩ h2 (ItemsOf.nil _) fun s' acc c' mv hs ha=>?_⟩
 refine hR s' acc c' (fun b u b1 b2 e=>mv.heap b u (fun m=>?_) (o2 b u b2 e)) ?_ hs ha
 ·rcases List.mem_cons.mp m with e' | m
  ·exact b2 e'
  ·exact b1 (List.mem_singleton.mp m)
 ·have:=Moved.eq_with mv
  exact this
theorem zjf {i l:Addr} {its:Array Value} {Q:Value -> Shared -> Prop} (nh:A.handled=none) (hi:s.heap.IsRevIter i l ((its.size:Int) - 1)) (hl:s.heap.IsList l its) (ne:l ≠ i) (sz:its.size <= sizeLine)
  (hQ:∀ (h':Heap) (tk:Nat) (acc:Array Value) (c':Nat),(∀ b o,b ≠ i -> s.heap.get? b=some o -> h'.get? b=some o) -> h'.get? s.heap.objs.size=some { cls:=.type "list",dict:=none,data:=.seq acc c',slots:=#[] } →
   ItemsOf (fun j v=>its[its.size - 1 - j]?=some v) acc its.size -> Q (.ref s.heap.objs.size) { s with heap:=h',toks:=tk }) :
  wpAny (model prog w) A (call (.type "list") [.ref i]) Q E s:=by
 obtain ⟨oi,ei,_⟩:=id hi
 obtain ⟨ol,el,_⟩:=id hl
 have n1:s.heap.objs.size ≠ i:=Nat.ne_of_gt (Heap.lt_size ei)
 have n2:s.heap.objs.size ≠ l:=Nat.ne_of_gt (Heap.lt_size el)
 refine callType_codes (Q₁:=fun o t=>o=.ref s.heap.objs.size /\ t={ s with heap:=s.heap.push { cls:=.type "list",data:=.seq #[] } }) F.called_list (F.typeCall_list_1 _) F.entry_list_init (code_list_new _ ⟨rfl,rfl⟩) fun o t ht=>?_
 obtain ⟨rfl,rfl⟩:=ht
 have kp:∀ b o,s.heap.get? b=some o -> (s.heap.push { cls:=.type "list",data:=.seq #[] }).get? b=some o:=fun b o e=>Heap.get?_push_of_some _ e
 have at0:(s.heap.push { cls:=.type "list",data:=.seq #[] }).get? s.heap.objs.size=some { cls:=.type "list",data:=.seq #[] }:=Heap.get?_push_size _ rfl
 refine ⟨⟨_,at0,rfl⟩,F.args_list_init_2 _ _,zml (A:=A.in1) (s:={ s with heap:=s.heap.push { cls:=.type "list",data:=.seq #[] } }) nh (hi.at fun o e=>kp i o e) (hl.push _) ne sz n1 n2 at0 fun s' acc c' kk es hs ha=>⟨rfl,?_⟩⟩
 rw [es]
 exact hQ s'.heap s'.toks acc c' (fun b o hb e=>kk b o hb (Nat.ne_of_lt (Heap.lt_size e)) (kp b o e)) hs ha
end
def tLRev (K:PySem.W.Frag) (te:TE):TE:=fun σ H Q=>te σ H fun v H1=>∃ (a:Addr) (xs:List V),v=.ref a /\ SqL K H1 a xs /\ ∀ q,H1 q=none -> Q (.ref q) (upd H1 q (.lst xs.reverse))
theorem zpl {X:Cx} {e:Expr} {te:TE} {p p2 pos pos2:Pos} (hc:X.calm=true) (g1:Gl X "list") (m1:X.mg "list"=none) (g2:Gl X "reversed") (m2:X.mg "reversed"=none) (he:PE X e te)
  (s1:starEach [e] X.env=(false,eval e X.env) :: starEach [] X.env) :
  PE X (.Call (.Name "list" p) [.Call (.Name "reversed" p2) [e] [] pos2] [] pos) (tLRev X.K te):=by
 refine ⟨fun pins s σ H Q I h=>?_⟩
 have s2:starEach [.Call (.Name "reversed" p2) [e] [] pos2] X.env=(false,eval (.Call (.Name "reversed" p2) [e] [] pos2) X.env) :: starEach [] X.env:=by rfl
 refine Call_ (ld_blt I g1 m1 boot_list (PyProof.Rows.callWith_type1 (args_cons (Call_ (ld_blt I g2 m2 PyProof.Rows.boot_reversed (PyProof.Rows.callWith_type1 (args_cons (thn (he.run pins s σ H _ I h) fun u t ⟨v,H1,I1,r1,q1⟩=>args_nil ?_) s1) s1 rfl))) s2) s2 rfl))
 obtain ⟨a,xs,ev,hq,q⟩:=q1
 subst ev
 obtain rfl:u=Value.ref a:=r1
 obtain ⟨its,rv,p',hz⟩:=I1.list hq
 refine call_reversed_list p'.isList (args_nil ?_)
 have k0:∀ b o,t.heap.get? b=some o -> (t.heap.push (revObj a ((its.toArray.size:Int) - 1))).get? b=some o:=fun b o e=>Heap.get?_push_of_some _ e
 have I2:Inv X pins σ H1 { t with heap:=t.heap.push (revObj a ((its.toArray.size:Int) - 1)) }:=I1.kept (t':=t.toks) k0
 have fp:=I1.fpOk (H':=H1) (b:=t.heap.objs.size) (Nat.le_refl _) (I1.hok.fresh (Nat.le_refl _))
 have hl:=p'.isList
 obtain ⟨ol,hol,_⟩:=id hl
 have ne:a ≠ t.heap.objs.size:=Nat.ne_of_lt (Heap.lt_size hol)
 have hn:its.toArray.size <= sizeLine:=by rw [List.size_toArray,<- rv.length]; exact hz
 refine zjf (s:={ t with heap:=t.heap.push (revObj a ((its.toArray.size:Int) - 1)) }) (I1.ok.hd hc) ⟨_,Heap.get?_push_size _ rfl,rfl,rfl⟩ (hl.push _) ne hn fun h' tk acc c' hk hs hi=>?_
 have le:t.heap.objs.size <= (t.heap.push (revObj a ((its.toArray.size:Int) - 1))).objs.size:=by rw [size_push']; omega
 refine ⟨.ref (t.heap.push (revObj a ((its.toArray.size:Int) - 1))).objs.size,upd H1 (t.heap.push (revObj a ((its.toArray.size:Int) - 1))).objs.size (.lst xs.reverse),I2.turnedNew (ch:=[t.heap.objs.size]) (t':=tk) (fun b o hb e=>hk b o (fun z=>hb (by rw [z]; exact List.mem_singleton.mpr rfl)) e) (fun b hb=>by rw [List.mem_singleton.mp hb]; exact fp) (Nat.le_refl _)
  (show ObjOk X.prog X.w _ _ _ (.lst xs.reverse) from ⟨by rw [List.length_reverse]; exact hz,acc.toList,c',vals_rev rv hi,?_⟩),rfl,q _ (I1.hok.fresh le)⟩
 rw [Array.toArray_toList]
 exact hs
section
variable {T:List Def}
theorem zmm {a:E} (ha:SndE T a):SndE T (.lrev a):=by
 intro X e sc O G Fnc n cls W F A σ ρ H Q hy tk hs c I h
 obtain ⟨p,x,p',rfl,g1,c⟩:=zaM (show call1 sc "list" e _=true from c)
 obtain ⟨p2,y,p2',rfl,g2,c⟩:=zaM (show call1 sc "reversed" x _=true from c)
 subst hs
 obtain ⟨g1,_,_⟩:=gl_of g1
 obtain ⟨g2,_,_⟩:=gl_of g2
 have h':PostR (fun d=>∀ v H',Got X.K F A O T (.lrev a) H H' d v -> Q v H') (ExW cls W σ H) ((evE G Fnc a ρ).bind fun x=>(lstD x).bind fun xs=>R.ok (D.lst xs.reverse)):=h
 refine we_of (zpl hy.calm g1 (hy.blt _ (by decide)) g2 (hy.blt _ (by decide)) pe_we (zab (zaa _ _ c))) (ha hy tk rfl c I (h'.bind.mono (fun d hd v H1 g=>?_) fun _ z=>z))
 cases d <;> (try exact hd.elim)
 rename_i xs
 obtain ⟨b,vs,rfl,sq,r⟩:=g.top.lst
 refine ⟨b,vs,rfl,sq,fun q hq=>?_⟩
 exact zaC hq ((I.step g.ext).newP hq) r.reverse (zak g.ext hd)
end
end L2.Pf
namespace L2.Pf
open PySem PySem.Spec PyProof.Rows
theorem ze2 {e:Expr} {k:Expr -> Bool} (h:zde e k=true):∃ x j p1 p2 p3 pos,e=.Subscript x (.Slice none none (some (.UnaryOp .USub (.Constant (.int 1) j p1) p2)) p3) pos /\ k x=true:=by
 unfold zde at h; split at h
 ·exact ⟨_,_,_,_,_,_,rfl,h⟩
 ·cases h
theorem zjg (x y:D):noExc (dEqD x y):=by
 cases x <;> cases y <;> first
  | exact zal (zad _)
  | (intro c z; cases z)
theorem zmn {K:PySem.W.Frag} {H:Hp} {P P':Addr -> Prop} {d e:D} {v u:V} (h:sameF d e=true) (rd:Rep K H P d v) (re:Rep K H P' e u):v=u /\ flatB v=true:=by
 cases d <;> cases e <;> (try (cases h; done))
 ·cases rd; cases re; exact ⟨rfl,rfl⟩
 ·have:=of_decide_eq_true h
  subst this
  cases rd; cases re; exact ⟨rfl,rfl⟩
 ·have:=of_decide_eq_true h
  subst this
  cases rd; cases re; exact ⟨rfl,rfl⟩
 ·have:=of_decide_eq_true h
  subst this
  cases rd; cases re; exact ⟨rfl,rfl⟩
theorem zmo {K:PySem.W.Frag} {H:Hp} {P:Addr -> Prop} {k:Key}:∀ {kvs:List (Key × D)} {ws:List (Key × V)} {d:D},kvs.map (·.1)=ws.map (·.1) -> Reps K H P (kvs.map (·.2)) (ws.map (·.2)) -> look kvs k=some d -> ∃ v,valV ws k=some v /\ Rep K H P d v:=by
 intro kvs
 induction kvs with
 | nil=>intro ws d _ _ h; cases h
 | cons p kvs ih =>
  intro ws d e r h
  cases ws with
  | nil=>cases e
  | cons q ws =>
   have e1:p.1=q.1:=(List.cons.inj e).1
   have e2:=(List.cons.inj e).2
   cases r with
   | cons hr ht =>
    unfold look at h
    rw [List.find?_cons] at h
    by_cases c:p.1=k
    ·rw [decide_eq_true c] at h
     have ed:p.2=d:=Option.some.inj h
     refine ⟨q.2,?_,ed ▸ hr⟩
     unfold valV
     rw [List.find?_cons]
     rw [e1] at c
     simp [c]
    ·rw [decide_eq_false c] at h
     obtain ⟨v,h1,h2⟩:=ih e2 ht h
     refine ⟨v,?_,h2⟩
     unfold valV at h1 ⊢
     rw [List.find?_cons]
     rw [e1] at c
     simpa [c] using h1
section
variable {T:List Def}
theorem zmp {a:E} (ha:SndE T a):SndE T (.revL a):=by
 intro X e sc O G Fnc n cls W F A σ ρ H Q hy tk hs c I h
 obtain ⟨x,j,p1,p2,p3,pos,rfl,c⟩:=ze2 (show zde e (fun x=>chkE X.N T sc O a x)=true from c)
 have h':PostR (fun d=>∀ v H',Got X.K F A O T (.revL a) H H' d v -> Q v H') (ExW cls W σ H) ((evE G Fnc a ρ).bind fun x=>(lstD x).bind fun xs=>R.ok (D.lst xs.reverse)):=h
 refine we_of (pe_revL pe_we) (ha hy tk hs c I (h'.bind.mono (fun d hd v H1 g=>?_) fun _ z=>z))
 cases d <;> (try exact hd.elim)
 rename_i xs
 obtain ⟨b,vs,rfl,sq,r⟩:=g.top.lst
 refine ⟨b,vs,rfl,sq,fun q hq=>?_⟩
 exact zaC hq ((I.step g.ext).newP hq) r.reverse (zak g.ext hd)
theorem zgY {neg:Bool} {a:E} {g:Str} {ss:List Str} (ha:SndE T a) {X:Cx} {e:Expr} {sc:Scope} {O:List Nat} {G:Str -> Option Pf.D} {Fnc:Fn} {n:Nat} {cls:Str -> Option Addr} {W:WX} {F:Fx} {A:Addr -> Prop} {σ:St} {ρ:Env} {H:Hp} {Q:VK} {Qb:Bool -> Hp -> Prop}
  (hy:Hy X T G Fnc n cls) (tk:Takes X W) (hs:X.env.scope=sc) (c:chkE X.N T sc O (.inG neg a g ss) e=true) (I:EnvR X.K F O A σ ρ H)
  (h:PostR (fun d=>∀ b H',Ext Nix H H' -> d=Pf.D.bl b -> Q (.bl b) H' /\ Qb b H') (ExW cls W σ H) (evE G Fnc (.inG neg a g ss) ρ)):WE X e σ H Q /\ WT X e σ H Qb:=by
 cases e <;> (try (simp [chkE] at c; done))
 rename_i x os ys p
 rcases os with _ | ⟨o,_ | ⟨o2,os⟩⟩ <;> rcases ys with _ | ⟨y,_ | ⟨y2,ys⟩⟩ <;> (try (simp [chkE] at c; done))
 cases y <;> (try (simp [chkE] at c; done))
 rename_i y py
 rw [chkE] at c
 simp only [Bool.and_eq_true] at c
 obtain ⟨⟨⟨⟨c1,c2⟩,c3⟩,c4⟩,c5⟩:=c
 have eg:g=y:=by simpa using c2
 subst eg
 subst hs
 obtain ⟨g1,g2,g3⟩:=gl_of c3
 unfold tabB at c4
 cases ed:findD T g with
 | none=>rw [ed] at c4; cases c4
 | some d =>
  rw [ed] at c4
  rw [Bool.and_eq_true] at c4
  obtain ⟨t1,t2⟩:=c4
  have eps:d.ps=ss:=by simpa using t2
  obtain ⟨ad,ob,its,nn,m1,m2,m3,m4,m5,m6⟩:=hy.tab g d ed t1
  rw [eps] at m6
  have h':PostR (fun d=>∀ b H',Ext Nix H H' -> d=Pf.D.bl b -> Q (.bl b) H' /\ Qb b H') (ExW cls W σ H) ((evE G Fnc a ρ).bind fun x=>R.when (flatD x) (R.ok (D.bl (if neg=true then !(ss.any fun z=>PyData.eqv (.str z) x.py) else ss.any fun z=>PyData.eqv (.str z) x.py)))):=h
  have hk:isCop (if neg=true then COp.notin else COp.isin) o=true:=c1
  have ho:=zas hk
  have main:∀ (v:V) (H1:Hp) (dx:Pf.D),Got X.K F A O T a H H1 dx v -> PostR (fun d=>∀ b H',Ext Nix H H' -> d=Pf.D.bl b -> Q (.bl b) H' /\ Qb b H') (ExW cls W σ H) (R.when (flatD dx) (R.ok (D.bl (if neg=true then !(ss.any fun z=>PyData.eqv (.str z) dx.py) else ss.any fun z=>PyData.eqv (.str z) dx.py)))) →
    flatV v=true /\ (ss.map V.str).all flatV=true /\ Q (.bl (if neg=true then !inV v (ss.map V.str) else inV v (ss.map V.str))) H1 /\ Qb (if neg=true then !inV v (ss.map V.str) else inV v (ss.map V.str)) H1:=fun v H1 dx gt hd=>by
   obtain ⟨w,q⟩:=PostR.when hd
   have fs:(ss.map Pf.D.str).all flatD=true:=by
    rw [List.all_map,List.all_eq_true]; intro _ _; rfl
   have rs:Reps X.K H1 (PPa F A) (ss.map .str) (ss.map .str):=Reps.strs ss
   have ei:=zcy gt.top w rs fs
   have e2:(ss.any fun z=>PyData.eqv (.str z) dx.py)=inV v (ss.map V.str):=by
    rw [ei,List.any_map]; rfl
   refine ⟨zbM gt.top w,zbg rs fs,?_⟩
   rw [<- e2]
   exact q _ _ gt.ext rfl
  have sq:∀ H1:Hp,SqT X.K H1 ad (ss.map V.str):=fun H1=>.inr ⟨ob,its,nn,m2,m3,m4,m5,m6⟩
  cases neg with
  | true =>
   have ho:o=.NotIn:=ho
   subst ho
   refine ⟨we_of (pe_cmpR op_notIn_seq pe_we (pe_glob (v:=.ref ad) g1 m1 rfl g2) rfl) (ha hy tk rfl c5 I (h'.bind.mono (fun dx hd v H1 gt=>?_) fun _ z=>z)),wt_of (pt_cmpR op_notIn_seq pe_we (pe_glob (v:=.ref ad) g1 m1 rfl g2) rfl) (ha hy tk rfl c5 I (h'.bind.mono (fun dx hd v H1 gt=>?_) fun _ z=>z))⟩
   ·obtain ⟨q1,q2,q3⟩:=main v H1 dx gt hd
    exact ⟨ad,_,rfl,.inr (sq H1),q1,q2,q3.1⟩
   ·obtain ⟨q1,q2,q3⟩:=main v H1 dx gt hd
    exact ⟨ad,_,rfl,.inr (sq H1),q1,q2,_,rfl,q3.2⟩
  | false =>
   have ho:o=.In:=ho
   subst ho
   refine ⟨we_of (pe_cmpR op_in_seq pe_we (pe_glob (v:=.ref ad) g1 m1 rfl g2) rfl) (ha hy tk rfl c5 I (h'.bind.mono (fun dx hd v H1 gt=>?_) fun _ z=>z)),wt_of (pt_cmpR op_in_seq pe_we (pe_glob (v:=.ref ad) g1 m1 rfl g2) rfl) (ha hy tk rfl c5 I (h'.bind.mono (fun dx hd v H1 gt=>?_) fun _ z=>z))⟩
   ·obtain ⟨q1,q2,q3⟩:=main v H1 dx gt hd
    exact ⟨ad,_,rfl,.inr (sq H1),q1,q2,q3.1⟩
   ·obtain ⟨q1,q2,q3⟩:=main v H1 dx gt hd
    exact ⟨ad,_,rfl,.inr (sq H1),q1,q2,_,rfl,q3.2⟩
theorem zpm {neg:Bool} {a:E} {g:Str} {ss:List Str} (ha:SndE T a):SndE T (.inG neg a g ss):=by
 intro X e sc O G Fnc n cls W F A σ ρ H Q hy tk hs c I h
 exact (zgY ha (Qb:=fun _ _=>True) hy tk hs c I (h.mono (fun d hd b H' x e=>⟨hd _ _ (by subst e; exact .of x (.bl _) (FreshR.flat rfl)),trivial⟩) fun _ z=>z)).1
theorem zmq {neg:Bool} {a:E} {g:Str} {ss:List Str} (ha:SndE T a):SndT T (.inG neg a g ss):=by
 intro X e sc O G Fnc n cls W F A σ ρ H Q hy tk hs c I h
 refine (zgY ha (Q:=fun _ _=>True) hy tk hs c I (h.bind.mono (fun d hd b H' x e=>⟨trivial,?_⟩) fun _ z=>z)).2
 subst e
 have hd:∀ H',Ext Nix H H' -> Q b H':=hd
 exact hd _ x
theorem zgZ {ne:Bool} {i j:Nat} {X:Cx} {e:Expr} {sc:Scope} {O:List Nat} {G:Str -> Option Pf.D} {Fnc:Fn} {n:Nat} {cls:Str -> Option Addr} {F:Fx} {A:Addr -> Prop} {σ:St} {ρ:Env} {H:Hp} {Q:VK} {Qb:Bool -> Hp -> Prop} {E:Str -> Prop}
  (hy:Hy X T G Fnc n cls) (hs:X.env.scope=sc) (c:chkE X.N T sc O (.eqD ne i j) e=true) (I:EnvR X.K F O A σ ρ H)
  (h:PostR (fun d=>∀ b,d=Pf.D.bl b -> Q (.bl b) H /\ Qb b H) E (evE G Fnc (.eqD ne i j) ρ)):WE X e σ H Q /\ WT X e σ H Qb:=by
 cases e <;> (try (simp [chkE] at c; done))
 rename_i x os ys p
 cases x <;> (try (simp [chkE] at c; done))
 rename_i x px
 rcases os with _ | ⟨o,_ | ⟨o2,os⟩⟩ <;> rcases ys with _ | ⟨y,_ | ⟨y2,ys⟩⟩ <;> (try (simp [chkE] at c; done))
 cases y <;> (try (simp [chkE] at c; done))
 rename_i y py
 rw [chkE] at c
 simp only [Bool.and_eq_true] at c
 obtain ⟨⟨⟨⟨⟨⟨c1,c2⟩,c3⟩,c4⟩,c5⟩,c6⟩,c7⟩:=c
 subst hs
 obtain ⟨v1,v2,v3⟩:=zbw c3
 obtain ⟨u1,u2,u3⟩:=zbw c6
 have h':PostR (fun d=>∀ b,d=Pf.D.bl b -> Q (.bl b) H /\ Qb b H) E ((getV ρ i).bind fun x=>(getV ρ j).bind fun y=>(dEqD x y).bind fun c=>R.ok (D.bl (if ne=true then !c else c))):=h
 have gv:∀ {k:Nat} {β:Type} {f:Pf.D -> R β} {p:β -> Prop} {e:Str -> Prop},PostR p e ((getV ρ k).bind f) -> ∃ d,ρ[k]?=some (some d) /\ PostR p e (f d):=fun {k β f p e} h=>by
  unfold getV at h
  split at h
  ·rename_i d ed; exact ⟨d,ed,h⟩
  ·exact h.elim
 obtain ⟨dx,ex,h1⟩:=gv h'
 obtain ⟨dy,ey,h2⟩:=gv h1
 obtain ⟨b,eb,q⟩:=h2.bind.get (zjg dx dy)
 cases dx <;> (try (cases eb; done))
 cases dy <;> (try (cases eb; done))
 rename_i ks ls
 obtain ⟨w,e2⟩:=zae (show R.when _ _=_ from eb)
 cases e2
 rw [Bool.and_eq_true] at w
 obtain ⟨ax,sx,_,wx,hx,kx,rx⟩:=I.own ex c4 rfl
 obtain ⟨ay,sy,_,wy,hy2,ky,ry⟩:=I.own ey c7 rfl
 have hl:wx.length=wy.length:=by
  have:=of_decide_eq_true w.1
  have a1:=congrArg List.length kx
  have a2:=congrArg List.length ky
  rw [List.length_map,List.length_map] at a1 a2
  omega
 have all:∀ p ∈ wx,valV wy p.1=some p.2 /\ flatB p.2=true:=by
  have key:∀ {kvs:List (Key × Pf.D)} {ws:List (Key × V)},kvs.map (·.1)=ws.map (·.1) -> Reps X.K H (PPa F A) (kvs.map (·.2)) (ws.map (·.2)) -> (kvs.all fun p=>match look ls p.1 with | some d=>sameF d p.2 | none=>false)=true -> ∀ p ∈ ws,valV wy p.1=some p.2 /\ flatB p.2=true:=by
   intro kvs
   induction kvs with
   | nil =>
    intro ws e r a p hp
    cases ws with
    | nil=>cases hp
    | cons _ _=>cases e
   | cons k kvs ih =>
    intro ws e r a p hp
    cases ws with
    | nil=>cases hp
    | cons w ws =>
     have e1:k.1=w.1:=(List.cons.inj e).1
     have e2:=(List.cons.inj e).2
     rw [List.all_cons,Bool.and_eq_true] at a
     cases r with
     | cons hr ht =>
      rcases List.mem_cons.mp hp with rfl | hp
      ·have a1:=a.1
       cases el:look ls k.1 with
       | none=>rw [el] at a1; cases a1
       | some d =>
        rw [el] at a1
        obtain ⟨v,h1,h2⟩:=zmo ky ry el
        obtain ⟨z1,z2⟩:=zmn a1 h2 hr
        rw [<- e1]
        subst z1
        exact ⟨h1,z2⟩
      ·exact ih e2 ht a.2 p hp
  exact key kx rx w.2
 have hu:X.A.units < cLine:=by have:=hy.hu; omega
 have hk:isCop (if ne=true then COp.ne else COp.eq) o=true:=c1
 have ho:=zas hk
 cases ne with
 | true =>
  have ho:o=.NotEq:=ho
  subst ho
  exact ⟨we_of (pe_cmpR (op_ne_dictA hu) (pe_var (by simpa using c2) v1 v2 v3) (pe_var (by simpa using c5) u1 u2 u3) rfl) ⟨_,sx,_,sy,ax,ay,wx,wy,rfl,rfl,hx,hy2,hl,all,(q _ rfl).1⟩,
   wt_of (pt_cmpR (op_ne_dictA hu) (pe_var (by simpa using c2) v1 v2 v3) (pe_var (by simpa using c5) u1 u2 u3) rfl) ⟨_,sx,_,sy,ax,ay,wx,wy,rfl,rfl,hx,hy2,hl,all,_,rfl,(q _ rfl).2⟩⟩
 | false =>
  have ho:o=.Eq:=ho
  subst ho
  exact ⟨we_of (pe_cmpR (op_eq_dictA hu) (pe_var (by simpa using c2) v1 v2 v3) (pe_var (by simpa using c5) u1 u2 u3) rfl) ⟨_,sx,_,sy,ax,ay,wx,wy,rfl,rfl,hx,hy2,hl,all,(q _ rfl).1⟩,
   wt_of (pt_cmpR (op_eq_dictA hu) (pe_var (by simpa using c2) v1 v2 v3) (pe_var (by simpa using c5) u1 u2 u3) rfl) ⟨_,sx,_,sy,ax,ay,wx,wy,rfl,rfl,hx,hy2,hl,all,_,rfl,(q _ rfl).2⟩⟩
theorem zpn {ne:Bool} {i j:Nat}:SndE T (.eqD ne i j):=by
 intro X e sc O G Fnc n cls W F A σ ρ H Q hy tk hs c I h
 exact (zgZ (Qb:=fun _ _=>True) (E:=ExW cls W σ H) hy hs c I (h.mono (fun d hd b e=>⟨hd _ _ (by subst e; exact .of Ext.refl (.bl _) (FreshR.flat rfl)),trivial⟩) fun _ z=>z)).1
theorem zmr {ne:Bool} {i j:Nat}:SndT T (.eqD ne i j):=by
 intro X e sc O G Fnc n cls W F A σ ρ H Q hy tk hs c I h
 refine (zgZ (Q:=fun _ _=>True) (E:=ExW cls W σ H) hy hs c I (h.bind.mono (fun d hd b e=>⟨trivial,?_⟩) fun _ z=>z)).2
 subst e
 have hd:∀ H',Ext Nix H H' -> Q b H':=hd
 exact hd _ Ext.refl
def trsOf (X:Cx) (ks:List Str) (values:List Expr):List (TE × TE):=(ks.zip values).map fun p=>(tC (.str p.1),WE X p.2)
theorem zor {X:Cx} {pos:Pos}:∀ {ks:List Str} {keys:List (Option Expr)} {values:List Expr},keysB ks keys=true -> keys.length=values.length -> PPs X pos keys values (trsOf X ks values)
 | [],[],[],_,_=>pps_nil
 | [],[],_ :: _,_,h=>by simp at h
 | [],_ :: _,_,h,_=>by simp [keysB] at h
 | _ :: _,[],_,h,_=>by simp [keysB] at h
 | k :: ks,q :: keys,[],_,h=>by simp at h
 | k :: ks,q :: keys,v :: values,h,hl=>by
  cases q <;> (try (simp [keysB] at h; done))
  rename_i q
  cases q <;> (try (simp [keysB] at h; done))
  rename_i cc j p
  cases cc <;> (try (simp [keysB] at h; done))
  rw [keysB,Bool.and_eq_true] at h
  have e:=beq_iff_eq.mp h.1
  subst e
  exact pps_cons pe_str pe_we (zor h.2 (by simpa using hl))
def SndPs (T:List Def) (m:Es):Prop:=∀ {X:Cx} {e:List Expr} {ks:List Str} {sc:Scope} {O:List Nat} {G:Str -> Option Pf.D} {Fnc:Fn} {n:Nat} {cls:Str -> Option Addr} {W:WX} {F:Fx} {A:Addr -> Prop} {σ:St} {ρ:Env} {H:Hp} {Q:List (V × V) -> Hp -> Prop},
 Hy X T G Fnc n cls -> Takes X W -> X.env.scope=sc -> chkEs X.N T sc O m e=true -> bares O m=false -> ks.length=e.length -> EnvR X.K F O A σ ρ H →
 PostR (fun ds=>∀ vs H',Ext Nix H H' -> Reps X.K H' (PPa F A) ds vs -> Q ((ks.zip vs).map fun p=>(V.str p.1,p.2)) H') (ExW cls W σ H) (evEs G Fnc m ρ) -> tPairs (trsOf X ks e) σ H Q
theorem zpo:SndPs T .nil:=by
 intro X e ks sc O G Fnc n cls W F A σ ρ H Q hy tk hs c b hl I h
 cases e <;> (try (simp [chkEs] at c; done))
 cases ks with
 | nil=>exact h [] H Ext.refl .nil
 | cons _ _=>simp at hl
theorem zms {a:E} {r:Es} (ha:SndE T a) (hr:SndPs T r):SndPs T (.cons a r):=by
 intro X e ks sc O G Fnc n cls W F A σ ρ H Q hy tk hs c b hl I h
 cases e <;> (try (simp [chkEs] at c; done))
 rename_i x xs
 rw [chkEs,Bool.and_eq_true] at c
 have b':(bareO O a || bares O r)=false:=b
 rw [Bool.or_eq_false_iff] at b'
 cases ks with
 | nil=>simp at hl
 | cons k ks =>
  have h':PostR _ _ ((evE G Fnc a ρ).bind fun x=>(evEs G Fnc r ρ).bind fun y=>R.ok (x :: y)):=h
  refine ha hy tk hs c.1 I (h'.bind.mono (fun d hd v H1 g=>?_) fun _ z=>z)
  refine hr hy tk hs c.2 b'.2 (by simpa using hl) (I.step g.ext) (hd.bind.mono (fun ds hds vs H2 x2 t=>?_) fun c hc=>ExW.step hc g.ext)
  exact hds (v :: vs) H2 (g.ext.trans x2) (.cons ((g.rep b'.1).ext x2 fun _ _ z=>z) t)
theorem ze3:∀ {ks:List Str} {keys:List (Option Expr)},keysB ks keys=true -> ks.length=keys.length /\ keys.all (·.isSome)=true
 | [],[],_=>⟨rfl,rfl⟩
 | [],_ :: _,h=>by simp [keysB] at h
 | _ :: _,[],h=>by simp [keysB] at h
 | k :: ks,q :: keys,h=>by
  cases q <;> (try (simp [keysB] at h; done))
  rename_i q
  cases q <;> (try (simp [keysB] at h; done))
  rename_i cc j p
  cases cc <;> (try (simp [keysB] at h; done))
  rw [keysB,Bool.and_eq_true] at h
  obtain ⟨h1,h2⟩:=ze3 h.2
  exact ⟨by rw [List.length_cons,List.length_cons,h1],by rw [List.all_cons,h2]; rfl⟩
theorem ze4:∀ (ks:List Str) (vs:List V) (acc:List (Key × V)),zgK ks=true -> (∀ k ∈ ks,∀ p ∈ acc,p.1 ≠ Sum.inr k) -> mergeK acc ((ks.zip vs).map fun p=>(Sum.inr p.1,p.2))=acc ++ (ks.zip vs).map fun p=>(Sum.inr p.1,p.2)
 | [],vs,acc,_,_=>by simp [mergeK]
 | k :: ks,[],acc,_,_=>by simp [mergeK]
 | k :: ks,v :: vs,acc,h,hd=>by
  rw [zgK,Bool.and_eq_true] at h
  have hp:putK acc (Sum.inr k:Key) v=acc ++ [(Sum.inr k,v)]:=by
   unfold putK
   have:(acc.any fun kv=>decide (kv.1=(Sum.inr k:Key)))=false:=by
    rw [List.any_eq_false]
    intro p hp
    simpa using hd k List.mem_cons_self p hp
   rw [this]; rfl
  show mergeK (putK acc (Sum.inr k) v) ((ks.zip vs).map fun p=>(Sum.inr p.1,p.2))=_
  rw [hp,ze4 ks vs _ h.2 (fun k' hk' p hpm=>?_)]
  ·simp
  ·rcases List.mem_append.mp hpm with hpm | hpm
   ·exact hd k' (List.mem_cons_of_mem _ hk') p hpm
   ·rw [List.mem_singleton.mp hpm]
    intro z
    have:k=k':=Sum.inr.inj z
    subst this
    have:=h.1
    simp at this
    exact this hk'
theorem zjh {ks:List Str} {es:Es} (he:SndPs T es):SndE T (.dispN ks es):=by
 intro X e sc O G Fnc n cls W F A σ ρ H Q hy tk hs c I h
 cases e <;> (try (simp [chkE] at c; done))
 rename_i keys values pos
 rw [chkE] at c
 simp only [Bool.and_eq_true] at c
 obtain ⟨⟨⟨⟨⟨⟨c1,c2⟩,c3⟩,c4⟩,c5⟩,c6⟩,c7⟩:=c
 obtain ⟨k1,k2⟩:=ze3 c1
 have hlen:=of_decide_eq_true c7
 have h':PostR (fun d=>∀ v H',Got X.K F A O T (.dispN ks es) H H' d v -> Q v H') (ExW cls W σ H) ((evEs G Fnc es ρ).bind fun xs=>R.when (decide (xs.length=ks.length)) (R.ok (D.dK ((ks.zip xs).map fun p=>(.inr p.1,p.2))))):=h
 refine we_of (pe_disp (zor c1 hlen) k2 hlen (by intro z; subst z; simp at k1; subst k1; cases c6) (by have:=of_decide_eq_true c4; omega)) fun p hp=>?_
 have x1:Ext Nix H (upd H p (.dK [])):=Ext.new hp
 have I1:EnvR X.K F O (fun b=>A b \/ b=p) σ ρ (upd H p (.dK [])):=zbs I hp (fun b o e=>x1.all e) upd_same rfl
 refine he hy tk hs c2 (by simpa using c3) (by omega) I1 (h'.bind.mono (fun ds hds vs H2 x2 r=>?_) fun c hc=>hc.step x1)
 obtain ⟨w,q⟩:=hds.when
 have hl:=of_decide_eq_true w
 have hp3:H2 p=some (.dK []):=x2.all upd_same
 have np:PPa F A p:=I.newP hp
 have xf:∀ o,Ext Nix H (upd H2 p o):=fun o b q e _=>by
  rw [upd_ne (ne_of_none e hp)]
  exact x2.all (x1.all e)
 have le:∀ o,Le (PPa F fun b=>A b \/ b=p) (fun b=>PPa F A b /\ b ≠ p) H2 (upd H2 p o):=fun o =>
  ⟨fun b u hu eb=>by
   have ne:b ≠ p:=fun z=>by subst z; rw [hp3] at eb; cases eb; cases hu
   rw [upd_ne ne]; exact eb,fun b u _ q r=>by
   have ne:b ≠ p:=fun z=>q.2 (.inr z)
   rcases r with r | ⟨ob,r⟩
   ·exact .inl (by rw [upd_ne ne]; exact r)
   ·exact .inr ⟨ob,by rw [upd_ne ne]; exact r⟩,fun b u _ q r=>⟨⟨q.1,fun z=>q.2 (.inl z)⟩,fun z=>q.2 (.inr z)⟩⟩
 have e1:∀ (xs:List Pf.D),((ks.zip xs).map fun p=>((Sum.inr p.1:Key),p.2)).map (·.1)=(ks.zip xs).map fun p=>(Sum.inr p.1:Key):=fun xs=>by rw [List.map_map]; rfl
 have e2:∀ (xs:List V),((ks.zip xs).map fun p=>((Sum.inr p.1:Key),p.2)).map (·.1)=(ks.zip xs).map fun p=>(Sum.inr p.1:Key):=fun xs=>by rw [List.map_map]; rfl
 have hv:vs.length=ks.length:=by rw [<- r.length]; exact hl
 have ek:((ks.zip ds).map fun p=>((Sum.inr p.1:Key),p.2)).map (·.1)=((ks.zip vs).map fun p=>((Sum.inr p.1:Key),p.2)).map (·.1):=by
  rw [e1,e2]
  have z1:(ks.zip ds).map (fun p=>(Sum.inr p.1:Key))=ks.map Sum.inr:=by
   have:(fun p:Str × Pf.D=>(Sum.inr p.1:Key))=Sum.inr ∘ Prod.fst:=rfl
   rw [this,<- List.map_map,List.map_fst_zip (by omega)]
  have z2:(ks.zip vs).map (fun p=>(Sum.inr p.1:Key))=ks.map Sum.inr:=by
   have:(fun p:Str × V=>(Sum.inr p.1:Key))=Sum.inr ∘ Prod.fst:=rfl
   rw [this,<- List.map_map,List.map_fst_zip (by omega)]
  rw [z1,z2]
 have rr:∀ o,Reps X.K (upd H2 p o) (fun b=>PPa F A b /\ b ≠ p) (((ks.zip ds).map fun p=>((Sum.inr p.1:Key),p.2)).map (·.2)) (((ks.zip vs).map fun p=>((Sum.inr p.1:Key),p.2)).map (·.2)):=fun o=>by
  have z1:(((ks.zip ds).map fun p=>((Sum.inr p.1:Key),p.2)).map (·.2))=ds:=by
   rw [List.map_map]
   have:((fun x:Key × Pf.D=>x.2) ∘ fun p:Str × Pf.D=>((Sum.inr p.1:Key),p.2))=Prod.snd:=rfl
   rw [this,List.map_snd_zip (by omega)]
  have z2:(((ks.zip vs).map fun p=>((Sum.inr p.1:Key),p.2)).map (·.2))=vs:=by
   rw [List.map_map]
   have:((fun x:Key × V=>x.2) ∘ fun p:Str × V=>((Sum.inr p.1:Key),p.2))=Prod.snd:=rfl
   rw [this,List.map_snd_zip (by omega)]
  rw [z1,z2]
  exact r.mono (le o)
 refine ⟨hp3,(ks.zip vs).map fun p=>((Sum.inr p.1:Key),p.2),by rw [List.map_map]; rfl,by rw [List.length_map,List.length_zip]; have:=of_decide_eq_true c4; omega,?_⟩
 rw [ze4 ks vs [] c5 (fun _ _ _ z=>by cases z),List.nil_append]
 refine q _ _ (.of (xf _) ?_ fun _=>⟨p,rfl,hp,?_⟩)
 ·exact .dK (.inl upd_same) np ek ((rr _).weak fun _ z=>z.1)
 ·exact ⟨_,upd_same,ek,rr _⟩
end
end L2.Pf
namespace L2.Pf
open PySem PySem.Spec PyProof.Rows
theorem zbU {xs:List V} {us:List Value} (r:Vals xs us):∀ is:List Nat,Vals (is.filterMap fun i=>xs[i]?) (is.filterMap fun i=>us[i]?)
 | []=>.nil
 | i :: is=>by
  rw [List.filterMap_cons,List.filterMap_cons]
  cases e:xs[i]? with
  | none=>rw [r.none_of e]; exact zbU r is
  | some x =>
   obtain ⟨u,hu,ru⟩:=r.get e
   rw [hu]
   exact .cons ru (zbU r is)
theorem zji {K:PySem.W.Frag} {H:Hp} {P:Addr -> Prop}:∀ {ds:List D} {vs:List V} (i:Nat),Reps K H P ds vs -> (ds[i]?=none /\ vs[i]?=none) \/ ∃ d v,ds[i]?=some d /\ vs[i]?=some v /\ Rep K H P d v
 | _,_,i,.nil=>.inl ⟨rfl,rfl⟩
 | _,_,0,.cons h _=>.inr ⟨_,_,rfl,rfl,h⟩
 | _,_,i+1,.cons _ t=>zji i t
theorem zbV {K:PySem.W.Frag} {H:Hp} {P:Addr -> Prop} {ds:List D} {vs:List V} (r:Reps K H P ds vs):∀ is:List Nat,Reps K H P (is.filterMap fun i=>ds[i]?) (is.filterMap fun i=>vs[i]?)
 | []=>.nil
 | i :: is=>by
  rw [List.filterMap_cons,List.filterMap_cons]
  rcases zji i r with ⟨h1,h2⟩ | ⟨d,v,h1,h2,h3⟩
  ·rw [h1,h2]; exact zbV r is
  ·rw [h1,h2]; exact .cons h3 (zbV r is)
theorem zg0 {lo k:Nat} {e:Expr} {c:Expr -> Bool} (h:isStp lo k e c=true):∃ x j1 p1 j2 p2 p3 pos,e=.Subscript x (.Slice (some (.Constant (.int (lo:Int)) j1 p1)) none (some (.Constant (.int (k:Int)) j2 p2)) p3) pos /\ 0 < k /\ c x=true:=by
 unfold isStp at h; split at h
 ·simp only [Bool.and_eq_true,beq_iff_eq,decide_eq_true_eq] at h
  obtain ⟨⟨⟨rfl,rfl⟩,h3⟩,h4⟩:=h
  exact ⟨_,_,_,_,_,_,_,rfl,h3,h4⟩
 ·cases h
theorem zjj (its:List Value) (lo k:Nat):slicePick its.toArray (some (lo:Int)) none (some (k:Int))=(pickL its lo k).toArray:=by
 unfold slicePick pickL pickI
 rw [List.size_toArray]
 congr 1
 exact congrArg (fun f=>List.filterMap f _) (funext fun i=>by rw [List.getElem?_toArray])
theorem zmt {α:Type} (xs:List α) (its:List Value) (lo k:Nat) (h:xs.length=its.length) (e:(pickL xs lo k).length=(pickL its lo k).length):(pickL xs lo k).length <= xs.length:=by
 have:=slicePick_size_le its.toArray (some (lo:Int)) none (some (k:Int))
 rw [zjj] at this
 simp only [List.size_toArray] at this
 omega
def tStpL (K:PySem.W.Frag) (te:TE) (lo k:Nat):TE:=fun σ H Q=>te σ H fun x H1=>∃ a xs,x=.ref a /\ SqL K H1 a xs /\ ∀ p,H1 p=none -> Q (.ref p) (upd H1 p (.lst (pickL xs lo k)))
theorem zpp {X:Cx} {e:Expr} {te:TE} {lo k j1 j2:Nat} {p1 p2 p3 pos:Pos} (hk:0 < k) (he:PE X e te):PE X (.Subscript e (.Slice (some (.Constant (.int (lo:Int)) j1 p1)) none (some (.Constant (.int (k:Int)) j2 p2)) p3) pos) (tStpL X.K te lo k):=by
 refine ⟨fun pins s σ H Q I h=>?_⟩
 refine Subscript_ (thn (he.run pins s σ H _ I h) fun v s1 ⟨x,H1,I1,r1,q1⟩=>?_)
 obtain ⟨a,xs,ex,hx,q⟩:=q1
 subst ex
 cases r1
 have hlo:PO X (some (.Constant (.int (lo:Int)) j1 p1)) (tPart (tC (.int (lo:Int)))):=po_some pe_int
 have hst:PO X (some (.Constant (.int (k:Int)) j2 p2)) (tPart (tC (.int (k:Int)))):=po_some pe_int
 refine wpAny_Slice (thn (hlo.run pins s1 σ H1 (fun o H2=>o=some (lo:Int) /\ H2=H1) I1 ⟨_,rfl,rfl,rfl⟩) fun vl s2 ⟨l,H2,I2,pl,el,e2⟩=>?_)
 subst el e2
 refine thn (po_none.run pins s2 σ H2 (fun o H3=>o=none /\ H3=H2) I2 ⟨rfl,rfl⟩) fun vu s3 ⟨u,H3,I3,pu,eu,e3⟩=>?_
 subst eu e3
 refine thn (hst.run pins s3 σ H3 (fun o H4=>o=some (k:Int) /\ H4=H3) I3 ⟨_,rfl,rfl,rfl⟩) fun vs s4 ⟨o,H4,I4,ps,eo,e4⟩=>?_
 subst eo e4
 have I5:Inv X pins σ H4 { s4 with heap:=s4.heap.push { cls:=.type "slice",data:=.fields #[vl,vu,vs] } }:=I4.kept (t':=s4.toks) fun b ob q=>Heap.get?_push_of_some _ q
 obtain ⟨its,r,ht,hz⟩:=I5.list hx
 have hlen:=r.length
 show wpAny (model X.prog X.w) X.A (subscriptTail e (.Slice (some (.Constant (.int (lo:Int)) j1 p1)) none (some (.Constant (.int (k:Int)) j2 p2)) p3) (.ref a) (.ref s4.heap.objs.size)) (EP X pins σ Q) X.xe { s4 with heap:=s4.heap.push { cls:=.type "slice",data:=.fields #[vl,vu,vs] } }
 refine tail_any (ops:=[.ref a,.ref s4.heap.objs.size]) ht.isList.typeIs (PySem.slot_list_getitem.lookup) ?_ (by with_unfolding_all rfl)
 refine wpAny_getItem_list_slice ht.isList (Heap.IsSliceOf.new _ vl vu vs) pl pu ps (by intro z; have:=Option.some.inj z; omega) ?_ (by rw [List.size_toArray]; omega)
 rw [zjj]
 have rp:Vals (pickL xs lo k) (pickL its lo k):=by
  unfold pickL
  rw [hlen]
  exact zbU r _
 refine ⟨.ref _,_,I5.laid (t':=s4.toks) (o:=.lst (pickL xs lo k)) (fun b ob q=>Heap.get?_push_of_some _ q) (Nat.le_refl _) ?_,rfl,q _ (I5.hok.fresh (Nat.le_refl _))⟩
 exact ⟨Nat.le_trans (zmt xs its lo k hlen rp.length) hz,_,0,rp,Heap.get?_push_size _ rfl⟩
section
variable {T:List Def}
theorem zmu {a:E} {lo k:Nat} (ha:SndE T a):SndE T (.stpL a lo k):=by
 intro X e sc O G Fnc n cls W F A σ ρ H Q hy tk hs c I h
 obtain ⟨x,j1,p1,j2,p2,p3,pos,rfl,hk,c⟩:=zg0 (show isStp lo k e (fun x=>chkE X.N T sc O a x)=true from c)
 have h':PostR (fun d=>∀ v H',Got X.K F A O T (.stpL a lo k) H H' d v -> Q v H') (ExW cls W σ H) ((evE G Fnc a ρ).bind fun x=>(lstD x).bind fun xs=>R.ok (D.lst (pickL xs lo k))):=h
 refine we_of (zpp hk pe_we) (ha hy tk hs c I (h'.bind.mono (fun d hd v H1 g=>?_) fun _ z=>z))
 cases d <;> (try exact hd.elim)
 rename_i xs
 obtain ⟨b,vs,rfl,sq,r⟩:=g.top.lst
 refine ⟨b,vs,rfl,sq,fun q hq=>?_⟩
 have rp:Reps X.K H1 (PPa F A) (pickL xs lo k) (pickL vs lo k):=by
  unfold pickL
  rw [r.length]
  exact zbV r _
 exact zaC hq ((I.step g.ext).newP hq) rp (zak g.ext hd)
end
def tVals (td:TE):TE:=fun σ H Q=>td σ H fun x H1=>∃ a kvs,x=V.ref a /\ Rd H1 a (.dK kvs) /\ ∀ q,H1 q=none -> Q (.ref q) (upd H1 q (.lst (kvs.map (·.2))))
theorem zpq {X:Cx} {o:Expr} {p pos apos cpos:Pos} {td:TE} (hc:X.calm=true) (hg:Gl X "list") (hm:X.mg "list"=none) (hd:PE X o td) (hbase:attributeBase o "values" X.env (eval o X.env)=eval o X.env) (hline:(apos.endLine == cpos.line)=true) :
  PE X (.Call (.Name "list" p) [.Call (.Attribute o "values" apos) [] [] cpos] [] pos) (tVals td):=by
 refine ⟨fun pins s σ H Q I h=>?_⟩
 refine Call_ (ld_blt I hg hm boot_list (PyProof.Rows.callWith_type1 (PyProof.Rows.args_cons (wpAny_Call_method0_late hbase hline (thn (hd.run pins s σ H _ I h) fun v s1 ⟨x,H1,I1,r1,a,kvs,ex,ha,q⟩=>?_)) rfl) rfl))
 subst ex
 obtain rfl:v=Value.ref a:=r1
 obtain ⟨z,hsys,vs,rel,dof⟩:=dk_rd I1.hok ha
 obtain ⟨ep,dat⟩:=dof.dictAt
 have dat':=dat
 obtain ⟨ob,es,ho,ex,hdat,hko,hpr,hnd⟩:=dat'
 refine ⟨"dict","dict.values",PySem.F.plainAttrs_dict,PySem.F.slot_dict_values,PySem.F.type_dict_values,⟨ob,ho,ex.1⟩,fun b e=>?_,Calls.callWith_builtin rfl (PySem.evalArgs_none ?_)⟩
 ·cases e
  exact ⟨ob,ho,ex.2.1⟩
 refine call_meetsIn PySem.F.slot_dict_values ⟨ob,ho,ex.1⟩ PySem.F.entry_dict_values (PySem.F.args_dict_values_1 _) (meets_dict_values (mixKind X.prog X.w) a hsys) ⟨⟨vs,dof⟩,?_⟩
 have k1:∀ b u,s1.heap.get? b=some u -> (s1.heap.push { cls:=.type "dict_values",data:=.fields #[.ref a] }).get? b=some u:=fun b u e=>Heap.get?_push_of_some _ e
 have dat1:(s1.heap.push { cls:=.type "dict_values",data:=.fields #[.ref a] }).DictAt (mixKind X.prog X.w) a vs ep:=dat.keep k1
 refine PyProof.Rows.args_nil ?_
 have hl:kvs.length=vs.length:=Paired.length rel
 refine PySem.W.kdl_call (s:={ s1 with heap:=s1.heap.push { cls:=.type "dict_values",data:=.fields #[.ref a] } }) (PySem.W.kdl_values (r:=s1.heap.objs.size) (d:=a) (knd:=mixKind X.prog X.w) (kvs:=vs) (ep:=ep)) (I.ok.hd hc) ⟨⟨_,Heap.get?_push_size _ rfl,rfl,rfl⟩,dat1⟩ (by rw [<- hl]; exact z) fun h' tk acc' c' hkeep hS hacc=>?_
 have hsz:(s1.heap.push { cls:=.type "dict_values",data:=.fields #[.ref a] }).objs.size=s1.heap.objs.size+1:=Heap.size_push _ _
 refine ⟨.ref _,_,I1.laid (t':=tk) (o:=.lst (kvs.map (·.2))) (fun b u e=>hkeep b u (k1 b u e)) (by rw [hsz]; exact Nat.le_succ _) ⟨by rw [List.length_map]; exact z,acc'.toList,c',?_,by rw [Array.toArray_toList]; exact hS⟩,rfl,q _ (I1.hok.fresh (by rw [hsz]; exact Nat.le_succ _))⟩
 have el:acc'.toList.length=acc'.size:=by simp
 refine vals_of_at (by rw [List.length_map,el,hacc.1,hl]) fun j x w h1 h2=>?_
 obtain ⟨k,hky⟩:=hacc.2 j w (by rw [<- Array.getElem?_toList]; exact h2)
 obtain ⟨y,hy1,hy2⟩:=KV.at' rel hky
 rw [List.getElem?_map,hy1] at h1
 cases h1
 exact hy2
theorem ze5 {sc:Scope} {e:Expr} {k:Expr -> Bool} (h:zdf sc e k=true):∃ p o apos cpos pos,e=.Call (.Name "list" p) [.Call (.Attribute o "values" apos) [] [] cpos] [] pos /\ glB sc "list"=true /\ zdd o=true /\ (apos.endLine == cpos.line)=true /\ k o=true:=by
 unfold zdf at h; split at h
 ·simp only [Bool.and_eq_true,beq_iff_eq] at h
  obtain ⟨⟨⟨⟨⟨rfl,h2⟩,rfl⟩,h3⟩,h4⟩,h5⟩:=h
  exact ⟨_,_,_,_,_,rfl,h2,h3,by simpa using h4,h5⟩
 ·cases h
section
variable {T:List Def}
theorem zjk {a:E} (ha:SndE T a):SndE T (.valsL a):=by
 intro X e sc O G Fnc n cls W F A σ ρ H Q hy tk hs c I h
 obtain ⟨p,o,apos,cpos,pos,rfl,c1,c2,c3,c4⟩:=ze5 (show zdf sc e (fun x=>chkE X.N T sc O a x)=true from c)
 have h':PostR (fun d=>∀ v H',Got X.K F A O T (.valsL a) H H' d v -> Q v H') (ExW cls W σ H) ((evE G Fnc a ρ).bind fun x=>(ziD x).bind fun xs=>R.ok (D.lst xs)):=h
 subst hs
 obtain ⟨g1,g2,g3⟩:=gl_of c1
 have hb:X.mg "list"=none:=hy.blt "list" (by decide)
 refine we_of (zpq hy.calm g1 hb pe_we (zaD c2) c3) (ha hy tk rfl c4 I (h'.bind.mono (fun d hd v H1 g=>?_) fun _ z=>z))
 cases d <;> (try exact hd.elim)
 obtain ⟨b,ws,rfl,rd,k,r⟩:=g.top.dK
 refine ⟨b,ws,rfl,rd,fun q hq=>?_⟩
 exact zaC hq ((I.step g.ext).newP hq) r (zak g.ext hd)
end
def tMaxD (K:PySem.W.Frag) (c:Int) (te:TE):TE:=fun σ H Q=>te σ H fun x H1=>∃ a ns,x=V.ref a /\ SqL K H1 a (ns.map V.int) /\ Q (.int (maxDI c ns)) H1
theorem zpr {X:Cx} {c:Int} {v:Expr} (h:litI c v=true):PE X v (fun σ H Q=>Q (.int c) H):=by
 unfold litI at h; split at h
 ·rename_i m k1 p1
  have:c=m:=by simpa using h
  subst this
  exact ⟨fun pins s σ H Q I q=>(pe_int (X:=X)).run pins s σ H Q I q⟩
 ·rename_i m k1 p1 p2
  have:c=-m:=by simpa using h
  subst this
  exact ⟨fun pins s σ H Q I q=>(pe_un un_neg (pe_int (X:=X) (i:=m))).run pins s σ H Q I ⟨m,rfl,q⟩⟩
 ·cases h
theorem zps {X:Cx} {x v:Expr} {c:Int} {p kp pos:Pos} {te:TE} (hc:X.calm=true) (hu:X.A.units+65 < cLine) (hg:Gl X "max") (hm:X.mg "max"=none) (hx:PE X x te) (st:zaw x=true) (hv:litI c v=true) :
  PE X (.Call (.Name "max" p) [x] [⟨some "default",v,kp⟩] pos) (tMaxD X.K c te):=by
 refine ⟨fun pins s σ H Q I h=>?_⟩
 have e1:starEach [x] X.env=(false,eval x X.env) :: starEach [] X.env:=zab st
 refine wpAny_Call_Name_kw (ld_blt I hg hm (u:=.builtin "max") (by first | rfl | decide +kernel) ?_ (by decide) (by decide))
 refine PyProof.Rows.callWith_kw (PyProof.Rows.args_cons (thn (hx.run pins s σ H _ I h) fun w s1 ⟨y,H1,I1,r1,a,ns,ey,hl,q⟩=>PyProof.Rows.args_nil ?_) e1) (by rw [e1]; rfl) (by rw [e1]; rfl) rfl rfl
 subst ey
 obtain rfl:w=Value.ref a:=r1
 refine PyProof.Rows.kws_cons (thn ((zpr (X:=X) hv).run pins s1 σ H1 (fun z H2=>z=.int c /\ H2=H1) I1 ⟨rfl,rfl⟩) fun d s2 ⟨z,H2,I2,r2,ez,eh⟩=>PyProof.Rows.kws_nil ?_)
 subst ez eh
 obtain ⟨its,ri,ht,_⟩:=I2.list hl
 obtain ⟨as,hr⟩:=zbQ (h:=s2.heap) ri
 show wpAny _ _ (call (.builtin "max") [.ref a] [(Str.ofString "default",d)]) _ _ _
 refine PySem.W.max_list_default (I.ok.hd hc) (show s2.heap.IsList a its.toArray from ht.isList) (xs:=ns.map .int) (as:=as) (by simpa using hr) (zcz ns) (by have:=zbP ns; show _+1+PyData.depthAll (ns.map .int) < _; omega) (fun e h' tk hk=>?_) fun y ys i u h' tk bs ey _ rd hk=>?_
 ·have:ns=[]:=by simpa using e
  subst this
  exact ⟨.int c,H2,I2.kept hk,r2,q⟩
 ·cases ns with
  | nil=>cases ey
  | cons n ns =>
   cases ey
   rw [PySem.W.maxD_ints,zdc] at rd
   cases rd with
   | int i t=>exact ⟨.int _,H2,I2.kept hk,⟨_,rfl⟩,q⟩
theorem ze6 {sc:Scope} {c:Int} {e:Expr} {k:Expr -> Bool} (h:zdh sc c e k=true):∃ p x v kp pos,e=.Call (.Name "max" p) [x] [⟨some "default",v,kp⟩] pos /\ glB sc "max"=true /\ litI c v=true /\ k x=true:=by
 unfold zdh at h; split at h
 ·simp only [Bool.and_eq_true,beq_iff_eq] at h
  obtain ⟨⟨⟨⟨rfl,h2⟩,rfl⟩,h3⟩,h4⟩:=h
  exact ⟨_,_,_,_,_,rfl,h2,h3,h4⟩
 ·cases h
section
variable {T:List Def}
theorem zmv {a:E} {c:Int} (ha:SndE T a):SndE T (.maxD a c):=by
 intro X e sc O G Fnc n cls W F A σ ρ H Q hy tk hs c0 I h
 obtain ⟨p,x,v,kp,pos,rfl,c1,c2,c3⟩:=ze6 (show zdh sc c e (fun x=>chkE X.N T sc O a x)=true from c0)
 have h':PostR (fun d=>∀ v H',Got X.K F A O T (.maxD a c) H H' d v -> Q v H') (ExW cls W σ H) ((evE G Fnc a ρ).bind fun x=>(lstD x).bind fun xs=>(R.of (intsD xs)).bind fun ns=>R.ok (D.int (maxDI c ns))):=h
 subst hs
 obtain ⟨g1,g2,g3⟩:=gl_of c1
 have hb:X.mg "max"=none:=hy.blt "max" (by decide)
 refine we_of (zps hy.calm hy.hu g1 hb pe_we (zaa _ _ c3) c2) (ha hy tk rfl c3 I (h'.bind.mono (fun d hd v H1 g=>?_) fun _ z=>z))
 cases d <;> (try exact hd.elim)
 rename_i xs
 obtain ⟨b,vs,rfl,sq,r⟩:=g.top.lst
 have hd:PostR (fun d=>∀ v H',Got X.K F A O T (.maxD a c) H H' d v -> Q v H') (ExW cls W σ H) ((R.of (intsD xs)).bind fun ns=>R.ok (D.int (maxDI c ns))):=hd
 cases en:intsD xs with
 | none =>
  have hd2:PostR (fun d=>∀ v H',Got X.K F A O T (.maxD a c) H H' d v -> Q v H') (ExW cls W σ H) ((R.of (intsD xs)).bind fun ns=>R.ok (D.int (maxDI c ns))):=hd
  rw [en] at hd2; exact hd2.elim
 | some ns =>
  have hd2:PostR (fun d=>∀ v H',Got X.K F A O T (.maxD a c) H H' d v -> Q v H') (ExW cls W σ H) ((R.of (intsD xs)).bind fun ns=>R.ok (D.int (maxDI c ns))):=hd
  rw [en] at hd2
  have hd3:∀ v H',Got X.K F A O T (.maxD a c) H H' (.int (maxDI c ns)) v -> Q v H':=hd2
  have ex:=zbn en
  subst ex
  have ev:=za1 r
  subst ev
  exact ⟨b,ns,rfl,sq,hd3 _ _ (.of g.ext (.int _) (FreshR.flat rfl))⟩
end
def zjl (r r' r'':R2) (ta tb tc td:TE):TE:=fun σ H Q=>ta σ H fun x H1=>tb σ H1 fun y H2=>r x y H2 fun z H3=>∃ k,z=.bl k ∧
 (if k=true then tc σ H3 fun w H4=>r' y w H4 fun z H5=>∃ k,z=.bl k /\ (if k=true then td σ H5 fun u H6=>r'' w u H6 Q else Q (.bl false) H5) else Q (.bl false) H3)
theorem zjm {X:Cx} {a b c d:Expr} {pos:Pos} {ta tb tc td:TE} {o p q:CmpOp} {r r' r'':R2} (ho:OpR X (compareOp o) r) (hp:OpR X (compareOp p) r') (hq:OpR X (compareOp q) r'') (ha:PE X a ta) (hb:PE X b tb) (hc:PE X c tc) (hd:PE X d td)
  (hm:lastMarks [o,p,q] [b,c,d]=false):PE X (.Compare a [o,p,q] [b,c,d] pos) (zjl r r' r'' ta tb tc td):=by
 refine ⟨fun pins s σ H Q I h=>?_⟩
 refine Compare_chain (thn (ha.run pins s σ H _ I h) fun v s1 ⟨x,H1,I1,r1,q1⟩=>chain_link (thn (hb.run pins s1 σ H1 _ I1 q1) fun u s2 ⟨y,H2,I2,r2,q2⟩ =>
  thn (ho pins s2 σ H2 x y v u _ I2 r1 r2 q2) fun d s3 ⟨z,H3,I3,r3,k,e,q3⟩=>?_)) hm
 subst e
 cases r3
 refine wpAny_truthy_bool ?_
 cases k with
 | false=>exact ite_ff ⟨.bl false,H3,I3,rfl,q3⟩
 | true =>
  refine ite_tt (chain_link (thn (hc.run pins s3 σ H3 _ I3 q3) fun w' s4 ⟨z',H4,I4,r4,q4⟩=>thn (hp pins s4 σ H4 y z' u w' _ I4 r2 r4 q4) fun d s5 ⟨z,H5,I5,r5,k,e,q5⟩=>?_))
  subst e
  cases r5
  refine wpAny_truthy_bool ?_
  cases k with
  | false=>exact ite_ff ⟨.bl false,H5,I5,rfl,q5⟩
  | true=>exact ite_tt (chain_last (thn (hd.run pins s5 σ H5 _ I5 q5) fun w2 s6 ⟨z2,H6,I6,r6,q6⟩=>hq pins s6 σ H6 z' z2 w' w2 Q I6 r4 r6 q6))
theorem zjn {X:Cx} {a b c d:Expr} {pos:Pos} {ta tb tc td:TE} {o p q:CmpOp} {r r' r'':R2} (ho:OpR X (compareOp o) r) (hp:OpR X (compareOp p) r') (hq:OpR X (compareOp q) r'') (ha:PE X a ta) (hb:PE X b tb) (hc:PE X c tc) (hd:PE X d td)
  (hm:lastMarks [o,p,q] [b,c,d]=false):PT X (.Compare a [o,p,q] [b,c,d] pos) (tTest (zjl r r' r'' ta tb tc td)):=by
 refine ⟨fun pins s σ H Q I h=>?_⟩
 refine isTrue_chain (thn (ha.run pins s σ H _ I h) fun v s1 ⟨x,H1,I1,r1,q1⟩=>test_link (thn (hb.run pins s1 σ H1 _ I1 q1) fun u s2 ⟨y,H2,I2,r2,q2⟩ =>
  thn (ho pins s2 σ H2 x y v u _ I2 r1 r2 q2) fun d s3 ⟨z,H3,I3,r3,k,e,q3⟩=>?_)) hm
 subst e
 cases r3
 refine wpAny_truthy_bool ?_
 cases k with
 | false =>
  obtain ⟨k',e',q'⟩:=q3
  cases e'
  exact ite_ff ⟨H3,I3,q'⟩
 | true =>
  refine ite_tt (test_link (thn (hc.run pins s3 σ H3 _ I3 q3) fun w' s4 ⟨z',H4,I4,r4,q4⟩=>thn (hp pins s4 σ H4 y z' u w' _ I4 r2 r4 q4) fun d s5 ⟨z,H5,I5,r5,k,e,q5⟩=>?_))
  subst e
  cases r5
  refine wpAny_truthy_bool ?_
  cases k with
  | false =>
   obtain ⟨k',e',q'⟩:=q5
   cases e'
   exact ite_ff ⟨H5,I5,q'⟩
  | true =>
   refine ite_tt (test_last (thn (hd.run pins s5 σ H5 _ I5 q5) fun w2 s6 ⟨z2,H6,I6,r6,q6⟩=>thn (hq pins s6 σ H6 z' z2 w' w2 _ I6 r4 r6 q6) fun c s7 ⟨z,H7,I7,r7,k,e,q7⟩=>?_))
   subst e
   cases r7
   exact wpAny_truthy_bool ⟨H7,I7,q7⟩
section
variable {T:List Def}
theorem zhL {o p q:COp} {a b c d:E} (ha:SndE T a) (hb:SndE T b) (hc:SndE T c) (hd:SndE T d):SndE T (.chain3 o p q a b c d):=by
 intro X e sc O G Fnc n cls W F A σ ρ H Q hy tk hs ck I h
 cases e <;> (try (simp [chkE] at ck; done))
 rename_i x os ys pp
 match os,ys,ck with
 | [o1,p1,q1],[y,z,w],ck =>
  rw [chkE] at ck
  simp only [Bool.and_eq_true] at ck
  obtain ⟨⟨⟨⟨⟨⟨⟨c1,c2⟩,c3⟩,c4⟩,c5⟩,c6⟩,c7⟩,c8⟩:=ck
  have:=zas c1
  subst this
  have:=zas c2
  subst this
  have:=zas c3
  subst this
  refine we_of (zjm op_om op_om op_om pe_we pe_we pe_we pe_we (show behindInMarks _ w=false from zaS c4)) (zaV (exc:=ExW cls W σ H) ha hb hy tk hs c5 c6 I (fun _ z=>z) ((show PostR _ _ ((evE G Fnc a ρ).bind fun x=>(evE G Fnc b ρ).bind fun y=>(dCmp o x y).bind fun k =>
   if k=true then (evE G Fnc c ρ).bind fun z=>(dCmp p y z).bind fun k=>(if k=true then (evE G Fnc d ρ).bind fun w=>(dCmp q z w).bind fun k=>R.ok (D.bl k) else R.ok (D.bl false)) else R.ok (D.bl false)) from h).bind.mono (fun x hx=>hx.bind) fun _ z=>z) fun x y v u H2 e2 I2 rx ry _ qq=>?_)
  obtain ⟨k,ek,qq⟩:=qq.bind.get (zaA o x y)
  refine za9 hy.hu rx ry ek ⟨k,rfl,?_⟩
  cases k with
  | false =>
   rw [if_neg Bool.false_ne_true] at qq ⊢
   exact qq _ _ (.of e2 (.bl _) (FreshR.flat rfl))
  | true =>
   rw [if_pos rfl] at qq ⊢
   refine hc hy tk hs c7 I2 (qq.bind.mono (fun z hz w H3 g=>?_) fun c hc=>ExW.step hc e2)
   obtain ⟨k2,ek2,q2⟩:=hz.bind.get (zaA p y z)
   refine za9 hy.hu (ry.ext g.ext) g.top ek2 ⟨k2,rfl,?_⟩
   have e3:=e2.trans g.ext
   cases k2 with
   | false =>
    rw [if_neg Bool.false_ne_true] at q2 ⊢
    exact q2 _ _ (.of e3 (.bl _) (FreshR.flat rfl))
   | true =>
    rw [if_pos rfl] at q2 ⊢
    refine hd hy tk hs c8 (I2.step g.ext) (q2.bind.mono (fun t ht u H4 g2=>?_) fun c hc=>ExW.step hc e3)
    obtain ⟨k3,ek3,q3⟩:=ht.bind.get (zaA q z t)
    exact za9 hy.hu (g.top.ext g2.ext) g2.top ek3 (q3 _ _ (.of (e3.trans g2.ext) (.bl _) (FreshR.flat rfl)))
theorem zfM {o p q:COp} {a b c d:E} (ha:SndE T a) (hb:SndE T b) (hc:SndE T c) (hd:SndE T d):SndT T (.chain3 o p q a b c d):=by
 intro X e sc O G Fnc n cls W F A σ ρ H Q hy tk hs ck I h
 cases e <;> (try (simp [chkE] at ck; done))
 rename_i x os ys pp
 match os,ys,ck with
 | [o1,p1,q1],[y,z,w],ck =>
  rw [chkE] at ck
  simp only [Bool.and_eq_true] at ck
  obtain ⟨⟨⟨⟨⟨⟨⟨c1,c2⟩,c3⟩,c4⟩,c5⟩,c6⟩,c7⟩,c8⟩:=ck
  have:=zas c1
  subst this
  have:=zas c2
  subst this
  have:=zas c3
  subst this
  have h':PostR (fun b=>∀ H',Ext Nix H H' -> Q b H') (ExW cls W σ H) (((evE G Fnc a ρ).bind fun x=>(evE G Fnc b ρ).bind fun y=>(dCmp o x y).bind fun k =>
   if k=true then (evE G Fnc c ρ).bind fun z=>(dCmp p y z).bind fun k=>(if k=true then (evE G Fnc d ρ).bind fun w=>(dCmp q z w).bind fun k=>R.ok (D.bl k) else R.ok (D.bl false)) else R.ok (D.bl false)).bind zac):=h
  rw [R.assoc] at h'
  refine wt_of (zjn op_om op_om op_om pe_we pe_we pe_we pe_we (show behindInMarks _ w=false from zaS c4)) (zaV (exc:=ExW cls W σ H) (ok:=fun x y=>PostR (fun b=>∀ H',Ext Nix H H' -> Q b H') (ExW cls W σ H) (((dCmp o x y).bind fun k =>
   if k=true then (evE G Fnc c ρ).bind fun z=>(dCmp p y z).bind fun k=>(if k=true then (evE G Fnc d ρ).bind fun w=>(dCmp q z w).bind fun k=>R.ok (D.bl k) else R.ok (D.bl false)) else R.ok (D.bl false)).bind zac)) ha hb hy tk hs c5 c6 I (fun _ z=>z) (h'.bind.mono (fun x hx=>by rw [R.assoc] at hx; exact hx.bind) fun _ z=>z) fun x y v u H2 e2 I2 rx ry _ qq=>?_)
  rw [R.assoc] at qq
  obtain ⟨k,ek,qq⟩:=qq.bind.get (zaA o x y)
  refine za9 hy.hu rx ry ek ⟨k,rfl,?_⟩
  cases k with
  | false =>
   rw [if_neg Bool.false_ne_true] at qq ⊢
   exact ⟨false,rfl,qq _ e2⟩
  | true =>
   rw [if_pos rfl] at qq ⊢
   rw [R.assoc] at qq
   refine hc hy tk hs c7 I2 (qq.bind.mono (fun z hz w H3 g=>?_) fun c hc=>ExW.step hc e2)
   rw [R.assoc] at hz
   obtain ⟨k2,ek2,q2⟩:=hz.bind.get (zaA p y z)
   refine za9 hy.hu (ry.ext g.ext) g.top ek2 ⟨k2,rfl,?_⟩
   have e3:=e2.trans g.ext
   cases k2 with
   | false =>
    rw [if_neg Bool.false_ne_true] at q2 ⊢
    exact ⟨false,rfl,q2 _ e3⟩
   | true =>
    rw [if_pos rfl] at q2 ⊢
    rw [R.assoc] at q2
    refine hd hy tk hs c8 (I2.step g.ext) (q2.bind.mono (fun t ht u H4 g2=>?_) fun c hc=>ExW.step hc e3)
    rw [R.assoc] at ht
    obtain ⟨k3,ek3,q3⟩:=ht.bind.get (zaA q z t)
    exact za9 hy.hu (g.top.ext g2.ext) g2.top ek3 ⟨k3,rfl,q3 _ (e3.trans g2.ext)⟩
end
theorem zmw {sc:Scope} {neg:Bool} {e:Expr} {k:Expr -> Expr -> Bool} (h:isInR sc neg e k=true):∃ x p y q pos,e=.Compare x [copOf (if neg=true then .notin else .isin)] [.Call (.Name "range" p) [y] [] q] pos /\ glB sc "range"=true /\ k x y=true:=by
 unfold isInR at h; split at h
 ·simp only [Bool.and_eq_true,beq_iff_eq] at h
  obtain ⟨⟨⟨h1,rfl⟩,h3⟩,h4⟩:=h
  have:=zas h1
  subst this
  exact ⟨_,_,_,_,_,rfl,h3,h4⟩
 ·cases h
theorem zrM (b i:Int):(Builtin.Range.rangePlace? 0 b 1 i).isSome=(decide (0 <= i) && decide (i < b)):=by
 unfold Builtin.Range.rangePlace?
 have e:(i - 0) % 1=0:=Int.emod_one _
 rw [e]
 by_cases h1:0 <= i <;> by_cases h2:i < b <;> simp [h1,h2]
theorem zbZ {X:Cx} {A:Around} {E:Value -> Shared -> Prop} {s:Shared} {r:Addr} {b i:Int} {t u v tk:Tok} {Q:Bool -> Shared -> Prop} (hr:IsRange s.heap r 0 b 1 t u v) (q:Q (decide (0 <= i) && decide (i < b)) s):wpAny (model X.prog X.w) A (contains (.ref r) (.int i tk)) Q E s:=by
 refine wpAny_contains_slot (T:="range") ⟨_,hr,rfl⟩ PySem.F.slot_range_contains (wpAny_call_entry PySem.F.slot_range_contains ⟨_,hr,rfl⟩ PySem.F.entry_range_contains ?_ (PySem.F.args_range_contains_2 _ _))
 unfold Builtin.«range.__contains__»
 refine wpAny_bind (wpAny_pure ?_)
 refine wpAny_bind (wpAny_rule (wpAny_bind (wpAny_rangeFields hr (wpAny_pure ⟨_,rfl,wpAny_truthy_bool ?_⟩))))
 rw [zrM]
 exact q
theorem ze7 {X:Cx} {A:Around} {E:Value -> Shared -> Prop} {s:Shared} {r:Addr} {b i:Int} {t u v tk:Tok} {neg:Bool} {Q:Value -> Shared -> Prop} (hr:IsRange s.heap r 0 b 1 t u v) (q:Q (.bool (if neg=true then !(decide (0 <= i) && decide (i < b)) else decide (0 <= i) && decide (i < b))) s) :
  wpAny (model X.prog X.w) A (compareOp (copOf (if neg=true then .notin else .isin)) (.int i tk) (.ref r)) Q E s:=by
 cases neg with
 | true =>
  show wpAny _ _ (do return .bool (!(<- contains (.ref r) (.int i tk)))) Q E s
  exact wpAny_bind (zbZ hr (wpAny_pure q))
 | false =>
  show wpAny _ _ (do return .bool (<- contains (.ref r) (.int i tk))) Q E s
  exact wpAny_bind (zbZ hr (wpAny_pure q))
def tInR (neg:Bool) (ta tb:TE):TE:=fun σ H Q=>ta σ H fun x H1=>tRg1 tb σ H1 fun c d H2=>c=0 /\ ∃ i,x=.int i /\ Q (.bl (if neg=true then !(decide (0 <= i) && decide (i < d)) else decide (0 <= i) && decide (i < d))) H2
theorem zdm {neg:Bool} {e:Expr} {p q:Pos}:behindInMarks (copOf (if neg=true then .notin else .isin)) (.Call (.Name "range" p) [e] [] q)=false:=by cases neg <;> rfl
theorem zrN {X:Cx} {a b:Expr} {neg:Bool} {p q pos:Pos} {ta tb:TE} (hg:Gl X "range") (hm:X.mg "range"=none) (ha:PE X a ta) (hb:PE X b tb) (st:zaw b=true):PE X (.Compare a [copOf (if neg=true then .notin else .isin)] [.Call (.Name "range" p) [b] [] q] pos) (tInR neg ta tb):=by
 refine ⟨fun pins s σ H Q I h=>?_⟩
 refine wpAny_Compare1 (thn (ha.run pins s σ H _ I h) fun v s1 ⟨x,H1,I1,r1,q1⟩=>?_) zdm
 refine thn (prg_1 (p:=p) (pos:=q) hg hm hb (zab st) pins s1 σ H1 _ I1 q1) fun w s2 ⟨r,c,d,t,u,z,H2,ew,hr,I2,ec,i,ei,qq⟩=>?_
 subst ew ec ei
 obtain ⟨tk,rfl⟩:=r1
 exact ze7 hr ⟨.bl _,_,I2,rfl,qq⟩
theorem zrO {X:Cx} {a b:Expr} {neg:Bool} {p q pos:Pos} {ta tb:TE} (hg:Gl X "range") (hm:X.mg "range"=none) (ha:PE X a ta) (hb:PE X b tb) (st:zaw b=true):PT X (.Compare a [copOf (if neg=true then .notin else .isin)] [.Call (.Name "range" p) [b] [] q] pos) (tTest (tInR neg ta tb)):=by
 refine ⟨fun pins s σ H Q I h=>?_⟩
 refine wpAny_isTrue_Compare1 (thn (ha.run pins s σ H _ I h) fun v s1 ⟨x,H1,I1,r1,q1⟩=>?_) zdm
 refine thn (prg_1 (p:=p) (pos:=q) hg hm hb (zab st) pins s1 σ H1 _ I1 q1) fun w s2 ⟨r,c,d,t,u,z,H2,ew,hr,I2,ec,i,ei,k,ek,qq⟩=>?_
 subst ew ec ei
 cases ek
 obtain ⟨tk,rfl⟩:=r1
 exact ze7 hr (wpAny_truthy_bool ⟨_,I2,qq⟩)
section
variable {T:List Def}
theorem zg1 {neg:Bool} {a b:E} (ha:SndE T a) (hb:SndE T b) {X:Cx} {e:Expr} {sc:Scope} {O:List Nat} {G:Str -> Option D} {Fnc:Fn} {n:Nat} {cls:Str -> Option Addr} {W:WX} {F:Fx} {A:Addr -> Prop} {σ:St} {ρ:Env} {H:Hp} {Q:VK} {Qb:Bool -> Hp -> Prop}
  (hy:Hy X T G Fnc n cls) (tk:Takes X W) (hs:X.env.scope=sc) (c:chkE X.N T sc O (.inR neg a b) e=true) (I:EnvR X.K F O A σ ρ H) :
  (PostR (fun d=>∀ v H',Got X.K F A O T (.inR neg a b) H H' d v -> Q v H') (ExW cls W σ H) (evE G Fnc (.inR neg a b) ρ) -> WE X e σ H Q) ∧
  (PostR (fun b=>∀ H',Ext Nix H H' -> Qb b H') (ExW cls W σ H) ((evE G Fnc (.inR neg a b) ρ).bind zac) -> WT X e σ H Qb):=by
 obtain ⟨x,p,y,q,pos,rfl,c1,c2⟩:=zmw (show isInR sc neg e (fun x y=>chkE X.N T sc O a x && chkE X.N T sc O b y)=true from c)
 rw [Bool.and_eq_true] at c2
 subst hs
 obtain ⟨g1,g2,g3⟩:=gl_of c1
 have hr:X.mg "range"=none:=hy.blt "range" (by decide)
 have st:=zaa _ _ c2.2
 refine ⟨fun h=>?_,fun h=>?_⟩
 ·have h':PostR (fun d=>∀ v H',Got X.K F A O T (.inR neg a b) H H' d v -> Q v H') (ExW cls W σ H) ((evE G Fnc a ρ).bind fun x=>(evE G Fnc b ρ).bind fun y=>(dInt x).bind fun i=>(dInt y).bind fun j=>R.when (rngOk j) (R.ok (D.bl (if neg=true then !(decide (0 <= i) && decide (i < j)) else decide (0 <= i) && decide (i < j))))):=h
  refine we_of (zrN g1 hr pe_we pe_we st) (ha hy tk rfl c2.1 I (h'.bind.mono (fun d hd v H1 g=>?_) fun _ z=>z))
  refine hb hy tk rfl c2.2 (I.step g.ext) (hd.bind.mono (fun d2 hd2 u H2 g2=>?_) fun c hc=>ExW.step hc g.ext)
  cases d <;> (try exact hd2.elim)
  cases d2 <;> (try exact hd2.elim)
  rename_i i j
  obtain rfl:=g.top.int
  obtain rfl:=g2.top.int
  have hd2:PostR (fun d=>∀ v H',Got X.K F A O T (.inR neg a b) H H' d v -> Q v H') (ExW cls W σ H) (R.when (rngOk j) (R.ok (D.bl (if neg=true then !(decide (0 <= i) && decide (i < j)) else decide (0 <= i) && decide (i < j))))):=hd2
  obtain ⟨_,qq⟩:=hd2.when
  exact ⟨j,rfl,rfl,i,rfl,qq _ _ (.of (g.ext.trans g2.ext) (.bl _) (FreshR.flat rfl))⟩
 ·have h':PostR (fun b=>∀ H',Ext Nix H H' -> Qb b H') (ExW cls W σ H) (((evE G Fnc a ρ).bind fun x=>(evE G Fnc b ρ).bind fun y=>(dInt x).bind fun i=>(dInt y).bind fun j=>R.when (rngOk j) (R.ok (D.bl (if neg=true then !(decide (0 <= i) && decide (i < j)) else decide (0 <= i) && decide (i < j))))).bind zac):=h
  rw [R.assoc] at h'
  refine wt_of (zrO g1 hr pe_we pe_we st) (ha hy tk rfl c2.1 I (h'.bind.mono (fun d hd v H1 g=>?_) fun _ z=>z))
  rw [R.assoc] at hd
  refine hb hy tk rfl c2.2 (I.step g.ext) (hd.bind.mono (fun d2 hd2 u H2 g2=>?_) fun c hc=>ExW.step hc g.ext)
  cases d <;> (try exact hd2.elim)
  cases d2 <;> (try exact hd2.elim)
  rename_i i j
  obtain rfl:=g.top.int
  obtain rfl:=g2.top.int
  have hd2:PostR (fun b=>∀ H',Ext Nix H H' -> Qb b H') (ExW cls W σ H) ((R.when (rngOk j) (R.ok (D.bl (if neg=true then !(decide (0 <= i) && decide (i < j)) else decide (0 <= i) && decide (i < j))))).bind zac):=hd2
  unfold R.when at hd2
  split at hd2
  ·exact ⟨j,rfl,rfl,i,rfl,_,rfl,hd2 _ (g.ext.trans g2.ext)⟩
  ·exact hd2.elim
theorem zpt {neg:Bool} {a b:E} (ha:SndE T a) (hb:SndE T b):SndE T (.inR neg a b):=by
 intro X e sc O G Fnc n cls W F A σ ρ H Q hy tk hs c I h
 exact (zg1 (Qb:=fun _ _=>True) ha hb hy tk hs c I).1 h
theorem zmx {neg:Bool} {a b:E} (ha:SndE T a) (hb:SndE T b):SndT T (.inR neg a b):=by
 intro X e sc O G Fnc n cls W F A σ ρ H Q hy tk hs c I h
 exact (zg1 (Q:=fun _ _=>True) ha hb hy tk hs c I).2 h
end
end L2.Pf
namespace L2.Pf
open PySem PySem.Spec PyProof.Rows
theorem ze8 {hi k:Nat} {e:Expr} {c:Expr -> Expr -> Bool} (h:zdg hi k e c=true):∃ x l j1 p1 j2 p2 p3 pos,e=.Subscript x (.Slice (some l) (some (.Constant (.int (hi:Int)) j1 p1)) (some (.Constant (.int (k:Int)) j2 p2)) p3) pos /\ 0 < k /\ c x l=true:=by
 unfold zdg at h; split at h
 ·simp only [Bool.and_eq_true,beq_iff_eq,decide_eq_true_eq] at h
  obtain ⟨⟨⟨rfl,rfl⟩,h3⟩,h4⟩:=h
  exact ⟨_,_,_,_,_,_,_,_,rfl,h3,h4⟩
 ·cases h
theorem zg2 (its:List Value) (lo hi k:Int):slicePick its.toArray (some lo) (some hi) (some k)=(pickB its lo hi k).toArray:=by
 unfold slicePick pickB
 rw [List.size_toArray]
 congr 1
 exact congrArg (fun f=>List.filterMap f _) (funext fun i=>by rw [List.getElem?_toArray])
theorem zjo {α:Type} (xs:List α) (its:List Value) (lo hi k:Int) (h:xs.length=its.length) (e:(pickB xs lo hi k).length=(pickB its lo hi k).length):(pickB xs lo hi k).length <= xs.length:=by
 have:=slicePick_size_le its.toArray (some lo) (some hi) (some k)
 rw [zg2] at this
 simp only [List.size_toArray] at this
 omega
def tStpB (K:PySem.W.Frag) (te tl:TE) (hi k:Nat):TE:=fun σ H Q=>te σ H fun x H1=>tl σ H1 fun y H2=>∃ a xs i,x=.ref a /\ y=.int i /\ SqL K H2 a xs /\ ∀ p,H2 p=none -> Q (.ref p) (upd H2 p (.lst (pickB xs i hi k)))
theorem zpu {X:Cx} {e el:Expr} {te tl:TE} {hi k j1 j2:Nat} {p1 p2 p3 pos:Pos} (hk:0 < k) (he:PE X e te) (hl:PE X el tl):PE X (.Subscript e (.Slice (some el) (some (.Constant (.int (hi:Int)) j1 p1)) (some (.Constant (.int (k:Int)) j2 p2)) p3) pos) (tStpB X.K te tl hi k):=by
 refine ⟨fun pins s σ H Q I h=>?_⟩
 refine Subscript_ (thn (he.run pins s σ H _ I h) fun v s1 ⟨x,H1,I1,r1,q1⟩=>?_)
 have hhi:PO X (some (.Constant (.int (hi:Int)) j1 p1)) (tPart (tC (.int (hi:Int)))):=po_some pe_int
 have hst:PO X (some (.Constant (.int (k:Int)) j2 p2)) (tPart (tC (.int (k:Int)))):=po_some pe_int
 refine wpAny_Slice ?_
 rw [evalPart_some]
 refine thn (hl.run pins s1 σ H1 _ I1 q1) fun vl s2 ⟨y,H2,I2,r2,a,xs,i,ex,ey,hx,q⟩=>?_
 subst ex ey
 cases r1
 have pl:IsPart vl (some i):=by obtain ⟨t,rfl⟩:=r2; exact .int i t
 refine thn (hhi.run pins s2 σ H2 (fun o H3=>o=some (hi:Int) /\ H3=H2) I2 ⟨_,rfl,rfl,rfl⟩) fun vu s3 ⟨u,H3,I3,pu,eu,e3⟩=>?_
 subst eu e3
 refine thn (hst.run pins s3 σ H3 (fun o H4=>o=some (k:Int) /\ H4=H3) I3 ⟨_,rfl,rfl,rfl⟩) fun vs s4 ⟨o,H4,I4,ps,eo,e4⟩=>?_
 subst eo e4
 have I5:Inv X pins σ H4 { s4 with heap:=s4.heap.push { cls:=.type "slice",data:=.fields #[vl,vu,vs] } }:=I4.kept (t':=s4.toks) fun b ob q=>Heap.get?_push_of_some _ q
 obtain ⟨its,r,ht,hz⟩:=I5.list hx
 have hlen:=r.length
 show wpAny (model X.prog X.w) X.A (subscriptTail e (.Slice (some el) (some (.Constant (.int (hi:Int)) j1 p1)) (some (.Constant (.int (k:Int)) j2 p2)) p3) (.ref a) (.ref s4.heap.objs.size)) (EP X pins σ Q) X.xe { s4 with heap:=s4.heap.push { cls:=.type "slice",data:=.fields #[vl,vu,vs] } }
 refine tail_any (ops:=[.ref a,.ref s4.heap.objs.size]) ht.isList.typeIs (PySem.slot_list_getitem.lookup) ?_ (by with_unfolding_all rfl)
 refine wpAny_getItem_list_slice ht.isList (Heap.IsSliceOf.new _ vl vu vs) pl pu ps (by intro z; have:=Option.some.inj z; omega) ?_ (by rw [List.size_toArray]; omega)
 rw [zg2]
 have rp:Vals (pickB xs i hi k) (pickB its i hi k):=by
  unfold pickB
  rw [hlen]
  exact zbU r _
 refine ⟨.ref _,_,I5.laid (t':=s4.toks) (o:=.lst (pickB xs i hi k)) (fun b ob q=>Heap.get?_push_of_some _ q) (Nat.le_refl _) ?_,rfl,q _ (I5.hok.fresh (Nat.le_refl _))⟩
 exact ⟨Nat.le_trans (zjo xs its i hi k hlen rp.length) hz,_,0,rp,Heap.get?_push_size _ rfl⟩
section
variable {T:List Def}
theorem zmy {a lo:E} {hi k:Nat} (ha:SndE T a) (hl:SndE T lo):SndE T (.stpB a lo hi k):=by
 intro X e sc O G Fnc n cls W F A σ ρ H Q hy tk hs c I h
 obtain ⟨x,l,j1,p1,j2,p2,p3,pos,rfl,hk,c⟩:=ze8 (show zdg hi k e (fun x l=>chkE X.N T sc O a x && chkE X.N T sc O lo l)=true from c)
 rw [Bool.and_eq_true] at c
 have h':PostR (fun d=>∀ v H',Got X.K F A O T (.stpB a lo hi k) H H' d v -> Q v H') (ExW cls W σ H) ((evE G Fnc a ρ).bind fun x=>(lstD x).bind fun xs=>(evE G Fnc lo ρ).bind fun y=>(dInt y).bind fun i=>R.ok (D.lst (pickB xs i hi k))):=h
 refine we_of (zpu hk pe_we pe_we) (ha hy tk hs c.1 I (h'.bind.mono (fun d hd v H1 g=>?_) fun _ z=>z))
 cases d <;> (try exact hd.elim)
 rename_i xs
 have hd:PostR (fun d=>∀ v H',Got X.K F A O T (.stpB a lo hi k) H H' d v -> Q v H') (ExW cls W σ H) ((evE G Fnc lo ρ).bind fun y=>(dInt y).bind fun i=>R.ok (D.lst (pickB xs i hi k))):=hd
 refine hl hy tk hs c.2 (I.step g.ext) (hd.bind.mono (fun y hy' u H2 g2=>?_) fun c hc=>ExW.step hc g.ext)
 obtain ⟨i,ei,q⟩:=hy'.bind.get (zaF y)
 cases y <;> cases ei
 obtain rfl:=g2.top.int
 obtain ⟨b,vs,rfl,sq,r⟩:=(g.top.ext g2.ext).lst
 refine ⟨b,vs,i,rfl,rfl,sq,fun q' hq=>?_⟩
 have rp:Reps X.K H2 (PPa F A) (pickB xs i hi k) (pickB vs i hi k):=by
  unfold pickB
  rw [r.length]
  exact zbV r _
 exact zaC hq (((I.step g.ext).step g2.ext).newP hq) rp (zak (g.ext.trans g2.ext) q)
end
def layT (H:Hp):List (Addr × List V) -> Hp
 | []=>H | p :: r=>layT (upd H p.1 (.tup p.2)) r
theorem zbh {b:Addr}:∀ {ps:List (Addr × List V)} {H:Hp},b ∉ ps.map (·.1) -> layT H ps b=H b
 | [],_,_=>rfl
 | p :: r,H,h=>by
  rw [List.map_cons,List.mem_cons,not_or] at h
  rw [layT,zbh h.2,upd_ne h.1]
theorem zei {p:Addr × List V}:∀ {ps:List (Addr × List V)} {H:Hp},(ps.map (·.1)).Nodup -> p ∈ ps -> layT H ps p.1=some (.tup p.2)
 | q :: r,H,nd,h=>by
  rw [List.map_cons,List.nodup_cons] at nd
  rw [layT]
  rcases List.mem_cons.mp h with rfl | h
  ·rw [zbh nd.1,upd_same]
  ·exact zei nd.2 h
theorem zg3 {ps:List (Addr × List V)} {H:Hp} (h:∀ p ∈ ps,H p.1=none):Ext Nix H (layT H ps):=fun b o e _=>by
 rw [zbh fun hm=>?_]
 ·exact e
 ·obtain ⟨p,hp,rfl⟩:=List.mem_map.mp hm
  rw [h p hp] at e; cases e
theorem zej {X:Cx} {pins:List (Addr × Obj)} {σ:St} {h':Heap} {tk:Nat} {S:Addr} {xs:List V} (hL:∀ H:Hp,ObjOk X.prog X.w H h' S (.lst xs)):∀ (ps:List (Addr × List V)) {H:Hp} {s:Shared},Inv X pins σ H s -> (∀ b u,s.heap.get? b=some u -> h'.get? b=some u) →
  (ps.map (·.1)).Nodup -> (∀ p ∈ ps,p.1 ≠ S /\ s.heap.get? p.1=none /\ H p.1=none /\ p.2.length <= sizeLine /\ ∃ its:List Value,Vals p.2 its /\ h'.get? p.1=some { cls:=.type "tuple",data:=.seq its.toArray }) -> s.heap.get? S=none -> H S=none →
  Inv X pins σ (upd (layT H ps) S (.lst xs)) { s with heap:=h',toks:=tk }
 | [],H,s,I,k,_,_,hS,hn=>I.laidN (t':=tk) k hS hn (hL _)
 | p :: r,H,s,I,k,nd,hp,hS,hn=>by
  rw [List.map_cons,List.nodup_cons] at nd
  obtain ⟨pS,pn,pH,pl,its,pv,po⟩:=hp p List.mem_cons_self
  obtain ⟨G,g1,g2⟩:=restrict h' fun b=>decide (b ≠ S /\ b ∉ r.map (·.1))
  have kG:∀ b u,s.heap.get? b=some u -> G.get? b=some u:=fun b u e=>by
   rw [g1 b (decide_eq_true ⟨(fun z=>by rw [z,hS] at e; cases e),fun hm=>?_⟩)]
   ·exact k b u e
   ·obtain ⟨q,hq,rfl⟩:=List.mem_map.mp hm
    rw [(hp q (List.mem_cons_of_mem _ hq)).2.1] at e; cases e
  have pG:G.get? p.1=some { cls:=.type "tuple",data:=.seq its.toArray }:=by rw [g1 _ (decide_eq_true ⟨pS,nd.1⟩)]; exact po
  have I1:=I.laidN (t':=s.toks) (h':=G) (a:=p.1) (o:=.tup p.2) kG pn pH ⟨pl,its,pv,⟨_,pG,rfl,_,rfl⟩⟩
  refine zej (s:={ s with heap:=G }) hL r I1 (fun b u e=>?_) nd.2 (fun q hq=>?_) (g2 S (decide_eq_false fun z=>z.1 rfl)) (by rw [upd_ne (Ne.symm pS)]; exact hn)
  ·by_cases c:b ≠ S /\ b ∉ r.map (·.1)
   ·rw [<- g1 b (decide_eq_true c)]; exact e
   ·have e:G.get? b=some u:=e
    rw [g2 b (decide_eq_false c)] at e; cases e
  ·obtain ⟨a1,a2,a3,a4,a5⟩:=hp q (List.mem_cons_of_mem _ hq)
   have hm:q.1 ∈ r.map (·.1):=List.mem_map.mpr ⟨q,hq,rfl⟩
   exact ⟨a1,g2 q.1 (decide_eq_false fun z=>z.2 hm),by rw [upd_ne (fun z=>nd.1 (by rw [<- z]; exact hm))]; exact a3,a4,a5⟩
structure LaidIt (H:Hp) (kvs:List (List Key × V)) (ps:List (Addr × List V)) (S:Addr):Prop where
 nd:(ps.map (·.1)).Nodup
 new:∀ p ∈ ps,p.1 ≠ S /\ H p.1=none
 S:H S=none
 len:ps.length=kvs.length
 at_:∀ (j:Nat) (p:Addr × List V) (kv:List Key × V),ps[j]?=some p -> kvs[j]?=some kv -> ∃ b,p.2=[.ref b,kv.2] /\ H b=some (.tup (kv.1.map kV))
def zpv (td:TE):TE:=fun σ H Q=>td σ H fun x H1=>∃ a kvs,x=V.ref a /\ Rd H1 a (.dT kvs) /\ ∀ S ps,LaidIt H1 kvs ps S -> Q (.ref S) (upd (layT H1 ps) S (.lst (ps.map fun p=>V.ref p.1)))
theorem kt_at {H:Hp}:∀ {kvs:List (List Key × V)} {xs:List (List Key × Addr × Value)},KT H kvs xs -> ∀ (j:Nat) {y:List Key × V} {x:List Key × Addr × Value},kvs[j]?=some y -> xs[j]?=some x -> y.1=x.1 /\ H x.2.1=some (.tup (y.1.map kV)) /\ RelV y.2 x.2.2
 | _,_,.cons h _,0,y,x,e1,e2=>by
  rw [List.getElem?_cons_zero,Option.some.injEq] at e1 e2
  subst e1 e2
  exact h
 | _,_,.cons _ t,j+1,y,x,e1,e2=>kt_at t j (by rw [List.getElem?_cons_succ] at e1; exact e1) (by rw [List.getElem?_cons_succ] at e2; exact e2)
theorem zjp {X:Cx} {o:Expr} {p pos apos cpos:Pos} {td:TE} (hc:X.calm=true) (hg:Gl X "list") (hm:X.mg "list"=none) (hd:PE X o td) (hbase:attributeBase o "items" X.env (eval o X.env)=eval o X.env) (hline:(apos.endLine == cpos.line)=true) :
  PE X (.Call (.Name "list" p) [.Call (.Attribute o "items" apos) [] [] cpos] [] pos) (zpv td):=by
 refine ⟨fun pins s σ H Q I h=>?_⟩
 refine Call_ (ld_blt I hg hm boot_list (PyProof.Rows.callWith_type1 (PyProof.Rows.args_cons (wpAny_Call_method0_late hbase hline (thn (hd.run pins s σ H _ I h) fun v s1 ⟨x,H1,I1,r1,a,kvs,ex,ha,q⟩=>?_)) rfl) rfl))
 subst ex
 obtain rfl:v=Value.ref a:=r1
 obtain ⟨z,lo,xs,rel,ob,es,ep,ho,hx,hdat,hes,_,_⟩:=dt_rd I1.hok ha
 have l1:kvs.length=xs.length:=Paired.length rel
 have l2:es.size=xs.length:=by rw [<- Array.length_toList,hes,List.length_map]
 refine ⟨"dict","dict.items",PySem.F.plainAttrs_dict,PySem.F.slot_dict_items,PySem.F.type_dict_items,⟨ob,ho,hx.1⟩,fun b e=>?_,Calls.callWith_builtin rfl (PySem.evalArgs_none ?_)⟩
 ·cases e
  exact ⟨ob,ho,hx.2.1⟩
 refine call_meetsIn PySem.F.slot_dict_items ⟨ob,ho,hx.1⟩ PySem.F.entry_dict_items (PySem.F.args_dict_items_1 _) (PySem.meets_dict_items_raw a lo) ⟨⟨es,ep,ob,ho,hx,hdat⟩,?_⟩
 have k1:∀ b u,s1.heap.get? b=some u -> (s1.heap.push { cls:=.type "dict_items",data:=.fields #[.ref a] }).get? b=some u:=fun b u e=>Heap.get?_push_of_some _ e
 refine PyProof.Rows.args_nil ?_
 have hsz:(s1.heap.push { cls:=.type "dict_items",data:=.fields #[.ref a] }).objs.size=s1.heap.objs.size+1:=Heap.size_push _ _
 refine PySem.W.dil_call (s:={ s1 with heap:=s1.heap.push { cls:=.type "dict_items",data:=.fields #[.ref a] } }) (r:=s1.heap.objs.size) (d:=a) (es:=es) (ep:=ep) (I.ok.hd hc) ⟨_,Heap.get?_push_size _ rfl,rfl,rfl⟩ ⟨ob,k1 _ _ ho,hx,hdat⟩ (by rw [l2,<- l1]; exact z) fun h' tk acc c as hkeep hS hal hG hacc=>?_
 obtain ⟨S,eS⟩:∃ S,S=(s1.heap.push { cls:=.type "dict_items",data:=.fields #[.ref a] }).objs.size:=⟨_,rfl⟩
 show ∃ _,_
 rw [<- eS] at hS hG
 have gS:s1.heap.objs.size <= S:=by rw [eS,hsz]; exact Nat.le_succ _
 have hn:∀ b,s1.heap.objs.size <= b -> s1.heap.get? b=none /\ H1 b=none:=fun b hb=>⟨by
  cases e:s1.heap.get? b with
  | none=>rfl
  | some u=>exact absurd (Heap.lt_size e) (Nat.not_lt.mpr hb),I1.hok.fresh hb⟩
 have hz:as.length=kvs.length:=by rw [hal,l2,l1]
 obtain ⟨ps,eps⟩:∃ ps:List (Addr × List V),ps=as.zip ((kvs.zip xs).map fun q=>[V.ref q.2.2.1,q.1.2]):=⟨_,rfl⟩
 have zl:((kvs.zip xs).map fun q=>[V.ref q.2.2.1,q.1.2]).length=kvs.length:=by rw [List.length_map,List.length_zip]; omega
 have pm:ps.map (·.1)=as:=by rw [eps,List.map_fst_zip]; omega
 have pa:∀ (j:Nat) (p:Addr × List V),ps[j]?=some p -> ∃ kv x,as[j]?=some p.1 /\ kvs[j]?=some kv /\ xs[j]?=some x /\ p.2=[V.ref x.2.1,kv.2]:=fun j p e=>by
  rw [eps,List.getElem?_zip_eq_some,List.getElem?_map] at e
  obtain ⟨e1,e2⟩:=e
  cases e3:(kvs.zip xs)[j]? with
  | none=>rw [e3] at e2; cases e2
  | some q =>
   rw [e3] at e2
   rw [List.getElem?_zip_eq_some] at e3
   exact ⟨_,_,e1,e3.1,e3.2,(Option.some.inj e2).symm⟩
 have ent:∀ (j:Nat) (x:List Key × Addr × Value) (hj:j < es.size),xs[j]?=some x -> es[j].key=Value.ref x.2.1 /\ es[j].val=x.2.2:=fun j x hj ex=>by
  have e3:es.toList[j]?=some es[j]:=by rw [Array.getElem?_toList,Array.getElem?_eq_getElem hj]
  rw [hes,List.getElem?_map,ex] at e3
  have e4:entryOfKey (tupleKind (mixKind X.prog X.w)) x=es[j]:=Option.some.inj e3
  rw [<- e4]
  exact ⟨rfl,rfl⟩
 have nd:(ps.map (·.1)).Nodup:=by
  rw [pm,List.nodup_iff_pairwise_ne]
  exact hG.rise.imp fun h=>Nat.ne_of_lt h
 have mem:∀ p ∈ ps,p.1 ≠ S /\ s1.heap.get? p.1=none /\ H1 p.1=none /\ p.2.length <= sizeLine /\ ∃ its:List Value,Vals p.2 its /\ h'.get? p.1=some { cls:=.type "tuple",data:=.seq its.toArray }:=fun p hp=>by
  obtain ⟨j,hj⟩:=List.mem_iff_getElem?.mp hp
  obtain ⟨kv,x,e1,e2,e3,e4⟩:=pa j p hj
  have ab:=hG.above _ (List.mem_of_getElem? e1)
  obtain ⟨n1,n2⟩:=hn p.1 (Nat.le_trans gS (Nat.le_of_lt ab))
  obtain ⟨hj',e5⟩:=hG.pairs j _ e1
  obtain ⟨e6,e7⟩:=ent j x hj' e3
  obtain ⟨_,_,rv⟩:=kt_at rel j e2 e3
  refine ⟨Nat.ne_of_gt ab,n1,n2,by rw [e4]; show 2 <= sizeLine; decide,[.ref x.2.1,x.2.2],by rw [e4]; exact .cons rfl (.cons rv .nil),?_⟩
  rw [e5,e6,e7]
 have k2:∀ b u,s1.heap.get? b=some u -> h'.get? b=some u:=fun b u e=>hkeep b u (k1 b u e)
 have Sn:=hn S gS
 have accv:acc.toList=ps.map fun p=>Value.ref p.1:=by rw [hacc,<- pm,List.map_map]; rfl
 refine ⟨.ref S,_,zej (s:=s1) (tk:=tk) (xs:=ps.map fun p=>V.ref p.1) (fun H=>⟨by rw [List.length_map,<- List.length_map (f:=(·.1)),pm,hz]; exact z,acc.toList,c,?_,by rw [Array.toArray_toList]; exact hS⟩) ps I1 k2 nd mem Sn.1 Sn.2,by rw [eS]; rfl,q S ps ⟨nd,fun p hp=>⟨(mem p hp).1,(mem p hp).2.2.1⟩,Sn.2,by rw [<- List.length_map (f:=(·.1)),pm,hz],fun j p kv hp hk=>?_⟩⟩
 ·rw [accv]
  have:∀ l:List (Addr × List V),Vals (l.map fun p=>V.ref p.1) (l.map fun p=>Value.ref p.1):=fun l=>by
   induction l with
   | nil=>exact .nil
   | cons a l ih=>exact .cons rfl ih
  exact this ps
 ·obtain ⟨kv',x,e1,e2,e3,e4⟩:=pa j p hp
  rw [hk] at e2; cases e2
  obtain ⟨_,hb,_⟩:=kt_at rel j hk e3
  exact ⟨x.2.1,e4,hb⟩
theorem zdS {sc:Scope} {e:Expr} {k:Expr -> Bool} (h:zb3 sc e k=true):∃ p o apos cpos pos,e=.Call (.Name "list" p) [.Call (.Attribute o "items" apos) [] [] cpos] [] pos /\ glB sc "list"=true /\ zdd o=true /\ (apos.endLine == cpos.line)=true /\ k o=true:=by
 unfold zb3 at h; split at h
 ·simp only [Bool.and_eq_true,beq_iff_eq] at h
  obtain ⟨⟨⟨⟨⟨rfl,h2⟩,rfl⟩,h3⟩,h4⟩,h5⟩:=h
  exact ⟨_,_,_,_,_,rfl,h2,h3,by simpa using h4,h5⟩
 ·cases h
theorem zfN {K:PySem.W.Frag} {H:Hp} {P:Addr -> Prop}:∀ {ds:List D} {vs:List V},ds.length=vs.length -> (∀ (j:Nat) (d:D) (v:V),ds[j]?=some d -> vs[j]?=some v -> Rep K H P d v) -> Reps K H P ds vs
 | [],[],_,_=>.nil
 | d :: ds,v :: vs,l,h=>.cons (h 0 d v rfl rfl) (zfN (by simpa using l) fun j d v e1 e2=>h (j+1) d v e1 e2)
section
variable {T:List Def}
theorem zhM {a:E} (ha:SndE T a):SndE T (.itemsL a):=by
 intro X e sc O G Fnc n cls W F A σ ρ H Q hy tk hs c I h
 obtain ⟨p,o,apos,cpos,pos,rfl,c1,c2,c3,c4⟩:=zdS (show zb3 sc e (fun x=>chkE X.N T sc O a x)=true from c)
 have h':PostR (fun d=>∀ v H',Got X.K F A O T (.itemsL a) H H' d v -> Q v H') (ExW cls W σ H) ((evE G Fnc a ρ).bind fun x=>(ziE x).bind fun xs=>R.ok (D.lst xs)):=h
 subst hs
 obtain ⟨g1,g2,g3⟩:=gl_of c1
 have hb:X.mg "list"=none:=hy.blt "list" (by decide)
 refine we_of (zjp hy.calm g1 hb pe_we (zaD c2) c3) (ha hy tk rfl c4 I (h'.bind.mono (fun d hd v H1 g=>?_) fun _ z=>z))
 cases d <;> (try exact hd.elim)
 rename_i kvs
 obtain ⟨b,ws,rfl,rd,k,r⟩:=g.top.dT
 refine ⟨b,ws,rfl,rd,fun S ps L=>?_⟩
 have I1:=I.step g.ext
 have xE:Ext Nix H1 (layT H1 ps):=zg3 fun p hp=>(L.new p hp).2
 have Sn:layT H1 ps S=none:=by
  rw [zbh fun hm=>?_]
  ·exact L.S
  ·obtain ⟨p,hp,e⟩:=List.mem_map.mp hm
   exact (L.new p hp).1 e
 have len:kvs.length=ws.length:=by have:=congrArg List.length k; rw [List.length_map,List.length_map] at this; exact this
 refine zaC Sn (I1.newP L.S) (zfN (by rw [List.length_map,List.length_map,L.len,len]) fun j d v e1 e2=>?_) (zak (g.ext.trans xE) hd)
 rw [List.getElem?_map] at e1 e2
 cases ek:kvs[j]? with
 | none=>rw [ek] at e1; cases e1
 | some kv =>
  cases ep:ps[j]? with
  | none=>rw [ep] at e2; cases e2
  | some q =>
   rw [ek] at e1; rw [ep] at e2
   cases e1; cases e2
   have kj:(ws.map (·.1))[j]?=some kv.1:=by rw [<- k,List.getElem?_map,ek]; rfl
   rw [List.getElem?_map] at kj
   cases ew:ws[j]? with
   | none=>rw [ew] at kj; cases kj
   | some w =>
    rw [ew] at kj
    have kw:w.1=kv.1:=Option.some.inj kj
    obtain ⟨b',e3,e4⟩:=L.at_ j q w ep ew
    have hq:=zei (H:=H1) L.nd (List.mem_of_getElem? ep)
    rw [e3] at hq
    rw [kw] at e4
    obtain ⟨v',ev,rv⟩:=r.get (i:=j) (d:=kv.2) (by rw [List.getElem?_map,ek]; rfl)
    rw [List.getElem?_map,ew] at ev
    cases ev
    exact .tup hq (.cons (.tup (xE.all e4) (zed _)) (.cons (rv.ext xE fun _ _ z=>z) .nil))
end
end L2.Pf
namespace L2.Pf
open PySem PySem.W PySem.Spec PyProof.Rows
section
variable {P:Program} {w:World} {Ar:Around} {Ex:Value -> Shared -> Prop} {sh:Shared} {zp ti tu j1 j2:Addr} {fa fb:List Addr} {na nb i:Nat} {Pa Pb:Nat -> Value -> Prop} {Sa Sb:Nat -> Heap -> Prop}
theorem zpw {T:Addr} {f:Bool} {oT:Obj} {Q:Value -> Shared -> Prop} (S:ZipSep2 zp ti tu j1 j2 fa fb) (Da:Draws P w Ar j1 fa na Pa Sa) (Db:Draws P w Ar j2 fb nb Pb Sb)
  (hz:IsZipHeld sh.heap zp ti tu T f) (hT:sh.heap.get? T=some oT) (hI:IsTupOf2 sh.heap ti (.ref j1) (.ref j2)) (sa:Sa i sh.heap) (sb:Sb i sh.heap) (la:i < na) (lb:i < nb)
  (hQ:∀ x y h' tk,Pa i x -> Pb i y -> IsZipHeld h' zp ti tu T true -> Sa (i+1) h' -> Sb (i+1) h' -> IsTupOf2 h' sh.heap.objs.size x y -> h'.objs.size=sh.heap.objs.size+1 →
   (∀ c o,c ≠ zp -> c ≠ j1 -> c ≠ j2 -> sh.heap.get? c=some o -> h'.get? c=some o) -> Q (.ref sh.heap.objs.size) { sh with heap:=h',toks:=tk }) :
  wpAny (model P w) Ar (Builtin.«zip.__next__» ⟨[.ref zp],[]⟩) (fun fin s'=>∃ v,fin=.done (.ret v) /\ Q v s') Ex sh:=by
 obtain ⟨hp,g,dr,tk0,os⟩:=sh
 (show wpAny _ _ (field (.ref zp) 2 >>= _) _ _ _)
 refine wpAny_bind (wpAny_field hz rfl (x:=.bool false) rfl (?_:wpAny _ _ (field (.ref zp) 3 >>= _) _ _ _))
 refine wpAny_bind (wpAny_field hz rfl (x:=.ref ti) rfl (wpAny_bind (wpAny_seqItems hI rfl (?_:wpAny _ _ (Builtin.SmallTypes.ownedTupleIsFree (.ref zp) >>= _) _ _ _))))
 refine wpAny_bind (wpAny_tupleHeld_zip hz hT fun ha hza hsa=>?_)
 replace hsa:Heap.SameBut zp hp ha:=hsa
 simp only [Bool.false_eq_true,if_false]
 refine wpAny_bind (?_:wpAny _ _ _ _ _ _)
 (rw [<- Array.forIn_toList]; simp only [List.forIn_cons,List.forIn_nil])
 refine wpAny_bind (wpAny_bind (wpAny_holding (?_:wpAny _ _ (Builtin.SmallTypes.nextOf (.ref j1) >>= _) _ _ _)))
 refine wpAny_bind (Da.item i ⟨ha,g,dr,tk0,os⟩ _ _ la (Da.over sa hsa S.zf1) fun x pa tka hxa sna hpa=>wpAny_pure (wpAny_pure ?_))
 replace hpa:Heap.SameBut j1 ha pa:=hpa
 refine wpAny_bind (wpAny_bind (wpAny_holding (?_:wpAny _ _ (Builtin.SmallTypes.nextOf (.ref j2) >>= _) _ _ _)))
 refine wpAny_bind (Db.item i ⟨pa,g,dr,tka,os⟩ _ _ lb (Db.over (Db.over sb hsa S.zf2) hpa S.sep1_2) fun y pb tkb hyb snb hpb=>wpAny_pure (wpAny_pure (wpAny_pure ?_)))
 replace hpb:Heap.SameBut j2 pa pb:=hpb
 refine (?_:wpAny _ _ (newTuple [x,y] >>= _) _ _ _)
 refine wpAny_bind (wpAny_newTuple ?_)
 have hsz:pb.objs.size=hp.objs.size:=by rw [hpb.1,hpa.1,hsa.1]
 have hzb:IsZipHeld pb zp ti tu T true:=hpb.extBut _ _ S.zi2 (hpa.extBut _ _ S.zi1 hza)
 have hk:∀ c o,c ≠ zp -> c ≠ j1 -> c ≠ j2 -> hp.get? c=some o -> pb.get? c=some o:=fun c o c1 c2 c3 e=>hpb.extBut _ _ c3 (hpa.extBut _ _ c2 (hsa.extBut _ _ c1 e))
 have up:∀ c o,pb.get? c=some o -> (pb.push { cls:=.type "tuple",data:=.seq #[x,y] }).get? c=some o:=fun c o e=>Heap.get?_push_of_some _ e
 refine wpAny_pure ⟨_,rfl,(?_:Q (.ref pb.objs.size) _)⟩
 have ht:IsTupOf2 (pb.push { cls:=.type "tuple",data:=.seq #[x,y] }) pb.objs.size x y:=Heap.get?_push_size _ rfl
 have hz4:(pb.push { cls:=.type "tuple",data:=.seq #[x,y] }).objs.size=pb.objs.size+1:=Heap.size_push ..
 rw [hsz] at ht hz4 ⊢
 exact hQ x y _ tkb hxa hyb (up _ _ hzb) (Da.frame _ _ _ (Da.over sna hpb S.sep2_1) fun b _ o e=>up b o e) (Db.frame _ _ _ snb fun b _ o e=>up b o e) ht hz4 fun c o c1 c2 c3 e=>up c o (hk c o c1 c2 c3 e)
theorem zrP {T:Addr} {f:Bool} {oT:Obj} {Q:Fin -> Shared -> Prop} (S:ZipSep2 zp ti tu j1 j2 fa fb) (Da:Draws P w Ar j1 fa na Pa Sa) (Db:Draws P w Ar j2 fb nb Pb Sb)
  (hz:IsZipHeld sh.heap zp ti tu T f) (hT:sh.heap.get? T=some oT) (hI:IsTupOf2 sh.heap ti (.ref j1) (.ref j2)) (sa:Sa i sh.heap) (sb:Sb i sh.heap) (la:i <= na) (lb:i <= nb) (he:i=na \/ i=nb)
  (hE:∀ h' tk e,(∀ c o,c ≠ zp -> c ≠ j1 -> c ≠ j2 -> sh.heap.get? c=some o -> h'.get? c=some o) -> (∃ o,h'.get? e=some o /\ o.cls=.type "StopIteration") -> Ex (.ref e) { sh with heap:=h',toks:=tk }) :
  wpAny (model P w) Ar (Builtin.«zip.__next__» ⟨[.ref zp],[]⟩) Q Ex sh:=by
 obtain ⟨hp,g,dr,tk0,os⟩:=sh
 (show wpAny _ _ (field (.ref zp) 2 >>= _) _ _ _)
 refine wpAny_bind (wpAny_field hz rfl (x:=.bool false) rfl (?_:wpAny _ _ (field (.ref zp) 3 >>= _) _ _ _))
 refine wpAny_bind (wpAny_field hz rfl (x:=.ref ti) rfl (wpAny_bind (wpAny_seqItems hI rfl (?_:wpAny _ _ (Builtin.SmallTypes.ownedTupleIsFree (.ref zp) >>= _) _ _ _))))
 refine wpAny_bind (wpAny_tupleHeld_zip hz hT fun ha hza hsa=>?_)
 replace hsa:Heap.SameBut zp hp ha:=hsa
 simp only [Bool.false_eq_true,if_false]
 refine wpAny_bind (?_:wpAny _ _ _ _ _ _)
 (rw [<- Array.forIn_toList]; simp only [List.forIn_cons,List.forIn_nil])
 refine wpAny_bind (wpAny_bind (wpAny_holding (?_:wpAny _ _ (Builtin.SmallTypes.nextOf (.ref j1) >>= _) _ _ _)))
 by_cases l1:i < na
 ·refine wpAny_bind (Da.item i ⟨ha,g,dr,tk0,os⟩ _ _ l1 (Da.over sa hsa S.zf1) fun x pa tka hxa sna hpa=>wpAny_pure (wpAny_pure ?_))
  replace hpa:Heap.SameBut j1 ha pa:=hpa
  have ib:i=nb:=by omega
  refine wpAny_bind (wpAny_bind (wpAny_holding (?_:wpAny _ _ (Builtin.SmallTypes.nextOf (.ref j2) >>= _) _ _ _)))
  refine wpAny_bind (Db.done ⟨pa,g,dr,tka,os⟩ _ _ (by rw [<- ib]; exact Db.over (Db.over sb hsa S.zf2) hpa S.sep1_2) fun q e hq hc=>?_)
  replace hq:Heap.ExtBut j2 pa q:=hq
  exact hE q tka e (fun c o c1 c2 c3 x=>hq _ _ c3 (hpa.extBut _ _ c2 (hsa.extBut _ _ c1 x))) hc
 ·have ia:i=na:=by omega
  refine wpAny_bind (Da.done ⟨ha,g,dr,tk0,os⟩ _ _ (by rw [<- ia]; exact Da.over sa hsa S.zf1) fun q e hq hc=>?_)
  replace hq:Heap.ExtBut j1 ha q:=hq
  exact hE q tk0 e (fun c o c1 c2 _ x=>hq _ _ c2 (hsa.extBut _ _ c1 x)) hc
def ZAt (zp ti tu j1 j2 Sl:Addr) (Sa Sb:Nat -> Heap -> Prop) (i:Nat) (h:Heap):Prop :=
 IsTupOf2 h ti (.ref j1) (.ref j2) /\ Sa i h /\ Sb i h /\ ((IsZip h zp ti tu .none /\ ∃ a b,IsTupOf2 h tu a b) \/ ∃ T f oT,IsZipHeld h zp ti tu T f /\ h.get? T=some oT /\ T ≠ zp /\ T ≠ j1 /\ T ≠ j2 /\ T ≠ Sl)
theorem zpx {Sl:Addr} {Q:Option Value -> Shared -> Prop} (S:ZipSep2 zp ti tu j1 j2 fa fb) (Da:Draws P w Ar.in1 j1 fa na Pa Sa) (Db:Draws P w Ar.in1 j2 fb nb Pb Sb)
  (hz:ZAt zp ti tu j1 j2 Sl Sa Sb i sh.heap) (la:i < na) (lb:i < nb) (hS:Sl < sh.heap.objs.size)
  (hQ:∀ x y h' tk,Pa i x -> Pb i y -> ZAt zp ti tu j1 j2 Sl Sa Sb (i+1) h' -> IsTupOf2 h' sh.heap.objs.size x y -> h'.objs.size=sh.heap.objs.size+1 →
   (∀ c o,c ≠ zp -> c ≠ tu -> c ≠ j1 -> c ≠ j2 -> sh.heap.get? c=some o -> h'.get? c=some o) -> Q (some (.ref sh.heap.objs.size)) { sh with heap:=h',toks:=tk }) :
  wpAny (model P w) Ar (pyNext (.ref zp)) Q Ex sh:=by
 obtain ⟨hI,sa,sb,hz⟩:=hz
 have nn:∀ {c o},sh.heap.get? c=some o -> sh.heap.objs.size ≠ c:=fun e=>Nat.ne_of_gt (Heap.lt_size e)
 have n1:sh.heap.objs.size ≠ j1:=let ⟨_,e⟩:=Da.live _ _ sa; nn e
 have n2:sh.heap.objs.size ≠ j2:=let ⟨_,e⟩:=Db.live _ _ sb; nn e
 rcases hz with ⟨hz,a,b,hO⟩ | ⟨T,f,oT,hz,hT,r1,r2,r3,r4⟩
 ·refine wpAny_pyNext_zipD2_item S Da Db hz hI hO sa sb la lb fun x y h' tk y1 y2 b1 b2 d1 d2 b5 b6 hk=>?_
  exact hQ x y h' tk y1 y2 ⟨hk _ _ S.TIz S.TITO S.TIi1 S.TIi2 hI,d1,d2,.inr ⟨_,false,_,b1,b5,nn hz,n1,n2,Nat.ne_of_gt hS⟩⟩ b5 b6 hk
 ·have hTy:sh.TypeIs (.ref zp) "zip":=⟨_,hz,rfl⟩
  unfold pyNext
  refine wpAny_bind (wpAny_attempt (wpAny_callSpecial?_slot (name:=Str.ofString "__next__") hTy F.slot_zip_next (wpAny_call_entry F.slot_zip_next hTy F.entry_zip_next (zpw S Da Db hz hT hI sa sb la lb fun x y h' tk y1 y2 b1 d1 d2 b5 b6 hk=>wpAny_pure ?_) (F.args_zip_next_1 _))))
  exact hQ x y h' tk y1 y2 ⟨hk _ _ S.TIz S.TIi1 S.TIi2 hI,d1,d2,.inr ⟨T,true,oT,b1,hk _ _ r1 r2 r3 hT,r1,r2,r3,r4⟩⟩ b5 b6 fun c o c1 _ c3 c4 e=>hk c o c1 c3 c4 e
theorem zpy {Sl:Addr} {Q:Option Value -> Shared -> Prop} (S:ZipSep2 zp ti tu j1 j2 fa fb) (Da:Draws P w Ar.in1 j1 fa na Pa Sa) (Db:Draws P w Ar.in1 j2 fb nb Pb Sb)
  (hz:ZAt zp ti tu j1 j2 Sl Sa Sb i sh.heap) (la:i <= na) (lb:i <= nb) (he:i=na \/ i=nb)
  (hQ:∀ h' tk,(∀ c o,c ≠ zp -> c ≠ tu -> c ≠ j1 -> c ≠ j2 -> sh.heap.get? c=some o -> h'.get? c=some o) -> Q none { sh with heap:=h',toks:=tk }) :
  wpAny (model P w) Ar (pyNext (.ref zp)) Q Ex sh:=by
 obtain ⟨hI,sa,sb,hz⟩:=hz
 rcases hz with ⟨hz,a,b,hO⟩ | ⟨T,f,oT,hz,hT,r1,r2,r3,r4⟩
 ·exact wpAny_pyNext_zipD2_end S Da Db hz hI hO sa sb la lb he hQ
 ·have hTy:sh.TypeIs (.ref zp) "zip":=⟨_,hz,rfl⟩
  unfold pyNext
  refine wpAny_bind (wpAny_attempt (wpAny_callSpecial?_slot (name:=Str.ofString "__next__") hTy F.slot_zip_next (wpAny_call_entry F.slot_zip_next hTy F.entry_zip_next (zrP S Da Db hz hT hI sa sb la lb he fun h' tk e hk hc=>?_) (F.args_zip_next_1 _))))
  obtain ⟨o,ho,hc⟩:=hc
  refine wpAny_bind (wpAny_isInstance (T:="StopIteration") (b:=true) ⟨o,ho,hc⟩ isSubtype_stop ?_)
  exact wpAny_pure (hQ _ _ fun c o c1 _ c3 c4 e=>hk c o c1 c3 c4 e)
end
structure ZG (Pa Pb:Nat -> Value -> Prop) (lo:Addr) (h:Heap) (as:List Addr):Prop where
 rise:as.Pairwise (· < ·)
 above:∀ a ∈ as,lo < a
 pairs:∀ (j:Nat) (a:Addr),as[j]?=some a -> ∃ x y,Pa j x /\ Pb j y /\ IsTupOf2 h a x y
section
variable {P:Program} {w:World} {A:Around} {sh:Shared} {R:Result -> Shared -> Prop} {zp ti tu j1 j2 Sl:Addr} {fa fb:List Addr} {na nb:Nat} {Pa Pb:Nat -> Value -> Prop} {Sa Sb:Nat -> Heap -> Prop}
theorem ZAt.keep {Ar:Around} (Da:Draws P w Ar j1 fa na Pa Sa) (Db:Draws P w Ar j2 fb nb Pb Sb) {i:Nat} {h h':Heap} (z:ZAt zp ti tu j1 j2 Sl Sa Sb i h) (n1:zp ≠ Sl) (n2:ti ≠ Sl) (n3:tu ≠ Sl) (n4:Sl ∉ fa) (n5:Sl ∉ fb)
  (k:∀ b o,b ≠ Sl -> h.get? b=some o -> h'.get? b=some o):ZAt zp ti tu j1 j2 Sl Sa Sb i h':=by
 obtain ⟨hI,sa,sb,hz⟩:=z
 refine ⟨k _ _ n2 hI,Da.frame _ _ _ sa fun b hb o e=>k b o (fun q=>n4 (q ▸ hb)) e,Db.frame _ _ _ sb fun b hb o e=>k b o (fun q=>n5 (q ▸ hb)) e,?_⟩
 rcases hz with ⟨hz,a,b,hO⟩ | ⟨T,f,oT,hz,hT,r1,r2,r3,r4⟩
 ·exact .inl ⟨k _ _ n1 hz,a,b,k _ _ n3 hO⟩
 ·exact .inr ⟨T,f,oT,k _ _ n1 hz,k _ _ r4 hT,r1,r2,r3,r4⟩
structure ZLow (zp ti tu j1 j2 Sl:Addr) (fa fb:List Addr):Prop where
 z:zp < Sl
 ti:ti < Sl
 tu:tu < Sl
 j1:j1 < Sl
 j2:j2 < Sl
 fa:Sl ∉ fa
 fb:Sl ∉ fb
theorem zpz (S:ZipSep2 zp ti tu j1 j2 fa fb) (Da:Draws P w A.in1.in1 j1 fa na Pa Sa) (Db:Draws P w A.in1.in1 j2 fb nb Pb Sb) (L:ZLow zp ti tu j1 j2 Sl fa fb) (hn:min na nb <= sizeLine) (res:Value) {h₁:Heap}
  (hR:∀ h' tk acc c as,(∀ b o,b ≠ Sl -> b ≠ zp -> b ≠ tu -> b ≠ j1 -> b ≠ j2 -> h₁.get? b=some o -> h'.get? b=some o) -> h'.get? Sl=some { cls:=.type "list",dict:=none,data:=.seq acc c,slots:=#[] } -> as.length=min na nb -> ZG Pa Pb Sl h' as →
   acc.toList=as.map Value.ref -> R (.ok (.ret res)) { sh with heap:=h',toks:=tk }) :
  ∀ (k i:Nat) (h:Heap) (tk c:Nat) (acc:Array Value) (as:List Addr),min na nb - i=k -> i <= min na nb -> ZAt zp ti tu j1 j2 Sl Sa Sb i h -> (∀ b o,b ≠ Sl -> b ≠ zp -> b ≠ tu -> b ≠ j1 -> b ≠ j2 -> h₁.get? b=some o -> h.get? b=some o) →
   h.get? Sl=some { cls:=.type "list",dict:=none,data:=.seq acc c,slots:=#[] } -> acc.toList=as.map Value.ref -> as.length=i -> ZG Pa Pb Sl h as →
   codeAny (model P w) A (.builtin "list.extend.loop" ⟨[.ref Sl,.ref zp,res],[]⟩) R { sh with heap:=h,toks:=tk }:=by
 have far:∀ {a:Addr},Sl < a -> a ≠ zp /\ a ≠ tu /\ a ≠ j1 /\ a ≠ j2:=fun q=>⟨Nat.ne_of_gt (Nat.lt_trans L.z q),Nat.ne_of_gt (Nat.lt_trans L.tu q),Nat.ne_of_gt (Nat.lt_trans L.j1 q),Nat.ne_of_gt (Nat.lt_trans L.j2 q)⟩
 have lS:Sl ≠ zp /\ Sl ≠ tu /\ Sl ≠ j1 /\ Sl ≠ j2:=⟨Nat.ne_of_gt L.z,Nat.ne_of_gt L.tu,Nat.ne_of_gt L.j1,Nat.ne_of_gt L.j2⟩
 intro k
 induction k with
 | zero =>
  intro i h tk c acc as hk hi hz kp hS ha hl G
  refine codeAny_builtin PySem.F.entry_extend_loop ?_
  (rw [Around.under_plainId PySem.F.plain_extend_loop _]; show wpAny _ A.in1 (pyNext (.ref zp) >>= _) _ _ _)
  refine wpAny_bind (zpy (sh:={ sh with heap:=h,toks:=tk }) S Da Db hz (by omega) (by omega) (by omega) fun h' tk' hk'=>?_)
  refine wpAny_pure (hR h' tk' acc c as (fun b o b1 b2 b3 b4 b5 e=>hk' b o b2 b3 b4 b5 (kp b o b1 b2 b3 b4 b5 e)) (hk' _ _ lS.1 lS.2.1 lS.2.2.1 lS.2.2.2 hS) (by omega) ⟨G.rise,G.above,fun j a hj=>?_⟩ ha)
  obtain ⟨x,y,p1,p2,e⟩:=G.pairs j a hj
  obtain ⟨f1,f2,f3,f4⟩:=far (G.above a (List.mem_of_getElem? hj))
  exact ⟨x,y,p1,p2,hk' _ _ f1 f2 f3 f4 e⟩
 | succ k ih =>
  intro i h tk c acc as hk hi hz kp hS ha hl G
  have hsz:acc.size=i:=by rw [<- Array.length_toList,ha,List.length_map,hl]
  have Sh:Sl < h.objs.size:=Heap.lt_size hS
  refine codeAny_builtin PySem.F.entry_extend_loop ?_
  (rw [Around.under_plainId PySem.F.plain_extend_loop _]; show wpAny _ A.in1 (pyNext (.ref zp) >>= _) _ _ _)
  refine wpAny_bind (zpx (sh:={ sh with heap:=h,toks:=tk }) S Da Db hz (by omega) (by omega) Sh fun x y h' tk' px py hz' ht hs' hk'=>?_)
  dsimp only at ht hs' hk' ⊢
  have hS':=hk' _ _ lS.1 lS.2.1 lS.2.2.1 lS.2.2.2 hS
  have up:∀ b o,b ≠ Sl -> h'.get? b=some o -> (h'.update Sl (Obj.mapSeq (·.push (Value.ref h.objs.size)))).get? b=some o:=fun b o hb e=>(Heap.get?_update_other _ _ (Ne.symm hb)).trans e
  refine (?_:wpAny _ A.in1 (updateSeq Sl (·.push (Value.ref h.objs.size)) >>= _) _ _ _)
  refine wpAny_bind (wpAny_updateSeq hS' rfl (wpAny_pure ⟨plainId_quiet PySem.F.plain_extend_loop _,ih (i+1) _ tk' _ (acc.push (Value.ref h.objs.size)) (as ++ [h.objs.size]) (by omega) (by omega) (hz'.keep Da Db (Nat.ne_of_lt L.z) (Nat.ne_of_lt L.ti) (Nat.ne_of_lt L.tu) L.fa L.fb up)
   (fun b o b1 b2 b3 b4 b5 e=>up b o b1 (hk' b o b2 b3 b4 b5 (kp b o b1 b2 b3 b4 b5 e))) (Heap.get?_update_self _ hS' rfl) (by rw [Array.toList_push,ha,List.map_append]; rfl) (by rw [List.length_append,hl]; rfl) ⟨?_,?_,?_⟩⟩) (by rw [hsz]; omega) (by show (acc.push (Value.ref h.objs.size)).size <= sizeLine+1; rw [Array.size_push,hsz]; omega))
  ·refine List.pairwise_append.mpr ⟨G.rise,List.pairwise_singleton _ _,fun a m b hb=>?_⟩
   rw [List.mem_singleton.mp hb]
   obtain ⟨j,hj⟩:=List.mem_iff_getElem?.mp m
   obtain ⟨_,_,_,_,e⟩:=G.pairs j a hj
   exact Heap.lt_size e
  ·intro a m
   rcases List.mem_append.mp m with m | m
   ·exact G.above a m
   ·rw [List.mem_singleton.mp m]; exact Sh
  ·intro j b hj
   rcases Nat.lt_trichotomy j as.length with q | q | q
   ·rw [List.getElem?_append_left q] at hj
    obtain ⟨x',y',p1,p2,e⟩:=G.pairs j b hj
    have hb:=G.above b (List.mem_of_getElem? hj)
    obtain ⟨f1,f2,f3,f4⟩:=far hb
    exact ⟨x',y',p1,p2,up b _ (Nat.ne_of_gt hb) (hk' _ _ f1 f2 f3 f4 e)⟩
   ·subst q
    have hb:h.objs.size=b:=by simpa using hj
    subst hb
    exact ⟨x,y,by rw [hl]; exact px,by rw [hl]; exact py,up _ _ (Nat.ne_of_gt Sh) ht⟩
   ·rw [List.getElem?_eq_none (by rw [List.length_append,List.length_singleton]; omega)] at hj
    cases hj
end
theorem zhN:typeLookup (.type "zip") "__len__"=pure none:=am_miss_of_fast (by decide +kernel)
theorem zfO:typeLookup (.type "zip") "__length_hint__"=pure none:=am_miss_of_fast (by decide +kernel)
section
variable {P:Program} {w:World} {A:Around} {E:Value -> Shared -> Prop} {sh:Shared} {zp ti tu j1 j2 Sl:Addr} {fa fb:List Addr} {na nb:Nat} {Pa Pb:Nat -> Value -> Prop} {Sa Sb:Nat -> Heap -> Prop}
theorem zpA {r:Addr} {Q:Bool -> Shared -> Prop} (hT:sh.TypeIs (.ref r) "zip") (h:∀ b,Q b sh):wpAny (model P w) A (Builtin.List.listLengthHint (.ref r)) Q E sh:=by
 unfold Builtin.List.listLengthHint
 refine wpAny_bind (wpAny_specialOf hT zhN (?_:wpAny _ A (specialOf (Value.ref r) (Str.ofString "__length_hint__") >>= _) _ _ _))
 exact wpAny_bind (wpAny_specialOf hT zfO (wpAny_pure (h _)))
structure ZNew (P:Program) (w:World) (A:Around) (zp ti tu j1 j2:Addr) (fa fb:List Addr) (na nb:Nat) (Pa Pb:Nat -> Value -> Prop) (Sa Sb:Nat -> Heap -> Prop) (h:Heap):Prop where
 S:ZipSep2 zp ti tu j1 j2 fa fb
 Da:Draws P w A.in1.in1 j1 fa na Pa Sa
 Db:Draws P w A.in1.in1 j2 fb nb Pb Sb
 z:IsZip h zp ti tu .none
 i:IsTupOf2 h ti (.ref j1) (.ref j2)
 o:∃ a b,IsTupOf2 h tu a b
 a:Sa 0 h
 b:Sb 0 h
theorem ZNew.at' {h:Heap} (Z:ZNew P w A zp ti tu j1 j2 fa fb na nb Pa Pb Sa Sb h):ZAt zp ti tu j1 j2 Sl Sa Sb 0 h:=⟨Z.i,Z.a,Z.b,.inl ⟨Z.z,Z.o⟩⟩
theorem ZNew.keep {h h':Heap} (Z:ZNew P w A zp ti tu j1 j2 fa fb na nb Pa Pb Sa Sb h) (L:ZLow zp ti tu j1 j2 Sl fa fb) (k:∀ b o,b ≠ Sl -> h.get? b=some o -> h'.get? b=some o):ZNew P w A zp ti tu j1 j2 fa fb na nb Pa Pb Sa Sb h':=by
 obtain ⟨x,y,e⟩:=Z.o
 exact ⟨Z.S,Z.Da,Z.Db,k _ _ (Nat.ne_of_lt L.z) Z.z,k _ _ (Nat.ne_of_lt L.ti) Z.i,⟨x,y,k _ _ (Nat.ne_of_lt L.tu) e⟩,Z.Da.frame _ _ _ Z.a fun b hb o e=>k b o (fun q=>L.fa (q ▸ hb)) e,Z.Db.frame _ _ _ Z.b fun b hb o e=>k b o (fun q=>L.fb (q ▸ hb)) e⟩
theorem zjq {R:Result -> Shared -> Prop} (Z:ZNew P w A zp ti tu j1 j2 fa fb na nb Pa Pb Sa Sb sh.heap) (L:ZLow zp ti tu j1 j2 Sl fa fb) (hn:min na nb <= sizeLine) (res:Value) (c0:Nat) (hS:sh.heap.get? Sl=some { cls:=.type "list",data:=.seq #[] c0 })
  (hR:∀ h' tk acc c as,(∀ b o,b ≠ Sl -> b ≠ zp -> b ≠ tu -> b ≠ j1 -> b ≠ j2 -> sh.heap.get? b=some o -> h'.get? b=some o) -> h'.get? Sl=some { cls:=.type "list",dict:=none,data:=.seq acc c,slots:=#[] } -> as.length=min na nb -> ZG Pa Pb Sl h' as →
   acc.toList=as.map Value.ref -> R (.ok (.ret res)) { sh with heap:=h',toks:=tk }) :
  wpAny (model P w) A.in1 (Builtin.List.listExtendWith (.ref Sl) (.ref zp) res)
   (fun fin s'=>match fin with | .done f=>R (.ok f) s' | .again c'=>c'.quiet=true /\ codeAny (model P w) A c' R s') (fun e s'=>R (.error e) s') sh:=by
 have key:∀ (h:Heap) (c1 tk:Nat),(∀ b o,b ≠ Sl -> sh.heap.get? b=some o -> h.get? b=some o) -> h.get? Sl=some { cls:=.type "list",data:=.seq #[] c1 } -> codeAny (model P w) A (.builtin "list.extend.loop" ⟨[.ref Sl,.ref zp,res],[]⟩) R { sh with heap:=h,toks:=tk }:=fun h c1 tk k hS1 =>
  zpz Z.S Z.Da Z.Db L hn res (sh:=sh) (h₁:=sh.heap) hR (min na nb) 0 h tk c1 #[] [] (Nat.sub_zero _) (Nat.zero_le _) (Z.keep L k).at' (fun b o b1 _ _ _ _ e=>k b o b1 e) hS1 rfl rfl
   ⟨List.Pairwise.nil,(fun _ ha=>nomatch ha),(fun j a hj=>by simp at hj)⟩
 have hT:sh.TypeIs (.ref zp) "zip":=⟨_,Z.z,rfl⟩
 unfold Builtin.List.listExtendWith
 refine wpAny_bind (wpAny_typeOf (T:="zip") hT ?_)
 have e1:Builtin.List.listSameRef (.ref Sl) (.ref zp)=false:=by simp [Builtin.List.listSameRef,Nat.ne_of_gt L.z]
 have e2:(Value.type "zip" == Value.type "list")=false:=by decide
 have e3:(Value.type "zip" == Value.type "tuple")=false:=by decide
 simp only [e1,e2,e3,Bool.or_false,Bool.false_eq_true,if_false]
 refine wpAny_bind (wpAny_pyIter_zip Z.z (wpAny_bind (wpAny_holding (zpA hT fun b=>?_))))
 refine wpAny_ite_split (fun _=>wpAny_bind (wpAny_rule (wpAny_bind ?_))) (fun _=>wpAny_pure ⟨plainId_quiet PySem.F.plain_extend_loop _,key _ c0 _ (fun b o _ e=>e) hS⟩)
 refine (?_:wpAny _ _ (updateSeq Sl (·.push .none) >>= fun _=>updateSeq Sl (·.pop)) _ _ _)
 refine wpAny_bind (wpAny_updateSeq hS rfl ?_)
 have hS2:=Heap.get?_update_self (Obj.mapSeq (·.push Value.none)) hS rfl
 refine wpAny_updateSeq (hz:=by seq_fits) hS2 rfl ?_
 have hS3:=Heap.get?_update_self (Obj.mapSeq (·.pop)) hS2 rfl
 exact wpAny_pure ⟨plainId_quiet PySem.F.plain_extend_loop _,key _ _ _ (fun b o hb e=>(Heap.get?_update_other _ _ (Ne.symm hb)).trans ((Heap.get?_update_other _ _ (Ne.symm hb)).trans e)) hS3⟩
theorem zpB {R:Result -> Shared -> Prop} (Z:ZNew P w A zp ti tu j1 j2 fa fb na nb Pa Pb Sa Sb sh.heap) (L:ZLow zp ti tu j1 j2 Sl fa fb) (hn:min na nb <= sizeLine) (hS:sh.heap.get? Sl=some { cls:=.type "list",data:=.seq #[] })
  (hR:∀ h' tk acc c as,(∀ b o,b ≠ Sl -> b ≠ zp -> b ≠ tu -> b ≠ j1 -> b ≠ j2 -> sh.heap.get? b=some o -> h'.get? b=some o) -> h'.get? Sl=some { cls:=.type "list",dict:=none,data:=.seq acc c,slots:=#[] } -> as.length=min na nb -> ZG Pa Pb Sl h' as →
   acc.toList=as.map Value.ref -> R (.ok (.ret .none)) { sh with heap:=h',toks:=tk }) :
  wpAny (model P w) A.in1 (Builtin.«list.__init__» ⟨[.ref Sl,.ref zp],[]⟩)
   (fun fin s'=>match fin with | .done f=>R (.ok f) s' | .again c'=>c'.quiet=true /\ codeAny (model P w) A c' R s') (fun e s'=>R (.error e) s') sh:=by
 refine (?_:wpAny _ _ (do let old <- Builtin.List.listItems (.ref Sl); Builtin.List.listUpdate (.ref Sl) (fun _=>#[]); letGo old.toList.reverse; Builtin.List.listExtendWith (.ref Sl) (.ref zp) .none) _ _ sh)
 refine wpAny_bind ?_
 (unfold Builtin.List.listItems; refine wpAny_bind (wpAny_seqItems hS rfl (wpAny_pure ?_)))
 (show wpAny _ _ (updateSeq Sl (fun _=>#[]) >>= fun _=>letGo (#[]:Array Value).toList.reverse >>= fun _=>Builtin.List.listExtendWith (.ref Sl) (.ref zp) .none) _ _ sh)
 refine wpAny_bind (wpAny_updateSeq hS rfl ?_)
 have hS2:=Heap.get?_update_self (Obj.mapSeq (fun _=>(#[]:Array Value))) hS rfl
 have oth:∀ b o,b ≠ Sl -> sh.heap.get? b=some o -> (sh.heap.update Sl (Obj.mapSeq (fun _=>(#[]:Array Value)))).get? b=some o:=fun b o hb e=>(Heap.get?_update_other _ _ (Ne.symm hb)).trans e
 refine wpAny_bind (wpAny_letGo (zjq (Z.keep L oth) L hn .none _ hS2 fun h' tk acc c as k hS' hl G ha=>?_))
 exact hR h' tk acc c as (fun b o b1 b2 b3 b4 b5 e=>k b o b1 b2 b3 b4 b5 (oth b o b1 e)) hS' hl G ha
theorem zpC {Q:Value -> Shared -> Prop} (Z:ZNew P w A.in1 zp ti tu j1 j2 fa fb na nb Pa Pb Sa Sb sh.heap) (L:ZLow zp ti tu j1 j2 sh.heap.objs.size fa fb) (hn:min na nb <= sizeLine)
  (hQ:∀ h' tk acc c as,(∀ b o,b ≠ zp -> b ≠ tu -> b ≠ j1 -> b ≠ j2 -> sh.heap.get? b=some o -> h'.get? b=some o) -> h'.get? sh.heap.objs.size=some { cls:=.type "list",dict:=none,data:=.seq acc c,slots:=#[] } -> as.length=min na nb -> ZG Pa Pb sh.heap.objs.size h' as →
   acc.toList=as.map Value.ref -> Q (.ref sh.heap.objs.size) { sh with heap:=h',toks:=tk }) :
  wpAny (model P w) A (call (.type "list") [.ref zp]) Q E sh:=by
 refine callType_codes (Q₁:=fun obj s1=>obj=.ref sh.heap.objs.size /\ s1={ sh with heap:=sh.heap.push { cls:=.type "list",data:=.seq #[] } }) PySem.F.called_list (PySem.F.typeCall_list_1 _) PySem.F.entry_list_init (code_list_new _ ⟨rfl,rfl⟩) fun obj s1 q=>?_
 obtain ⟨rfl,rfl⟩:=q
 have hS:(sh.heap.push { cls:=.type "list",data:=.seq #[] }).get? sh.heap.objs.size=some { cls:=.type "list",data:=.seq #[] }:=Heap.get?_push_size _ rfl
 refine ⟨⟨_,hS,rfl⟩,PySem.F.args_list_init_2 _ _,zpB (A:=A.in1) (Z.keep L fun b o _ e=>Heap.get?_push_of_some _ e) L hn hS fun h' tk acc c as k hS' hl G ha=>?_⟩
 exact ⟨rfl,hQ h' tk acc c as (fun b o b2 b3 b4 b5 e=>k b o (Nat.ne_of_lt (Heap.lt_size e)) b2 b3 b4 b5 (Heap.get?_push_of_some _ e)) hS' hl G ha⟩
end
theorem zg4 {t:Bool} {h h':Heap} {a:Addr} {items:Array Value} (x:isX t h a items) (k:∀ b o,h.get? b=some o -> h'.get? b=some o):isX t h' a items:=by
 cases t with
 | true=>exact Heap.IsTuple.at (show h.IsTuple a items from x) fun o e=>k _ o e
 | false=>exact Heap.IsList.at (show h.IsList a items from x) fun o e=>k _ o e
structure LaidZ (H:Hp) (xs ys:List V) (ps:List (Addr × List V)) (S:Addr):Prop where
 nd:(ps.map (·.1)).Nodup
 new:∀ p ∈ ps,p.1 ≠ S /\ H p.1=none
 S:H S=none
 len:ps.length=min xs.length ys.length
 at_:∀ (j:Nat) (p:Addr × List V),ps[j]?=some p -> ∃ x y,xs[j]?=some x /\ ys[j]?=some y /\ p.2=[x,y]
def tZipL (K:PySem.W.Frag) (ta:TA):TE:=fun σ H Q=>ta σ H fun vs H1=>∃ t1 t2 a b xs ys,vs=[.ref a,.ref b] /\ SqX K t1 H1 a xs /\ SqX K t2 H1 b ys /\ min xs.length ys.length <= sizeLine /\ ∀ S ps,LaidZ H1 xs ys ps S -> Q (.ref S) (upd (layT H1 ps) S (.lst (ps.map fun p=>V.ref p.1)))
theorem zpD {X:Cx} {e e2:Expr} {ta:TA} {p pos p2 pos2:Pos} (hc:X.calm=true) (hg:Gl X "list") (hm:X.mg "list"=none) (hg2:Gl X "zip") (hm2:X.mg "zip"=none) (ha:PA X [e,e2] ta)
  (hs:starEach [e,e2] X.env=(false,eval e X.env) :: starEach [e2] X.env:=by rfl) (hpl:(backTo pos2 (starEach [e2] X.env)).any (·.1)=false:=by rfl) :
  PE X (.Call (.Name "list" p) [.Call (.Name "zip" p2) [e,e2] [] pos2] [] pos) (tZipL X.K ta):=by
 refine ⟨fun pins s σ H Q I h=>?_⟩
 refine Call_ (ld_blt I hg hm boot_list (PyProof.Rows.callWith_type1 (PyProof.Rows.args_cons (Call_ (ld_blt I hg2 hm2 PyProof.Rows.boot_zip (PyProof.Rows.callWith_type1 (thn (ha.run pos2 pins s σ H _ I h) fun us s1 ⟨vs,H1,I1,r1,q1⟩=>?_) hs hpl))) rfl) rfl))
 obtain ⟨t1,t2,a,b,xs,ys,ex,hqx,hqy,hmn,q⟩:=q1
 subst ex
 cases r1 with
 | cons r rr =>
  cases rr with
  | cons r' rr =>
   cases rr
   cases r
   cases r'
   obtain ⟨its,rv,x1⟩:=zax I1 hqx
   obtain ⟨its2,rv2,x2⟩:=zax I1 hqy
   have l1:=rv.length
   have l2:=rv2.length
   have la:=zcT x1
   have lb:=zcT x2
   refine zip_begins2 (bgX t1 a its.toArray) (bgX t2 b its2.toArray) x1 x2 fun h' hz hTI hTO h1 h2 hsz hk=>PyProof.Rows.args_nil ?_
   have lt5:∀ k:Nat,k < 5 -> s1.heap.objs.size+k < h'.objs.size:=fun k hk'=>by rw [hsz]; exact Nat.add_lt_add_left hk' _
   have sm:∀ c:Addr,c < s1.heap.objs.size -> c < h'.objs.size:=fun c q=>Nat.lt_of_lt_of_le q (by rw [hsz]; exact Nat.le_add_right _ _)
   have d:X.A.in1.in1.in1.handled=none:=I.ok.hd hc
   have Z:ZNew X.prog X.w X.A.in1 (s1.heap.objs.size+4) (s1.heap.objs.size+2) (s1.heap.objs.size+3) s1.heap.objs.size (s1.heap.objs.size+1) [s1.heap.objs.size,a] [s1.heap.objs.size+1,b] its.toArray.size its2.toArray.size (fun i v=>its.toArray[i]?=some v) (fun i v=>its2.toArray[i]?=some v) (fun i h=>itX t1 h s1.heap.objs.size a i /\ isX t1 h a its.toArray) (fun i h=>itX t2 h (s1.heap.objs.size+1) b i /\ isX t2 h b its2.toArray) h' :=
    ⟨zi6 (PySem.W.ktu_apart s1.heap.objs.size a b la lb),drX t1 d _ a (PySem.W.ktu_apart s1.heap.objs.size a b la lb).l1i1 its.toArray,drX t2 d _ b (PySem.W.ktu_apart s1.heap.objs.size a b la lb).l2i2 its2.toArray,hz,hTI,⟨_,_,hTO⟩,⟨zbA h1,zg4 x1 hk⟩,⟨zbA h2,zg4 x2 hk⟩⟩
   have L:ZLow (s1.heap.objs.size+4) (s1.heap.objs.size+2) (s1.heap.objs.size+3) s1.heap.objs.size (s1.heap.objs.size+1) h'.objs.size [s1.heap.objs.size,a] [s1.heap.objs.size+1,b] :=
    ⟨lt5 4 (by decide),lt5 2 (by decide),lt5 3 (by decide),lt5 0 (by decide),lt5 1 (by decide),by simp only [List.mem_cons,List.not_mem_nil,or_false,not_or]; exact ⟨Nat.ne_of_gt (lt5 0 (by decide)),Nat.ne_of_gt (sm a la)⟩,by simp only [List.mem_cons,List.not_mem_nil,or_false,not_or]; exact ⟨Nat.ne_of_gt (lt5 1 (by decide)),Nat.ne_of_gt (sm b lb)⟩⟩
   refine zpC (sh:={ s1 with heap:=h' }) Z L (by rw [List.size_toArray,List.size_toArray,<- l1,<- l2]; exact hmn) fun hh tk acc c as hkeep hS hal G hacc=>?_
   obtain ⟨S,eS⟩:∃ S,S=h'.objs.size:=⟨_,rfl⟩
   show ∃ _,_
   replace hS:hh.get? h'.objs.size=some { cls:=.type "list",dict:=none,data:=.seq acc c,slots:=#[] }:=hS
   replace G:ZG (fun i v=>its.toArray[i]?=some v) (fun i v=>its2.toArray[i]?=some v) h'.objs.size hh as:=G
   rw [<- eS] at hS G
   have gS:s1.heap.objs.size <= S:=by rw [eS,hsz]; exact Nat.le_add_right _ _
   have fresh:∀ b,s1.heap.objs.size <= b -> s1.heap.get? b=none /\ H1 b=none:=fun b hb=>⟨by
    cases e:s1.heap.get? b with
    | none=>rfl
    | some u=>exact absurd (Heap.lt_size e) (Nat.not_lt.mpr hb),I1.hok.fresh hb⟩
   have k2:∀ b u,s1.heap.get? b=some u -> hh.get? b=some u:=fun b u e=>by
    have lb:=Heap.lt_size e
    exact hkeep b u (Nat.ne_of_lt (Nat.lt_of_lt_of_le lb (Nat.le_add_right _ _))) (Nat.ne_of_lt (Nat.lt_of_lt_of_le lb (Nat.le_add_right _ _))) (Nat.ne_of_lt lb) (Nat.ne_of_lt (Nat.lt_of_lt_of_le lb (Nat.le_add_right _ _))) (hk b u e)
   have ln:as.length=min xs.length ys.length:=by rw [hal,List.size_toArray,List.size_toArray,<- l1,<- l2]
   obtain ⟨ps,eps⟩:∃ ps:List (Addr × List V),ps=as.zip ((xs.zip ys).map fun q=>[q.1,q.2]):=⟨_,rfl⟩
   have pm:ps.map (·.1)=as:=by rw [eps,List.map_fst_zip]; rw [List.length_map,List.length_zip]; omega
   have pa:∀ (j:Nat) (p:Addr × List V),ps[j]?=some p -> ∃ x y,as[j]?=some p.1 /\ xs[j]?=some x /\ ys[j]?=some y /\ p.2=[x,y]:=fun j p e=>by
    rw [eps,List.getElem?_zip_eq_some,List.getElem?_map] at e
    obtain ⟨e1,e2⟩:=e
    cases e3:(xs.zip ys)[j]? with
    | none=>rw [e3] at e2; cases e2
    | some q =>
     rw [e3] at e2
     rw [List.getElem?_zip_eq_some] at e3
     exact ⟨_,_,e1,e3.1,e3.2,(Option.some.inj e2).symm⟩
   have nd:(ps.map (·.1)).Nodup:=by
    rw [pm,List.nodup_iff_pairwise_ne]
    exact G.rise.imp fun h=>Nat.ne_of_lt h
   have mem:∀ p ∈ ps,p.1 ≠ S /\ s1.heap.get? p.1=none /\ H1 p.1=none /\ p.2.length <= sizeLine /\ ∃ its:List Value,Vals p.2 its /\ hh.get? p.1=some { cls:=.type "tuple",data:=.seq its.toArray }:=fun p hp=>by
    obtain ⟨j,hj⟩:=List.mem_iff_getElem?.mp hp
    obtain ⟨x,y,e1,e2,e3,e4⟩:=pa j p hj
    have ab:=G.above _ (List.mem_of_getElem? e1)
    obtain ⟨n1,n2⟩:=fresh p.1 (Nat.le_trans gS (Nat.le_of_lt ab))
    obtain ⟨u,w,e5,e6,e7⟩:=G.pairs j _ e1
    obtain ⟨u',eu,ru⟩:=rv.get e2
    obtain ⟨w',ew,rw'⟩:=rv2.get e3
    have e5:its.toArray[j]?=some u:=e5
    have e6:its2.toArray[j]?=some w:=e6
    rw [List.getElem?_toArray,eu] at e5
    rw [List.getElem?_toArray,ew] at e6
    cases e5; cases e6
    exact ⟨Nat.ne_of_gt ab,n1,n2,by rw [e4]; show 2 <= sizeLine; decide,[u,w],by rw [e4]; exact .cons ru (.cons rw' .nil),e7⟩
   have Sn:=fresh S gS
   have accv:acc.toList=ps.map fun p=>Value.ref p.1:=by rw [hacc,<- pm,List.map_map]; rfl
   refine ⟨.ref S,_,zej (s:=s1) (tk:=tk) (xs:=ps.map fun p=>V.ref p.1) (fun H=>⟨by rw [List.length_map,<- List.length_map (f:=(·.1)),pm,ln]; exact hmn,acc.toList,c,?_,by rw [Array.toArray_toList]; exact hS⟩) ps I1 k2 nd mem Sn.1 Sn.2,by rw [eS]; rfl,q S ps ⟨nd,fun p hp=>⟨(mem p hp).1,(mem p hp).2.2.1⟩,Sn.2,by rw [<- List.length_map (f:=(·.1)),pm,ln],fun j p hp=>?_⟩⟩
   ·rw [accv]
    have:∀ l:List (Addr × List V),Vals (l.map fun p=>V.ref p.1) (l.map fun p=>Value.ref p.1):=fun l=>by
     induction l with
     | nil=>exact .nil
     | cons a l ih=>exact .cons rfl ih
    exact this ps
   ·obtain ⟨x,y,_,e2,e3,e4⟩:=pa j p hp
    exact ⟨x,y,e2,e3,e4⟩
theorem zg5:∀ ds es:List D,(zipD ds es).length=min ds.length es.length
 | [],es=>by simp [zipD]
 | _ :: _,[]=>by simp [zipD]
 | d :: ds,e :: es=>by show (zipD ds es).length+1=_; rw [zg5 ds es,List.length_cons,List.length_cons]; omega
theorem zjr:∀ (ds es:List D) (j:Nat) {z:D},(zipD ds es)[j]?=some z -> ∃ x y,ds[j]?=some x /\ es[j]?=some y /\ z=.tup [x,y]
 | [],es,j,_,h=>by simp [zipD] at h
 | _ :: _,[],j,_,h=>by simp [zipD] at h
 | d :: ds,e :: es,0,z,h=>⟨d,e,rfl,rfl,(Option.some.inj h).symm⟩
 | d :: ds,e :: es,j+1,z,h=>zjr ds es j h
section
variable {T:List Def}
theorem zmz {a b:E} (ha:SndE T a) (hb:SndE T b):SndE T (.zipL a b):=by
 intro X e sc O G Fnc n cls W F A σ ρ H Q hy tk hs c I h
 obtain ⟨p,z,pos,rfl,c1,c2⟩:=zaM (show call1 sc "list" e (fun z=>call2 sc "zip" z fun x y=>chkE X.N T sc O a x && chkE X.N T sc O b y)=true from c)
 obtain ⟨p2,x,y,pos2,rfl,c3,c4⟩:=zbo c2
 rw [Bool.and_eq_true] at c4
 subst hs
 obtain ⟨g1,_,_⟩:=gl_of c1
 obtain ⟨g2,_,_⟩:=gl_of c3
 have h':PostR (fun d=>∀ v H',Got X.K F A O T (.zipL a b) H H' d v -> Q v H') (ExW cls W σ H) ((evE G Fnc a ρ).bind fun x=>(evE G Fnc b ρ).bind fun y=>(zip2D x y).bind fun zs=>R.when (decide (zs.length <= sizeLine)) (R.ok (D.lst zs))):=h
 refine we_of (zpD hy.calm g1 (hy.blt _ (by decide)) g2 (hy.blt _ (by decide)) pa_wa (zab (zaa _ _ c4.1)) (zao (by rw [List.all_cons,zaa _ _ c4.2]; rfl))) (args2 ha hb hy tk rfl c4.1 c4.2 I (h'.bind.mono (fun x hx=>hx.bind) fun _ z=>z) fun d e v u H1 H2 g g2 q=>?_)
 obtain ⟨zs,ex,q⟩:=q.bind.get (zdP d e)
 obtain ⟨w,q⟩:=PostR.when q
 obtain ⟨ds,e1,ex⟩:=bind_ok (show (ltsD d).bind _=_ from ex)
 obtain ⟨es,e2,ex⟩:=bind_ok ex
 cases ex
 have t1:TopOK X.K F A (fun _=>False) H2 d v:=⟨fun _ z=>z.elim,g.top.ext g2.ext,.inl fun _ z=>z⟩
 have t2:TopOK X.K F A (fun _=>False) H2 e u:=⟨fun _ z=>z.elim,g2.top,.inl fun _ z=>z⟩
 obtain ⟨b1,vs,rfl,_,r1,st1⟩:=t1.sq e1
 obtain ⟨b2,us,rfl,_,r2,st2⟩:=t2.sq e2
 have lz:=zg5 ds es
 have w:=of_decide_eq_true w
 rw [lz,r1.length,r2.length] at w
 refine ⟨tB d,tB e,b1,b2,vs,us,rfl,st1 _ Ext.refl,st2 _ Ext.refl,w,fun S ps Lz=>?_⟩
 have I2:=(I.step g.ext).step g2.ext
 have xE:Ext Nix H2 (layT H2 ps):=zg3 fun p hp=>(Lz.new p hp).2
 have Sn:layT H2 ps S=none:=by
  rw [zbh fun hm=>?_]
  ·exact Lz.S
  ·obtain ⟨p,hp,e⟩:=List.mem_map.mp hm
   exact (Lz.new p hp).1 e
 refine zaC Sn (I2.newP Lz.S) (zfN (by rw [lz,List.length_map,Lz.len,r1.length,r2.length]) fun j d v q1 q2=>?_) (zak ((g.ext.trans g2.ext).trans xE) q)
 obtain ⟨x,y,f1,f2,rfl⟩:=zjr ds es j q1
 rw [List.getElem?_map] at q2
 cases ep:ps[j]? with
 | none=>rw [ep] at q2; cases q2
 | some pq =>
  rw [ep] at q2
  cases q2
  obtain ⟨vx,vy,m1,m2,m3⟩:=Lz.at_ j pq ep
  have hq:=zei (H:=H2) Lz.nd (List.mem_of_getElem? ep)
  rw [m3] at hq
  obtain ⟨v1,n1,rv1⟩:=r1.get f1
  obtain ⟨v2,n2,rv2⟩:=r2.get f2
  rw [m1] at n1; rw [m2] at n2
  cases n1; cases n2
  exact .tup hq (.cons (rv1.ext xE fun _ _ z=>z) (.cons (rv2.ext xE fun _ _ z=>z) .nil))
end
end L2.Pf
namespace L2.Pf
open PySem PySem.Spec PyProof.Rows
section
variable {T:List Def}
theorem sndB {m:E} (h:SndE T m) (hp:∀ N sc O e,chkE N T sc O m e=true -> ∀ (env:PySem.Env) (whole:Sem Value),isTrue e env whole=(do let v <- whole; standAt e.pos; holding [v] (truthy v))):SndE T m /\ SndT T m:=⟨h,zhH h hp⟩
mutual
theorem allE:∀ m:E,SndE T m /\ SndT T m
 | .var i=>sndB (zoU i) fun N sc O e c env w=>by cases e <;> first | rfl | (simp [chkE] at c)
 | .glob x=>sndB (zlZ x) fun N sc O e c env w=>by cases e <;> first | rfl | (simp [chkE] at c)
 | .int k=>sndB (zoV k) fun N sc O e c env w=>by cases e <;> first | rfl | (simp [chkE] at c)
 | .str k=>sndB (zoW k) fun N sc O e c env w=>by cases e <;> first | rfl | (simp [chkE] at c)
 | .bl k=>sndB (zrw k) fun N sc O e c env w=>by cases e <;> first | rfl | (simp [chkE] at c)
 | .non=>sndB zoX fun N sc O e c env w=>by cases e <;> first | rfl | (simp [chkE] at c)
 | .bin op a b=>sndB (zoY (allE a).1 (allE b).1) fun N sc O e c env w=>by cases e <;> first | rfl | (simp [chkE] at c)
 | .neg a=>sndB (zo0 (allE a).1) fun N sc O e c env w=>by
   cases e <;> first
    | rfl
    | (rename_i o x p; cases o <;> first | rfl | (simp [chkE] at c))
    | (simp [chkE] at c)
 | .not a=>⟨zo1 (allE a).1,zmf (allE a).2⟩
 | .cmp op a b=>⟨zo2 (allE a).1 (allE b).1,zmg (allE a).1 (allE b).1⟩
 | .chain o p a b c=>⟨zeV (allE a).1 (allE b).1 (allE c).1,zhI (zeV (allE a).1 (allE b).1 (allE c).1) (allE a).1 (allE b).1 (allE c).1⟩
 | .and es=>⟨zo7 (allEs es).2.1,zmi (allEs es).2.2.1⟩
 | .or es=>⟨zrz (allEs es).2.1,zpk (allEs es).2.2.1⟩
 | .tup es=>sndB (zo5 (allEs es).1) fun N sc O e c env w=>by cases e <;> first | rfl | (simp [chkE] at c)
 | .lst es=>sndB (zo6 (allEs es).1) fun N sc O e c env w=>by cases e <;> first | rfl | (simp [chkE] at c)
 | .dnewK=>sndB zrx fun N sc O e c env w=>by cases e <;> first | rfl | (simp [chkE] at c)
 | .dnewT=>sndB zry fun N sc O e c env w=>by cases e <;> first | rfl | (simp [chkE] at c)
 | .disp1 t k v=>sndB (zje (allE k).1 (allE v).1) fun N sc O e c env w=>by cases e <;> first | rfl | (simp [chkE] at c)
 | .rep a k=>sndB (zoZ (allE a).1 (allE k).1) fun N sc O e c env w=>by cases e <;> first | rfl | (simp [chkE] at c)
 | .idx a i=>sndB (zo3 (allE a).1 (allE i).1) fun N sc O e c env w=>by cases e <;> first | rfl | (simp [chkE] at c)
 | .slcA a=>sndB (zl1 (allE a).1) fun N sc O e c env w=>by cases e <;> first | rfl | (simp [chkE] at c)
 | .slcL a l=>sndB (zl2 (allE a).1 (allE l).1) fun N sc O e c env w=>by cases e <;> first | rfl | (simp [chkE] at c)
 | .slcH a l=>sndB (zl3 (allE a).1 (allE l).1) fun N sc O e c env w=>by cases e <;> first | rfl | (simp [chkE] at c)
 | .slcB a l h=>sndB (zl4 (allE a).1 (allE l).1 (allE h).1) fun N sc O e c env w=>by cases e <;> first | rfl | (simp [chkE] at c)
 | .call f args im=>sndB (zl6 (allEs args).1) fun N sc O e c env w=>by cases e <;> first | rfl | (simp [chkE] at c)
 | .bi b args=>sndB (zrA (allEs args).1) fun N sc O e c env w=>by cases e <;> first | rfl | (simp [chkE] at c)
 | .me m o args=>sndB (zrE (allE o).1 (allEs args).1) fun N sc O e c env w=>by cases e <;> first | rfl | (simp [chkE] at c)
 | .lrev a=>sndB (zmm (allE a).1) fun N sc O e c env w=>by
   obtain ⟨_,_,_,rfl,_⟩:=zaM (show call1 sc "list" e _=true from c)
   rfl
 | .revL a=>sndB (zmp (allE a).1) fun N sc O e c env w=>by
   obtain ⟨_,_,_,_,_,_,rfl,_⟩:=ze2 (show zde e _=true from c)
   rfl
 | .stpL a lo k=>sndB (zmu (allE a).1) fun N sc O e c env w=>by
   obtain ⟨_,_,_,_,_,_,_,rfl,_⟩:=zg0 (show isStp lo k e _=true from c)
   rfl
 | .valsL a=>sndB (zjk (allE a).1) fun N sc O e c env w=>by
   obtain ⟨_,_,_,_,_,rfl,_⟩:=ze5 (show zdf sc e _=true from c)
   rfl
 | .maxD a k=>sndB (zmv (allE a).1) fun N sc O e c env w=>by
   obtain ⟨_,_,_,_,_,rfl,_⟩:=ze6 (show zdh sc k e _=true from c)
   rfl
 | .stpB a lo hi k=>sndB (zmy (allE a).1 (allE lo).1) fun N sc O e c env w=>by
   obtain ⟨_,_,_,_,_,_,_,_,rfl,_⟩:=ze8 (show zdg hi k e _=true from c)
   rfl
 | .itemsL a=>sndB (zhM (allE a).1) fun N sc O e c env w=>by
   obtain ⟨_,_,_,_,_,rfl,_⟩:=zdS (show zb3 sc e _=true from c)
   rfl
 | .zipL a b=>sndB (zmz (allE a).1 (allE b).1) fun N sc O e c env w=>by
   obtain ⟨_,_,_,rfl,_⟩:=zaM (show call1 sc "list" e _=true from c)
   rfl
 | .inR neg a b=>⟨zpt (allE a).1 (allE b).1,zmx (allE a).1 (allE b).1⟩
 | .chain3 o p q a b c d=>⟨zhL (allE a).1 (allE b).1 (allE c).1 (allE d).1,zfM (allE a).1 (allE b).1 (allE c).1 (allE d).1⟩
 | .eqD ne i j=>⟨zpn,zmr⟩
 | .inG neg a g ss=>⟨zpm (allE a).1,zmq (allE a).1⟩
 | .dispN ks es=>sndB (zjh (allEs es).2.2.2) fun N sc O e c env w=>by cases e <;> first | rfl | (simp [chkE] at c)
 | .isi a t=>sndB (zpa (allE a).1) fun N sc O e c env w=>by cases e <;> first | rfl | (simp [chkE] at c)
 | .isiL a ts=>sndB (zmb (allE a).1) fun N sc O e c env w=>by cases e <;> first | rfl | (simp [chkE] at c)
 | .lc elt tg it own=>sndB (zrJ (allE elt).1 (allI it)) fun N sc O e c env w=>by cases e <;> first | rfl | (simp [chkE] at c)
 | .lcIf elt tg it cond own=>sndB (zmj (allE elt).1 (allE cond).2 (allI it)) fun N sc O e c env w=>by cases e <;> first | rfl | (simp [chkE] at c)
theorem allEs:∀ m:Es,SndEs T m /\ zdO T m /\ SndTs T m /\ SndPs T m
 | .nil=>⟨zo4,zl5,zpj,zpo⟩
 | .cons e r=>⟨zl0 (allE e).1 (allEs r).1,ziY (allE e).1 (allEs r).2.1,zmh (allE e).2 (allEs r).2.2.1,zms (allE e).1 (allEs r).2.2.2⟩
theorem allI:∀ m:It,SndI T m
 | .seq e=>zmd (allE e).1
 | .range1 a=>zfI (allE a).1
 | .range2 a b=>zfJ (allE a).1 (allE b).1
 | .range3 a b c=>zfK (allE a).1 (allE b).1
 | .zip2 a b=>zja (allE a).1 (allE b).1
 | .zip3 a b c=>zjd (allE a).1 (allE b).1 (allE c).1
 | .enum a=>zjb (allE a).1
 | .keys a=>zeh fun _ _ _ _ _ _=>by simp [chkI]
 | .items a=>zeh fun _ _ _ _ _ _=>by simp [chkI]
 | .sorted a=>zeh fun _ _ _ _ _ _=>by simp [chkI]
 | .rev a=>zme (allE a).1
end
end
end L2.Pf
namespace L2.Pf
open PySem PySem.Spec PyProof.Rows
def topV:E -> List Nat
 | .var i=>[i] | _=>[]
def bareV:Es -> List Nat
 | .nil=>[] | .cons e r=>topV e ++ bareV r
def topI:It -> List Nat
 | .seq e=>topV e | .zip2 a b=>topV a ++ topV b | .zip3 a b c=>topV a ++ topV b ++ topV c | .enum a=>topV a | .rev a=>topV a
 | .keys a=>topV a | .items a=>topV a | .sorted a=>topV a | _=>[]
mutual
def escE:E -> List Nat
 | .bin _ a b=>escE a ++ escE b
 | .neg a=>escE a | .not a=>escE a
 | .cmp _ a b=>escE a ++ escE b
 | .chain _ _ a b c=>escE a ++ escE b ++ escE c
 | .and es=>bareV es ++ escEs es
 | .or es=>bareV es ++ escEs es
 | .tup es=>bareV es ++ escEs es
 | .lst es=>bareV es ++ escEs es
 | .rep a k=>escE a ++ escE k
 | .disp1 _ a k=>topV k ++ escE a ++ escE k
 | .idx a i=>escE a ++ escE i
 | .slcA a=>escE a
 | .slcL a b=>escE a ++ escE b
 | .slcH a b=>escE a ++ escE b
 | .slcB a b c=>escE a ++ escE b ++ escE c
 | .call _ args im=>(if im=true then [] else bareV args) ++ escEs args
 | .bi _ args=>escEs args
 | .me m o args=>(if zdN m=true then [] else bareV args) ++ escE o ++ escEs args
 | .lrev a=>escE a
 | .revL a=>escE a
 | .stpL a _ _=>escE a
 | .valsL a=>escE a
 | .maxD a _=>escE a
 | .stpB a b _ _=>escE a ++ escE b
 | .itemsL a=>escE a
 | .zipL a b=>escE a ++ escE b
 | .inR _ a b=>escE a ++ escE b
 | .chain3 _ _ _ a b c d=>escE a ++ escE b ++ escE c ++ escE d
 | .inG _ a _ _=>escE a
 | .dispN _ es=>bareV es ++ escEs es
 | .isi a _=>escE a
 | .isiL a _=>escE a
 | .lc elt _ it _=>topV elt ++ escE elt ++ escI it
 | .lcIf elt _ it c _=>topV elt ++ escE elt ++ escE c ++ escI it
 | _=>[]
def escEs:Es -> List Nat
 | .nil=>[] | .cons e r=>escE e ++ escEs r
def escI:It -> List Nat
 | .seq e=>escE e | .range1 a=>escE a | .range2 a b=>escE a ++ escE b | .range3 a b _=>escE a ++ escE b
 | .zip2 a b=>escE a ++ escE b | .zip3 a b c=>escE a ++ escE b ++ escE c | .enum a=>escE a | .rev a=>escE a
 | .keys a=>escE a | .items a=>escE a | .sorted a=>escE a
end
def escC:E -> List Nat
 | .and es=>escEs es | .or es=>escEs es | e=>escE e
def less (O xs:List Nat):List Nat:=O.filter fun i=>!xs.contains i
def meet:Option (List Nat) -> Option (List Nat) -> Option (List Nat)
 | none,x=>x
 | some a,none=>some a
 | some a,some b=>some (a.filter b.contains)
def head1 (f:List Nat -> Option (List Nat)) (O:List Nat):List Nat:=match f O with
 | none=>O | some O'=>O.filter O'.contains
def headO (f:List Nat -> Option (List Nat)) (O:List Nat):List Nat:=head1 f (head1 f O)
def escA:Option Nat -> Es -> List Nat
 | _,.nil=>[]
 | some 0,.cons e r=>escE e ++ escA none r
 | some (k+1),.cons e r=>topV e ++ escE e ++ escA (some k) r
 | none,.cons e r=>topV e ++ escE e ++ escA none r
mutual
def escX:Xp -> List Nat
 | .pure e=>topV e ++ escE e
 | .call _ args k _=>escA (some k) args
 | .callF _ args k=>escA (some k) args
 | .callP _ args _=>escXs args
 | .tup xs=>escXs xs
 | .tupOf x=>escX x
 | .lc x _ it _ _=>escX x ++ topI it ++ escI it
 | .bin _ a b=>escX a ++ topV b ++ escE b
 | .setd _ k v=>topV v ++ escE v ++ escE k
 | .cmpX _ a b=>escX a ++ escE b
def escXs:Xps -> List Nat
 | .nil=>[] | .cons x r=>escX x ++ escXs r
end
mutual
def slX:Xp -> List Nat
 | .pure _=>[]
 | .call _ _ _ p=>[p]
 | .callF _ _ _=>[]
 | .callP _ args _=>slXs args
 | .tup xs=>slXs xs
 | .tupOf x=>slX x
 | .lc _ _ _ _ p=>[p]
 | .bin _ a _=>slX a
 | .setd p _ _=>[p]
 | .cmpX _ a _=>slX a
def slXs:Xps -> List Nat
 | .nil=>[] | .cons x r=>slX x ++ slXs r
end
section
variable (N:List Str) (T:List Def)
def ioD (f:Str) (k:Nat):Bool:=match findD T f with
 | some d=>(d.io == [k]) && decide (k < 99) | none=>false
def plD (f:Str):Bool:=match findD T f with
 | some d=>d.io.isEmpty | none=>false
def ioArg:Option Nat -> E -> Bool
 | some p,.var i=>i == p
 | none,e=>frE T e
 | _,_=>false
def chkA (sc:Scope) (O:List Nat) (p:Option Nat):Option Nat -> Es -> List Expr -> Bool
 | none,.nil,[]=>true
 | some 0,.cons e r,x :: xs=>ioArg T p e && chkE N T sc O e x && chkA sc O p none r xs
 | some (k+1),.cons e r,x :: xs=>chkE N T sc O e x && !bareO O e && chkA sc O p (some k) r xs
 | none,.cons e r,x :: xs=>chkE N T sc O e x && !bareO O e && chkA sc O p none r xs
 | _,_,_=>false
mutual
def chkX (sc:Scope) (O:List Nat):Xp -> Expr -> Bool
 | .pure e,x=>chkE N T sc O e x && !bareO O e
 | .call f args k p,.Call (.Name g _) xs [] _=>(f == g) && glB sc g && chkA N T sc O (some p) (some k) args xs && !xs.isEmpty && O.contains p && ioD T f k
 | .callF f args k,.Call (.Name g _) xs [] _=>(f == g) && glB sc g && chkA N T sc O none (some k) args xs && !xs.isEmpty && ioD T f k
 | .callP f args _,.Call (.Name g _) xs [] _=>(f == g) && glB sc g && chkXs sc O args xs && !xs.isEmpty && plD T f
 | .tup xs,.Tuple ys _ _=>chkXs sc O xs ys
 | .tupOf x,e=>call1 sc "tuple" e fun y=>chkX sc O x y
 | .lc x tg it own p,.ListComp y [⟨tgx,itx,[],0⟩] scope _=>chkI N T sc O it tgx itx && blkC N sc scope (ownP N own) && (own.all fun i=>!O.contains i) && tgIn own tg && chkT N scope tg tgx && chkX (relS scope sc) O x y && O.contains p && (slX x).all (fun i=>i == p) && !bareI O it
 | .bin op a b,.BinOp x o y _=>isOp op o && chkX sc O a x && chkE N T sc O b y
 | .setd p k v,.Call (.Attribute (.Name x _) m apos) [y,z] [] pos=>(m == ("setdefault":Str)) && (N[p]? == some x) && visB sc x && O.contains p && chkE N T sc O k y && chkE N T sc O v z && !bareO O v && (apos.endLine == pos.line)
 | .cmpX op a b,.Compare x [o] [y] _=>isCop op o && zbR o y && chkX sc O a x && chkE N T sc O b y
 | _,_=>false
def chkXs (sc:Scope) (O:List Nat):Xps -> List Expr -> Bool
 | .nil,[]=>true
 | .cons e r,x :: xs=>chkX sc O e x && chkXs sc O r xs
 | _,_=>false
end
end
def chkXT (N:List Str) (T:List Def) (sc:Scope) (O:List Nat) (neg:Bool) (x:Xp) (e:Expr):Bool:=match neg,x,e with
 | false,.cmpX op a b,e=>chkX N T sc O (.cmpX op a b) e
 | false,.call f as k p,e=>chkX N T sc O (.call f as k p) e
 | true,.call f as k p,.UnaryOp .Not e _=>chkX N T sc O (.call f as k p) e
 | _,_,_=>false
def twoO (i k x:Nat) (it:It) (ex ix val:E) (O:List Nat):List Nat:=less O (topI it ++ ([i,k,x] ++ (escI it ++ (topV ex ++ escE ex ++ (topV val ++ escE val ++ (topV ix ++ escE ix))))))
def zdn:List Gd -> List Nat
 | []=>[] | .ifF e :: gs=>escC e ++ zdn gs | .forF k _ _ e :: gs=>k :: (escC e ++ zdn gs) | .asgI y e :: gs=>y :: (topV e ++ escE e ++ zdn gs)
def gdT:List Gd -> List Nat
 | []=>[] | .ifF _ :: gs=>gdT gs | .forF k _ _ _ :: gs=>k :: gdT gs | .asgI y _ :: gs=>y :: gdT gs
theorem zek:∀ {gs:List Gd} {j:Nat},j ∈ gdT gs -> j ∈ zdn gs
 | [],_,h=>by cases h
 | .ifF e :: gs,j,h=>List.mem_append_right _ (zek (gs:=gs) h)
 | .forF k _ _ e :: gs,j,h=>by
  rcases List.mem_cons.mp h with h | h
  ·exact List.mem_cons.mpr (.inl h)
  ·exact List.mem_cons.mpr (.inr (List.mem_append_right _ (zek (gs:=gs) h)))
 | .asgI y e :: gs,j,h=>by
  rcases List.mem_cons.mp h with h | h
  ·exact List.mem_cons.mpr (.inl h)
  ·exact List.mem_cons.mpr (.inr (List.mem_append_right _ (zek (gs:=gs) h)))
def apT:Ap -> List Nat
 | .one _ _=>[] | .all k _ _ _=>[k] | .clr x _=>[x]
def yngO (i:Nat) (args:Es) (gs:List Gd) (ap:Ap) (O:List Nat):List Nat:=less O ([i] ++ (bareV args ++ escEs args ++ zdn gs ++ apT ap))
def yngA (i:Nat) (ap:Ap) (O:List Nat):List Nat:=match ap with
 | .clr _ _=>i :: O.filter (· != i) | _=>O
section
variable (T:List Def)
mutual
def ownS:S -> List Nat -> Option (List Nat)
 | .asg i e,O=>some (if frE T e=true then i :: (less O (topV e ++ escE e)).filter (· != i) else (less O (topV e ++ escE e)).filter (· != i))
 | .asgL i elt tg it own,O=>some (if frE T (.lc elt tg it own)=true then i :: (less O (topV (.lc elt tg it own) ++ escE (.lc elt tg it own))).filter (· != i) else (less O (topV (.lc elt tg it own) ++ escE (.lc elt tg it own))).filter (· != i))
 | .asgT is e,O=>some (less (less O (topV e ++ escE e)) is)
 | .par is es,O=>some (less (less O (bareV es ++ escEs es)) is)
 | .setI _ ix e,O=>some (less O (topV e ++ escE e ++ escE ix))
 | .setI2 _ _ _ _,O=>some O
 | .append _ e,O=>some (less O (topV e ++ escE e))
 | .insert _ a e,O=>some (less O (topV e ++ escE e ++ escE a))
 | .pop _,O=>some O
 | .clear _,O=>some O
 | .expr e,O=>some (less O (escE e))
 | .ifs c a b,O=>meet (ownSs a (less O (escC c))) (ownSs b (less O (escC c)))
 | .whl c b,O=>some (headO (ownSs b) (less O (escE c)))
 | .for t it b,O=>some (headO (ownSs b) (less (less O (topI it ++ escI it)) (zan t)))
 | .ret _,_=>none
 | .brk,_=>none
 | .cont,_=>none
 | .raise _,_=>none
 | .pass,O=>some O
 | .raise0,_=>none
 | .try0 b,O=>ownSs b O
 | .forK t i _ b,O=>some (headO (ownSs b) (less (less O [i]) (zan t)))
 | .appC e x,O=>some (less O (topV e ++ (escE e ++ (topV x ++ escE x))))
 | .xasg i x,O=>some ((less O (escX x)).filter (· != i))
 | .xasgT is x,O=>some (less (less O (escX x)) is)
 | .xret _,_=>none
 | .xapp _ x,O=>some (less O (escX x))
 | .xif _ x a b,O=>meet (ownSs a (less O (escX x))) (ownSs b (less O (escX x)))
 | .tryX j e _ o hs _,O=>some (less O (topV e ++ (escE e ++ (j.toList ++ o.toList ++ hs.map (·.1)))))
def ownSs:Ss -> List Nat -> Option (List Nat)
 | .nil,O=>some O
 | .reb _ r,O=>ownSs r O
 | .two i k x it ex ix val r,O=>ownSs r (twoO i k x it ex ix val O)
 | .yng i _ args gs ap r,O=>ownSs r (yngA i ap (yngO i args gs ap O))
 | .cons s r,O=>match ownS s O with
  | none=>none | some O'=>ownSs r O'
end
end
def subO (a:List Nat):Option (List Nat) -> Bool
 | none=>true | some b=>a.all b.contains
def kpIO (io O:List Nat):Bool:=io.all O.contains
def locB (N:List Str) (sc:Scope) (i:Nat) (x:Str):Bool:=(N[i]? == some x) && (match sc.names.lookup x with | some .local=>true | some .cell=>true | _=>false)
def zaO:Expr -> Bool
 | .ListComp ..=>false | .SetComp ..=>false | .DictComp ..=>false | _=>true
theorem zaI {v:Expr} {t:Option Expr} {l:Nat} {env:PySem.Env} (h:zaO v=true):swapsWith v t l env=pure false:=by
 cases v <;> first | rfl | cases h
def swB (sc:Scope) (x:Str) (p:Pos):Expr -> Bool
 | .ListComp a b s q=>(sc.kind == .function) && (sc.names.lookup x == some .local) && (p.line == (Expr.ListComp a b s q).pos.line) && !(s.names.any fun y=>y.1 == x && (y.2 == .local || y.2 == .cell))
 | _=>false
def isLC:Expr -> Bool
 | .ListComp ..=>true | _=>false
def isXLC:Xp -> Expr -> Bool
 | .lc _ _ _ _ _,.ListComp ..=>true | _,_=>false
def frV (io O:List Nat):E -> Bool
 | .var i=>O.contains i && !io.contains i | _=>false
def dictB (N:List Str) (sc:Scope) (i:Nat) (im:Bool):Expr -> Expr -> Bool
 | _,.Name x _=>!im && locB N sc i x && visB sc x
 | tg,.Call (.Attribute (.Name x _) m apos) [] [] cpos=>im && (m == ("items":Str)) && zcB tg && locB N sc i x && visB sc x && (apos.endLine == cpos.line)
 | _,_=>false
def zdT:Expr -> Bool
 | .Tuple ..=>false | .List ..=>false | _=>true
def foldB:Expr -> Bool
 | .Tuple vs _ _=>vs.all (foldedForSure 8) | _=>false
def parB (N:List Str) (sc:Scope):List Nat -> List Expr -> List Expr -> Bool
 | [i,j],[.Name x px,.Name y py],[a,b]=>(N[i]? == some x) && (N[j]? == some y) && (sc.names.lookup x == some .local) && (sc.names.lookup y == some .local) && (px.line == py.line) && !(x == y) && !(i == j) && [a,b].all zaw && ![a,b].all (foldedForSure 8) && ![a,b].all (constantsAlone 8)
 | [i,j,l],[.Name x px,.Name y py,.Name z pz],[a,b,c]=>(N[i]? == some x) && (N[j]? == some y) && (N[l]? == some z) && (sc.names.lookup x == some .local) && (sc.names.lookup y == some .local) && (sc.names.lookup z == some .local) && (px.line == py.line) && (px.line == pz.line) && !(x == y) && !(x == z) && !(y == z) && !(i == j) && !(i == l) && !(j == l) && [a,b,c].all zaw && ![a,b,c].all (foldedForSure 8) && ![a,b,c].all (constantsAlone 8)
 | _,_,_=>false
def isinB (sc:Scope) (n:Str):Expr -> (Expr -> Bool) -> Bool
 | .Call (.Name g _) [.Name m _,y] [] _,k=>(g == ("isinstance":Str)) && glB sc g && (m == n) && !(n == Str.empty) && visB sc n && k y
 | _,_=>false
def tstB (EX:List Str) (sc:Scope) (x:Str):Expr -> Bool
 | .Name y _=>(y == x) && glB sc y && (EX.contains x || x == ("ValueError":Str))
 | _=>false
def tstsB (EX:List Str) (sc:Scope):List Str -> List Expr -> Bool
 | [],[]=>true
 | x :: xs,y :: ys=>tstB EX sc x y && tstsB EX sc xs ys
 | _,_=>false
def isLst (EX:List Str) (sc:Scope) (n:Str):List Str -> List Expr -> Bool
 | [],[]=>true
 | x :: xs,y :: ys=>isinB sc n y (tstB EX sc x) && isLst EX sc n xs ys
 | _,_=>false
def conB (e:Expr) (k:Const -> Bool):Bool:=match e with
 | .Constant c _ _=>k c | _=>false
def negB (e:Expr) (k:Int -> Bool):Bool:=match e with
 | .UnaryOp .USub (.Constant (.int m) _ _) _=>k m | _=>false
def nmB (e:Expr) (k:Str -> Bool):Bool:=match e with
 | .Name x _=>k x | _=>false
def unNot (e:Expr) (k:Expr -> Bool):Bool:=match e with
 | .UnaryOp .Not x _=>k x | _=>false
def andB (e:Expr) (k:Expr -> Expr -> Bool):Bool:=match e with
 | .BoolOp .And [x,y] _=>k x y | _=>false
def orB (e:Expr) (k:Expr -> Expr -> Bool):Bool:=match e with
 | .BoolOp .Or [x,y] _=>k x y | _=>false
def lstB (e:Expr) (k:List Expr -> Bool):Bool:=match e with
 | .List ys _=>k ys | _=>false
def tupB' (e:Expr) (k:List Expr -> Bool):Bool:=match e with
 | .Tuple ys _ _=>k ys | _=>false
def addB (e:Expr) (k:Str -> List Expr -> Bool):Bool:=match e with
 | .BinOp (.Name x _) .Add (.List ys _) _=>k x ys | _=>false
def isNone:Const -> Bool | .none=>true | _=>false
def zjs (b:Bool):Const -> Bool | .bool c=>b == c | _=>false
def isInt (b:Int):Const -> Bool | .int c=>b == c | _=>false
def chkHE (N:List Str) (EX:List Str) (sc:Scope) (tg:List Nat) (n:Str):HE -> Expr -> Bool
 | .non,e=>conB e isNone
 | .bl b,e=>conB e (zjs b)
 | .int k,e=>conB e (isInt k) || negB e fun m=>k == -m
 | .var i,e=>nmB e fun x=>tg.contains i && (N[i]? == some x) && visB sc x
 | .is1 x,e=>isinB sc n e (tstB EX sc x)
 | .isN xs,e=>isinB sc n e fun y=>tupB' y fun ys=>tstsB EX sc xs ys && decide (xs.length < 100)
 | .not a,e=>unNot e fun x=>chkHE N EX sc tg n a x
 | .and a b,e=>andB e fun x y=>chkHE N EX sc tg n a x && chkHE N EX sc tg n b y
 | .or a b,e=>orB e fun x y=>chkHE N EX sc tg n a x && chkHE N EX sc tg n b y
 | .lst xs,e=>lstB e fun ys=>isLst EX sc n xs ys
 | .add i xs,e=>addB e fun x ys=>tg.contains i && (N[i]? == some x) && visB sc x && isLst EX sc n xs ys
def chkHs (N:List Str) (EX:List Str) (sc:Scope) (io tg:List Nat) (n:Str):List (Nat × HE) -> List Stmt -> Bool
 | [],[]=>true
 | (k,h) :: r,.Assign [.Name x _] v _ :: xs=>locB N sc k x && !io.contains k && !(x == n) && tg.contains k && chkHE N EX sc tg n h v && zaO v && chkHs N EX sc io tg n r xs
 | _,_=>false
def locO (sc:Scope) (n:Str):Bool:=match sc.names.lookup n with
 | some .local=>true | _=>false
def jOk (N:List Str) (sc:Scope) (io:List Nat) (x:Str):Option Nat -> Bool
 | some i=>locB N sc i x && !io.contains i | none=>false
def oOk (N:List Str) (sc:Scope) (io:List Nat) (n:Str):Option Nat -> Bool
 | some i=>(N[i]? == some n) && locO sc n && !io.contains i | none=>false
section
variable (N:List Str) (T:List Def) (EX:List Str) (sc:Scope) (io:List Nat) (fresh:Bool)
def chkTb (O:List Nat) (j:Option Nat) (e:E):Stmt -> Bool
 | .Assign [.Name x _] v _=>jOk N sc io x j && chkE N T sc O e v && zaO v
 | .Expr v _=>j.isNone && chkE N T sc O e v && zaO v
 | _=>false
def chkHd (x:Str) (o:Option Nat) (hs:List (Nat × HE)) (re:Option Str):ExceptHandler -> Bool
 | .ExceptHandler (some (.Name y _)) (some n) (b₀ :: suite) _=>tstB EX sc x (.Name y ⟨0,0,0,0⟩) && oOk N sc io n o && re.isNone && chkHs N EX sc io (hs.map (·.1)) n hs (b₀ :: suite)
 | .ExceptHandler (some (.Name y _)) none (b₀ :: suite) _=>tstB EX sc x (.Name y ⟨0,0,0,0⟩) && o.isNone && re.isNone && chkHs N EX sc io (hs.map (·.1)) Str.empty hs (b₀ :: suite)
 | _=>false
def asgN (st:Stmt) (k:Str -> Expr -> Bool):Bool:=match st with
 | .Assign [.Name x _] v _=>k x v | _=>false
theorem zel {st:Stmt} {k:Str -> Expr -> Bool} (h:asgN st k=true):∃ x p v q,st=.Assign [.Name x p] v q /\ k x v=true:=by
 unfold asgN at h
 split at h
 ·exact ⟨_,_,_,_,rfl,h⟩
 ·cases h
def isE0 (e:Expr):Bool:=match e with
 | .Dict [] [] _=>true | _=>false
theorem zjt {e:Expr} (h:isE0 e=true):∃ p,e=.Dict [] [] p:=by
 unfold isE0 at h
 split at h
 ·exact ⟨_,rfl⟩
 ·cases h
def zju (e:Expr):Bool:=match e with
 | .List [a,b] _=>isE0 a && isE0 b | _=>false
theorem zjv {e:Expr} (h:zju e=true):∃ p q r,e=.List [.Dict [] [] p,.Dict [] [] q] r:=by
 unfold zju at h
 split at h
 ·rw [Bool.and_eq_true] at h
  obtain ⟨p,rfl⟩:=zjt h.1
  obtain ⟨q,rfl⟩:=zjt h.2
  exact ⟨_,_,_,rfl⟩
 ·cases h
def forB (st:Stmt) (k:Expr -> Expr -> List Stmt -> Bool):Bool:=match st with
 | .For tg ix p [] _=>k tg ix p | _=>false
theorem zem {st:Stmt} {k:Expr -> Expr -> List Stmt -> Bool} (h:forB st k=true):∃ tg ix p q,st=.For tg ix p [] q /\ k tg ix p=true:=by
 unfold forB at h
 split at h
 ·exact ⟨_,_,_,_,rfl,h⟩
 ·cases h
def one1 (p:List Stmt) (k:Stmt -> Bool):Bool:=match p with
 | [a]=>k a | _=>false
theorem zcE {p:List Stmt} {k:Stmt -> Bool} (h:one1 p k=true):∃ a,p=[a] /\ k a=true:=by
 unfold one1 at h
 split at h
 ·exact ⟨_,rfl,h⟩
 ·cases h
def two2 (p:List Stmt) (k:Stmt -> Stmt -> Bool):Bool:=match p with
 | [a,b]=>k a b | _=>false
theorem zpE {p:List Stmt} {k:Stmt -> Stmt -> Bool} (h:two2 p k=true):∃ a b,p=[a,b] /\ k a b=true:=by
 unfold two2 at h
 split at h
 ·exact ⟨_,_,rfl,h⟩
 ·cases h
def sub2 (st:Stmt) (k:Str -> Expr -> Str -> Expr -> Bool):Bool:=match st with
 | .Assign [.Subscript (.Subscript (.Name y _) j _) (.Name z _) _] v _=>k y j z v | _=>false
theorem zpF {st:Stmt} {k:Str -> Expr -> Str -> Expr -> Bool} (h:sub2 st k=true):∃ y p j q z r s v t,st=.Assign [.Subscript (.Subscript (.Name y p) j q) (.Name z r) s] v t /\ k y j z v=true:=by
 unfold sub2 at h
 split at h
 ·exact ⟨_,_,_,_,_,_,_,_,_,rfl,h⟩
 ·cases h
def retF (st:Stmt) (k:Expr -> Bool):Bool:=match st with
 | .If v [.Return (some (.Constant (.bool false) _ _)) _] [] _=>k v | _=>false
theorem zjw {st:Stmt} {k:Expr -> Bool} (h:retF st k=true):∃ v j p q r,st=.If v [.Return (some (.Constant (.bool false) j p)) q] [] r /\ k v=true:=by
 unfold retF at h
 split at h
 ·exact ⟨_,_,_,_,_,rfl,h⟩
 ·cases h
def callN (e:Expr) (k:Str -> List Expr -> Bool):Bool:=match e with
 | .Call (.Name g _) xs [] _=>k g xs | _=>false
theorem zmA {e:Expr} {k:Str -> List Expr -> Bool} (h:callN e k=true):∃ g p xs q,e=.Call (.Name g p) xs [] q /\ k g xs=true:=by
 unfold callN at h
 split at h
 ·exact ⟨_,_,_,_,rfl,h⟩
 ·cases h
def meth2 (st:Stmt) (m:Str) (k:Str -> Expr -> List Expr -> Bool):Bool:=match st with
 | .Expr (.Call (.Attribute (.Subscript (.Name y _) j _) m' apos) xs [] pos) _=>(m' == m) && (apos.endLine == pos.line) && k y j xs | _=>false
theorem zen {st:Stmt} {m:Str} {k:Str -> Expr -> List Expr -> Bool} (h:meth2 st m k=true):∃ y p j q apos xs pos r,st=.Expr (.Call (.Attribute (.Subscript (.Name y p) j q) m apos) xs [] pos) r /\ (apos.endLine == pos.line)=true /\ k y j xs=true:=by
 unfold meth2 at h
 split at h
 ·simp only [Bool.and_eq_true] at h
  have:=beq_iff_eq.mp h.1.1
  subst this
  exact ⟨_,_,_,_,_,_,_,_,rfl,h.1.2,h.2⟩
 ·cases h
def oneL (xs:List Expr) (k:Expr -> Bool):Bool:=match xs with
 | [a]=>k a | _=>false
theorem zjx {xs:List Expr} {k:Expr -> Bool} (h:oneL xs k=true):∃ a,xs=[a] /\ k a=true:=by
 unfold oneL at h
 split at h
 ·exact ⟨_,rfl,h⟩
 ·cases h
def isLit (c:Int) (e:Expr):Bool:=match e with
 | .Constant (.int m) _ _=>c == m | _=>false
theorem zbW {c:Int} {e:Expr} (h:isLit c e=true):∃ j p,e=.Constant (.int c) j p:=by
 unfold isLit at h
 split at h
 ·have:=beq_iff_eq.mp h
  subst this
  exact ⟨_,_,rfl⟩
 ·cases h
def rngB (lo n:Nat) (e:Expr):Bool:=(call2 sc "range" e fun x y=>isLit (lo:Int) x && isLit ((lo+n:Nat):Int) y) && decide (lo <= 100) && decide (n <= 100)
def zos (O:List Nat) (i k x:Nat) (it:It) (ex ix val:E) (s1 s2:Stmt):Bool :=
 (asgN s1 fun y v=>locB N sc i y && zju v) && (forB s2 fun tg ib p=>chkI N T sc O it tg ib && chkT N sc (.one k) tg && two2 p fun a b =>
  (asgN a fun z e=>locB N sc x z && chkE N T sc O ex e && (zaO e || isLC e)) && (sub2 b fun y j z v=>locB N sc i y && visB sc y && chkE N T sc O ix j && notSl j && locB N sc x z && visB sc z && chkE N T sc O val v)) &&
 kpIO io O && decide (i ≠ k) && decide (i ≠ x) && decide (k ≠ x) && [i,k,x].all fun j=>!io.contains j
def nmV (i:Nat) (e:Expr):Bool:=nmB e fun y=>locB N sc i y && visB sc y
def chkAp (i:Nat) (ap:Ap) (sts:List Stmt):Bool:=match ap with
 | .one j c=>one1 sts fun s=>meth2 s "append" fun y jx xs=>locB N sc i y && visB sc y && isLit (j:Int) jx && oneL xs (isLit c)
 | .all k lo n c=>one1 sts fun s=>forB s fun tg ib p=>rngB sc lo n ib && chkT N sc (.one k) tg && decide (k ≠ i) && !io.contains k && one1 p fun s=>meth2 s "append" fun y jx xs=>locB N sc i y && visB sc y && nmV N sc k jx && oneL xs (isLit c)
 | .clr x k=>one1 sts fun s=>forB s fun tg ib p=>nmV N sc i ib && chkT N sc (.one x) tg && decide (x ≠ i) && !io.contains x && one1 p fun s=>meth2 s "clear" fun y jx xs=>locB N sc x y && visB sc y && isLit (k:Int) jx && xs.isEmpty
def zbD (O:List Nat) (i:Nat) (kk:List Stmt -> Bool):List Gd -> List Stmt -> Bool
 | [],sts=>kk sts
 | .ifF e :: gs,s :: sts=>(retF s fun v=>chkC N T sc O e v) && zbD O i kk gs sts
 | .forF k lo n e :: gs,s :: sts=>(forB s fun tg ib p=>rngB sc lo n ib && chkT N sc (.one k) tg && decide (k ≠ i) && !io.contains k && one1 p fun s=>retF s fun v=>chkC N T sc O e v) && zbD O i kk gs sts
 | .asgI y e :: gs,s :: sts=>(asgN s fun x v=>locB N sc y x && chkE N T sc O e v && zaO v && decide (y ≠ i) && !io.contains y) && zbD O i kk gs sts
 | _,_=>false
def yngD (f:Str) (ap:Ap):Bool:=match findD T f with
 | some d=>d.io.isEmpty && (match ap with
  | .one j _=>newJ T d.body j
  | .all _ lo n _=>(List.range n).all fun t=>newJ T d.body (lo+t)
  | .clr _ k=>d.fresh && cJ d.body k)
 | none=>false
def zot (O:List Nat) (i:Nat) (f:Str) (args:Es) (gs:List Gd) (ap:Ap) (s:Stmt) (sts:List Stmt):Bool :=
 (asgN s fun y v=>locB N sc i y && callN v fun g xs=>(f == g) && glB sc g && chkEs N T sc O args xs && !(bares O args) && !xs.isEmpty && yngD T f ap) && zbD N T sc io O i (chkAp N sc io i ap) gs sts && kpIO io O && !io.contains i && (apT ap).all (fun j=>!io.contains j)
mutual
def chkS:List Nat -> List Nat -> S -> Stmt -> Bool
 | _,O,.asg i e,st0=>match st0 with
  | .Assign [.Name x p] v _=>locB N sc i x && !io.contains i && chkE N T sc (less O (topV e ++ escE e)) e v && kpIO io (less O (topV e ++ escE e)) && (zaO v || isLC v)
  | _=>false
 | _,O,.asgL i elt tg it own,st0=>match st0 with
  | .Assign [.Name x p] v _=>locB N sc i x && !io.contains i && chkE N T sc (less O (topV (.lc elt tg it own) ++ escE (.lc elt tg it own))) (.lc elt tg it own) v && kpIO io (less O (topV (.lc elt tg it own) ++ escE (.lc elt tg it own))) && swB sc x p v
  | _=>false
 | _,O,.asgT is e,st0=>match st0 with
  | .Assign [.Tuple ts _ _] v _=>zbb N sc is ts && chkE N T sc (less O (topV e ++ escE e)) e v && kpIO io (less (less O (topV e ++ escE e)) is) && (zdT v || foldB v) && zaO v
  | _=>false
 | _,O,.setI i ix e,st0=>match st0 with
  | .Assign [.Subscript (.Name x _) y _] v _=>locB N sc i x && visB sc x && O.contains i && chkE N T sc (less O (topV e ++ escE e ++ escE ix)) e v && chkE N T sc (less O (topV e ++ escE e ++ escE ix)) ix y && kpIO io (less O (topV e ++ escE e ++ escE ix)) && (less O (topV e ++ escE e ++ escE ix)).contains i && (zaO v || isLC v) && notSl y
  | _=>false
 | _,O,.append i e,st0=>match st0 with
  | .Expr (.Call (.Attribute (.Name x _) m apos) [v] [] pos) _=>(m == ("append":Str)) && locB N sc i x && visB sc x && chkE N T sc (less O (topV e ++ escE e)) e v && kpIO io (less O (topV e ++ escE e)) && (less O (topV e ++ escE e)).contains i && (apos.endLine == pos.line)
  | _=>false
 | _,O,.insert i a e,st0=>match st0 with
  | .Expr (.Call (.Attribute (.Name x _) m apos) [u,v] [] pos) _=>(m == ("insert":Str)) && locB N sc i x && visB sc x && chkE N T sc (less O (topV e ++ escE e ++ escE a)) a u && chkE N T sc (less O (topV e ++ escE e ++ escE a)) e v && kpIO io (less O (topV e ++ escE e ++ escE a)) && (less O (topV e ++ escE e ++ escE a)).contains i && (apos.endLine == pos.line)
  | _=>false
 | _,O,.pop i,st0=>match st0 with
  | .Expr (.Call (.Attribute (.Name x _) m apos) [] [] pos) _=>(m == ("pop":Str)) && locB N sc i x && visB sc x && O.contains i && (apos.endLine == pos.line)
  | _=>false
 | _,O,.clear i,st0=>match st0 with
  | .Expr (.Call (.Attribute (.Name x _) m apos) [] [] pos) _=>(m == ("clear":Str)) && locB N sc i x && visB sc x && O.contains i && (apos.endLine == pos.line)
  | _=>false
 | _,O,.expr e,st0=>match st0 with
  | .Expr v _=>chkE N T sc (less O (escE e)) e v && kpIO io (less O (escE e)) && zaO v
  | _=>false
 | OL,O,.ifs c a b,st0=>match st0 with
  | .If v p q _=>chkC N T sc (less O (escC c)) c v && kpIO io (less O (escC c)) && chkSs OL (less O (escC c)) a p && chkSs OL (less O (escC c)) b q && kpIO io ((ownS T (.ifs c a b) O).getD O)
  | _=>false
 | _,O,.whl c b,st0=>match st0 with
  | .While v p [] _=>chkE N T sc (headO (ownSs T b) (less O (escE c))) c v && kpIO io (headO (ownSs T b) (less O (escE c))) && chkSs (headO (ownSs T b) (less O (escE c))) (headO (ownSs T b) (less O (escE c))) b p && subO (headO (ownSs T b) (less O (escE c))) (ownSs T b (headO (ownSs T b) (less O (escE c))))
  | _=>false
 | _,O,.for t it b,st0=>match st0 with
  | .For tg ix p [] _=>chkI N T sc (less O (topI it ++ escI it)) it tg ix && chkT N sc t tg && kpIO io (headO (ownSs T b) (less (less O (topI it ++ escI it)) (zan t))) && chkSs (headO (ownSs T b) (less (less O (topI it ++ escI it)) (zan t))) (headO (ownSs T b) (less (less O (topI it ++ escI it)) (zan t))) b p && subO (headO (ownSs T b) (less (less O (topI it ++ escI it)) (zan t))) (ownSs T b (headO (ownSs T b) (less (less O (topI it ++ escI it)) (zan t))))
  | _=>false
 | _,O,.ret e,st0=>match st0 with
  | .Return (some v) _=>if fresh=true then chkE N T sc (less O (escE e)) e v && kpIO io (less O (escE e)) && (frE T e || frV io (less O (escE e)) e) else chkE N T sc (less O (topV e ++ escE e)) e v && kpIO io (less O (topV e ++ escE e))
  | .Return none _=>(match e with
   | .non=>kpIO io O
   | _=>false)
  | _=>false
 | OL,O,.brk,st0=>match st0 with
  | .Break _=>subO OL (some O) && kpIO io OL
  | _=>false
 | OL,O,.cont,st0=>match st0 with
  | .Continue _=>subO OL (some O) && kpIO io OL
  | _=>false
 | _,_,.pass,st0=>match st0 with
  | .Pass _=>true
  | _=>false
 | _,_,.raise0,st0=>match st0 with
  | .Raise _ _ _=>true
  | _=>false
 | OL,O,.try0 b,st0=>match st0 with
  | .Try p (_ :: _) [] [] _=>chkSs OL O b p
  | _=>false
 | _,O,.forK t i im b,st0=>match st0 with
  | .For tg ix p [] _=>dictB N sc i im tg ix && chkT N sc t tg && kpIO io (headO (ownSs T b) (less (less O [i]) (zan t))) && chkSs (headO (ownSs T b) (less (less O [i]) (zan t))) (headO (ownSs T b) (less (less O [i]) (zan t))) b p && subO (headO (ownSs T b) (less (less O [i]) (zan t))) (ownSs T b (headO (ownSs T b) (less (less O [i]) (zan t))))
  | _=>false
 | _,O,.appC e x,st0=>match st0 with
  | .Expr (.Call (.Attribute f m apos) [v] [] pos) _=>(m == ("append":Str)) && frE T e && zdd f && chkE N T sc (less O (topV e ++ (escE e ++ (topV x ++ escE x)))) e f && chkE N T sc (less O (topV e ++ (escE e ++ (topV x ++ escE x)))) x v && kpIO io (less O (topV e ++ (escE e ++ (topV x ++ escE x)))) && (apos.endLine == pos.line)
  | _=>false
 | _,O,.tryX j e x o hs re,st0=>match st0 with
  | .Try [b] [h] [] [] _=>chkTb N T sc io (less O (topV e ++ (escE e ++ (j.toList ++ o.toList ++ hs.map (·.1))))) j e b && chkHd N EX sc io x o hs re h && kpIO io (less O (topV e ++ (escE e ++ (j.toList ++ o.toList ++ hs.map (·.1)))))
  | _=>false
 | _,O,.par is es,st0=>match st0 with
  | .Assign [.Tuple ts _ _] (.Tuple vs _ _) _=>parB N sc is ts vs && chkEs N T sc (less O (bareV es ++ escEs es)) es vs && kpIO io (less (less O (bareV es ++ escEs es)) is)
  | _=>false
 | _,O,.xasg i x,st0=>match st0 with
  | .Assign [.Name y p] v _=>locB N sc i y && !io.contains i && chkX N T sc (less O (escX x)) x v && kpIO io (less O (escX x)) && (zaO v || isXLC x v)
  | _=>false
 | _,O,.xasgT is x,st0=>match st0 with
  | .Assign [.Tuple ts _ _] v _=>zbb N sc is ts && chkX N T sc (less O (escX x)) x v && kpIO io (less (less O (escX x)) is) && zdT v && zaO v
  | _=>false
 | _,O,.xret x,st0=>match st0 with
  | .Return (some v) _=>!fresh && chkX N T sc (less O (escX x)) x v && kpIO io (less O (escX x))
  | _=>false
 | _,O,.xapp i x,st0=>match st0 with
  | .Expr (.Call (.Attribute (.Name y _) m apos) [v] [] pos) _=>(m == ("append":Str)) && locB N sc i y && visB sc y && chkX N T sc (less O (escX x)) x v && kpIO io (less O (escX x)) && (less O (escX x)).contains i && (apos.endLine == pos.line)
  | _=>false
 | OL,O,.xif neg x a b,st0=>match st0 with
  | .If v p q _=>chkXT N T sc (less O (escX x)) neg x v && kpIO io (less O (escX x)) && chkSs OL (less O (escX x)) a p && chkSs OL (less O (escX x)) b q && kpIO io ((ownS T (.xif neg x a b) O).getD O)
  | _=>false
 | _,_,.raise c,st0=>match st0 with
  | .Raise (some (.Call (.Name x _) [.Constant (.str _) _ _] [] _)) none _=>(c == x) && glB sc x && EX.contains x
  | _=>false
 | _,_,_,_=>false
def chkSs:List Nat -> List Nat -> Ss -> List Stmt -> Bool
 | _,O,.nil,[]=>kpIO io O
 | OL,O,.reb ks r,xs=>io.isEmpty && ks.all O.contains && chkSs OL O r xs
 | OL,O,.two i k x it ex ix val r,xs=>(match xs with
  | s1 :: s2 :: ys=>zos N T sc io (twoO i k x it ex ix val O) i k x it ex ix val s1 s2 && chkSs OL (twoO i k x it ex ix val O) r ys
  | _=>false)
 | OL,O,.yng i f args gs ap r,xs=>(match xs with
  | s :: ys=>zot N T sc io (yngO i args gs ap O) i f args gs ap s (ys.take (gs.length+1)) && chkSs OL (yngA i ap (yngO i args gs ap O)) r (ys.drop (gs.length+1))
  | _=>false)
 | OL,O,.cons s r,x :: xs=>chkS OL O s x && (match ownS T s O with
  | none=>true | some O'=>chkSs OL O' r xs)
 | _,_,_,_=>false
end
end
end L2.Pf
namespace L2.Pf
open PySem PySem.Spec PyProof.Rows
theorem mutAt_iff {ρ:Env} {i:Nat}:mutAt ρ i=true ↔ ∃ d,ρ[i]?=some (some d) /\ d.mut=true:=by
 unfold mutAt getO
 cases e:ρ[i]? with
 | none=>simp
 | some o=>cases o <;> simp
structure Chg (S:List Nat) (ρ ρ':Env):Prop where
 len:ρ'.length=ρ.length
 was:∀ i,ρ'[i]?=ρ[i]? \/ (i ∈ S /\ mutAt ρ i=true /\ mutAt ρ' i=true)
theorem zcf {ρ ρ':Env} {i:Nat} (h:ρ'[i]?=ρ[i]?):mutAt ρ' i=mutAt ρ i:=by unfold mutAt getO; rw [h]
theorem Chg.refl {S:List Nat} {ρ:Env}:Chg S ρ ρ:=⟨rfl,fun _=>.inl rfl⟩
theorem Chg.trans {S S2:List Nat} {ρ ρ1 ρ2:Env} (h:Chg S ρ ρ1) (h2:Chg S2 ρ1 ρ2):Chg (S ++ S2) ρ ρ2:=by
 refine ⟨h2.len.trans h.len,fun i=>?_⟩
 rcases h.was i with e | ⟨m,a,b⟩
 ·rcases h2.was i with e2 | ⟨m2,a2,b2⟩
  ·exact .inl (e2.trans e)
  ·exact .inr ⟨List.mem_append_right _ m2,by rw [<- zcf e]; exact a2,b2⟩
 ·rcases h2.was i with e2 | ⟨m2,a2,b2⟩
  ·exact .inr ⟨List.mem_append_left _ m,a,by rw [zcf e2]; exact b⟩
  ·exact .inr ⟨List.mem_append_left _ m,a,b2⟩
theorem Chg.mono {S S':List Nat} {ρ ρ1:Env} (h:Chg S ρ ρ1) (s:∀ i ∈ S,i ∈ S'):Chg S' ρ ρ1 :=
 ⟨h.len,fun i=>(h.was i).imp id fun z=>⟨s i z.1,z.2⟩⟩
theorem Chg.mutAt {S:List Nat} {ρ ρ1:Env} (h:Chg S ρ ρ1) {i:Nat} (m:mutAt ρ1 i=true):mutAt ρ i=true:=by
 rcases h.was i with e | z
 ·rw [<- zcf e]; exact m
 ·exact z.2.1
theorem Chg.off {S:List Nat} {ρ ρ1:Env} (h:Chg S ρ ρ1) {i:Nat} (m:i ∉ S):ρ1[i]?=ρ[i]?:=(h.was i).resolve_right fun z=>m z.1
theorem zfP {ρ:Env} {p:Nat} {o:D} (h:(o.mut && mutAt ρ p)=true):Chg [p] ρ (ρ.set p (some o)):=by
 rw [Bool.and_eq_true] at h
 refine ⟨List.length_set,fun i=>?_⟩
 by_cases c:p=i
 ·subst c
  refine .inr ⟨List.mem_singleton.mpr rfl,h.2,?_⟩
  obtain ⟨d,e,_⟩:=mutAt_iff.mp h.2
  exact mutAt_iff.mpr ⟨o,by rw [List.getElem?_set_self (List.getElem?_eq_some_iff.mp e).1],h.1⟩
 ·exact .inl (List.getElem?_set_ne c)
theorem zg6 {ρ ρ2:Env} {p:Nat}:Chg [p] ρ (zbY ρ ρ2 p):=by
 unfold zbY
 split
 ·rename_i h
  have h':=h
  rw [Bool.and_eq_true] at h'
  obtain ⟨d,e,m⟩:=mutAt_iff.mp h'.2
  have eg:getO ρ2 p=some d:=by unfold getO; rw [e]; rfl
  rw [eg]
  exact zfP (by rw [m,h'.1]; rfl)
 ·exact .refl
section
variable {G:Str -> Option D} {Fnc:Fn}
theorem zjy {tg:Tg} {own:List Nat} {p:Nat} {body:Env -> R (D × Env)}:∀ {xs:List D} {ρ:Env} {r:List D × Env},lcX tg own p body xs ρ=.ok r -> Chg [p] ρ r.2
 | [],ρ,r,e=>by cases e; exact .refl
 | x :: xs,ρ,r,e=>by
  obtain ⟨ρ1,_,e⟩:=bind_ok (show (setT tg x (wipeD ρ own)).bind _=_ from e)
  obtain ⟨q,_,e⟩:=bind_ok e
  obtain ⟨w,e2,e⟩:=bind_ok e
  cases e
  exact ((zg6 (ρ2:=q.2)).trans (zjy e2)).mono fun i h=>by simpa using h
mutual
theorem zcF:∀ {m:Xp} {ρ:Env} {q:D × Env},evX G Fnc m ρ=.ok q -> Chg (slX m) ρ q.2
 | .pure m,ρ,q,e=>by
  obtain ⟨d,_,e⟩:=bind_ok (show (evE G Fnc m ρ).bind _=_ from e)
  cases e; exact .refl
 | .call f args k p,ρ,q,e=>by
  obtain ⟨ds,_,e⟩:=bind_ok (show (evEs G Fnc args ρ).bind _=_ from e)
  obtain ⟨r,_,e⟩:=bind_ok e
  unfold ioR at e
  split at e
  ·obtain ⟨c,e⟩:=zae e
   cases e
   exact zfP c
  ·cases e
 | .callF f args k,ρ,q,e=>by
  obtain ⟨ds,_,e⟩:=bind_ok (show (evEs G Fnc args ρ).bind _=_ from e)
  obtain ⟨r,_,e⟩:=bind_ok e
  unfold ioF at e
  split at e
  ·obtain ⟨c,e⟩:=zae e
   cases e
   exact .refl
  ·cases e
 | .callP f args im,ρ,q,e=>by
  obtain ⟨w,e1,e⟩:=bind_ok (show (evXs G Fnc args ρ).bind _=_ from e)
  obtain ⟨r,_,e⟩:=bind_ok e
  obtain ⟨c,e⟩:=zae e
  cases e
  exact zeo e1
 | .tup xs,ρ,q,e=>by
  obtain ⟨w,e1,e⟩:=bind_ok (show (evXs G Fnc xs ρ).bind _=_ from e)
  obtain ⟨c,e⟩:=zae e
  cases e
  exact zeo e1
 | .tupOf x,ρ,q,e=>by
  obtain ⟨w,e1,e⟩:=bind_ok (show (evX G Fnc x ρ).bind _=_ from e)
  obtain ⟨r,_,e⟩:=bind_ok e
  cases e
  exact zcF (m:=x) (q:=w) e1
 | .lc x tg it own p,ρ,q,e=>by
  obtain ⟨xs,_,e⟩:=bind_ok (show (evI G Fnc it ρ).bind _=_ from e)
  obtain ⟨w,e1,e⟩:=bind_ok e
  obtain ⟨c,e⟩:=zae e
  cases e
  exact zjy e1
 | .bin op a b,ρ,q,e=>by
  obtain ⟨w,e1,e⟩:=bind_ok (show (evX G Fnc a ρ).bind _=_ from e)
  obtain ⟨y,_,e⟩:=bind_ok e
  obtain ⟨d,_,e⟩:=bind_ok e
  cases e
  exact zcF (m:=a) (q:=w) e1
 | .cmpX op a b,ρ,q,e=>by
  obtain ⟨w,e1,e⟩:=bind_ok (show (evX G Fnc a ρ).bind _=_ from e)
  obtain ⟨y,_,e⟩:=bind_ok e
  obtain ⟨d,_,e⟩:=bind_ok e
  cases e
  exact zcF (m:=a) (q:=w) e1
 | .setd p k v,ρ,q,e=>by
  obtain ⟨o,_,e⟩:=bind_ok (show (getV ρ p).bind _=_ from e)
  obtain ⟨x,_,e⟩:=bind_ok e
  obtain ⟨y,_,e⟩:=bind_ok e
  obtain ⟨w,_,e⟩:=bind_ok e
  obtain ⟨c,e⟩:=zae e
  cases e
  exact zfP c
theorem zeo:∀ {m:Xps} {ρ:Env} {q:List D × Env},evXs G Fnc m ρ=.ok q -> Chg (slXs m) ρ q.2
 | .nil,ρ,q,e=>by cases e; exact .refl
 | .cons x r,ρ,q,e=>by
  obtain ⟨w,e1,e⟩:=bind_ok (show (evX G Fnc x ρ).bind _=_ from e)
  obtain ⟨u,e2,e⟩:=bind_ok e
  cases e
  exact (zcF (q:=w) e1).trans (zeo (q:=u) e2)
end
end
def Sl (O:List Nat) (σ:St) (ρ:Env) (b:Addr):Prop:=∃ i,O.contains i=true /\ mutAt ρ i=true /\ σ[i]?=some (some (.ref b))
theorem Chg.sl {S O:List Nat} {σ:St} {ρ ρ':Env} (h:Chg S ρ ρ') {b:Addr} (s:Sl O σ ρ' b):Sl O σ ρ b :=
 let ⟨i,h1,h2,h3⟩:=s; ⟨i,h1,h.mutAt h2,h3⟩
section
variable {K:PySem.W.Frag} {F:Fx} {O:List Nat} {A:Addr -> Prop} {σ:St} {ρ:Env} {H H1 H':Hp}
theorem EnvR.slA (I:EnvR K F O A σ ρ H) {b:Addr} (s:Sl O σ ρ b):A b:=by
 obtain ⟨i,h1,h2,h3⟩:=s
 obtain ⟨d,e,m⟩:=mutAt_iff.mp h2
 obtain ⟨a,ea,hA,_⟩:=I.own e h1 m
 rw [h3] at ea
 cases ea
 exact hA
theorem zjz {p:Nat} {a:Addr} {o d0:D} (I:EnvR K F O A σ ρ H1) (hp:O.contains p=true) (ep:ρ[p]?=some (some d0)) (m0:d0.mut=true) (es:σ[p]?=some (some (.ref a)))
  (x:Ext (fun b=>b ∈ [a]) H1 H') (ow:OwnAt K H' (PPa F A) a o):EnvR K F O A σ (ρ.set p (some o)) H':=by
 have hA:A a:=I.slA ⟨p,hp,mutAt_iff.mpr ⟨d0,ep,m0⟩,es⟩
 have lt:p < ρ.length:=(List.getElem?_eq_some_iff.mp ep).1
 have na:∀ b,PPa F A b -> ¬ b ∈ [a]:=fun b q z=>q.2 (by rw [List.mem_singleton.mp z]; exact hA)
 refine ⟨by rw [List.length_set]; exact I.len,fun b ob e n=>?_,fun i d e=>?_,fun i j b di dj hi hj ei ej mi mj si sj=>?_,fun b hb=>?_,I.aF,fun b hb=>?_⟩
 ·have e1:=I.ext b ob e n
  refine x b ob e1 fun m z=>?_
  have:=List.mem_singleton.mp z
  subst this
  rcases I.aF b hA with z | z
  ·exact n m z
  ·rw [z] at e; cases e
 ·by_cases c:p=i
  ·subst c
   rw [List.getElem?_set_self lt] at e
   cases e
   refine ⟨_,es,?_⟩
   unfold Slot
   rw [hp,ow.mut,Bool.true_and,if_pos rfl]
   exact ⟨a,rfl,hA,ow⟩
  ·rw [List.getElem?_set_ne c] at e
   obtain ⟨v,ev,s⟩:=I.val i d e
   refine ⟨v,ev,?_⟩
   unfold Slot at s ⊢
   by_cases w:(O.contains i && d.mut)=true
   ·rw [if_pos w] at s ⊢
    obtain ⟨b,rfl,hb,ob⟩:=s
    have w':=w
    rw [Bool.and_eq_true] at w'
    have ne:b ≠ a:=fun z=>c (I.inj p i a d0 d hp w'.1 ep e m0 w'.2 es (by rw [ev,z]))
    exact ⟨b,rfl,hb,ob.mono (x.le na) fun u eu mu=>x b u eu fun _ z=>ne (List.mem_singleton.mp z)⟩
   ·rw [if_neg w] at s ⊢
    exact s.ext x na
 ·have back:∀ {k:Nat} {dk:D},(ρ.set p (some o))[k]?=some (some dk) -> dk.mut=true -> ∃ d1,ρ[k]?=some (some d1) /\ d1.mut=true:=fun {k dk} e m=>by
   by_cases c:p=k
   ·subst c; exact ⟨d0,ep,m0⟩
   ·rw [List.getElem?_set_ne c] at e; exact ⟨dk,e,m⟩
  obtain ⟨d1,e1,m1⟩:=back ei mi
  obtain ⟨d2,e2,m2⟩:=back ej mj
  exact I.inj i j b d1 d2 hi hj e1 e2 m1 m2 si sj
 ·by_cases c:b=a
  ·subst c; exact ow.there
  ·obtain ⟨u,eu,mu⟩:=I.aM b hb
   exact ⟨u,x b u eu fun _ z=>c (List.mem_singleton.mp z),mu⟩
 ·obtain ⟨h1,j,d,h2,h3,h4,h5,h6⟩:=I.io b hb
  refine ⟨h1,j,?_⟩
  by_cases c:p=j
  ·subst c
   exact ⟨o,h2,h3,List.getElem?_set_self lt,ow.mut,h6⟩
  ·exact ⟨d,h2,h3,by rw [List.getElem?_set_ne c]; exact h4,h5,h6⟩
end
theorem zep {K:PySem.W.Frag} {H:Hp} {P P':Addr -> Prop} {a:Addr} {d:D} (h:∀ b,P b -> P' b) (o:OwnAt K H P a d):OwnAt K H P' a d:=by
 cases d with
 | lst ds=>obtain ⟨vs,e,t⟩:=o; exact ⟨vs,e,t.weak h⟩
 | dK kvs=>obtain ⟨vs,e,k,t⟩:=o; exact ⟨vs,e,k,t.weak h⟩
 | dT kvs=>obtain ⟨vs,e,k,t⟩:=o; exact ⟨vs,e,k,t.weak h⟩
 | _=>exact o.elim
structure ArgsAt (K:PySem.W.Frag) (H:Hp) (P:Addr -> Prop) (k:Nat) (ds:List D) (vs:List V) (d:D) (v:V):Prop where
 len:ds.length=vs.length
 kd:ds[k]?=some d
 kv:vs[k]?=some v
 oth:∀ i e,i ≠ k -> ds[i]?=some e -> ∃ u,vs[i]?=some u /\ Rep K H P e u
theorem ArgsAt.next {K:PySem.W.Frag} {H:Hp} {P:Addr -> Prop} {k:Nat} {ds:List D} {vs:List V} {d e:D} {v u:V} (h:ArgsAt K H P k ds vs d v) (r:Rep K H P e u):ArgsAt K H P (k+1) (e :: ds) (u :: vs) d v:=by
 refine ⟨by simp [h.len],by simpa using h.kd,by simpa using h.kv,fun i x ne ex=>?_⟩
 cases i with
 | zero=>simp at ex; subst ex; exact ⟨u,rfl,r⟩
 | succ i =>
  obtain ⟨w,ew,rw'⟩:=h.oth i x (by omega) (by simpa using ex)
  exact ⟨w,by simpa using ew,rw'⟩
theorem ArgsAt.here {K:PySem.W.Frag} {H:Hp} {P:Addr -> Prop} {ds:List D} {vs:List V} {d:D} {v:V} (r:Reps K H P ds vs):ArgsAt K H P 0 (d :: ds) (v :: vs) d v:=by
 refine ⟨by simp [r.length],rfl,rfl,fun i x ne ex=>?_⟩
 cases i with
 | zero=>exact absurd rfl ne
 | succ i =>
  obtain ⟨w,ew,rw'⟩:=r.get (by simpa using ex)
  exact ⟨w,by simpa using ew,rw'⟩
theorem ArgsAt.env {K:PySem.W.Frag} {H:Hp} {P:Addr -> Prop} {k:Nat} {ds:List D} {vs:List V} {d:D} {a:Addr} (h:ArgsAt K H P k ds vs d (.ref a)) (np:¬ P a) (ow:OwnAt K H P a d):EnvR K ⟨P,H,[a],[k]⟩ [k] (fun b=>b=a) (vs.map some) (ds.map some) H:=by
 have w:∀ b,P b -> PPa ⟨P,H,[a],[k]⟩ (fun b=>b=a) b:=fun b p=>⟨.inl p,fun z=>np (by rw [<- z]; exact p)⟩
 have hk:∀ {i:Nat},([k]:List Nat).contains i=true -> i=k:=fun {i} z=>by simpa using z
 refine ⟨by simp [h.len],fun b o e _=>e,fun i e ei=>?_,fun i j b di dj hi hj _ _ _ _ _ _=>(hk hi).trans (hk hj).symm,fun b z=>by subst z; exact ow.there,fun b z=>.inl (by simp [z]),fun b z=>⟨List.mem_singleton.mp z,k,d,List.mem_singleton.mpr rfl,by simp,by rw [List.getElem?_map,h.kd]; rfl,ow.mut,by rw [List.getElem?_map,h.kv,List.mem_singleton.mp z]; rfl⟩⟩
 have ei:=zgQ ei
 by_cases c:i=k
 ·subst c
  rw [h.kd] at ei
  cases ei
  refine ⟨.ref a,by rw [List.getElem?_map,h.kv]; rfl,?_⟩
  unfold Slot
  rw [ow.mut,if_pos (by simp)]
  exact ⟨a,rfl,rfl,zep w ow⟩
 ·obtain ⟨u,eu,r⟩:=h.oth i e c ei
  refine ⟨u,by rw [List.getElem?_map,eu]; rfl,?_⟩
  unfold Slot
  rw [if_neg (by simp [c])]
  exact r.weak w
theorem zmB {H H':Hp} {P:Addr -> Prop} {a:Addr} (x:Ext Nix H H') (ha:H a=none):Le P (fun b=>P b /\ b ≠ a) H H' :=
 ⟨fun b u _ e=>x.all e,fun b u _ _ r=>by
  rcases r with r | ⟨ob,r⟩
  ·exact .inl (x.all r)
  ·exact .inr ⟨ob,x.all r⟩,fun b u _ q r=>⟨q,fun z=>by
   obtain ⟨o,e⟩:=zcw r
   rw [z,ha] at e; cases e⟩⟩
section
variable {T:List Def}
theorem zdo {N:List Str} {sc:Scope} {O:List Nat} {p:Option Nat}:∀ {m:Es} {xs:List Expr},chkA N T sc O p none m xs=true -> chkEs N T sc O m xs=true /\ bares O m=false
 | .nil,[],_=>⟨rfl,rfl⟩
 | .nil,_ :: _,h=>by simp [chkA] at h
 | .cons _ _,[],h=>by simp [chkA] at h
 | .cons e r,x :: xs,h=>by
  rw [chkA] at h
  simp only [Bool.and_eq_true] at h
  obtain ⟨⟨h1,h2⟩,h3⟩:=h
  obtain ⟨i1,i2⟩:=zdo h3
  refine ⟨by rw [chkEs,h1,i1]; rfl,?_⟩
  show (bareO O e || bares O r)=false
  rw [i2,Bool.or_false]
  simpa using h2
theorem zbE {N:List Str} {sc:Scope} {O:List Nat} {p:Option Nat}:∀ {k:Option Nat} {m:Es} {xs:List Expr},chkA N T sc O p k m xs=true -> xs.all zaw=true
 | none,.nil,[],_=>rfl
 | none,.nil,_ :: _,h=>by simp [chkA] at h
 | none,.cons _ _,[],h=>by simp [chkA] at h
 | some 0,.nil,_,h=>by simp [chkA] at h
 | some (_+1),.nil,_,h=>by simp [chkA] at h
 | some 0,.cons _ _,[],h=>by simp [chkA] at h
 | some (_+1),.cons _ _,[],h=>by simp [chkA] at h
 | none,.cons e r,x :: xs,h=>by
  rw [chkA] at h
  simp only [Bool.and_eq_true] at h
  rw [List.all_cons,zaa N T h.1.1,zbE h.2]; rfl
 | some 0,.cons e r,x :: xs,h=>by
  rw [chkA] at h
  simp only [Bool.and_eq_true] at h
  rw [List.all_cons,zaa N T h.1.2,zbE h.2]; rfl
 | some (k+1),.cons e r,x :: xs,h=>by
  rw [chkA] at h
  simp only [Bool.and_eq_true] at h
  rw [List.all_cons,zaa N T h.1.1,zbE h.2]; rfl
section
variable {X:Cx} {sc:Scope} {O:List Nat} {G:Str -> Option D} {Fnc:Fn} {n:Nat} {cls:Str -> Option Addr} {W:WX} {F:Fx} {A:Addr -> Prop} {σ:St} {ρ:Env}
theorem zg7 (hy:Hy X T G Fnc n cls) (tk:Takes X W) (hs:X.env.scope=sc) {p:Nat}:∀ {k:Nat} {args:Es} {xs:List Expr} {H:Hp} {Q:List V -> Hp -> Prop} {ds:List D},chkA X.N T sc O (some p) (some k) args xs=true -> EnvR X.K F O A σ ρ H -> evEs G Fnc args ρ=.ok ds →
  (∀ vs H' d v,Ext Nix H H' -> ArgsAt X.K H' (PPa F A) k ds vs d v -> ρ[p]?=some (some d) -> σ[p]?=some (some v) -> Q vs H') -> WA X xs σ H Q
 | 0,.cons e r,x :: xs,H,Q,ds,c,I,ev,q=>by
  rw [chkA] at c
  simp only [Bool.and_eq_true] at c
  obtain ⟨⟨c1,c2⟩,c3⟩:=c
  obtain ⟨c3,c4⟩:=zdo c3
  obtain ⟨d,e1,ev⟩:=bind_ok (show (evE G Fnc e ρ).bind _=_ from ev)
  obtain ⟨es,e2,ev⟩:=bind_ok ev
  cases ev
  have e0:e=.var p:=by
   cases e <;> (try (cases c1; done))
   rename_i i
   have:i=p:=by simpa [ioArg] using c1
   rw [this]
  subst e0
  have ed:ρ[p]?=some (some d):=by
   have h:getV ρ p=.ok d:=e1
   unfold getV at h
   split at h
   ·cases h; assumption
   ·cases h
  obtain ⟨v,ev,s⟩:=I.val p d ed
  refine wa_of (pa_cons pe_we pa_wa (zab (zaa _ _ c2))) ?_
  have hw:∀ {R:VK},R v H -> WE X x σ H R:=fun {R} hr=>by
   cases x <;> (try (simp [chkE] at c2; done))
   rename_i y pp
   rw [chkE,Bool.and_eq_true] at c2
   subst hs
   obtain ⟨v1,v2,v3⟩:=zbw c2.2
   exact we_of (pe_var (by simpa using c2.1) v1 v2 v3) ⟨v,ev,hr⟩
  refine hw ((allEs r).1 hy tk hs c3 I ?_)
  rw [e2]
  exact fun vs H2 x2 t pl=>q (v :: vs) H2 d v x2 (.here (pl c4)) ed ev
 | k+1,.cons e r,x :: xs,H,Q,ds,c,I,ev,q=>by
  rw [chkA] at c
  simp only [Bool.and_eq_true] at c
  obtain ⟨⟨c1,c2⟩,c3⟩:=c
  obtain ⟨d,e1,ev⟩:=bind_ok (show (evE G Fnc e ρ).bind _=_ from ev)
  obtain ⟨es,e2,ev⟩:=bind_ok ev
  cases ev
  refine wa_of (pa_cons pe_we pa_wa (zab (zaa _ _ c1))) ((allE e).1 hy tk hs c1 I ?_)
  rw [e1]
  refine fun v H1 g=>zg7 hy tk hs c3 (I.step g.ext) e2 fun vs H2 d2 v2 x2 at2 h1 h2=>q (v :: vs) H2 d2 v2 (g.ext.trans x2) (at2.next ((g.rep (by simpa using c2)).ext x2 fun _ _ z=>z)) h1 h2
 | 0,.nil,_,_,_,_,c,_,_,_=>by simp [chkA] at c
 | 0,.cons _ _,[],_,_,_,c,_,_,_=>by simp [chkA] at c
 | k+1,.nil,_,_,_,_,c,_,_,_=>by simp [chkA] at c
 | k+1,.cons _ _,[],_,_,_,c,_,_,_=>by simp [chkA] at c
theorem zjA {a b:Addr} (h:PPa F (fun b=>A b \/ b=a) b):PPa F A b /\ b ≠ a:=⟨⟨h.1,fun z=>h.2 (.inl z)⟩,fun z=>h.2 (.inr z)⟩
theorem zg8 (hy:Hy X T G Fnc n cls) (tk:Takes X W) (hs:X.env.scope=sc):∀ {k:Nat} {args:Es} {xs:List Expr} {H:Hp} {Q:List V -> Hp -> Prop} {ds:List D},chkA X.N T sc O none (some k) args xs=true -> EnvR X.K F O A σ ρ H -> evEs G Fnc args ρ=.ok ds -> mutK ds k=true →
  (∀ vs H' d a,Ext Nix H H' -> H a=none -> ArgsAt X.K H' (fun b=>PPa F A b /\ b ≠ a) k ds vs d (.ref a) -> OwnAt X.K H' (fun b=>PPa F A b /\ b ≠ a) a d -> Q vs H') -> WA X xs σ H Q
 | 0,.cons e r,x :: xs,H,Q,ds,c,I,ev,mk,q=>by
  rw [chkA] at c
  simp only [Bool.and_eq_true] at c
  obtain ⟨⟨c1,c2⟩,c3⟩:=c
  obtain ⟨c3,c4⟩:=zdo c3
  obtain ⟨d,e1,ev⟩:=bind_ok (show (evE G Fnc e ρ).bind _=_ from ev)
  obtain ⟨es,e2,ev⟩:=bind_ok ev
  cases ev
  refine wa_of (pa_cons pe_we pa_wa (zab (zaa _ _ c2))) ((allE e).1 hy tk hs c2 I ?_)
  rw [e1]
  refine fun v H1 g=>?_
  obtain ⟨a,rfl,hn,ow⟩:=g.new c1 (show d.mut=true from mk)
  obtain ⟨u,hu,mu⟩:=ow.there
  have I1:=zbs I hn (fun b o e=>g.ext.all e) hu mu
  refine (allEs r).1 hy tk hs c3 I1 ?_
  rw [e2]
  exact fun vs H2 x2 t pl=>q _ H2 d a (g.ext.trans x2) hn (.here ((pl c4).weak fun b z=>zjA z)) (ow.ext x2)
 | k+1,.cons e r,x :: xs,H,Q,ds,c,I,ev,mk,q=>by
  rw [chkA] at c
  simp only [Bool.and_eq_true] at c
  obtain ⟨⟨c1,c2⟩,c3⟩:=c
  obtain ⟨d,e1,ev⟩:=bind_ok (show (evE G Fnc e ρ).bind _=_ from ev)
  obtain ⟨es,e2,ev⟩:=bind_ok ev
  cases ev
  refine wa_of (pa_cons pe_we pa_wa (zab (zaa _ _ c1))) ((allE e).1 hy tk hs c1 I ?_)
  rw [e1]
  refine fun v H1 g=>zg8 hy tk hs c3 (I.step g.ext) e2 (by simpa [mutK] using mk) fun vs H2 d2 a x2 hn at2 ow=>q (v :: vs) H2 d2 a (g.ext.trans x2) (zaL g.ext hn) (at2.next ((g.rep (by simpa using c2)).mono (zmB x2 hn))) ow
 | 0,.nil,_,_,_,_,c,_,_,_,_=>by simp [chkA] at c
 | 0,.cons _ _,[],_,_,_,c,_,_,_,_=>by simp [chkA] at c
 | k+1,.nil,_,_,_,_,c,_,_,_,_=>by simp [chkA] at c
 | k+1,.cons _ _,[],_,_,_,c,_,_,_,_=>by simp [chkA] at c
end
structure GotX (K:PySem.W.Frag) (F:Fx) (A:Addr -> Prop) (O:List Nat) (σ:St) (ρ:Env) (H H':Hp) (q:D × Env) (v:V):Prop where
 env:EnvR K F O A σ q.2 H'
 ext:Ext (Sl O σ ρ) H H'
 rep:Rep K H' (PPa F A) q.1 v
structure GotXs (K:PySem.W.Frag) (F:Fx) (A:Addr -> Prop) (O:List Nat) (σ:St) (ρ:Env) (H H':Hp) (q:List D × Env) (v:List V):Prop where
 env:EnvR K F O A σ q.2 H'
 ext:Ext (Sl O σ ρ) H H'
 rep:Reps K H' (PPa F A) q.1 v
variable (T)
def SndX (m:Xp):Prop:=∀ {X:Cx} {e:Expr} {sc:Scope} {O:List Nat} {G:Str -> Option D} {Fnc:Fn} {n:Nat} {cls:Str -> Option Addr} {W:WX} {F:Fx} {A:Addr -> Prop} {σ:St} {ρ:Env} {H:Hp} {Q:VK} {q:D × Env},
 Hy X T G Fnc n cls -> Takes X W -> X.env.scope=sc -> chkX X.N T sc O m e=true -> EnvR X.K F O A σ ρ H -> evX G Fnc m ρ=.ok q -> (∀ v H',GotX X.K F A O σ ρ H H' q v -> Q v H') -> WE X e σ H Q
def SndXs (m:Xps):Prop:=∀ {X:Cx} {e:List Expr} {sc:Scope} {O:List Nat} {G:Str -> Option D} {Fnc:Fn} {n:Nat} {cls:Str -> Option Addr} {W:WX} {F:Fx} {A:Addr -> Prop} {σ:St} {ρ:Env} {H:Hp} {Q:List V -> Hp -> Prop} {q:List D × Env},
 Hy X T G Fnc n cls -> Takes X W -> X.env.scope=sc -> chkXs X.N T sc O m e=true -> EnvR X.K F O A σ ρ H -> evXs G Fnc m ρ=.ok q -> (∀ v H',GotXs X.K F A O σ ρ H H' q v -> Q v H') -> WA X e σ H Q
variable {T}
theorem zhO {sc:Scope} {f:Str} {e:Expr} {k:Expr -> Bool} (h:call1 sc f e k=true):zaw e=true:=by
 obtain ⟨_,_,_,rfl,_⟩:=zaM h
 rfl
theorem za4 {N:List Str} {sc:Scope} {O:List Nat} {m:Xp} {x:Expr} (h:chkX N T sc O m x=true):zaw x=true:=by
 cases m with
 | pure e =>
  rw [chkX,Bool.and_eq_true] at h
  exact zaa N T h.1
 | tupOf y=>exact zhO (show call1 sc "tuple" x _=true by rw [chkX] at h; exact h)
 | _=>cases x <;> first | rfl | (simp [chkX] at h)
theorem zdU {N:List Str} {sc:Scope} {O:List Nat}:∀ {m:Xps} {xs:List Expr},chkXs N T sc O m xs=true -> xs.all zaw=true
 | .nil,[],_=>rfl
 | .nil,_ :: _,h=>by simp [chkXs] at h
 | .cons _ _,[],h=>by simp [chkXs] at h
 | .cons e r,x :: xs,h=>by
  rw [chkXs,Bool.and_eq_true] at h
  rw [List.all_cons,za4 h.1,zdU h.2]
  rfl
theorem zjB (m:E):SndX T (.pure m):=by
 intro X e sc O G Fnc n cls W F A σ ρ H Q q hy tk hs c I ev k
 rw [chkX,Bool.and_eq_true] at c
 obtain ⟨d,e1,ev⟩:=bind_ok (show (evE G Fnc m ρ).bind _=_ from ev)
 cases ev
 refine (allE m).1 hy tk hs c.1 I ?_
 rw [e1]
 exact fun v H' g=>k v H' ⟨I.step g.ext,g.ext.nix,g.rep (by simpa using c.2)⟩
theorem zjC:SndXs T .nil:=by
 intro X e sc O G Fnc n cls W F A σ ρ H Q q hy tk hs c I ev k
 cases e <;> (try (simp [chkXs] at c; done))
 cases ev
 exact wa_of pa_nil (k [] H ⟨I,Ext.refl,.nil⟩)
theorem zhP {x:Xp} {r:Xps} (hx:SndX T x) (hr:SndXs T r):SndXs T (.cons x r):=by
 intro X e sc O G Fnc n cls W F A σ ρ H Q q hy tk hs c I ev k
 cases e <;> (try (simp [chkXs] at c; done))
 rename_i y ys
 rw [chkXs,Bool.and_eq_true] at c
 obtain ⟨w,e1,ev⟩:=bind_ok (show (evX G Fnc x ρ).bind _=_ from ev)
 obtain ⟨u,e2,ev⟩:=bind_ok ev
 cases ev
 refine wa_of (pa_cons pe_we pa_wa (zab (za4 c.1))) (hx hy tk hs c.1 I e1 fun v H1 g=>?_)
 refine hr hy tk hs c.2 g.env e2 fun vs H2 g2=>k _ _ ⟨g2.env,g.ext.trans (g2.ext.mono fun b z=>(zcF e1).sl z),?_⟩
 exact .cons (g.rep.ext g2.ext fun b z w=>z.2 (g.env.slA w)) g2.rep
theorem zmC {xs:Xps} (hx:SndXs T xs):SndX T (.tup xs):=by
 intro X e sc O G Fnc n cls W F A σ ρ H Q q hy tk hs c I ev k
 cases e <;> (try (simp [chkX] at c; done))
 rename_i ys kk p
 rw [chkX] at c
 obtain ⟨w,e1,ev⟩:=bind_ok (show (evXs G Fnc xs ρ).bind _=_ from ev)
 obtain ⟨z,ev⟩:=zae ev
 cases ev
 refine we_of (pe_tup pa_wa) (hx hy tk hs c I e1 fun vs H1 g=>?_)
 refine ⟨by rw [<- g.rep.length]; exact of_decide_eq_true z,fun pp hp=>?_⟩
 exact zb0 (P:=PPa F A) hp g.rep fun v H' x r _=>k v H' ⟨g.env.step x,g.ext.trans x.nix,r⟩
theorem zhQ {x:Xp} (hx:SndX T x):SndX T (.tupOf x):=by
 intro X e sc O G Fnc n cls W F A σ ρ H Q q hy tk hs c I ev k
 have c':call1 sc "tuple" e (fun y=>chkX X.N T sc O x y)=true:=by rw [chkX] at c; exact c
 obtain ⟨pf,y,pc,rfl,g0,c1⟩:=zaM c'
 obtain ⟨w,e1,ev⟩:=bind_ok (show (evX G Fnc x ρ).bind _=_ from ev)
 obtain ⟨xs,e2,ev⟩:=bind_ok ev
 cases ev
 subst hs
 obtain ⟨g1,g2,g3⟩:=gl_of g0
 have hb:X.mg "tuple"=none:=hy.blt "tuple" (by decide)
 refine we_of (pe_callTy call_tuple_of g1 hb PyProof.Rows.boot_tuple (pa_cons pe_we pa_nil (zab (za4 c1))) g3 g2 (zab (za4 c1)) rfl) ?_
 refine hx hy tk rfl c1 I e1 fun v H1 g=>?_
 obtain ⟨d1,ρ1⟩:=w
 have hd:∃ ds,d1=.lst ds /\ xs=ds:=by
  cases d1 <;> (try (cases e2; done))
  cases e2; exact ⟨_,rfl,rfl⟩
 obtain ⟨ds,rfl,rfl⟩:=hd
 obtain ⟨a,vs,rfl,hl,rr⟩:=(show RepT X.K H1 (PPa F A) (.lst xs) v from .inl g.rep).lst
 exact ⟨a,vs,rfl,.inl ⟨hl,fun l hl'=>zb0 (P:=PPa F A) hl' rr fun v H' x r _=>k v H' ⟨g.env.step x,g.ext.trans x.nix,r⟩⟩⟩
theorem zmD {op:BOp} {a:Xp} {b:E} (ha:SndX T a):SndX T (.bin op a b):=by
 intro X e sc O G Fnc n cls W F A σ ρ H Q q hy tk hs c I ev k
 cases e <;> (try (simp [chkX] at c; done))
 rename_i x o y p
 rw [chkX,Bool.and_eq_true,Bool.and_eq_true] at c
 obtain ⟨⟨c1,c2⟩,c3⟩:=c
 have:=ziV c1
 subst this
 obtain ⟨w,e1,ev⟩:=bind_ok (show (evX G Fnc a ρ).bind _=_ from ev)
 obtain ⟨z,e2,ev⟩:=bind_ok ev
 obtain ⟨d,e3,ev⟩:=bind_ok ev
 cases ev
 refine we_of (pe_op op_om pe_we pe_we) (ha hy tk hs c2 I e1 fun v H1 g=>?_)
 refine (allE b).1 hy tk hs c3 g.env ?_
 rw [e2]
 refine fun u H2 g2=>?_
 exact ziJ (.inl (g.rep.ext g2.ext fun _ _ z=>z)) g2.top e3 (g.env.step g2.ext).np fun v' H' x r _=>k v' H' ⟨(g.env.step g2.ext).step x,(g.ext.trans g2.ext.nix).trans x.nix,r⟩
theorem zou {f:Str} {k:Nat} (h:ioD T f k=true):∃ d,findD T f=some d /\ d.io=[k] /\ isTab d=false:=by
 unfold ioD at h
 cases e:findD T f with
 | none=>rw [e] at h; cases h
 | some d =>
  rw [e] at h
  have h':((d.io == [k]) && decide (k < 99))=true:=h
  rw [Bool.and_eq_true] at h'
  have e1:d.io=[k]:=by simpa using h'.1
  have e2:=of_decide_eq_true h'.2
  refine ⟨d,rfl,e1,?_⟩
  unfold isTab
  rw [e1]
  simp
  omega
theorem zjD {X:Cx} {G:Str -> Option D} {Fnc:Fn} {n:Nat} {cls:Str -> Option Addr} {H1:Hp} {P:Addr -> Prop} {k:Nat} {ds:List D} {vs:List V} {f:Str} {d:Def} {d0:D} {a:Addr} {r:D} {o:D} {Q:VK} {E':XK}
  (hy:Hy X T G Fnc n cls) (ed:findD T f=some d) (io:d.io=[k]) (at1:ArgsAt X.K H1 P k ds vs d0 (.ref a)) (np:¬ P a) (ow:OwnAt X.K H1 P a d0) (er:Fnc f ds=.ok (r,[o]))
  (q:∀ v H',Ext (fun b=>b ∈ [a]) H1 H' -> Rep X.K H' (fun b=>(P b \/ H1 b=none) /\ b ∉ [a]) r v -> (o.mut=true -> OwnAt X.K H' (fun b=>(P b \/ H1 b=none) /\ b ∉ [a]) a o) -> Q v H'):spD T X.K cls Fnc f d vs H1 Q E':=by
 refine ⟨ds,P,[a],fun b=>b=a,by rw [io]; exact at1.env np ow,by rw [<- at1.len]; exact hy.flen f d ds ed (by rw [er]; intro z; cases z),?_⟩
 rw [er]
 intro v H' x rv _ _ ho
 exact q v H' x rv fun mo=>ho 0 k o a (by rw [io]; rfl) rfl mo at1.kv
theorem zjE {f:Str} {args:Es} {j p:Nat}:SndX T (.call f args j p):=by
 intro X e sc O G Fnc n cls W F A σ ρ H Q q hy tk hs c I ev k
 cases e <;> (try (simp [chkX] at c; done))
 rename_i fe xs kws pp
 cases fe <;> (try (simp [chkX] at c; done))
 rename_i g pg
 cases kws <;> (try (simp [chkX] at c; done))
 rw [chkX] at c
 simp only [Bool.and_eq_true] at c
 obtain ⟨⟨⟨⟨⟨c1,c2⟩,c3⟩,c4⟩,c5⟩,c6⟩:=c
 have ef:f=g:=by simpa using c1
 subst ef
 subst hs
 obtain ⟨g1,g2,g3⟩:=gl_of c2
 obtain ⟨x,r,rfl⟩:=zaP c4
 have st:=zbE c3
 rw [List.all_cons,Bool.and_eq_true] at st
 obtain ⟨d,ed,io,it⟩:=zou c6
 obtain ⟨a,fd,m1,m2,m3,m4⟩:=hy.fn f d ed it
 obtain ⟨ds,e1,ev⟩:=bind_ok (show (evEs G Fnc args ρ).bind _=_ from ev)
 obtain ⟨rr,e2,ev⟩:=bind_ok ev
 obtain ⟨rd,outs⟩:=rr
 unfold ioR at ev
 match outs,ev with
 | [o],ev =>
  obtain ⟨z,ev⟩:=zae ev
  cases ev
  have z':=z
  rw [Bool.and_eq_true] at z'
  obtain ⟨d0,ed0,m0⟩:=mutAt_iff.mp z'.2
  refine we_of (pe_callS m4 hy.room g1 m1 m2 m3 (fun σ=>passAt tk σ) pa_wa g2 (zab st.1) (zao st.2)) (zg7 hy tk rfl c3 I e1 fun vs H1 dk v x1 at1 h1 h2=>?_)
  rw [ed0] at h1
  cases h1
  have I1:=I.step x1
  obtain ⟨b,eb,hA,ow⟩:=I1.own ed0 c5 m0
  rw [h2] at eb
  cases eb
  have np:¬ PPa F A b:=fun z=>z.2 hA
  refine zjD hy ed io at1 np ow e2 fun v H' x2 rv ro=>?_
  have ro:=ro z'.1
  have wk:∀ c,((PPa F A c \/ H1 c=none) /\ c ∉ [b]) -> PPa F A c:=fun c z=>z.1.elim id fun z=>I1.newP z
  refine k v H' ⟨zjz I1 c5 ed0 m0 h2 x2 (zep wk ro),x1.nix.trans (x2.mono fun c z=>?_),rv.weak wk⟩
  rw [List.mem_singleton.mp z]
  exact ⟨p,c5,z'.2,h2⟩
theorem zhR {f:Str} {args:Es} {j:Nat}:SndX T (.callF f args j):=by
 intro X e sc O G Fnc n cls W F A σ ρ H Q q hy tk hs c I ev k
 cases e <;> (try (simp [chkX] at c; done))
 rename_i fe xs kws pp
 cases fe <;> (try (simp [chkX] at c; done))
 rename_i g pg
 cases kws <;> (try (simp [chkX] at c; done))
 rw [chkX] at c
 simp only [Bool.and_eq_true] at c
 obtain ⟨⟨⟨⟨c1,c2⟩,c3⟩,c4⟩,c6⟩:=c
 have ef:f=g:=by simpa using c1
 subst ef
 subst hs
 obtain ⟨g1,g2,g3⟩:=gl_of c2
 obtain ⟨x,r,rfl⟩:=zaP c4
 have st:=zbE c3
 rw [List.all_cons,Bool.and_eq_true] at st
 obtain ⟨d,ed,io,it⟩:=zou c6
 obtain ⟨a,fd,m1,m2,m3,m4⟩:=hy.fn f d ed it
 obtain ⟨ds,e1,ev⟩:=bind_ok (show (evEs G Fnc args ρ).bind _=_ from ev)
 obtain ⟨rr,e2,ev⟩:=bind_ok ev
 obtain ⟨rd,outs⟩:=rr
 unfold ioF at ev
 match outs,ev with
 | [o],ev =>
  obtain ⟨z,ev⟩:=zae ev
  cases ev
  refine we_of (pe_callS m4 hy.room g1 m1 m2 m3 (fun σ=>passAt tk σ) pa_wa g2 (zab st.1) (zao st.2)) (zg8 hy tk rfl c3 I e1 z fun vs H1 dk b x1 hn at1 ow=>?_)
  have I1:=I.step x1
  refine zjD hy ed io at1 (fun z=>z.2 rfl) ow e2 fun v H' x2 rv ro=>?_
  have x3:Ext Nix H H':=fun c u e _=>x2 c u (x1.all e) fun _ z=>by
   rw [List.mem_singleton.mp z,hn] at e; cases e
  refine k v H' ⟨I.step x3,x3.nix,rv.weak fun c z=>?_⟩
  rcases z.1 with z | z
  ·exact z.1
  ·exact I1.newP z
theorem zrQ {f:Str} (h:plD T f=true):∃ d,findD T f=some d /\ d.io=[]:=by
 unfold plD at h
 cases e:findD T f with
 | none=>rw [e] at h; cases h
 | some d=>rw [e] at h; exact ⟨d,rfl,List.isEmpty_iff.mp h⟩
theorem zhS {f:Str} {args:Xps} {im:Bool} (ha:SndXs T args):SndX T (.callP f args im):=by
 intro X e sc O G Fnc n cls W F A σ ρ H Q q hy tk hs c I ev k
 cases e <;> (try (simp [chkX] at c; done))
 rename_i fe xs kws pp
 cases fe <;> (try (simp [chkX] at c; done))
 rename_i g pg
 cases kws <;> (try (simp [chkX] at c; done))
 rw [chkX] at c
 simp only [Bool.and_eq_true] at c
 obtain ⟨⟨⟨⟨c1,c2⟩,c3⟩,c4⟩,c6⟩:=c
 have ef:f=g:=by simpa using c1
 subst ef
 subst hs
 obtain ⟨g1,g2,g3⟩:=gl_of c2
 obtain ⟨x,r,rfl⟩:=zaP c4
 have st:=zdU c3
 rw [List.all_cons,Bool.and_eq_true] at st
 obtain ⟨d,ed,io⟩:=zrQ c6
 obtain ⟨a,fd,m1,m2,m3,m4⟩:=hy.fn f d ed (by unfold isTab; rw [io]; rfl)
 obtain ⟨w,e1,ev⟩:=bind_ok (show (evXs G Fnc args ρ).bind _=_ from ev)
 obtain ⟨rr,e2,ev⟩:=bind_ok ev
 obtain ⟨rd,outs⟩:=rr
 obtain ⟨z,ev⟩:=zae ev
 cases ev
 refine we_of (pe_callS m4 hy.room g1 m1 m2 m3 (fun σ=>passAt tk σ) pa_wa g2 (zab st.1) (zao st.2)) (ha hy tk rfl c3 I e1 fun vs H1 g=>?_)
 refine ⟨w.1,PPa F A,[],Nix,by rw [io]; exact zbS g.rep,by rw [<- g.rep.length]; exact hy.flen f d w.1 ed (by rw [e2]; intro z; cases z),?_⟩
 rw [e2]
 intro v H' x rv fr _ _
 have xn:Ext Nix H1 H':=x.mono fun b z=>by cases z
 refine k v H' ⟨g.env.step xn,g.ext.trans xn.nix,rv.weak fun b z=>?_⟩
 rcases z.1 with z | z
 ·exact z
 ·exact g.env.newP z
theorem zbt {i:Nat}:∀ {is:List Nat} {ds:List D} {ρ:Env},i ∉ is -> (zar is ds ρ)[i]?=ρ[i]?
 | [],ds,ρ,_=>by cases ds <;> rfl
 | j :: is,[],ρ,_=>rfl
 | j :: is,d :: ds,ρ,h=>by
  have h':i ≠ j /\ i ∉ is:=by simpa using h
  show (zar is ds (ρ.set j (some d)))[i]?=_
  rw [zbt h'.2,List.getElem?_set_ne (Ne.symm h'.1)]
theorem zmE {tg:Tg} {d:D} {ρ ρ':Env} {i:Nat} (e:setT tg d ρ=.ok ρ') (h:i ∉ zan tg):ρ'[i]?=ρ[i]?:=by
  cases tg with
  | one j =>
    cases e
    exact List.getElem?_set_ne fun z=>h (by simp [zan,z])
  | many is =>
    cases d <;> (try (cases e; done)) <;>
      (obtain ⟨w,e⟩:=zae (show R.when _ _=_ from e)
       cases e
       exact zbt h)
section
variable {K:PySem.W.Frag} {F:Fx} {O:List Nat} {A:Addr -> Prop} {σ:St} {ρ:Env} {H H1 H':Hp}
theorem zjF {P:Addr -> Prop} {a:Addr} {xs ys:List V} (h:H a=some (.lst xs)) (np:∀ b,P b -> b ≠ a):Le P P H (upd H a (.lst ys)) :=
 ⟨fun b u hu e=>by
  by_cases c:b=a
  ·subst c; rw [h] at e; cases e; cases hu
  ·rw [upd_ne c]; exact e,fun b u _ p r=>by
  have c:=np b p
  rcases r with r | ⟨ob,r⟩
  ·exact .inl (by rw [upd_ne c]; exact r)
  ·exact .inr ⟨ob,by rw [upd_ne c]; exact r⟩,fun b u _ p _=>p⟩
theorem zmF {a:Addr} {xs ys:List V} (I:EnvR K F O A σ ρ H) (hA:A a) (ns:¬ Sl O σ ρ a) (ha:H a=some (.lst xs)):EnvR K F O A σ ρ (upd H a (.lst ys)):=by
 have np:∀ b,PPa F A b -> b ≠ a:=fun b p z=>p.2 (by rw [z]; exact hA)
 have lw:Le (PPa F A) (PPa F A) H (upd H a (.lst ys)):=zjF ha np
 refine ⟨I.len,fun b ob e n=>?_,fun i d e=>?_,I.inj,fun b hb=>?_,I.aF,I.io⟩
 ·have c:b ≠ a:=fun z=>by
   subst z
   rcases I.aF b hA with z | z
   ·obtain ⟨_,j,d,_,h3,h4,h5,h6⟩:=I.io b z
    exact ns ⟨j,h3,mutAt_iff.mpr ⟨d,h4,h5⟩,h6⟩
   ·rw [z] at e; cases e
  rw [upd_ne c]; exact I.ext b ob e n
 ·obtain ⟨v,ev,s⟩:=I.val i d e
  refine ⟨v,ev,?_⟩
  unfold Slot at s ⊢
  by_cases w:(O.contains i && d.mut)=true
  ·rw [if_pos w] at s ⊢
   obtain ⟨b,rfl,hb,ob⟩:=s
   have w':=w
   rw [Bool.and_eq_true] at w'
   have c:b ≠ a:=fun z=>ns ⟨i,w'.1,mutAt_iff.mpr ⟨d,e,w'.2⟩,by rw [ev,z]⟩
   exact ⟨b,rfl,hb,ob.mono lw fun u eu mu=>by rw [upd_ne c]; exact eu⟩
  ·rw [if_neg w] at s ⊢
   exact s.mono lw
 ·by_cases c:b=a
  ·subst c; exact ⟨_,upd_same,rfl⟩
  ·rw [upd_ne c]; exact I.aM b hb
theorem zmG {S own:List Nat} {ρn:Env} {a:Addr} (I:EnvR K F O A σ ρ H1) (ho:∀ i ∈ own,O.contains i=false) (hS:∀ i ∈ S,i ∉ own) (J:EnvR K F O (fun b=>A b \/ b=a) (wipe σ own) (wipeD ρn own) H) (x:Ext (Sl O σ ρ) H1 H) (ch:Chg S ρ ρn):EnvR K F O A σ ρn H:=by
 have so:∀ {i:Nat},i ∉ own -> (wipe σ own)[i]?=σ[i]?:=fun {i} c=>by rw [zbr,if_neg c]
 have ro:∀ {i:Nat},i ∉ own -> (wipeD ρn own)[i]?=ρn[i]?:=fun {i} c=>by rw [za2,if_neg c]
 have nown:∀ {i:Nat},O.contains i=true -> i ∉ own:=fun {i} c m=>by rw [ho i m] at c; cases c
 have wk:∀ b,PPa F (fun b=>A b \/ b=a) b -> PPa F A b:=fun b z=>(zjA z).1
 refine ⟨I.len.trans ch.len.symm,J.ext,fun i d e=>?_,fun i j b di dj hi hj ei ej mi mj si sj=>?_,fun b m=>J.aM b (.inl m),I.aF,fun b m=>?_⟩
 ·by_cases c:i ∈ own
  ·have e0:ρ[i]?=some (some d):=by rw [<- ch.off (fun z=>hS i z c)]; exact e
   obtain ⟨v,ev,s⟩:=I.val i d e0
   refine ⟨v,ev,?_⟩
   unfold Slot at s ⊢
   rw [ho i c,Bool.false_and,if_neg Bool.false_ne_true] at s ⊢
   exact s.ext x fun b z w=>z.2 (I.slA w)
  ·obtain ⟨v,ev,s⟩:=J.val i d (by rw [ro c]; exact e)
   rw [so c] at ev
   refine ⟨v,ev,?_⟩
   unfold Slot at s ⊢
   by_cases w:(O.contains i && d.mut)=true
   ·rw [if_pos w] at s ⊢
    obtain ⟨b,rfl,_,ob⟩:=s
    have w':=w
    rw [Bool.and_eq_true] at w'
    exact ⟨b,rfl,I.slA ⟨i,w'.1,ch.mutAt (mutAt_iff.mpr ⟨d,e,w'.2⟩),ev⟩,zep wk ob⟩
   ·rw [if_neg w] at s ⊢
    exact s.weak wk
 ·exact J.inj i j b di dj hi hj (by rw [ro (nown hi)]; exact ei) (by rw [ro (nown hj)]; exact ej) mi mj (by rw [so (nown hi)]; exact si) (by rw [so (nown hj)]; exact sj)
 ·obtain ⟨_,j,d,h2,h3,h4,h5,h6⟩:=J.io b m
  exact ⟨(I.io b m).1,j,d,h2,h3,by rw [<- ro (nown h3)]; exact h4,h5,by rw [<- so (nown h3)]; exact h6⟩
theorem zpG {own:List Nat} {p:Nat} {J:L2.It} {xs r:List D} {ρn:Env} {tg:Tg} {body:Env -> R (D × Env)} {te:TE} {Q:VK}
  (I:EnvR K F O A σ ρ H1) (ho:∀ i ∈ own,O.contains i=false) (ht:∀ i ∈ zan tg,i ∈ own) (hp:O.contains p=true) (it:ItOK K F A A H1 J xs) (hz:r.length <= sizeLine) (ev:lcX tg own p body xs ρ=.ok (r,ρn))
  (hb:∀ {ρ:Env} {q:D × Env},body ρ=.ok q -> Chg [p] ρ q.2)
  (step:∀ {A':Addr -> Prop} {σ2:St} {ρ2:Env} {H2:Hp} {q:D × Env} {Rr:VK},EnvR K F O A' σ2 ρ2 H2 -> body ρ2=.ok q -> (∀ v H4,GotX K F A' O σ2 ρ2 H2 H4 q v -> Rr v H4) -> te σ2 H2 Rr)
  (q:∀ v H',EnvR K F O A σ ρn H' -> Ext (Sl O σ ρ) H1 H' -> Rep K H' (PPa F A) (.lst r) v -> Q v H') :
  ∀ D,H1 D=none -> ∃ W:Nat -> Nat -> Hp -> Prop,(∃ m,W 0 m (upd H1 D (.lst []))) /\ ∀ i m H,W i m H →
   (J.stop i H /\ Q (.ref D) H) \/ (J.go i H /\ ∃ Nx:Hp -> Prop,(∀ H',Nx H' -> ∃ m',m' < m /\ W (i+1) m' H') /\ ∀ x H',J.yld i H x H' -> gTg K tg x (wipe σ own) H' fun σ2 H2=>wipe σ2 own=wipe σ own /\ tYes σ2 H2 fun b H3 =>
    if b=true then te σ2 H3 fun y H4=>∃ acc,H4 D=some (.lst acc) /\ acc.length < sizeLine /\ Nx (upd H4 D (.lst (acc ++ [y]))) else Nx H3):=by
 intro D hD
 have nown:∀ {i:Nat},O.contains i=true -> i ∉ own:=fun {i} c m=>by rw [ho i m] at c; cases c
 have hpo:p ∉ own:=nown hp
 have nD:¬ Sl O σ ρ D:=fun z=>by
  obtain ⟨o,e,_⟩:=I.aM D (I.slA z)
  rw [hD] at e; cases e
 refine ⟨fun i m H=>m=xs.length - i /\ i <= xs.length /\ ∃ ρi ad acc r',EnvR K F O (fun b=>A b \/ b=D) (wipe σ own) (wipeD ρi own) H /\ Ext (Sl O σ ρ) H1 H /\ Chg [p] ρ ρi /\ H D=some (.lst acc) /\ Reps K H (PPa F fun b=>A b \/ b=D) ad acc /\ lcX tg own p body (xs.drop i) ρi=.ok (r',ρn) /\ ad ++ r'=r,
  ⟨xs.length,by simp,Nat.zero_le _,ρ,[],[],r,zbs (zce I ho) hD (fun b o e=>by rw [upd_ne (ne_of_none e hD)]; exact e) upd_same rfl,Ext.new hD,.refl,upd_same,.nil,by simpa using ev,rfl⟩,?_⟩
 rintro i m H ⟨rfl,hi,ρi,ad,acc,r',Ii,x1,ch,hDD,rep,evr,er⟩
 by_cases hlt:i < xs.length
 ·refine .inr ?_
  have ex:xs[i]?=some xs[i]:=List.getElem?_eq_getElem hlt
  obtain ⟨go,yl⟩:=it.go H (fun b=>A b \/ b=D) (x1.mono fun b z=>I.slA z) (fun b z=>z.imp id fun z=>by rw [z]; exact hD) i xs[i] ex
  refine ⟨go,fun H'=>∃ ρi ad acc r',EnvR K F O (fun b=>A b \/ b=D) (wipe σ own) (wipeD ρi own) H' /\ Ext (Sl O σ ρ) H1 H' /\ Chg [p] ρ ρi /\ H' D=some (.lst acc) /\ Reps K H' (PPa F fun b=>A b \/ b=D) ad acc /\ lcX tg own p body (xs.drop (i+1)) ρi=.ok (r',ρn) /\ ad ++ r'=r,
   fun H' w=>⟨xs.length - (i+1),by omega,rfl,hlt,w⟩,fun x H' y=>?_⟩
  obtain ⟨x2,rx⟩:=yl x H' y
  rw [List.drop_eq_getElem_cons hlt] at evr
  obtain ⟨ρ1,e1,evr⟩:=bind_ok (show (setT tg xs[i] (wipeD ρi own)).bind _=_ from evr)
  obtain ⟨w,e2,evr⟩:=bind_ok evr
  obtain ⟨r2,e3,evr⟩:=bind_ok evr
  cases evr
  refine zcU (Ii.step x2) rx e1 (fun j hj=>ho j (ht j hj)) fun σ2 I2 fr=>⟨zdk fr ht,?_⟩
  have c1:=hb e2
  have at1:∀ {j:Nat},j ∉ own -> ρ1[j]?=ρi[j]?:=fun {j} c=>by rw [zmE e1 fun z=>c (ht j z),za2,if_neg c]
  have as2:∀ {j:Nat},j ∉ own -> σ2[j]?=σ[j]?:=fun {j} c=>by rw [fr.off j fun z=>c (ht j z),zbr,if_neg c]
  have hsl:∀ b,Sl O σ2 ρ1 b -> Sl O σ ρ b:=fun b ⟨j,h1,h2,h3⟩=>⟨j,h1,ch.mutAt (by rw [<- zcf (at1 (nown h1))]; exact h2),by rw [<- as2 (nown h1)]; exact h3⟩
  have nD2:¬ Sl O σ2 ρ1 D:=fun z=>nD (hsl D z)
  simp only [tYes,↓reduceIte]
  refine step I2 e2 fun v H4 g=>?_
  have hD4:H4 D=some (.lst acc):=g.ext D _ (x2.all hDD) fun _=>nD2
  have hl:ad.length=acc.length:=rep.length
  have hr:r.length=ad.length+(1+r2.1.length):=by rw [<- er]; simp; omega
  have nP:∀ b,PPa F (fun b=>A b \/ b=D) b -> b ≠ D:=fun b z w=>z.2 (.inr w)
  have lw:Le (PPa F fun b=>A b \/ b=D) (PPa F fun b=>A b \/ b=D) H4 (upd H4 D (.lst (acc ++ [v]))):=zjF hD4 nP
  refine ⟨acc,hD4,by omega,zbY ρi w.2 p,ad ++ [w.1],acc ++ [v],r2.1,?_,fun b o e n=>?_,(ch.trans (zg6 (ρ2:=w.2))).mono fun i h=>by simpa using h,upd_same,?_,e3,by rw [<- er]; simp⟩
  ·have I4:=zce (zmF (ys:=acc ++ [v]) g.env (.inr rfl) (fun z=>nD2 (c1.sl z)) hD4) ho
   rw [zdk fr ht] at I4
   have ew:wipeD w.2 own=wipeD (zbY ρi w.2 p) own:=by
    have ln:(zbY ρi w.2 p).length=ρi.length:=by unfold zbY; split <;> simp
    have l1:ρ1.length=ρi.length:=by
     have a1:=I2.len
     have a2:=(Ii.step x2).len
     rw [zbC] at a2
     have a3:=fr.len
     omega
    apply List.ext_getElem?
    intro j
    rw [za2,za2]
    by_cases c:j ∈ own
    ·rw [if_pos c,if_pos c,ln,c1.len,l1]
    ·rw [if_neg c,if_neg c]
     rcases c1.was j with e | ⟨m1,m2,m3⟩
     ·rw [e,at1 c]
      unfold zbY
      split
      ·rename_i z
       by_cases cj:p=j
       ·subst cj
        rw [Bool.and_eq_true] at z
        obtain ⟨d,ed,_⟩:=mutAt_iff.mp z.1
        rw [List.getElem?_set_self (List.getElem?_eq_some_iff.mp ed).1]
        have e5:w.2[p]?=some (some d):=by rw [e,at1 c]; exact ed
        unfold getO
        rw [e5,ed]; rfl
       ·rw [List.getElem?_set_ne cj]
      ·rfl
     ·have ej:j=p:=by simpa using m1
      subst ej
      have z1:mutAt ρi j=true:=by rw [<- zcf (at1 c)]; exact m2
      unfold zbY
      rw [z1,m3,Bool.and_self,if_pos rfl]
      obtain ⟨d,ed,_⟩:=mutAt_iff.mp z1
      obtain ⟨d2,ed2,_⟩:=mutAt_iff.mp m3
      rw [List.getElem?_set_self (List.getElem?_eq_some_iff.mp ed).1]
      unfold getO
      rw [ed2]; rfl
   rw [ew] at I4
   exact I4
  ·have e0:=x2.all (x1 b o e n)
   rw [upd_ne (ne_of_none e hD)]
   exact g.ext b o e0 fun mo z=>n mo (hsl b z)
  ·have r1:=(rep.ext x2 fun _ _ z=>z).ext g.ext fun b z w=>z.2 (I2.slA w)
   exact (r1.append (.cons g.rep .nil)).mono lw
 ·have ei:i=xs.length:=by omega
  have hdr:xs.drop i=[]:=List.drop_eq_nil_iff.mpr (by omega)
  rw [hdr] at evr
  cases evr
  have:ad=r:=by simpa using er
  subst this
  refine .inl ⟨it.stop H (x1.mono fun b z=>I.slA z) i (by omega),q _ _ (zmG I ho (fun i h=>by rw [show i=p by simpa using h]; exact hpo) Ii x1 ch) x1 (.lst (.inl hDD) (I.newP hD) (rep.weak fun b z=>(zjA z).1))⟩
end
theorem zrR {X:Cx} {scope:Scope} {e:Expr} {m:Xp} {sc:Scope} {O:List Nat} {G:Str -> Option D} {Fnc:Fn} {n:Nat} {cls:Str -> Option Addr} {F:Fx} {A:Addr -> Prop} {σ:St} {ρ:Env} {H:Hp} {Q:VK} {q:D × Env} (hm:SndX T m) (hy:Hy X T G Fnc n cls) (hs:X.env.scope=sc) (c:chkX X.N T (relS scope sc) O m e=true) (I:EnvR X.K F O A σ ρ H)
  (e1:evX G Fnc m ρ=.ok q) (k:∀ v H',GotX X.K F A O σ ρ H H' q v -> Q v H'):BE X scope e σ H Q:=fun s H0 C cl fp =>
 hm (X:=X.blk s H0 scope (compEnvC scope cl C X.env) fp) (W:=W0) (za3 hy s H0 scope C cl fp) ze0 (by subst hs; rfl) c I e1 k
theorem lcx_t {elt:Xp} {tg:Tg} {it:It} {own:List Nat} {j:Nat} (he:SndX T elt) {X:Cx} {x tgx itx:Expr} {scope:Scope} {p:Pos} {O:List Nat} {G:Str -> Option D} {Fnc:Fn} {n:Nat} {cls:Str -> Option Addr} {W:WX} {F:Fx} {A:Addr -> Prop} {σ:St} {ρ:Env} {H:Hp} {Q:VK} {q:D × Env}
  (hy:Hy X T G Fnc n cls) (tk:Takes X W) (c:chkX X.N T X.env.scope O (.lc elt tg it own j) (.ListComp x [⟨tgx,itx,[],0⟩] scope p)=true) (I:EnvR X.K F O A σ ρ H)
  (ev:evX G Fnc (.lc elt tg it own j) ρ=.ok q) (k:∀ v H',GotX X.K F A O σ ρ H H' q v -> Q v H') :
  BlkOk X.N X.env.scope scope (ownP X.N own) /\ (∀ x,foldedSetIterable itx X.env x=pure x) /\ (∀ (s:Shared) (H:Hp) (C:Addr) (cl:List (Str × Addr)) (fp:List Addr),PG (X.blk s H scope (compEnvC scope cl C X.env) fp) tgx (gTg X.K tg)) ∧
  tLc (WI X tgx itx) (gTg X.K tg) tYes (BE X scope x) ((ownP X.N own).map (·.2)) σ H Q:=by
 rw [chkX] at c
 simp only [Bool.and_eq_true] at c
 obtain ⟨⟨⟨⟨⟨⟨⟨⟨c1,c2⟩,c3⟩,c4⟩,c5⟩,c6⟩,c7⟩,c8⟩,c9⟩:=c
 obtain ⟨bk,eo⟩:=ze1 c2
 have ho:∀ i ∈ own,O.contains i=false:=fun i hi=>by
  have:=List.all_eq_true.mp c3 i hi
  simpa using this
 have hset:∀ x,foldedSetIterable itx X.env x=pure x:=zaX (zbp c1)
 have hsl:∀ i ∈ slX elt,i ∈ [j]:=fun i hi=>by
  have:=List.all_eq_true.mp c8 i hi
  simpa using this
 obtain ⟨xs,e1,ev⟩:=bind_ok (show (evI G Fnc it ρ).bind _=_ from ev)
 obtain ⟨w,e2,ev⟩:=bind_ok ev
 obtain ⟨hz,ev⟩:=zae ev
 cases ev
 obtain ⟨r,ρn⟩:=w
 refine ⟨bk,hset,fun s H C cl fp=>pg_tg (za3 hy s H scope C cl fp).calm (za3 hy s H scope C cl fp).nd (zdl rfl s H scope C cl fp) c5,?_⟩
 rw [eo]
 refine (allI it) hy tk rfl c1 I ?_
 rw [e1]
 refine fun J H1 x1 itok=>?_
 have I1:=I.step x1
 refine zpG (body:=evX G Fnc elt) I1 ho (tg_in c4) c7 (itok A (fun _ z=>z) (.inr (by simpa using c9))) (of_decide_eq_true hz) e2 (fun {ρ q} e=>(zcF e).mono hsl) (fun {A' σ2 ρ2 H2 q Rr} I2 eb kk=>zrR he hy rfl c6 I2 eb kk) fun v H' I' x2 rr=>k v H' ⟨I',x1.nix.trans x2,rr⟩
theorem zpH {elt:Xp} {tg:Tg} {it:It} {own:List Nat} {j:Nat} (he:SndX T elt):SndX T (.lc elt tg it own j):=by
 intro X e sc O G Fnc n cls W F A σ ρ H Q q hy tk hs c I ev k
 cases e <;> (try (simp [chkX] at c; done))
 rename_i x gs scope p
 match gs,c with
 | [⟨tgx,itx,[],0⟩],c =>
  subst hs
  obtain ⟨bk,hset,pg,t⟩:=lcx_t he hy tk c I ev k
  exact we_of (pe_lc (g:=gTg X.K tg) hy.calm hy.nd pi_wi bk pg (fun _ _ _ _ _=>pts_nil) (fun s H C cl fp=>pe_be s H C cl fp) hset) t
theorem zjG {op:COp} {a:Xp} {b:E} (ha:SndX T a):SndX T (.cmpX op a b):=by
 intro X e sc O G Fnc n cls W F A σ ρ H Q q hy tk hs c I ev k
 cases e <;> (try (simp [chkX] at c; done))
 rename_i x os ys p
 match os,ys,c with
 | [o],[y],c =>
  rw [chkX] at c
  simp only [Bool.and_eq_true] at c
  obtain ⟨⟨⟨c1,c4⟩,c2⟩,c3⟩:=c
  have:=zas c1
  subst this
  obtain ⟨w,e1,ev⟩:=bind_ok (show (evX G Fnc a ρ).bind _=_ from ev)
  obtain ⟨z,e2,ev⟩:=bind_ok ev
  obtain ⟨d,e3,ev⟩:=bind_ok ev
  cases ev
  refine we_of (pe_cmpR op_om pe_we pe_we (zaS c4)) (ha hy tk hs c2 I e1 fun v H1 g=>?_)
  refine (allE b).1 hy tk hs c3 g.env ?_
  rw [e2]
  refine fun u H2 g2=>?_
  exact za9 hy.hu (.inl (g.rep.ext g2.ext fun _ _ z=>z)) g2.top e3 (k _ H2 ⟨g.env.step g2.ext,g.ext.trans g2.ext.nix,.bl _⟩)
def zpI (td ty tx:TE):TE:=fun σ H Q=>td σ H fun x H1=>∃ a,x=.ref a /\ IsD H1 a /\ ty σ H1 fun y H2=>tx σ H2 fun z H3=>∃ (kvs:List (List Key × V)) (k:List Key) (b:Addr),H3 a=some (.dT kvs) /\ y=.ref b /\ H3 b=some (.tup (k.map kV)) /\ kvs.length < sizeLine ∧
 (∀ v,valV kvs k=some v -> Q v H3) /\ (valV kvs k=none -> Q z (upd H3 a (.dT (putK kvs k z))))
theorem zjH {X:Cx} {o e f:Expr} {td ty tx:TE} {apos cpos:Pos} (hu:X.A.units+1 < cLine) (ho:PE X o td) (he:PE X e ty) (hf:PE X f tx) (m:M2 X o "setdefault" apos e f cpos):PE X (.Call (.Attribute o "setdefault" apos) [e,f] [] cpos) (zpI td ty tx):=by
 refine ⟨fun pins s σ H Q I h=>?_⟩
 refine wpAny_Call_method m.base m.few m.line PySem.F.plainAttrs_dict PySem.F.slot_dict_setdefault PySem.F.type_dict_setdefault (thn (ho.run pins s σ H _ I h) fun u s1 ⟨x,H1,I1,rx,a,ex,d,q1⟩=>?_)
 subst ex
 obtain rfl:u=Value.ref a:=rx
 obtain ⟨t1,t2,_⟩:=isD_at I1 d
 refine ⟨t1,t2,?_⟩
 rw [m.trees]
 refine Calls.callWith_builtin rfl (Calls.evalArgs_plain (Calls.spliced_cons (thn (he.run pins s1 σ H1 _ I1 q1) fun iv s2 ⟨y,H2,I2,ry,q2⟩ =>
  Calls.spliced_cons (thn (hf.run pins s2 σ H2 _ I2 q2) fun fv s3 ⟨z,H3,I3,rz,kvs,k,b,ea,ey,eb,hl,q3,q4⟩=>Calls.spliced_nil ?_))))
 subst ey
 cases (show iv=Value.ref b from ry)
 obtain ⟨zz,hd,xs,rel,dd⟩:=dt_of I3.hok ea
 have hz:xs.length <= sizeLine:=by rw [<- Paired.length rel]; exact zz
 have rv:=rel.val k
 refine PySem.call_setdefault_heap (hsz:=hz) (tupleKind_room_in1 hu) (key_of I3.hok eb) hd dd (fun p hp=>?_) fun hn h' dd' hs=>?_
 ·rw [hp] at rv
  cases q0:valV kvs k with
  | none=>rw [q0] at rv; exact (show False from rv).elim
  | some v0 =>
   rw [q0] at rv
   exact ⟨v0,_,I3.tok _,rv,q3 v0 q0⟩
 ·rw [hn] at rv
  cases q0:valV kvs k with
  | some v0=>rw [q0] at rv; exact (show False from rv).elim
  | none =>
   have hl2:(putK kvs k z).length <= sizeLine:=by have:=length_putK kvs k z; omega
   obtain ⟨qo,es,ep,hq,h2,h3,h4,_,h5⟩:=dd'
   refine ⟨z,_,d_write (t':=s3.toks+_) (ob:=.dT (putK kvs k z)) I3 (by rw [ea]; exact True.intro) hs ⟨qo,hq⟩ ⟨hl2,hd,_,(rel.put k eb rz).keeps fun c ys ec=>?_,qo,es,ep,hq,h2,h3,h4,h5⟩,rz,q4 q0⟩
   rw [upd_ne (ne_of ec ea (fun z=>nomatch z))]
   exact ec
theorem zjI {p:Nat} {k v:E}:SndX T (.setd p k v):=by
 intro X e sc O G Fnc n cls W F A σ ρ H Q q hy tk hs c I ev kk
 cases e <;> (try (simp [chkX] at c; done))
 rename_i fe xs kws pos
 cases fe <;> (try (simp [chkX] at c; done))
 rename_i ox m apos
 cases ox <;> (try (simp [chkX] at c; done))
 rename_i x px
 match xs,kws,c with
 | [y,z],[],c =>
  rw [chkX] at c
  simp only [Bool.and_eq_true] at c
  obtain ⟨⟨⟨⟨⟨⟨⟨c1,c2⟩,c3⟩,c4⟩,c5⟩,c6⟩,c7⟩,c8⟩:=c
  have em:m="setdefault":=by simpa using c1
  subst em
  subst hs
  obtain ⟨v1,v2,v3⟩:=zbw c3
  obtain ⟨o,e1,ev1⟩:=bind_ok (show (getV ρ p).bind _=_ from ev)
  obtain ⟨dk,e2,ev2⟩:=bind_ok ev1
  obtain ⟨dv,e3,ev3⟩:=bind_ok ev2
  obtain ⟨w,e4,ev4⟩:=bind_ok ev3
  obtain ⟨cm,ev5⟩:=zae ev4
  clear ev4 ev3 ev2 ev1 ev
  cases ev5
  have eo:ρ[p]?=some (some o):=by
   unfold getV at e1
   split at e1
   ·cases e1; assumption
   ·cases e1
  cases o <;> (try (cases e4; done))
  rename_i kvs
  cases dk <;> (try (cases e4; done))
  rename_i ks
  obtain ⟨w1,e40⟩:=zae (show R.when _ _=_ from e4)
  obtain ⟨key,e5,e6⟩:=bind_ok e40
  have ek:=of_ok e5
  obtain ⟨a,ea,hA,ws,hw,hk,rr⟩:=I.own eo c4 rfl
  have s1:=zaa _ _ c5
  have s2:=zaa _ _ c6
  have eb:backTo pos (starEach [y,z] X.env)=[(false,eval y X.env),(false,eval z X.env)]:=by
   rw [zab s1,zab s2]; rfl
  have mm:M2 X (.Name x px) "setdefault" apos y z pos:=⟨zaD rfl,zbx (by rw [List.all_cons,s1,List.all_cons,s2]; rfl) (by simp),c8,eb⟩
  refine we_of (zjH (by have:=hy.hu; omega) (pe_var (by simpa using c2) v1 v2 v3) pe_we pe_we mm) ⟨.ref a,ea,a,rfl,.inr ⟨ws,.inl hw⟩,?_⟩
  refine (allE k).1 hy tk rfl c5 I ?_
  rw [e2]
  refine fun u H1 g1=>?_
  have I1:=I.step g1.ext
  refine (allE v).1 hy tk rfl c6 I1 ?_
  rw [e3]
  refine fun t H2 g2=>?_
  have I2:=I1.step g2.ext
  have x2:=g1.ext.trans g2.ext
  have hw2:H2 a=some (.dT ws):=x2.all hw
  obtain ⟨b,vs,rfl,hb,rb⟩:=(g1.top.ext g2.ext).tup
  have:=zbf rb ek
  subst this
  have rr2:=rr.ext x2 fun _ _ z=>z
  have rt:Rep X.K H2 (PPa F A) dv t:=g2.rep (by simpa using c7)
  have hlen:kvs.length=ws.length:=by have:=congrArg List.length hk; simpa using this
  have rl:=zcZ key hk rr2
  refine ⟨ws,key,b,hw2,rfl,hb,by rw [<- hlen]; exact of_decide_eq_true w1,fun v hv=>?_,fun hn=>?_⟩
  ·rw [hv] at rl
   cases el:look kvs key with
   | none=>rw [el] at rl; exact rl.elim
   | some d =>
    rw [el] at rl e6
    cases e6
    refine kk v H2 ⟨?_,x2.nix,rl⟩
    refine zjz I2 c4 eo rfl ea (fun b o e _=>e) ⟨ws,hw2,hk,rr2⟩
  ·rw [hn] at rl
   cases el:look kvs key with
   | some d=>rw [el] at rl; exact rl.elim
   | none =>
    rw [el] at e6
    cases e6
    have np:∀ b,PPa F A b -> b ≠ a:=fun b p z=>p.2 (by rw [z]; exact hA)
    have xx:Ext (fun b=>b ∈ [a]) H2 (upd H2 a (.dT (putK ws key t))):=fun b o e n=>by
     rw [upd_ne (fun z=>n (by cases o <;> first | rfl | (subst z; rw [hw2] at e; cases e)) (by simp [z]))]; exact e
    have lw:Le (PPa F A) (PPa F A) H2 (upd H2 a (.dT (putK ws key t))):=xx.le fun b p z=>np b p (List.mem_singleton.mp z)
    refine kk t _ ⟨zjz I2 c4 eo rfl ea xx ⟨_,upd_same,zbN key dv t hk,(zbO key rt hk rr2).mono lw⟩,x2.nix.trans (xx.mono fun c z=>?_),rt.mono lw⟩
    rw [List.mem_singleton.mp z]
    exact ⟨p,c4,mutAt_iff.mpr ⟨_,eo,rfl⟩,ea⟩
mutual
theorem allX:∀ m:Xp,SndX T m
 | .pure e=>zjB e
 | .call f args k p=>zjE
 | .callF f args k=>zhR
 | .callP f args im=>zhS (allXs args)
 | .tup xs=>zmC (allXs xs)
 | .tupOf x=>zhQ (allX x)
 | .lc x tg it own p=>zpH (allX x)
 | .bin op a b=>zmD (allX a)
 | .setd p k v=>zjI
 | .cmpX op a b=>zjG (allX a)
theorem allXs:∀ m:Xps,SndXs T m
 | .nil=>zjC
 | .cons x r=>zhP (allX x) (allXs r)
end
end
end L2.Pf
namespace L2.Pf
open PySem PySem.Spec PyProof.Rows
def WS (X:Cx) (st:Stmt):TS:=fun D σ H=>∀ (pins:List (Addr × Obj)) (s:Shared),Inv X pins σ H s -> wpAny (model X.prog X.w) X.A (exec st X.env) (SP X pins D) X.xe s
theorem ps_ws {X:Cx} {st:Stmt}:PS X st (WS X st):=⟨fun pins s σ H D I h=>h pins s I⟩
theorem ws_of {X:Cx} {st:Stmt} {t:TS} {D:Ends} {σ:St} {H:Hp} (h:PS X st t) (q:t D σ H):WS X st D σ H:=fun pins s I=>h.run pins s σ H D I q
def WSs (X:Cx) (st:List Stmt):TS:=fun D σ H=>∀ (pins:List (Addr × Obj)) (s:Shared),Inv X pins σ H s -> wpAny (model X.prog X.w) X.A (execs st X.env) (SP X pins D) X.xe s
theorem zai {X:Cx} {st:List Stmt}:PSs X st (WSs X st):=⟨fun pins s σ H D I h=>h pins s I⟩
theorem zay {X:Cx} {st:List Stmt} {t:TS} {D:Ends} {σ:St} {H:Hp} (h:PSs X st t) (q:t D σ H):WSs X st D σ H:=fun pins s I=>h.run pins s σ H D I q
def PF (F:Fx) (b:Addr):Prop:=(F.P0 b \/ F.H0 b=none) /\ b ∉ F.IO
structure RetOK (K:PySem.W.Frag) (F:Fx) (fresh:Bool) (σ0:St) (d:D) (ρ:Env) (v:V) (H':Hp):Prop where
 ext:Ext (fun b=>b ∈ F.IO) F.H0 H'
 rep:Rep K H' (PF F) d v
 new:fresh=true -> FreshR K F.H0 H' (PF F) d v
 io:∀ i ∈ F.ios,∀ (o:D) (a:Addr),ρ[i]?=some (some o) -> o.mut=true -> σ0[i]?=some (some (.ref a)) -> OwnAt K H' (PF F) a o
structure Ev (A:Addr -> Prop) (H:Hp) (A':Addr -> Prop) (H':Hp):Prop where
 ext:Ext A H H'
 sub:∀ b,A' b -> A b \/ H b=none
 per:∀ b,H' b=none -> H b=none
def FrIO (F:Fx) (σ0 σ:St):Prop:=∀ i ∈ F.ios,σ[i]?=σ0[i]?
def WOK (cls:Str -> Option Addr) (W:WX) (F:Fx) (c:Str):Prop:=∀ C σ H',cls c=some C -> Ext (fun b=>b ∈ F.IO) F.H0 H' -> W (.ref C) none σ H'
section
variable (K:PySem.W.Frag) (F:Fx) (fresh:Bool) (σ0:St) (Ab:Addr -> Prop) (Hb:Hp)
def EnvAt (O:List Nat) (ρ:Env) (Nx:St -> Hp -> Prop):Prop:=∀ σ' H' A',EnvR K F O A' σ' ρ H' -> Ev Ab Hb A' H' -> FrIO F σ0 σ' -> Nx σ' H'
def PostS (On:Option (List Nat)) (OL:List Nat) (D:Ends):Fl × Env -> Prop
 | (.next,ρ)=>∀ O',On=some O' -> EnvAt K F σ0 Ab Hb O' ρ D.nx
 | (.brk,ρ)=>EnvAt K F σ0 Ab Hb OL ρ D.bk
 | (.cont,ρ)=>EnvAt K F σ0 Ab Hb OL ρ D.ct
 | (.ret d,ρ)=>∀ v H',RetOK K F fresh σ0 d ρ v H' -> D.rt v H'
end
section
variable {K:PySem.W.Frag} {F:Fx} {O:List Nat} {A A' Ab:Addr -> Prop} {σ σ0:St} {ρ:Env} {H H' Hb:Hp}
theorem Ev.refl:Ev A H A H:=⟨Ext.refl,fun _ z=>.inl z,fun _ z=>z⟩
theorem Ev.trans {A1 A2 A3:Addr -> Prop} {H1 H2 H3:Hp} (h:Ev A1 H1 A2 H2) (h2:Ev A2 H2 A3 H3):Ev A1 H1 A3 H3:=by
 refine ⟨fun b o e n=>?_,fun b z=>?_,fun b z=>h.per b (h2.per b z)⟩
 ·refine h2.ext b o (h.ext b o e n) fun m z=>?_
  rcases h.sub b z with z | z
  ·exact n m z
  ·rw [e] at z; cases z
 ·rcases h2.sub b z with z | z
  ·exact h.sub b z
  ·exact .inr (h.per b z)
theorem Ev.less (h:Ev Ab Hb A H) (s:∀ a,A' a -> A a):Ev Ab Hb A' H:=⟨h.ext,fun b z=>h.sub b (s b z),h.per⟩
theorem Ev.grow (h:Ev Ab Hb A H) (x:Ext Nix H H'):Ev Ab Hb A H':=⟨h.ext.trans x.nix,h.sub,fun b z=>h.per b (zaL x z)⟩
theorem Ev.own {a:Addr} (h:Ev Ab Hb A H) (x:Ext Nix H H') (n:H a=none):Ev Ab Hb (fun b=>A b \/ b=a) H' :=
 ⟨h.ext.trans x.nix,fun b z=>z.elim (h.sub b) fun z=>.inr (by rw [z]; exact h.per a n),fun b z=>h.per b (zaL x z)⟩
theorem Ev.write {a:Addr} {o:HO} (h:Ev Ab Hb A H) (m:A a) (hm:∀ o,H a=some o -> mutO o=true):Ev Ab Hb A (upd H a o):=by
 refine h.trans ⟨fun b u e n=>?_,fun _ z=>.inl z,fun b z=>?_⟩
 ·by_cases c:b=a
  ·subst c; exact absurd m (n (hm u e))
  ·rw [upd_ne c]; exact e
 ·by_cases c:b=a
  ·subst c; rw [upd_same] at z; cases z
  ·rw [upd_ne c] at z; exact z
theorem zah {xs ys:List Nat} (h:xs.all ys.contains=true) {i:Nat} (hi:i ∈ xs):ys.contains i=true:=List.all_eq_true.mp h i hi
theorem zav {O xs:List Nat} {i:Nat} (h:(less O xs).contains i=true):O.contains i=true /\ xs.contains i=false:=by
 unfold less at h
 obtain ⟨h1,h2⟩:=zaf h
 exact ⟨h1,by simpa using h2⟩
theorem EnvR.less (I:EnvR K F O A σ ρ H) (xs:List Nat) (hio:kpIO F.ios (less O xs)=true):∃ A',(∀ a,A' a -> A a) /\ EnvR K F (Pf.less O xs) A' σ ρ H :=
 I.drop (fun i=>!xs.contains i) fun i hi=>by
  have:=(zav (zah hio hi)).2
  rw [this]; rfl
theorem EnvR.cong {O2:List Nat} (I:EnvR K F O A σ ρ H) (h:∀ i,O2.contains i=O.contains i):EnvR K F O2 A σ ρ H :=
 ⟨I.len,I.ext,fun i d e=>by rw [h]; exact I.val i d e,fun i j a di dj hi hj=>I.inj i j a di dj (by rw [<- h]; exact hi) (by rw [<- h]; exact hj),I.aM,I.aF,fun a m=>by
  obtain ⟨h1,j,d,h2,h3,h4⟩:=I.io a m
  exact ⟨h1,j,d,h2,by rw [h]; exact h3,h4⟩⟩
theorem EnvR.to {O2:List Nat} (I:EnvR K F O A σ ρ H) (h:O2.all O.contains=true) (hio:kpIO F.ios O2=true):∃ A',(∀ a,A' a -> A a) /\ EnvR K F O2 A' σ ρ H:=by
 obtain ⟨A',s,I'⟩:=I.drop (fun i=>O2.contains i) fun i hi=>zah hio hi
 refine ⟨A',s,I'.cong fun i=>?_⟩
 cases e:O2.contains i with
 | true =>
  have h1:O.contains i=true:=zah h (by simpa using e)
  exact (zaj h1 e).symm
 | false =>
  cases w:(O.filter fun i=>O2.contains i).contains i with
  | false=>rfl
  | true=>rw [(zaf w).2] at e; cases e
theorem EnvR.addFlat (I:EnvR K F O A σ ρ H) {i:Nat} (fl:∀ d,ρ[i]?=some (some d) -> d.mut=false):EnvR K F (i :: O) A σ ρ H:=by
 have co:∀ j,j ≠ i -> (i :: O).contains j=O.contains j:=fun j hj=>by simp [hj]
 refine ⟨I.len,I.ext,fun j f h=>?_,fun j k a dj dk hj hk ej ek mj mk sj sk=>?_,I.aM,I.aF,fun a q=>?_⟩
 ·obtain ⟨v,e1,s⟩:=I.val j f h
  refine ⟨v,e1,?_⟩
  by_cases c:j=i
  ·subst c
   have m:=fl f h
   unfold Slot at s ⊢
   rw [m,Bool.and_false,if_neg Bool.false_ne_true] at s ⊢
   exact s
  ·rw [co j c]; exact s
 ·have c1:j ≠ i:=fun z=>by subst z; rw [fl dj ej] at mj; cases mj
  have c2:k ≠ i:=fun z=>by subst z; rw [fl dk ek] at mk; cases mk
  rw [co j c1] at hj
  rw [co k c2] at hk
  exact I.inj j k a dj dk hj hk ej ek mj mk sj sk
 ·obtain ⟨h1,j,d',h2,h3,h4⟩:=I.io a q
  exact ⟨h1,j,d',h2,by simp only [List.contains_cons,h3,Bool.or_true],h4⟩
theorem pf_of (I:EnvR K F O A σ ρ H) {b:Addr} (h:PPa F A b):PF F b:=⟨h.1,fun m=>h.2 (I.io b m).1⟩
theorem zaN (O xs:List Nat) (e:E):bareO (less O (topV e ++ xs)) e=false:=by
  cases e <;> first
    | rfl
    | (rename_i i
       show (less O ([i] ++ xs)).contains i=false
       cases c:(less O ([i] ++ xs)).contains i with
       | false=>rfl
       | true=>have:=(zav c).2; simp at this)
end
def ClsAt (mg:Str -> Option Value) (x:Str) (v:V) (cx:Value):Prop :=
 (∃ C:Addr,mg x=some (.ref C) /\ v=.ref C /\ cx=.ref C) \/ (mg x=none /\ bootBuiltins x=some cx /\ ∃ n,v=.ty n /\ cx=.type n)
structure HyS (X:Cx) (T:List Def) (EX:List Str) (G:Str -> Option D) (Fnc:Fn) (n:Nat) (cls:Str -> Option Addr) (W:WX):Prop extends Hy X T G Fnc n cls where
 tk:Takes X W
 po:PassesOwn (model X.prog X.w) X.A X.env X.xe
 tg:TgX X X.env.scope
 kind:X.env.scope.kind=.function
 tst:∀ x,(EX.contains x || x == ("ValueError":Str))=true -> ∃ v cx,ClsAt X.mg x v cx /\ ∀ c C,cls c=some C -> PySem.W.exmOne X.K (.ref C) cx=some (subC c x) /\ PySem.W.kitOne X.K (.ref C) cx=some (subC c x)
 excC:∀ c C,cls c=some C -> ExcC X.K C
 fr:X.stack=X.env :: X.outer /\ X.env.frame=some X.env.locals
 mks:∀ c,EX.contains c=true -> Gl X c -> (c == ("__debug__":Str))=false -> ∃ C:Addr,cls c=some C /\ ∀ (pn:List (Addr × Obj)) (xe:Value -> Shared -> Prop) (m:Str) (j:Nat) (p p2 pos:Pos),PMk (X.tr pn xe) (.Call (.Name c p) [.Constant (.str m) j p2] [] pos) (fun _ H Q=>Q (.ref C) none H)
section
variable (T:List Def)
def SndS (m:S):Prop:=∀ {X:Cx} {st:Stmt} {EX:List Str} {G:Str -> Option D} {Fnc:Fn} {n wf:Nat} {cls:Str -> Option Addr} {W:WX} {F:Fx} {fresh:Bool} {OL O:List Nat} {A Ab:Addr -> Prop} {σ0 σ:St} {ρ:Env} {H Hb:Hp} {D:Ends},
 HyS X T EX G Fnc n cls W -> chkS X.N T EX X.env.scope F.ios fresh OL O m st=true -> EnvR X.K F O A σ ρ H -> Ev Ab Hb A H -> FrIO F σ0 σ →
 PostR (PostS X.K F fresh σ0 Ab Hb (ownS T m O) OL D) (WOK cls W F) (evS G Fnc wf m ρ) -> WS X st D σ H
def SndSs (m:Ss):Prop:=∀ {X:Cx} {st:List Stmt} {EX:List Str} {G:Str -> Option D} {Fnc:Fn} {n wf:Nat} {cls:Str -> Option Addr} {W:WX} {F:Fx} {fresh:Bool} {OL O:List Nat} {A Ab:Addr -> Prop} {σ0 σ:St} {ρ:Env} {H Hb:Hp} {D:Ends},
 HyS X T EX G Fnc n cls W -> chkSs X.N T EX X.env.scope F.ios fresh OL O m st=true -> EnvR X.K F O A σ ρ H -> Ev Ab Hb A H -> FrIO F σ0 σ →
 PostR (PostS X.K F fresh σ0 Ab Hb (ownSs T m O) OL D) (WOK cls W F) (evSs G Fnc wf m ρ) -> WSs X st D σ H
end
theorem zap {K:PySem.W.Frag} {F:Fx} {O:List Nat} {A:Addr -> Prop} {σ σ1:St} {ρ:Env} {H:Hp} {cls:Str -> Option Addr} {W:WX} {c:Str} (I:EnvR K F O A σ ρ H) (h:WOK cls W F c):ExW cls W σ1 H c:=fun C H' e x=>h C σ1 H' e (I.ext.trans x.nix)
theorem zcg {a:Expr} {b:List Comprehension} {s:Scope} {q:Pos} {x:Str} {p:Pos} {l:Nat} {env:PySem.Env} (h:env.scope.kind=.function):swapsWith (.ListComp a b s q) (some (.Name x p)) l env=pure (swB env.scope x p (.ListComp a b s q)):=by
 have e1:env.blockKind=.function:=by
  unfold Env.blockKind
  rw [h]; rfl
 show (pure (env.blockKind == .function && env.kindOf x == some .local && p.line == (Expr.ListComp a b s q).pos.line && !(s.names.any fun (n,k)=>n == x && (k == .local || k == .cell))):Sem Bool)=_
 rw [e1]
 show _=(pure ((env.scope.kind == .function) && _ && _ && _):Sem Bool)
 rw [h]
 rfl
theorem zcV {N:List Str} {sc:Scope} {i:Nat} {x:Str} (h:locB N sc i x=true):N[i]?=some x /\ Loc sc x:=by
 unfold locB at h
 rw [Bool.and_eq_true] at h
 refine ⟨by simpa using h.1,?_⟩
 have h2:=h.2
 unfold Loc
 split at h2
 ·rename_i e; exact .inl e
 ·rename_i e; exact .inr e
 ·cases h2
theorem HyS.hf {X:Cx} {T:List Def} {EX:List Str} {G:Str -> Option D} {Fnc:Fn} {n:Nat} {cls:Str -> Option Addr} {W:WX} (hy:HyS X T EX G Fnc n cls W) {x:Str} (h:Loc X.env.scope x):X.fn x=true \/ X.env.scope.names.lookup x=some .local:=by
 rcases h with h | h
 ·exact .inr h
 ·exact .inl (hy.tg.cel x h).2
section
variable {T:List Def}
theorem ze9 {X:Cx} {EX:List Str} {G:Str -> Option D} {Fnc:Fn} {n:Nat} {cls:Str -> Option Addr} {W:WX} {F:Fx} {O:List Nat} {A:Addr -> Prop} {σ:St} {ρ:Env} {H:Hp} {D:Ends} {e:E} {v:Expr} {x:Str} {p pos:Pos} {i:Nat}
  (hy:HyS X T EX G Fnc n cls W) (hl:locB X.N X.env.scope i x=true) (c:chkE X.N T X.env.scope O e v=true) (hn:(zaO v || isLC v)=true) (I:EnvR X.K F O A σ ρ H)
  (h:PostR (fun d=>∀ u H',Got X.K F A O T e H H' d u -> D.nx (σ.set i (some u)) H') (ExW cls W σ H) (evE G Fnc e ρ)):WS X (.Assign [.Name x p] v pos) D σ H:=by
 obtain ⟨h1,h2⟩:=zcV hl
 by_cases nc:zaO v=true
 ·exact ws_of (ps_set hy.nd h1 h2 pe_we (zaI nc) (hy.hf h2)) ((allE e).1 hy.toHy hy.tk rfl c I h)
 ·have lc:isLC v=true:=by simpa [nc] using hn
  cases v <;> (try (cases lc; done))
  rename_i ex gs scope q
  by_cases sw:swB X.env.scope x p (.ListComp ex gs scope q)=true
  ·have hyl:X.env.scope.names.lookup x=some .local:=by
    have:(((X.env.scope.kind == .function) && (X.env.scope.names.lookup x == some .local) && (p.line == (Expr.ListComp ex gs scope q).pos.line) && !(scope.names.any fun y=>y.1 == x && (y.2 == .local || y.2 == .cell)))=true):=sw
    simp only [Bool.and_eq_true] at this
    simpa using this.1.1.2
   have hsw:swapsWith (.ListComp ex gs scope q) (some (.Name x p)) pos.line X.env=pure true:=by rw [zcg hy.kind,sw]
   cases e <;> (try (simp [chkE,call1,zde,isStp,zdf,zdg,zb3,zdh,isInR] at c; done))
   ·match gs,c,hsw with
    | [⟨tgx,itx,[],0⟩],c,hsw =>
     obtain ⟨bk,hset,pg,t⟩:=lc_t (allE _).1 (allI _) hy.toHy hy.tk c I h
     exact ws_of (ps_setLc hy.calm hy.nd h1 hyl hsw pi_wi bk pg (fun _ _ _ _ _=>pts_nil) (fun s H C cl fp=>pe_be s H C cl fp) hset) t
   ·match gs,c,hsw with
    | [⟨tgx,itx,[cx],0⟩],c,hsw =>
     obtain ⟨bk,hset,pg,t⟩:=zoq (allE _).1 (allE _).2 (allI _) hy.toHy hy.tk c I h
     exact ws_of (ps_setLc hy.calm hy.nd h1 hyl hsw pi_wi bk pg (fun s H C cl fp=>pts_one (pt_bt s H C cl fp)) (fun s H C cl fp=>pe_be s H C cl fp) hset) t
  ·refine ws_of (ps_set hy.nd h1 h2 pe_we ?_ (hy.hf h2)) ((allE e).1 hy.toHy hy.tk rfl c I h)
   rw [zcg hy.kind]
   have:swB X.env.scope x p (.ListComp ex gs scope q)=false:=by simpa using sw
   rw [this]
theorem zmH (i:Nat) (e:E):SndS T (.asg i e):=by
 intro X st EX G Fnc n wf cls W F fresh OL O A Ab σ0 σ ρ H Hb D hy c I ev fr h
 cases st <;> (try (simp [chkS] at c; done))
 rename_i ts v pos
 obtain ⟨t0,rfl⟩:∃ t0,ts=[t0]:=by
  rcases ts with _ | ⟨t0,_ | ⟨t1,ts⟩⟩
  ·simp [chkS] at c
  ·exact ⟨t0,rfl⟩
  ·cases t0 <;> simp [chkS] at c
 cases t0 <;> (try (simp [chkS] at c; done))
 next x p =>
  rw [chkS] at c
  simp only [Bool.and_eq_true] at c
  obtain ⟨⟨⟨⟨c1,c2⟩,c3⟩,c4⟩,c5⟩:=c
  obtain ⟨A1,s1,I1⟩:=I.less _ c4
  have ev1:=ev.less s1
  have hio:i ∉ F.ios:=by simpa using c2
  have h':PostR (PostS X.K F fresh σ0 Ab Hb (ownS T (.asg i e) O) OL D) (WOK cls W F) ((evE G Fnc e ρ).bind fun x=>.ok (.next,ρ.set i (some x))):=h
  have fr':∀ u,FrIO F σ0 (σ.set i (some u)):=fun u j hj=>by
   rw [List.getElem?_set_ne (fun z=>hio (by rw [z]; exact hj))]; exact fr j hj
  refine ze9 hy c1 c3 c5 I1 (h'.bind.mono (fun d hd u H' g=>?_) fun c hc=>zap I1 hc)
  have hd:∀ O',ownS T (.asg i e) O=some O' -> EnvAt X.K F σ0 Ab Hb O' (ρ.set i (some d)) D.nx:=hd
  have hd:=hd _ (by rw [ownS])
  by_cases f:frE T e=true
  ·rw [if_pos f] at hd
   by_cases m:d.mut=true
   ·obtain ⟨a,eu,hn,o⟩:=g.new f m
    subst eu
    exact hd _ _ _ (I1.setOwn g.ext hn o hio) (ev1.own g.ext hn) (fr' _)
   ·have m':d.mut=false:=by simpa using m
    have r:Rep X.K H' (PPa F A1) d u:=by
     rcases g.top with r | ⟨a,_,o⟩
     ·exact r
     ·cases d <;> first | (exact absurd rfl m) | (exact o.elim)
    refine hd _ _ _ (((I1.step g.ext).setPlain r hio).addFlat fun d' e'=>?_) (ev1.grow g.ext) (fr' _)
    by_cases lt:i < ρ.length
    ·rw [List.getElem?_set_self lt] at e'
     cases e'; exact m'
    ·rw [List.getElem?_eq_none (by rw [List.length_set]; omega)] at e'
     cases e'
  ·rw [if_neg f] at hd
   exact hd _ _ _ ((I1.step g.ext).setPlain (g.rep (zaN _ _ _)) hio) (ev1.grow g.ext) (fr' _)
end
end L2.Pf
namespace L2.Pf
open PySem PySem.Spec PyProof.Rows
open HandSPX
theorem zhT {M:Model} {A:Around} {E:Value -> Shared -> Prop} {s:Shared} {env:PySem.Env} {outer:List PySem.Env} {base:Heap} {e L:Addr} {Z:Obj -> Prop} {fl:Value} {Q:Unit -> Shared -> Prop} (zs:Steady Z) (fr:A.frames=some (env :: outer)) (own:env.frame=some L) (other:(fl == rawInt L)=false)
  (stays:base.StaysIn s.heap) (fresh:base.get? e=none) (names:s.heap.FunFrames base (env :: outer)) (air:TracedZ s.heap base e Z fl)
  (go:∀ g,HeldZ base (env :: outer) e Z L g -> s.heap.UpToSlots g -> Q () { s with heap:=g }):wpAny M A (noteFrame (.ref e) env) Q E s:=by
 rcases air with ⟨ob,fs,T,tr,rs,hob,zob,dob,f1,nT,ne,htr,dtr,r3⟩
 have len3:=(Array.getElem?_eq_some_iff.mp r3).1
 have len1:=(Array.getElem?_eq_some_iff.mp f1).1
 have held:(Value.ref T != Value.none)=true:=rfl
 unfold noteFrame
 simp only [own]
 apply wpAny_bind
 apply wpAny_field hob dob f1
 rw [if_pos held]
 apply wpAny_bind
 apply wpAny_field htr dtr r3
 simp only [other,Bool.false_eq_true,if_false]
 apply wpAny_bind
 apply wpAny_setField htr dtr len3
 generalize eg:s.heap.update T (Obj.mapFields (·.setIfInBounds 3 Value.none))=g
 have off:∀ {b},b ≠ T -> g.get? b=s.heap.get? b:=fun n=>by rw [<- eg]; exact Heap.get?_update_other _ _ n.symm
 have plain:∀ {b o},s.heap.get? b=some o -> (∀ vs,o.data ≠ .fields vs) -> g.get? b=some o:=fun {b o} hb nf=>by
  by_cases q:b=T
  ·subst q
   rw [htr] at hb
   cases hb
   exact absurd dtr (nf rs)
  ·rw [off q,hb]
 have names':g.FunFrames base (env :: outer):=names.of_keeps fun b o hb nf=>⟨o,plain hb nf,rfl⟩
 have stays':base.StaysIn g:=fun b o hb=>by
  rw [off (fun q=>by subst q; rw [nT] at hb; cases hb)]
  exact stays b o hb
 refine wpAny_entryZ zs fr names' own ((off ne.symm).trans hob) stays' fresh dob len1 zob fun g' ⟨w1,w2,w3,w4⟩=>?_
 exact go g' ⟨w1,fresh,w2,w3⟩ fun b o hb nf=>w4 b o (plain hb nf) nf
theorem zmI {M:Model} {A:Around} {E₁:Value -> Shared -> Prop} {s:Shared} {B:Heap} {env:PySem.Env} {outer:List PySem.Env} {L C a:Addr} {Z:Obj -> Prop} {Q:Unit -> Shared -> Prop} (hZ:Steady Z) (hfr:A.frames=some (env :: outer)) (hf:env.frame=some L) (hC:C ≠ L)
  (x:Sky B (env :: outer) a Z C s.heap) (hQ:∀ h',HeldZ B (env :: outer) a Z L h' -> s.heap.UpToSlots h' -> Q () { s with heap:=h' }) :
  wpAny M A (noteFrame (.ref a) env) Q E₁ s:=by
 rcases x with x | fl | hh
 ·obtain ⟨st,nu,na,ob,fs,ho,zo,dob,f1⟩:=x
  exact HandSPX.look_newZ hZ hfr na hf ho st nu dob f1 zo hQ
 ·exact HandSPX.looks_onZ hZ hfr hf fl hQ
 ·exact zhT hZ hfr hf (fl:=rawInt C) (by simp [rawInt]; exact fun z=>hC (Int.ofNat.inj z)) hh.1 hh.2.1 hh.2.2.1 hh.2.2.2 hQ
section
variable {X:Cx}
theorem zjJ {pins:List (Addr × Obj)} {σ:St} {H3:Hp} {s3 s':Shared} {scope:Scope} {ce:PySem.Env} {fp:List Addr} {W:WX} {u:Value} (hs:X.stack=X.env :: X.outer) (hf:X.env.frame=some X.env.locals) (tk:Takes X W)
  (I3:Inv X pins σ H3 s3) (cf:ce.frame=X.env.frame) (cL:ce.locals=s3.heap.objs.size) (f3:∀ b ∈ fp,FpOk X pins H3 b)
  (x:XE (X.blk s3 H3 scope ce fp) (fun cls d _ H'=>W cls d σ H') u s') :
  notedBy (model X.prog X.w) X.A ce (CompFails (model X.prog X.w) X.A X.xe ce) u s':=by
 obtain ⟨a,B,sI,pn,σI,H',cls,d,rfl,I,nb,up,sky,na,os,ag,w⟩:=x
 have cL':ce.locals ≠ X.env.locals:=by rw [cL]; exact Nat.ne_of_gt I3.lt
 have hfr:X.A.frames=some (X.env :: X.outer):=by rw [I3.ok.frames,hs]
 have sky:Sky B (X.env :: X.outer) a (Zc cls d) ce.locals s'.heap:=by rw [<- hs]; exact sky
 have nb:∀ b o,sI.heap.get? b=some o -> b ∉ frs X.stack -> B.get? b=some o:=nb
 show wpAny _ _ (noteFrame (.ref a) ce) _ _ s'
 rw [noteFrame_env (env:=X.env) _ cf]
 refine zmI Zc.steady hfr hf cL' sky fun h1 hh up1=>?_
 obtain ⟨m,hn,_⟩:=I.loc
 have hn:sI.heap.Ns ce.locals m:=hn
 have hn1:h1.Ns ce.locals m:=(hn.upToSlots up).upToSlots up1
 refine ⟨m,hn1,fun h2 m2 hn2 sb=>?_⟩
 obtain ⟨b1,b2,b3,oe,vs,T,oT,ts,he,hz,hd,e1,hnT,hTe,hT,hdT,e3⟩:=hh
 obtain ⟨oC,es,ep,hoC,hdC,_⟩:=hn1
 have aC:a ≠ ce.locals:=fun z=>by rw [z,hoC] at he; cases he; rw [hdC] at hd; cases hd
 have TC:T ≠ ce.locals:=fun z=>by rw [z,hoC] at hT; cases hT; rw [hdC] at hdT; cases hdT
 have keep:∀ b o,b ≠ ce.locals -> h1.get? b=some o -> h2.get? b=some o:=fun b o hb e=>(sb.2 b hb).trans e
 obtain ⟨B',eB⟩:∃ B',B'=PySem.W.hideAll B [ce.locals]:=⟨_,rfl⟩
 have B'B:∀ b o,B'.get? b=some o -> B.get? b=some o /\ b ≠ ce.locals:=fun b o e=>by
  rw [eB] at e
  refine ⟨PySem.W.of_hideAll _ e,fun z=>?_⟩
  rw [z,PySem.W.hideAll_none _ (List.mem_singleton.mpr rfl)] at e; cases e
 have BB':∀ b,B.get? b=none -> B'.get? b=none:=fun b e=>by
  cases q:B'.get? b with
  | none=>rfl
  | some o=>rw [(B'B b o q).1] at e; cases e
 have fr2:h2.FunFrames B' (X.env :: X.outer):=by
  refine funFrames_none (Heap.FunFrames.sameBut sb hn2 b3) fun L hL=>BB' L ?_
  exact (b3.mem hL).1
 have hd2:HeldZ B' (X.env :: X.outer) a (Zc cls d) X.env.locals h2 :=
  ⟨fun b o e=>keep b o (B'B b o e).2 (b1 b o (B'B b o e).1),BB' a b2,fr2,oe,vs,T,oT,ts,keep a oe aC he,hz,hd,e1,BB' T hnT,hTe,keep T oT TC hT,hdT,e3⟩
 unfold PySem.passOn
 refine wpAny_bind (wpAny_field (keep a oe aC he) hd e1 ?_)
 have there:¬ ((Value.ref T == Value.none)=true):=by simp
 rw [if_neg there,cf,hf]
 refine wpAny_bind (setFlight_onZ hd2 fun h4 hd4 up4=>?_)
 refine wpAny_throw ?_
 refine tk _ _ ?_
 have I7:Inv X pins σ H' sI:=I3.call' (ch:=fp) I.os I.base I.hok I.bare fun b hb=>⟨(f3 b hb).2.2.2.1,(f3 b hb).2.1,(f3 b hb).2.2.2.2.1,(f3 b hb).2.2.2.2.2⟩
 have nC:H' s3.heap.objs.size=none:=by
  have z:H' ce.locals=none:=I.free
  rw [cL] at z
  exact z
 obtain ⟨f0,f1,f2,g3,f4,f5⟩:=I3.fpOk (Nat.le_refl _) nC
 have I8:Inv X pins σ H' { sI with heap:=PySem.W.hideAll sI.heap [ce.locals],toks:=sI.toks }:=by
  refine I7.turned (t':=sI.toks) (it:=s3.heap.objs.size) (fun b o hb e=>PySem.W.hideAll_get _ e (by rw [cL]; simpa using hb)) f0 f1 g3 f4 f5
 refine ⟨a,B',_,pins,σ,H',cls,d,rfl,I8,fun b o e hb=>?_,fun b o e hnf=>?_,.inr (.inr (by rw [hs]; exact hd4)),na,os,ag,w⟩
 ·have e0:sI.heap.get? b=some o:=PySem.W.of_hideAll _ e
  have hbC:b ≠ ce.locals:=fun z=>by rw [z] at e; rw [show (PySem.W.hideAll sI.heap [ce.locals]).get? ce.locals=none from PySem.W.hideAll_none _ (List.mem_singleton.mpr rfl)] at e; cases e
  rw [eB]
  exact PySem.W.hideAll_get _ (nb b o e0 hb) (by simpa using hbC)
 ·have e0:sI.heap.get? b=some o:=PySem.W.of_hideAll _ e
  have hbC:b ≠ ce.locals:=fun z=>by rw [z] at e; rw [show (PySem.W.hideAll sI.heap [ce.locals]).get? ce.locals=none from PySem.W.hideAll_none _ (List.mem_singleton.mpr rfl)] at e; cases e
  obtain ⟨s1,q1⟩:=up b o e0 hnf
  obtain ⟨s2,q2⟩:=up1 b _ q1 hnf
  obtain ⟨s4,q4⟩:=up4 b _ (keep b _ hbC q2) hnf
  exact ⟨s4,q4⟩
theorem zmJ {pins:List (Addr × Obj)} {s:Shared} {σ:St} {H:Hp} {Q:VK} {W:WX} {elt tg iter:Expr} {scope:Scope} {own:List (Str × Nat)} {pos pos':Pos} {wi:TI} {g:TG} {te:TE} {use:Option (Value -> Sem Unit)} {Qf:Value -> Shared -> Prop}
  (hs:X.stack=X.env :: X.outer) (hf:X.env.frame=some X.env.locals) (tk:Takes X W) (calm:X.calm=true) (nd:X.N.Nodup) (I:Inv X pins σ H s) (itr:PI X tg iter wi) (bk:BlkOk X.N X.env.scope scope own)
  (tgt:∀ (s:Shared) (H:Hp) (C:Addr) (cl:List (Str × Addr)) (fp:List Addr),PG (X.blk s H scope (compEnvC scope cl C X.env) fp) tg g)
  (elm:∀ (s:Shared) (H:Hp) (C:Addr) (cl:List (Str × Addr)) (fp:List Addr),PE ((X.blk s H scope (compEnvC scope cl C X.env) fp).wish (XE (X.blk s H scope (compEnvC scope cl C X.env) fp) fun c d _ H'=>W c d σ H')) elt te)
  (fold:∀ x,foldedSetIterable iter X.env x=pure x) (goal:tLc wi g tYes te (own.map (·.2)) σ H Q)
  (fin:∀ D (ce:PySem.Env) s' m H',Inv X pins σ H' s' -> Q (.ref D) H' -> s'.heap.Ns ce.locals m -> FpOk X pins H' ce.locals -> compEnds (model X.prog X.w) X.A X.xe use Qf (.ref D) ce (.ok .next) s') :
  wpAny (model X.prog X.w) X.A (comprehension (.ListComp elt [⟨tg,iter,[],0⟩] scope pos) scope X.env pos' (newList []) false (eval iter X.env) use) Qf X.xe s:=by
 have clos:∀ y ∈ scope.names,y.2=.free -> ∃ c,X.env.cells.lookup y.1=some c:=fun y hy e=>(bk.free y hy e).elim (fun k=>I.ok.has _ (.inl k)) fun k=>I.ok.has _ (.inr k)
 refine comprehension_at (use:=use) rfl fold (closure_ok clos) bk.kind (fun y hy e=>by rw [bk.uniq y hy,e]) (thn (itr.run pins s σ H _ I goal) fun _ _ q1=>thn q1 fun itv s2 q2=>?_)
 obtain ⟨it,fp,tn,J,H2,rfl,I2,T,t2,o2,q⟩:=q2
 refine wpAny_newObj_type (newEnv_comp ?_) (Nat.zero_le _)
 obtain ⟨D,eD⟩:∃ D,D=s2.heap.objs.size:=⟨_,rfl⟩
 have nD:H2 D=none:=I2.hok.fresh (by rw [eD]; exact Nat.le_refl _)
 obtain ⟨V,⟨v0,w0⟩,turn⟩:=q D nD
 obtain ⟨s3,e3⟩:∃ s3:Shared,s3={ s2 with heap:=s2.heap.push { cls:=.type "list",data:=.seq ([]:List Value).toArray } }:=⟨_,rfl⟩
 have h3:s3.heap=s2.heap.push { cls:=.type "list",data:=.seq ([]:List Value).toArray }:=by rw [e3]
 have hD3:s3.heap.get? D=some { cls:=.type "list",data:=.seq ([]:List Value).toArray }:=by
  rw [h3,eD]; exact Heap.get?_push_size _ rfl
 have up3:∀ b o,s2.heap.get? b=some o -> s3.heap.get? b=some o:=fun b o e=>by rw [h3]; exact Heap.get?_push_of_some _ e
 obtain ⟨H3,eH⟩:∃ H3,H3=upd H2 D (.lst []):=⟨_,rfl⟩
 have I3:Inv X pins σ H3 s3:=by
  rw [eH,e3]
  refine I2.laid (t':=s2.toks) (a:=D) (fun b o e=>?_) (by rw [eD]; exact Nat.le_refl _) ⟨Nat.zero_le _,[],0,.nil,?_⟩
  ·exact Heap.get?_push_of_some _ e
  ·rw [<- h3]; exact hD3
 have old:∀ b ∈ fp,b < s2.heap.objs.size:=fun b hb=>let ⟨_,e,_⟩:=T.obj _ _ t2 b hb; Heap.lt_size e
 have ok3:∀ b ∈ fp,FpOk X pins H3 b /\ b < s3.heap.objs.size:=fun b hb=>by
  have lt:=old b hb
  have ne:b ≠ D:=by rw [eD]; exact Nat.ne_of_lt lt
  refine ⟨⟨by rw [eH,upd_ne ne]; exact (o2 b hb).1,(o2 b hb).2⟩,?_⟩
  rw [h3,Heap.size_push]
  exact Nat.lt_succ_of_lt lt
 have B0:=block_start I3 bk nd ok3
 obtain ⟨C,eC⟩:∃ C,C=s3.heap.objs.size:=⟨_,rfl⟩
 obtain ⟨cl,ecl⟩:∃ cl,cl=cellsFrom (s3.heap.objs.size+1) scope.names (cloFrom X.env.cells scope.names []):=⟨_,rfl⟩
 obtain ⟨s4,e4⟩:∃ s4:Shared,s4={ s3 with heap:=pushCells (s3.heap.push { cls:=.type "dict",data:=.dict #[] }) scope.names }:=⟨_,rfl⟩
 rw [<- ecl,<- eC,<- e4] at B0
 have goal':codeAny (model X.prog X.w) X.A (.compStart (.ListComp elt [⟨tg,iter,[],0⟩] scope pos) 0 (.ref it) (.ref D) (compEnvC scope cl C X.env)) (compEnds (model X.prog X.w) X.A X.xe use Qf (.ref D) (compEnvC scope cl C X.env)) s4:=by
  have pg:=tgt s3 H3 C cl fp
  have pe:=elm s3 H3 C cl fp
  obtain ⟨ce,ece⟩:∃ ce,ce=compEnvC scope cl C X.env:=⟨_,rfl⟩
  have cL:ce.locals=C:=by rw [ece]; rfl
  have cF:ce.frame=X.env.frame:=by rw [ece]; rfl
  rw [<- ece] at B0 pg pe ⊢
  obtain ⟨Y,eY⟩:∃ Y:Cx,Y=X.blk s3 H3 scope ce fp:=⟨_,rfl⟩
  have t4:tn 0 s4.heap:=T.keep _ _ _ (T.keep _ _ _ t2 fun b _ o e=>up3 b o e) fun b _ o e=>by rw [e4]; exact pushCells_keeps _ _ _ _ (Heap.get?_push_of_some _ e)
  have still:∀ {σ':St} {H':Hp} {s':Shared},Inv (X.blk s3 H3 scope ce fp) [] σ' H' s' -> (∀ b ∈ fp,H' b=none) -> ∀ b ∈ fp,FpOk (X.blk s3 H3 scope ce fp) [] H' b:=fun J' hn b hb =>
   ⟨hn b hb,(J'.ok.exf b hb).1,J'.ok.exfs b hb,.inl hb,fun x c e=>(J'.ok.exf b hb).2 x c e,fun p hp=>by simp at hp⟩
  have loop:codeAny (model X.prog X.w) X.A (.compLoop (.ListComp elt [⟨tg,iter,[],0⟩] scope pos) 0 (.ref it) (.ref D) ce) (compEnds (model X.prog X.w) X.A X.xe use Qf (.ref D) ce) s4:=by
   refine compLoop_any (fun k s'=>∃ i H',Inv (X.blk s3 H3 scope ce fp) [] (wipe σ (own.map (·.2))) H' s' /\ tn i s'.heap /\ (∀ b ∈ fp,H' b=none) /\ V i k H') (fun k s5 ⟨i,H5,I5,t5,n5,w5⟩=>?_) v0 ⟨0,H3,B0,t4,fun b hb=>(ok3 b hb).1.1,by rw [eH]; exact w0⟩
   rcases turn i k H5 w5 with ⟨stop,qq⟩ | ⟨go,Nx,hNx,step⟩
   ·refine thnF (T.done (X.blk s3 H3 scope ce fp) rfl rfl rfl calm i [] s5 _ H5 (fun _ _=>False) I5 (still I5 n5) t5 stop) fun r s6 ⟨hr,I6⟩=>?_
    subst hr
    obtain ⟨m,hn,_⟩:=I6.loc
    have nC:H5 ce.locals=none:=I6.free
    have J:Inv X pins σ H5 s6:=I3.call' (ch:=fp) I6.os I6.base I6.hok I6.bare fun b hb=>let f:=(ok3 b hb).1; ⟨f.2.2.2.1,f.2.1,f.2.2.2.2.1,f.2.2.2.2.2⟩
    exact fin D ce s6 m H5 J qq hn (by rw [cL,eC]; exact I3.fpOk (Nat.le_refl _) (by rw [<- eC,<- cL]; exact nC))
   ·refine thnF (T.item (X.blk s3 H3 scope ce fp) rfl rfl rfl calm i [] s5 _ H5 (fun _ _=>False) I5 (still I5 n5) t5 go) fun r s6 ⟨u,hr,h6⟩=>?_
    subst hr
    refine thnF h6 fun _ s7 ⟨x,H7,I7,r7,y7,t7,n7⟩=>?_
    have P7:=I7.pinned (still I7 n7) (T.obj _ _ t7)
    refine thnF (pg.run _ s7 _ H7 x u _ P7 r7 (step x H7 y7)) fun _ s8 ⟨σ8,H8,I8,hw8,q8⟩=>?_
    refine wpAny_tests_nil ?_
    have q8:te σ8 H8 fun y H4=>∃ acc,H4 D=some (.lst acc) /\ acc.length < sizeLine /\ Nx (upd H4 D (.lst (acc ++ [y]))):=by simpa [tYes] using q8
    simp only [↓reduceIte]
    refine wpAny_mono (pe.run _ s8 σ8 H8 _ (I8.wish _) q8) (fun z sA ⟨yv,HA,IA,rA,acc,hDA,hzA,nx⟩=>?_) fun uu ss xx=>?_
    ·refine thnF (app_ok (E:=fun _ _=>False) (X:=X.blk s3 H3 scope ce fp) (Q:=fun _ s'=>∃ m,m < k /\ ∃ i H',Inv (X.blk s3 H3 scope ce fp) [] (wipe σ (own.map (·.2))) H' s' /\ tn i s'.heap /\ (∀ b ∈ fp,H' b=none) /\ V i m H') IA.unwish hDA hzA rA fun sB IB=>?_) fun _ _ w=>w
     obtain ⟨m',hm,w'⟩:=hNx _ nx
     have pin':∀ b ∈ fp,∀ o,s7.heap.get? b=some o -> sB.heap.get? b=some o /\ upd HA D (.lst (acc ++ [yv])) b=none:=fun b hb o e =>
      let z:=IB.pin (b,o) (List.mem_append_right _ (List.mem_append_right _ (mem_pinsAt hb e)))
      ⟨z.1,z.2.1⟩
     refine ⟨m',hm,i+1,_,(IB.unpinned (pins:=[])).weak (by rw [<- hw8,wipe_length]) (fun j v e=>?_),T.keep _ _ _ t7 fun b hb o e=>(pin' b hb o e).1,fun b hb=>?_,w'⟩
     ·rw [<- hw8] at e
      exact (wipe_some e).1
     ·obtain ⟨o,e,_⟩:=T.obj _ _ t7 b hb
      exact (pin' b hb o e).2
    ·exact zjJ hs hf tk I3 cF (by rw [cL,eC]) (fun b hb=>(ok3 b hb).1) xx
  exact codeAny_compStart_list loop (T.self X.A 0 _ _ _ t4 loop)
 subst e4 ecl eC eH e3 eD
 exact goal'
end
section
variable {T:List Def}
theorem zhU {tg:Tg} {d:D} {ρ:Env} {c:Str}:setT tg d ρ ≠ .exc c:=by
 intro h
 cases tg with
 | one i=>cases h
 | many is=>cases d <;> (try (cases h; done)) <;> · simp only [setT,R.when] at h; split at h <;> cases h
theorem zpJ {K:PySem.W.Frag} {F:Fx} {O own:List Nat} {A:Addr -> Prop} {σ:St} {ρ:Env} {H1:Hp} {J:L2.It} {xs:List D} {tg:Tg} {body:Env -> R D} {te:TE} {Q:VK} {Pr:List D -> Prop} {Ee:Str -> Prop}
  (I:EnvR K F O A σ ρ H1) (ho:∀ i ∈ own,O.contains i=false) (ht:∀ i ∈ zan tg,i ∈ own) (it:ItOK K F A Nix H1 J xs) (hz:xs.length <= sizeLine) (ev:PostR Pr Ee (lcL tg (fun ρ=>(body ρ).bind fun y=>.ok (some y)) (wipeD ρ own) xs))
  (step:∀ {A':Addr -> Prop} {σ2:St} {ρ2:Env} {H2:Hp} {Nx:Hp -> Prop} {D:Addr} {acc:List V},EnvR K F O A' σ2 ρ2 H2 -> Ext Nix H1 H2 -> H2 D=some (.lst acc) -> acc.length < sizeLine →
   PostR (fun y=>∀ v H4,Ext Nix H2 H4 -> Rep K H4 (PPa F A') y v -> Nx (upd H4 D (.lst (acc ++ [v])))) Ee (body ρ2) -> te σ2 H2 fun y H4=>∃ acc,H4 D=some (.lst acc) /\ acc.length < sizeLine /\ Nx (upd H4 D (.lst (acc ++ [y]))))
  (q:∀ r,Pr r -> ∀ v H',Ext Nix H1 H' -> (∃ a vs,v=.ref a /\ H1 a=none /\ H' a=some (.lst vs) /\ Reps K H' (fun b=>PPa F A b /\ b ≠ a) r vs) -> Q v H') :
  ∀ D,H1 D=none -> ∃ W:Nat -> Nat -> Hp -> Prop,(∃ m,W 0 m (upd H1 D (.lst []))) /\ ∀ i m H,W i m H →
   (J.stop i H /\ Q (.ref D) H) \/ (J.go i H /\ ∃ Nx:Hp -> Prop,(∀ H',Nx H' -> ∃ m',m' < m /\ W (i+1) m' H') /\ ∀ x H',J.yld i H x H' -> gTg K tg x (wipe σ own) H' fun σ2 H2=>wipe σ2 own=wipe σ own /\ tYes σ2 H2 fun b H3 =>
    if b=true then te σ2 H3 fun y H4=>∃ acc,H4 D=some (.lst acc) /\ acc.length < sizeLine /\ Nx (upd H4 D (.lst (acc ++ [y]))) else Nx H3):=by
 intro D hD
 have np:PPa F A D:=I.newP hD
 refine ⟨fun i m H=>m=xs.length - i /\ i <= xs.length /\ (∀ b o,H1 b=some o -> H b=some o) /\ ∃ ad acc,H D=some (.lst acc) /\ Reps K H (PPa F fun b=>A b \/ b=D) ad acc /\ ad.length <= i /\ PostR (fun r'=>Pr (ad ++ r')) Ee (lcL tg (fun ρ=>(body ρ).bind fun y=>.ok (some y)) (wipeD ρ own) (xs.drop i)),
  ⟨xs.length,by simp,Nat.zero_le _,fun b o e=>by rw [upd_ne (ne_of_none e hD)]; exact e,[],[],upd_same,.nil,Nat.zero_le _,by simpa using ev⟩,?_⟩
 rintro i m H ⟨rfl,hi,keep,ad,acc,hDD,rep,hal,evr⟩
 have x1:Ext Nix H1 H:=fun b o e _=>keep b o e
 by_cases hlt:i < xs.length
 ·refine .inr ?_
  have ex:xs[i]?=some xs[i]:=List.getElem?_eq_getElem hlt
  obtain ⟨go,yl⟩:=it.go H (fun b=>A b \/ b=D) x1 (fun b z=>z.imp id fun z=>by rw [z]; exact hD) i xs[i] ex
  refine ⟨go,fun H'=>(∀ b o,H1 b=some o -> H' b=some o) /\ ∃ ad acc,H' D=some (.lst acc) /\ Reps K H' (PPa F fun b=>A b \/ b=D) ad acc /\ ad.length <= i+1 /\ PostR (fun r'=>Pr (ad ++ r')) Ee (lcL tg (fun ρ=>(body ρ).bind fun y=>.ok (some y)) (wipeD ρ own) (xs.drop (i+1))),
   fun H' w=>⟨xs.length - (i+1),by omega,rfl,hlt,w⟩,fun x H' y=>?_⟩
  obtain ⟨x2,rx⟩:=yl x H' y
  rw [List.drop_eq_getElem_cons hlt] at evr
  have evr:PostR (fun r'=>Pr (ad ++ r')) Ee ((setT tg xs[i] (wipeD ρ own)).bind fun ρ1=>((body ρ1).bind fun y=>.ok (some y)).bind fun o=>(lcL tg (fun ρ=>(body ρ).bind fun y=>.ok (some y)) (wipeD ρ own) (xs.drop (i+1))).bind fun r=>.ok (o.toList ++ r)):=evr
  have evr:=evr.bind
  cases e1:setT tg xs[i] (wipeD ρ own) with
  | exc c=>exact absurd e1 zhU
  | bad=>rw [e1] at evr; exact evr.elim
  | ok ρ1 =>
  rw [e1] at evr
  have evr:PostR (fun r'=>Pr (ad ++ r')) Ee (((body ρ1).bind fun y=>.ok (some y)).bind fun o=>(lcL tg (fun ρ=>(body ρ).bind fun y=>.ok (some y)) (wipeD ρ own) (xs.drop (i+1))).bind fun r=>.ok (o.toList ++ r)):=evr
  rw [R.assoc] at evr
  have keep':∀ b o,H1 b=some o -> H' b=some o:=fun b o e=>x2.all (keep b o e)
  have I':=zbs (zce I ho) hD keep' (x2.all hDD) rfl
  refine zcU I' rx e1 (fun j hj=>ho j (ht j hj)) fun σ2 I2 fr=>⟨zdk fr ht,?_⟩
  simp only [tYes,↓reduceIte]
  have hl:ad.length=acc.length:=rep.length
  refine step (Nx:=fun H'=>(∀ b o,H1 b=some o -> H' b=some o) /\ ∃ ad acc,H' D=some (.lst acc) /\ Reps K H' (PPa F fun b=>A b \/ b=D) ad acc /\ ad.length <= i+1 /\ PostR (fun r'=>Pr (ad ++ r')) Ee (lcL tg (fun ρ=>(body ρ).bind fun y=>.ok (some y)) (wipeD ρ own) (xs.drop (i+1)))) I2 (fun b o e _=>keep' b o e) (x2.all hDD) (by omega) (evr.bind.mono (fun y hy v H4 x4 rv=>?_) fun _ z=>z)
  have hy:PostR (fun r'=>Pr (ad ++ r')) Ee ((lcL tg (fun ρ=>(body ρ).bind fun y=>.ok (some y)) (wipeD ρ own) (xs.drop (i+1))).bind fun r=>.ok ([y] ++ r)):=hy
  refine ⟨fun b o e=>?_,ad ++ [y],acc ++ [v],upd_same,?_,by simp; omega,hy.bind.mono (fun r hr=>?_) fun _ z=>z⟩
  ·have:=keep' b o e
   rw [upd_ne (ne_of_none e hD)]
   exact x4.all this
  ·have lw:Le (PPa F fun b=>A b \/ b=D) (PPa F fun b=>A b \/ b=D) H4 (upd H4 D (.lst (acc ++ [v]))):=by
    constructor
    ·intro a u hu e
     by_cases c:a=D
     ·subst c
      rw [x4.all (x2.all hDD)] at e; cases e; cases hu
     ·rw [upd_ne c]; exact e
    ·intro a u _ p r
     have c:a ≠ D:=fun z=>p.2 (.inr z)
     rcases r with r | ⟨ob,r⟩
     ·exact .inl (by rw [upd_ne c]; exact r)
     ·exact .inr ⟨ob,by rw [upd_ne c]; exact r⟩
    ·intro a u _ p _; exact p
   exact Reps.mono lw (((rep.ext x2 fun _ _ z=>z).ext x4 fun _ _ z=>z).append (.cons rv .nil))
  ·have hr:Pr (ad ++ ([y] ++ r)):=hr
   rw [<- List.append_assoc] at hr
   exact hr
 ·have ei:i=xs.length:=by omega
  have hdr:xs.drop i=[]:=List.drop_eq_nil_iff.mpr (by omega)
  rw [hdr] at evr
  have evr:Pr (ad ++ []):=evr
  rw [List.append_nil] at evr
  refine .inl ⟨it.stop H x1 i (by omega),q ad evr _ _ x1 ⟨D,acc,rfl,hD,hDD,?_⟩⟩
  exact rep.weak fun b z=>⟨⟨z.1,fun w=>z.2 (.inl w)⟩,fun w=>z.2 (.inr w)⟩
def BER (X:Cx) (W:WX) (σd:St) (scope:Scope) (e:Expr):TE:=fun σ H Q=>∀ (s:Shared) (H0:Hp) (C:Addr) (cl:List (Str × Addr)) (fp:List Addr),
 WE ((X.blk s H0 scope (compEnvC scope cl C X.env) fp).wish (XE (X.blk s H0 scope (compEnvC scope cl C X.env) fp) fun c d _ H'=>W c d σd H')) e σ H Q
theorem zrS {X:Cx} {W:WX} {σd:St} {scope:Scope} {e:Expr} (s:Shared) (H:Hp) (C:Addr) (cl:List (Str × Addr)) (fp:List Addr) :
  PE ((X.blk s H scope (compEnvC scope cl C X.env) fp).wish (XE (X.blk s H scope (compEnvC scope cl C X.env) fp) fun c d _ H'=>W c d σd H')) e (BER X W σd scope e):=⟨fun pins s' σ H' Q I h=>h s H C cl fp pins s' I⟩
theorem zrT {X:Cx} {W:WX}:Takes (X.wish (XE X W)) W:=fun u s' ⟨a,B,sI,pins,σ,H,cls,d,e,I,nb,up,sky,na,os,ag,w⟩=>⟨a,B,sI,pins,σ,H,cls,d,e,I.unwish,nb,up,sky,na,os,ag,w⟩
theorem zrU {X:Cx} {W:WX} {σd:St} {G:Str -> Option D} {Fnc:Fn} {n:Nat} {cls:Str -> Option Addr} {scope:Scope} {e:Expr} {m:E} {O:List Nat} {F:Fx} {A:Addr -> Prop} {σ:St} {ρ:Env} {H:Hp} {Q:VK} (hm:SndE T m) (hy:Hy X T G Fnc n cls) (c:chkE X.N T (relS scope X.env.scope) O m e=true) (I:EnvR X.K F O A σ ρ H)
  (h:PostR (fun d=>∀ v H',Got X.K F A O T m H H' d v -> Q v H') (fun c=>∀ C H',cls c=some C -> Ext Nix H H' -> W (.ref C) none σd H') (evE G Fnc m ρ)):BER X W σd scope e σ H Q:=fun s H0 C cl fp=>by
 have hyB:=za3 hy s H0 scope C cl fp
 exact hm (X:=(X.blk s H0 scope (compEnvC scope cl C X.env) fp).wish (XE (X.blk s H0 scope (compEnvC scope cl C X.env) fp) fun c d _ H'=>W c d σd H')) (W:=fun c d _ H'=>W c d σd H') ⟨hyB.calm,hyB.nd,hyB.room,hyB.glob,hyB.blt,hyB.flen,hyB.tab,hyB.fn⟩ zrT rfl c I h
theorem lcR_t {elt:E} {tg:Tg} {it:It} {own:List Nat} (he:SndE T elt) (hi:SndI T it) {X:Cx} {x tgx itx:Expr} {scope:Scope} {p:Pos} {O:List Nat} {G:Str -> Option D} {Fnc:Fn} {n:Nat} {cls:Str -> Option Addr} {W:WX} {F:Fx} {A:Addr -> Prop} {σ:St} {ρ:Env} {H:Hp} {Q:VK}
  (hy:Hy X T G Fnc n cls) (tk:Takes X W) (c:chkE X.N T X.env.scope O (.lc elt tg it own) (.ListComp x [⟨tgx,itx,[],0⟩] scope p)=true) (I:EnvR X.K F O A σ ρ H)
  (h:PostR (fun d=>∀ v H',Got X.K F A O T (.lc elt tg it own) H H' d v -> Q v H') (ExW cls W σ H) (evL G Fnc elt tg it own ρ)) :
  BlkOk X.N X.env.scope scope (ownP X.N own) /\ (∀ x,foldedSetIterable itx X.env x=pure x) /\ (∀ (s:Shared) (H:Hp) (C:Addr) (cl:List (Str × Addr)) (fp:List Addr),PG (X.blk s H scope (compEnvC scope cl C X.env) fp) tgx (gTg X.K tg)) ∧
  tLc (WI X tgx itx) (gTg X.K tg) tYes (BER X W σ scope x) ((ownP X.N own).map (·.2)) σ H Q:=by
  rw [chkE] at c
  simp only [Bool.and_eq_true] at c
  obtain ⟨⟨⟨⟨⟨⟨c1,c2⟩,c3⟩,c4⟩,c5⟩,c6⟩,c7⟩:=c
  obtain ⟨bk,eo⟩:=ze1 c2
  have ho:∀ i ∈ own,O.contains i=false:=fun i hi=>by
   have:=List.all_eq_true.mp c3 i hi
   simpa using this
  refine ⟨bk,zaX (zbp c1),fun s H C cl fp=>pg_tg (za3 hy s H scope C cl fp).calm (za3 hy s H scope C cl fp).nd (zdl rfl s H scope C cl fp) c5,?_⟩
  unfold evL at h
  rw [eo]
  refine hi hy tk rfl c1 I (h.bind.mono (fun xs hxs J H1 x1 itok=>?_) fun _ z=>z)
  obtain ⟨hz,hxs⟩:=hxs.when
  have I1:=I.step x1
  refine zpJ (Ee:=ExW cls W σ H) I1 ho (tg_in c4) (itok Nix (fun _ z=>z.elim) (.inl fun _ z=>z)) (of_decide_eq_true hz) hxs.bind (fun I2 x2 hD hl q=>?_) fun r hr v H' x2 hh=>hr v H' (zfL (fun p hp=>I1.newP hp) x1 x2 hh)
  exact zrU he hy c6 I2 (q.mono (fun y hq v H' g=>⟨_,g.ext.all hD,hl,hq v H' g.ext (g.rep (by simpa using c7))⟩) fun c hc C H' e y=>hc C H' e ((x1.trans x2).trans y))
theorem zjK {X:Cx} {i:Nat} {y:Str} {py:Pos} {elt tg iter:Expr} {scope:Scope} {own:List (Str × Nat)} {pos spos:Pos} {wi:TI} {g:TG} {te:TE} {D:Ends} {σ:St} {H:Hp} {W:WX} (hs:X.stack=X.env :: X.outer) (hf:X.env.frame=some X.env.locals) (tk:Takes X W) (hc:X.calm=true) (hN:X.N.Nodup) (hy:X.N[i]?=some y) (hyl:X.env.scope.names.lookup y=some .local)
  (hsw:swapsWith (.ListComp elt [⟨tg,iter,[],0⟩] scope pos) (some (.Name y py)) spos.line X.env=pure true) (hi:PI X tg iter wi) (ok:BlkOk X.N X.env.scope scope own)
  (hg:∀ (s:Shared) (H:Hp) (C:Addr) (cl:List (Str × Addr)) (fp:List Addr),PG (X.blk s H scope (compEnvC scope cl C X.env) fp) tg g)
  (he:∀ (s:Shared) (H:Hp) (C:Addr) (cl:List (Str × Addr)) (fp:List Addr),PE ((X.blk s H scope (compEnvC scope cl C X.env) fp).wish (XE (X.blk s H scope (compEnvC scope cl C X.env) fp) fun c d _ H'=>W c d σ H')) elt te) (fo:∀ x,foldedSetIterable iter X.env x=pure x)
  (h:tLc wi g tYes te (own.map (·.2)) σ H fun x H1=>gName i x σ H1 D.nx):WS X (.Assign [.Name y py] (.ListComp elt [⟨tg,iter,[],0⟩] scope pos) spos) D σ H:=by
 intro pins s I
 have core:=zmJ (pos:=pos) (pos':=firstIterPos [⟨tg,iter,[],0⟩] pos) (use:=some (assign (.Name y py) X.env)) (Qf:=fun _ s'=>SP X pins D .next s') hs hf tk hc hN I hi ok hg he fo h fun L ce s' m H' I' q hn f=>by
  obtain ⟨f0,f1,f2,f3,f4,f5⟩:=f
  refine wpAny_assign_Name (store_ok2 (v:=.ref L) I' hN hy (.inl hyl) rfl (fun s2 I2 w=>?_) (.inr hyl))
  obtain ⟨a,sb,ha⟩:=w
  have apart:ce.locals ≠ a:=ha.elim (fun z=>by rw [z]; exact f1) fun z e=>f4 y a z e.symm
  exact ⟨m,hn.sameBut sb apart,fun h3 sb3=>⟨_,H',I2.turned (t':=s2.toks) (fun b o hb e=>(sb3.2 b hb).trans e) f0 f1 f3 f4 f5,q⟩⟩
 rw [exec_Assign_Name_used _ _ _ _ hsw]
 exact wpAny_bind (wpAny_standAt (wpAny_bind (wpAny_bind (thn core fun _ s' hq=>wpAny_pure (wpAny_pure hq)))))
theorem zpK {X:Cx} {EX:List Str} {G:Str -> Option D} {Fnc:Fn} {n:Nat} {cls:Str -> Option Addr} {W:WX} {F:Fx} {O:List Nat} {A:Addr -> Prop} {σ:St} {ρ:Env} {H:Hp} {D:Ends} {elt:E} {tg:Tg} {it:It} {own:List Nat} {v:Expr} {x:Str} {p pos:Pos} {i:Nat}
  (hy:HyS X T EX G Fnc n cls W) (hl:locB X.N X.env.scope i x=true) (c:chkE X.N T X.env.scope O (.lc elt tg it own) v=true) (sw:swB X.env.scope x p v=true) (I:EnvR X.K F O A σ ρ H)
  (h:PostR (fun d=>∀ u H',Got X.K F A O T (.lc elt tg it own) H H' d u -> D.nx (σ.set i (some u)) H') (ExW cls W σ H) (evL G Fnc elt tg it own ρ)):WS X (.Assign [.Name x p] v pos) D σ H:=by
 obtain ⟨h1,h2⟩:=zcV hl
 cases v <;> (try (cases sw; done))
 rename_i ex gs scope q
 have hyl:X.env.scope.names.lookup x=some .local:=by
  have:(((X.env.scope.kind == .function) && (X.env.scope.names.lookup x == some .local) && (p.line == (Expr.ListComp ex gs scope q).pos.line) && !(scope.names.any fun y=>y.1 == x && (y.2 == .local || y.2 == .cell)))=true):=sw
  simp only [Bool.and_eq_true] at this
  simpa using this.1.1.2
 have hsw:swapsWith (.ListComp ex gs scope q) (some (.Name x p)) pos.line X.env=pure true:=by rw [zcg hy.kind,sw]
 match gs,c,hsw with
 | [⟨tgx,itx,[],0⟩],c,hsw =>
  obtain ⟨bk,hset,pg,t⟩:=lcR_t (allE _).1 (allI _) hy.toHy hy.tk c I h
  exact zjK hy.fr.1 hy.fr.2 hy.tk hy.calm hy.nd h1 hyl hsw pi_wi bk pg (fun s H C cl fp=>zrS s H C cl fp) hset t
theorem zjL (i:Nat) (elt:E) (tg:Tg) (it:It) (own:List Nat):SndS T (.asgL i elt tg it own):=by
 intro X st EX G Fnc n wf cls W F fresh OL O A Ab σ0 σ ρ H Hb D hy c I ev fr h
 cases st <;> (try (simp [chkS] at c; done))
 rename_i ts v pos
 obtain ⟨t0,rfl⟩:∃ t0,ts=[t0]:=by
  rcases ts with _ | ⟨t0,_ | ⟨t1,ts⟩⟩
  ·simp [chkS] at c
  ·exact ⟨t0,rfl⟩
  ·cases t0 <;> simp [chkS] at c
 cases t0 <;> (try (simp [chkS] at c; done))
 next x p =>
  rw [chkS] at c
  simp only [Bool.and_eq_true] at c
  obtain ⟨⟨⟨⟨c1,c2⟩,c3⟩,c4⟩,c5⟩:=c
  obtain ⟨e,ee⟩:∃ e,e=E.lc elt tg it own:=⟨_,rfl⟩
  rw [<- ee] at c3 c4
  obtain ⟨A1,s1,I1⟩:=I.less _ c4
  have ev1:=ev.less s1
  have hio:i ∉ F.ios:=by simpa using c2
  have h':PostR (PostS X.K F fresh σ0 Ab Hb (ownS T (.asgL i elt tg it own) O) OL D) (WOK cls W F) ((evL G Fnc elt tg it own ρ).bind fun x=>.ok (.next,ρ.set i (some x))):=h
  have fr':∀ u,FrIO F σ0 (σ.set i (some u)):=fun u j hj=>by
   rw [List.getElem?_set_ne (fun z=>hio (by rw [z]; exact hj))]; exact fr j hj
  refine zpK hy c1 (by rw [<- ee]; exact c3) c5 I1 (h'.bind.mono (fun d hd u H' g=>?_) fun c hc=>zap I1 hc)
  have hd:∀ O',ownS T (.asgL i elt tg it own) O=some O' -> EnvAt X.K F σ0 Ab Hb O' (ρ.set i (some d)) D.nx:=hd
  rw [<- ee] at g
  have hd:=hd _ (by rw [ownS,<- ee])
  by_cases f:frE T e=true
  ·rw [if_pos f] at hd
   by_cases m:d.mut=true
   ·obtain ⟨a,eu,hn,o⟩:=g.new f m
    subst eu
    exact hd _ _ _ (I1.setOwn g.ext hn o hio) (ev1.own g.ext hn) (fr' _)
   ·have m':d.mut=false:=by simpa using m
    have r:Rep X.K H' (PPa F A1) d u:=by
     rcases g.top with r | ⟨a,_,o⟩
     ·exact r
     ·cases d <;> first | (exact absurd rfl m) | (exact o.elim)
    refine hd _ _ _ (((I1.step g.ext).setPlain r hio).addFlat fun d' e'=>?_) (ev1.grow g.ext) (fr' _)
    by_cases lt:i < ρ.length
    ·rw [List.getElem?_set_self lt] at e'
     cases e'; exact m'
    ·rw [List.getElem?_eq_none (by rw [List.length_set]; omega)] at e'
     cases e'
  ·rw [if_neg f] at hd
   exact hd _ _ _ ((I1.step g.ext).setPlain (g.rep (zaN _ _ _)) hio) (ev1.grow g.ext) (fr' _)
end
end L2.Pf
namespace L2.Pf
open PySem PySem.Spec PyProof.Rows
theorem zbi (t:Tg) (d:D) (ρ:Env):noExc (setT t d ρ):=by
 cases t with
 | one i=>exact zad _
 | many is=>cases d <;> first | exact zal (zad _) | (intro c z; cases z)
theorem zfa {ts:List Expr} {k:Nat} {p:Pos} {v:Expr} {env:PySem.Env} (h:zdT v=true):swappedStores [.Tuple ts k p] v env=pure none:=by
 cases v <;> first | rfl | cases h
theorem zhV {ts:List Expr} {k:Nat} {p:Pos} {vs:List Expr} {k2:Nat} {p2:Pos} {env:PySem.Env} (h:vs.all (foldedForSure 8)=true):swappedStores [.Tuple ts k p] (.Tuple vs k2 p2) env=pure none:=by
 unfold swappedStores
 simp only [h,if_true]
 split
 ·rfl
 split
 ·rfl
 split
 ·rfl
 rfl
theorem zpL {x y:Str} {px py pt pt2:Pos} {kt k2:Nat} {a b:Expr} {env:PySem.Env} (hk:env.scope.kind=.function) (hx:env.scope.names.lookup x=some .local) (hy:env.scope.names.lookup y=some .local) (hl:px.line=py.line) (hne:x ≠ y)
  (hs:([a,b].all zaw)=true) (hf:[a,b].all (foldedForSure 8)=false) (hc:[a,b].all (constantsAlone 8)=false) :
  swappedStores [.Tuple [.Name x px,.Name y py] kt pt] (.Tuple [a,b] k2 pt2) env=pure (some [x,y]):=by
 have bk:env.blockKind=.function:=by unfold Env.blockKind; rw [hk]; rfl
 have er:([x,y].eraseDups).length=2:=by
  simp [List.eraseDups_cons,Ne.symm hne]
 unfold swappedStores
 simp only [bk,hf,hc,Env.kindOf,hx,hy,List.length_cons,List.length_nil,List.head?_cons,Option.map_some,Option.getD_some,Expr.pos,List.filterMap_cons,List.filterMap_nil,hl,beq_self_eq_true,Bool.and_self,if_true,er]
 rw [if_neg (by decide),if_neg ?_]
 ·rfl
 ·intro q
  rw [List.any_eq_true] at q
  obtain ⟨e,he,pe⟩:=q
  have ne:zaw e=true:=List.all_eq_true.mp hs e he
  cases e <;> first | (cases ne; done) | (cases pe; done) | exact Bool.false_ne_true pe
theorem zpM {x y z:Str} {px py pz pt pt2:Pos} {kt k2:Nat} {a b c:Expr} {env:PySem.Env} (hk:env.scope.kind=.function) (hx:env.scope.names.lookup x=some .local) (hy:env.scope.names.lookup y=some .local) (hz:env.scope.names.lookup z=some .local) (hl:px.line=py.line) (hl2:px.line=pz.line) (hne:x ≠ y) (hnz:x ≠ z) (hyz:y ≠ z)
  (hs:([a,b,c].all zaw)=true) (hf:[a,b,c].all (foldedForSure 8)=false) (hc:[a,b,c].all (constantsAlone 8)=false) :
  swappedStores [.Tuple [.Name x px,.Name y py,.Name z pz] kt pt] (.Tuple [a,b,c] k2 pt2) env=pure (some [x,y,z]):=by
 have bk:env.blockKind=.function:=by unfold Env.blockKind; rw [hk]; rfl
 have er:([x,y,z].eraseDups).length=3:=by
  simp [List.eraseDups_cons,Ne.symm hne,Ne.symm hnz,Ne.symm hyz]
 unfold swappedStores
 simp only [bk,hf,hc,Env.kindOf,hx,hy,hz,List.length_cons,List.length_nil,List.head?_cons,Option.map_some,Option.getD_some,Expr.pos,List.filterMap_cons,List.filterMap_nil,hl,<- hl2,hl,beq_self_eq_true,Bool.and_self,if_true,er]
 rw [if_neg (by decide),if_neg ?_]
 ·rfl
 ·intro q
  rw [List.any_eq_true] at q
  obtain ⟨e,he,pe⟩:=q
  have ne:zaw e=true:=List.all_eq_true.mp hs e he
  cases e <;> first | (cases ne; done) | (cases pe; done) | exact Bool.false_ne_true pe
theorem zg9 {ts:List Expr} {k:Nat} {p:Pos} {v:Expr} {env:PySem.Env} (h:(zdT v || foldB v)=true):swappedStores [.Tuple ts k p] v env=pure none:=by
 by_cases c:zdT v=true
 ·exact zfa c
 ·have c':zdT v=false:=by simpa using c
  rw [c',Bool.false_or] at h
  cases v <;> first | exact zhV h | (cases h; done)
section
variable {T:List Def} {K:PySem.W.Frag} {F:Fx} {A A':Addr -> Prop}
theorem zaZ (s:∀ a,A' a -> A a):∀ b,PPa F A b -> PPa F A' b:=fun b z=>⟨z.1,fun q=>z.2 (s b q)⟩
theorem zjM (is:List Nat) (e:E):SndS T (.asgT is e):=by
 intro X st EX G Fnc n wf cls W F fresh OL O A Ab σ0 σ ρ H Hb D hy c I ev fr h
 cases st <;> (try (simp [chkS] at c; done))
 rename_i ts v pos
 obtain ⟨t0,rfl⟩:∃ t0,ts=[t0]:=by
  rcases ts with _ | ⟨t0,_ | ⟨t1,ts⟩⟩
  ·simp [chkS] at c
  ·exact ⟨t0,rfl⟩
  ·cases t0 <;> simp [chkS] at c
 cases t0 <;> (try (simp [chkS] at c; done))
 next es k p =>
  rw [chkS] at c
  simp only [Bool.and_eq_true] at c
  obtain ⟨⟨⟨⟨c1,c2⟩,c3⟩,c4⟩,c5⟩:=c
  have c3':kpIO F.ios (less O (topV e ++ escE e))=true:=by
   unfold kpIO at c3 ⊢
   rw [List.all_eq_true] at c3 ⊢
   exact fun i hi=>(zav (c3 i hi)).1
  obtain ⟨A1,s1,I1⟩:=I.less _ c3'
  have ev1:=ev.less s1
  have h':PostR (PostS X.K F fresh σ0 Ab Hb (ownS T (.asgT is e) O) OL D) (WOK cls W F) ((evE G Fnc e ρ).bind fun x=>(setT (.many is) x ρ).bind fun ρ=>.ok (.next,ρ)):=h
  obtain ⟨g1,g2,g3⟩:=zcd hy.nd hy.tg c1
  refine ws_of (ps_asg pe_we (zgX hy.calm g1 g2 g3) (by unfold swapsWithSole; exact zaI c5) (zg9 c4)) ((allE e).1 hy.toHy hy.tk rfl c2 I1 (h'.bind.mono (fun d hd u H' g=>?_) fun c hc=>zap I1 hc))
  obtain ⟨ρ1,e1,q⟩:=hd.bind.get (zbi _ d ρ)
  have q:∀ O',ownS T (.asgT is e) O=some O' -> EnvAt X.K F σ0 Ab Hb O' ρ1 D.nx:=q
  obtain ⟨A2,s2,I2⟩:=(I1.step g.ext).less is c3
  have hno:∀ i ∈ is,(less (less O (topV e ++ escE e)) is).contains i=false:=fun i hi=>by
   cases z:(less (less O (topV e ++ escE e)) is).contains i with
   | false=>rfl
   | true=>have:=(zav z).2; simp [hi] at this
  have hios:∀ i ∈ F.ios,i ∉ is:=fun i hi z=>by
   have:=zah c3 hi
   rw [hno i z] at this; cases this
  refine zcU (tg:=.many is) I2 ((g.rep (zaN _ _ _)).weak (zaZ s2)) e1 hno fun σ' I3 f3=>?_
  exact q _ (by rw [ownS]) _ _ _ I3 ((ev1.grow g.ext).less s2) fun j hj=>(f3.off j (hios j hj)).trans (fr j hj)
theorem zjN (e:E):SndS T (.expr e):=by
 intro X st EX G Fnc n wf cls W F fresh OL O A Ab σ0 σ ρ H Hb D hy c I ev fr h
 cases st <;> (try (simp [chkS] at c; done))
 rename_i v pos
 rw [chkS] at c
 simp only [Bool.and_eq_true] at c
 obtain ⟨⟨c1,c2⟩,c3⟩:=c
 obtain ⟨A1,s1,I1⟩:=I.less _ c2
 have h':PostR (PostS X.K F fresh σ0 Ab Hb (ownS T (.expr e) O) OL D) (WOK cls W F) ((evE G Fnc e ρ).bind fun x=>.ok (.next,ρ)):=h
 refine ws_of (ps_expr pe_we (zaI c3)) ((allE e).1 hy.toHy hy.tk rfl c1 I1 (h'.bind.mono (fun d hd u H' g=>?_) fun c hc=>zap I1 hc))
 have hd:∀ O',ownS T (.expr e) O=some O' -> EnvAt X.K F σ0 Ab Hb O' ρ D.nx:=hd
 exact hd _ (by rw [ownS]) _ _ _ (I1.step g.ext) ((ev.less s1).grow g.ext) fr
theorem zch {K:PySem.W.Frag} {H:Hp} {P P':Addr -> Prop} {a:Addr} {d:D} (h:∀ b,P b -> P' b) (o:OwnAt K H P a d):OwnAt K H P' a d:=by
 cases d with
 | lst ds=>obtain ⟨vs,e,t⟩:=o; exact ⟨vs,e,t.weak h⟩
 | dK kvs=>obtain ⟨vs,e,k,t⟩:=o; exact ⟨vs,e,k,t.weak h⟩
 | dT kvs=>obtain ⟨vs,e,k,t⟩:=o; exact ⟨vs,e,k,t.weak h⟩
 | _=>exact o.elim
theorem zbF {F:Fx} {fresh:Bool} {O:List Nat} {A:Addr -> Prop} {σ0 σ:St} {ρ:Env} {H:Hp} {d:D} {v:V} (I:EnvR K F O A σ ρ H) (fr:FrIO F σ0 σ) (hio:kpIO F.ios O=true) (r:Rep K H (PF F) d v) (nw:fresh=true -> FreshR K F.H0 H (PF F) d v):RetOK K F fresh σ0 d ρ v H:=by
 refine ⟨I.ext,r,nw,fun i hi o a eo m es=>?_⟩
 obtain ⟨b,eb,_,oo⟩:=I.own eo (zah hio hi) m
 rw [fr i hi,es] at eb
 cases eb
 exact zch (fun b z=>pf_of I z) oo
theorem zmK {F:Fx} {O:List Nat} {A:Addr -> Prop} {σ:St} {ρ:Env} {H H':Hp} {d:D} {v:V} (I:EnvR K F O A σ ρ H) (x:Ext Nix H H') (f:FreshR K H H' (PPa F A) d v):FreshR K F.H0 H' (PF F) d v:=fun m=>by
 obtain ⟨a,e,n,o⟩:=f m
 exact ⟨a,e,I.noneH0 n,zch (fun b z=>⟨pf_of I z.1,z.2⟩) o⟩
theorem zov {X:Cx} {O:List Nat} {i:Nat} {v:Expr} {σ:St} {H:Hp} {Q:VK} {u:V} (c:chkE X.N T X.env.scope O (.var i) v=true) (e:σ[i]?=some (some u)) (q:Q u H):WE X v σ H Q:=by
 cases v <;> (try (simp [chkE] at c; done))
 rename_i x p
 rw [chkE,Bool.and_eq_true] at c
 obtain ⟨v1,v2,v3⟩:=zbw c.2
 have hN:X.N[i]?=some x:=by simpa using c.1
 exact we_of (pe_var hN v1 v2 v3) ⟨u,e,q⟩
theorem zmL (e:E):SndS T (.ret e):=by
 intro X st EX G Fnc n wf cls W F fresh OL O A Ab σ0 σ ρ H Hb D hy c I ev fr h
 have h':PostR (PostS X.K F fresh σ0 Ab Hb (ownS T (.ret e) O) OL D) (WOK cls W F) ((evE G Fnc e ρ).bind fun x=>.ok (.ret x,ρ)):=h
 have hv:∃ vo pos,st=.Return vo pos:=by
  cases st <;> first | exact ⟨_,_,rfl⟩ | (exfalso; cases e <;> exact Bool.false_ne_true c)
 obtain ⟨vo,pos,rfl⟩:=hv
 cases vo with
 | none =>
  cases e <;> (try (exfalso; exact Bool.false_ne_true c; done))
  rw [chkS] at c
  refine ws_of ps_retN ?_
  have q:∀ v H',RetOK X.K F fresh σ0 .non ρ v H' -> D.rt v H':=h'
  exact q _ _ (zbF I fr c .non fun _=>FreshR.flat rfl)
 | some v =>
  have c':(if fresh=true then chkE X.N T X.env.scope (less O (escE e)) e v && kpIO F.ios (less O (escE e)) && (frE T e || frV F.ios (less O (escE e)) e) else chkE X.N T X.env.scope (less O (topV e ++ escE e)) e v && kpIO F.ios (less O (topV e ++ escE e)))=true:=by
   cases e <;> exact c
  by_cases f:fresh=true
  ·rw [if_pos f] at c'
   simp only [Bool.and_eq_true,Bool.or_eq_true] at c'
   obtain ⟨⟨c1,c2⟩,c3⟩:=c'
   obtain ⟨A1,s1,I1⟩:=I.less _ c2
   rcases c3 with c3 | c3
   ·refine ws_of (ps_ret pe_we) ((allE e).1 hy.toHy hy.tk rfl c1 I1 (h'.bind.mono (fun d hd u H' g=>?_) fun c hc=>zap I1 hc))
    have q:∀ v H',RetOK X.K F fresh σ0 d ρ v H' -> D.rt v H':=hd
    have I2:=I1.step g.ext
    refine q _ _ ?_
    have fr1:=g.new c3
    by_cases m:d.mut=true
    ·obtain ⟨a,eu,hn,o⟩:=fr1 m
     have hr:Rep X.K H' (PF F) d u:=by
      subst eu
      refine (zch (fun b z=>pf_of I1 z.1) o).rep ⟨.inr (I1.noneH0 hn),fun z=>?_⟩
      exact I1.notA hn (I1.io a z).1
     exact zbF I2 fr c2 hr fun _=>zmK I1 g.ext fr1
    ·have m':d.mut=false:=by simpa using m
     have r:Rep X.K H' (PPa F A1) d u:=by
      rcases g.top with r | ⟨a,_,o⟩
      ·exact r
      ·cases d <;> first | (exact absurd rfl m) | (exact o.elim)
     exact zbF I2 fr c2 (r.weak fun b z=>pf_of I1 z) fun _=>FreshR.flat m'
   ·cases e <;> (try (cases c3; done))
    rename_i i
    have c4:(less O (escE (.var i))).contains i=true /\ (!F.ios.contains i)=true:=by
     have:=c3
     unfold frV at this
     rw [Bool.and_eq_true] at this
     exact this
    have h2:PostR (PostS X.K F fresh σ0 Ab Hb (ownS T (.ret (.var i)) O) OL D) (WOK cls W F) ((getV ρ i).bind fun x=>.ok (.ret x,ρ)):=h'
    unfold getV at h2
    split at h2
    ·rename_i d ed
     have q:∀ v H',RetOK X.K F fresh σ0 d ρ v H' -> D.rt v H':=h2
     obtain ⟨u,eu,su⟩:=I1.val i d ed
     refine ws_of (ps_ret pe_we) (zov c1 eu (q _ _ ?_))
     unfold Slot at su
     by_cases m:d.mut=true
     ·rw [c4.1,m,Bool.true_and,if_pos rfl] at su
      obtain ⟨a,rfl,hA,o⟩:=su
      have nio:a ∉ F.IO:=fun z=>by
       obtain ⟨_,j,d',h1,h2,h3,h4,h5⟩:=I1.io a z
       have:=I1.inj i j a d d' c4.1 h2 ed h3 m h4 eu h5
       subst this
       have:=c4.2
       simp [h1] at this
      have hn:F.H0 a=none:=(I1.aF a hA).resolve_left nio
      have o':OwnAt X.K H (fun b=>PF F b /\ b ≠ a) a d:=zch (fun b z=>⟨pf_of I1 z,fun w=>z.2 (by rw [w]; exact hA)⟩) o
      exact zbF I1 fr c2 ((zch (fun b z=>z.1) o').rep ⟨.inr hn,nio⟩) fun _ m=>⟨a,rfl,hn,o'⟩
     ·have m':d.mut=false:=by simpa using m
      rw [m',Bool.and_false,if_neg Bool.false_ne_true] at su
      exact zbF I1 fr c2 (su.weak fun b z=>pf_of I1 z) fun _=>FreshR.flat m'
    ·exact h2.elim
  ·rw [if_neg f] at c'
   rw [Bool.and_eq_true] at c'
   obtain ⟨c1,c2⟩:=c'
   obtain ⟨A1,s1,I1⟩:=I.less _ c2
   refine ws_of (ps_ret pe_we) ((allE e).1 hy.toHy hy.tk rfl c1 I1 (h'.bind.mono (fun d hd u H' g=>?_) fun c hc=>zap I1 hc))
   have q:∀ v H',RetOK X.K F fresh σ0 d ρ v H' -> D.rt v H':=hd
   exact q _ _ (zbF (I1.step g.ext) fr c2 ((g.rep (zaN _ _ _)).weak fun b z=>pf_of I1 z) fun z=>absurd z f)
end
end L2.Pf
namespace L2.Pf
open PySem PySem.Spec PyProof.Rows
section
variable {T:List Def} {K:PySem.W.Frag} {F:Fx} {A A' Ab:Addr -> Prop} {O:List Nat} {σ σ0:St} {ρ:Env} {H H' Hb:Hp}
theorem GotX.ev {q:D × Env} {v:V} (I:EnvR K F O A σ ρ H) (g:GotX K F A O σ ρ H H' q v):Ev A H A H':=by
 have x:Ext A H H':=g.ext.mono fun b z=>I.slA z
 refine ⟨x,fun _ z=>.inl z,fun b z=>?_⟩
 cases e:H b with
 | none=>rfl
 | some o =>
  by_cases m:A b
  ·obtain ⟨u,eu,_⟩:=g.env.aM b m
   rw [z] at eu; cases eu
  ·have:=x b o e fun _=>m
   rw [z] at this; cases this
theorem noxG {α:Type} {p:α -> Prop} {e:Str -> Prop} {r:R α} (h:PostR p e (R.nox r)):∃ d,r=.ok d /\ p d:=zdR h
theorem zpN {X:Cx} {EX:List Str} {G:Str -> Option D} {Fnc:Fn} {n:Nat} {cls:Str -> Option Addr} {W:WX} {F:Fx} {O:List Nat} {A:Addr -> Prop} {σ:St} {ρ:Env} {H:Hp} {D:Ends} {e:Xp} {v:Expr} {x:Str} {p pos:Pos} {i:Nat} {q:Pf.D × Env}
  (hy:HyS X T EX G Fnc n cls W) (hl:locB X.N X.env.scope i x=true) (c:chkX X.N T X.env.scope O e v=true) (hn:(zaO v || isXLC e v)=true) (I:EnvR X.K F O A σ ρ H) (ev:evX G Fnc e ρ=.ok q)
  (h:∀ u H',GotX X.K F A O σ ρ H H' q u -> D.nx (σ.set i (some u)) H'):WS X (.Assign [.Name x p] v pos) D σ H:=by
 obtain ⟨h1,h2⟩:=zcV hl
 by_cases nc:zaO v=true
 ·exact ws_of (ps_set hy.nd h1 h2 pe_we (zaI nc) (hy.hf h2)) (allX e hy.toHy hy.tk rfl c I ev h)
 ·have lc:isXLC e v=true:=by simpa [nc] using hn
  cases e <;> (try (cases lc; done))
  rename_i elt tg it own j
  cases v <;> (try (cases lc; done))
  rename_i ex gs scope qq
  by_cases sw:swB X.env.scope x p (.ListComp ex gs scope qq)=true
  ·have hyl:X.env.scope.names.lookup x=some .local:=by
    have:(((X.env.scope.kind == .function) && (X.env.scope.names.lookup x == some .local) && (p.line == (Expr.ListComp ex gs scope qq).pos.line) && !(scope.names.any fun y=>y.1 == x && (y.2 == .local || y.2 == .cell)))=true):=sw
    simp only [Bool.and_eq_true] at this
    simpa using this.1.1.2
   have hsw:swapsWith (.ListComp ex gs scope qq) (some (.Name x p)) pos.line X.env=pure true:=by rw [zcg hy.kind,sw]
   match gs,c,hsw with
   | [⟨tgx,itx,[],0⟩],c,hsw =>
    obtain ⟨bk,hset,pg,t⟩:=lcx_t (allX _) hy.toHy hy.tk c I ev h
    exact ws_of (ps_setLc hy.calm hy.nd h1 hyl hsw pi_wi bk pg (fun _ _ _ _ _=>pts_nil) (fun s H C cl fp=>pe_be s H C cl fp) hset) t
  ·refine ws_of (ps_set hy.nd h1 h2 pe_we ?_ (hy.hf h2)) (allX _ hy.toHy hy.tk rfl c I ev h)
   rw [zcg hy.kind]
   have:swB X.env.scope x p (.ListComp ex gs scope qq)=false:=by simpa using sw
   rw [this]
theorem zjO (i:Nat) (x:Xp):SndS T (.xasg i x):=by
 intro X st EX G Fnc n wf cls W F fresh OL O A Ab σ0 σ ρ H Hb D hy c I ev fr h
 cases st <;> (try (simp [chkS] at c; done))
 rename_i ts v pos
 obtain ⟨t0,rfl⟩:∃ t0,ts=[t0]:=by
  rcases ts with _ | ⟨t0,_ | ⟨t1,ts⟩⟩
  ·simp [chkS] at c
  ·exact ⟨t0,rfl⟩
  ·cases t0 <;> simp [chkS] at c
 cases t0 <;> (try (simp [chkS] at c; done))
 next y p =>
  rw [chkS] at c
  simp only [Bool.and_eq_true] at c
  obtain ⟨⟨⟨⟨c1,c2⟩,c3⟩,c4⟩,c5⟩:=c
  obtain ⟨A1,s1,I1⟩:=I.less _ c4
  have hio:i ∉ F.ios:=by simpa using c2
  have h':PostR (PostS X.K F fresh σ0 Ab Hb (ownS T (.xasg i x) O) OL D) (WOK cls W F) ((R.nox (evX G Fnc x ρ)).bind fun q=>.ok (.next,q.2.set i (some q.1))):=h
  obtain ⟨q,eq,hd⟩:=noxG h'.bind
  have hd:∀ O',ownS T (.xasg i x) O=some O' -> EnvAt X.K F σ0 Ab Hb O' (q.2.set i (some q.1)) D.nx:=hd
  have hd:=hd _ (by rw [ownS])
  refine zpN hy c1 c3 c5 I1 eq fun u H' g=>?_
  refine hd _ _ _ (g.env.setPlain g.rep hio) ((ev.less s1).trans (g.ev I1)) fun j hj=>?_
  rw [List.getElem?_set_ne (fun z=>hio (by rw [z]; exact hj))]; exact fr j hj
theorem zhW (is:List Nat) (x:Xp):SndS T (.xasgT is x):=by
 intro X st EX G Fnc n wf cls W F fresh OL O A Ab σ0 σ ρ H Hb D hy c I ev fr h
 cases st <;> (try (simp [chkS] at c; done))
 rename_i ts v pos
 obtain ⟨t0,rfl⟩:∃ t0,ts=[t0]:=by
  rcases ts with _ | ⟨t0,_ | ⟨t1,ts⟩⟩
  ·simp [chkS] at c
  ·exact ⟨t0,rfl⟩
  ·cases t0 <;> simp [chkS] at c
 cases t0 <;> (try (simp [chkS] at c; done))
 next es k p =>
  rw [chkS] at c
  simp only [Bool.and_eq_true] at c
  obtain ⟨⟨⟨⟨c1,c2⟩,c3⟩,c4⟩,c5⟩:=c
  have c3':kpIO F.ios (less O (escX x))=true:=by
   unfold kpIO at c3 ⊢
   rw [List.all_eq_true] at c3 ⊢
   exact fun i hi=>(zav (c3 i hi)).1
  obtain ⟨A1,s1,I1⟩:=I.less _ c3'
  have h':PostR (PostS X.K F fresh σ0 Ab Hb (ownS T (.xasgT is x) O) OL D) (WOK cls W F) ((R.nox (evX G Fnc x ρ)).bind fun q=>(setT (.many is) q.1 q.2).bind fun ρ=>.ok (.next,ρ)):=h
  obtain ⟨q,eq,hd⟩:=noxG h'.bind
  obtain ⟨g1,g2,g3⟩:=zcd hy.nd hy.tg c1
  refine ws_of (ps_asg pe_we (zgX hy.calm g1 g2 g3) (by unfold swapsWithSole; exact zaI c5) (zfa c4)) (allX x hy.toHy hy.tk rfl c2 I1 eq fun u H' g=>?_)
  obtain ⟨ρ1,e1,k⟩:=PostR.get (PostR.bind hd) (zbi _ q.1 q.2)
  have k:∀ O',ownS T (.xasgT is x) O=some O' -> EnvAt X.K F σ0 Ab Hb O' ρ1 D.nx:=k
  obtain ⟨A2,s2,I2⟩:=g.env.less is c3
  have hno:∀ i ∈ is,(less (less O (escX x)) is).contains i=false:=fun i hi=>by
   cases z:(less (less O (escX x)) is).contains i with
   | false=>rfl
   | true=>have:=(zav z).2; simp [hi] at this
  have hios:∀ i ∈ F.ios,i ∉ is:=fun i hi z=>by
   have:=zah c3 hi
   rw [hno i z] at this; cases this
  refine zcU (tg:=.many is) I2 (g.rep.weak (zaZ s2)) e1 hno fun σ' I3 f3=>?_
  exact k _ (by rw [ownS]) _ _ _ I3 (((ev.less s1).trans (g.ev I1)).less s2) fun j hj=>(f3.off j (hios j hj)).trans (fr j hj)
theorem zha {ρ:Env} {i:Nat} {α:Type} {p:α -> Prop} {e:Str -> Prop} {f:Pf.D -> R α} (h:PostR p e ((getV ρ i).bind f)):∃ d,ρ[i]?=some (some d) /\ PostR p e (f d):=by
 unfold getV at h
 split at h
 ·rename_i d ed; exact ⟨d,ed,h⟩
 ·exact h.elim
theorem zjP {neg:Bool} {x:Xp} {b:Bool} {X:Cx} {e:Expr} {sc:Scope} {O:List Nat} {G:Str -> Option Pf.D} {Fnc:Fn} {n:Nat} {cls:Str -> Option Addr} {W:WX} {F:Fx} {A:Addr -> Prop} {σ:St} {ρ:Env} {H:Hp} {Q:Bool -> Hp -> Prop} {q:Pf.D × Env}
  (hy:Hy X T G Fnc n cls) (tk:Takes X W) (hs:X.env.scope=sc) (c:chkXT X.N T sc O neg x e=true) (I:EnvR X.K F O A σ ρ H) (ev:evX G Fnc x ρ=.ok q) (eb:zac q.1=.ok b) (k:∀ v H',GotX X.K F A O σ ρ H H' q v -> Q (b != neg) H'):WT X e σ H Q:=by
 have plain:∀ {f:Str} {as:Es} {kk p:Nat} {e:Expr},chkX X.N T sc O (.call f as kk p) e=true -> ∀ whole:Sem Value,PySem.isTrue e X.env whole=(do let v <- whole; standAt e.pos; holding [v] (truthy v)):=by
  intro f as kk p e c wh
  cases e <;> first | rfl | (simp [chkX] at c)
 cases neg with
 | false =>
  cases x with
  | cmpX op a y =>
   replace c:chkX X.N T sc O (.cmpX op a y) e=true:=c
   cases e <;> (try (simp [chkX] at c; done))
   rename_i x os ys p
   match os,ys,c with
   | [o],[yx],c =>
    rw [chkX] at c
    simp only [Bool.and_eq_true] at c
    obtain ⟨⟨⟨c1,c4⟩,c2⟩,c3⟩:=c
    have:=zas c1
    subst this
    obtain ⟨w,e1,ev1⟩:=bind_ok (show (evX G Fnc a ρ).bind _=_ from ev)
    obtain ⟨z,e2,ev2⟩:=bind_ok ev1
    obtain ⟨d,e3,ev3⟩:=bind_ok ev2
    cases ev3
    cases eb
    refine wt_of (pt_cmpR op_om pe_we pe_we (zaS c4)) (allX a hy tk hs c2 I e1 fun v H1 g=>?_)
    refine (allE _).1 hy tk hs c3 g.env ?_
    rw [e2]
    refine fun u H2 g2=>?_
    refine za9 hy.hu (.inl (g.rep.ext g2.ext fun _ _ z=>z)) g2.top e3 ⟨_,rfl,?_⟩
    simpa using k _ H2 ⟨g.env.step g2.ext,g.ext.trans g2.ext.nix,.bl _⟩
  | call f as kk p =>
   replace c:chkX X.N T sc O (.call f as kk p) e=true:=c
   refine wt_of (pt_truth pe_we (plain c)) (allX _ hy tk hs c I ev fun v H1 g=>⟨b,zaY (.inl g.rep) eb,?_⟩)
   simpa using k v H1 g
  | _=>(simp [chkXT] at c)
 | true =>
  cases x with
  | call f as kk p =>
   cases e <;> (try (simp [chkXT] at c; done))
   rename_i o e pp
   cases o <;> (try (simp [chkXT] at c; done))
   replace c:chkX X.N T sc O (.call f as kk p) e=true:=c
   refine wt_of (pt_not (pt_truth pe_we (plain c))) (allX _ hy tk hs c I ev fun v H1 g=>⟨b,zaY (.inl g.rep) eb,?_⟩)
   simpa using k v H1 g
  | _=>(simp [chkXT] at c)
theorem zjQ (i:Nat) (x:Xp):SndS T (.xapp i x):=by
 intro X st EX G Fnc n wf cls W F fresh OL O A Ab σ0 σ ρ H Hb D hy c I ev fr h
 cases st <;> (try (simp [chkS] at c; done))
 rename_i ex pos2
 cases ex <;> (try (simp [chkS] at c; done))
 rename_i fe xs kws pos
 cases fe <;> (try (simp [chkS] at c; done))
 rename_i ox m apos
 cases ox <;> (try (simp [chkS] at c; done))
 rename_i y px
 match xs,kws,c with
 | [v],[],c =>
  rw [chkS] at c
  simp only [Bool.and_eq_true] at c
  obtain ⟨⟨⟨⟨⟨⟨c1,c2⟩,c3⟩,c4⟩,c5⟩,c6⟩,c7⟩:=c
  have em:m="append":=by simpa using c1
  subst em
  obtain ⟨A1,s1,I1⟩:=I.less _ c5
  have h':PostR (PostS X.K F fresh σ0 Ab Hb (ownS T (.xapp i x) O) OL D) (WOK cls W F) ((getV ρ i).bind fun o0=>(lstD o0).bind fun _=>(R.nox (evX G Fnc x ρ)).bind fun q=>(getV q.2 i).bind fun o=>(lstD o).bind fun xs=>R.when (decide (xs.length < sizeLine)) (.ok (.next,q.2.set i (some (.lst (xs ++ [q.1])))))):=h
  obtain ⟨o,eo,h2⟩:=zha h'
  cases o <;> (try exact h2.elim)
  rename_i ds
  have h3:PostR (PostS X.K F fresh σ0 Ab Hb (ownS T (.xapp i x) O) OL D) (WOK cls W F) ((R.nox (evX G Fnc x ρ)).bind fun q=>(getV q.2 i).bind fun o=>(lstD o).bind fun xs=>R.when (decide (xs.length < sizeLine)) (.ok (.next,q.2.set i (some (.lst (xs ++ [q.1])))))):=h2
  obtain ⟨q,eq,hd⟩:=noxG h3.bind
  obtain ⟨o2,eo2,hd2⟩:=zha hd
  cases o2 <;> (try exact hd2.elim)
  rename_i ds2
  have hd3:PostR (PostS X.K F fresh σ0 Ab Hb (ownS T (.xapp i x) O) OL D) (WOK cls W F) (R.when (decide (ds2.length < sizeLine)) (.ok (.next,q.2.set i (some (.lst (ds2 ++ [q.1])))))):=hd2
  obtain ⟨w,qq⟩:=PostR.when (e:=WOK cls W F) hd3
  have qq:∀ O',ownS T (.xapp i x) O=some O' -> EnvAt X.K F σ0 Ab Hb O' (q.2.set i (some (.lst (ds2 ++ [q.1])))) D.nx:=qq
  obtain ⟨a,ea,hA,vs,hv,rv⟩:=I1.own eo c6 rfl
  obtain ⟨v1,v2,v3⟩:=zbw c3
  refine ws_of (ps_expr (pe_bm PySem.F.plainAttrs_list PySem.F.slot_list_append PySem.F.type_list_append mt_append (pe_var (zcV c2).1 v1 v2 v3) (pa_cons pe_we pa_nil (zab (za4 c4))) (zaD rfl) (zbx (by rw [List.all_cons,za4 c4]; rfl) (by simp)) c7 (zab (za4 c4)) rfl) rfl) ?_
  refine ⟨.ref a,ea,.inl ⟨rfl,vs,SqL.of hv⟩,allX x hy.toHy hy.tk rfl c4 I1 eq fun u H' g=>?_⟩
  obtain ⟨a2,ea2,hA2,vs2,hv2,rv2⟩:=g.env.own eo2 c6 rfl
  rw [ea] at ea2
  cases ea2
  refine ⟨a,vs2,u,rfl,rfl,hv2,by rw [<- rv2.length]; exact of_decide_eq_true w,?_⟩
  refine qq _ (by rw [ownS]) _ _ _ (g.env.mutate eo2 c6 rfl ea rfl ⟨vs2 ++ [u],upd_same,(rv2.append (.cons g.rep .nil)).mono (zjF hv2 fun b p z=>p.2 (by rw [z]; exact hA2))⟩) (((ev.less s1).trans (g.ev I1)).write hA2 fun o eo=>?_) fr
  rw [hv2] at eo; cases eo; rfl
theorem zjR (x:Xp):SndS T (.xret x):=by
 intro X st EX G Fnc n wf cls W F fresh OL O A Ab σ0 σ ρ H Hb D hy c I ev fr h
 cases st <;> (try (simp [chkS] at c; done))
 rename_i vo pos
 cases vo with
 | none=>simp [chkS] at c
 | some v =>
  rw [chkS] at c
  simp only [Bool.and_eq_true] at c
  obtain ⟨⟨c0,c1⟩,c2⟩:=c
  have nf:fresh=false:=by simpa using c0
  obtain ⟨A1,s1,I1⟩:=I.less _ c2
  have h':PostR (PostS X.K F fresh σ0 Ab Hb (ownS T (.xret x) O) OL D) (WOK cls W F) ((R.nox (evX G Fnc x ρ)).bind fun q=>.ok (.ret q.1,q.2)):=h
  obtain ⟨q,eq,hd⟩:=noxG h'.bind
  have k:∀ v H',RetOK X.K F fresh σ0 q.1 q.2 v H' -> D.rt v H':=hd
  refine ws_of (ps_ret pe_we) (allX x hy.toHy hy.tk rfl c1 I1 eq fun u H' g=>?_)
  exact k _ _ (zbF g.env fr c2 (g.rep.weak fun b z=>pf_of g.env z) fun z=>by rw [nf] at z; cases z)
theorem zdp (O:List Nat):∀ (es:Es) (ys:List Nat),(∀ i ∈ bareV es,i ∈ ys) -> bares (less O ys) es=false
  | .nil,_,_=>rfl
  | .cons e r,ys,h=>by
    show (bareO (less O ys) e || bares (less O ys) r)=false
    rw [Bool.or_eq_false_iff]
    refine ⟨?_,zdp O r ys fun i hi=>h i (by simp [bareV,hi])⟩
    cases e <;> first
      | rfl
      | (rename_i i
         show (less O ys).contains i=false
         cases c:(less O ys).contains i with
         | false=>rfl
         | true =>
           have:=(zav c).2
           have hm:=h i (by simp [bareV,topV])
           simp [hm] at this)
theorem zdV (O xs:List Nat) (es:Es):bares (less O (bareV es ++ xs)) es=false:=zdp O es _ fun i hi=>List.mem_append_left _ hi
theorem zmM {N:List Str} {sc:Scope} {is:List Nat} {ts vs:List Expr} (h:parB N sc is ts vs=true) :
  (∃ i j x px y py a b,is=[i,j] /\ ts=[.Name x px,.Name y py] /\ vs=[a,b]) \/ ∃ i j l x px y py z pz a b c,is=[i,j,l] /\ ts=[.Name x px,.Name y py,.Name z pz] /\ vs=[a,b,c]:=by
 unfold parB at h
 split at h
 ·exact .inl ⟨_,_,_,_,_,_,_,_,rfl,rfl,rfl⟩
 ·exact .inr ⟨_,_,_,_,_,_,_,_,_,_,_,_,rfl,rfl,rfl⟩
 ·cases h
theorem zmN (is:List Nat) (es:Es):SndS T (.par is es):=by
 intro X st EX G Fnc n wf cls W F fresh OL O A Ab σ0 σ ρ H Hb D hy c I ev fr h
 cases st <;> (try (simp [chkS] at c; done))
 rename_i ts v pos
 obtain ⟨t0,rfl⟩:∃ t0,ts=[t0]:=by
  rcases ts with _ | ⟨t0,_ | ⟨t1,ts⟩⟩
  ·simp [chkS] at c
  ·exact ⟨t0,rfl⟩
  ·cases t0 <;> simp [chkS] at c
 cases t0 <;> (try (simp [chkS] at c; done))
 cases v <;> (try (simp [chkS] at c; done))
 next ts k p vs k2 p2 =>
  rw [chkS] at c
  simp only [Bool.and_eq_true] at c
  obtain ⟨⟨c1,c2⟩,c3⟩:=c
  have c3':kpIO F.ios (less O (bareV es ++ escEs es))=true:=by
   unfold kpIO at c3 ⊢
   rw [List.all_eq_true] at c3 ⊢
   exact fun i hi=>(zav (c3 i hi)).1
  obtain ⟨A1,s1,I1⟩:=I.less _ c3'
  have ev1:=ev.less s1
  have h':PostR (PostS X.K F fresh σ0 Ab Hb (ownS T (.par is es) O) OL D) (WOK cls W F) ((evEs G Fnc es ρ).bind fun x=>R.when (is.length == x.length) (.ok (.next,zar is x ρ))):=h
  have hno:∀ i ∈ is,(less (less O (bareV es ++ escEs es)) is).contains i=false:=fun i hi=>by
   cases z:(less (less O (bareV es ++ escEs es)) is).contains i with
   | false=>rfl
   | true=>have:=(zav z).2; simp [hi] at this
  have hios:∀ i ∈ F.ios,i ∉ is:=fun i hi z=>by
   have:=zah c3 hi
   rw [hno i z] at this; cases this
  have fs:∀ (σ:St) (i:Nat) (u:V),i ∈ is -> FrIO F σ0 σ -> FrIO F σ0 (σ.set i (some u)):=fun σ i u hi fr j hj=>by
   rw [List.getElem?_set_ne (fun z=>hios j hj (by rw [<- z]; exact hi))]; exact fr j hj
  rcases zmM c1 with ⟨i,j,x,px,y,py,a,b,rfl,rfl,rfl⟩ | ⟨i,j,l,x,px,y,py,z,pz,a,b,c,rfl,rfl,rfl⟩
  next =>
   simp only [parB,Bool.and_eq_true] at c1
   obtain ⟨⟨⟨⟨⟨⟨⟨⟨⟨d1,d2⟩,d3⟩,d4⟩,d5⟩,d6⟩,d7⟩,d8⟩,d9⟩,d10⟩:=c1
   have lx:X.env.scope.names.lookup x=some .local:=by simpa using d3
   have ly:X.env.scope.names.lookup y=some .local:=by simpa using d4
   refine ws_of (ps_par hy.calm hy.nd (by simpa using d1) (by simpa using d2) (by simpa using d7) lx ly pa_wa (zpL hy.kind lx ly (by simpa using d5) (by simpa using d6) d8 (by simpa only [Bool.not_eq_true'] using d9) (by simpa only [Bool.not_eq_true'] using d10))) ?_
   refine (allEs es).1 hy.toHy hy.tk rfl c2 I1 (h'.bind.mono (fun ds hd us H' x t pl=>?_) fun c hc=>zap I1 hc)
   obtain ⟨w,hd⟩:=hd.when
   have rr:=pl (zdV _ _ _)
   match ds,us,rr,w,hd with
   | [d1,d2],[u1,u2],.cons r1 (.cons r2 .nil),w,hd =>
    have hd:∀ O',ownS T (.par [i,j] es) O=some O' -> EnvAt X.K F σ0 Ab Hb O' (zar [i,j] [d1,d2] ρ) D.nx:=hd
    obtain ⟨A2,s2,I2⟩:=(I1.step x).less [i,j] c3
    have I3:=zbB I2 (r1.weak (zaZ s2)) (hno i (by simp))
    have I4:=zbB I3 (r2.weak (zaZ s2)) (hno j (by simp))
    exact ⟨u1,u2,rfl,hd _ (by rw [ownS]) _ _ _ I4 ((ev1.grow x).less s2) (fs _ _ _ (by simp) (fs _ _ _ (by simp) fr))⟩
   | [],_,_,w,_=>cases w
   | [_],_,_,w,_=>cases w
   | _ :: _ :: _ :: _,_,_,w,_=>cases w
  next =>
   simp only [parB,Bool.and_eq_true] at c1
   obtain ⟨⟨⟨⟨⟨⟨⟨⟨⟨⟨⟨⟨⟨⟨⟨⟨e1,e2⟩,e3⟩,e4⟩,e5⟩,e6⟩,e7⟩,e8⟩,e9⟩,e10⟩,e11⟩,e12⟩,e13⟩,e14⟩,e15⟩,e16⟩,e17⟩:=c1
   have lx:X.env.scope.names.lookup x=some .local:=by simpa using e4
   have ly:X.env.scope.names.lookup y=some .local:=by simpa using e5
   have lz:X.env.scope.names.lookup z=some .local:=by simpa using e6
   refine ws_of (ps_par3 hy.calm hy.nd (by simpa using e1) (by simpa using e2) (by simpa using e3) (by simpa using e12) (by simpa using e13) (by simpa using e14) lx ly lz pa_wa (zpM hy.kind lx ly lz (by simpa using e7) (by simpa using e8) (by simpa using e9) (by simpa using e10) (by simpa using e11) e15 (by simpa only [Bool.not_eq_true'] using e16) (by simpa only [Bool.not_eq_true'] using e17))) ?_
   refine (allEs es).1 hy.toHy hy.tk rfl c2 I1 (h'.bind.mono (fun ds hd us H' x t pl=>?_) fun c hc=>zap I1 hc)
   obtain ⟨w,hd⟩:=hd.when
   have rr:=pl (zdV _ _ _)
   match ds,us,rr,w,hd with
   | [d1,d2,d3],[u1,u2,u3],.cons r1 (.cons r2 (.cons r3 .nil)),w,hd =>
    have hd:∀ O',ownS T (.par [i,j,l] es) O=some O' -> EnvAt X.K F σ0 Ab Hb O' (zar [i,j,l] [d1,d2,d3] ρ) D.nx:=hd
    obtain ⟨A2,s2,I2⟩:=(I1.step x).less [i,j,l] c3
    have I3:=zbB I2 (r1.weak (zaZ s2)) (hno i (by simp))
    have I4:=zbB I3 (r2.weak (zaZ s2)) (hno j (by simp))
    have I5:=zbB I4 (r3.weak (zaZ s2)) (hno l (by simp))
    exact ⟨u1,u2,u3,rfl,hd _ (by rw [ownS]) _ _ _ I5 ((ev1.grow x).less s2) (fs _ _ _ (by simp) (fs _ _ _ (by simp) (fs _ _ _ (by simp) fr)))⟩
   | [],_,_,w,_=>cases w
   | [_],_,_,w,_=>cases w
   | [_,_],_,_,w,_=>cases w
   | _ :: _ :: _ :: _ :: _,_,_,w,_=>cases w
end
end L2.Pf
namespace L2.Pf
open PySem PySem.Spec PyProof.Rows
section
variable {K:PySem.W.Frag} {F:Fx} {fresh:Bool} {σ0:St} {Ab:Addr -> Prop} {Hb:Hp} {D:Ends}
theorem zjS {O O2:List Nat} {ρ:Env} {Nx:St -> Hp -> Prop} (h:EnvAt K F σ0 Ab Hb O2 ρ Nx) (s:O2.all O.contains=true) (hio:kpIO F.ios O2=true):EnvAt K F σ0 Ab Hb O ρ Nx:=fun σ' H' A' I ev fr=>by
 obtain ⟨A2,s2,I2⟩:=I.to s hio
 exact h σ' H' A2 I2 (ev.less s2) fr
theorem zci {On On2:Option (List Nat)} {OL:List Nat} {p:Fl × Env} (s:∀ O,On=some O -> ∃ O2,On2=some O2 /\ O2.all O.contains=true /\ kpIO F.ios O2=true) (h:PostS K F fresh σ0 Ab Hb On2 OL D p):PostS K F fresh σ0 Ab Hb On OL D p:=by
 obtain ⟨f,ρ⟩:=p
 cases f with
 | next =>
  intro O eO
  obtain ⟨O2,e2,s1,s2⟩:=s O eO
  exact zjS (h O2 e2) s1 s2
 | brk=>exact h
 | cont=>exact h
 | ret d=>exact h
end
theorem zc1 (O:List Nat):O.all O.contains=true:=by
 rw [List.all_eq_true]; intro i hi; simpa using hi
theorem zfb (f:List Nat -> Option (List Nat)) (O:List Nat):∀ i ∈ head1 f O,i ∈ O:=by
 intro i hi
 unfold head1 at hi
 split at hi
 ·exact hi
 ·exact (List.mem_filter.mp hi).1
theorem zfc (f:List Nat -> Option (List Nat)) (O:List Nat):∀ i ∈ headO f O,i ∈ O:=fun i hi=>zfb f O i (zfb f _ i hi)
theorem zfd (f:List Nat -> Option (List Nat)) (O:List Nat):(headO f O).all O.contains=true:=by
 rw [List.all_eq_true]; intro i hi; simpa using zfc f O i hi
theorem zdW (O xs:List Nat) (it:It):bareI (less O (topI it ++ xs)) it=false:=by
  have key:∀ (e:E) (pre post:List Nat),bareO (less O (pre ++ topV e ++ post)) e=false:=fun e pre post=>by
    cases e <;> first
      | rfl
      | (rename_i i
         show (less O _).contains i=false
         cases c:(less O (pre ++ topV (.var i) ++ post)).contains i with
         | false=>rfl
         | true=>have:=(zav c).2; simp [topV] at this)
  cases it with
  | seq e=>simpa [topI,bareI] using key e [] xs
  | range1 a=>rfl
  | range2 a b=>rfl
  | range3 a b c=>rfl
  | zip2 a b =>
    have h1:=key a [] (topV b ++ xs)
    have h2:=key b (topV a) xs
    simp only [topI,bareI,List.nil_append,List.append_assoc] at h1 h2 ⊢
    rw [h1,h2]; rfl
  | zip3 a b c =>
    have h1:=key a [] (topV b ++ (topV c ++ xs))
    have h2:=key b (topV a) (topV c ++ xs)
    have h3:=key c (topV a ++ topV b) xs
    simp only [topI,bareI,List.nil_append,List.append_assoc] at h1 h2 h3 ⊢
    rw [h1,h2,h3]; rfl
  | enum a=>simpa [topI,bareI] using key a [] xs
  | keys a=>simpa [topI,bareI] using key a [] xs
  | items a=>simpa [topI,bareI] using key a [] xs
  | sorted a=>simpa [topI,bareI] using key a [] xs
  | rev a=>simpa [topI,bareI] using key a [] xs
section
variable {T:List Def}
theorem sndC (m:E):∀ {X:Cx} {e:Expr} {sc:Scope} {O:List Nat} {G:Str -> Option Pf.D} {Fnc:Fn} {n:Nat} {cls:Str -> Option Addr} {W:WX} {F:Fx} {A:Addr -> Prop} {σ:St} {ρ:Pf.Env} {H:Hp} {Q:Bool -> Hp -> Prop},
  Hy X T G Fnc n cls -> Takes X W -> X.env.scope=sc -> chkC X.N T sc O m e=true -> EnvR X.K F O A σ ρ H →
  PostR (fun b=>∀ H',Ext Nix H H' -> Q b H') (ExW cls W σ H) ((evE G Fnc m ρ).bind zac) -> WT X e σ H Q:=by
 intro X e sc O G Fnc n cls W F A σ ρ H Q hy tk hs c I h
 cases m <;> (try exact (allE _).2 hy tk hs c I h)
 ·rename_i es
  cases e <;> (try exact (allE (.and es)).2 hy tk hs c I h)
  rename_i o xs p
  cases o
  ·exact fun pins s I0=>((allEs es).2.2.1 hy tk hs c I).1 h _ pins s I0
  ·exact (allE (.and es)).2 hy tk hs c I h
 ·rename_i es
  cases e <;> (try exact (allE (.or es)).2 hy tk hs c I h)
  rename_i o xs p
  cases o
  ·exact (allE (.or es)).2 hy tk hs c I h
  ·exact fun pins s I0=>((allEs es).2.2.1 hy tk hs c I).2 h _ pins s I0
theorem zmO {c:E} {a b:Ss} (ha:SndSs T a) (hb:SndSs T b):SndS T (.ifs c a b):=by
 intro X st EX G Fnc n wf cls W F fresh OL O A Ab σ0 σ ρ H Hb D hy ck I ev fr h
 cases st <;> (try (simp [chkS] at ck; done))
 rename_i v p q pos
 rw [chkS] at ck
 simp only [Bool.and_eq_true] at ck
 obtain ⟨⟨⟨⟨c1,c2⟩,c3⟩,c4⟩,c5⟩:=ck
 obtain ⟨A1,s1,I1⟩:=I.less _ c2
 have h':PostR (PostS X.K F fresh σ0 Ab Hb (ownS T (.ifs c a b) O) OL D) (WOK cls W F) (((evE G Fnc c ρ).bind zac).bind fun x=>if x=true then evSs G Fnc wf a ρ else evSs G Fnc wf b ρ):=h
 have eo:ownS T (.ifs c a b) O=meet (ownSs T a (less O (escC c))) (ownSs T b (less O (escC c))):=by rw [ownS]
 rw [eo] at h' c5
 refine ws_of (ps_if pt_wt zai zai) ((sndC c) hy.toHy hy.tk rfl c1 I1 (h'.bind.mono (fun d hd H' x=>?_) fun c hc=>zap I1 hc))
 have I2:=I1.step x
 have ev2:=(ev.less s1).grow x
 cases d with
 | true =>
  rw [if_pos rfl] at hd ⊢
  refine ha hy c3 I2 ev2 fr (hd.mono (fun p hp=>zci (fun O' e=>?_) hp) fun _ z=>z)
  rw [e] at c5 ⊢
  cases eb:ownSs T b (less O (escC c)) with
  | none=>exact ⟨O',rfl,zc1 O',by rw [eb] at c5; exact c5⟩
  | some B =>
   rw [eb] at c5
   exact ⟨_,rfl,by rw [List.all_eq_true]; intro i hi; simpa using (List.mem_filter.mp hi).1,c5⟩
 | false =>
  rw [if_neg Bool.false_ne_true] at hd ⊢
  refine hb hy c4 I2 ev2 fr (hd.mono (fun p hp=>zci (fun O' e=>?_) hp) fun _ z=>z)
  rw [e] at c5 ⊢
  cases eb:ownSs T a (less O (escC c)) with
  | none=>exact ⟨O',rfl,zc1 O',by rw [eb] at c5; exact c5⟩
  | some B =>
   rw [eb] at c5
   exact ⟨_,rfl,by rw [List.all_eq_true]; intro i hi; simpa using (List.mem_filter.mp hi).2,c5⟩
theorem zmP {neg:Bool} {x:Xp} {a b:Ss} (ha:SndSs T a) (hb:SndSs T b):SndS T (.xif neg x a b):=by
 intro X st EX G Fnc n wf cls W F fresh OL O A Ab σ0 σ ρ H Hb D hy ck I ev fr h
 cases st <;> (try (simp [chkS] at ck; done))
 rename_i v p q pos
 rw [chkS] at ck
 simp only [Bool.and_eq_true] at ck
 obtain ⟨⟨⟨⟨c1,c2⟩,c3⟩,c4⟩,c5⟩:=ck
 obtain ⟨A1,s1,I1⟩:=I.less _ c2
 have h':PostR (PostS X.K F fresh σ0 Ab Hb (ownS T (.xif neg x a b) O) OL D) (WOK cls W F) ((R.nox (evX G Fnc x ρ)).bind fun q=>(zac q.1).bind fun k=>if (k != neg)=true then evSs G Fnc wf a q.2 else evSs G Fnc wf b q.2):=h
 have eo:ownS T (.xif neg x a b) O=meet (ownSs T a (less O (escX x))) (ownSs T b (less O (escX x))):=by rw [ownS]
 rw [eo] at h' c5
 obtain ⟨w,ew,hd⟩:=noxG h'.bind
 obtain ⟨k,ek,hd⟩:=hd.bind.get (zau w.1)
 refine ws_of (ps_if pt_wt zai zai) (zjP hy.toHy hy.tk rfl c1 I1 ew ek fun v H' g=>?_)
 have I2:=g.env
 have ev2:=(ev.less s1).trans (g.ev I1)
 cases ekn:(k != neg) with
 | true =>
  rw [ekn,if_pos rfl] at hd
  rw [if_pos rfl]
  refine ha hy c3 I2 ev2 fr (hd.mono (fun p hp=>zci (fun O' e=>?_) hp) fun _ z=>z)
  rw [e] at c5 ⊢
  cases eb:ownSs T b (less O (escX x)) with
  | none=>exact ⟨O',rfl,zc1 O',by rw [eb] at c5; exact c5⟩
  | some B =>
   rw [eb] at c5
   exact ⟨_,rfl,by rw [List.all_eq_true]; intro i hi; simpa using (List.mem_filter.mp hi).1,c5⟩
 | false =>
  rw [ekn,if_neg Bool.false_ne_true] at hd
  rw [if_neg Bool.false_ne_true]
  refine hb hy c4 I2 ev2 fr (hd.mono (fun p hp=>zci (fun O' e=>?_) hp) fun _ z=>z)
  rw [e] at c5 ⊢
  cases eb:ownSs T a (less O (escX x)) with
  | none=>exact ⟨O',rfl,zc1 O',by rw [eb] at c5; exact c5⟩
  | some B =>
   rw [eb] at c5
   exact ⟨_,rfl,by rw [List.all_eq_true]; intro i hi; simpa using (List.mem_filter.mp hi).2,c5⟩
theorem zmQ {c:E} {b:Ss} (hb:SndSs T b):SndS T (.whl c b):=by
 intro X st EX G Fnc n wf cls W F fresh OL O A Ab σ0 σ ρ H Hb D hy ck I ev fr h
 cases st <;> (try (simp [chkS] at ck; done))
 rename_i v p els pos
 cases els <;> (try (simp [chkS] at ck; done))
 rw [chkS] at ck
 simp only [Bool.and_eq_true] at ck
 obtain ⟨⟨⟨c1,c2⟩,c3⟩,c4⟩:=ck
 have eo:ownS T (.whl c b) O=some (headO (ownSs T b) (less O (escE c))):=by rw [ownS]
 have h':PostR (PostS X.K F fresh σ0 Ab Hb (ownS T (.whl c b) O) OL D) (WOK cls W F) (zaE (evT G Fnc c) (evSs G Fnc wf b) wf ρ):=h
 rw [eo] at h'
 have hs:(headO (ownSs T b) (less O (escE c))).all O.contains=true:=by
  rw [List.all_eq_true]; intro i hi
  have:=zfc _ _ i hi
  unfold less at this
  simpa using (List.mem_filter.mp this).1
 generalize headO (ownSs T b) (less O (escE c))=Oh at *
 obtain ⟨A1,s1,I1⟩:=I.to hs c2
 refine ws_of (ps_while hy.po pt_wt zai) ⟨fun m σ' H'=>∃ ρ' A',EnvR X.K F Oh A' σ' ρ' H' /\ Ev Ab Hb A' H' /\ FrIO F σ0 σ' /\ PostR (PostS X.K F fresh σ0 Ab Hb (some Oh) OL D) (WOK cls W F) (zaE (evT G Fnc c) (evSs G Fnc wf b) m ρ'),
  ⟨wf,ρ,A1,I1,ev.less s1,fr,h'⟩,?_⟩
 rintro m σ1 H1 ⟨ρ1,A2,I2,ev2,fr2,h2⟩
 cases m with
 | zero=>exact h2.elim
 | succ m =>
  have h3:PostR (PostS X.K F fresh σ0 Ab Hb (some Oh) OL D) (WOK cls W F) (((evE G Fnc c ρ1).bind zac).bind fun x=>if x=true then (evSs G Fnc wf b ρ1).bind fun p=>(match p.1 with
   | .next=>zaE (evT G Fnc c) (evSs G Fnc wf b) m p.2
   | .cont=>zaE (evT G Fnc c) (evSs G Fnc wf b) m p.2
   | .brk=>.ok (.next,p.2)
   | .ret d=>.ok (.ret d,p.2)) else .ok (.next,ρ1)):=h2
  refine (allE c).2 hy.toHy hy.tk rfl c1 I2 (h3.bind.mono (fun d hd H' x=>?_) fun c hc=>zap I2 hc)
  have I3:=I2.step x
  have ev3:=ev2.grow x
  cases d with
  | false =>
   rw [if_neg Bool.false_ne_true] at hd ⊢
   have hd:∀ O',some Oh=some O' -> EnvAt X.K F σ0 Ab Hb O' ρ1 D.nx:=hd
   exact hd Oh rfl _ _ _ I3 ev3 fr2
  | true =>
   rw [if_pos rfl] at hd ⊢
   refine ⟨_,fun σ' H' w=>⟨m,Nat.lt_succ_self m,w⟩,?_⟩
   refine hb hy c3 I3 ev3 fr2 (hd.bind.mono (fun p hp=>?_) fun _ z=>z)
   obtain ⟨f,ρ2⟩:=p
   cases f with
   | next =>
    intro O' eO σ' H'' A' I4 ev4 fr4
    rw [eO] at c4
    obtain ⟨A5,s5,I5⟩:=I4.to c4 c2
    exact ⟨ρ2,A5,I5,ev4.less s5,fr4,hp⟩
   | cont=>exact fun σ' H'' A' I4 ev4 fr4=>⟨ρ2,A',I4,ev4,fr4,hp⟩
   | brk=>exact hp Oh rfl
   | ret d=>exact hp
theorem zmR {t:Tg} {it:It} {b:Ss} (hb:SndSs T b):SndS T (.for t it b):=by
 intro X st EX G Fnc n wf cls W F fresh OL O A Ab σ0 σ ρ H Hb D hy ck I ev fr h
 cases st <;> (try (simp [chkS] at ck; done))
 rename_i tg ix p els pos
 cases els <;> (try (simp [chkS] at ck; done))
 rw [chkS] at ck
 simp only [Bool.and_eq_true] at ck
 obtain ⟨⟨⟨⟨c1,c2⟩,c3⟩,c4⟩,c5⟩:=ck
 have eo:ownS T (.for t it b) O=some (headO (ownSs T b) (less (less O (topI it ++ escI it)) (zan t))):=by rw [ownS]
 have h':PostR (PostS X.K F fresh σ0 Ab Hb (ownS T (.for t it b) O) OL D) (WOK cls W F) ((evI G Fnc it ρ).bind fun xs=>zam t (evSs G Fnc wf b) xs ρ):=h
 rw [eo] at h'
 have hs:=zfd (ownSs T b) (less (less O (topI it ++ escI it)) (zan t))
 generalize headO (ownSs T b) (less (less O (topI it ++ escI it)) (zan t))=Oh at *
 have hs1:Oh.all (less O (topI it ++ escI it)).contains=true:=by
  rw [List.all_eq_true] at hs ⊢
  exact fun i hi=>(zav (hs i hi)).1
 have hs2:∀ i ∈ zan t,Oh.contains i=false:=fun i hi=>by
  cases z:Oh.contains i with
  | false=>rfl
  | true =>
   have:=(zav (zah hs (by simpa using z))).2
   simp [hi] at this
 have hio1:kpIO F.ios (less O (topI it ++ escI it))=true:=by
  unfold kpIO at c3 ⊢
  rw [List.all_eq_true] at c3 ⊢
  exact fun i hi=>zah hs1 (by simpa using c3 i hi)
 have hios:∀ i ∈ F.ios,i ∉ zan t:=fun i hi z=>by
  have:=zah c3 hi
  rw [hs2 i z] at this; cases this
 obtain ⟨A1,s1,I1⟩:=I.less _ hio1
 refine ws_of (ps_for (g:=gTg X.K t) hy.po hy.calm pi_wi (pg_tg hy.calm hy.nd hy.tg c2) zai (zaX (zbp c1))) ?_
 refine (allI it) hy.toHy hy.tk rfl c1 I1 (h'.bind.mono (fun xs hxs J H1 x1 itok=>?_) fun c hc=>zap I1 hc)
 obtain ⟨Ah,sh,Ih⟩:=(I1.step x1).to hs1 c3
 have itk:=itok Ah sh (.inr (zdW _ _ _))
 have evh:Ev Ab Hb Ah H1:=((ev.less s1).grow x1).less sh
 refine ⟨fun i m σ' H'=>m=xs.length - i /\ i <= xs.length /\ ∃ ρ' A',EnvR X.K F Oh A' σ' ρ' H' /\ Ev Ah H1 A' H' /\ FrIO F σ0 σ' /\ PostR (PostS X.K F fresh σ0 Ab Hb (some Oh) OL D) (WOK cls W F) (zam t (evSs G Fnc wf b) (xs.drop i) ρ'),
  ⟨xs.length,by simp,Nat.zero_le _,ρ,Ah,Ih,Ev.refl,fr,by simpa using hxs⟩,?_⟩
 rintro i m σ1 H2 ⟨rfl,hi,ρ1,A2,I2,ev2,fr2,h2⟩
 by_cases hlt:i < xs.length
 ·refine .inr ?_
  have ex:xs[i]?=some xs[i]:=List.getElem?_eq_getElem hlt
  obtain ⟨go,yl⟩:=itk.go H2 A2 ev2.ext (fun b z=>(ev2.sub b z).imp (sh b) id) i xs[i] ex
  refine ⟨go,fun σ' H'=>∃ ρ' A',EnvR X.K F Oh A' σ' ρ' H' /\ Ev Ah H1 A' H' /\ FrIO F σ0 σ' /\ PostR (PostS X.K F fresh σ0 Ab Hb (some Oh) OL D) (WOK cls W F) (zam t (evSs G Fnc wf b) (xs.drop (i+1)) ρ'),
   fun σ' H' w=>⟨xs.length - (i+1),by omega,rfl,hlt,w⟩,fun x H' y=>?_⟩
  obtain ⟨x2,rx⟩:=yl x H' y
  rw [List.drop_eq_getElem_cons hlt] at h2
  have h3:PostR (PostS X.K F fresh σ0 Ab Hb (some Oh) OL D) (WOK cls W F) ((setT t xs[i] ρ1).bind fun ρ1=>(evSs G Fnc wf b ρ1).bind fun p=>match p.1 with
   | .next=>zam t (evSs G Fnc wf b) (xs.drop (i+1)) p.2
   | .cont=>zam t (evSs G Fnc wf b) (xs.drop (i+1)) p.2
   | .brk=>.ok (.next,p.2)
   | .ret d=>.ok (.ret d,p.2)):=h2
  obtain ⟨ρ2,e2,h4⟩:=h3.bind.get (zbi _ _ _)
  refine zcU (I2.step x2) rx e2 hs2 fun σ2 I3 f3=>?_
  have fr3:FrIO F σ0 σ2:=fun j hj=>(f3.off j (hios j hj)).trans (fr2 j hj)
  refine hb hy c4 I3 (ev2.grow x2) fr3 (h4.bind.mono (fun p hp=>?_) fun _ z=>z)
  obtain ⟨f,ρ3⟩:=p
  cases f with
  | next =>
   intro O' eO σ' H'' A' I4 ev4 fr4
   rw [eO] at c5
   obtain ⟨A5,s5,I5⟩:=I4.to c5 c3
   exact ⟨ρ3,A5,I5,ev4.less s5,fr4,hp⟩
  | cont=>exact fun σ' H'' A' I4 ev4 fr4=>⟨ρ3,A',I4,ev4,fr4,hp⟩
  | brk=>exact fun σ' H'' A' I4 ev4 fr4=>hp Oh rfl σ' H'' A' I4 (evh.trans ev4) fr4
  | ret d=>exact hp
 ·have ei:i=xs.length:=by omega
  refine .inl ⟨itk.stop H2 ev2.ext i (by omega),?_⟩
  have hdr:xs.drop i=[]:=List.drop_eq_nil_iff.mpr (by omega)
  rw [hdr] at h2
  have h2:∀ O',some Oh=some O' -> EnvAt X.K F σ0 Ab Hb O' ρ1 D.nx:=h2
  exact h2 Oh rfl _ _ _ I2 (evh.trans ev2) fr2
theorem zmS:SndS T .brk:=by
 intro X st EX G Fnc n wf cls W F fresh OL O A Ab σ0 σ ρ H Hb D hy ck I ev fr h
 cases st <;> (try (simp [chkS] at ck; done))
 rename_i pos
 rw [chkS,Bool.and_eq_true] at ck
 obtain ⟨A1,s1,I1⟩:=I.to (show OL.all O.contains=true from ck.1) ck.2
 have h':EnvAt X.K F σ0 Ab Hb OL ρ D.bk:=h
 exact ws_of ps_break (h' _ _ _ I1 (ev.less s1) fr)
theorem zjT:SndS T .cont:=by
 intro X st EX G Fnc n wf cls W F fresh OL O A Ab σ0 σ ρ H Hb D hy ck I ev fr h
 cases st <;> (try (simp [chkS] at ck; done))
 rename_i pos
 rw [chkS,Bool.and_eq_true] at ck
 obtain ⟨A1,s1,I1⟩:=I.to (show OL.all O.contains=true from ck.1) ck.2
 have h':EnvAt X.K F σ0 Ab Hb OL ρ D.ct:=h
 exact ws_of ps_continue (h' _ _ _ I1 (ev.less s1) fr)
theorem zjU:SndS T .pass:=by
 intro X st EX G Fnc n wf cls W F fresh OL O A Ab σ0 σ ρ H Hb D hy ck I ev fr h
 cases st <;> (try (simp [chkS] at ck; done))
 have h':∀ O',some O=some O' -> EnvAt X.K F σ0 Ab Hb O' ρ D.nx:=h
 exact ws_of ps_pass (h' O rfl _ _ _ I ev fr)
theorem zhX (c:Str):SndS T (.raise c):=by
 intro X st EX G Fnc n wf cls W F fresh OL O A Ab σ0 σ ρ H Hb D hy ck I ev fr h
 cases st <;> (try (simp [chkS] at ck; done))
 rename_i eo co pos
 cases eo <;> (try (simp [chkS] at ck; done))
 rename_i v
 cases v <;> (try (simp [chkS] at ck; done))
 rename_i fe xs kws p2
 cases fe <;> (try (simp [chkS] at ck; done))
 rename_i x px
 cases co <;> (try (simp [chkS] at ck; done))
 rcases kws with _ | ⟨k0,kws⟩ <;> (try (simp [chkS] at ck; done))
 obtain ⟨t0,rfl⟩:∃ t0,xs=[t0]:=by
  rcases xs with _ | ⟨t0,_ | ⟨t1,ts⟩⟩
  ·simp [chkS] at ck
  ·exact ⟨t0,rfl⟩
  ·cases t0 <;> simp [chkS] at ck
 cases t0 <;> (try (simp [chkS] at ck; done))
 rename_i t1 j p3
 cases t1 <;> (try (simp [chkS] at ck; done))
 next m =>
  rw [chkS,Bool.and_eq_true,Bool.and_eq_true] at ck
  have ex:c=x:=by simpa using ck.1.1
  subst ex
  obtain ⟨g1,g2,g3⟩:=gl_of ck.1.2
  have h':WOK cls W F c:=h
  obtain ⟨C,eC,mk⟩:=hy.mks c ck.2 g1 g2
  exact ws_of (ps_raise hy.calm hy.tk (mk X.pn X.xe m j px p3 p2)) (h' C σ H eC I.ext)
end
end L2.Pf
namespace L2.Pf
open PySem PySem.Spec PyProof.Rows
section
variable {K:PySem.W.Frag} {F:Fx} {O:List Nat} {A:Addr -> Prop} {σ:St} {ρ:Env} {H:Hp}
theorem le_wr {a:Addr} {o u:HO} (hA:A a) (hm:H a=some u) (mu:mutO u=true):Le (PPa F A) (PPa F A) H (upd H a o) :=
 ⟨fun b w hw eb=>by
  have ne:b ≠ a:=by
   intro z; subst z
   rw [hm] at eb; cases eb; exact zb7 hw mu
  rw [upd_ne ne]; exact eb,fun b u _ q r=>by
  have ne:b ≠ a:=fun z=>by subst z; exact q.2 hA
  rcases r with r | ⟨ob,r⟩
  ·exact .inl (by rw [upd_ne ne]; exact r)
  ·exact .inr ⟨ob,by rw [upd_ne ne]; exact r⟩,fun _ _ _ q _=>q⟩
theorem zbu {ρ:Env} {i:Nat} {α:Type} {p:α -> Prop} {e:Str -> Prop} {f:D -> R α} (h:PostR p e ((getV ρ i).bind f)):∃ d,ρ[i]?=some (some d) /\ PostR p e (f d):=by
 unfold getV at h
 split at h
 ·rename_i d ed; exact ⟨d,ed,h⟩
 ·exact h.elim
theorem zfe {i:Nat} {xs ys:List D} {a:Addr} {vs us:List V} (I:EnvR K F O A σ ρ H) (e:ρ[i]?=some (some (.lst xs))) (ho:O.contains i=true) (es:σ[i]?=some (some (.ref a))) (hA:A a) (hv:H a=some (.lst vs)) (r:Reps K H (PPa F A) ys us) :
  EnvR K F O A σ (ρ.set i (some (.lst ys))) (upd H a (.lst us)):=I.mutate e ho rfl es rfl ⟨us,upd_same,r.mono (le_wr hA hv rfl)⟩
end
section
variable {T:List Def}
theorem pvar {X:Cx} {i:Nat} {x:Str} {p:Pos} (h1:locB X.N X.env.scope i x=true) (h2:visB X.env.scope x=true):PE X (.Name x p) (tVar i):=by
 obtain ⟨v1,v2,v3⟩:=zbw h2
 exact pe_var (zcV h1).1 v1 v2 v3
theorem zfQ (i:Nat) (e:E):SndS T (.append i e):=by
 intro X st EX G Fnc n wf cls W F fresh OL O A Ab σ0 σ ρ H Hb D hy c I ev fr h
 cases st <;> (try (simp [chkS] at c; done))
 rename_i ex pos2
 cases ex <;> (try (simp [chkS] at c; done))
 rename_i fe xs kws pos
 cases fe <;> (try (simp [chkS] at c; done))
 rename_i ox m apos
 cases ox <;> (try (simp [chkS] at c; done))
 rename_i x px
 match xs,kws,c with
 | [v],[],c =>
  rw [chkS] at c
  simp only [Bool.and_eq_true] at c
  obtain ⟨⟨⟨⟨⟨⟨c1,c2⟩,c3⟩,c4⟩,c5⟩,c6⟩,c7⟩:=c
  have em:m="append":=by simpa using c1
  subst em
  obtain ⟨A1,s1,I1⟩:=I.less _ c5
  have h':PostR (PostS X.K F fresh σ0 Ab Hb (ownS T (.append i e) O) OL D) (WOK cls W F) ((getV ρ i).bind fun o=>match o with
   | .lst xs=>(evE G Fnc e ρ).bind fun x=>R.when (decide (xs.length < sizeLine)) (.ok (.next,ρ.set i (some (.lst (xs ++ [x])))))
   | _=>.bad):=h
  obtain ⟨o,eo,h2⟩:=zbu h'
  cases o <;> (try exact h2.elim)
  rename_i ds
  have h3:PostR (PostS X.K F fresh σ0 Ab Hb (ownS T (.append i e) O) OL D) (WOK cls W F) ((evE G Fnc e ρ).bind fun x=>R.when (decide (ds.length < sizeLine)) (.ok (.next,ρ.set i (some (.lst (ds ++ [x])))))):=h2
  obtain ⟨a,ea,hA,vs,hv,rv⟩:=I1.own eo c6 rfl
  refine ws_of (ps_expr (pe_bm PySem.F.plainAttrs_list PySem.F.slot_list_append PySem.F.type_list_append mt_append (pvar c2 c3) (pa_cons pe_we pa_nil (zab (zaa _ _ c4))) (zaD rfl) (zbx (by rw [List.all_cons,zaa _ _ c4]; rfl) (by simp)) c7 (zab (zaa _ _ c4)) rfl) rfl) ?_
  refine ⟨.ref a,ea,.inl ⟨rfl,vs,SqL.of hv⟩,(allE e).1 hy.toHy hy.tk rfl c4 I1 (h3.bind.mono (fun d hd u H' g=>?_) fun c hc=>zap I1 hc)⟩
  obtain ⟨w,q⟩:=PostR.when (e:=WOK cls W F) hd
  have q:∀ O',ownS T (.append i e) O=some O' -> EnvAt X.K F σ0 Ab Hb O' (ρ.set i (some (.lst (ds ++ [d])))) D.nx:=q
  have hv':=g.ext.all hv
  refine ⟨a,vs,u,rfl,rfl,hv',by rw [<- rv.length]; exact of_decide_eq_true w,?_⟩
  refine q _ (by rw [ownS]) _ _ _ (zfe (I1.step g.ext) eo c6 ea hA hv' ((rv.ext g.ext fun _ _ z=>z).append (.cons (g.rep (zaN _ _ _)) .nil))) (((ev.less s1).grow g.ext).write hA fun o eo=>?_) fr
  rw [hv'] at eo; cases eo; rfl
theorem zfR (i:Nat) (k e:E):SndS T (.insert i k e):=by
 intro X st EX G Fnc n wf cls W F fresh OL O A Ab σ0 σ ρ H Hb D hy c I ev fr h
 cases st <;> (try (simp [chkS] at c; done))
 rename_i ex pos2
 cases ex <;> (try (simp [chkS] at c; done))
 rename_i fe xs kws pos
 cases fe <;> (try (simp [chkS] at c; done))
 rename_i ox m apos
 cases ox <;> (try (simp [chkS] at c; done))
 rename_i x px
 match xs,kws,c with
 | [y,v],[],c =>
  rw [chkS] at c
  simp only [Bool.and_eq_true] at c
  obtain ⟨⟨⟨⟨⟨⟨⟨c1,c2⟩,c3⟩,c8⟩,c4⟩,c5⟩,c6⟩,c7⟩:=c
  have em:m="insert":=by simpa using c1
  subst em
  obtain ⟨A1,s1,I1⟩:=I.less _ c5
  have h':PostR (PostS X.K F fresh σ0 Ab Hb (ownS T (.insert i k e) O) OL D) (WOK cls W F) ((getV ρ i).bind fun o=>match o with
   | .lst xs=>(evE G Fnc k ρ).bind fun k=>(evE G Fnc e ρ).bind fun x=>(dInt k).bind fun n=>R.when (decide (xs.length < sizeLine) && decide (0 <= n) && decide (n < 2 ^ 63)) (.ok (.next,ρ.set i (some (.lst (xs.take n.toNat ++ [x] ++ xs.drop n.toNat)))))
   | _=>.bad):=h
  obtain ⟨o,eo,h2⟩:=zbu h'
  cases o <;> (try exact h2.elim)
  rename_i ds
  have h3:PostR (PostS X.K F fresh σ0 Ab Hb (ownS T (.insert i k e) O) OL D) (WOK cls W F) ((evE G Fnc k ρ).bind fun k=>(evE G Fnc e ρ).bind fun x=>(dInt k).bind fun n=>R.when (decide (ds.length < sizeLine) && decide (0 <= n) && decide (n < 2 ^ 63)) (.ok (.next,ρ.set i (some (.lst (ds.take n.toNat ++ [x] ++ ds.drop n.toNat)))))):=h2
  obtain ⟨a,ea,hA,vs,hv,rv⟩:=I1.own eo c6 rfl
  refine ws_of (ps_expr (pe_bm PySem.F.plainAttrs_list PySem.F.slot_list_insert PySem.F.type_list_insert mt_insert (pvar c2 c3) (pa_cons pe_we (pa_cons pe_we pa_nil (zab (zaa _ _ c4))) (zab (zaa _ _ c8))) (zaD rfl) (zbx (by rw [List.all_cons,List.all_cons,zaa _ _ c8,zaa _ _ c4]; rfl) (by simp)) c7 (zab (zaa _ _ c8)) (zao (by rw [List.all_cons,zaa _ _ c4]; rfl))) rfl) ?_
  refine ⟨.ref a,ea,.inl ⟨rfl,vs,SqL.of hv⟩,(allE k).1 hy.toHy hy.tk rfl c8 I1 (h3.bind.mono (fun kd hk w H1 g1=>?_) fun c hc=>zap I1 hc)⟩
  have I2:=I1.step g1.ext
  refine (allE e).1 hy.toHy hy.tk rfl c4 I2 (hk.bind.mono (fun d hd u H' g=>?_) fun c hc=>zap I2 hc)
  obtain ⟨z,ez,hd⟩:=hd.bind.get (zaF kd)
  cases kd <;> cases ez
  obtain rfl:=g1.top.int
  obtain ⟨w,q⟩:=PostR.when (e:=WOK cls W F) hd
  rw [Bool.and_eq_true,Bool.and_eq_true] at w
  have q:∀ O',ownS T (.insert i k e) O=some O' -> EnvAt X.K F σ0 Ab Hb O' (ρ.set i (some (.lst (ds.take z.toNat ++ [d] ++ ds.drop z.toNat)))) D.nx:=q
  have x:=g1.ext.trans g.ext
  have hv':=x.all hv
  refine ⟨a,vs,z,u,rfl,rfl,hv',by rw [<- rv.length]; exact of_decide_eq_true w.1.1,of_decide_eq_true w.1.2,of_decide_eq_true w.2,?_⟩
  have rv':=rv.ext x fun _ _ z=>z
  have rd:Rep X.K H' (PPa F A1) d u:=g.rep (by
   have:=zaN O (escE e ++ escE k) e
   rw [<- List.append_assoc] at this
   exact this)
  refine q _ (by rw [ownS]) _ _ _ (zfe (I2.step g.ext) eo c6 ea hA hv' ((rv'.take _).append (.cons rd .nil) |>.append (rv'.drop _))) (((ev.less s1).grow x).write hA fun o eo=>?_) fr
  rw [hv'] at eo; cases eo; rfl
theorem zmT (i:Nat):SndS T (.pop i):=by
 intro X st EX G Fnc n wf cls W F fresh OL O A Ab σ0 σ ρ H Hb D hy c I ev fr h
 cases st <;> (try (simp [chkS] at c; done))
 rename_i ex pos2
 cases ex <;> (try (simp [chkS] at c; done))
 rename_i fe xs kws pos
 cases fe <;> (try (simp [chkS] at c; done))
 rename_i ox m apos
 cases ox <;> (try (simp [chkS] at c; done))
 rename_i x px
 match xs,kws,c with
 | [],[],c =>
  rw [chkS] at c
  simp only [Bool.and_eq_true] at c
  obtain ⟨⟨⟨⟨c1,c2⟩,c3⟩,c6⟩,c7⟩:=c
  have em:m="pop":=by simpa using c1
  subst em
  have h':PostR (PostS X.K F fresh σ0 Ab Hb (ownS T (.pop i) O) OL D) (WOK cls W F) ((getV ρ i).bind fun o=>match o with
   | .lst xs=>R.when (!xs.isEmpty) (.ok (.next,ρ.set i (some (.lst xs.dropLast))))
   | _=>.bad):=h
  obtain ⟨o,eo,h2⟩:=zbu h'
  cases o <;> (try exact h2.elim)
  rename_i ds
  obtain ⟨w,q⟩:=PostR.when (e:=WOK cls W F) (show PostR (PostS X.K F fresh σ0 Ab Hb (ownS T (.pop i) O) OL D) (WOK cls W F) (R.when (!ds.isEmpty) (.ok (.next,ρ.set i (some (.lst ds.dropLast))))) from h2)
  have q:∀ O',ownS T (.pop i) O=some O' -> EnvAt X.K F σ0 Ab Hb O' (ρ.set i (some (.lst ds.dropLast))) D.nx:=q
  obtain ⟨a,ea,hA,vs,hv,rv⟩:=I.own eo c6 rfl
  refine ws_of (ps_expr (pe_bm0 PySem.F.plainAttrs_list PySem.F.slot_list_pop PySem.F.type_list_pop mt_pop (pvar c2 c3) (zaD rfl) c7) rfl) ?_
  have hl:0 < vs.length:=by
   rw [<- rv.length]
   cases ds with
   | nil=>cases w
   | cons _ _=>simp
  refine ⟨.ref a,ea,.inl ⟨rfl,vs,SqL.of hv⟩,a,vs,vs[vs.length - 1],rfl,rfl,hv,List.getElem?_eq_getElem (by omega),?_⟩
  refine q _ (by rw [ownS]) _ _ _ (zfe I eo c6 ea hA hv rv.dropLast) (ev.write hA fun o eo=>?_) fr
  rw [hv] at eo; cases eo; rfl
theorem zhY (i:Nat):SndS T (.clear i):=by
 intro X st EX G Fnc n wf cls W F fresh OL O A Ab σ0 σ ρ H Hb D hy c I ev fr h
 cases st <;> (try (simp [chkS] at c; done))
 rename_i ex pos2
 cases ex <;> (try (simp [chkS] at c; done))
 rename_i fe xs kws pos
 cases fe <;> (try (simp [chkS] at c; done))
 rename_i ox m apos
 cases ox <;> (try (simp [chkS] at c; done))
 rename_i x px
 match xs,kws,c with
 | [],[],c =>
  rw [chkS] at c
  simp only [Bool.and_eq_true] at c
  obtain ⟨⟨⟨⟨c1,c2⟩,c3⟩,c6⟩,c7⟩:=c
  have em:m="clear":=by simpa using c1
  subst em
  have h':PostR (PostS X.K F fresh σ0 Ab Hb (ownS T (.clear i) O) OL D) (WOK cls W F) ((getV ρ i).bind fun o=>match o with
   | .lst _=>.ok (.next,ρ.set i (some (.lst [])))
   | _=>.bad):=h
  obtain ⟨o,eo,h2⟩:=zbu h'
  cases o <;> (try exact h2.elim)
  rename_i ds
  have q:∀ O',ownS T (.clear i) O=some O' -> EnvAt X.K F σ0 Ab Hb O' (ρ.set i (some (.lst []))) D.nx:=h2
  obtain ⟨a,ea,hA,vs,hv,rv⟩:=I.own eo c6 rfl
  refine ws_of (ps_expr (pe_bm0 PySem.F.plainAttrs_list PySem.F.slot_list_clear PySem.F.type_list_clear mt_clear (pvar c2 c3) (zaD rfl) c7) rfl) ?_
  refine ⟨.ref a,ea,.inl ⟨rfl,vs,SqL.of hv⟩,a,vs,rfl,rfl,hv,?_⟩
  refine q _ (by rw [ownS]) _ _ _ (zfe I eo c6 ea hA hv .nil) (ev.write hA fun o eo=>?_) fr
  rw [hv] at eo; cases eo; rfl
end
end L2.Pf
namespace L2.Pf
open PySem PySem.Spec PyProof.Rows
def xe0:Value -> Shared -> Prop:=fun _ _=>False
theorem zpO {X:Cx} {body:List Stmt} {h0:ExceptHandler} {hs:List ExceptHandler} {pos:Pos}:PS X (.Try body (h0 :: hs) [] [] pos) (fun D σ H=>∀ pn,WSs (X.tr pn xe0) body D σ H):=by
 refine ⟨fun pins s σ H D I h=>?_⟩
 have ok:=I.ok
 refine wpAny_Try_except ?_
 refine wpAny_mono (h (X.pn ++ pins) [] s (I.toTry xe0)) (fun f s1 hsp=>?_) (fun e s1 he=>he.elim)
 cases f with
 | next =>
  obtain ⟨σ',H',J',q⟩:=hsp
  exact wpAny_execs_nil ⟨σ',H',J'.ofTry ok,q⟩
 | brk =>
  obtain ⟨σ',H',J',q⟩:=hsp
  exact ⟨σ',H',J'.ofTry ok,q⟩
 | cont =>
  obtain ⟨σ',H',J',q⟩:=hsp
  exact ⟨σ',H',J'.ofTry ok,q⟩
 | ret u =>
  obtain ⟨v,σ',H',J',r,q⟩:=hsp
  exact ⟨v,σ',H',J'.ofTry ok,r,q⟩
theorem HyS.tr {X:Cx} {T:List Def} {EX:List Str} {G:Str -> Option D} {Fnc:Fn} {n:Nat} {cls:Str -> Option Addr} {W:WX} (hy:HyS X T EX G Fnc n cls W) (pn:List (Addr × Obj)):HyS (X.tr pn xe0) T EX G Fnc n cls W0 :=
  { calm:=hy.calm,nd:=hy.nd,room:=hy.room,glob:=hy.glob,blt:=hy.blt,flen:=hy.flen,tab:=hy.tab,fn:=hy.fn,tk:=ze0,po:=PassesOwn.never,tg:=⟨hy.tg.loc,hy.tg.cel⟩,kind:=hy.kind,tst:=hy.tst,excC:=hy.excC,fr:=hy.fr,
    mks:=fun c hc g d=>let ⟨C,e,m⟩:=hy.mks c hc g d; ⟨C,e,m⟩ }
section
variable {K:PySem.W.Frag} {F:Fx} {O:List Nat} {A A' B:Addr -> Prop} {σ:St} {ρ:Env} {H H' H1:Hp} {a:Addr} {u:HO} {od:Obj}
def Fx.lock (F:Fx) (a:Addr) (o:HO):Fx:=⟨fun b=>F.P0 b \/ b=a,upd F.H0 a o,F.IO,F.ios⟩
theorem zjV (np:PPa F A a) {b:Addr} (o:HO) (A':Addr -> Prop) (nA:¬ A' a):PPa (F.lock a o) A' b ↔ PPa F A' b:=by
 unfold PPa Fx.lock
 by_cases c:b=a
 ·subst c
  simp only [nA,or_true,true_or,not_false_eq_true,and_true,true_iff]
  exact np.1
 ·simp only [c,or_false,upd_ne c]
theorem zjW (np:PPa F A a) (nA:¬ A' a) (hu:H a=some u) (mu:mutO u=true):Le (PPa F A') (PPa (F.lock a (.frz od u)) A') H (upd H a (.frz od u)) :=
 ⟨fun b w hw eb=>by
  have ne:b ≠ a:=fun z=>by subst z; rw [hu] at eb; cases eb; exact zb7 hw mu
  rw [upd_ne ne]; exact eb,fun b w mw q r=>by
  by_cases c:b=a
  ·subst c
   rcases r with r | ⟨ob,r⟩
   ·rw [hu] at r; cases r
    exact .inr ⟨od,upd_same⟩
   ·rw [hu] at r; cases r; cases mu
  ·rcases r with r | ⟨ob,r⟩
   ·exact .inl (by rw [upd_ne c]; exact r)
   ·exact .inr ⟨ob,by rw [upd_ne c]; exact r⟩,fun b w mw q r=>(zjV np _ A' nA).mpr q⟩
theorem zjX (np:PPa F A a) (nA:¬ A' a) (hu:H' a=some (.frz od u)) (mu:mutO u=true):Le (PPa (F.lock a (.frz od u)) A') (PPa F A') H' (upd H' a u) :=
 ⟨fun b w hw eb=>by
  have ne:b ≠ a:=fun z=>by subst z; rw [hu] at eb; cases eb; cases u <;> first | (cases hw; done) | (cases mu; done)
  rw [upd_ne ne]; exact eb,fun b w mw q r=>by
  by_cases c:b=a
  ·subst c
   rcases r with r | ⟨ob,r⟩
   ·rw [hu] at r; cases r; cases mw
   ·rw [hu] at r; cases r
    exact .inl upd_same
  ·rcases r with r | ⟨ob,r⟩
   ·exact .inl (by rw [upd_ne c]; exact r)
   ·exact .inr ⟨ob,by rw [upd_ne c]; exact r⟩,fun b w mw q r=>(zjV np _ A' nA).mp q⟩
theorem zeq (I:EnvR K F O A σ ρ H) (np:PPa F A a) (hu:H a=some u) (mu:mutO u=true):EnvR K (F.lock a (.frz od u)) O A σ ρ (upd H a (.frz od u)):=by
 have nA:¬ A a:=np.2
 have lw:=zjW (od:=od) np nA hu mu
 have ne:∀ b,A b -> b ≠ a:=fun b m z=>nA (z ▸ m)
 refine ⟨I.len,fun b o e n=>?_,fun i d e=>?_,I.inj,fun b m=>?_,fun b m=>?_,I.io⟩
 ·by_cases c:b=a
  ·subst c
   rw [show (F.lock b (.frz od u)).H0 b=some (.frz od u) from upd_same] at e
   cases e
   exact upd_same
  ·rw [upd_ne c]
   refine I.ext b o ?_ n
   rw [<- e]
   exact (upd_ne c).symm
 ·obtain ⟨v,e1,s⟩:=I.val i d e
  refine ⟨v,e1,?_⟩
  unfold Slot at s ⊢
  split
  ·rename_i c
   rw [if_pos c] at s
   obtain ⟨b,rfl,m,q⟩:=s
   exact ⟨b,rfl,m,q.mono lw fun o eo _=>by rw [upd_ne (ne b m)]; exact eo⟩
  ·rename_i c
   rw [if_neg c] at s
   exact s.mono lw
 ·obtain ⟨o,e,q⟩:=I.aM b m
  exact ⟨o,by rw [upd_ne (ne b m)]; exact e,q⟩
 ·rcases I.aF b m with z | z
  ·exact .inl z
  ·exact .inr (by rw [<- z]; exact upd_ne (ne b m))
def LockF (F:Fx) (a:Addr) (u:HO):Prop:=a ∉ F.IO /\ ∀ o,F.H0 a=some o -> o=u
theorem zjY (I:EnvR K F O A σ ρ H) (np:PPa F A a) (hu:H a=some u):LockF F a u:=by
 have nio:a ∉ F.IO:=fun m=>np.2 (I.io a m).1
 exact ⟨nio,fun o e=>by have:=I.ext a o e fun _=>nio; rw [hu] at this; cases this; rfl⟩
theorem zdX (lf:LockF F a u) (h:Ext (fun b=>b ∈ F.IO) (F.lock a (.frz od u)).H0 H'):Ext (fun b=>b ∈ F.IO) F.H0 (upd H' a u):=fun b o e n=>by
 by_cases c:b=a
 ·subst c
  rw [lf.2 o e]; exact upd_same
 ·rw [upd_ne c]
  exact h b o (by rw [<- e]; exact upd_ne c) n
theorem zdY (h:Ext (fun b=>b ∈ F.IO) (F.lock a (.frz od u)).H0 H'):H' a=some (.frz od u):=h a _ upd_same fun z=>by cases z
theorem zhZ (np:PPa F A a) (nA:¬ A' a) (hu:H' a=some (.frz od u)) (mu:mutO u=true) {b:Addr} {d:D} {P P':Addr -> Prop} (l:Le P P' H' (upd H' a u)) (o:OwnAt K H' P b d):OwnAt K (upd H' a u) P' b d:=by
 refine o.mono l fun w ew mw=>?_
 have ne:b ≠ a:=fun z=>by subst z; rw [hu] at ew; cases ew; cases mw
 rw [upd_ne ne]; exact ew
theorem zh0 (I:EnvR K (F.lock a (.frz od u)) O A' σ ρ H') (np:PPa F A a) (lf:LockF F a u) (mu:mutO u=true):EnvR K F O A' σ ρ (upd H' a u) /\ H' a=some (.frz od u):=by
 have hu:=zdY I.ext
 have nA:¬ A' a:=fun m=>by
  obtain ⟨o,e,q⟩:=I.aM a m
  rw [hu] at e; cases e; cases q
 have lw:=zjX (od:=od) np nA hu mu
 have ne:∀ b,A' b -> b ≠ a:=fun b m z=>nA (z ▸ m)
 refine ⟨⟨I.len,zdX lf I.ext,fun i d e=>?_,I.inj,fun b m=>?_,fun b m=>?_,I.io⟩,hu⟩
 ·obtain ⟨v,e1,s⟩:=I.val i d e
  refine ⟨v,e1,?_⟩
  unfold Slot at s ⊢
  split
  ·rename_i c
   rw [if_pos c] at s
   obtain ⟨b,rfl,m,q⟩:=s
   exact ⟨b,rfl,m,zhZ np nA hu mu lw q⟩
  ·rename_i c
   rw [if_neg c] at s
   exact s.mono lw
 ·obtain ⟨o,e,q⟩:=I.aM b m
  exact ⟨o,by rw [upd_ne (ne b m)]; exact e,q⟩
 ·rcases I.aF b m with z | z
  ·exact .inl z
  ·refine .inr ?_
   have z:upd F.H0 a (.frz od u) b=none:=z
   rw [upd_ne (ne b m)] at z
   exact z
theorem zfS (np:PPa F A a) (lf:LockF F a u) {b:Addr} (o:HO):PF (F.lock a o) b ↔ PF F b:=by
 unfold PF Fx.lock
 by_cases c:b=a
 ·subst c
  simp only [or_true,true_or,true_and]
  exact ⟨fun z=>⟨np.1,z⟩,fun z=>z.2⟩
 ·simp only [c,or_false,upd_ne c]
theorem zcG (np:PPa F A a) (lf:LockF F a u) (hu:H' a=some (.frz od u)) (mu:mutO u=true) {P P':Addr -> Prop} (h:∀ b,P b -> P' b):Le P P' H' (upd H' a u) :=
 ⟨fun b w hw eb=>by
  have ne:b ≠ a:=fun z=>by subst z; rw [hu] at eb; cases eb; cases u <;> first | (cases hw; done) | (cases mu; done)
  rw [upd_ne ne]; exact eb,fun b w mw q r=>by
  by_cases c:b=a
  ·subst c
   rcases r with r | ⟨ob,r⟩
   ·rw [hu] at r; cases r; cases mw
   ·rw [hu] at r; cases r
    exact .inl upd_same
  ·rcases r with r | ⟨ob,r⟩
   ·exact .inl (by rw [upd_ne c]; exact r)
   ·exact .inr ⟨ob,by rw [upd_ne c]; exact r⟩,fun b w mw q r=>h b q⟩
theorem zh1 {fresh:Bool} {σ0:St} {d:D} {v:V} (r:RetOK K (F.lock a (.frz od u)) fresh σ0 d ρ v H') (np:PPa F A a) (lf:LockF F a u) (mu:mutO u=true):RetOK K F fresh σ0 d ρ v (upd H' a u) /\ H' a=some (.frz od u):=by
 have hu:=zdY r.ext
 refine ⟨⟨zdX lf r.ext,r.rep.mono (zcG np lf hu mu fun b z=>(zfS np lf _).mp z),fun f m=>?_,fun i hi o b eo m es=>?_⟩,hu⟩
 ·obtain ⟨b,e,n,o⟩:=r.new f m
  have ne:b ≠ a:=fun z=>by
   subst z
   rw [show (F.lock b (.frz od u)).H0 b=some (.frz od u) from upd_same] at n; cases n
  refine ⟨b,e,by rw [<- n]; exact (upd_ne ne).symm,?_⟩
  refine o.mono (zcG np lf hu mu fun c z=>⟨(zfS np lf _).mp z.1,z.2⟩) fun w ew mw=>?_
  rw [upd_ne ne]; exact ew
 ·refine (r.io i hi o b eo m es).mono (zcG np lf hu mu fun c z=>(zfS np lf _).mp z) fun w ew mw=>?_
  have ne:b ≠ a:=fun z=>by subst z; rw [hu] at ew; cases ew; cases mw
  rw [upd_ne ne]; exact ew
end
section
variable {K:PySem.W.Frag} {F:Fx} {A B:Addr -> Prop} {H1:Hp} {d:Addr} {o:Obj}
theorem zer {H:Hp} {P:Addr -> Prop} (k:Key):Rep K H P (keyV k) (kV k):=by
 cases k with
 | inl i=>exact .int i
 | inr s=>exact .str s
theorem zff {H:Hp} {P:Addr -> Prop}:∀ ks:List Key,Reps K H P (ks.map keyV) (ks.map kV)
 | []=>.nil
 | k :: ks=>.cons (zer k) (zff ks)
theorem zhb {κ:Type}:∀ {kvs:List (κ × D)} {ws:List (κ × V)} {i:Nat} {kv:κ × D},kvs.map (·.1)=ws.map (·.1) -> kvs[i]?=some kv -> ∃ w,ws[i]?=some (kv.1,w)
 | [],_,_,_,_,h=>by simp at h
 | _ :: _,[],_,_,e,_=>by cases e
 | p :: kvs,q :: ws,0,kv,e,h=>by
  simp at h; subst h
  refine ⟨q.2,?_⟩
  have:=(List.cons.inj e).1
  simp at this ⊢
  rw [this]
 | p :: kvs,q :: ws,i+1,kv,e,h=>by
  obtain ⟨w,hw⟩:=zhb (kvs:=kvs) (ws:=ws) (i:=i) (List.cons.inj e).2 (by simpa using h)
  exact ⟨w,by simpa using hw⟩
theorem zjZ {κ:Type} {kvs:List (κ × D)} {ws:List (κ × V)} (e:kvs.map (·.1)=ws.map (·.1)):kvs.length=ws.length:=by
 have:=congrArg List.length e
 simpa using this
theorem zj0 {kvs:List (Key × D)} {ws:List (Key × V)} (h:H1 d=some (.frz o (.dK ws))) (e:kvs.map (·.1)=ws.map (·.1)):ItOK K F A B H1 (Itk d o ws) (kvs.map fun kv=>keyV kv.1):=by
 have st:∀ H,Ext B H1 H -> H d=some (.frz o (.dK ws)):=fun H x=>x d _ h (fun z=>by cases z)
 refine ⟨fun H A' x ha i y ey=>?_,fun H x i hi=>⟨st H x,by rw [List.length_map,zjZ e] at hi; exact hi⟩⟩
 rw [List.getElem?_map] at ey
 cases ek:kvs[i]? with
 | none=>rw [ek] at ey; cases ey
 | some kv =>
  rw [ek] at ey; cases ey
  obtain ⟨w,hw⟩:=zhb e ek
  refine ⟨⟨st H x,(List.getElem?_eq_some_iff.mp hw).1⟩,fun v H' z=>?_⟩
  obtain ⟨e1,k,v',e2,e3⟩:=z
  subst e1 e3
  rw [hw] at e2; cases e2
  exact ⟨Ext.refl,zer _⟩
theorem zhc {kvs:List (List Key × D)} {ws:List (List Key × V)} (h:H1 d=some (.frz o (.dT ws))) (e:kvs.map (·.1)=ws.map (·.1)):ItOK K F A B H1 (Itkt d o ws) (kvs.map fun kv=>.tup (kv.1.map keyV)):=by
 have st:∀ H,Ext B H1 H -> H d=some (.frz o (.dT ws)):=fun H x=>x d _ h (fun z=>by cases z)
 refine ⟨fun H A' x ha i y ey=>?_,fun H x i hi=>⟨st H x,by rw [List.length_map,zjZ e] at hi; exact hi⟩⟩
 rw [List.getElem?_map] at ey
 cases ek:kvs[i]? with
 | none=>rw [ek] at ey; cases ey
 | some kv =>
  rw [ek] at ey; cases ey
  obtain ⟨w,hw⟩:=zhb e ek
  refine ⟨⟨st H x,(List.getElem?_eq_some_iff.mp hw).1⟩,fun v H' z=>?_⟩
  obtain ⟨e1,k,v',q,e2,e3,e4⟩:=z
  subst e1 e3
  rw [hw] at e2; cases e2
  exact ⟨Ext.refl,.tup e4 (zff _)⟩
theorem zhd {kvs:List (Key × D)} {ws:List (Key × V)} (hb:∀ b,B b -> A b) (h:H1 d=some (.frz o (.dK ws))) (e:kvs.map (·.1)=ws.map (·.1)) (r:Reps K H1 (PPa F A) (kvs.map (·.2)) (ws.map (·.2))):ItOK K F A B H1 (Iti d o ws) (kvs.map fun kv=>.tup [keyV kv.1,kv.2]):=by
 have st:∀ H,Ext B H1 H -> H d=some (.frz o (.dK ws)):=fun H x=>x d _ h (fun z=>by cases z)
 refine ⟨fun H A' x ha i y ey=>?_,fun H x i hi=>⟨st H x,by rw [List.length_map,zjZ e] at hi; exact hi⟩⟩
 rw [List.getElem?_map] at ey
 cases ek:kvs[i]? with
 | none=>rw [ek] at ey; cases ey
 | some kv =>
  rw [ek] at ey; cases ey
  obtain ⟨w,hw⟩:=zhb e ek
  obtain ⟨v,ev,rv⟩:=r.get (i:=i) (d:=kv.2) (by rw [List.getElem?_map,ek]; rfl)
  rw [List.getElem?_map,hw] at ev
  cases ev
  refine ⟨⟨st H x,(List.getElem?_eq_some_iff.mp hw).1⟩,fun v H' z=>?_⟩
  obtain ⟨T,k,v',e2,rfl,hT,rfl⟩:=z
  rw [hw] at e2; cases e2
  exact zeg hT (zer _) (rv.mono (le_it x hb ha))
end
section
variable {T:List Def}
theorem zfT:SndS T .raise0:=by
 intro X st EX G Fnc n wf cls W F fresh OL O A Ab σ0 σ ρ H Hb D hy c I ev fr h
 exact (show False from h).elim
theorem zj1 {b:Ss} (hb:SndSs T b):SndS T (.try0 b):=by
 intro X st EX G Fnc n wf cls W F fresh OL O A Ab σ0 σ ρ H Hb D hy c I ev fr h
 cases st <;> (try (simp [chkS] at c; done))
 rename_i body hs orelse fin pos
 match hs,orelse,fin,c with
 | h0 :: hs,[],[],c =>
  rw [chkS] at c
  have h':PostR (PostS X.K F fresh σ0 Ab Hb (ownSs T b O) OL D) (WOK cls W F) (R.nox (evSs G Fnc wf b ρ)):=by
   have e:ownS T (.try0 b) O=ownSs T b O:=by rw [ownS]
   rw [<- e]; exact h
  obtain ⟨p,ep,hp⟩:=zdR h'
  refine ws_of zpO fun pn=>hb (wf:=wf) (X:=X.tr pn xe0) (hy.tr pn) c I ev fr ?_
  rw [ep]
  exact hp
theorem zpP {t:Tg} {b:Ss} (hb:SndSs T b) {X:Cx} {EX:List Str} {G:Str -> Option D} {Fnc:Fn} {n wf:Nat} {cls:Str -> Option Addr} {W:WX} {F:Fx} {fresh:Bool} {OL Oh:List Nat} {A:Addr -> Prop} {σ0 σ:St} {ρ:Env} {H1:Hp} {D:Ends} {p:List Stmt} {J:L2.It} {xs:List Pf.D}
  (hy:HyS X T EX G Fnc n cls W) (c3:kpIO F.ios Oh=true) (c4:chkSs X.N T EX X.env.scope F.ios fresh Oh Oh b p=true) (c5:subO Oh (ownSs T b Oh)=true) (hs2:∀ i ∈ zan t,Oh.contains i=false)
  (I:EnvR X.K F Oh A σ ρ H1) (fr:FrIO F σ0 σ) (itk:ItOK X.K F A A H1 J xs) (h:PostR (PostS X.K F fresh σ0 A H1 (some Oh) OL D) (fun _=>False) (zam t (evSs G Fnc wf b) xs ρ)) :
  ∃ W:Nat -> Nat -> St -> Hp -> Prop,(∃ m,W 0 m σ H1) /\ ∀ i m σ H,W i m σ H -> (J.stop i H /\ D.nx σ H) \/ (J.go i H /\ ∃ N:St -> Hp -> Prop,(∀ σ' H',N σ' H' -> ∃ m',m' < m /\ W (i+1) m' σ' H') /\ ∀ x H',J.yld i H x H' -> gTg X.K t x σ H' fun σ2 H2=>WSs X p { D with nx:=N,ct:=N,bk:=D.nx } σ2 H2):=by
 have hios:∀ i ∈ F.ios,i ∉ zan t:=fun i hi z=>by
  have:=zah c3 hi
  rw [hs2 i z] at this; cases this
 refine ⟨fun i m σ' H'=>m=xs.length - i /\ i <= xs.length /\ ∃ ρ' A',EnvR X.K F Oh A' σ' ρ' H' /\ Ev A H1 A' H' /\ FrIO F σ0 σ' /\ PostR (PostS X.K F fresh σ0 A H1 (some Oh) OL D) (fun _=>False) (zam t (evSs G Fnc wf b) (xs.drop i) ρ'),
  ⟨xs.length,by simp,Nat.zero_le _,ρ,A,I,Ev.refl,fr,by simpa using h⟩,?_⟩
 rintro i m σ1 H2 ⟨rfl,hi,ρ1,A2,I2,ev2,fr2,h2⟩
 by_cases hlt:i < xs.length
 ·refine .inr ?_
  have ex:xs[i]?=some xs[i]:=List.getElem?_eq_getElem hlt
  obtain ⟨go,yl⟩:=itk.go H2 A2 ev2.ext (fun b z=>(ev2.sub b z)) i xs[i] ex
  refine ⟨go,fun σ' H'=>∃ ρ' A',EnvR X.K F Oh A' σ' ρ' H' /\ Ev A H1 A' H' /\ FrIO F σ0 σ' /\ PostR (PostS X.K F fresh σ0 A H1 (some Oh) OL D) (fun _=>False) (zam t (evSs G Fnc wf b) (xs.drop (i+1)) ρ'),
   fun σ' H' w=>⟨xs.length - (i+1),by omega,rfl,hlt,w⟩,fun x H' y=>?_⟩
  obtain ⟨x2,rx⟩:=yl x H' y
  rw [List.drop_eq_getElem_cons hlt] at h2
  have h3:PostR (PostS X.K F fresh σ0 A H1 (some Oh) OL D) (fun _=>False) ((setT t xs[i] ρ1).bind fun ρ1=>(evSs G Fnc wf b ρ1).bind fun p=>match p.1 with
   | .next=>zam t (evSs G Fnc wf b) (xs.drop (i+1)) p.2
   | .cont=>zam t (evSs G Fnc wf b) (xs.drop (i+1)) p.2
   | .brk=>.ok (.next,p.2)
   | .ret d=>.ok (.ret d,p.2)):=h2
  obtain ⟨ρ2,e2,h4⟩:=h3.bind.get (zbi _ _ _)
  refine zcU (I2.step x2) rx e2 hs2 fun σ2 I3 f3=>?_
  have fr3:FrIO F σ0 σ2:=fun j hj=>(f3.off j (hios j hj)).trans (fr2 j hj)
  refine hb hy c4 I3 (ev2.grow x2) fr3 (h4.bind.mono (fun p hp=>?_) fun _ z=>z.elim)
  obtain ⟨f,ρ3⟩:=p
  cases f with
  | next =>
   intro O' eO σ' H'' A' I4 ev4 fr4
   rw [eO] at c5
   obtain ⟨A5,s5,I5⟩:=I4.to c5 c3
   exact ⟨ρ3,A5,I5,ev4.less s5,fr4,hp⟩
  | cont=>exact fun σ' H'' A' I4 ev4 fr4=>⟨ρ3,A',I4,ev4,fr4,hp⟩
  | brk=>exact fun σ' H'' A' I4 ev4 fr4=>hp Oh rfl σ' H'' A' I4 ev4 fr4
  | ret d=>exact hp
 ·have ei:i=xs.length:=by omega
  refine .inl ⟨itk.stop H2 ev2.ext i (by omega),?_⟩
  have hdr:xs.drop i=[]:=List.drop_eq_nil_iff.mpr (by omega)
  rw [hdr] at h2
  have h2:∀ O',some Oh=some O' -> EnvAt X.K F σ0 A H1 O' ρ1 D.nx:=h2
  exact h2 Oh rfl _ _ _ I2 ev2 fr2
theorem zj2 {Ah A':Addr -> Prop} {H H':Hp} {a:Addr} {u:HO} {od:Obj} (ha:H a=some u) (ev:Ev Ah (upd H a (.frz od u)) A' H'):Ev Ah H A' (upd H' a u):=by
 refine ⟨fun b o e n=>?_,fun b z=>?_,fun b z=>?_⟩
 ·by_cases c:b=a
  ·subst c
   rw [ha] at e; cases e
   exact upd_same
  ·rw [upd_ne c]
   exact ev.ext b o (by rw [upd_ne c]; exact e) n
 ·rcases ev.sub b z with q | q
  ·exact .inl q
  ·by_cases c:b=a
   ·subst c; rw [upd_same] at q; cases q
   ·rw [upd_ne c] at q; exact .inr q
 ·by_cases c:b=a
  ·subst c; rw [upd_same] at z; cases z
  ·rw [upd_ne c] at z
   have:=ev.per b z
   rw [upd_ne c] at this
   exact this
def lockD (D:Ends) (a:Addr) (u:HO) (od:Obj):Ends:=⟨fun σ' H'=>H' a=some (.frz od u) /\ D.nx σ' (upd H' a u),fun v H'=>H' a=some (.frz od u) /\ D.rt v (upd H' a u),fun σ' H'=>H' a=some (.frz od u) /\ D.bk σ' (upd H' a u),fun σ' H'=>H' a=some (.frz od u) /\ D.ct σ' (upd H' a u)⟩
theorem zcH {K:PySem.W.Frag} {F:Fx} {σ0:St} {Ab Ah:Addr -> Prop} {Hb H:Hp} {O:List Nat} {ρ:Env} {Nx:St -> Hp -> Prop} {a:Addr} {u:HO} {od:Obj} (np:PPa F Ah a) (lf:LockF F a u) (mu:mutO u=true) (ha:H a=some u) (evh:Ev Ab Hb Ah H)
  (h:EnvAt K F σ0 Ab Hb O ρ Nx):EnvAt K (F.lock a (.frz od u)) σ0 Ah (upd H a (.frz od u)) O ρ fun σ' H'=>H' a=some (.frz od u) /\ Nx σ' (upd H' a u):=fun σ' H' A' I' ev' fr'=>by
 obtain ⟨I2,hu⟩:=zh0 I' np lf mu
 exact ⟨hu,h σ' _ A' I2 (evh.trans (zj2 ha ev')) fr'⟩
theorem zcI {K:PySem.W.Frag} {F:Fx} {fresh:Bool} {σ0:St} {Ab Ah:Addr -> Prop} {Hb H:Hp} {On:Option (List Nat)} {OL:List Nat} {D:Ends} {a:Addr} {u:HO} {od:Obj} (np:PPa F Ah a) (lf:LockF F a u) (mu:mutO u=true) (ha:H a=some u) (evh:Ev Ab Hb Ah H)
  {q:Fl × Env} (h:PostS K F fresh σ0 Ab Hb On OL D q):PostS K (F.lock a (.frz od u)) fresh σ0 Ah (upd H a (.frz od u)) On OL (lockD D a u od) q:=by
 obtain ⟨f,ρ⟩:=q
 cases f with
 | next=>exact fun O' e=>zcH np lf mu ha evh (h O' e)
 | brk=>exact zcH np lf mu ha evh h
 | cont=>exact zcH np lf mu ha evh h
 | ret d =>
  intro v H' r
  obtain ⟨r2,hu⟩:=zh1 r np lf mu
  exact ⟨hu,h v _ r2⟩
theorem zcJ {K:PySem.W.Frag} {F:Fx} {fresh:Bool} {σ0:St} {Ab Ah:Addr -> Prop} {Hb H:Hp} {On:Option (List Nat)} {OL:List Nat} {D:Ends} (evh:Ev Ab Hb Ah H)
  {q:Fl × Env} (h:PostS K F fresh σ0 Ab Hb On OL D q):PostS K F fresh σ0 Ah H On OL D q:=by
 obtain ⟨f,ρ⟩:=q
 cases f with
 | next=>exact fun O' e σ' H' A' I' ev' fr'=>h O' e σ' H' A' I' (evh.trans ev') fr'
 | brk=>exact fun σ' H' A' I' ev' fr'=>h σ' H' A' I' (evh.trans ev') fr'
 | cont=>exact fun σ' H' A' I' ev' fr'=>h σ' H' A' I' (evh.trans ev') fr'
 | ret d=>exact h
theorem zh2 (d:D):noExc (zcR d):=by
 cases d <;> first | exact zad _ | (intro c z; cases z)
theorem zfU (d:D):noExc (zeK d):=by
 cases d <;> first | exact zad _ | (intro c z; cases z)
theorem zpQ {N:List Str} {sc:Scope} {i:Nat} {tg ix:Expr} (h:dictB N sc i false tg ix=true):∃ x px,ix=.Name x px /\ locB N sc i x=true /\ visB sc x=true:=by
 unfold dictB at h
 split at h
 ·simp only [Bool.not_false,Bool.true_and,Bool.and_eq_true] at h
  exact ⟨_,_,rfl,h.1,h.2⟩
 ·simp at h
 ·cases h
theorem zpR {N:List Str} {sc:Scope} {i:Nat} {tg ix:Expr} (h:dictB N sc i true tg ix=true):∃ x px apos cpos,ix=.Call (.Attribute (.Name x px) "items" apos) [] [] cpos /\ zcB tg=true /\ locB N sc i x=true /\ visB sc x=true /\ (apos.endLine == cpos.line)=true:=by
 unfold dictB at h
 split at h
 ·simp at h
 ·simp only [Bool.and_eq_true,Bool.true_and] at h
  obtain ⟨⟨⟨⟨h1,h2⟩,h3⟩,h4⟩,h5⟩:=h
  have e:=beq_iff_eq.mp h1
  subst e
  exact ⟨_,_,_,_,rfl,h2,h3,h4,h5⟩
 ·cases h
theorem zj3 {t:Tg} {i:Nat} {im:Bool} {b:Ss} (hb:SndSs T b):SndS T (.forK t i im b):=by
 intro X st EX G Fnc n wf cls W F fresh OL O A Ab σ0 σ ρ H Hb D hy ck I ev fr h
 cases st <;> (try (simp [chkS] at ck; done))
 rename_i tg ix p els pos
 cases els <;> (try (simp [chkS] at ck; done))
 rw [chkS] at ck
 simp only [Bool.and_eq_true] at ck
 obtain ⟨⟨⟨⟨c1,c2⟩,c3⟩,c4⟩,c5⟩:=ck
 have eo:ownS T (.forK t i im b) O=some (headO (ownSs T b) (less (less O [i]) (zan t))):=by rw [ownS]
 have h':PostR (PostS X.K F fresh σ0 Ab Hb (ownS T (.forK t i im b) O) OL D) (WOK cls W F) ((getV ρ i).bind fun x=>(if im=true then zeK x else zcR x).bind fun xs=>R.nox (zam t (evSs G Fnc wf b) xs ρ)):=h
 rw [eo] at h'
 have hs:=zfd (ownSs T b) (less (less O [i]) (zan t))
 generalize headO (ownSs T b) (less (less O [i]) (zan t))=Oh at *
 have hs1:Oh.all O.contains=true:=by
  rw [List.all_eq_true] at hs ⊢
  exact fun j hj=>(zav (zav (hs j hj)).1).1
 have hs2:∀ j ∈ zan t,Oh.contains j=false:=fun j hj=>by
  cases z:Oh.contains j with
  | false=>rfl
  | true =>
   have:=(zav (zah hs (by simpa using z))).2
   simp [hj] at this
 have hoi:Oh.contains i=false:=by
  cases z:Oh.contains i with
  | false=>rfl
  | true =>
   have:=(zav (zav (zah hs (by simpa using z))).1).2
   simp at this
 obtain ⟨d,ed,h2⟩:=zbu h'
 obtain ⟨Ah,sh,Ih⟩:=I.to hs1 c3
 have evh:Ev Ab Hb Ah H:=ev.less sh
 obtain ⟨v,es,_⟩:=Ih.val i d ed
 have rp:=Ih.plain ed es hoi
 obtain ⟨xs,exs,h3⟩:=h2.bind.get (by intro c; split; exact zfU d c; exact zh2 d c)
 obtain ⟨q,eq,hq⟩:=zdR h3
 have core:∀ {P0':Addr -> Prop} {H0' H':Hp} {D':Ends} (J:L2.It) (wi:TI),PI X tg ix wi -> (∀ x,foldedSetIterable ix X.env x=pure x) -> (∀ R:L2.It -> Hp -> Prop,R J H' -> wi σ H' R) -> EnvR X.K ⟨P0',H0',F.IO,F.ios⟩ Oh Ah σ ρ H' -> ItOK X.K ⟨P0',H0',F.IO,F.ios⟩ Ah Ah H' J xs →
   PostS X.K ⟨P0',H0',F.IO,F.ios⟩ fresh σ0 Ah H' (some Oh) OL D' q -> WS X (.For tg ix p [] pos) D' σ H':=fun {P0' H0' H' D'} J wi hpi hns hwi I' itk post =>
  ws_of (ps_for (g:=gTg X.K t) hy.po hy.calm hpi (pg_tg hy.calm hy.nd hy.tg c2) zai hns) (hwi _ (zpP (F:=⟨P0',H0',F.IO,F.ios⟩) hb hy c3 c4 c5 hs2 I' fr itk (by rw [eq]; exact post)))
 cases im with
 | false =>
  rw [if_neg Bool.false_ne_true] at exs
  obtain ⟨x,px,rfl,l1,l2⟩:=zpQ c1
  have hpi:PI X tg (.Name x px) (iKeys (tVar i)):=pi_keys (pvar l1 l2)
  cases d <;> (try (cases exs; done))
  ·rename_i kvs
   cases exs
   cases rp with
   | dK hr np k r =>
    rename_i a ws
    rcases hr with ha | ⟨ob,ha⟩
    ·refine ws_of (ps_lock ps_ws) ⟨a,.dK ws,ha,trivial,fun od=>?_⟩
     exact core (P0':=(F.lock a (.frz od (.dK ws))).P0) (H0':=(F.lock a (.frz od (.dK ws))).H0) (D':=lockD D a (.dK ws) od) (Itk a od ws) _ hpi (zaX rfl) (fun R r=>⟨.ref a,es,a,od,rfl,.inl ⟨ws,upd_same,r⟩⟩) (zeq Ih np ha rfl) (zj0 upd_same k) (zcI np (zjY Ih np ha) rfl ha evh hq)
    ·exact core (P0':=F.P0) (H0':=F.H0) (D':=D) (Itk a ob ws) _ hpi (zaX rfl) (fun R r=>⟨.ref a,es,a,ob,rfl,.inl ⟨ws,ha,r⟩⟩) Ih (zj0 ha k) (zcJ evh hq)
  ·rename_i kvs
   cases exs
   cases rp with
   | dT hr np k r =>
    rename_i a ws
    rcases hr with ha | ⟨ob,ha⟩
    ·refine ws_of (ps_lock ps_ws) ⟨a,.dT ws,ha,trivial,fun od=>?_⟩
     exact core (P0':=(F.lock a (.frz od (.dT ws))).P0) (H0':=(F.lock a (.frz od (.dT ws))).H0) (D':=lockD D a (.dT ws) od) (Itkt a od ws) _ hpi (zaX rfl) (fun R r=>⟨.ref a,es,a,od,rfl,.inr ⟨ws,upd_same,r⟩⟩) (zeq Ih np ha rfl) (zhc upd_same k) (zcI np (zjY Ih np ha) rfl ha evh hq)
    ·exact core (P0':=F.P0) (H0':=F.H0) (D':=D) (Itkt a ob ws) _ hpi (zaX rfl) (fun R r=>⟨.ref a,es,a,ob,rfl,.inr ⟨ws,ha,r⟩⟩) Ih (zhc ha k) (zcJ evh hq)
 | true =>
  rw [if_pos rfl] at exs
  obtain ⟨x,px,apos,cpos,rfl,tt,l1,l2,l3⟩:=zpR c1
  obtain ⟨elts,kk,tpos,rfl⟩:∃ elts kk tpos,tg=.Tuple elts kk tpos:=by
   cases tg <;> first | exact ⟨_,_,_,rfl⟩ | (cases tt)
  ·skip
   have hpi:PI X (.Tuple elts kk tpos) (.Call (.Attribute (.Name x px) "items" apos) [] [] cpos) (iItems (tVar i)):=pi_items (pvar l1 l2) (zaD rfl) l3
   cases d <;> (try (cases exs; done))
   rename_i kvs
   cases exs
   cases rp with
   | dK hr np k r =>
    rename_i a ws
    rcases hr with ha | ⟨ob,ha⟩
    ·refine ws_of (ps_lock ps_ws) ⟨a,.dK ws,ha,trivial,fun od=>?_⟩
     exact core (P0':=(F.lock a (.frz od (.dK ws))).P0) (H0':=(F.lock a (.frz od (.dK ws))).H0) (D':=lockD D a (.dK ws) od) (Iti a od ws) _ hpi (zaX rfl) (fun R r=>⟨.ref a,es,a,od,ws,rfl,upd_same,r⟩) (zeq Ih np ha rfl) (zhd (fun _ z=>z) upd_same k (r.mono (zjW np np.2 ha rfl))) (zcI np (zjY Ih np ha) rfl ha evh hq)
    ·exact core (P0':=F.P0) (H0':=F.H0) (D':=D) (Iti a ob ws) _ hpi (zaX rfl) (fun R r=>⟨.ref a,es,a,ob,ws,rfl,ha,r⟩) Ih (zhd (fun _ z=>z) ha k r) (zcJ evh hq)
end
end L2.Pf
namespace L2.Pf
open PySem PySem.Spec PyProof.Rows
theorem zh3 {α:Type} (r:R α):(r.bind fun x=>.ok x)=r:=by cases r <;> rfl
def rIsET (K:PySem.W.Frag) (D a:Addr):List V -> Hp -> VK -> Prop:=fun xs H Q=>∃ (tp:Addr) (cs:List V) (us:List Value) (b:Bool),xs=[.ref a,.ref tp] /\ H tp=some (.tup cs) /\ Paired ClsV cs us /\ PySem.W.kitAny K (.ref D) us=some b /\ Q (.bl b) H
theorem zj4 {X:Cx} {a D:Addr} {oe:Obj} {pn:List (Addr × Obj)} (C:ExcC X.K D) (hz:Zc (.ref D) none oe) (hf:∃ vs,oe.data=.fields vs):CallR (X.suite a ((a,oe) :: pn)) (.builtin "isinstance") (rIsET X.K D a):=by
 intro pins s σ H xs us Q I r h
 obtain ⟨tp,cs,ws,b,rfl,hT,k,e,q⟩:=h
 obtain ⟨u1,u2,rfl,r1,r2⟩:=vals2 r
 cases (show u1=Value.ref a from r1)
 cases (show u2=Value.ref tp from r2)
 obtain ⟨_,its,rv,o,h1,h2,n,h3⟩:=(show ObjOk X.prog X.w H s.heap tp (.tup cs) from I.hok tp _ hT)
 have e3:=ClsV.all k rv
 subst e3
 obtain ⟨oc,od,dt,sl⟩:=o
 simp only at h2 h3
 subst h2 h3
 obtain ⟨hget,_⟩:=I.pin (a,oe) (List.mem_append.mpr (.inl List.mem_cons_self))
 obtain ⟨vs,hv⟩:=hf
 have J:PySem.W.InstAt s.heap a oe D none:=by
  obtain ⟨oc,od,oda,osl⟩:=oe
  obtain ⟨h1,h2⟩:=hz
  dsimp only at h1 h2 hv
  subst h1 h2 hv
  exact ⟨hget,rfl,rfl,trivial⟩
 exact PySem.W.kia_tup (PySem.W.handS_kitx_exc C.hg C.hk C.hs C.hd C.ha C.hn C.ht C.hm) I.kIn J h1 e (fun z=>nomatch z) fun tk=>⟨.bl b,H,I.kept (t':=tk) fun _ _ z=>z,rfl,q⟩
structure HyN (X:Cx) (EX:List Str) (a:Addr) (oe:Obj) (c:Str) (C:Addr):Prop where
 blt:X.mg "isinstance"=none
 exc:ExcC X.K C
 hz:Zc (.ref C) none oe
 hf:∃ vs,oe.data=.fields vs
 tst:∀ x,(EX.contains x || x == ("ValueError":Str))=true -> ∃ v cx,ClsAt X.mg x v cx /\ PySem.W.kitOne X.K (.ref C) cx=some (subC c x)
def EAt (X:Cx) (n:Str) (a:Addr) (σ:St):Prop:=n ≠ Str.empty -> ∃ k:Nat,X.N[k]?=some n /\ σ[k]?=some (some (V.ref a))
theorem zfV {mg:Str -> Option Value} {x:Str} {v:V} {cx:Value} (h:ClsAt mg x v cx):ClsV v cx:=by
 rcases h with ⟨C,_,rfl,rfl⟩ | ⟨_,_,n,rfl,rfl⟩
 ·exact .own C
 ·exact .ty n
theorem zmU {v:V} {cx:Value} (h:ClsV v cx):RelV v cx:=by
 cases h <;> rfl
section
variable {X:Cx} {EX:List Str} {a C:Addr} {oe:Obj} {pn:List (Addr × Obj)} {c n:Str} {σ:St} {H:Hp} {Q:VK}
theorem zhe {x:Str} {v:V} {cx:Value} {p:Pos} (h:ClsAt X.mg x v cx) (g:glB X.env.scope x=true):PE (X.suite a pn) (.Name x p) (tC v):=by
 obtain ⟨g1,g2,g3⟩:=gl_of (X:=X) g
 have rl:=zmU (zfV h)
 rcases h with ⟨C,hm,_,rfl⟩ | ⟨hm,hb,_⟩
 ·exact pe_glob (X:=X.suite a pn) g1 hm rl g2
 ·exact pe_bltn (X:=X.suite a pn) g1 hm hb rl g3 g2
theorem zhf {x:Str} {e:Expr} {sc:Scope} (h:tstB EX sc x e=true):∃ p,e=.Name x p /\ glB sc x=true /\ (EX.contains x || x == ("ValueError":Str))=true:=by
 cases e <;> (try (simp [tstB] at h; done))
 rename_i y p
 have h':((y == x) && glB sc y && (EX.contains x || x == ("ValueError":Str)))=true:=h
 simp only [Bool.and_eq_true] at h'
 have ey:y=x:=by simpa using h'.1.1
 subst ey
 exact ⟨p,rfl,h'.1.2,h'.2⟩
theorem zfW {e:Expr} {sc:Scope} {k:Expr -> Bool} (h:isinB sc n e k=true):∃ p1 p2 y pos,e=.Call (.Name "isinstance" p1) [.Name n p2,y] [] pos /\ glB sc "isinstance"=true /\ n ≠ Str.empty /\ visB sc n=true /\ k y=true:=by
 unfold isinB at h
 split at h
 ·simp only [Bool.and_eq_true] at h
  obtain ⟨⟨⟨⟨⟨h1,h2⟩,h3⟩,h4⟩,h5⟩,h6⟩:=h
  have e1:=beq_iff_eq.mp h1
  have e3:=beq_iff_eq.mp h3
  subst e1 e3
  exact ⟨_,_,_,_,rfl,h2,by simpa using h4,h5,h6⟩
 ·cases h
theorem zow (hy:HyN X EX a oe c C) (ea:EAt X n a σ) {x:Str} {e:Expr} (h:isinB X.env.scope n e (tstB EX X.env.scope x)=true) (q:Q (.bl (subC c x)) H):WE (X.suite a ((a,oe) :: pn)) e σ H Q:=by
 obtain ⟨p1,p2,y,pos,rfl,g,hn,hv,ht⟩:=zfW h
 obtain ⟨p3,rfl,gx,tx⟩:=zhf ht
 obtain ⟨k,hk,hs⟩:=ea hn
 obtain ⟨v,cx,ca,kt⟩:=hy.tst x tx
 obtain ⟨g1,g2,g3⟩:=gl_of (X:=X) g
 obtain ⟨v1,v2,v3⟩:=zbw hv
 refine we_of (pe_callB (X:=X.suite a ((a,oe) :: pn)) (call_isE hy.exc hy.hz hy.hf) g1 hy.blt rfl (pa_cons (pe_var (X:=X.suite a ((a,oe) :: pn)) hk v1 v2 v3) (pa_cons (zhe ca gx) pa_nil (zab rfl)) (zab rfl)) g3 g2 (zab rfl) rfl) ?_
 refine ⟨.ref a,hs,v,cx,_,rfl,fun u ru=>(zfV ca).eq ru,kt,q⟩
theorem zj5 (hy:HyN X EX a oe c C):∀ {xs:List Str} {ys:List Expr},tstsB EX X.env.scope xs ys=true -> ∃ vs us,Paired ClsV vs us /\ vs.length=xs.length /\ PySem.W.kitAny X.K (.ref C) us=some (xs.any (subC c)) /\ ∀ {σ:St} {H:Hp} {Q:List V -> Hp -> Prop},Q vs H -> WA (X.suite a ((a,oe) :: pn)) ys σ H Q
 | [],[],_=>⟨[],[],.nil,rfl,kitAny_nil,fun q=>wa_of pa_nil q⟩
 | [],_ :: _,h=>by simp [tstsB] at h
 | _ :: _,[],h=>by simp [tstsB] at h
 | x :: xs,y :: ys,h=>by
  rw [tstsB,Bool.and_eq_true] at h
  obtain ⟨p3,rfl,gx,tx⟩:=zhf h.1
  obtain ⟨v,cx,ca,kt⟩:=hy.tst x tx
  obtain ⟨vs,us,pr,hl,ka,w⟩:=zj5 hy h.2
  refine ⟨v :: vs,cx :: us,.cons (zfV ca) pr,by rw [List.length_cons,List.length_cons,hl],kitAny_cons kt (fun z=>?_) (fun z=>?_),fun q=>wa_of (pa_cons (zhe ca gx) pa_wa (zab rfl)) (w q)⟩
  ·rw [List.any_cons,z]; exact ka
  ·rw [List.any_cons,z]; rfl
theorem zpS {e:Expr} {k:List Expr -> Bool} (h:tupB' e k=true):∃ x j p,e=.Tuple x j p /\ k x=true:=by
 unfold tupB' at h; split at h
 ·exact ⟨_,_,_,rfl,h⟩
 ·cases h
theorem zrV (hy:HyN X EX a oe c C) (ea:EAt X n a σ) {xs:List Str} {e:Expr} (h:isinB X.env.scope n e (fun y=>tupB' y fun ys=>tstsB EX X.env.scope xs ys && decide (xs.length < 100))=true) (q:∀ H',Ext Nix H H' -> Q (.bl (xs.any (subC c))) H'):WE (X.suite a ((a,oe) :: pn)) e σ H Q:=by
 obtain ⟨p1,p2,y,pos,rfl,g,hn,hv,ht⟩:=zfW h
 obtain ⟨ys,kk,p3,rfl,ht⟩:=zpS ht
 obtain ⟨ht1,ht2⟩:=Bool.and_eq_true_iff.mp ht
 obtain ⟨k,hk,hs⟩:=ea hn
 obtain ⟨vs,us,pr,hl,ka,w⟩:=zj5 (pn:=pn) hy ht1
 obtain ⟨g1,g2,g3⟩:=gl_of (X:=X) g
 obtain ⟨v1,v2,v3⟩:=zbw hv
 refine we_of (pe_callB (X:=X.suite a ((a,oe) :: pn)) (zj4 hy.exc hy.hz hy.hf) g1 hy.blt rfl (pa_cons (pe_var (X:=X.suite a ((a,oe) :: pn)) hk v1 v2 v3) (pa_cons (pe_tup pa_wa) pa_nil (zab rfl)) (zab rfl)) g3 g2 (zab rfl) rfl) ?_
 refine ⟨.ref a,hs,w ⟨by rw [hl]; have:=of_decide_eq_true ht2; rw [sizeLine_eq]; omega,fun pp hp=>?_⟩⟩
 exact ⟨pp,vs,us,_,rfl,upd_same,pr,ka,q _ (Ext.new hp)⟩
theorem zj6 (hy:HyN X EX a oe c C) (ea:EAt X n a σ):∀ {xs:List Str} {ys:List Expr} {Q:List V -> Hp -> Prop},isLst EX X.env.scope n xs ys=true -> Q (xs.map fun x=>.bl (subC c x)) H -> WA (X.suite a ((a,oe) :: pn)) ys σ H Q
 | [],[],Q,_,q=>wa_of pa_nil q
 | [],_ :: _,_,h,_=>by simp [isLst] at h
 | _ :: _,[],_,h,_=>by simp [isLst] at h
 | x :: xs,y :: ys,Q,h,q=>by
  rw [isLst,Bool.and_eq_true] at h
  have hst:zaw y=true:=by
   obtain ⟨_,_,_,_,rfl,_⟩:=zfW h.1
   rfl
  refine wa_of (pa_cons pe_we pa_wa (zab hst)) (zow hy ea h.1 ?_)
  exact zj6 hy ea h.2 q
theorem zdq {K:PySem.W.Frag} {H:Hp} {P:Addr -> Prop} (c:Str):∀ xs:List Str,Reps K H P (xs.map fun x=>.bl (subC c x)) (xs.map fun x=>.bl (subC c x))
 | []=>.nil
 | _ :: xs=>.cons (.bl _) (zdq c xs)
theorem zfX {e:Expr} {k:Const -> Bool} (h:conB e k=true):∃ c j p,e=.Constant c j p /\ k c=true:=by
 unfold conB at h; split at h
 ·exact ⟨_,_,_,rfl,h⟩
 ·cases h
theorem zpT {e:Expr} {k:Int -> Bool} (h:negB e k=true):∃ m j p p2,e=.UnaryOp .USub (.Constant (.int m) j p) p2 /\ k m=true:=by
 unfold negB at h; split at h
 ·exact ⟨_,_,_,_,rfl,h⟩
 ·cases h
theorem zj7 {e:Expr} {k:Str -> Bool} (h:nmB e k=true):∃ x p,e=.Name x p /\ k x=true:=by
 unfold nmB at h; split at h
 ·exact ⟨_,_,rfl,h⟩
 ·cases h
theorem zmV {e:Expr} {k:Expr -> Bool} (h:unNot e k=true):∃ x p,e=.UnaryOp .Not x p /\ k x=true:=by
 unfold unNot at h; split at h
 ·exact ⟨_,_,rfl,h⟩
 ·cases h
theorem zpU {e:Expr} {k:Expr -> Expr -> Bool} (h:andB e k=true):∃ x y p,e=.BoolOp .And [x,y] p /\ k x y=true:=by
 unfold andB at h; split at h
 ·exact ⟨_,_,_,rfl,h⟩
 ·cases h
theorem zrW {e:Expr} {k:Expr -> Expr -> Bool} (h:orB e k=true):∃ x y p,e=.BoolOp .Or [x,y] p /\ k x y=true:=by
 unfold orB at h; split at h
 ·exact ⟨_,_,_,rfl,h⟩
 ·cases h
theorem zpV {e:Expr} {k:List Expr -> Bool} (h:lstB e k=true):∃ x p,e=.List x p /\ k x=true:=by
 unfold lstB at h; split at h
 ·exact ⟨_,_,rfl,h⟩
 ·cases h
theorem zpW {e:Expr} {k:Str -> List Expr -> Bool} (h:addB e k=true):∃ x px ys py p,e=.BinOp (.Name x px) .Add (.List ys py) p /\ k x ys=true:=by
 unfold addB at h; split at h
 ·exact ⟨_,_,_,_,_,rfl,h⟩
 ·cases h
theorem zdZ {exP:Str -> Prop} {F:Fx} {O:List Nat} {A:Addr -> Prop} {ρ:Env} {tg:List Nat} (hO:∀ i,tg.contains i=true -> O.contains i=false) (hy:HyN X EX a oe c C) (ea:EAt X n a σ):∀ {h:HE} {e:Expr} {H:Hp} {Q:VK},chkHE X.N EX X.env.scope tg n h e=true -> EnvR X.K F O A σ ρ H →
  PostR (fun d=>∀ v H',Ext Nix H H' -> Rep X.K H' (PPa F A) d v -> Q v H') exP (heEv c ρ h) -> WE (X.suite a ((a,oe) :: pn)) e σ H Q
 | .non,e,H,Q,k,I,q=>by
  obtain ⟨cc,j,p,rfl,kk⟩:=zfX (show conB e isNone=true from k)
  have k:=kk
  cases cc <;> (try (cases k; done))
  exact we_of pe_non (q .non H Ext.refl .non)
 | .bl b,e,H,Q,k,I,q=>by
  obtain ⟨cc,j,p,rfl,kk⟩:=zfX (show conB e (zjs b)=true from k)
  have k:=kk
  cases cc <;> (try (cases k; done))
  rename_i b2 _
  have eb:b=b2:=by simpa [zjs] using k
  subst eb
  exact we_of pe_bl (q (.bl b) H Ext.refl (.bl b))
 | .int b,e,H,Q,k,I,q=>by
  rcases Bool.or_eq_true_iff.mp (show (conB e (isInt b) || negB e fun m=>b == -m)=true from k) with k | k
  ·obtain ⟨cc,j,p,rfl,kk⟩:=zfX k
   have k:=kk
   cases cc <;> (try (cases k; done))
   rename_i b2 _ _
   have eb:b=b2:=by simpa [isInt] using k
   subst eb
   exact we_of pe_int (q (.int b) H Ext.refl (.int b))
  ·obtain ⟨b2,j,p,p2,rfl,kk⟩:=zpT k
   have k:=kk
   have eb:b=-b2:=by simpa using k
   subst eb
   refine we_of (pe_un un_neg pe_int) ?_
   exact zok (P:=PPa F A) (.inl (.int b2)) (show dNeg (.int b2)=.ok (.int (-b2)) from rfl) (fun v H' x r f=>q v H' x r)
 | .var i,e,H,Q,k,I,q=>by
  obtain ⟨x,p,rfl,kk⟩:=zj7 (show nmB e (fun x=>tg.contains i && (X.N[i]? == some x) && visB X.env.scope x)=true from k)
  have k:=kk
  rw [Bool.and_eq_true,Bool.and_eq_true] at k
  obtain ⟨⟨k0,k1⟩,k2⟩:=k
  obtain ⟨v1,v2,v3⟩:=zbw k2
  have q':PostR _ _ (getV ρ i):=q
  obtain ⟨d,ed,q⟩:=zbu (f:=fun d=>R.ok d) (by rw [zh3]; exact q')
  obtain ⟨v,e2,s⟩:=I.val i d ed
  exact we_of (pe_var (X:=X.suite a ((a,oe) :: pn)) (by simpa using k1) v1 v2 v3) ⟨v,e2,q v H Ext.refl (I.plain ed e2 (hO i k0))⟩
 | .is1 x,e,H,Q,k,I,q=>by
  have k':isinB X.env.scope n e (tstB EX X.env.scope x)=true:=k
  exact zow hy ea k' (q _ H Ext.refl (.bl _))
 | .isN xs,e,H,Q,k,I,q=>zrV hy ea k fun H' x=>q _ H' x (.bl _)
 | .not b,e,H,Q,k,I,q=>by
  obtain ⟨x,p,rfl,kk⟩:=zmV (show unNot e (fun x=>chkHE X.N EX X.env.scope tg n b x)=true from k)
  have k:=kk
  have q':PostR _ _ ((heEv c ρ b).bind fun x=>(zac x).bind fun b=>R.ok (D.bl (!b))):=q
  refine we_of (pe_notT pe_we) (zdZ hO hy ea k I (q'.bind.mono (fun d hd v H1 x1 r=>?_) fun _ z=>z))
  obtain ⟨t,et,q⟩:=hd.bind.get (zau d)
  exact ⟨t,zaY (P:=PPa F A) (.inl r) et,q _ H1 x1 (.bl _)⟩
 | .and b b2,e,H,Q,k,I,q=>by
  obtain ⟨x,y,p,rfl,kk⟩:=zpU (show andB e (fun x y=>chkHE X.N EX X.env.scope tg n b x && chkHE X.N EX X.env.scope tg n b2 y)=true from k)
  have k:=kk
  rw [Bool.and_eq_true] at k
  have q':PostR _ _ ((heEv c ρ b).bind fun x=>(zac x).bind fun k=>if k=true then heEv c ρ b2 else R.ok x):=q
  refine we_of (pe_andT pe_we (pe_one pe_we)) (zdZ hO hy ea k.1 I (q'.bind.mono (fun d hd v H1 x1 r=>?_) fun _ z=>z))
  obtain ⟨t,et,q⟩:=hd.bind.get (zau d)
  refine ⟨t,zaY (P:=PPa F A) (.inl r) et,?_⟩
  cases t with
  | true =>
   rw [if_pos rfl] at q ⊢
   exact zdZ hO hy ea k.2 (I.step x1) (q.mono (fun d q v H' x r=>q v H' (x1.trans x) r) fun _ z=>z)
  | false =>
   rw [if_neg Bool.false_ne_true] at q ⊢
   exact q v H1 x1 r
 | .or b b2,e,H,Q,k,I,q=>by
  obtain ⟨x,y,p,rfl,kk⟩:=zrW (show orB e (fun x y=>chkHE X.N EX X.env.scope tg n b x && chkHE X.N EX X.env.scope tg n b2 y)=true from k)
  have k:=kk
  rw [Bool.and_eq_true] at k
  have q':PostR _ _ ((heEv c ρ b).bind fun x=>(zac x).bind fun k=>if k=true then R.ok x else heEv c ρ b2):=q
  refine we_of (pe_orT pe_we (pe_one pe_we)) (zdZ hO hy ea k.1 I (q'.bind.mono (fun d hd v H1 x1 r=>?_) fun _ z=>z))
  obtain ⟨t,et,q⟩:=hd.bind.get (zau d)
  refine ⟨t,zaY (P:=PPa F A) (.inl r) et,?_⟩
  cases t with
  | true =>
   rw [if_pos rfl] at q ⊢
   exact q v H1 x1 r
  | false =>
   rw [if_neg Bool.false_ne_true] at q ⊢
   exact zdZ hO hy ea k.2 (I.step x1) (q.mono (fun d q v H' x r=>q v H' (x1.trans x) r) fun _ z=>z)
 | .lst xs,e,H,Q,k,I,q=>by
  obtain ⟨ys,p,rfl,kk⟩:=zpV (show lstB e (fun ys=>isLst EX X.env.scope n xs ys)=true from k)
  have k:=kk
  obtain ⟨w,q⟩:=PostR.when (show PostR _ _ (R.when (decide (xs.length <= sizeLine)) (R.ok (D.lst (xs.map fun x=>.bl (subC c x))))) from q)
  refine we_of (pe_lst pa_wa) (zj6 hy ea k ⟨by rw [List.length_map]; exact of_decide_eq_true w,fun pp hp=>?_⟩)
  exact zaC (P:=PPa F A) hp (I.newP hp) (zdq c xs) fun v H' x r f=>q v H' x r
 | .add i xs,e,H,Q,k,I,q=>by
  obtain ⟨x,px,ys,py,p,rfl,kk⟩:=zpW (show addB e (fun x ys=>tg.contains i && (X.N[i]? == some x) && visB X.env.scope x && isLst EX X.env.scope n xs ys)=true from k)
  have k:=kk
  rw [Bool.and_eq_true,Bool.and_eq_true,Bool.and_eq_true] at k
  obtain ⟨⟨⟨k0,k1⟩,k2⟩,k3⟩:=k
  obtain ⟨v1,v2,v3⟩:=zbw k2
  obtain ⟨d,ed,q⟩:=zbu (show PostR _ _ ((getV ρ i).bind fun o=>R.when (decide (xs.length <= sizeLine)) (dAdd o (.lst (xs.map fun x=>.bl (subC c x))))) from q)
  obtain ⟨w,q⟩:=PostR.when q
  obtain ⟨v,e2,s⟩:=I.val i d ed
  obtain ⟨z,ez,q⟩:=q.get (zeT .add d _)
  refine we_of (pe_op (op:=bopOf .add) op_om (pe_var (X:=X.suite a ((a,oe) :: pn)) (by simpa using k1) v1 v2 v3) (pe_lst pa_wa)) ⟨v,e2,zj6 hy ea k3 ⟨by rw [List.length_map]; exact of_decide_eq_true w,fun pp hp=>?_⟩⟩
  have x2:Ext Nix H (upd H pp (.lst (xs.map fun x=>.bl (subC c x)))):=Ext.new hp
  have I2:=I.step x2
  refine ziJ (op:=.add) (P:=PPa F A) ((I2.top ed e2)) (.inl (.lst (.inl upd_same) (I.newP hp) (zdq c xs))) ez I2.np fun v H' x r f=>q v H' (x2.trans x) r
end
end L2.Pf
namespace L2.Pf
open PySem PySem.Spec PyProof.Rows
section
variable {K:PySem.W.Frag} {F:Fx} {O:List Nat} {A:Addr -> Prop} {σ:St} {ρ:Env} {H:Hp}
theorem EnvR.hole (I:EnvR K F O A σ ρ H) {i:Nat} (u:Option V) (hO:O.contains i=false) (hio:i ∉ F.ios):EnvR K F O A (σ.set i u) (ρ.set i none) H:=by
 have gs:∀ {j:Nat} {d:D},(ρ.set i none)[j]?=some (some d) -> j ≠ i /\ ρ[j]?=some (some d):=fun {j d} e=>by
  by_cases c:j=i
  ·subst c
   by_cases lt:j < ρ.length
   ·rw [List.getElem?_set_self lt] at e; cases e
   ·rw [List.getElem?_eq_none (by rw [List.length_set]; omega)] at e; cases e
  ·rw [List.getElem?_set_ne (Ne.symm c)] at e; exact ⟨c,e⟩
 refine ⟨by rw [List.length_set,List.length_set]; exact I.len,I.ext,fun j d e=>?_,fun j k a dj dk hj hk ej ek mj mk sj sk=>?_,I.aM,I.aF,fun a m=>?_⟩
 ·obtain ⟨c,e⟩:=gs e
  rw [List.getElem?_set_ne (Ne.symm c)]
  exact I.val j d e
 ·obtain ⟨c,ej⟩:=gs ej
  obtain ⟨c2,ek⟩:=gs ek
  rw [List.getElem?_set_ne (Ne.symm c)] at sj
  rw [List.getElem?_set_ne (Ne.symm c2)] at sk
  exact I.inj j k a dj dk hj hk ej ek mj mk sj sk
 ·obtain ⟨h1,j,d,h2,h3,h4,h5,h6⟩:=I.io a m
  have c:j ≠ i:=fun z=>by subst z; rw [hO] at h3; cases h3
  exact ⟨h1,j,d,h2,h3,by rw [List.getElem?_set_ne (Ne.symm c)]; exact h4,h5,by rw [List.getElem?_set_ne (Ne.symm c)]; exact h6⟩
theorem EnvR.setFree (I:EnvR K F O A σ ρ H) {i:Nat} {d:D} {v:V} (r:Rep K H (PPa F A) d v) (hO:O.contains i=false) (hio:i ∉ F.ios):EnvR K F O A (σ.set i (some v)) (ρ.set i (some d)) H:=by
 refine (I.setPlain r hio).cong fun j=>?_
 by_cases c:j=i
 ·subst c
  rw [hO]
  cases w:(O.filter (· != j)).contains j with
  | false=>rfl
  | true=>rw [(zaf w).1] at hO; cases hO
 ·cases w:(O.filter (· != i)).contains j with
  | true=>exact (zaf w).1
  | false =>
   cases w2:O.contains j with
   | false=>rfl
   | true=>rw [zaj w2 (by simpa using c)] at w; cases w
end
theorem zmW {O xs:List Nat} {i:Nat} (h:xs.contains i=true):(less O xs).contains i=false:=by
 cases w:(less O xs).contains i with
 | false=>rfl
 | true=>rw [(zav w).2] at h; cases h
theorem zj8 {exP:Str -> Prop} {X:Cx} {EX:List Str} {a C:Addr} {oe:Obj} {pn:List (Addr × Obj)} {c n:Str} {F:Fx} {O:List Nat} {A:Addr -> Prop} {tg:List Nat} (hO:∀ i,tg.contains i=true -> O.contains i=false) (hy:HyN X EX a oe c C) (nd:X.N.Nodup)
  (hl:∀ {x:Str},Loc X.env.scope x -> X.fn x=true \/ X.env.scope.names.lookup x=some .local):∀ {hs:List (Nat × HE)} {st:List Stmt} {σ σ0:St} {ρ:Env} {H:Hp} {D:Ends},chkHs X.N EX X.env.scope F.ios tg n hs st=true -> EAt X n a σ -> EnvR X.K F O A σ ρ H -> FrIO F σ0 σ →
  PostR (fun ρ1=>∀ σ1 H1,EnvR X.K F O A σ1 ρ1 H1 -> Ext Nix H H1 -> FrIO F σ0 σ1 -> D.nx σ1 H1) exP (hsEv c hs ρ) -> WSs (X.suite a ((a,oe) :: pn)) st D σ H
 | [],[],σ,σ0,ρ,H,D,k,ea,I,fr,q=>zay pss_nil (q σ H I Ext.refl fr)
 | [],_ :: _,_,_,_,_,_,k,_,_,_,_=>by simp [chkHs] at k
 | (i,h) :: r,[],_,_,_,_,_,k,_,_,_,_=>by simp [chkHs] at k
 | (i,h) :: r,s :: st,σ,σ0,ρ,H,D,k,ea,I,fr,q=>by
  cases s <;> (try (simp [chkHs] at k; done))
  rename_i ts v pos
  obtain ⟨t0,rfl⟩:∃ t0,ts=[t0]:=by
   rcases ts with _ | ⟨t0,_ | ⟨t1,ts⟩⟩
   ·simp [chkHs] at k
   ·exact ⟨t0,rfl⟩
   ·cases t0 <;> simp [chkHs] at k
  cases t0 <;> (try (simp [chkHs] at k; done))
  next x p =>
   rw [chkHs] at k
   simp only [Bool.and_eq_true] at k
   obtain ⟨⟨⟨⟨⟨⟨c1,c2⟩,c3⟩,c4⟩,c5⟩,c6⟩,c7⟩:=k
   obtain ⟨h1,h2⟩:=zcV c1
   have hio:i ∉ F.ios:=by simpa using c2
   have q':PostR _ _ ((heEv c ρ h).bind fun d=>hsEv c r (ρ.set i (some d))):=q
   refine zay (pss_cons (ps_set (X:=X.suite a ((a,oe) :: pn)) nd h1 h2 pe_we (zaI c6) (hl h2)) zai) (zdZ hO hy ea c5 I (q'.bind.mono (fun d hd v H1 x1 rp=>?_) fun _ z=>z))
   refine zj8 hO hy nd hl c7 (fun hn=>?_) ((I.step x1).setFree rp (hO i c4) hio) (fun j hj=>?_) (hd.mono (fun ρ1 q σ2 H2 I2 x2 f2=>q σ2 H2 I2 (x1.trans x2) f2) fun _ z=>z)
   ·obtain ⟨k,hk,hs⟩:=ea hn
    have ne:i ≠ k:=fun z=>by
     subst z
     rw [h1] at hk
     have:x=n:=Option.some.inj hk
     simp [this] at c3
    exact ⟨k,hk,by rw [List.getElem?_set_ne ne]; exact hs⟩
   ·rw [List.getElem?_set_ne (fun z=>hio (by rw [z]; exact hj))]; exact fr j hj
section
variable {T:List Def}
theorem HyS.trW {X:Cx} {EX:List Str} {G:Str -> Option D} {Fnc:Fn} {n:Nat} {cls:Str -> Option Addr} {W W':WX} (hy:HyS X T EX G Fnc n cls W) {pn:List (Addr × Obj)} {xe:Value -> Shared -> Prop} (tk:Takes (X.tr pn xe) W') (po:PassesOwn (model X.prog X.w) X.A X.env xe):HyS (X.tr pn xe) T EX G Fnc n cls W' :=
  { calm:=hy.calm,nd:=hy.nd,room:=hy.room,glob:=hy.glob,blt:=hy.blt,flen:=hy.flen,tab:=hy.tab,fn:=hy.fn,tk:=tk,po:=po,tg:=⟨hy.tg.loc,hy.tg.cel⟩,kind:=hy.kind,tst:=hy.tst,excC:=hy.excC,fr:=hy.fr,
    mks:=fun c hc g d=>let ⟨C,e,m⟩:=hy.mks c hc g d; ⟨C,e,m⟩ }
theorem tb_ws {X:Cx} {EX:List Str} {G:Str -> Option D} {Fnc:Fn} {n:Nat} {cls:Str -> Option Addr} {W:WX} {F:Fx} {O:List Nat} {A Ab:Addr -> Prop} {σ σ0:St} {ρ:Env} {H Hb:Hp} {D:Ends} {e:E} {j:Option Nat} {b:Stmt}
  (hy:HyS X T EX G Fnc n cls W) (hj:∀ i,j=some i -> O.contains i=false) (hb:bareO O e=false) (c:chkTb X.N T X.env.scope F.ios O j e b=true) (I:EnvR X.K F O A σ ρ H) (ev:Ev Ab Hb A H) (fr:FrIO F σ0 σ)
  (h:PostR (fun d=>EnvAt X.K F σ0 Ab Hb O (setO ρ d j) D.nx) (ExW cls W σ H) (evE G Fnc e ρ)):WS X b D σ H:=by
 cases b <;> (try (simp [chkTb] at c; done))
 ·rename_i ts v pos
  obtain ⟨t0,rfl⟩:∃ t0,ts=[t0]:=by
   rcases ts with _ | ⟨t0,_ | ⟨t1,ts⟩⟩
   ·simp [chkTb] at c
   ·exact ⟨t0,rfl⟩
   ·cases t0 <;> simp [chkTb] at c
  cases t0 <;> (try (simp [chkTb] at c; done))
  next x p =>
   have c:(jOk X.N X.env.scope F.ios x j && chkE X.N T X.env.scope O e v && zaO v)=true:=c
   simp only [Bool.and_eq_true] at c
   obtain ⟨⟨c1,c2⟩,c3⟩:=c
   cases j with
   | none=>cases c1
   | some i =>
    have c1:(locB X.N X.env.scope i x && !F.ios.contains i)=true:=c1
    rw [Bool.and_eq_true] at c1
    have hio:i ∉ F.ios:=by simpa using c1.2
    refine ze9 hy c1.1 c2 (by rw [c3]; rfl) I (h.mono (fun d hd u H' g=>?_) fun _ z=>z)
    exact hd _ _ _ ((I.step g.ext).setFree (g.rep hb) (hj i rfl) hio) (ev.grow g.ext) fun k hk=>by
     rw [List.getElem?_set_ne (fun z=>hio (by rw [z]; exact hk))]; exact fr k hk
 ·rename_i v pos
  have c:(j.isNone && chkE X.N T X.env.scope O e v && zaO v)=true:=c
  simp only [Bool.and_eq_true] at c
  obtain ⟨⟨c1,c2⟩,c3⟩:=c
  cases j with
  | some i=>cases c1
  | none =>
   refine ws_of (ps_expr pe_we (zaI c3)) ((allE e).1 hy.toHy hy.tk rfl c2 I (h.mono (fun d hd u H' g=>?_) fun _ z=>z))
   exact hd _ _ _ (I.step g.ext) (ev.grow g.ext) fr
theorem zj9 (j:Option Nat) (e:E) (x:Str) (o:Option Nat) (hs:List (Nat × HE)) (re:Option Str):SndS T (.tryX j e x o hs re):=by
 intro X st EX G Fnc n wf cls W F fresh OL O A Ab σ0 σ ρ H Hb D hy c I ev fr h
 cases st <;> (try (simp [chkS] at c; done))
 rename_i body hds orelse fin pos
 intro pins0 s0 I0
 rcases fin with _ | ⟨f0,fin⟩ <;> (try (simp [chkS] at c; done))
 rcases orelse with _ | ⟨o0,orelse⟩ <;> (try (simp [chkS] at c; done))
 rcases hds with _ | ⟨hd,_ | ⟨h1,hds⟩⟩ <;> (try (simp [chkS] at c; done))
 rcases body with _ | ⟨b,_ | ⟨b1,body⟩⟩ <;> (try (simp [chkS] at c; done))
 next =>
  rw [chkS] at c
  simp only [Bool.and_eq_true] at c
  obtain ⟨⟨c1,c2⟩,c3⟩:=c
  obtain ⟨A1,s1,I1⟩:=I.less _ c3
  have ev1:=ev.less s1
  have h':PostR (PostS X.K F fresh σ0 Ab Hb (some (less O (topV e ++ (escE e ++ (j.toList ++ o.toList ++ hs.map (·.1)))))) OL D) (WOK cls W F) (tryR ρ j x o hs re (evE G Fnc e ρ)):=h
  generalize hO1:less O (topV e ++ (escE e ++ (j.toList ++ o.toList ++ hs.map (·.1))))=O1 at c1 c3 I1 h'
  have inO:∀ i,i ∈ j.toList ++ o.toList ++ hs.map (·.1) -> O1.contains i=false:=fun i hi=>by
   rw [<- hO1]
   exact zmW (List.contains_iff_mem.mpr (List.mem_append_right _ (List.mem_append_right _ hi)))
  have bare:bareO O1 e=false:=by rw [<- hO1]; exact zaN _ _ _
  have okW:∀ {d:Pf.D},PostR (PostS X.K F fresh σ0 Ab Hb (some O1) OL D) (WOK cls W F) (tryR ρ j x o hs re (.ok d)) -> EnvAt X.K F σ0 Ab Hb O1 (setO ρ d j) D.nx:=fun {d} z=>by
   have z':∀ O',some O1=some O' -> EnvAt X.K F σ0 Ab Hb O' (setO ρ d j) D.nx:=z
   exact z' _ rfl
  cases hd with
  | ExceptHandler ty nm suite p2 =>
   match ty,nm,suite,c2 with
   | some (.Name y np),some nn,b0 :: suite,c2 =>
    have c2:(tstB EX X.env.scope x (.Name y ⟨0,0,0,0⟩) && oOk X.N X.env.scope F.ios nn o && re.isNone && chkHs X.N EX X.env.scope F.ios (hs.map (·.1)) nn hs (b0 :: suite))=true:=c2
    simp only [Bool.and_eq_true] at c2
    obtain ⟨⟨⟨t1,t2⟩,t3⟩,t4⟩:=c2
    cases o with
    | none=>cases t2
    | some i =>
     have t2:((X.N[i]? == some nn) && locO X.env.scope nn && !F.ios.contains i)=true:=t2
     simp only [Bool.and_eq_true] at t2
     obtain ⟨⟨u1,u2⟩,u3⟩:=t2
     have hN:X.N[i]?=some nn:=by simpa using u1
     have hio:i ∉ F.ios:=by simpa using u3
     have hln:X.env.scope.names.lookup nn=some .local:=by
      unfold locO at u2
      split at u2
      ·assumption
      ·cases u2
     cases re with
     | some _=>cases t3
     | none =>
      obtain ⟨p3,ey,gx,tx⟩:=zhf t1
      have exy:y=x:=(Expr.Name.inj ey).1
      subst exy
      obtain ⟨v,cx,ca,kt⟩:=hy.tst y tx
      obtain ⟨g1,g2,g3⟩:=gl_of (X:=X) gx
      have nms:Names X y cx:=by
       refine ⟨g1,g2,?_⟩
       rcases ca with ⟨C,hm,_,rfl⟩ | ⟨hm,hb,_⟩
       ·exact .inl hm
       ·exact .inr ⟨hm,hb,g3⟩
      refine ws_of (D:=D) (σ:=σ) (H:=H) (ps_try_as (tb:=fun W=>fun D σ H=>∀ (pn:List (Addr × Obj)) (xe:Value -> Shared -> Prop),Takes (X.tr pn xe) W -> PassesOwn (model X.prog X.w) X.A X.env xe -> WSs (X.tr pn xe) [b] D σ H)
       (ts:=fun a cl dd=>fun D σ H=>∀ (oe:Obj) (pn:List (Addr × Obj)),Zc cl dd oe -> (∃ vs,oe.data=.fields vs) -> WSs (X.suite a ((a,oe) :: pn)) (b0 :: suite) D σ H)
       hy.fr.1 hy.fr.2 hy.nd hN hln nms hy.tk (fun W pn xe tk po=>⟨fun pins s σ H D I h=>h pn xe tk po pins s I⟩) (fun a oe cl dd pn hz hf=>⟨fun pins s σ H D I h=>h oe pn hz hf pins s I⟩)) ?_ pins0 s0 I0
      intro pn xe tk po
      refine zay (pss_one ps_ws) (tb_ws (hy.trW tk po) (fun k hk=>inO k (by subst hk; simp)) bare c1 I1 ev1 fr ?_)
      cases er:evE G Fnc e ρ with
      | bad=>rw [er] at h'; exact h'.elim
      | ok d=>rw [er] at h'; exact okW h'
      | exc cc =>
       rw [er] at h'
       intro C H1 eC x1
       refine ⟨subC cc y,(kt cc C eC).1,fun hb a ha=>?_,fun hb=>?_⟩
       ·intro oe pn2 hz hf
        have h2:PostR (PostS X.K F fresh σ0 Ab Hb (some O1) OL D) (WOK cls W F) (if subC cc y=true then ((hsEv cc hs (unset ρ (some i))).bind fun ρ1=>R.ok (Fl.next,unset ρ1 (some i))) else R.exc cc):=h'
        rw [if_pos hb] at h2
        have hyN:HyN X EX a oe cc C:=⟨hy.blt _ (by decide),hy.excC cc C eC,hz,hf,fun x hx=>let ⟨v,cx,q1,q2⟩:=hy.tst x hx; ⟨v,cx,q1,(q2 cc C eC).2⟩⟩
        have lt:i < σ.length:=by rw [I0.len]; exact (List.getElem?_eq_some_iff.mp hN).1
        refine zj8 (σ0:=σ0) (O:=O1) (A:=A1) (tg:=hs.map (·.1)) (fun k hk=>inO k (List.mem_append_right _ (List.contains_iff_mem.mp hk))) hyN hy.nd (fun hx=>hy.hf hx) t4 (fun _=>⟨i,hN,List.getElem?_set_self lt⟩) ((I1.step x1).hole _ (inO i (by simp)) hio) (fun k hk=>?_) (h2.bind.mono (fun ρ1 q σ1 H2 I2 x2 f2=>?_) fun _ z=>z)
        ·rw [List.getElem?_set_ne (fun z=>hio (by rw [z]; exact hk))]; exact fr k hk
        ·have q:∀ O',some O1=some O' -> EnvAt X.K F σ0 Ab Hb O' (unset ρ1 (some i)) D.nx:=q
         exact q _ rfl _ _ _ (I2.hole none (inO i (by simp)) hio) ((ev1.grow x1).grow x2) fun k hk=>by
          rw [List.getElem?_set_ne (fun z=>hio (by rw [z]; exact hk))]; exact f2 k hk
       ·have h2:PostR (PostS X.K F fresh σ0 Ab Hb (some O1) OL D) (WOK cls W F) (if subC cc y=true then ((hsEv cc hs (unset ρ (some i))).bind fun ρ1=>R.ok (Fl.next,unset ρ1 (some i))) else R.exc cc):=h'
        rw [hb,if_neg Bool.false_ne_true] at h2
        exact h2 C σ H1 eC (I1.ext.trans x1.nix)
   | some (.Name y np),none,b0 :: suite,c2 =>
    have c2:(tstB EX X.env.scope x (.Name y ⟨0,0,0,0⟩) && o.isNone && re.isNone && chkHs X.N EX X.env.scope F.ios (hs.map (·.1)) Str.empty hs (b0 :: suite))=true:=c2
    simp only [Bool.and_eq_true] at c2
    obtain ⟨⟨⟨t1,t2⟩,t3⟩,t4⟩:=c2
    cases o with
    | some _=>cases t2
    | none =>
     cases re with
     | some _=>cases t3
     | none =>
      obtain ⟨p3,ey,gx,tx⟩:=zhf t1
      have exy:y=x:=(Expr.Name.inj ey).1
      subst exy
      obtain ⟨v,cx,ca,kt⟩:=hy.tst y tx
      obtain ⟨g1,g2,g3⟩:=gl_of (X:=X) gx
      have nms:Names X y cx:=by
       refine ⟨g1,g2,?_⟩
       rcases ca with ⟨C,hm,_,rfl⟩ | ⟨hm,hb,_⟩
       ·exact .inl hm
       ·exact .inr ⟨hm,hb,g3⟩
      refine ws_of (D:=D) (σ:=σ) (H:=H) (ps_try_only (tb:=fun W=>fun D σ H=>∀ (pn:List (Addr × Obj)) (xe:Value -> Shared -> Prop),Takes (X.tr pn xe) W -> PassesOwn (model X.prog X.w) X.A X.env xe -> WSs (X.tr pn xe) [b] D σ H)
       (ts:=fun a cl dd=>fun D σ H=>∀ (oe:Obj) (pn:List (Addr × Obj)),Zc cl dd oe -> (∃ vs,oe.data=.fields vs) -> WSs (X.suite a ((a,oe) :: pn)) (b0 :: suite) D σ H)
       hy.fr.1 hy.fr.2 nms hy.tk (fun W pn xe tk po=>⟨fun pins s σ H D I h=>h pn xe tk po pins s I⟩) (fun a oe cl dd pn hz hf=>⟨fun pins s σ H D I h=>h oe pn hz hf pins s I⟩)) ?_ pins0 s0 I0
      intro pn xe tk po
      refine zay (pss_one ps_ws) (tb_ws (hy.trW tk po) (fun k hk=>inO k (by subst hk; simp)) bare c1 I1 ev1 fr ?_)
      cases er:evE G Fnc e ρ with
      | bad=>rw [er] at h'; exact h'.elim
      | ok d=>rw [er] at h'; exact okW h'
      | exc cc =>
       rw [er] at h'
       intro C H1 eC x1
       have h2:PostR (PostS X.K F fresh σ0 Ab Hb (some O1) OL D) (WOK cls W F) (if subC cc y=true then ((hsEv cc hs (unset ρ none)).bind fun ρ1=>R.ok (Fl.next,unset ρ1 none)) else R.exc cc):=h'
       refine ⟨subC cc y,(kt cc C eC).1,fun hb a ha=>?_,fun hb=>?_⟩
       ·intro oe pn2 hz hf
        rw [if_pos hb] at h2
        have hyN:HyN X EX a oe cc C:=⟨hy.blt _ (by decide),hy.excC cc C eC,hz,hf,fun x hx=>let ⟨v,cx,q1,q2⟩:=hy.tst x hx; ⟨v,cx,q1,(q2 cc C eC).2⟩⟩
        refine zj8 (σ0:=σ0) (O:=O1) (A:=A1) (tg:=hs.map (·.1)) (fun k hk=>inO k (List.mem_append_right _ (List.contains_iff_mem.mp hk))) hyN hy.nd (fun hx=>hy.hf hx) t4 (fun z=>absurd rfl z) (I1.step x1) fr (h2.bind.mono (fun ρ1 q σ1 H2 I2 x2 f2=>?_) fun _ z=>z)
        have q:∀ O',some O1=some O' -> EnvAt X.K F σ0 Ab Hb O' ρ1 D.nx:=q
        exact q _ rfl _ _ _ I2 ((ev1.grow x1).grow x2) f2
       ·rw [hb,if_neg Bool.false_ne_true] at h2
        exact h2 C σ H1 eC (I1.ext.trans x1.nix)
theorem zka (e x:E):SndS T (.appC e x):=by
 intro X st EX G Fnc n wf cls W F fresh OL O A Ab σ0 σ ρ H Hb D hy c I ev fr h
 cases st <;> (try (simp [chkS] at c; done))
 rename_i ex pos2
 cases ex <;> (try (simp [chkS] at c; done))
 rename_i fe xs kws pos
 cases fe <;> (try (simp [chkS] at c; done))
 rename_i f m apos
 match xs,kws,c with
 | [v],[],c =>
  rw [chkS] at c
  simp only [Bool.and_eq_true] at c
  obtain ⟨⟨⟨⟨⟨⟨c1,c2⟩,c3⟩,c4⟩,c5⟩,c6⟩,c7⟩:=c
  have em:m="append":=by simpa using c1
  subst em
  obtain ⟨A1,s1,I1⟩:=I.less _ c6
  have h':PostR (PostS X.K F fresh σ0 Ab Hb (some (less O (topV e ++ (escE e ++ (topV x ++ escE x))))) OL D) (WOK cls W F) ((evE G Fnc e ρ).bind fun o=>(lstD o).bind fun xs=>(evE G Fnc x ρ).bind fun _=>R.when (decide (xs.length < sizeLine)) (.ok (.next,ρ))):=h
  refine ws_of (ps_expr (pe_bm PySem.F.plainAttrs_list PySem.F.slot_list_append PySem.F.type_list_append mt_append pe_we (pa_cons pe_we pa_nil (zab (zaa _ _ c5))) (zaD c3) (zbx (by rw [List.all_cons,zaa _ _ c5]; rfl) (by simp)) c7 (zab (zaa _ _ c5)) rfl) rfl) ?_
  refine (allE e).1 hy.toHy hy.tk rfl c4 I1 (h'.bind.mono (fun od hd ov H1 g=>?_) fun c hc=>zap I1 hc)
  cases od <;> (try exact hd.elim)
  rename_i ds
  obtain ⟨a,rfl,hn,ow⟩:=g.new c2 rfl
  obtain ⟨vs,hv,rv⟩:=ow
  have hd:PostR (PostS X.K F fresh σ0 Ab Hb (some (less O (topV e ++ (escE e ++ (topV x ++ escE x))))) OL D) (WOK cls W F) ((evE G Fnc x ρ).bind fun _=>R.when (decide (ds.length < sizeLine)) (.ok (.next,ρ))):=hd
  have I2:=I1.step g.ext
  refine ⟨.inl ⟨rfl,vs,SqL.of hv⟩,(allE x).1 hy.toHy hy.tk rfl c5 I2 (hd.bind.mono (fun d hd u H2 g2=>?_) fun c hc=>zap I2 hc)⟩
  obtain ⟨w,q⟩:=PostR.when (e:=WOK cls W F) hd
  have q:∀ O',some (less O (topV e ++ (escE e ++ (topV x ++ escE x))))=some O' -> EnvAt X.K F σ0 Ab Hb O' ρ D.nx:=q
  have hv2:=g2.ext.all hv
  refine ⟨a,vs,u,rfl,rfl,hv2,by rw [<- rv.length]; exact of_decide_eq_true w,?_⟩
  have xf:Ext Nix H (upd H2 a (.lst (vs ++ [u]))):=fun b o eb _=>by
   rw [upd_ne (ne_of_none eb hn)]
   exact g2.ext.all (g.ext.all eb)
  exact q _ rfl _ _ _ (I1.step xf) ((ev.less s1).grow xf) fr
end
end L2.Pf
namespace L2.Pf
open PySem PySem.Spec PyProof.Rows
section
variable {K:PySem.W.Frag} {F:Fx} {O:List Nat} {A:Addr -> Prop} {σ σ':St} {ρ ρ':Env} {H H':Hp}
theorem zc2 {p:Nat -> Pf.D -> Bool}:∀ {n:Nat} {ρ:Env} {j:Nat} {d:Pf.D},(forgD p n ρ)[j]?=some (some d) -> ρ[j]?=some (some d) /\ p (n+j) d=true
 | _,[],_,_,h=>by cases h
 | n,none :: ρ,0,d,h=>by cases h
 | n,some x :: ρ,0,d,h=>by
  have h:some (if p n x=true then some x else none)=some (some d):=h
  by_cases c:p n x=true
  ·rw [if_pos c] at h
   cases h
   exact ⟨rfl,c⟩
  ·rw [if_neg c] at h; cases h
 | n,o :: ρ,j+1,d,h=>by
  obtain ⟨h1,h2⟩:=zc2 (n:=n+1) (ρ:=ρ) (j:=j) h
  exact ⟨h1,by rw [show n+(j+1)=n+1+j by omega]; exact h2⟩
theorem zes {p:Nat -> Pf.D -> Bool}:∀ {n:Nat} {ρ:Env},(forgD p n ρ).length=ρ.length
 | _,[]=>rfl
 | n,o :: ρ=>congrArg (·+1) (zes (n:=n+1) (ρ:=ρ))
theorem EnvR.forg (I:EnvR K F O A σ ρ H) (hio:F.ios=[]) (hl:ρ'.length=ρ.length) (h:∀ (j:Nat) (d:Pf.D),ρ'[j]?=some (some d) -> ρ[j]?=some (some d)):EnvR K F O A σ ρ' H :=
 ⟨I.len.trans hl.symm,I.ext,fun i d e=>I.val i d (h i d e),fun i j a di dj hi hj ei ej=>I.inj i j a di dj hi hj (h _ _ ei) (h _ _ ej),I.aM,I.aF,fun a m=>by
  obtain ⟨_,j,_,h1,_⟩:=I.io a m
  rw [hio] at h1; cases h1⟩
theorem EnvR.mix (I:EnvR K F O A σ ρ H) (x:Ext Nix H H') (hl:σ'.length=ρ'.length) (hm:∀ (j:Nat) (d:Pf.D),ρ'[j]?=some (some d) -> (ρ[j]?=some (some d) /\ σ'[j]?=σ[j]?) \/ (O.contains j=false /\ ∃ v,σ'[j]?=some (some v) /\ Rep K H' (PPa F A) d v))
  (hio:∀ j ∈ F.ios,ρ'[j]?=ρ[j]? /\ σ'[j]?=σ[j]?):EnvR K F O A σ' ρ' H':=by
 have J:=I.step x
 have own:∀ (j:Nat) (d:Pf.D),ρ'[j]?=some (some d) -> O.contains j=true -> ρ[j]?=some (some d) /\ σ'[j]?=σ[j]?:=fun j d e ho=>by
  rcases hm j d e with h | h
  ·exact h
  ·rw [h.1] at ho; cases ho
 refine ⟨hl,J.ext,fun j d e=>?_,fun i j a di dj hi hj ei ej mi mj si sj=>?_,J.aM,J.aF,fun a m=>?_⟩
 ·rcases hm j d e with ⟨h1,h2⟩ | ⟨h1,v,h2,h3⟩
  ·rw [h2]; exact J.val j d h1
  ·refine ⟨v,h2,?_⟩
   unfold Slot
   rw [h1,Bool.false_and,if_neg Bool.false_ne_true]
   exact h3
 ·obtain ⟨e1,e2⟩:=own i di ei hi
  obtain ⟨e3,e4⟩:=own j dj ej hj
  rw [e2] at si
  rw [e4] at sj
  exact I.inj i j a di dj hi hj e1 e3 mi mj si sj
 ·obtain ⟨q,j,d,h1,h2,h3,h4,h5⟩:=J.io a m
  obtain ⟨e1,e2⟩:=hio j h1
  exact ⟨q,j,d,h1,h2,by rw [e1]; exact h3,h4,by rw [e2]; exact h5⟩
end
theorem zdr {v a b:Expr} {p:Pos} {l:Nat} {env:PySem.Env}:swapsWith v (some (.Subscript a b p)) l env=pure false:=by
 cases v <;> rfl
section
variable {T:List Def}
theorem zkb {ks:List Nat} {r:Ss} (hr:SndSs T r):SndSs T (.reb ks r):=by
 intro X st EX G Fnc n wf cls W F fresh OL O A Ab σ0 σ ρ H Hb D hy c I ev fr h
 rw [chkSs] at c
 simp only [Bool.and_eq_true] at c
 obtain ⟨⟨c1,c2⟩,c3⟩:=c
 have h':PostR (PostS X.K F fresh σ0 Ab Hb (ownSs T r O) OL D) (WOK cls W F) (evSs G Fnc wf r (forgD (fun j d=>d.imm || ks.contains j && fltI d) 0 ρ)):=by
  have e:ownSs T (.reb ks r) O=ownSs T r O:=by rw [ownSs]
  rw [<- e]; exact h
 exact hr hy c3 (I.forg (List.isEmpty_iff.mp c1) zes fun j d e=>(zc2 e).1) ev fr h'
structure Tw (K:PySem.W.Frag) (i k x:Nat) (l b0 b1:Addr) (σ:St) (ρ:Env) (H:Hp) (σ':St) (ρ':Env) (H':Hp) (q:List (List Key × Pf.D) × List (List Key × Pf.D)):Prop where
 len:σ'.length=ρ'.length /\ ρ'.length=ρ.length
 off:∀ j:Nat,j ≠ i -> j ≠ k -> j ≠ x -> ρ'[j]?=ρ[j]? /\ σ'[j]?=σ[j]?
 i0:∀ d:Pf.D,ρ'[i]? ≠ some (some d)
 si:σ'[i]?=some (some (.ref l))
 kx:∀ (j:Nat) (d:Pf.D),j=k \/ j=x -> ρ'[j]?=some (some d) -> ∃ v,σ'[j]?=some (some v) /\ Rep K H' Nix d v
 ext:Ext Nix H H'
 hl:H' l=some (.lst [.ref b0,.ref b1])
 h0:∃ w:List (List Key × V),H' b0=some (.dT w) /\ q.1.map (·.1)=w.map (·.1) /\ Reps K H' Nix (q.1.map (·.2)) (w.map (·.2))
 h1:∃ w:List (List Key × V),H' b1=some (.dT w) /\ q.2.map (·.1)=w.map (·.1) /\ Reps K H' Nix (q.2.map (·.2)) (w.map (·.2))
theorem zaQ {K:PySem.W.Frag} {H H':Hp} (h:∀ a u,tupO u=true -> H a=some u -> H' a=some u) {P:Addr -> Prop} {d:Pf.D} {v:V} (r:Rep K H Nix d v):Rep K H' P d v :=
 r.mono ⟨h,fun _ _ _ p _=>p.elim,fun _ _ _ p _=>p.elim⟩
theorem zaT {K:PySem.W.Frag} {H H':Hp} (h:∀ a u,tupO u=true -> H a=some u -> H' a=some u) {P:Addr -> Prop} {d:List Pf.D} {v:List V} (r:Reps K H Nix d v):Reps K H' P d v :=
 r.mono ⟨h,fun _ _ _ p _=>p.elim,fun _ _ _ p _=>p.elim⟩
section
variable {K:PySem.W.Frag} {F:Fx} {O:List Nat} {A:Addr -> Prop} {i k x:Nat} {l b0 b1:Addr} {σ σ':St} {ρ ρ':Env} {H H':Hp} {q:List (List Key × Pf.D) × List (List Key × Pf.D)}
theorem Tw.env (I:EnvR K F O A σ ρ H) (w:Tw K i k x l b0 b1 σ ρ H σ' ρ' H' q) (n0:H b0=none) (n1:H b1=none) (ne:b0 ≠ b1) (ho:O.contains k=false /\ O.contains x=false) (hio:∀ j ∈ F.ios,j ≠ i /\ j ≠ k /\ j ≠ x) :
  EnvR K F O (fun b=>(A b \/ b=b0) \/ b=b1) σ' ρ' H':=by
 obtain ⟨w0,e0,_⟩:=w.h0
 obtain ⟨w1,e1,_⟩:=w.h1
 have J1:EnvR K F O A σ' ((ρ'.set k none).set x none) H:=I.mix Ext.refl (by simp [w.len.1]) (fun j d e=>.inl (by
  by_cases cx:x=j
  ·subst cx
   rw [List.getElem?_set] at e
   simp at e
  ·rw [List.getElem?_set_ne cx] at e
   by_cases ck:k=j
   ·subst ck
    rw [List.getElem?_set] at e
    simp at e
   ·rw [List.getElem?_set_ne ck] at e
    have ci:j ≠ i:=fun z=>by subst z; exact w.i0 d e
    obtain ⟨h1,h2⟩:=w.off j ci (fun z=>ck z.symm) (fun z=>cx z.symm)
    exact ⟨by rw [<- h1]; exact e,h2⟩)) (fun j hj=>by
   obtain ⟨c1,c2,c3⟩:=hio j hj
   obtain ⟨h1,h2⟩:=w.off j c1 c2 c3
   rw [List.getElem?_set_ne (fun z=>c3 z.symm),List.getElem?_set_ne (fun z=>c2 z.symm)]
   exact ⟨h1,h2⟩)
 have J2:=zbs J1 n0 (H':=upd H b0 (.dT w0)) (fun b o e=>by rw [upd_ne (ne_of_none e n0)]; exact e) upd_same rfl
 have J3:=zbs J2 (p:=b1) (H':=H') (by rw [upd_ne (fun z=>ne z.symm)]; exact n1) (fun b o e=>by
  by_cases c:b=b0
  ·subst c; rw [upd_same] at e; cases e; exact e0
  ·rw [upd_ne c] at e; exact w.ext.all e) e1 rfl
 refine J3.mix Ext.refl w.len.1 (fun j d e=>?_) (fun j hj=>?_)
 ·by_cases c:j=k \/ j=x
  ·refine .inr ⟨by rcases c with rfl | rfl; exact ho.1; exact ho.2,?_⟩
   obtain ⟨v,h1,h2⟩:=w.kx j d c e
   exact ⟨v,h1,zaQ (fun _ _ _ e=>e) h2⟩
  ·refine .inl ⟨?_,rfl⟩
   rw [List.getElem?_set_ne (fun z=>c (.inr z.symm)),List.getElem?_set_ne (fun z=>c (.inl z.symm))]
   exact e
 ·obtain ⟨c1,c2,c3⟩:=hio j hj
  rw [List.getElem?_set_ne (fun z=>c3 z.symm),List.getElem?_set_ne (fun z=>c2 z.symm)]
  exact ⟨rfl,rfl⟩
theorem Tw.done (I:EnvR K F O A σ ρ H) (w:Tw K i k x l b0 b1 σ ρ H σ' ρ' H' q) (nl:H l=none) (n0:H b0=none) (n1:H b1=none) (hi:i < ρ.length) (ho:O.contains i=false /\ O.contains k=false /\ O.contains x=false) (hio:∀ j ∈ F.ios,j ≠ i /\ j ≠ k /\ j ≠ x) :
  EnvR K F O A σ' (ρ'.set i (some (.lst [.dT q.1,.dT q.2]))) H':=by
 obtain ⟨w0,e0,k0,r0⟩:=w.h0
 obtain ⟨w1,e1,k1,r1⟩:=w.h1
 have up:∀ {ds:List Pf.D} {vs:List V},Reps K H' Nix ds vs -> Reps K H' (PPa F A) ds vs:=fun r=>zaT (fun _ _ _ e=>e) r
 refine I.mix w.ext (by simp [w.len.1]) (fun j d e=>?_) (fun j hj=>?_)
 ·by_cases ci:i=j
  ·subst ci
   rw [List.getElem?_set_self (by rw [w.len.2]; exact hi)] at e
   cases e
   exact .inr ⟨ho.1,.ref l,w.si,.lst (.inl w.hl) (I.newP nl) (.cons (.dT (.inl e0) (I.newP n0) k0 (up r0)) (.cons (.dT (.inl e1) (I.newP n1) k1 (up r1)) .nil))⟩
  ·rw [List.getElem?_set_ne ci] at e
   by_cases c:j=k \/ j=x
   ·refine .inr ⟨by rcases c with rfl | rfl; exact ho.2.1; exact ho.2.2,?_⟩
    obtain ⟨v,h1,h2⟩:=w.kx j d c e
    exact ⟨v,h1,zaQ (fun _ _ _ e=>e) h2⟩
   ·obtain ⟨h1,h2⟩:=w.off j (fun z=>ci z.symm) (fun z=>c (.inl z)) (fun z=>c (.inr z))
    exact .inl ⟨by rw [<- h1]; exact e,h2⟩
 ·obtain ⟨c1,c2,c3⟩:=hio j hj
  rw [List.getElem?_set_ne (fun z=>c1 z.symm)]
  exact w.off j c1 c2 c3
end
section
variable {K:PySem.W.Frag} {i k x:Nat} {l b0 b1:Addr} {σ σ':St} {ρ ρ':Env} {H H' H2:Hp} {q:List (List Key × Pf.D) × List (List Key × Pf.D)}
theorem Tw.grow (w:Tw K i k x l b0 b1 σ ρ H σ' ρ' H' q) (e:Ext Nix H' H2):Tw K i k x l b0 b1 σ ρ H σ' ρ' H2 q:=by
 obtain ⟨w0,e0,k0,r0⟩:=w.h0
 obtain ⟨w1,e1,k1,r1⟩:=w.h1
 have tu:∀ a u,tupO u=true -> H' a=some u -> H2 a=some u:=fun a u _ h=>e.all h
 exact ⟨w.len,w.off,w.i0,w.si,fun j d c h=>by
  obtain ⟨v,h1,h2⟩:=w.kx j d c h
  exact ⟨v,h1,zaQ tu h2⟩,w.ext.trans e,e.all w.hl,⟨w0,e.all e0,k0,zaT tu r0⟩,⟨w1,e.all e1,k1,zaT tu r1⟩⟩
theorem Tw.set (w:Tw K i k x l b0 b1 σ ρ H σ' ρ' H' q) {j:Nat} (c:j=k \/ j=x) (ni:i ≠ k /\ i ≠ x) {d:Pf.D} {v:V} (r:Rep K H' Nix d v):Tw K i k x l b0 b1 σ ρ H (σ'.set j (some v)) (ρ'.set j (some d)) H' q:=by
 have ij:i ≠ j:=by rcases c with rfl | rfl; exact ni.1; exact ni.2
 refine ⟨⟨by simp [w.len.1],by simp [w.len.2]⟩,fun m h1 h2 h3=>?_,fun d'=>?_,?_,fun m d' c' h=>?_,w.ext,w.hl,w.h0,w.h1⟩
 ·have jm:j ≠ m:=by rcases c with rfl | rfl; exact fun z=>h2 z.symm; exact fun z=>h3 z.symm
  rw [List.getElem?_set_ne jm,List.getElem?_set_ne jm]
  exact w.off m h1 h2 h3
 ·rw [List.getElem?_set_ne (fun z=>ij z.symm)]; exact w.i0 d'
 ·rw [List.getElem?_set_ne (fun z=>ij z.symm)]; exact w.si
 ·by_cases e:j=m
  ·subst e
   have lt:j < ρ'.length:=by
    by_cases z:j < ρ'.length
    ·exact z
    ·rw [List.getElem?_eq_none (by simpa using z)] at h; cases h
   rw [List.getElem?_set_self lt] at h
   cases h
   exact ⟨v,List.getElem?_set_self (by rw [w.len.1]; exact lt),r⟩
  ·rw [List.getElem?_set_ne e] at h
   rw [List.getElem?_set_ne e]
   exact w.kx m d' c' h
theorem Tw.put0 (w:Tw K i k x l b0 b1 σ ρ H σ' ρ' H' q) (n0:H b0=none) (ne:b0 ≠ b1) (key:List Key) {d:Pf.D} {v:V} (r:Rep K H' Nix d v) {u:List (List Key × V)} (hu:H' b0=some (.dT u)):Tw K i k x l b0 b1 σ ρ H σ' ρ' (upd H' b0 (.dT (putK u key v))) (L2.Pf.put q.1 key d,q.2):=by
 obtain ⟨w0,e0,k0,r0⟩:=w.h0
 obtain ⟨w1,e1,k1,r1⟩:=w.h1
 rw [hu] at e0; cases e0
 have tu:∀ a o,tupO o=true -> H' a=some o -> upd H' b0 (.dT (putK u key v)) a=some o:=fun a o h e=>by
  have:a ≠ b0:=fun z=>by subst z; rw [hu] at e; cases e; cases h
  rw [upd_ne this]; exact e
 have nl:l ≠ b0:=fun z=>by have:=w.hl; rw [z,hu] at this; cases this
 exact ⟨w.len,w.off,w.i0,w.si,fun j d c h=>by
  obtain ⟨v,h1,h2⟩:=w.kx j d c h
  exact ⟨v,h1,zaQ tu h2⟩,fun b o e n=>by
   rw [upd_ne (ne_of_none e n0)]; exact w.ext b o e n,by rw [upd_ne nl]; exact w.hl,
  ⟨_,upd_same,zbN key d v k0,zaT tu (zbO key r k0 r0)⟩,⟨w1,by rw [upd_ne (fun z=>ne z.symm)]; exact e1,k1,zaT tu r1⟩⟩
theorem Tw.put1 (w:Tw K i k x l b0 b1 σ ρ H σ' ρ' H' q) (n1:H b1=none) (ne:b0 ≠ b1) (key:List Key) {d:Pf.D} {v:V} (r:Rep K H' Nix d v) {u:List (List Key × V)} (hu:H' b1=some (.dT u)):Tw K i k x l b0 b1 σ ρ H σ' ρ' (upd H' b1 (.dT (putK u key v))) (q.1,L2.Pf.put q.2 key d):=by
 obtain ⟨w0,e0,k0,r0⟩:=w.h0
 obtain ⟨w1,e1,k1,r1⟩:=w.h1
 rw [hu] at e1; cases e1
 have tu:∀ a o,tupO o=true -> H' a=some o -> upd H' b1 (.dT (putK u key v)) a=some o:=fun a o h e=>by
  have:a ≠ b1:=fun z=>by subst z; rw [hu] at e; cases e; cases h
  rw [upd_ne this]; exact e
 have nl:l ≠ b1:=fun z=>by have:=w.hl; rw [z,hu] at this; cases this
 exact ⟨w.len,w.off,w.i0,w.si,fun j d c h=>by
  obtain ⟨v,h1,h2⟩:=w.kx j d c h
  exact ⟨v,h1,zaQ tu h2⟩,fun b o e n=>by
   rw [upd_ne (ne_of_none e n1)]; exact w.ext b o e n,by rw [upd_ne nl]; exact w.hl,
  ⟨w0,by rw [upd_ne ne]; exact e0,k0,zaT tu r0⟩,⟨_,upd_same,zbN key d v k1,zaT tu (zbO key r k1 r1)⟩⟩
end
theorem zkc {i k x:Nat} {it:It} {ex ix val:E} {r:Ss} (hr:SndSs T r):SndSs T (.two i k x it ex ix val r):=by
 intro X st EX G Fnc n wf cls W F fresh OL O A Ab σ0 σ ρ H Hb D hy c I ev fr h
 match st,c with
 | s1 :: s2 :: ys,c =>
  rw [chkSs,Bool.and_eq_true] at c
  obtain ⟨c1,c2⟩:=c
  unfold zos at c1
  simp only [Bool.and_eq_true] at c1
  obtain ⟨⟨⟨⟨⟨⟨ca,cb⟩,ckp⟩,cik⟩,cix⟩,ckx⟩,cio⟩:=c1
  have cik:=of_decide_eq_true cik
  have cix:=of_decide_eq_true cix
  have ckx:=of_decide_eq_true ckx
  obtain ⟨y,py,v,qv,rfl,g1⟩:=zel ca
  rw [Bool.and_eq_true] at g1
  obtain ⟨cl,cv⟩:=g1
  obtain ⟨p1,p2,p3,rfl⟩:=zjv cv
  obtain ⟨tg,ib,p,qf,rfl,g2⟩:=zem cb
  simp only [Bool.and_eq_true] at g2
  obtain ⟨⟨ci,ct⟩,g3⟩:=g2
  obtain ⟨sa,sb,rfl,g4⟩:=zpE g3
  rw [Bool.and_eq_true] at g4
  obtain ⟨cA,cB⟩:=g4
  obtain ⟨z,pz,e1,qz,rfl,g5⟩:=zel cA
  simp only [Bool.and_eq_true] at g5
  obtain ⟨⟨cz,ce⟩,cnc⟩:=g5
  obtain ⟨y2,p5,j,p6,z2,p7,p8,v2,p9,rfl,g6⟩:=zpF cB
  simp only [Bool.and_eq_true] at g6
  obtain ⟨⟨⟨⟨⟨⟨cy1,cy2⟩,cj⟩,cns⟩,cz1⟩,cz2⟩,cval⟩:=g6
  obtain ⟨A1,s1',I1⟩:=I.less _ ckp
  have ho:∀ m,m=i \/ m=k \/ m=x -> (twoO i k x it ex ix val O).contains m=false:=fun m hm=>by
   cases w:(twoO i k x it ex ix val O).contains m with
   | false=>rfl
   | true =>
    have:=(zav w).2
    rcases hm with rfl | rfl | rfl <;> simp at this
  have hio:∀ j ∈ F.ios,j ≠ i /\ j ≠ k /\ j ≠ x:=fun j hj=>by
   have a:∀ m ∈ [i,k,x],m ∉ F.ios:=fun m hm=>by
    have:=List.all_eq_true.mp cio m hm
    simpa using this
   refine ⟨fun z=>a i (by simp) (z ▸ hj),fun z=>a k (by simp) (z ▸ hj),fun z=>a x (by simp) (z ▸ hj)⟩
  obtain ⟨l1,l2⟩:=zcV cl
  have h0:PostR (PostS X.K F fresh σ0 Ab Hb (ownSs T (.two i k x it ex ix val r) O) OL D) (WOK cls W F) (R.when (decide (i < ρ.length /\ x < ρ.length)) ((evI G Fnc it (((ρ.set i none).set k none).set x none)).bind fun xs=>(twoL G Fnc k x ex ix val xs (((ρ.set i none).set k none).set x none) ([],[])).bind fun q=>evSs G Fnc wf r (q.1.set i (some (.lst [.dT q.2.1,.dT q.2.2]))))):=h
  obtain ⟨hlt,h'⟩:=h0.when
  obtain ⟨lt,ltx⟩:=of_decide_eq_true hlt
  rw [show ownSs T (.two i k x it ex ix val r) O=ownSs T r (twoO i k x it ex ix val O) by rw [ownSs]] at h'
  refine zay (pss_cons (ps_set hy.nd l1 l2 (pe_lst (pa_cons pe_dnewT (pa_cons pe_dnewT pa_nil (zab rfl)) (zab rfl))) (zaI rfl) (hy.hf l2)) (pss_cons (ps_for (g:=gTg X.K (.one k)) hy.po hy.calm pi_wi (pg_tg hy.calm hy.nd hy.tg ct) (pss_cons ps_ws (pss_cons (ps_dput (by have:=hy.hu; omega) (pe_ix ix_seq (pvar cy1 cy2) pe_we (zb9 cns)) (pvar cz1 cz2) pe_we zdr) pss_nil)) (zaX (zbp ci))) zai)) ?_
  have n1:∀ {b0 b1:Addr} {o:HO},upd H b0 o b1=none -> b0 ≠ b1 /\ H b1=none:=fun {b0 b1 o} e=>by
   have ne:b0 ≠ b1:=fun z=>by subst z; rw [upd_same] at e; cases e
   exact ⟨ne,by rw [upd_ne (fun z=>ne z.symm)] at e; exact e⟩
  refine fun b0 n0 b1 n1'=>⟨by rw [sizeLine_eq]; simp,fun l nl'=>?_⟩
  obtain ⟨ne,n1⟩:=n1 n1'
  have nl:H l=none:=by
   by_cases c0:l=b1
   ·subst c0; exact n1
   ·rw [upd_ne c0] at nl'
    by_cases c1:l=b0
    ·subst c1; exact n0
    ·rw [upd_ne c1] at nl'; exact nl'
  have l0:l ≠ b0:=fun z=>by subst z; rw [upd_ne (fun z=>ne z),upd_same] at nl'; cases nl'
  have l1':l ≠ b1:=fun z=>by subst z; rw [upd_same] at nl'; cases nl'
  have eC:Ext Nix H (upd (upd (upd H b0 (.dT [])) b1 (.dT [])) l (.lst [.ref b0,.ref b1])):=fun b o e _=>by
   rw [upd_ne (ne_of_none e nl),upd_ne (ne_of_none e n1),upd_ne (ne_of_none e n0)]; exact e
  have w0:Tw X.K i k x l b0 b1 σ ρ H (σ.set i (some (.ref l))) (((ρ.set i none).set k none).set x none) (upd (upd (upd H b0 (.dT [])) b1 (.dT [])) l (.lst [.ref b0,.ref b1])) ([],[]):=by
   have len:σ.length=ρ.length:=I.len
   have no:∀ j,j=i \/ j=k \/ j=x -> ∀ d,(((ρ.set i none).set k none).set x none)[j]? ≠ some (some d):=fun j hj d e=>by
    by_cases cx:x=j
    ·subst cx; rw [List.getElem?_set] at e; simp at e
    ·rw [List.getElem?_set_ne cx] at e
     by_cases ck:k=j
     ·subst ck; rw [List.getElem?_set] at e; simp at e
     ·rw [List.getElem?_set_ne ck] at e
      have:i=j:=by
       rcases hj with h | h | h
       ·exact h.symm
       ·exact absurd h.symm ck
       ·exact absurd h.symm cx
      subst this
      rw [List.getElem?_set] at e; simp at e
   refine ⟨⟨by simp [len],by simp⟩,fun j h1 h2 h3=>?_,no i (.inl rfl),List.getElem?_set_self (by rw [len]; exact lt),fun j d c e=>absurd e (no j (.inr c) d),eC,upd_same,?_,?_⟩
   ·rw [List.getElem?_set_ne (fun z=>h3 z.symm),List.getElem?_set_ne (fun z=>h2 z.symm),List.getElem?_set_ne (fun z=>h1 z.symm),List.getElem?_set_ne (fun z=>h1 z.symm)]
    exact ⟨rfl,rfl⟩
   ·exact ⟨[],by rw [upd_ne (fun z=>l0 z.symm),upd_ne ne,upd_same],rfl,.nil⟩
   ·exact ⟨[],by rw [upd_ne (fun z=>l1' z.symm),upd_same],rfl,.nil⟩
  have e0:=w0.env I1 n0 n1 ne ⟨ho k (.inr (.inl rfl)),ho x (.inr (.inr rfl))⟩ hio
  refine (allI it) hy.toHy hy.tk rfl ci e0 (h'.bind.mono (fun xs hxs J H1 x1 itok=>?_) fun c hc=>zap e0 hc)
  have hxs:=hxs.bind
  have itk:=itok _ (fun _ z=>z) (.inr (zdW O _ it))
  refine ⟨fun t m σ' H'=>m=xs.length - t /\ t <= xs.length /\ ∃ (ρ':Env) (q:List (List Key × Pf.D) × List (List Key × Pf.D)),Tw X.K i k x l b0 b1 σ ρ H σ' ρ' H' q /\ Ext (fun b=>(A1 b \/ b=b0) \/ b=b1) H1 H' /\ PostR (fun a=>PostR (PostS X.K F fresh σ0 Ab Hb (ownSs T r (twoO i k x it ex ix val O)) OL D) (WOK cls W F) (evSs G Fnc wf r (a.1.set i (some (.lst [.dT a.2.1,.dT a.2.2]))))) (WOK cls W F) (twoL G Fnc k x ex ix val (xs.drop t) ρ' q),
   ⟨xs.length,by simp,Nat.zero_le _,_,_,w0.grow x1,Ext.refl,by simpa using hxs⟩,?_⟩
  rintro t m σ1 H2 ⟨rfl,hi,ρ1,q1,w1,ex1,h2⟩
  by_cases hlt:t < xs.length
  ·refine .inr ?_
   obtain ⟨go,yl⟩:=itk.go H2 _ ex1 (fun b z=>.inl z) t xs[t] (List.getElem?_eq_getElem hlt)
   refine ⟨go,fun σ' H'=>∃ (ρ':Env) (q:List (List Key × Pf.D) × List (List Key × Pf.D)),Tw X.K i k x l b0 b1 σ ρ H σ' ρ' H' q /\ Ext (fun b=>(A1 b \/ b=b0) \/ b=b1) H1 H' /\ PostR (fun a=>PostR (PostS X.K F fresh σ0 Ab Hb (ownSs T r (twoO i k x it ex ix val O)) OL D) (WOK cls W F) (evSs G Fnc wf r (a.1.set i (some (.lst [.dT a.2.1,.dT a.2.2]))))) (WOK cls W F) (twoL G Fnc k x ex ix val (xs.drop (t+1)) ρ' q),
    fun σ' H' w=>⟨xs.length - (t+1),by omega,rfl,hlt,w⟩,fun xv H' y=>?_⟩
   obtain ⟨x2,rx⟩:=yl xv H' y
   rw [List.drop_eq_getElem_cons hlt,twoL] at h2
   obtain ⟨di,h3⟩:=h2.when
   have w2:=(w1.grow x2).set (.inl rfl) ⟨cik,cix⟩ (rx.of_imm di)
   have I2:=w2.env I1 n0 n1 ne ⟨ho k (.inr (.inl rfl)),ho x (.inr (.inr rfl))⟩ hio
   refine ze9 hy cz ce cnc I2 (h3.bind.mono (fun yd hyd u H3 g3=>?_) fun c hc=>zap I2 hc)
   obtain ⟨yi,h4⟩:=hyd.when
   have ru:Rep X.K H3 Nix yd u:=by
    rcases g3.top with r | ⟨a,_,o⟩
    ·exact r.of_imm yi
    ·have:=o.mut
     cases yd <;> first | (cases this; done) | (cases yi; done)
   have w3:=(w2.grow g3.ext).set (.inr rfl) ⟨cik,cix⟩ ru
   have I3:=w3.env I1 n0 n1 ne ⟨ho k (.inr (.inl rfl)),ho x (.inr (.inr rfl))⟩ hio
   refine (allE val).1 hy.toHy hy.tk rfl cval I3 (h4.bind.mono (fun vd hvd u2 H4 g4=>?_) fun c hc=>zap I3 hc)
   obtain ⟨vi,h5⟩:=hvd.when
   have rv:Rep X.K H4 Nix vd u2:=by
    rcases g4.top with r | ⟨a,_,o⟩
    ·exact r.of_imm vi
    ·have:=o.mut
     cases vd <;> first | (cases this; done) | (cases vi; done)
   have w4:=w3.grow g4.ext
   have I4:=w4.env I1 n0 n1 ne ⟨ho k (.inr (.inl rfl)),ho x (.inr (.inr rfl))⟩ hio
   refine ⟨.ref l,w4.si,(allE ix).1 hy.toHy hy.tk rfl cj I4 (h5.bind.mono (fun jd hjd u3 H5 g5=>?_) fun c hc=>zap I4 hc)⟩
   have w5:=w4.grow g5.ext
   obtain ⟨key,ek,h6⟩:=hjd.bind.get (by intro c e; cases yd <;> first | (cases e; done) | exact zat _ c e)
   obtain ⟨kd,rfl⟩:∃ kd,yd=.tup kd:=by cases yd <;> first | exact ⟨_,rfl⟩ | (cases ek; done)
   have ek:keysD kd=some key:=of_ok ek
   obtain ⟨b,us,rfl,hb,rb⟩:=(RepT.tup (.inl (ru.ext (g4.ext.trans g5.ext) fun _ z=>z.elim)):∃ a vs,u=.ref a /\ H5 a=some (.tup vs) /\ Reps X.K H5 Nix kd vs)
   have ew:=zbf rb ek
   subst ew
   obtain ⟨ji,rfl⟩:∃ ji,jd=.int ji:=by cases jd <;> first | exact ⟨_,rfl⟩ | exact h6.bind.elim
   obtain rfl:=g5.top.int
   have sx:(σ1.set k (some xv)).set x (some (V.ref b))=(σ1.set k (some xv)).set x (some (V.ref b)):=rfl
   have vx:((σ1.set k (some xv)).set x (some (V.ref b)))[x]?=some (some (.ref b)):=List.getElem?_set_self (by rw [List.length_set,w1.len.1,w1.len.2]; exact ltx)
   have exA:Ext (fun b=>(A1 b \/ b=b0) \/ b=b1) H1 H5:=ex1.trans ((x2.trans (g3.ext.trans (g4.ext.trans g5.ext))).nix)
   have rv5:Rep X.K H5 Nix vd u2:=rv.ext g5.ext fun _ z=>z.elim
   have h6:PostR _ (WOK cls W F) ((ziF (.int ji) key vd q1).bind fun q=>twoL G Fnc k x ex ix val (xs.drop (t+1)) ((ρ1.set k (some xs[t])).set x (some (.tup kd))) q):=h6
   have h6:PostR _ (WOK cls W F) ((if ji=0 then R.when (decide (q1.1.length < sizeLine)) (R.ok (L2.Pf.put q1.1 key vd,q1.2)) else if ji=1 then R.when (decide (q1.2.length < sizeLine)) (R.ok (q1.1,L2.Pf.put q1.2 key vd)) else R.bad).bind fun q=>twoL G Fnc k x ex ix val (xs.drop (t+1)) ((ρ1.set k (some xs[t])).set x (some (.tup kd))) q):=h6
   by_cases j0:ji=0
   ·subst j0
    rw [if_pos rfl] at h6
    obtain ⟨wl,h7⟩:=h6.bind.when
    obtain ⟨wu,hu,hk,hr⟩:=w5.h0
    have hl:wu.length < sizeLine:=by rw [<- zdJ hk]; exact of_decide_eq_true wl
    refine .inl ⟨l,[.ref b0,.ref b1],0,.ref b0,rfl,rfl,SqL.of w5.hl,rfl,.ref b,vx,b0,_,rfl,DPut.t hu hb hl,?_⟩
    refine ⟨_,_,w5.put0 n0 ne key rv5 hu,exA.trans fun c o e n=>?_,h7⟩
    by_cases cc:c=b0
    ·subst cc; rw [hu] at e; cases e; exact absurd (.inl (.inr rfl)) (n rfl)
    ·rw [upd_ne cc]; exact e
   ·rw [if_neg j0] at h6
    by_cases j1:ji=1
    ·subst j1
     rw [if_pos rfl] at h6
     obtain ⟨wl,h7⟩:=h6.bind.when
     obtain ⟨wu,hu,hk,hr⟩:=w5.h1
     have hl:wu.length < sizeLine:=by rw [<- zdJ hk]; exact of_decide_eq_true wl
     refine .inl ⟨l,[.ref b0,.ref b1],1,.ref b1,rfl,rfl,SqL.of w5.hl,rfl,.ref b,vx,b1,_,rfl,DPut.t hu hb hl,?_⟩
     refine ⟨_,_,w5.put1 n1 ne key rv5 hu,exA.trans fun c o e n=>?_,h7⟩
     by_cases cc:c=b1
     ·subst cc; rw [hu] at e; cases e; exact absurd (.inr rfl) (n rfl)
     ·rw [upd_ne cc]; exact e
    ·rw [if_neg j1] at h6; exact h6.elim
  ·refine .inl ⟨itk.stop H2 ex1 t (by omega),?_⟩
   have hdr:xs.drop t=[]:=List.drop_eq_nil_iff.mpr (by omega)
   rw [hdr] at h2
   have h2:PostR (PostS X.K F fresh σ0 Ab Hb (ownSs T r (twoO i k x it ex ix val O)) OL D) (WOK cls W F) (evSs G Fnc wf r (ρ1.set i (some (.lst [.dT q1.1,.dT q1.2])))):=h2
   refine hr hy c2 (w1.done I1 nl n0 n1 lt ⟨ho i (.inl rfl),ho k (.inr (.inl rfl)),ho x (.inr (.inr rfl))⟩ hio) ((ev.less s1').grow w1.ext) (fun j hj=>?_) h2
   obtain ⟨c1,c2,c3⟩:=hio j hj
   rw [(w1.off j c1 c2 c3).2]
   exact fr j hj
theorem zox {X:Cx} {EX:List Str} {G:Str -> Option Pf.D} {Fnc:Fn} {n0:Nat} {cls:Str -> Option Addr} {W:WX} (hy:HyS X T EX G Fnc n0 cls W) {tg e:Expr} {lo n:Nat} (c:rngB X.env.scope lo n e=true) {σ:St} {H:Hp} {R:L2.It -> Hp -> Prop} (q:R (Itr (lo:Int) n) H):WI X tg e σ H R:=by
 unfold rngB at c
 rw [Bool.and_eq_true,Bool.and_eq_true] at c
 obtain ⟨⟨c1,c2⟩,c3⟩:=c
 have c2:=of_decide_eq_true c2
 have c3:=of_decide_eq_true c3
 obtain ⟨pg,x,y,p,rfl,c4,c5⟩:=zbo c1
 rw [Bool.and_eq_true] at c5
 obtain ⟨_,_,rfl⟩:=zbW c5.1
 obtain ⟨_,_,rfl⟩:=zbW c5.2
 obtain ⟨g1,_,_⟩:=gl_of c4
 refine wi_of (pi_range2 g1 (hy.blt _ (by decide)) (pa_cons pe_int (pa_cons pe_int pa_nil (zab rfl)) (zab rfl)) rfl rfl) ⟨(lo:Int),((lo+n:Nat):Int),rfl,⟨by omega,by omega,by omega,by omega⟩,?_⟩
 have:(((lo+n:Nat):Int) - (lo:Int)).toNat=n:=by omega
 rw [this]; exact q
structure Yv (K:PySem.W.Frag) (F:Fx) (i:Nat) (tc:List Nat) (v:V) (σ:St) (ρ:Env) (H:Hp) (σ':St) (ρ':Env) (H':Hp):Prop where
 len:σ'.length=ρ'.length /\ ρ'.length=ρ.length
 sl:∀ (j:Nat) (d:Pf.D),j ≠ i -> ρ'[j]?=some (some d) -> (ρ[j]?=some (some d) /\ σ'[j]?=σ[j]?) \/ (j ∈ tc /\ ∃ w,σ'[j]?=some (some w) /\ Rep K H' Nix d w)
 io:∀ j ∈ F.ios,ρ'[j]?=ρ[j]? /\ σ'[j]?=σ[j]?
 ext:Ext Nix H H'
 si:σ'[i]?=some (some v)
theorem zfY {H H':Hp} {b:Addr} {o:HO} (e:Ext Nix H H') (hn:H b=none):Ext Nix H (upd H' b o):=fun z u eb _=>by
 rw [upd_ne (ne_of_none eb hn)]; exact e.all eb
theorem zds {H':Hp} {b:Addr} {us:List V} {o:HO} (hb:H' b=some (.lst us)):∀ a u,tupO u=true -> H' a=some u -> upd H' b o a=some u:=fun a u hu e=>by
 have:a ≠ b:=fun z=>by subst z; rw [hb] at e; cases e; cases hu
 rw [upd_ne this]; exact e
section
variable {K:PySem.W.Frag} {F:Fx} {O:List Nat} {A:Addr -> Prop} {i:Nat} {tc:List Nat} {v:V} {σ σ':St} {ρ ρ' ρ2:Env} {H H' H2:Hp}
theorem Yv.env (w:Yv K F i tc v σ ρ H σ' ρ' H') (I:EnvR K F O A σ ρ H) (ho:∀ j,j=i \/ j ∈ tc -> O.contains j=false) {d:Pf.D} (ri:ρ'[i]?=some (some d)) (rv:Rep K H' (PPa F A) d v):EnvR K F O A σ' ρ' H' :=
 I.mix w.ext w.len.1 (fun j e ej=>by
  by_cases c:j=i
  ·subst c
   rw [ri] at ej; cases ej
   exact .inr ⟨ho j (.inl rfl),v,w.si,rv⟩
  ·rcases w.sl j e c ej with h | ⟨h1,u,h2,h3⟩
   ·exact .inl h
   ·exact .inr ⟨ho j (.inr h1),u,h2,zaQ (fun _ _ _ e=>e) h3⟩) w.io
theorem Yv.fin (w:Yv K F i tc v σ ρ H σ' ρ' H') (I:EnvR K F O A σ ρ H) (ho:∀ j,j=i \/ j ∈ tc -> O.contains j=false) (hl:ρ2.length=ρ'.length) (h:∀ (j:Nat) (d:Pf.D),ρ2[j]?=some (some d) -> j ≠ i /\ ρ'[j]?=some (some d)) (hio:∀ j ∈ F.ios,ρ2[j]?=ρ'[j]?):EnvR K F O A σ' ρ2 H' :=
 I.mix w.ext (w.len.1.trans hl.symm) (fun j e ej=>by
  obtain ⟨c,ej⟩:=h j e ej
  rcases w.sl j e c ej with h | ⟨h1,u,h2,h3⟩
  ·exact .inl h
  ·exact .inr ⟨ho j (.inr h1),u,h2,zaQ (fun _ _ _ e=>e) h3⟩) fun j hj=>⟨(hio j hj).trans (w.io j hj).1,(w.io j hj).2⟩
theorem Yv.mov (w:Yv K F i tc v σ ρ H σ' ρ' H') (e:Ext Nix H H2) (tu:∀ a u,tupO u=true -> H' a=some u -> H2 a=some u):Yv K F i tc v σ ρ H σ' ρ' H2 :=
 ⟨w.len,fun j d c h=>(w.sl j d c h).imp id fun ⟨h1,u,h2,h3⟩=>⟨h1,u,h2,zaQ tu h3⟩,w.io,e,w.si⟩
theorem Yv.grow (w:Yv K F i tc v σ ρ H σ' ρ' H') (e:Ext Nix H' H2):Yv K F i tc v σ ρ H σ' ρ' H2:=w.mov (w.ext.trans e) fun _ _ _ h=>e.all h
theorem Yv.put (w:Yv K F i tc v σ ρ H σ' ρ' H') {k:Nat} {o:Option Pf.D} {u:V} (ki:k ≠ i) (kio:k ∉ F.ios) (h:∀ d,o=some d -> k ∈ tc /\ Rep K H' Nix d u):Yv K F i tc v σ ρ H (σ'.set k (some u)) (ρ'.set k o) H':=by
 refine ⟨⟨by simp [w.len.1],by simp [w.len.2]⟩,fun j d c e=>?_,fun j hj=>?_,w.ext,by rw [List.getElem?_set_ne ki]; exact w.si⟩
 ·by_cases z:k=j
  ·subst z
   have lt:k < ρ'.length:=by
    by_cases y:k < ρ'.length
    ·exact y
    ·rw [List.getElem?_eq_none (by simpa using y)] at e; cases e
   rw [List.getElem?_set_self lt] at e
   obtain ⟨h1,h2⟩:=h d (Option.some.inj e)
   exact .inr ⟨h1,u,List.getElem?_set_self (by rw [w.len.1]; exact lt),h2⟩
  ·rw [List.getElem?_set_ne z] at e
   rw [List.getElem?_set_ne z]
   exact w.sl j d c e
 ·have z:k ≠ j:=fun z=>kio (by rw [z]; exact hj)
  rw [List.getElem?_set_ne z,List.getElem?_set_ne z]
  exact w.io j hj
theorem Yv.drop (w:Yv K F i tc v σ ρ H σ' ρ' H') {k:Nat} (kio:k ∉ F.ios):Yv K F i tc v σ ρ H σ' (ρ'.set k none) H':=by
 refine ⟨⟨by simp [w.len.1],by simp [w.len.2]⟩,fun j d c e=>?_,fun j hj=>?_,w.ext,w.si⟩
 ·by_cases z:k=j
  ·subst z
   rw [List.getElem?_set] at e; simp at e
  ·rw [List.getElem?_set_ne z] at e
   exact w.sl j d c e
 ·have z:k ≠ j:=fun z=>kio (by rw [z]; exact hj)
  rw [List.getElem?_set_ne z]
  exact w.io j hj
end
def PrA (K:PySem.W.Frag) (P:Addr -> Prop) (ap:Ap) (H H':Hp) (d:Pf.D) (v:V):Prop:=match ap with
 | .one j _=>NewJ H H' d v j
 | .all _ lo n _=>∀ t,t < n -> NewJ H H' d v (lo+t)
 | .clr _ k=>CJ H H' d v k /\ ∀ xs:List Pf.D,d=.lst xs -> ∃ (m:Addr) (us:List V),v=.ref m /\ H m=none /\ H' m=some (.lst us) /\ Reps K H' P xs us
theorem NwI.move {H H' H0 H2:Hp} {vs:List V} {j:Nat} {xs:List Pf.D} (h:NwI H H' vs j xs) (x0:Ext Nix H0 H) (x:Ext Nix H' H2):NwI H0 H2 vs j xs:=by
 obtain ⟨b,us,h1,h2,h3,h4⟩:=h
 exact ⟨b,us,h1,zaL x0 h2,x.all h3,h4⟩
theorem NewJ.move {H H' H0 H2:Hp} {d:Pf.D} {v:V} {j:Nat} (h:NewJ H H' d v j) (x0:Ext Nix H0 H) (x:Ext Nix H' H2):NewJ H0 H2 d v j:=fun ds xs e1 e2=>by
 obtain ⟨a,vs,h1,h2,h3⟩:=h ds xs e1 e2
 exact ⟨a,vs,h1,x.all h2,h3.move x0 x⟩
theorem PrA.move {K:PySem.W.Frag} {P:Addr -> Prop} {ap:Ap} {H H' H0 H2:Hp} {d:Pf.D} {v:V} (h:PrA K P ap H H' d v) (x0:Ext Nix H0 H) (x:Ext Nix H' H2):PrA K P ap H0 H2 d v:=by
 cases ap with
 | one j c=>exact NewJ.move h x0 x
 | all k lo n c=>exact fun t ht=>(h t ht).move x0 x
 | clr y k =>
  obtain ⟨h1,h2⟩:=h
  refine ⟨fun xs e=>?_,fun xs e=>by
   obtain ⟨m,us,h3,h4,h5,h6⟩:=h2 xs e
   exact ⟨m,us,h3,zaL x0 h4,x.all h5,h6.ext x fun _ _ z=>z⟩⟩
  obtain ⟨m,us,e1,e2,e3,e4⟩:=h1 xs e
  refine ⟨m,us,e1,zaL x0 e2,x.all e3,fun i ds ys g1 g2=>?_⟩
  obtain ⟨t,ws,b,vs,f1,f2,f3,f4,f5,f6⟩:=e4 i ds ys g1 g2
  exact ⟨t,ws,b,vs,f1,x.all f2,f3,zaL x0 f4,x.all f5,f6⟩
theorem zfg {X:Cx} {EX:List Str} {G:Str -> Option Pf.D} {Fnc:Fn} {n:Nat} {cls:Str -> Option Addr} {W:WX} {F:Fx} {O:List Nat} {A Ab:Addr -> Prop} {σ0 σ:St} {ρ:Env} {H Hb:Hp} {D:Ends} (hy:HyS X T EX G Fnc n cls W)
  (I:EnvR X.K F O A σ ρ H) (ev:Ev Ab Hb A H) (fr:FrIO F σ0 σ) (hk:kpIO F.ios O=true) {fresh:Bool} {j:Nat} {p q:Pos} (h:∀ v H',RetOK X.K F fresh σ0 (.bl false) ρ v H' -> D.rt v H'):WSs X [.Return (some (.Constant (.bool false) j p)) q] D σ H:=by
 exact zay (pss_cons (ps_ret pe_bl) pss_nil) (h _ _ (zbF I fr hk (.bl false) fun _=>FreshR.flat rfl))
theorem at_i {α:Type} {xs:List α} {k:Nat} (h:k < xs.length):atI xs (k:Int)=some xs[k]:=by
 unfold atI ixN
 rw [if_pos (by omega),if_pos (by omega)]
 show xs[(k:Int).toNat]?=_
 rw [Int.toNat_natCast,List.getElem?_eq_getElem h]
theorem zet {X:Cx} {EX:List Str} {G:Str -> Option Pf.D} {Fnc:Fn} {n wf:Nat} {cls:Str -> Option Addr} {W:WX} (hy:HyS X T EX G Fnc n cls W) {F:Fx} {fresh:Bool} {O OL tc:List Nat} {A Ab:Addr -> Prop} {σ0 σ:St} {ρ:Env} {H Hb:Hp} {D:Ends} {i:Nat} {d:Pf.D} {v:V} {rest:List Stmt}
  (I:EnvR X.K F O A σ ρ H) (ev:Ev Ab Hb A H) (fr:FrIO F σ0 σ) (hk:kpIO F.ios O=true) (ho:∀ j,j=i \/ j ∈ tc -> O.contains j=false) {On:Option (List Nat)} {kk:List Stmt -> Bool} {Pend:Env -> R (Fl × Env)} {Pr:Hp -> Prop} (hP:∀ H1 H2,Ext Nix H1 H2 -> Pr H1 -> Pr H2)
  (hend:∀ {sts:List Stmt} {σ':St} {ρ':Env} {H':Hp},kk sts=true -> Yv X.K F i tc v σ ρ H σ' ρ' H' -> ρ'[i]?=some (some d) -> Rep X.K H' (PPa F A) d v -> Pr H' -> PostR (PostS X.K F fresh σ0 Ab Hb On OL D) (WOK cls W F) (Pend ρ') -> WSs X (sts ++ rest) D σ' H') :
  ∀ (gs:List Gd) {sts:List Stmt} {σ':St} {ρ':Env} {H':Hp},(∀ k ∈ gdT gs,k ∈ tc) -> zbD X.N T X.env.scope F.ios O i kk gs sts=true -> Yv X.K F i tc v σ ρ H σ' ρ' H' -> ρ'[i]?=some (some d) -> Rep X.K H' (PPa F A) d v -> Pr H' →
   PostR (PostS X.K F fresh σ0 Ab Hb On OL D) (WOK cls W F) ((gdsEv G Fnc gs ρ').bind fun w=>if w.1=true then Pend w.2 else .ok (.ret (.bl false),w.2)) -> WSs X (sts ++ rest) D σ' H'
 | [],sts,σ',ρ',H',_,c,w,ri,rv,pr,h=>hend c w ri rv pr h
 | .ifF e :: gs,[],σ',ρ',H',_,c,w,ri,rv,pr,h=>by simp [zbD] at c
 | .ifF e :: gs,s :: sts,σ',ρ',H',hg,c,w,ri,rv,pr,h=>by
  rw [zbD,Bool.and_eq_true] at c
  obtain ⟨c1,c2⟩:=c
  obtain ⟨vx,j,p,q,rr,rfl,c3⟩:=zjw c1
  have h':PostR (PostS X.K F fresh σ0 Ab Hb On OL D) (WOK cls W F) (((((evE G Fnc e ρ').bind fun x=>zac x).bind fun b=>if b=true then R.ok (false,ρ') else gdsEv G Fnc gs ρ')).bind fun w=>if w.1=true then Pend w.2 else .ok (.ret (.bl false),w.2)):=h
  have we:=w.env I ho ri rv
  refine zay (pss_cons (ps_if pt_wt zai zai) zai) ((sndC e) hy.toHy hy.tk rfl c3 we (h'.bind.bind.mono (fun b hb H2 x=>?_) fun c hc=>zap we hc))
  have w2:=w.grow x
  have fr2:FrIO F σ0 σ':=fun j hj=>(w.io j hj).2.trans (fr j hj)
  cases b with
  | true =>
   rw [if_pos rfl] at hb ⊢
   exact zfg hy (we.step x) ((ev.grow w2.ext).less fun _ z=>z) fr2 hk hb
  | false =>
   rw [if_neg Bool.false_ne_true] at hb ⊢
   refine zay pss_nil (zet (wf:=wf) hy I ev fr hk ho hP hend gs hg c2 w2 ri (rv.ext x fun _ _ z=>z) (hP _ _ x pr) ?_)
   cases e2:gdsEv G Fnc gs ρ' with
   | ok w=>rw [e2] at hb; exact hb
   | exc c=>rw [e2] at hb; exact hb
   | bad=>rw [e2] at hb; exact hb
 | .asgI y e :: gs,[],σ',ρ',H',_,c,w,ri,rv,pr,h=>by simp [zbD] at c
 | .asgI y e :: gs,s :: sts,σ',ρ',H',hg,c,w,ri,rv,pr,h=>by
  rw [zbD,Bool.and_eq_true] at c
  obtain ⟨c1,c2⟩:=c
  obtain ⟨z,pz,vx,qx,rfl,c3⟩:=zel c1
  simp only [Bool.and_eq_true] at c3
  obtain ⟨⟨⟨⟨c4,c5⟩,c6⟩,c7⟩,c8⟩:=c3
  have yi:=of_decide_eq_true c7
  have yio:y ∉ F.ios:=by simpa using c8
  have h':PostR (PostS X.K F fresh σ0 Ab Hb On OL D) (WOK cls W F) (((evE G Fnc e ρ').bind fun d=>R.when d.imm (gdsEv G Fnc gs (ρ'.set y (some d)))).bind fun w=>if w.1=true then Pend w.2 else .ok (.ret (.bl false),w.2)):=h
  have we:=w.env I ho ri rv
  refine zay (pss_cons ps_ws zai) (ze9 hy c4 c5 (by rw [c6]; rfl) we (h'.bind.bind.mono (fun dy hy' u H2 g=>?_) fun c hc=>zap we hc))
  have hy2:PostR (fun a=>PostR (PostS X.K F fresh σ0 Ab Hb On OL D) (WOK cls W F) (if a.1=true then Pend a.2 else .ok (.ret (.bl false),a.2))) (WOK cls W F) (R.when dy.imm (gdsEv G Fnc gs (ρ'.set y (some dy)))):=hy'
  obtain ⟨yim,h2⟩:=hy2.when
  have ru:Rep X.K H2 Nix dy u:=by
   rcases g.top with r | ⟨a,_,o⟩
   ·exact r.of_imm yim
   ·have:=o.mut
    cases dy <;> first | (cases this; done) | (cases yim; done)
  have w2:=(w.grow g.ext).put (k:=y) (o:=some dy) (u:=u) yi yio fun d e=>by
   cases e
   exact ⟨hg y (by rw [gdT]; exact List.mem_cons_self),ru⟩
  refine zet (wf:=wf) hy I ev fr hk ho hP hend gs (fun k hk=>hg k (by rw [gdT]; exact List.mem_cons_of_mem _ hk)) c2 w2 (by rw [List.getElem?_set_ne yi]; exact ri) (rv.ext g.ext fun _ _ z=>z) (hP _ _ g.ext pr) ?_
  cases e2:gdsEv G Fnc gs (ρ'.set y (some dy)) with
  | ok w=>rw [e2] at h2; exact h2
  | exc c=>rw [e2] at h2; exact h2
  | bad=>rw [e2] at h2; exact h2
 | .forF k lo n e :: gs,[],σ',ρ',H',_,c,w,ri,rv,pr,h=>by simp [zbD] at c
 | .forF k lo m e :: gs,s :: sts,σ',ρ',H',hg,c,w,ri,rv,pr,h=>by
  rw [zbD,Bool.and_eq_true] at c
  obtain ⟨c1,c2⟩:=c
  obtain ⟨tg,ib,p,qf,rfl,c3⟩:=zem c1
  simp only [Bool.and_eq_true] at c3
  obtain ⟨⟨⟨⟨c4,c5⟩,c6⟩,c7⟩,c8⟩:=c3
  obtain ⟨s0,rfl,c9⟩:=zcE c8
  obtain ⟨vx,j,p,q,rr,rfl,c10⟩:=zjw c9
  have ki:=of_decide_eq_true c6
  have kio:k ∉ F.ios:=by simpa using c7
  have ktc:k ∈ tc:=hg k (by rw [gdT]; exact List.mem_cons_self)
  have h':PostR (PostS X.K F fresh σ0 Ab Hb On OL D) (WOK cls W F) (((forG G Fnc k e (zaq (lo:Int) m) ρ').bind fun q=>if q.1=true then gdsEv G Fnc gs q.2 else R.ok q).bind fun w=>if w.1=true then Pend w.2 else .ok (.ret (.bl false),w.2)):=h
  have h1:=h'.bind.bind
  have fl:(zaq (lo:Int) m).length=m:=by simp [zaq]
  refine zay (pss_cons (ps_for (g:=gTg X.K (.one k)) hy.po hy.calm pi_wi (pg_tg hy.calm hy.nd hy.tg c5) zai (zaX (by obtain ⟨_,_,_,_,e1,_⟩:=zbo (show call2 X.env.scope "range" ib _=true from (Bool.and_eq_true_iff.mp (Bool.and_eq_true_iff.mp c4).1).1); rw [e1]; rfl))) zai) (zox hy c4 ?_)
  refine ⟨fun t u σ1 H2=>u=m - t /\ t <= m /\ ∃ ρ1:Env,Yv X.K F i tc v σ ρ H σ1 ρ1 H2 /\ ρ1[i]?=some (some d) /\ Rep X.K H2 (PPa F A) d v /\ Pr H2 /\ PostR (fun q=>PostR (fun a=>PostR (PostS X.K F fresh σ0 Ab Hb On OL D) (WOK cls W F) (if a.1=true then Pend a.2 else .ok (.ret (.bl false),a.2))) (WOK cls W F) (if q.1=true then gdsEv G Fnc gs q.2 else R.ok q)) (WOK cls W F) (forG G Fnc k e ((zaq (lo:Int) m).drop t) ρ1),
   ⟨m,by simp,Nat.zero_le _,ρ',w,ri,rv,pr,h1⟩,?_⟩
  rintro t u σ1 H2 ⟨rfl,ht,ρ1,w1,ri1,rv1,pr1,h2⟩
  have itk:ItOK X.K F A Nix H2 (Itr (lo:Int) m) (zaq (lo:Int) m):=zgR
  by_cases hlt:t < m
  ·refine .inr ?_
   have ex:(zaq (lo:Int) m)[t]?=some (.int ((lo:Int)+(t:Nat))):=by unfold zaq; simp [hlt]
   obtain ⟨go,yl⟩:=itk.go H2 A Ext.refl (fun b z=>.inl z) t _ ex
   refine ⟨go,fun σ1 H2=>∃ ρ1:Env,Yv X.K F i tc v σ ρ H σ1 ρ1 H2 /\ ρ1[i]?=some (some d) /\ Rep X.K H2 (PPa F A) d v /\ Pr H2 /\ PostR (fun q=>PostR (fun a=>PostR (PostS X.K F fresh σ0 Ab Hb On OL D) (WOK cls W F) (if a.1=true then Pend a.2 else .ok (.ret (.bl false),a.2))) (WOK cls W F) (if q.1=true then gdsEv G Fnc gs q.2 else R.ok q)) (WOK cls W F) (forG G Fnc k e ((zaq (lo:Int) m).drop (t+1)) ρ1),fun σ' H' w=>⟨m - (t+1),by omega,rfl,hlt,w⟩,fun xv H3 y=>?_⟩
   obtain ⟨x2,rx⟩:=yl xv H3 y
   cases rx
   have hd:(zaq (lo:Int) m).drop t=.int ((lo:Int)+(t:Nat)) :: (zaq (lo:Int) m).drop (t+1):=by
    rw [List.drop_eq_getElem_cons (by rw [fl]; exact hlt)]
    congr 1
    rw [List.getElem?_eq_getElem (by rw [fl]; exact hlt)] at ex
    exact Option.some.inj ex
   rw [hd,forG] at h2
   have w2:=(w1.grow x2).put (k:=k) (o:=some (.int ((lo:Int)+(t:Nat)))) (u:=.int ((lo:Int)+(t:Nat))) ki kio fun d e=>by
    cases e
    exact ⟨ktc,.int _⟩
   have ri2:(ρ1.set k (some (.int ((lo:Int)+(t:Nat)))))[i]?=some (some d):=by rw [List.getElem?_set_ne ki]; exact ri1
   have rv2:=rv1.ext x2 fun _ _ z=>z
   have we:=w2.env I ho ri2 rv2
   refine zay (pss_cons (ps_if pt_wt zai zai) pss_nil) ((sndC e) hy.toHy hy.tk rfl c10 we (h2.bind.mono (fun b hb H4 x=>?_) fun c hc=>zap we hc))
   have w3:=w2.grow x
   cases b with
   | true =>
    rw [if_pos rfl] at hb ⊢
    exact zfg hy (we.step x) ((ev.grow w3.ext).less fun _ z=>z) (fun j hj=>(w3.io j hj).2.trans (fr j hj)) hk hb
   | false =>
    rw [if_neg Bool.false_ne_true] at hb ⊢
    exact zay pss_nil ⟨_,w3,ri2,rv2.ext x fun _ _ z=>z,hP _ _ (x2.trans x) pr1,hb⟩
  ·refine .inl ⟨itk.stop H2 Ext.refl t (by rw [fl]; omega),?_⟩
   have hdr:(zaq (lo:Int) m).drop t=[]:=List.drop_eq_nil_iff.mpr (by rw [fl]; omega)
   rw [hdr] at h2
   refine zet (wf:=wf) hy I ev fr hk ho hP hend gs (fun k hk=>hg k (by rw [gdT]; exact List.mem_cons_of_mem _ hk)) c2 w1 ri1 rv1 pr1 ?_
   have h2:PostR (fun a=>PostR (PostS X.K F fresh σ0 Ab Hb On OL D) (WOK cls W F) (if a.1=true then Pend a.2 else .ok (.ret (.bl false),a.2))) (WOK cls W F) (gdsEv G Fnc gs ρ1):=h2
   cases e2:gdsEv G Fnc gs ρ1 with
   | ok w=>rw [e2] at h2; exact h2
   | exc c=>rw [e2] at h2; exact h2
   | bad=>rw [e2] at h2; exact h2
theorem zhg {K:PySem.W.Frag} {P P':Addr -> Prop} {H H2:Hp} {b:Addr} (tu:∀ a u,tupO u=true -> H a=some u -> H2 a=some u) (hb:H2 b=some (.lst [])) (pb:P' b):∀ {ds:List Pf.D} {ws:List V} {k:Nat},Reps K H P ds ws -> D.imms (ds.set k .non)=true -> ws[k]?=some (.ref b) -> Reps K H2 P' (ds.set k (.lst [])) ws
 | _,_,_,.nil,_,h=>by cases h
 | _,_,0,.cons (d:=d) (ds:=ds) h t,hi,e=>by
  have e:(_:V)=.ref b:=Option.some.inj e
  subst e
  have hi2:(D.imm .non && D.imms ds)=true:=hi
  rw [Bool.and_eq_true] at hi2
  exact .cons (.lst (.inl hb) pb .nil) (zaT tu (Reps.of_imms t hi2.2))
 | _,_,k+1,.cons (d:=d) (ds:=ds) h t,hi,e=>by
  have hi2:(D.imm d && D.imms (ds.set k .non))=true:=hi
  rw [Bool.and_eq_true] at hi2
  exact .cons (zaQ tu (Rep.of_imm h hi2.1)) (zhg tu hb pb t hi2.2 e)
theorem zhh {K:PySem.W.Frag} {P P':Addr -> Prop} {H H2:Hp} {k:Nat} (tu:∀ a u,tupO u=true -> H a=some u -> H2 a=some u):∀ {xs:List Pf.D} {us:List V} {ys:List Pf.D},Reps K H P xs us -> clrL k xs=.ok ys →
  (∀ (i:Nat) (ds zs:List Pf.D),xs[i]?=some (.tup ds) -> ds[k]?=some (.lst zs) -> ∃ (t:Addr) (ws:List V) (b:Addr),us[i]?=some (.ref t) /\ H t=some (.tup ws) /\ ws[k]?=some (.ref b) /\ H2 b=some (.lst []) /\ P' b) -> Reps K H2 P' ys us
 | _,_,ys,.nil,e,_=>by
  cases e; exact .nil
 | _,_,ys,.cons (d:=d) (ds:=xs) (vs:=us) h t,e,q=>by
  obtain ⟨x,e1,e2⟩:=bind_ok (show ((clrX k d).bind fun x=>(clrL k xs).bind fun r=>R.ok (x :: r))=.ok ys from e)
  obtain ⟨r,e3,e4⟩:=bind_ok e2
  cases e4
  obtain ⟨ds,rfl⟩:∃ ds,d=.tup ds:=by cases d <;> first | exact ⟨_,rfl⟩ | cases e1
  obtain ⟨c,e5⟩:=zae (show R.when (zeL ds[k]? && D.imms (ds.set k .non)) (R.ok (Pf.D.tup (ds.set k (.lst []))))=_ from e1)
  cases e5
  rw [Bool.and_eq_true] at c
  obtain ⟨zs,ez⟩:∃ zs,ds[k]?=some (.lst zs):=by
   have c1:=c.1
   unfold zeL at c1
   split at c1
   ·rename_i zs ez; exact ⟨zs,ez⟩
   ·cases c1
  obtain ⟨tt,ws,b,h1,h2,h3,h4,h5⟩:=q 0 ds zs rfl ez
  have h1:(_:V)=.ref tt:=Option.some.inj h1
  subst h1
  cases h with
  | tup hh hr =>
   rw [h2] at hh
   cases hh
   exact .cons (.tup (tu _ _ rfl h2) (zhg tu h4 h5 hr c.2 h3)) (zhh tu t e3 fun i ds zs g1 g2=>q (i+1) ds zs g1 g2)
theorem zoy {o:Option Pf.D} (h:lenOk o=true):∃ xs,o=some (.lst xs) /\ xs.length <= 1000000:=by
 unfold lenOk at h
 split at h
 ·rename_i xs; exact ⟨xs,rfl,of_decide_eq_true h⟩
 ·cases h
theorem zkd {d:Pf.D} {xs:List Pf.D} (h:tupD d=.ok xs):d=.tup xs:=by
 cases d <;> first | (cases h; done) | (cases h; rfl)
theorem zpX {d:Pf.D} {xs:List Pf.D} (h:lstD d=.ok xs):d=.lst xs:=by
 cases d <;> first | (cases h; done) | (cases h; rfl)
theorem zhi {k:Nat}:∀ {xs ys:List Pf.D},clrL k xs=.ok ys -> ∀ (i:Nat) (d:Pf.D),xs[i]?=some d -> ∃ ds zs,d=.tup ds /\ ds[k]?=some (.lst zs)
 | [],_,_,_,_,h=>by cases h
 | x :: xs,ys,e,i,d,h=>by
  obtain ⟨y,e1,e2⟩:=bind_ok (show ((clrX k x).bind fun x=>(clrL k xs).bind fun r=>R.ok (x :: r))=.ok ys from e)
  obtain ⟨r,e3,_⟩:=bind_ok e2
  cases i with
  | zero =>
   cases h
   obtain ⟨ds,rfl⟩:∃ ds,x=.tup ds:=by cases x <;> first | exact ⟨_,rfl⟩ | cases e1
   obtain ⟨c,_⟩:=zae (show R.when (zeL ds[k]? && D.imms (ds.set k .non)) (R.ok (Pf.D.tup (ds.set k (.lst []))))=_ from e1)
   rw [Bool.and_eq_true] at c
   have c1:=c.1
   unfold zeL at c1
   split at c1
   ·rename_i zs ez; exact ⟨ds,zs,rfl,ez⟩
   ·cases c1
  | succ i=>exact zhi e3 i d h
theorem zrX {r:Ss} (hr:SndSs T r) {X:Cx} {EX:List Str} {G:Str -> Option Pf.D} {Fnc:Fn} {n wf:Nat} {cls:Str -> Option Addr} {W:WX} (hy:HyS X T EX G Fnc n cls W) {F:Fx} {fresh:Bool} {O OL tc:List Nat} {A Ab:Addr -> Prop} {σ0 σ:St} {ρ:Env} {H Hb:Hp} {D:Ends} {i:Nat} {d:Pf.D} {v:V} {rest:List Stmt}
  (I:EnvR X.K F O A σ ρ H) (ev:Ev Ab Hb A H) (fr:FrIO F σ0 σ) (ho:∀ j,j=i \/ j ∈ tc -> O.contains j=false) (hi:i ∉ F.ios) (lt:i < ρ.length) (ap:Ap) (ltk:apX ap < ρ.length) (htc:∀ k ∈ apT ap,k ∈ tc) (hap:∀ k ∈ apT ap,k ∉ F.ios)
  (cr:chkSs X.N T EX X.env.scope F.ios fresh OL (yngA i ap O) r rest=true) {sts:List Stmt} {σ':St} {ρ':Env} {H':Hp} (c:chkAp X.N X.env.scope F.ios i ap sts=true) (w:Yv X.K F i tc v σ ρ H σ' ρ' H') (ri:ρ'[i]?=some (some d)) (rv:Rep X.K H' (PPa F A) d v) (pr:PrA X.K (PPa F A) ap H H' d v)
  (h:PostR (PostS X.K F fresh σ0 Ab Hb (ownSs T r (yngA i ap O)) OL D) (WOK cls W F) ((apEv ap i d ρ').bind fun ρ2=>evSs G Fnc wf r ρ2)):WSs X (sts ++ rest) D σ' H':=by
 cases ap with
 | one jj cc =>
  obtain ⟨s,rfl,c1⟩:=zcE c
  obtain ⟨y,p,jx,q,apos,xs,pos,rr,rfl,c2,c3⟩:=zen c1
  simp only [Bool.and_eq_true] at c3
  obtain ⟨⟨⟨c4,c5⟩,c6⟩,c7⟩:=c3
  obtain ⟨j1,p1,rfl⟩:=zbW c6
  obtain ⟨x,rfl,c8⟩:=zjx c7
  obtain ⟨j2,p2,rfl⟩:=zbW c8
  obtain ⟨ds,e0,h1⟩:=(show PostR _ _ (((tupD d).bind fun xs=>R.when (lenOk xs[jj]?) (R.ok (ρ'.set i none))).bind fun ρ2=>evSs G Fnc wf r ρ2) from h).bind.bind.get (by intro c; cases d <;> (intro z; cases z))
  cases zkd e0
  obtain ⟨hap2,h1⟩:=h1.when
  obtain ⟨xs2,ex,hl⟩:=zoy hap2
  obtain ⟨a,vs,rfl,ha,b,us,e1,hn,hb,ul⟩:=pr ds xs2 rfl ex
  obtain ⟨jl,ej⟩:=List.getElem?_eq_some_iff.mp e1
  refine zay (pss_cons (ps_expr (pe_bm PySem.F.plainAttrs_list PySem.F.slot_list_append PySem.F.type_list_append mt_append (pe_ix ix_seq (pvar c4 c5) pe_int (zb9 rfl)) (pa_cons pe_int pa_nil (zab rfl)) (zaD rfl) (zbx (by rfl) (by simp)) c2 (zab rfl) rfl) rfl) zai) ?_
  refine ⟨.ref a,w.si,.inr (.inl ⟨a,vs,(jj:Int),.ref b,rfl,rfl,SqT.of ha,by rw [at_i jl,ej],.inl ⟨rfl,us,SqL.of hb⟩,b,us,.int cc,rfl,rfl,hb,by rw [sizeLine_eq]; omega,?_⟩)⟩
  have xf:Ext Nix H (upd H' b (.lst (us ++ [.int cc]))):=zfY w.ext hn
  have w2:=w.mov xf (zds hb)
  exact hr hy cr (w2.fin (ρ2:=ρ'.set i none) I ho (by simp) (fun j e ej=>by
   have ne:i ≠ j:=fun z=>by subst z; rw [List.getElem?_set] at ej; simp at ej
   rw [List.getElem?_set_ne ne] at ej
   exact ⟨fun z=>ne z.symm,ej⟩) (fun j hj=>List.getElem?_set_ne fun z=>hi (by rw [z]; exact hj))) (ev.grow xf) (fun j hj=>(w.io j hj).2.trans (fr j hj)) h1
 | all k lo m cc =>
  obtain ⟨s,rfl,c1⟩:=zcE c
  obtain ⟨tg,ib,p,qf,rfl,c2⟩:=zem c1
  simp only [Bool.and_eq_true] at c2
  obtain ⟨⟨⟨⟨c3,c4⟩,c5⟩,c6⟩,c7⟩:=c2
  have ki:=of_decide_eq_true c5
  have kio:k ∉ F.ios:=by simpa using c6
  obtain ⟨s,rfl,c8⟩:=zcE c7
  obtain ⟨y,p1,jx,q1,apos,xs,pos,rr,rfl,c9,c10⟩:=zen c8
  simp only [Bool.and_eq_true] at c10
  obtain ⟨⟨⟨d1,d2⟩,d3⟩,d4⟩:=c10
  obtain ⟨x,rfl,d5⟩:=zjx d4
  obtain ⟨j2,p2,rfl⟩:=zbW d5
  obtain ⟨z,pz,rfl,d6⟩:=zj7 d3
  rw [Bool.and_eq_true] at d6
  obtain ⟨ds,e0,h1⟩:=(show PostR _ _ (((tupD d).bind fun xs=>R.when ((List.range m).all fun t=>lenOk xs[lo+t]?) (R.ok ((ρ'.set k none).set i none))).bind fun ρ2=>evSs G Fnc wf r ρ2) from h).bind.bind.get (by intro c; cases d <;> (intro z; cases z))
  cases zkd e0
  obtain ⟨hap2,h1⟩:=h1.when
  obtain ⟨a,⟨rfl⟩⟩:∃ a,v=.ref a:=by cases rv with | tup _ _=>exact ⟨_,rfl⟩
  obtain ⟨vs,ha⟩:∃ vs,H' a=some (.tup vs):=by cases rv with | tup hh _=>exact ⟨_,hh⟩
  have all0:∀ t,t < m -> ∃ (b:Addr) (us:List V),vs[lo+t]?=some (.ref b) /\ H b=none /\ H' b=some (.lst us) /\ us.length <= 1000000+0:=fun t ht=>by
   obtain ⟨xs2,ex,hl⟩:=zoy (List.all_eq_true.mp hap2 t (List.mem_range.mpr ht))
   obtain ⟨a',vs',e3,ha',b,us,e1,hn,hb,ul⟩:=pr t ht ds xs2 rfl ex
   cases e3
   rw [ha] at ha'; cases ha'
   exact ⟨b,us,e1,hn,hb,by omega⟩
  have c3':=of_decide_eq_true (Bool.and_eq_true_iff.mp c3).2
  have fl:(zaq (lo:Int) m).length=m:=by simp [zaq]
  refine zay (pss_cons (ps_for (g:=gTg X.K (.one k)) hy.po hy.calm pi_wi (pg_tg hy.calm hy.nd hy.tg c4) zai (zaX (by obtain ⟨_,_,_,_,e1,_⟩:=zbo (show call2 X.env.scope "range" ib _=true from (Bool.and_eq_true_iff.mp (Bool.and_eq_true_iff.mp c3).1).1); rw [e1]; rfl))) zai) (zox hy c3 ?_)
  refine ⟨fun t u σ1 H2=>u=m - t /\ t <= m /\ Yv X.K F i tc (.ref a) σ ρ H σ1 (ρ'.set k none) H2 /\ σ1.length=ρ'.length /\ H2 a=some (.tup vs) /\ ∀ t',t' < m -> ∃ (b:Addr) (us:List V),vs[lo+t']?=some (.ref b) /\ H b=none /\ H2 b=some (.lst us) /\ us.length <= 1000000+t,
   ⟨m,by simp,Nat.zero_le _,w.drop kio,w.len.1,ha,all0⟩,?_⟩
  rintro t u σ1 H2 ⟨rfl,ht,w1,hl1,ha1,al1⟩
  have itk:ItOK X.K F A Nix H2 (Itr (lo:Int) m) (zaq (lo:Int) m):=zgR
  by_cases hlt:t < m
  ·refine .inr ?_
   have ex:(zaq (lo:Int) m)[t]?=some (.int ((lo:Int)+(t:Nat))):=by unfold zaq; simp [hlt]
   obtain ⟨go,yl⟩:=itk.go H2 A Ext.refl (fun b z=>.inl z) t _ ex
   refine ⟨go,fun σ1 H2=>Yv X.K F i tc (.ref a) σ ρ H σ1 (ρ'.set k none) H2 /\ σ1.length=ρ'.length /\ H2 a=some (.tup vs) /\ ∀ t',t' < m -> ∃ (b:Addr) (us:List V),vs[lo+t']?=some (.ref b) /\ H b=none /\ H2 b=some (.lst us) /\ us.length <= 1000000+(t+1),fun σ' H' w=>⟨m - (t+1),by omega,rfl,hlt,w⟩,fun xv H3 y=>?_⟩
   obtain ⟨x2,rx⟩:=yl xv H3 y
   cases rx
   have w2:=(w1.grow x2).put (k:=k) (o:=none) (u:=.int ((lo:Int)+(t:Nat))) ki kio fun d e=>by cases e
   rw [List.set_set] at w2
   obtain ⟨b,us,e1,hn,hb,ul⟩:=al1 t hlt
   obtain ⟨jl,ej⟩:=List.getElem?_eq_some_iff.mp e1
   have hb3:=x2.all hb
   have kl:k < σ1.length:=by rw [hl1,w.len.2]; exact ltk
   refine zay (pss_cons (ps_expr (pe_bm PySem.F.plainAttrs_list PySem.F.slot_list_append PySem.F.type_list_append mt_append (pe_ix ix_seq (pvar d1 d2) (pvar d6.1 d6.2) (zb9 rfl)) (pa_cons pe_int pa_nil (zab rfl)) (zaD rfl) (zbx (by rfl) (by simp)) c9 (zab rfl) rfl) rfl) pss_nil) ?_
   refine ⟨.ref a,w2.si,.int ((lo:Int)+(t:Nat)),List.getElem?_set_self kl,.inr (.inl ⟨a,vs,(lo:Int)+(t:Nat),.ref b,rfl,rfl,SqT.of (x2.all ha1),by rw [show (lo:Int)+(t:Nat)=((lo+t:Nat):Int) by omega,at_i jl,ej],.inl ⟨rfl,us,SqL.of hb3⟩,b,us,.int cc,rfl,rfl,hb3,by rw [sizeLine_eq]; omega,?_⟩)⟩
   refine ⟨w2.mov (zfY w2.ext hn) (zds hb3),by simpa using hl1,zds hb3 _ _ rfl (x2.all ha1),fun t' ht'=>?_⟩
   obtain ⟨b',us',g1,g2,g3,g4⟩:=al1 t' ht'
   by_cases cb:b'=b
   ·subst cb
    rw [hb] at g3; cases g3
    exact ⟨b',us ++ [.int cc],g1,g2,upd_same,by simp; omega⟩
   ·exact ⟨b',us',g1,g2,by rw [upd_ne cb]; exact x2.all g3,by omega⟩
  ·refine .inl ⟨itk.stop H2 Ext.refl t (by rw [fl]; omega),?_⟩
   exact hr hy cr (w1.fin (ρ2:=(ρ'.set k none).set i none) I ho (by simp) (fun j e ej=>by
    have ne:i ≠ j:=fun z=>by subst z; rw [List.getElem?_set] at ej; simp at ej
    rw [List.getElem?_set_ne ne] at ej
    exact ⟨fun z=>ne z.symm,ej⟩) (fun j hj=>List.getElem?_set_ne fun z=>hi (by rw [z]; exact hj))) (ev.grow w1.ext) (fun j hj=>(w1.io j hj).2.trans (fr j hj)) h1
 | clr x k =>
  obtain ⟨s,rfl,c1⟩:=zcE c
  obtain ⟨tg,ib,p,qf,rfl,c2⟩:=zem c1
  simp only [Bool.and_eq_true] at c2
  obtain ⟨⟨⟨⟨c3,c4⟩,c5⟩,c6⟩,c7⟩:=c2
  have ki:=of_decide_eq_true c5
  have kio:x ∉ F.ios:=by simpa using c6
  obtain ⟨z,pz,rfl,c3'⟩:=zj7 c3
  rw [Bool.and_eq_true] at c3'
  obtain ⟨s,rfl,c8⟩:=zcE c7
  obtain ⟨y,p1,jx,q1,apos,xs,pos,rr,rfl,c9,c10⟩:=zen c8
  simp only [Bool.and_eq_true] at c10
  obtain ⟨⟨⟨d1,d2⟩,d3⟩,d4⟩:=c10
  obtain ⟨j1,p2,rfl⟩:=zbW d3
  have d4:=List.isEmpty_iff.mp d4
  subst d4
  obtain ⟨xs,e0,h1⟩:=(show PostR _ _ (((lstD d).bind fun xs=>(clrL k xs).bind fun ys=>R.ok ((ρ'.set x none).set i (some (.lst ys)))).bind fun ρ2=>evSs G Fnc wf r ρ2) from h).bind.bind.get (by intro c; cases d <;> (intro z; cases z))
  cases zpX e0
  obtain ⟨cj,cl⟩:=pr
  obtain ⟨m,us,rfl,hnm,hm,rs⟩:=cl xs rfl
  obtain ⟨m',us',em,_,hm',items⟩:=cj xs rfl
  cases em
  rw [hm] at hm'; cases hm'
  obtain ⟨ys,ey,h2⟩:=h1.bind.get (by
   intro c
   generalize xs=xs
   induction xs with
   | nil=>intro z; cases z
   | cons d ds ih =>
    intro z
    have z:((clrX k d).bind fun x=>(clrL k ds).bind fun r=>R.ok (x :: r))=R.exc c:=z
    cases e1:clrX k d with
    | bad=>rw [e1] at z; cases z
    | exc c2 =>
     cases d <;> (try (cases e1; done))
     simp only [clrX,R.when] at e1
     split at e1 <;> cases e1
    | ok x =>
     rw [e1] at z
     have z:((clrL k ds).bind fun r=>R.ok (x :: r))=R.exc c:=z
     cases e2:clrL k ds with
     | bad=>rw [e2] at z; cases z
     | exc c2=>rw [e2] at z; cases z; exact ih e2
     | ok r=>rw [e2] at z; cases z)
  have h2:PostR (PostS X.K F fresh σ0 Ab Hb (ownSs T r (yngA i (.clr x k) O)) OL D) (WOK cls W F) (evSs G Fnc wf r ((ρ'.set x none).set i (some (.lst ys)))):=h2
  have all0:∀ t,t < us.length -> ∃ (tt:Addr) (ws:List V) (b:Addr) (vs:List V),us[t]?=some (.ref tt) /\ H' tt=some (.tup ws) /\ ws[k]?=some (.ref b) /\ H b=none /\ H' b=some (.lst vs) /\ b ≠ m:=fun t ht=>by
   have lx:t < xs.length:=by rw [rs.length]; exact ht
   obtain ⟨ds,zs,e1,e2⟩:=zhi ey t xs[t] (List.getElem?_eq_getElem lx)
   exact items t ds zs (by rw [List.getElem?_eq_getElem lx,e1]) e2
  refine zay (pss_cons (ps_for (g:=gTg X.K (.one x)) hy.po hy.calm (pi_list (pvar c3'.1 c3'.2)) (pg_tg hy.calm hy.nd hy.tg c4) zai (zaX rfl)) zai) ⟨.ref m,w.si,m,rfl,⟨us,SqL.of hm⟩,?_⟩
  refine ⟨fun t u σ1 H2=>u=us.length - t /\ t <= us.length /\ Yv X.K F i tc (.ref m) σ ρ H σ1 (ρ'.set x none) H2 /\ σ1.length=ρ'.length /\ H2 m=some (.lst us) /\ (∀ a u,tupO u=true -> H' a=some u -> H2 a=some u) /\ ∀ t',t' < us.length -> ∃ (tt:Addr) (ws:List V) (b:Addr) (vs:List V),us[t']?=some (.ref tt) /\ H' tt=some (.tup ws) /\ ws[k]?=some (.ref b) /\ H b=none /\ H2 b=some (.lst vs) /\ b ≠ m /\ (t' < t -> vs=[]),
   ⟨us.length,by simp,Nat.zero_le _,w.drop kio,w.len.1,hm,fun _ _ _ e=>e,fun t ht=>by
    obtain ⟨tt,ws,b,vs,g1,g2,g3,g4,g5,g6⟩:=all0 t ht
    exact ⟨tt,ws,b,vs,g1,g2,g3,g4,g5,g6,fun z=>absurd z (Nat.not_lt_zero _)⟩⟩,?_⟩
  rintro t u σ1 H2 ⟨rfl,ht,w1,hl1,hm1,tu1,al1⟩
  by_cases hlt:t < us.length
  ·refine .inr ⟨⟨us,us[t],SqL.of hm1,List.getElem?_eq_getElem hlt⟩,fun σ1 H2=>Yv X.K F i tc (.ref m) σ ρ H σ1 (ρ'.set x none) H2 /\ σ1.length=ρ'.length /\ H2 m=some (.lst us) /\ (∀ a u,tupO u=true -> H' a=some u -> H2 a=some u) /\ ∀ t',t' < us.length -> ∃ (tt:Addr) (ws:List V) (b:Addr) (vs:List V),us[t']?=some (.ref tt) /\ H' tt=some (.tup ws) /\ ws[k]?=some (.ref b) /\ H b=none /\ H2 b=some (.lst vs) /\ b ≠ m /\ (t' < t+1 -> vs=[]),fun σ' H' w=>⟨us.length - (t+1),by omega,rfl,hlt,w⟩,fun xv H3 y=>?_⟩
   obtain ⟨rfl,y⟩:=y
   have y:=y us (SqL.of hm1)
   obtain ⟨tt,ws,b,vs,g1,g2,g3,g4,g5,g6,g7⟩:=al1 t hlt
   rw [g1] at y
   cases y
   obtain ⟨jl,ej⟩:=List.getElem?_eq_some_iff.mp g3
   have w2:=w1.put (k:=x) (o:=none) (u:=.ref tt) ki kio fun d e=>by cases e
   rw [List.set_set] at w2
   have kl:x < σ1.length:=by rw [hl1,w.len.2]; exact ltk
   refine zay (pss_cons (ps_expr (pe_bm0 PySem.F.plainAttrs_list PySem.F.slot_list_clear PySem.F.type_list_clear mt_clear (pe_ix ix_seq (pvar d1 d2) pe_int (zb9 rfl)) (zaD rfl) c9) rfl) pss_nil) ?_
   refine ⟨.ref tt,List.getElem?_set_self kl,.inr (.inl ⟨tt,ws,(k:Int),.ref b,rfl,rfl,SqT.of (tu1 _ _ rfl g2),by rw [at_i jl,ej],.inl ⟨rfl,vs,SqL.of g5⟩,b,vs,rfl,rfl,g5,?_⟩)⟩
   refine ⟨w2.mov (zfY w2.ext g4) (zds g5),by simpa using hl1,by rw [upd_ne (fun z=>g6 z.symm)]; exact hm1,fun a u hu e=>zds g5 a u hu (tu1 a u hu e),fun t' ht'=>?_⟩
   obtain ⟨tt',ws',b',vs',f1,f2,f3,f4,f5,f6,f7⟩:=al1 t' ht'
   by_cases cb:b'=b
   ·subst cb
    exact ⟨tt',ws',b',[],f1,f2,f3,f4,upd_same,f6,fun _=>rfl⟩
   ·refine ⟨tt',ws',b',vs',f1,f2,f3,f4,by rw [upd_ne cb]; exact f5,f6,fun z=>?_⟩
    by_cases z2:t' < t
    ·exact f7 z2
    ·have:t'=t:=by omega
     subst this
     rw [g1] at f1; cases f1
     rw [g2] at f2; cases f2
     rw [g3] at f3; cases f3
     exact absurd rfl cb
  ·refine .inl ⟨⟨us,SqL.of hm1,by omega⟩,?_⟩
   have Hf:=zhh (P':=fun b=>PPa F A b /\ b ≠ m) tu1 rs ey fun t ds zs g1 g2=>by
    have lx:t < us.length:=by rw [<- rs.length]; exact (List.getElem?_eq_some_iff.mp g1).1
    obtain ⟨tt,ws,b,vs,f1,f2,f3,f4,f5,f6,f7⟩:=al1 t lx
    rw [f7 (by omega)] at f5
    exact ⟨tt,ws,b,f1,f2,f3,f5,I.newP f4,f6⟩
   have I2:=I.setOwn w1.ext hnm (d:=.lst ys) ⟨us,hm1,Hf⟩ hi
   refine hr hy cr (I2.mix Ext.refl (by simp [hl1]) (fun j e ej=>?_) (fun j hj=>?_)) (ev.own w1.ext hnm) (fun j hj=>(w1.io j hj).2.trans (fr j hj)) h2
   ·by_cases c:i=j
    ·subst c
     refine .inl ⟨?_,?_⟩
     ·rw [List.getElem?_set_self (by rw [List.length_set,w.len.2]; exact lt)] at ej
      rw [List.getElem?_set_self lt]; exact ej
     ·rw [w1.si,List.getElem?_set_self (by rw [I.len]; exact lt)]
    ·rw [List.getElem?_set_ne c] at ej
     rw [List.getElem?_set_ne c,List.getElem?_set_ne c]
     rcases w1.sl j e (fun z=>c z.symm) ej with h | ⟨f1,u,f2,f3⟩
     ·exact .inl h
     ·refine .inr ⟨?_,u,f2,zaQ (fun _ _ _ e=>e) f3⟩
      have z1:=ho j (.inr f1)
      cases z:(i :: O.filter (· != i)).contains j with
      | false=>rfl
      | true =>
       rw [List.contains_cons,Bool.or_eq_true] at z
       rcases z with z | z
       ·exact absurd (beq_iff_eq.mp z).symm c
       ·rw [(zaf z).1] at z1; cases z1
   ·have c:i ≠ j:=fun z=>hi (by rw [z]; exact hj)
    rw [List.getElem?_set_ne c,List.getElem?_set_ne c,List.getElem?_set_ne c]
    exact w1.io j hj
theorem zke {i:Nat} {f:Str} {args:Es} {gs:List Gd} {ap:Ap} {r:Ss} (hr:SndSs T r):SndSs T (.yng i f args gs ap r):=by
 intro X st EX G Fnc n wf cls W F fresh OL O A Ab σ0 σ ρ H Hb D hy c I ev fr h
 match st,c with
 | s :: ys,c =>
  rw [chkSs,Bool.and_eq_true] at c
  obtain ⟨c1,c2⟩:=c
  unfold zot at c1
  simp only [Bool.and_eq_true] at c1
  obtain ⟨⟨⟨⟨ca,cg⟩,ckp⟩,cio⟩,capio⟩:=c1
  obtain ⟨y,py,v,qv,rfl,g1⟩:=zel ca
  rw [Bool.and_eq_true] at g1
  obtain ⟨cl,cv⟩:=g1
  obtain ⟨g,pg,xs,qc,rfl,g2⟩:=zmA cv
  simp only [Bool.and_eq_true] at g2
  obtain ⟨⟨⟨⟨⟨d1,d2⟩,d3⟩,d4⟩,d5⟩,d6⟩:=g2
  have ef:f=g:=by simpa using d1
  subst ef
  obtain ⟨gg1,gg2,_⟩:=gl_of d2
  obtain ⟨x,rr,rfl⟩:=zaP d5
  have st:=za0 _ _ d3
  rw [List.all_cons,Bool.and_eq_true] at st
  have hio:i ∉ F.ios:=by simpa using cio
  obtain ⟨A1,s1',I1⟩:=I.less _ ckp
  have ho:∀ m,m=i \/ m ∈ gdT gs ++ apT ap -> (yngO i args gs ap O).contains m=false:=fun m hm=>by
   cases w:(yngO i args gs ap O).contains m with
   | false=>rfl
   | true =>
    have:=(zav w).2
    rcases hm with rfl | hm
    ·simp at this
    ·rcases List.mem_append.mp hm with hm | hm
     ·simp [zek hm] at this
     ·simp [hm] at this
  have hap:∀ k ∈ apT ap,k ∉ F.ios:=fun k hk=>by
   have:=List.all_eq_true.mp capio k hk
   simpa using this
  unfold yngD at d6
  cases ed:findD T f with
  | none=>rw [ed] at d6; cases d6
  | some d =>
   rw [ed] at d6
   have d6:=Bool.and_eq_true_iff.mp d6
   have io:d.io=[]:=List.isEmpty_iff.mp d6.1
   obtain ⟨a,fd,m1,m2,m3,m4⟩:=hy.fn f d ed (by unfold isTab; rw [io]; rfl)
   obtain ⟨l1,l2⟩:=zcV cl
   have h0:PostR (PostS X.K F fresh σ0 Ab Hb (ownSs T (.yng i f args gs ap r) O) OL D) (WOK cls W F) (R.when (decide (i < ρ.length) && decide (apX ap < ρ.length)) ((evEs G Fnc args ρ).bind fun ds=>(Fnc f ds).bind fun q=>R.when q.2.isEmpty ((gdsEv G Fnc gs (ρ.set i (some q.1))).bind fun w=>if w.1=true then (apEv ap i q.1 w.2).bind fun ρ'=>evSs G Fnc wf r ρ' else .ok (.ret (.bl false),w.2)))):=h
   obtain ⟨hlt,h'⟩:=h0.when
   rw [Bool.and_eq_true] at hlt
   have lt:=of_decide_eq_true hlt.1
   have ltk:=of_decide_eq_true hlt.2
   rw [show ownSs T (.yng i f args gs ap r) O=ownSs T r (yngA i ap (yngO i args gs ap O)) by rw [ownSs]] at h'
   rw [<- List.take_append_drop (gs.length+1) ys]
   refine zay (pss_cons (ps_set hy.nd l1 l2 (pe_callS m4 hy.room gg1 m1 m2 m3 (fun σ=>passAt hy.tk σ) pa_wa gg2 (zab st.1) (zao st.2)) (zaI rfl) (hy.hf l2)) zai) ?_
   refine (allEs args).1 hy.toHy hy.tk rfl d3 I1 (h'.bind.mono (fun ds hds vs H1 x1 t p=>?_) fun c hc=>zap I1 hc)
   have I2:=I1.step x1
   have len:ds.length=d.ps.length:=hy.flen f d ds ed (by intro z; rw [z] at hds; exact hds.elim)
   have lv:vs.length=d.ps.length:=by rw [<- t.length]; exact len
   have exn:∀ {H2 H3:Hp},Ext (fun b=>b ∈ ([]:List Addr)) H2 H3 -> Ext Nix H2 H3:=fun h=>h.mono fun b z=>by cases z
   have rp:=p (by simpa using d4)
   refine ⟨ds,PPa F A1,[],Nix,by rw [io]; exact zbS rp,lv,?_⟩
   cases er:Fnc f ds with
   | bad=>rw [er] at hds; exact hds.elim
   | exc c0 =>
    rw [er] at hds
    exact fun C H' ec x=>zap (σ1:=σ) I1 hds C H' ec (x1.trans (exn x))
   | ok q =>
    obtain ⟨rd,outs⟩:=q
    rw [er] at hds
    obtain ⟨w,h2⟩:=PostR.when (show PostR _ _ (R.when outs.isEmpty ((gdsEv G Fnc gs (ρ.set i (some rd))).bind fun w=>if w.1=true then (apEv ap i rd w.2).bind fun ρ'=>evSs G Fnc wf r ρ' else .ok (.ret (.bl false),w.2))) from hds)
    intro v H' x2 rv fr0 nj io0
    have xn:=exn x2
    have wk:∀ b,((PPa F A1 b \/ H1 b=none) /\ b ∉ ([]:List Addr)) -> PPa F A1 b:=fun b z=>z.1.elim id fun z=>I2.newP z
    have rv':=rv.weak wk
    have xx:=x1.trans xn
    have pm:=nj io
    have pr0:PrA X.K (PPa F A1) ap H1 H' rd v:=by
     cases ap with
     | one j c=>exact pm.nj j d6.2
     | all k lo n c=>exact fun t ht=>pm.nj _ (List.all_eq_true.mp d6.2 t (List.mem_range.mpr ht))
     | clr x k =>
      have d7:(d.fresh && cJ d.body k)=true:=d6.2
      rw [Bool.and_eq_true] at d7
      refine ⟨pm.cj k d7.2,fun xs2 ex=>?_⟩
      subst ex
      obtain ⟨m,e1,e2,us,e3,e4⟩:=fr0 d7.1 rfl
      exact ⟨m,us,e1,e2,e3,e4.weak fun b z=>wk b z.1⟩
    have fr':FrIO F σ0 σ:=fr
    have w0:Yv X.K F i (gdT gs ++ apT ap) v σ ρ H (σ.set i (some v)) (ρ.set i (some rd)) H' :=
     ⟨⟨by simp [I1.len],by simp⟩,fun j e c ej=>by
      rw [List.getElem?_set_ne (fun z=>c z.symm)] at ej
      exact .inl ⟨ej,List.getElem?_set_ne fun z=>c z.symm⟩,fun j hj=>by
      have ne:i ≠ j:=fun z=>hio (by rw [z]; exact hj)
      exact ⟨List.getElem?_set_ne ne,List.getElem?_set_ne ne⟩,xx,List.getElem?_set_self (by rw [I1.len]; exact lt)⟩
    refine zet (wf:=wf) hy I1 (ev.less s1') fr ckp ho (kk:=chkAp X.N X.env.scope F.ios i ap) (Pend:=fun ρ2=>(apEv ap i rd ρ2).bind fun ρ'=>evSs G Fnc wf r ρ') (Pr:=fun H2=>PrA X.K (PPa F A1) ap H H2 rd v) (fun _ _ x p=>p.move Ext.refl x)
     (fun {sts σ' ρ' H'} cc ww rri rrv ppr hh=>zrX (wf:=wf) hr hy I1 (ev.less s1') fr ho hio lt ap ltk (fun k hk=>List.mem_append_right _ hk) hap c2 cc ww rri rrv ppr hh) gs (fun k hk=>List.mem_append_left _ hk) cg w0 (List.getElem?_set_self lt) rv' (pr0.move x1 Ext.refl) h2
end
end L2.Pf
namespace L2.Pf
open PySem PySem.Spec PyProof.Rows
theorem zfh (o k x:D):noExc (dSet o k x):=by
 cases o <;> first
  | exact zal (zag (zat _) fun _=>zad _)
  | (cases k <;> first | exact zag (zat _) fun _=>zad _ | exact zal (zag (zat _) fun _=>zad _) | (intro c z; cases z))
  | (intro c z; cases z)
theorem zpY {o i:Expr} {pos:Pos} {env:PySem.Env} (h:notSl i=true):∀ v,assign (.Subscript o i pos) env v=(do
   let ov <- holding [v] (eval o env)
   let iv <- holding [v,ov] (eval i env)
   standAt pos
   holding [v,ov,iv] (setItem ov iv v)
   release [v,ov,iv] []):=by
 intro v
 cases i <;> first | rfl | cases h
section
variable {T:List Def}
theorem zkf (i:Nat) (ix e:E):SndS T (.setI i ix e):=by
 intro X st EX G Fnc n wf cls W F fresh OL O A Ab σ0 σ ρ H Hb D hy c I ev fr h
 cases st <;> (try (simp [chkS] at c; done))
 rename_i ts v pos
 obtain ⟨t0,rfl⟩:∃ t0,ts=[t0]:=by
  rcases ts with _ | ⟨t0,_ | ⟨t1,ts⟩⟩
  ·simp [chkS] at c
  ·exact ⟨t0,rfl⟩
  ·cases t0 <;> simp [chkS] at c
 cases t0 <;> (try (simp [chkS] at c; done))
 rename_i t1 y ps
 cases t1 <;> (try (simp [chkS] at c; done))
 next x px =>
  rw [chkS] at c
  simp only [Bool.and_eq_true] at c
  obtain ⟨⟨⟨⟨⟨⟨⟨⟨c1,c2⟩,c3⟩,c4⟩,c5⟩,c6⟩,c7⟩,c8⟩,c9⟩:=c
  obtain ⟨A1,s1,I1⟩:=I.less _ c6
  have h':PostR (PostS X.K F fresh σ0 Ab Hb (ownS T (.setI i ix e) O) OL D) (WOK cls W F) ((evE G Fnc e ρ).bind fun x=>(getV ρ i).bind fun o=>(evE G Fnc ix ρ).bind fun k=>(dSet o k x).bind fun d=>.ok (.next,ρ.set i (some d))):=h
  have bare:bareO (less O (topV e ++ escE e ++ escE ix)) e=false:=by
   have:=zaN O (escE e ++ escE ix) e
   rw [<- List.append_assoc] at this
   exact this
  have way:∀ {Rr:V -> V -> V -> Hp -> Prop},(∀ (o x k:Pf.D) (u:V) (w:V) (H2:Hp) (a:Addr),ρ[i]?=some (some o) -> EnvR X.K F (less O (topV e ++ escE e ++ escE ix)) A1 σ ρ H2 -> Ev Ab Hb A1 H2 -> Rep X.K H2 (PPa F A1) x u -> RepT X.K H2 (PPa F A1) k w →
    PostR (PostS X.K F fresh σ0 Ab Hb (ownS T (.setI i ix e) O) OL D) (WOK cls W F) ((dSet o k x).bind fun d=>.ok (.next,ρ.set i (some d))) -> σ[i]?=some (some (.ref a)) -> A1 a -> OwnAt X.K H2 (PPa F A1) a o -> Rr u (.ref a) w H2) →
    WE X v σ H fun u H1=>tVar i σ H1 fun z H2=>WE X y σ H2 fun w H3=>Rr u z w H3:=fun {Rr} k=>by
   refine (allE e).1 hy.toHy hy.tk rfl c4 I1 (h'.bind.mono (fun xd hx u H1 g1=>?_) fun c hc=>zap I1 hc)
   obtain ⟨o,eo,hx⟩:=zbu hx
   have I2:=I1.step g1.ext
   by_cases m:o.mut=true
   ·obtain ⟨a,ea,hA,ow⟩:=I2.own eo c7 m
    refine ⟨.ref a,ea,(allE ix).1 hy.toHy hy.tk rfl c5 I2 (hx.bind.mono (fun kd hk w H2 g2=>?_) fun c hc=>zap I2 hc)⟩
    exact k o xd kd u w H2 a eo (I2.step g2.ext) (((ev.less s1).grow g1.ext).grow g2.ext) ((g1.rep bare).ext g2.ext fun _ _ z=>z) g2.top hk ea hA (ow.ext g2.ext)
   ·obtain ⟨z,ez,_⟩:=I2.val i o eo
    refine ⟨z,ez,(allE ix).1 hy.toHy hy.tk rfl c5 I2 (hx.bind.mono (fun kd hk w H2 g2=>?_) fun c hc=>zap I2 hc)⟩
    exfalso
    have hk:PostR (PostS X.K F fresh σ0 Ab Hb (ownS T (.setI i ix e) O) OL D) (WOK cls W F) ((dSet o kd xd).bind fun d=>.ok (.next,ρ.set i (some d))):=hk
    cases o <;> first | (exact absurd rfl m) | exact hk.elim
  by_cases dd:∃ o,ρ[i]?=some (some o) /\ zeP o=true
  ·obtain ⟨o,eo,hd⟩:=dd
   refine ws_of (ps_dput (by have:=hy.hu; omega) (pvar c1 c2) pe_we pe_we zdr) (way fun o' x k u w H2 a eo' I3 ev3 rx rk q ea hA ow=>?_)
   rw [eo] at eo'; cases eo'
   obtain ⟨d,ed,q⟩:=q.bind.get (zfh _ _ _)
   have q:∀ O',ownS T (.setI i ix e) O=some O' -> EnvAt X.K F σ0 Ab Hb O' (ρ.set i (some d)) D.nx:=q
   have q:=q _ (by rw [ownS])
   cases o <;> (try (cases hd; done))
   ·rename_i kvs
    obtain ⟨wl,e2⟩:=zae (show R.when _ _=_ from ed)
    obtain ⟨key,e3,e4⟩:=bind_ok e2
    cases e4
    obtain ⟨ws,hv,hk,hr⟩:=ow
    have ew:=zb8 rk (of_ok e3)
    subst ew
    have hl:ws.length < sizeLine:=by rw [<- zdJ hk]; exact of_decide_eq_true wl
    refine ⟨a,_,rfl,DPut.k hv hl,q _ _ _ (I3.mutate eo c7 rfl ea rfl ⟨_,upd_same,zbN key x u hk,(zbO key rx hk hr).mono (le_wr hA hv rfl)⟩) (ev3.write hA fun o eo=>?_) fr⟩
    rw [hv] at eo; cases eo; rfl
   ·rename_i kvs
    cases k <;> (try (cases ed; done))
    rename_i kd
    obtain ⟨wl,e2⟩:=zae (show R.when _ _=_ from ed)
    obtain ⟨key,e3,e4⟩:=bind_ok e2
    cases e4
    obtain ⟨ws,hv,hk,hr⟩:=ow
    obtain ⟨b,us,rfl,hb,rb⟩:=rk.tup
    have ew:=zbf rb (of_ok e3)
    subst ew
    have hl:ws.length < sizeLine:=by rw [<- zdJ hk]; exact of_decide_eq_true wl
    refine ⟨a,_,rfl,DPut.t hv hb hl,q _ _ _ (I3.mutate eo c7 rfl ea rfl ⟨_,upd_same,zbN key x u hk,(zbO key rx hk hr).mono (le_wr hA hv rfl)⟩) (ev3.write hA fun o eo=>?_) fr⟩
    rw [hv] at eo; cases eo; rfl
  ·refine ws_of (ps_asg pe_we (pg_sub (pvar c1 c2) pe_we set_list (zpY c9)) (by unfold swapsWithSole; exact zdr)) (way fun o' x k u w H2 a eo' I3 ev3 rx rk q ea hA ow=>?_)
   obtain ⟨d,ed,q⟩:=q.bind.get (zfh _ _ _)
   have q:∀ O',ownS T (.setI i ix e) O=some O' -> EnvAt X.K F σ0 Ab Hb O' (ρ.set i (some d)) D.nx:=q
   have q:=q _ (by rw [ownS])
   cases o' <;> (try exact ow.elim)
   ·rename_i xs
    cases k <;> (try (cases ed; done))
    rename_i j
    obtain rfl:=rk.int
    obtain ⟨jn,e3,e4⟩:=bind_ok (show (R.of (ixN xs.length j)).bind _=_ from ed)
    cases e4
    obtain ⟨vs,hv,hr⟩:=ow
    refine ⟨a,vs,j,jn,rfl,rfl,hv,by rw [<- hr.length]; exact of_ok e3,q _ _ _ (zfe I3 eo' c7 ea hA hv (Reps.set rx jn hr)) (ev3.write hA fun o eo=>?_) fr⟩
    rw [hv] at eo; cases eo; rfl
   ·exact absurd ⟨_,eo',rfl⟩ dd
   ·exact absurd ⟨_,eo',rfl⟩ dd
theorem zpZ {m:S} (h:∀ N EX sc io fresh OL O st,chkS N T EX sc io fresh OL O m st=false):SndS T m:=by
 intro X st EX G Fnc n wf cls W F fresh OL O A Ab σ0 σ ρ H Hb D hy c I ev fr _
 rw [h] at c; cases c
theorem zkg:SndSs T .nil:=by
 intro X st EX G Fnc n wf cls W F fresh OL O A Ab σ0 σ ρ H Hb D hy c I ev fr h
 cases st <;> (try (simp [chkSs] at c; done))
 have h':∀ O',some O=some O' -> EnvAt X.K F σ0 Ab Hb O' ρ D.nx:=h
 exact zay pss_nil (h' O rfl _ _ _ I ev fr)
theorem zh4 {s:S} {r:Ss} (hs:SndS T s) (hr:SndSs T r):SndSs T (.cons s r):=by
 intro X st EX G Fnc n wf cls W F fresh OL O A Ab σ0 σ ρ H Hb D hy c I ev fr h
 cases st <;> (try (simp [chkSs] at c; done))
 rename_i x xs
 rw [chkSs,Bool.and_eq_true] at c
 obtain ⟨c1,c2⟩:=c
 have h':PostR (PostS X.K F fresh σ0 Ab Hb (ownSs T (.cons s r) O) OL D) (WOK cls W F) ((evS G Fnc wf s ρ).bind fun p=>match p.1 with
  | .next=>evSs G Fnc wf r p.2
  | f=>.ok (f,p.2)):=h
 refine zay (pss_cons ps_ws zai) (hs hy c1 I ev fr (h'.bind.mono (fun p hp=>?_) fun _ z=>z))
 obtain ⟨f,ρ1⟩:=p
 cases f with
 | next =>
  intro O' eO σ' H' A' I' ev' fr'
  have e2:ownSs T (.cons s r) O=ownSs T r O':=by rw [ownSs,eO]
  rw [eO] at c2
  have hp:PostR (PostS X.K F fresh σ0 Ab Hb (ownSs T (.cons s r) O) OL D) (WOK cls W F) (evSs G Fnc wf r ρ1):=hp
  rw [e2] at hp
  exact hr hy c2 I' ev' fr' hp
 | brk=>exact hp
 | cont=>exact hp
 | ret d=>exact hp
mutual
theorem allS:∀ m:S,SndS T m
 | .asg i e=>zmH i e
 | .asgL i elt tg it own=>zjL i elt tg it own
 | .asgT is e=>zjM is e
 | .par is es=>zmN is es
 | .setI i ix e=>zkf i ix e
 | .setI2 i a b e=>zpZ fun _ _ _ _ _ _ _ _=>by simp [chkS]
 | .append i e=>zfQ i e
 | .xapp i x=>zjQ i x
 | .xif neg x a b=>zmP (allSs a) (allSs b)
 | .insert i a e=>zfR i a e
 | .pop i=>zmT i
 | .clear i=>zhY i
 | .expr e=>zjN e
 | .ifs c a b=>zmO (allSs a) (allSs b)
 | .whl c b=>zmQ (allSs b)
 | .for t it b=>zmR (allSs b)
 | .ret e=>zmL e
 | .brk=>zmS
 | .cont=>zjT
 | .pass=>zjU
 | .raise c=>zhX c
 | .raise0=>zfT
 | .try0 b=>zj1 (allSs b)
 | .forK t i im b=>zj3 (allSs b)
 | .tryX j e x o hs re=>zj9 j e x o hs re
 | .appC e x=>zka e x
 | .xasg i x=>zjO i x
 | .xasgT is x=>zhW is x
 | .xret x=>zjR x
theorem allSs:∀ m:Ss,SndSs T m
 | .nil=>zkg
 | .reb ks r=>zkb (allSs r)
 | .two i k x it ex ix val r=>zkc (allSs r)
 | .yng i f args gs ap r=>zke (allSs r)
 | .cons s r=>zh4 (allS s) (allSs r)
end
end
end L2.Pf
namespace L2.Pf
open PySem PySem.Spec PyProof.Rows
def chkD (T:List Def) (EX:List Str) (d:Def) (st:Stmt):Bool :=
 chkSs d.N T EX (defScope st) d.io d.fresh [] d.io d.body (defBody st) && kpIO d.io ((ownSs T d.body d.io).getD d.io) && kpIO d.io d.io
structure ExcK (K:PySem.W.Frag) (mg:Str -> Option Value) (c:Str) (C:Addr):Prop where
 q:∃ (B newId initId:String) (bmB:List Value),ExcBaseFacts B newId initId bmB /\ PySem.W.excIn K C bmB newId=true
 gC:mg c=some (.ref C)
 kC:PySem.W.keepIn K (.ref C)=true
 ex:PySem.W.subIn K (.ref C) (.type "BaseException")=some true
 ty:PySem.W.typeIn K (.ref C)=some (.type "type")
structure DefK (K:PySem.W.Frag) (mg:Str -> Option Value) (T:List Def) (EX:List Str) (d:Def):Prop where
 st:∃ (q:Str) (st:Stmt) (a:Addr) (fd:FuncData),Fun K q q st a fd /\ mg d.name=some (.ref a) /\ Binds K fd d.ps [] /\ FnScope d.N d.ps (defScope st) /\ chkD T EX d st=true
structure TabK (K:PySem.W.Frag) (mg:Str -> Option Value) (T:List Def) (EX:List Str) (G:Str -> Option D) (cls:Str -> Option Addr):Prop where
 defs:∀ d ∈ T,isTab d=false -> DefK K mg T EX d
 tabs:∀ d ∈ T,isTab d=true -> ∃ (a:Addr) (o:Obj) (its:Array Value) (n:Nat),mg d.name=some (.ref a) /\ K.lookup a=some o /\ o.cls=.type "tuple" /\ o.data=.seq its n /\ its.size <= sizeLine /\ Vals (d.ps.map V.str) its.toList
 glob:∀ x d,G x=some d -> ∃ v u,mg x=some u /\ RelV v u /\ ∀ K H P,Rep K H P d v
 blt:∀ x,x ∈ zca -> mg x=none
 exc:∀ c,EX.contains c=true -> ∃ C,cls c=some C /\ ExcK K mg c C
 tst:∀ x,(EX.contains x || x == ("ValueError":Str))=true -> ∃ v cx,ClsAt mg x v cx /\ ∀ c C,cls c=some C -> PySem.W.exmOne K (.ref C) cx=some (subC c x) /\ PySem.W.kitOne K (.ref C) cx=some (subC c x)
 excC:∀ c C,cls c=some C -> ExcC K C
structure OneC (K:PySem.W.Frag) (mg:Str -> Option Value) (C:Addr) (c:Str):Prop where
 g:mg c=some (.ref C)
 q:PySem.W.excIn K C [.type "ValueError",.type "Exception",.type "BaseException",.type "object"] "ValueError.__new__"=true
 k:PySem.W.keepIn K (.ref C)=true
 b:PySem.W.subIn K (.ref C) (.type "BaseException")=some true
 t:PySem.W.typeIn K (.ref C)=some (.type "type")
 d:PySem.W.hasDictIn K C=true
 ga:PySem.W.findIn K (.ref C) "__getattribute__"=some (some (.builtin "BaseException.__getattribute__"))
 gg:PySem.W.findIn K (.ref C) "__getattr__"=some none
 a:PySem.W.findIn K (.ref C) "__class__"=some (some (.builtin "object.__class__"))
 m:PySem.W.mroIn K C (.type "object")=some true
 v:PySem.W.subIn K (.ref C) (.type "ValueError")=some true
 self:PySem.W.subIn K (.ref C) (.ref C)=some true
def clsOf:List (Str × Addr) -> Str -> Option Addr
 | [],_=>none | p :: r,c=>if p.1=c then some p.2 else clsOf r c
theorem za5:∀ {cs:List (Str × Addr)} {c:Str} {C:Addr},clsOf cs c=some C -> (c,C) ∈ cs
 | p :: r,c,C,h=>by
  unfold clsOf at h
  split at h
  ·rename_i e; cases h; subst e; exact List.mem_cons_self
  ·exact List.mem_cons_of_mem _ (za5 h)
theorem zcK:∀ {cs:List (Str × Addr)} {c:Str},(cs.map (·.1)).contains c=true -> ∃ C,clsOf cs c=some C
 | [],c,h=>by simp at h
 | p :: r,c,h=>by
  unfold clsOf
  by_cases e:p.1=c
  ·exact ⟨p.2,if_pos e⟩
  ·rw [if_neg e]
   refine zcK ?_
   rw [List.map_cons,List.contains_cons] at h
   have:(c == p.1)=false:=by simpa using fun z:c=p.1=>e z.symm
   rw [this] at h
   exact h
theorem zp0 {K:PySem.W.Frag} {C D:Addr} {b:Bool} (hd:PySem.W.hasDictIn K D=true) (ht:PySem.W.typeIn K (.ref D)=some (.type "type")) (hs:PySem.W.subIn K (.ref D) (.ref D)=some true) (h:PySem.W.subIn K (.ref C) (.ref D)=some b):PySem.W.kitOne K (.ref C) (.ref D)=some b:=by
 unfold PySem.W.kitOne
 by_cases e:C=D
 ·subst e
  rw [hs] at h
  rw [if_pos (by simp),h]
 ·rw [if_neg (fun z=>e (Value.ref.inj (beq_iff_eq.mp z)))]
  obtain ⟨cd,hc,_⟩:=PySem.W.any_some hd
  have e2:((PySem.W.clsIn K D).isSome && PySem.W.typeIn K (.ref D) == some (.type "type"))=true:=by rw [hc,ht] <;> rfl
  show (if ((PySem.W.clsIn K D).isSome && PySem.W.typeIn K (.ref D) == some (.type "type"))=true then PySem.W.subIn K (.ref C) (.ref D) else none)=some b
  rw [if_pos e2]
  exact h
section
variable {K:PySem.W.Frag} {mg:Str -> Option Value} {cs:List (Str × Addr)} (h1:∀ p ∈ cs,OneC K mg p.2 p.1) (h2:∀ p ∈ cs,∀ q ∈ cs,PySem.W.subIn K (.ref p.2) (.ref q.2)=some (subC p.1 q.1))
include h1
theorem zp1 (c:Str) (hc:(cs.map (·.1)).contains c=true):∃ C,clsOf cs c=some C /\ ExcK K mg c C:=by
 obtain ⟨C,e⟩:=zcK hc
 have o:=h1 _ (za5 e)
 exact ⟨C,e,⟨_,_,_,_,PySem.F.excBase_ValueError,o.q⟩,o.g,o.k,o.b,o.t⟩
theorem zmX (hn:PySem.W.specialIn K (.builtin "object.__class__") "__get__"=some (some (.builtin "getset_descriptor.__get__"))) (ht:PySem.W.takesIn K (.builtin "object.__class__")=some true) (c:Str) (C:Addr) (e:clsOf cs c=some C):ExcC K C:=by
 have o:=h1 _ (za5 e)
 exact ⟨o.ga,o.gg,o.b,o.d,o.a,hn,ht,o.m⟩
include h2
theorem zp2 (hv:mg "ValueError"=none) (x:Str) (hx:((cs.map (·.1)).contains x || x == ("ValueError":Str))=true):∃ v cx,ClsAt mg x v cx /\ ∀ c C,clsOf cs c=some C -> PySem.W.exmOne K (.ref C) cx=some (subC c x) /\ PySem.W.kitOne K (.ref C) cx=some (subC c x):=by
 by_cases c1:(cs.map (·.1)).contains x=true
 ·obtain ⟨D,e⟩:=zcK c1
  have m:=za5 e
  have o:=h1 _ m
  refine ⟨.ref D,.ref D,.inl ⟨D,o.g,rfl,rfl⟩,fun c C eC=>?_⟩
  have s:=h2 _ (za5 eC) _ m
  exact ⟨PySem.W.exm_ref o.b o.d o.t s,zp0 o.d o.t o.self s⟩
 ·have ex:x="ValueError":=by
   have c1':(cs.map (·.1)).contains x=false:=by simpa using c1
   rw [c1'] at hx
   simpa using hx
  subst ex
  refine ⟨.ty "ValueError",.type "ValueError",.inr ⟨hv,rfl,_,rfl,rfl⟩,fun c C eC=>?_⟩
  have o:=h1 _ (za5 eC)
  have ec:subC c "ValueError"=true:=by unfold subC; simp
  rw [ec]
  have hs:PySem.W.subIn K (.type "ValueError") (.type "BaseException")=some true:=by
   have e:(fastBuiltinMro "ValueError").map (·.contains (Value.type "BaseException"))=some true:=by decide +kernel
   exact e
  have km:PySem.W.kitMeta "ValueError"=true:=by decide +kernel
  have k1:PySem.W.kitCls K (.ref C) (.type "ValueError")=some true:=by
   show (if PySem.W.kitMeta "ValueError"=true then PySem.W.subIn K (.ref C) (.type "ValueError") else none)=some true
   rw [if_pos km]; exact o.v
  constructor
  ·show (if (PySem.W.subIn K (.type "ValueError") (.type "BaseException") == some true)=true then PySem.W.kitCls K (.ref C) (.type "ValueError") else none)=some true
   rw [hs]
   exact k1
  ·show (if (Value.ref C == Value.type "ValueError")=true then some true else PySem.W.kitCls K (.ref C) (.type "ValueError"))=some true
   rw [if_neg (by intro z; cases beq_iff_eq.mp z)]
   exact k1
end
theorem zkh {K:PySem.W.Frag} {F:Fx} {O:List Nat} {A:Addr -> Prop} {vs:List V} {ds:List D} {H:Hp} {N:List Str} (I:EnvR K F O A (vs.map some) (ds.map some) H):EnvR K F O A (start N vs) (zaJ N.length ds) H:=by
 have hl:vs.length=ds.length:=by have:=I.len; simpa using this
 have gs:∀ {i:Nat} {x:V},(vs.map some)[i]?=some (some x) -> (start N vs)[i]?=some (some x):=fun {i x} h=>by
  unfold start
  have:i < (vs.map some).length:=(List.getElem?_eq_some_iff.mp h).1
  rw [List.getElem?_append_left this]; exact h
 have gsb:∀ {i:Nat} {x:V},(start N vs)[i]?=some (some x) -> (vs.map some)[i]?=some (some x):=fun {i x} h=>by
  unfold start at h
  by_cases c:i < (vs.map some).length
  ·rw [List.getElem?_append_left c] at h; exact h
  ·rw [List.getElem?_append_right (by omega),List.getElem?_replicate] at h
   split at h <;> cases h
 have gd:∀ {i:Nat} {x:D},(ds.map some)[i]?=some (some x) -> (zaJ N.length ds)[i]?=some (some x):=fun {i x} h=>by
  unfold zaJ
  have:i < (ds.map some).length:=(List.getElem?_eq_some_iff.mp h).1
  rw [List.getElem?_append_left this]; exact h
 have gdb:∀ {i:Nat} {x:D},(zaJ N.length ds)[i]?=some (some x) -> (ds.map some)[i]?=some (some x):=fun {i x} h=>by
  unfold zaJ at h
  by_cases c:i < (ds.map some).length
  ·rw [List.getElem?_append_left c] at h; exact h
  ·rw [List.getElem?_append_right (by omega),List.getElem?_replicate] at h
   split at h <;> cases h
 refine ⟨by simp [start,zaJ,hl],I.ext,fun i d e=>?_,fun i j a di dj hi hj ei ej mi mj si sj=>I.inj i j a di dj hi hj (gdb ei) (gdb ej) mi mj (gsb si) (gsb sj),I.aM,I.aF,fun a m=>?_⟩
 ·obtain ⟨v,e1,s⟩:=I.val i d (gdb e)
  exact ⟨v,gs e1,s⟩
 ·obtain ⟨h1,j,d,h2,h3,h4,h5,h6⟩:=I.io a m
  exact ⟨h1,j,d,h2,h3,gd h4,h5,gs h6⟩
theorem zcL {G:Str -> Option Pf.D} {Fn0:Fn} {ρ:Pf.Env}:∀ {es:Es} {ds:List Pf.D} {j i:Nat},evEs G Fn0 es ρ=.ok ds -> esAt es j=some (.var i) -> ∃ d,ρ[i]?=some (some d) /\ ds[j]?=some d
 | .nil,_,_,_,_,h=>by cases h
 | .cons a r,ds,j,i,e,h=>by
  have e':((evE G Fn0 a ρ).bind fun x=>(evEs G Fn0 r ρ).bind fun y=>R.ok (x :: y))=.ok ds:=e
  obtain ⟨x,e1,e2⟩:=bind_ok e'
  obtain ⟨y,e3,e4⟩:=bind_ok e2
  cases e4
  cases j with
  | zero =>
   have:a=.var i:=Option.some.inj h
   subst this
   have e5:getV ρ i=.ok x:=e1
   unfold getV at e5
   split at e5
   ·rename_i d ed
    cases e5
    exact ⟨_,ed,rfl⟩
   ·cases e5
  | succ j =>
   obtain ⟨d,h1,h2⟩:=zcL (j:=j) e3 h
   exact ⟨d,h1,h2⟩
section
variable {T:List Def}
theorem zcM:∀ {es:Es} {e:List Expr} {X:Cx} {sc:Scope} {O:List Nat} {G:Str -> Option Pf.D} {Fnc:Fn} {n:Nat} {cls:Str -> Option Addr} {W:WX} {F:Fx} {A:Addr -> Prop} {σ:St} {ρ:Pf.Env} {H:Hp} {Q:List V -> Hp -> Prop},
  Hy X T G Fnc n cls -> Takes X W -> X.env.scope=sc -> chkEs X.N T sc O es e=true -> EnvR X.K F O A σ ρ H →
  PostR (fun ds=>∀ vs H',Ext Nix H H' -> (bares O es=false -> Reps X.K H' (PPa F A) ds vs) -> (∀ (j i:Nat) (u:V),esAt es j=some (.var i) -> σ[i]?=some (some u) -> vs[j]?=some u) →
   (∀ (j:Nat) (e:E) (xs:List Pf.D),esAt es j=some e -> frx e=true -> ds[j]?=some (.lst xs) -> NwI H H' vs j xs) -> Q vs H') (ExW cls W σ H) (evEs G Fnc es ρ) -> WA X e σ H Q
 | .nil,e,X,sc,O,G,Fnc,n,cls,W,F,A,σ,ρ,H,Q,hy,tk,hs,c,I,h=>by
  cases e <;> (try (simp [chkEs] at c; done))
  exact wa_of pa_nil (h [] H Ext.refl (fun _=>.nil) (fun j i u z=>by cases z) fun j e xs z=>by cases z)
 | .cons a r,e,X,sc,O,G,Fnc,n,cls,W,F,A,σ,ρ,H,Q,hy,tk,hs,c,I,h=>by
  cases e <;> (try (simp [chkEs] at c; done))
  rename_i x xs
  rw [chkEs,Bool.and_eq_true] at c
  have h':PostR _ _ ((evE G Fnc a ρ).bind fun x=>(evEs G Fnc r ρ).bind fun y=>R.ok (x :: y)):=h
  have rest:∀ {d:Pf.D} {v:V} {H1:Hp},Ext Nix H H1 -> (bareO O a=false -> Rep X.K H1 (PPa F A) d v) -> (∀ (i:Nat) (u:V),a=.var i -> σ[i]?=some (some u) -> v=u) -> (frx a=true -> FreshR X.K H H1 (PPa F A) d v) →
    PostR (fun b=>PostR (fun ds=>∀ vs H',Ext Nix H H' -> (bares O (.cons a r)=false -> Reps X.K H' (PPa F A) ds vs) -> (∀ (j i:Nat) (u:V),esAt (.cons a r) j=some (.var i) -> σ[i]?=some (some u) -> vs[j]?=some u) →
     (∀ (j:Nat) (e:E) (xs:List Pf.D),esAt (.cons a r) j=some e -> frx e=true -> ds[j]?=some (.lst xs) -> NwI H H' vs j xs) -> Q vs H') (ExW cls W σ H) (R.ok (d :: b))) (ExW cls W σ H) (evEs G Fnc r ρ) -> WA X xs σ H1 fun vs H'=>Q (v :: vs) H':=fun {d v H1} x1 rp hv nw hd=>by
   refine zcM hy tk hs c.2 (I.step x1) (hd.mono (fun ds hds vs H2 x2 p at2 nw2=>?_) fun c hc=>ExW.step hc x1)
   refine hds (v :: vs) H2 (x1.trans x2) (fun b=>?_) (fun j i u z e=>?_) fun j e ys z f g=>?_
   ·have b':(bareO O a || bares O r)=false:=b
    rw [Bool.or_eq_false_iff] at b'
    exact .cons ((rp b'.1).ext x2 fun _ _ z=>z) (p b'.2)
   ·cases j with
    | zero=>exact congrArg some (hv i u (Option.some.inj z) e)
    | succ j=>exact at2 j i u z e
   ·cases j with
    | zero =>
     have z:a=e:=Option.some.inj z
     subst z
     have g:d=.lst ys:=Option.some.inj g
     subst g
     obtain ⟨b,eb,hn,us,hb,r⟩:=nw f rfl
     exact ⟨b,us,congrArg some eb,hn,x2.all hb,r.length.symm⟩
    | succ j =>
     obtain ⟨b,us,h1,h2,h3,h4⟩:=nw2 j e ys z f g
     exact ⟨b,us,h1,zaL x1 h2,h3,h4⟩
  by_cases hvar:∃ i,a=.var i
  ·obtain ⟨i,rfl⟩:=hvar
   have h2:PostR _ _ ((getV ρ i).bind fun x=>(evEs G Fnc r ρ).bind fun y=>R.ok (x :: y)):=h'
   obtain ⟨d,ed,h3⟩:=zbu h2
   obtain ⟨u,eu,su⟩:=I.val i d ed
   refine wa_of (pa_cons pe_we pa_wa (zab (zaa _ _ c.1))) ?_
   subst hs
   refine zov c.1 eu (rest Ext.refl (fun b=>I.plain ed eu b) (fun i' u' e1 e2=>?_) (fun z=>by cases z) h3.bind)
   cases e1
   rw [eu] at e2
   cases e2; rfl
  ·refine wa_of (pa_cons pe_we pa_wa (zab (zaa _ _ c.1))) ((allE a).1 hy tk hs c.1 I (h'.bind.mono (fun d hd v H1 g=>?_) fun _ z=>z))
   exact rest g.ext g.rep (fun i u e1 _=>absurd ⟨i,e1⟩ hvar) (fun f=>g.new (zoT f)) hd.bind
mutual
theorem zki {G:Str -> Option Pf.D} {Fn0:Fn} {wf:Nat}:∀ (s:S),zgL s=true -> ∀ (ρ ρ':Pf.Env) (d:Pf.D),evS G Fn0 wf s ρ ≠ .ok (.ret d,ρ')
 | .asg i e,_,ρ,ρ',d,h=>by
  obtain ⟨x,_,h2⟩:=bind_ok (show ((evE G Fn0 e ρ).bind fun x=>R.ok (Fl.next,ρ.set i (some x)))=_ from h)
  cases h2
 | .append i e,_,ρ,ρ',d,h=>by
  obtain ⟨o,_,h2⟩:=bind_ok (show ((getV ρ i).bind fun o=>match o with
   | .lst xs=>(evE G Fn0 e ρ).bind fun x=>R.when (decide (xs.length < sizeLine)) (.ok (Fl.next,ρ.set i (some (.lst (xs ++ [x])))))
   | _=>.bad)=_ from h)
  cases o <;> (try (cases h2; done))
  obtain ⟨x,_,h3⟩:=bind_ok h2
  obtain ⟨_,h4⟩:=zae h3
  cases h4
 | .whl c b,hb,ρ,ρ',d,h=>by
  have body:=zhj (G:=G) (Fn0:=Fn0) (wf:=wf) b hb
  have loop:∀ (n:Nat) (ρ:Pf.Env),zaE (evT G Fn0 c) (evSs G Fn0 wf b) n ρ ≠ .ok (.ret d,ρ'):=fun n=>by
   induction n with
   | zero=>intro ρ z; cases z
   | succ n ih =>
    intro ρ z
    obtain ⟨k,_,z2⟩:=bind_ok (show ((evT G Fn0 c ρ).bind fun b0=>if b0=true then (evSs G Fn0 wf b ρ).bind fun p=>(match p.1 with
     | .next=>zaE (evT G Fn0 c) (evSs G Fn0 wf b) n p.2
     | .cont=>zaE (evT G Fn0 c) (evSs G Fn0 wf b) n p.2
     | .brk=>.ok (.next,p.2)
     | .ret d=>.ok (.ret d,p.2)) else .ok (.next,ρ))=_ from z)
    cases k with
    | false=>cases z2
    | true =>
     rw [if_pos rfl] at z2
     obtain ⟨p,ep,z3⟩:=bind_ok z2
     obtain ⟨f,ρ1⟩:=p
     cases f with
     | next=>exact ih ρ1 z3
     | cont=>exact ih ρ1 z3
     | brk=>cases z3
     | ret d2=>exact body ρ ρ1 d2 ep
  exact loop wf ρ h
 | .asgL ..,hb,_,_,_,_=>by cases hb
 | .asgT ..,hb,_,_,_,_=>by cases hb
 | .par ..,hb,_,_,_,_=>by cases hb
 | .setI ..,hb,_,_,_,_=>by cases hb
 | .setI2 ..,hb,_,_,_,_=>by cases hb
 | .insert ..,hb,_,_,_,_=>by cases hb
 | .pop ..,hb,_,_,_,_=>by cases hb
 | .clear ..,hb,_,_,_,_=>by cases hb
 | .expr ..,hb,_,_,_,_=>by cases hb
 | .ifs ..,hb,_,_,_,_=>by cases hb
 | .for ..,hb,_,_,_,_=>by cases hb
 | .ret ..,hb,_,_,_,_=>by cases hb
 | .brk,hb,_,_,_,_=>by cases hb
 | .cont,hb,_,_,_,_=>by cases hb
 | .pass,hb,_,_,_,_=>by cases hb
 | .raise ..,hb,_,_,_,_=>by cases hb
 | .raise0,hb,_,_,_,_=>by cases hb
 | .try0 ..,hb,_,_,_,_=>by cases hb
 | .forK ..,hb,_,_,_,_=>by cases hb
 | .appC ..,hb,_,_,_,_=>by cases hb
 | .xasg ..,hb,_,_,_,_=>by cases hb
 | .xasgT ..,hb,_,_,_,_=>by cases hb
 | .xret ..,hb,_,_,_,_=>by cases hb
 | .xapp ..,hb,_,_,_,_=>by cases hb
 | .xif ..,hb,_,_,_,_=>by cases hb
 | .tryX ..,hb,_,_,_,_=>by cases hb
theorem zhj {G:Str -> Option Pf.D} {Fn0:Fn} {wf:Nat}:∀ (m:Ss),zdi m=true -> ∀ (ρ ρ':Pf.Env) (d:Pf.D),evSs G Fn0 wf m ρ ≠ .ok (.ret d,ρ')
 | .nil,_,ρ,ρ',d,h=>by
  have h:(R.ok (Fl.next,ρ):R (Fl × Pf.Env))=_:=h
  cases h
 | .cons s r,hb,ρ,ρ',d,h=>by
  have hb:(zgL s && zdi r)=true:=hb
  rw [Bool.and_eq_true] at hb
  obtain ⟨p,ep,h2⟩:=bind_ok (show ((evS G Fn0 wf s ρ).bind fun p=>match p.1 with
   | .next=>evSs G Fn0 wf r p.2
   | f=>.ok (f,p.2))=_ from h)
  obtain ⟨f,ρ1⟩:=p
  cases f with
  | next=>exact zhj r hb.2 ρ1 ρ' d h2
  | cont=>cases h2
  | brk=>cases h2
  | ret d2=>exact zki s hb.1 ρ ρ1 d2 ep
 | .reb ..,hb,_,_,_,_=>by cases hb
 | .two ..,hb,_,_,_,_=>by cases hb
 | .yng ..,hb,_,_,_,_=>by cases hb
end
section
variable (K:PySem.W.Frag) (F:Fx) (fresh:Bool) (σ0:St) (Ab:Addr -> Prop) (Hb:Hp)
def PostP (pr:Pf.D -> V -> Hp -> Prop) (On:Option (List Nat)) (OL:List Nat) (D:Ends):Fl × Env -> Prop
 | (.next,ρ)=>∀ O',On=some O' -> EnvAt K F σ0 Ab Hb O' ρ D.nx
 | (.brk,ρ)=>EnvAt K F σ0 Ab Hb OL ρ D.bk
 | (.cont,ρ)=>EnvAt K F σ0 Ab Hb OL ρ D.ct
 | (.ret d,ρ)=>∀ v H',RetOK K F fresh σ0 d ρ v H' -> pr d v H' -> D.rt v H'
end
section
variable {X:Cx} {EX:List Str} {G:Str -> Option Pf.D} {Fnc:Fn} {n wf:Nat} {cls:Str -> Option Addr} {W:WX} {F:Fx} {fresh:Bool} {OL O:List Nat} {A Ab:Addr -> Prop} {σ0 σ:St} {ρ:Pf.Env} {H Hb:Hp} {D:Ends} {pr:Pf.D -> V -> Hp -> Prop} {On:Option (List Nat)}
theorem zfZ {st:List Stmt} {es:Es} (hy:HyS X T EX G Fnc n cls W) (c:chkSs X.N T EX X.env.scope F.ios fresh OL O (.cons (.ret (.tup es)) .nil) st=true) (I:EnvR X.K F O A σ ρ H) (fr:FrIO F σ0 σ)
  (hp:∀ (ds:List Pf.D) (vs:List V) (H1:Hp) (pp:Addr),evEs G Fnc es ρ=.ok ds -> Ext Nix H H1 -> H1 pp=none -> (∀ (j i:Nat) (u:V),esAt es j=some (.var i) -> σ[i]?=some (some u) -> vs[j]?=some u) →
   (∀ (j:Nat) (e:E) (xs:List Pf.D),esAt es j=some e -> frx e=true -> ds[j]?=some (.lst xs) -> NwI H H1 vs j xs) -> pr (.tup ds) (.ref pp) (upd H1 pp (.tup vs)))
  (h:PostR (PostP X.K F fresh σ0 Ab Hb pr On OL D) (WOK cls W F) (evSs G Fnc wf (.cons (.ret (.tup es)) .nil) ρ)):WSs X st D σ H:=by
 cases st <;> (try (simp [chkSs] at c; done))
 rename_i x xs
 rw [chkSs,Bool.and_eq_true] at c
 have c4:=c.1
 have hv0:∃ vo pos,x=.Return vo pos:=by cases x <;> first | exact ⟨_,_,rfl⟩ | exact (Bool.false_ne_true c4).elim
 obtain ⟨vo,pos,rfl⟩:=hv0
 obtain ⟨v,rfl⟩:∃ v,vo=some v:=by cases vo <;> first | exact ⟨_,rfl⟩ | exact (Bool.false_ne_true c4).elim
 have c7:(if fresh=true then chkE X.N T X.env.scope (less O (escE (.tup es))) (.tup es) v && kpIO F.ios (less O (escE (.tup es))) && (frE T (.tup es) || frV F.ios (less O (escE (.tup es))) (.tup es)) else chkE X.N T X.env.scope (less O (topV (.tup es) ++ escE (.tup es))) (.tup es) v && kpIO F.ios (less O (topV (.tup es) ++ escE (.tup es))))=true:=c4
 obtain ⟨c5,c6⟩:chkE X.N T X.env.scope (less O (escE (.tup es))) (.tup es) v=true /\ kpIO F.ios (less O (escE (.tup es)))=true:=by
  by_cases f:fresh=true
  ·rw [if_pos f] at c7
   simp only [Bool.and_eq_true] at c7
   exact c7.1
  ·rw [if_neg f,Bool.and_eq_true] at c7
   exact c7
 have h':PostR (PostP X.K F fresh σ0 Ab Hb pr On OL D) (WOK cls W F) ((((evEs G Fnc es ρ).bind fun x=>R.when (decide (x.length <= sizeLine)) (R.ok (Pf.D.tup x))).bind fun x=>R.ok (Fl.ret x,ρ)).bind fun p=>match p.1 with
  | .next=>evSs G Fnc wf .nil p.2
  | f=>.ok (f,p.2)):=h
 cases v <;> (try (simp [chkE] at c5; done))
 rename_i ys k p
 rw [chkE,Bool.and_eq_true] at c5
 obtain ⟨A1,s1,I1⟩:=I.less _ c6
 refine zay (pss_cons ps_ws zai) (ws_of (ps_ret pe_we) (we_of (pe_tup pa_wa) ?_))
 cases ee:evEs G Fnc es ρ with
 | bad=>rw [ee] at h'; exact h'.elim
 | exc c =>
  refine zcM hy.toHy hy.tk rfl c5.1 I1 ?_
  rw [ee] at h' ⊢
  exact zap I1 h'
 | ok ds =>
  refine zcM hy.toHy hy.tk rfl c5.1 I1 ?_
  rw [ee] at h' ⊢
  refine PostR.of fun vs H1 x1 rp at1 nw1=>?_
  obtain ⟨wl,q⟩:=PostR.when h'.bind.bind
  have q:∀ v H',RetOK X.K F fresh σ0 (.tup ds) ρ v H' -> pr (.tup ds) v H' -> D.rt v H':=q
  have rr:=rp (by simpa using c5.2)
  refine ⟨by rw [<- rr.length]; exact of_decide_eq_true wl,fun pp hpp=>?_⟩
  have x2:Ext Nix H1 (upd H1 pp (.tup vs)):=Ext.new hpp
  have I2:=I1.step (x1.trans x2)
  exact q _ _ (zbF I2 fr c6 (.tup upd_same ((rr.ext x2 fun _ _ z=>z).weak fun b z=>pf_of I1 z)) fun _=>FreshR.flat rfl) (hp ds vs H1 pp ee x1 hpp at1 nw1)
theorem zp3 {st:List Stmt} (c:chkSs X.N T EX X.env.scope F.ios fresh OL O .nil st=true):st=[]:=by
 cases st with
 | nil=>rfl
 | cons _ _=>simp [chkSs] at c
theorem zkj {st:List Stmt} {c:E} {a r:Ss} (na:∀ O,ownSs T a O=none) (hy:HyS X T EX G Fnc n cls W) (ck:chkSs X.N T EX X.env.scope F.ios fresh OL O (.cons (.ifs c a .nil) r) st=true) (I:EnvR X.K F O A σ ρ H) (ev:Ev Ab Hb A H)
  (ha:∀ {p:List Stmt} {D':Ends} {A1:Addr -> Prop} {H1:Hp},chkSs X.N T EX X.env.scope F.ios fresh OL (less O (escC c)) a p=true -> EnvR X.K F (less O (escC c)) A1 σ ρ H1 -> Ev Ab Hb A1 H1 -> PostR (PostP X.K F fresh σ0 Ab Hb pr none OL D') (WOK cls W F) (evSs G Fnc wf a ρ) -> WSs X p D' σ H1)
  (hr:∀ {p:List Stmt} {D':Ends} {A1:Addr -> Prop} {H1:Hp},chkSs X.N T EX X.env.scope F.ios fresh OL (less O (escC c)) r p=true -> EnvR X.K F (less O (escC c)) A1 σ ρ H1 -> Ev Ab Hb A1 H1 -> PostR (PostP X.K F fresh σ0 Ab Hb pr (ownSs T r (less O (escC c))) OL D') (WOK cls W F) (evSs G Fnc wf r ρ) -> WSs X p D' σ H1)
  (h:PostR (PostP X.K F fresh σ0 Ab Hb pr (ownSs T (.cons (.ifs c a .nil) r) O) OL D) (WOK cls W F) (evSs G Fnc wf (.cons (.ifs c a .nil) r) ρ)):WSs X st D σ H:=by
 cases st <;> (try (simp [chkSs] at ck; done))
 rename_i x xs
 rw [chkSs,Bool.and_eq_true] at ck
 obtain ⟨ck1,ck2⟩:=ck
 have eo:ownS T (.ifs c a .nil) O=some (less O (escC c)):=by rw [ownS,na,ownSs]; rfl
 rw [eo] at ck2
 cases x <;> (try (simp [chkS] at ck1; done))
 rename_i v p q pos
 rw [chkS] at ck1
 simp only [Bool.and_eq_true] at ck1
 obtain ⟨⟨⟨⟨c1,c2⟩,c3⟩,c4⟩,c5⟩:=ck1
 obtain rfl:=zp3 c4
 obtain ⟨A1,s1,I1⟩:=I.less _ c2
 have e2:ownSs T (.cons (.ifs c a .nil) r) O=ownSs T r (less O (escC c)):=by rw [ownSs,eo]
 rw [e2] at h
 have h':PostR (PostP X.K F fresh σ0 Ab Hb pr (ownSs T r (less O (escC c))) OL D) (WOK cls W F) ((((evE G Fnc c ρ).bind zac).bind fun x=>if x=true then evSs G Fnc wf a ρ else evSs G Fnc wf .nil ρ).bind fun p=>match p.1 with
  | .next=>evSs G Fnc wf r p.2
  | f=>.ok (f,p.2)):=h
 refine zay (pss_cons (ps_if pt_wt zai zai) zai) ((sndC c) hy.toHy hy.tk rfl c1 I1 (h'.bind.bind.mono (fun d hd H' x=>?_) fun c hc=>zap I1 hc))
 have I2:=I1.step x
 have ev2:=(ev.less s1).grow x
 cases d with
 | true =>
  rw [if_pos rfl] at hd ⊢
  refine ha c3 I2 ev2 ?_
  cases ea:evSs G Fnc wf a ρ with
  | bad=>rw [ea] at hd; exact hd
  | exc c=>rw [ea] at hd; exact hd
  | ok p =>
   rw [ea] at hd
   obtain ⟨f,ρ1⟩:=p
   cases f with
   | next=>exact fun O' z=>by cases z
   | brk=>exact hd
   | cont=>exact hd
   | ret d=>exact hd
 | false =>
  rw [if_neg Bool.false_ne_true] at hd ⊢
  exact zay pss_nil (hr ck2 I2 ev2 hd)
theorem zrY {st:Stmt} {i:Nat} {e:E} (hy:HyS X T EX G Fnc n cls W) (c:chkS X.N T EX X.env.scope F.ios fresh OL O (.asg i e) st=true) (I:EnvR X.K F O A σ ρ H) (ev:Ev Ab Hb A H) (fr:FrIO F σ0 σ)
  (h:PostR (fun d=>∀ O',ownS T (.asg i e) O=some O' -> ∀ u H' A',EnvR X.K F O' A' (σ.set i (some u)) (ρ.set i (some d)) H' -> Ev Ab Hb A' H' -> FrIO F σ0 (σ.set i (some u)) -> D.nx (σ.set i (some u)) H') (WOK cls W F) (evE G Fnc e ρ)):WS X st D σ H:=by
 cases st <;> (try (simp [chkS] at c; done))
 rename_i ts v pos
 obtain ⟨t0,rfl⟩:∃ t0,ts=[t0]:=by
  rcases ts with _ | ⟨t0,_ | ⟨t1,ts⟩⟩
  ·simp [chkS] at c
  ·exact ⟨t0,rfl⟩
  ·cases t0 <;> simp [chkS] at c
 cases t0 <;> (try (simp [chkS] at c; done))
 next x p =>
  rw [chkS] at c
  simp only [Bool.and_eq_true] at c
  obtain ⟨⟨⟨⟨c1,c2⟩,c3⟩,c4⟩,c5⟩:=c
  obtain ⟨A1,s1,I1⟩:=I.less _ c4
  have ev1:=ev.less s1
  have hio:i ∉ F.ios:=by simpa using c2
  have fr':∀ u,FrIO F σ0 (σ.set i (some u)):=fun u j hj=>by
   rw [List.getElem?_set_ne (fun z=>hio (by rw [z]; exact hj))]; exact fr j hj
  refine ze9 hy c1 c3 c5 I1 (h.mono (fun d hd u H' g=>?_) fun c hc=>zap I1 hc)
  have hd:=hd _ (by rw [ownS])
  by_cases f:frE T e=true
  ·rw [if_pos f] at hd
   by_cases m:d.mut=true
   ·obtain ⟨a,eu,hn,o⟩:=g.new f m
    subst eu
    exact hd _ _ _ (I1.setOwn g.ext hn o hio) (ev1.own g.ext hn) (fr' _)
   ·have m':d.mut=false:=by simpa using m
    have r:Rep X.K H' (PPa F A1) d u:=by
     rcases g.top with r | ⟨a,_,o⟩
     ·exact r
     ·cases d <;> first | (exact absurd rfl m) | (exact o.elim)
    refine hd _ _ _ (((I1.step g.ext).setPlain r hio).addFlat fun d' e'=>?_) (ev1.grow g.ext) (fr' _)
    by_cases lt:i < ρ.length
    ·rw [List.getElem?_set_self lt] at e'
     cases e'; exact m'
    ·rw [List.getElem?_eq_none (by rw [List.length_set]; omega)] at e'
     cases e'
  ·rw [if_neg f] at hd
   exact hd _ _ _ ((I1.step g.ext).setPlain (g.rep (zaN _ _ _)) hio) (ev1.grow g.ext) (fr' _)
end
theorem zc3 {m:Ss} (h:zdj m=true):m=.nil:=by
 cases m <;> first | rfl | cases h
theorem zf0 {s:S} {r:Ss} {k:Es -> Bool} (h:tupJ s r k=true):∃ es,s=.ret (.tup es) /\ r=.nil /\ k es=true:=by
 unfold tupJ at h
 rw [Bool.and_eq_true] at h
 obtain ⟨h1,h2⟩:=h
 split at h2
 ·split at h2
  ·exact ⟨_,rfl,zc3 h1,h2⟩
  ·cases h2
 ·cases h2
theorem zf3 {ks:List Nat} {o:Option E} (h:newE ks o=true):(∃ i,o=some (.var i) /\ ks.contains i=true) \/ ∃ e,o=some e /\ frx e=true:=by
 unfold newE at h
 split at h
 ·split at h
  ·exact .inl ⟨_,rfl,h⟩
  ·exact .inr ⟨_,rfl,h⟩
 ·cases h
theorem zf4 {s:S} {j p:Nat} (h:argS s j p=true):(∃ c a,s=.ifs c a .nil /\ argJ a j p=true) \/ ∃ i e,s=.asg i e /\ i ≠ p:=by
  cases s <;> first
    | (have h:(zdj _ && argJ _ j p)=true:=h
       rw [Bool.and_eq_true] at h
       obtain rfl:=zc3 h.1
       exact .inl ⟨_,_,rfl,h.2⟩)
    | (have h:(_ != p)=true:=h
       exact .inr ⟨_,_,rfl,by simpa using h⟩)
    | exact (Bool.false_ne_true h).elim
theorem zbG {s:S} {r:Ss} {j p:Nat} (h:argJ (.cons s r) j p=true):(argS s j p=true /\ argJ r j p=true) \/ ∃ es,s=.ret (.tup es) /\ r=.nil /\ newE [p] (esAt es j)=true:=by
 have h:((argS s j p && argJ r j p) || tupJ s r fun es=>newE [p] (esAt es j))=true:=h
 rw [Bool.or_eq_true,Bool.and_eq_true] at h
 exact h.imp id zf0
theorem zc4:∀ (m:Ss) {j p:Nat},argJ m j p=true -> ∀ O,ownSs T m O=none
 | .cons s r,j,p,h,O=>by
  rcases zbG h with ⟨_,h⟩ | ⟨es,rfl,rfl,_⟩
  ·rw [ownSs]
   cases ownS T s O with
   | none=>rfl
   | some O'=>exact zc4 r h O'
  ·rw [ownSs,ownS]
 | .nil,_,_,h,_=>(Bool.false_ne_true h).elim
 | .reb ..,_,_,h,_=>(Bool.false_ne_true h).elim
 | .two ..,_,_,h,_=>(Bool.false_ne_true h).elim
 | .yng ..,_,_,h,_=>(Bool.false_ne_true h).elim
theorem zeu {X:Cx} {EX:List Str} {G:Str -> Option Pf.D} {Fnc:Fn} {n wf:Nat} {cls:Str -> Option Addr} {W:WX} {F:Fx} {fresh:Bool} {OL:List Nat} {Ab:Addr -> Prop} {σ0:St} {Hb:Hp} {as:List Pf.D} {ws:List V} (hy:HyS X T EX G Fnc n cls W) :
  ∀ (N:Nat) (m:Ss),sizeOf m <= N -> (∃ j p,argJ m j p=true) -> ∀ {st:List Stmt} {O:List Nat} {A:Addr -> Prop} {σ:St} {ρ:Pf.Env} {H:Hp} {D:Ends} {S:List Nat} {pr:Pf.D -> V -> Hp -> Prop} {On:Option (List Nat)},
  chkSs X.N T EX X.env.scope F.ios fresh OL O m st=true -> EnvR X.K F O A σ ρ H -> Ev Ab Hb A H -> FrIO F σ0 σ -> (∀ p ∈ S,∃ d u,as[p]?=some d /\ ρ[p]?=some (some d) /\ ws[p]?=some u /\ σ[p]?=some (some u)) →
  (∀ d v H',(∃ ds,d=.tup ds) -> (∀ j p,p ∈ S -> argJ m j p=true -> ArgJ F.H0 H' as ws d v j p) -> pr d v H') -> On=ownSs T m O →
  PostR (PostP X.K F fresh σ0 Ab Hb pr On OL D) (WOK cls W F) (evSs G Fnc wf m ρ) -> WSs X st D σ H
 | 0,m,hN,_,_,_,_,_,_,_,_,_,_,_,_,_,_,_,_,_,_,_=>by cases m <;> simp at hN
 | N+1,.cons s r,hN,hm,st,O,A,σ,ρ,H,D,S,pr,On,c,I,ev,fr,hS,hp,eOn,h=>by
  subst eOn
  have hN:1+sizeOf s+sizeOf r <= N+1:=by simpa using hN
  obtain ⟨j0,p0,h0⟩:=hm
  rcases zbG h0 with ⟨hs,hr⟩ | ⟨es,rfl,rfl,hes⟩
  ·rcases zf4 hs with ⟨cc,a,rfl,ha⟩ | ⟨i,e,rfl,hi⟩
   ·have hN2:sizeOf a <= N:=by
     have:sizeOf (_root_.L2.Pf.S.ifs cc a .nil)=1+sizeOf cc+sizeOf a+sizeOf Ss.nil:=by simp
     omega
    refine zkj (zc4 a ha) hy c I ev (fun {p D' A1 H1} c1 I1 ev1 h1=>?_) (fun {p D' A1 H1} c1 I1 ev1 h1=>?_) h
    ·exact zeu (as:=as) (ws:=ws) hy N a hN2 ⟨_,_,ha⟩ c1 I1 ev1 fr hS (fun d v H' tp q=>hp d v H' tp fun j p hp2 hj=>q j p hp2 (by
      rcases zbG hj with ⟨z,_⟩ | ⟨_,z,_⟩
      ·rcases zf4 z with ⟨_,_,e,z⟩ | ⟨_,_,e,_⟩
       ·cases e; exact z
       ·cases e
      ·cases z)) (zc4 a ha _).symm h1
    ·exact zeu (as:=as) (ws:=ws) hy N r (by omega) ⟨_,_,hr⟩ c1 I1 ev1 fr hS (fun d v H' tp q=>hp d v H' tp fun j p hp2 hj=>q j p hp2 (by
      rcases zbG hj with ⟨_,z⟩ | ⟨_,z,_⟩
      ·exact z
      ·cases z)) rfl h1
   ·cases st <;> (try (simp [chkSs] at c; done))
    rename_i x xs
    rw [chkSs,Bool.and_eq_true] at c
    obtain ⟨c1,c2⟩:=c
    have h':PostR (PostP X.K F fresh σ0 Ab Hb pr (ownSs T (.cons (.asg i e) r) O) OL D) (WOK cls W F) (((evE G Fnc e ρ).bind fun x=>R.ok (Fl.next,ρ.set i (some x))).bind fun p=>match p.1 with
     | .next=>evSs G Fnc wf r p.2
     | f=>.ok (f,p.2)):=h
    refine zay (pss_cons ps_ws zai) (zrY (OL:=OL) hy c1 I ev fr (h'.bind.bind.mono (fun d hd O' eO u H' A' I' ev' fr'=>?_) fun _ z=>z))
    rw [eO] at c2
    have e2:ownSs T (.cons (.asg i e) r) O=ownSs T r O':=by rw [ownSs,eO]
    rw [e2] at hd
    refine zeu (as:=as) (ws:=ws) hy N r (by omega) ⟨_,_,hr⟩ (S:=S.filter (· != i)) c2 I' ev' fr' (fun p hp2=>?_) (fun d v H' tp q=>hp d v H' tp fun j p hp2 hj=>?_) rfl hd
    ·obtain ⟨hp3,hp4⟩:=List.mem_filter.mp hp2
     have ne:i ≠ p:=by
      have:(p != i)=true:=hp4
      intro z; subst z; simp at this
     obtain ⟨d,u,g1,g2,g3,g4⟩:=hS p hp3
     exact ⟨d,u,g1,by rw [List.getElem?_set_ne ne]; exact g2,g3,by rw [List.getElem?_set_ne ne]; exact g4⟩
    ·rcases zbG hj with ⟨z,z2⟩ | ⟨_,z,_⟩
     ·rcases zf4 z with ⟨_,_,e,_⟩ | ⟨_,_,e,ne⟩
      ·cases e
      ·cases e
       exact q j p (List.mem_filter.mpr ⟨hp2,by simpa using fun z=>ne z.symm⟩) z2
     ·cases z
  ·refine zfZ hy c I fr (fun ds vs H1 pp ee x1 hpp at1 nw1=>hp _ _ _ ⟨ds,rfl⟩ fun j p hp2 hj ds' xs e1 e2=>?_) h
   cases e1
   refine ⟨pp,vs,rfl,upd_same,?_⟩
   have x2:Ext Nix H1 (upd H1 pp (.tup vs)):=Ext.new hpp
   rcases zbG hj with ⟨z,_⟩ | ⟨_,z,_,hj⟩
   ·exact (Bool.false_ne_true z).elim
   ·cases z
    rcases zf3 hj with ⟨i,ei,hi⟩ | ⟨e,ei,fe⟩
    ·have:i=p:=by simpa using hi
     subst this
     obtain ⟨d,u,g1,g2,g3,g4⟩:=hS i hp2
     obtain ⟨d',f1,f2⟩:=zcL ee ei
     rw [g2] at f1; cases f1
     rw [e2] at f2; cases f2
     exact .inr ⟨by rw [g3]; exact at1 j i u ei g4,g1⟩
    ·obtain ⟨b,us,f1,f2,f3,f4⟩:=nw1 j e xs ei fe e2
     exact .inl ⟨b,us,f1,I.noneH0 f2,x2.all f3,f4⟩
 | N+1,.nil,_,hm,_,_,_,_,_,_,_,_,_,_,_,_,_,_,_,_,_,_=>by obtain ⟨_,_,h⟩:=hm; exact (Bool.false_ne_true h).elim
 | N+1,.reb ..,_,hm,_,_,_,_,_,_,_,_,_,_,_,_,_,_,_,_,_,_=>by obtain ⟨_,_,h⟩:=hm; exact (Bool.false_ne_true h).elim
 | N+1,.two ..,_,hm,_,_,_,_,_,_,_,_,_,_,_,_,_,_,_,_,_,_=>by obtain ⟨_,_,h⟩:=hm; exact (Bool.false_ne_true h).elim
 | N+1,.yng ..,_,hm,_,_,_,_,_,_,_,_,_,_,_,_,_,_,_,_,_,_=>by obtain ⟨_,_,h⟩:=hm; exact (Bool.false_ne_true h).elim
theorem zcj {K:PySem.W.Frag} {F:Fx} {O:List Nat} {A:Addr -> Prop} {H:Hp}:∀ {is:List Nat} {ds:List Pf.D} {vs:List V} {σ:St} {ρ:Env} {Q:St -> Hp -> Prop},EnvR K F O A σ ρ H -> Reps K H (PPa F A) ds vs -> is.length=ds.length -> (∀ i ∈ is,O.contains i=false) -> is.Nodup →
  (∀ σ',EnvR K F O A σ' (zar is ds ρ) H -> FrT is σ σ' -> (∀ (q i:Nat) (u:V),is[q]?=some i -> i < σ.length -> vs[q]?=some u -> σ'[i]?=some (some u)) -> Q σ' H) -> gMany is vs σ H Q
 | [],[],_,σ,ρ,Q,I,.nil,_,_,_,q=>⟨rfl,q σ I ⟨rfl,fun _ _=>rfl⟩ fun q i u e=>by cases e⟩
 | [],_ :: _,_,_,_,_,_,_,h,_,_,_=>by simp at h
 | _ :: _,[],_,_,_,_,_,_,h,_,_,_=>by simp at h
 | i :: is,d :: ds,v :: vs,σ,ρ,Q,I,.cons h t,hl,hf,nd,q=>by
  refine ⟨v,vs,rfl,?_⟩
  show gMany is vs (σ.set i (some v)) H Q
  have nd2:=List.nodup_cons.mp nd
  refine zcj (zbB I h (hf i (by simp))) t (by simpa using hl) (fun j hj=>hf j (by simp [hj])) nd2.2 fun σ' I' fr at2=>?_
  refine q σ' I' ⟨by rw [fr.len,List.length_set],fun j hj=>?_⟩ fun k j u e1 e2 e3=>?_
  ·rw [fr.off j (fun z=>hj (by simp [z])),List.getElem?_set_ne (fun z=>hj (by simp [z]))]
  ·cases k with
   | zero =>
    cases e1
    cases e3
    rw [fr.off i nd2.1]
    exact List.getElem?_set_self e2
   | succ k=>exact at2 k j u e1 (by simpa using e2) e3
theorem zd0:∀ {is:List Nat} {ds:List Pf.D} {ρ:Env} {q i:Nat} {d:Pf.D},is.Nodup -> is[q]?=some i -> i < ρ.length -> ds[q]?=some d -> (zar is ds ρ)[i]?=some (some d)
 | [],_,_,_,_,_,_,e,_,_=>by cases e
 | _ :: _,[],_,_,_,_,_,_,_,e=>by cases e
 | j :: is,x :: ds,ρ,0,i,d,nd,e,hl,e2=>by
  have e:j=i:=Option.some.inj e
  have e2:x=d:=Option.some.inj e2
  subst e e2
  show (zar is ds (ρ.set j (some x)))[j]?=_
  rw [zbt (List.nodup_cons.mp nd).1]
  exact List.getElem?_set_self hl
 | j :: is,x :: ds,ρ,q+1,i,d,nd,e,hl,e2=>zd0 (ρ:=ρ.set j (some x)) (List.nodup_cons.mp nd).2 e (by simpa using hl) e2
theorem zdt:∀ {is:List Nat} {ds:List Pf.D} {ρ:Env},(zar is ds ρ).length=ρ.length
 | [],_,_=>by simp [zar]
 | _ :: _,[],_=>by simp [zar]
 | j :: is,x :: ds,ρ=>by
  show (zar is ds (ρ.set j (some x))).length=_
  rw [zdt,List.length_set]
theorem zkk {s:S} {j:Nat} (h:newS T s j=true):(∃ c a,s=.ifs c a .nil /\ newJ T a j=true) \/ zgL s=true:=by
  cases s <;> first
    | (have h:(zdj _ && newJ T _ j)=true:=h
       rw [Bool.and_eq_true] at h
       obtain rfl:=zc3 h.1
       exact .inl ⟨_,_,rfl,h.2⟩)
    | exact .inr h
    | exact (Bool.false_ne_true h).elim
theorem zp4 {ks:List Nat} {s:S} {r:Ss} {j:Nat} (h:tailJ T ks s r j=true):∃ is f args es,s=.asgT is (.call f args false) /\ r=.cons (.ret (.tup es)) .nil /\ is.Nodup /\ itmJ T ks is f args (esAt es j)=true:=by
 unfold tailJ at h
 split at h
 ·rw [Bool.and_eq_true] at h
  obtain ⟨h1,h2⟩:=h
  split at h2
  ·rename_i f args im
   rw [Bool.and_eq_true] at h2
   obtain ⟨h3,h4⟩:=h2
   have:im=false:=by simpa using h3
   subst this
   split at h4
   ·obtain ⟨es,rfl,rfl,h5⟩:=zf0 h4
    exact ⟨_,_,_,_,rfl,rfl,of_decide_eq_true h1,h5⟩
   ·cases h4
  ·cases h2
 ·cases h
theorem zev {ks:List Nat} {r:Ss} {j:Nat} (h:endJ T ks r j=true):(∃ es,r=.cons (.ret (.tup es)) .nil /\ newE ks (esAt es j)=true) ∨
  ∃ is f args es,r=.cons (.asgT is (.call f args false)) (.cons (.ret (.tup es)) .nil) /\ is.Nodup /\ itmJ T ks is f args (esAt es j)=true:=by
 unfold endJ at h
 split at h
 ·rw [Bool.or_eq_true] at h
  rcases h with h | h
  ·obtain ⟨es,rfl,rfl,h⟩:=zf0 h
   exact .inl ⟨es,rfl,h⟩
  ·obtain ⟨is,f,args,es,rfl,rfl,h1,h2⟩:=zp4 h
   exact .inr ⟨is,f,args,es,rfl,h1,h2⟩
 ·cases h
theorem zew:∀ (m:Ss) {j:Nat},newJ T m j=true -> ∀ O,ownSs T m O=none
 | .cons s r,j,h,O=>by
  have h:(newS T s j && newJ T r j)=true:=h
  rw [Bool.and_eq_true] at h
  rw [ownSs]
  cases ownS T s O with
  | none=>rfl
  | some O'=>exact zew r h.2 O'
 | .reb ks r,j,h,O=>by
  rcases zev (show endJ T ks r j=true from h) with ⟨es,rfl,_⟩ | ⟨is,f,args,es,rfl,_,_⟩
  ·rw [ownSs,ownSs,ownS]
  ·rw [ownSs,ownSs,ownS]
   simp only [ownSs,ownS]
 | .nil,_,h,_=>(Bool.false_ne_true h).elim
 | .two ..,_,h,_=>(Bool.false_ne_true h).elim
 | .yng ..,_,h,_=>(Bool.false_ne_true h).elim
theorem za6 {s:S} {r:Ss} {j:Nat} (h:newJ T (.cons s r) j=true):newS T s j=true /\ newJ T r j=true:=by
 have h:(newS T s j && newJ T r j)=true:=h
 rwa [Bool.and_eq_true] at h
theorem zrZ {ks is:List Nat} {f:Str} {args:Es} {o:Option E} (h:itmJ T ks is f args o=true):newE (ks.filter fun i=>!is.contains i) o=true \/ ∃ (i q:Nat) (d:Def) (p k:Nat),o=some (.var i) /\ is[q]?=some i /\ findD T f=some d /\ p < d.ps.length /\ argJ d.body q p=true /\ esAt args p=some (.var k) /\ ks.contains k=true:=by
 unfold itmJ at h
 rw [Bool.or_eq_true] at h
 rcases h with h | h
 ·exact .inl h
 ·right
  split at h
  ·split at h
   ·rename_i i
    obtain ⟨q,_,h⟩:=List.any_eq_true.mp h
    rw [Bool.and_eq_true] at h
    obtain ⟨h1,h2⟩:=h
    unfold calJ at h2
    split at h2
    ·rename_i d ed
     rw [Bool.and_eq_true] at h2
     obtain ⟨p,hp,h3⟩:=List.any_eq_true.mp h2.2
     rw [Bool.and_eq_true] at h3
     have h4:=h3.2
     unfold argO at h4
     split at h4
     ·rename_i e ee
      split at h4
      ·rename_i k
       exact ⟨i,q,d,p,k,rfl,by simpa using h1,ed,List.mem_range.mp hp,h3.1,ee,h4⟩
      ·cases h4
     ·cases h4
    ·cases h2
   ·cases h
  ·cases h
theorem zex {X:Cx} {EX:List Str} {G:Str -> Option Pf.D} {Fnc:Fn} {n wf:Nat} {cls:Str -> Option Addr} {W:WX} {F:Fx} {fresh:Bool} {OL:List Nat} {Ab:Addr -> Prop} {σ0:St} {Hb:Hp} (hy:HyS X T EX G Fnc n cls W) :
  ∀ (N:Nat) (m:Ss),sizeOf m <= N -> (∃ j,newJ T m j=true) -> ∀ {st:List Stmt} {O:List Nat} {A:Addr -> Prop} {σ:St} {ρ:Pf.Env} {H:Hp} {D:Ends} {pr:Pf.D -> V -> Hp -> Prop} {On:Option (List Nat)},
  chkSs X.N T EX X.env.scope F.ios fresh OL O m st=true -> EnvR X.K F O A σ ρ H -> Ev Ab Hb A H -> FrIO F σ0 σ →
  (∀ d v H',(∀ j,newJ T m j=true -> NewJ F.H0 H' d v j) -> pr d v H') -> On=ownSs T m O →
  PostR (PostP X.K F fresh σ0 Ab Hb pr On OL D) (WOK cls W F) (evSs G Fnc wf m ρ) -> WSs X st D σ H
 | 0,m,hN,_,_,_,_,_,_,_,_,_,_,_,_,_,_,_,_,_=>by cases m <;> simp at hN
 | N+1,.cons s r,hN,hm,st,O,A,σ,ρ,H,D,pr,On,c,I,ev,fr,hp,eOn,h=>by
  subst eOn
  have hN:1+sizeOf s+sizeOf r <= N+1:=by simpa using hN
  obtain ⟨j0,h0⟩:=hm
  obtain ⟨hs,hr⟩:=za6 h0
  rcases zkk hs with ⟨cc,a,rfl,ha⟩ | hs
  ·have hN2:sizeOf a <= N:=by
    have:sizeOf (_root_.L2.Pf.S.ifs cc a .nil)=1+sizeOf cc+sizeOf a+sizeOf Ss.nil:=by simp
    omega
   refine zkj (zew a ha) hy c I ev (fun {p D' A1 H1} c1 I1 ev1 h1=>?_) (fun {p D' A1 H1} c1 I1 ev1 h1=>?_) h
   ·exact zex hy N a hN2 ⟨_,ha⟩ c1 I1 ev1 fr (fun d v H' q=>hp d v H' fun j hj=>q j (by
     rcases zkk (za6 hj).1 with ⟨_,_,e,z⟩ | z
     ·cases e; exact z
     ·exact (Bool.false_ne_true z).elim)) (zew a ha _).symm h1
   ·exact zex hy N r (by omega) ⟨_,hr⟩ c1 I1 ev1 fr (fun d v H' q=>hp d v H' fun j hj=>q j (za6 hj).2) rfl h1
  ·cases st <;> (try (simp [chkSs] at c; done))
   rename_i x xs
   rw [chkSs,Bool.and_eq_true] at c
   obtain ⟨c1,c2⟩:=c
   have h':PostR (PostP X.K F fresh σ0 Ab Hb pr (ownSs T (.cons s r) O) OL D) (WOK cls W F) ((evS G Fnc wf s ρ).bind fun p=>match p.1 with
    | .next=>evSs G Fnc wf r p.2
    | f=>.ok (f,p.2)):=h
   refine zay (pss_cons ps_ws zai) (allS s hy c1 I ev fr (?_:PostR _ _ (evS G Fnc wf s ρ)))
   cases es:evS G Fnc wf s ρ with
   | bad=>rw [es] at h'; exact h'
   | exc c=>rw [es] at h'; exact h'
   | ok p =>
    rw [es] at h'
    obtain ⟨f,ρ1⟩:=p
    cases f with
    | next =>
     refine PostR.of fun O' eO σ' H' A' I' ev' fr'=>?_
     have e2:ownSs T (.cons s r) O=ownSs T r O':=by rw [ownSs,eO]
     rw [eO] at c2
     have hq:PostR (PostP X.K F fresh σ0 Ab Hb pr (ownSs T (.cons s r) O) OL D) (WOK cls W F) (evSs G Fnc wf r ρ1):=h'
     rw [e2] at hq
     exact zex hy N r (by omega) ⟨_,hr⟩ c2 I' ev' fr' (fun d v H' q=>hp d v H' fun j hj=>q j (za6 hj).2) rfl hq
    | brk=>exact h'
    | cont=>exact h'
    | ret d=>exact absurd es (zki s hs ρ ρ1 d)
 | N+1,.reb ks r,hN,hm,st,O,A,σ,ρ,H,D,pr,On,c,I,ev,fr,hp,eOn,h=>by
  subst eOn
  obtain ⟨j0,h0⟩:=hm
  rw [chkSs] at c
  simp only [Bool.and_eq_true] at c
  obtain ⟨⟨c1,c2⟩,c3⟩:=c
  have hio:F.ios=[]:=List.isEmpty_iff.mp c1
  have If:=I.forg hio (ρ':=forgD (fun j d=>d.imm || ks.contains j && fltI d) 0 ρ) zes fun j d e=>(zc2 e).1
  have hfg:∀ {j:Nat} {d:Pf.D},(forgD (fun j d=>d.imm || ks.contains j && fltI d) 0 ρ)[j]?=some (some d) -> ρ[j]?=some (some d):=fun e=>(zc2 e).1
  have e2:ownSs T (.reb ks r) O=ownSs T r O:=by rw [ownSs]
  rw [e2] at h
  have h':PostR (PostP X.K F fresh σ0 Ab Hb pr (ownSs T r O) OL D) (WOK cls W F) (evSs G Fnc wf r (forgD (fun j d=>d.imm || ks.contains j && fltI d) 0 ρ)):=h
  generalize forgD (fun j d=>d.imm || ks.contains j && fltI d) 0 ρ=ρf at If hfg h'
  have own:∀ {i:Nat} {xs:List Pf.D},ks.contains i=true -> ρf[i]?=some (some (.lst xs)) -> ∃ (b:Addr) (us:List V),σ[i]?=some (some (.ref b)) /\ F.H0 b=none /\ H b=some (.lst us) /\ us.length=xs.length:=fun {i xs} hk e=>by
   have ho:O.contains i=true:=List.all_eq_true.mp c2 i (by simpa using hk)
   obtain ⟨b,eb,hA,us,hb,ru⟩:=I.own (hfg e) ho rfl
   have hn:F.H0 b=none:=(I.aF b hA).resolve_left fun z=>by
    obtain ⟨_,j',_,h1,_⟩:=I.io b z
    rw [hio] at h1; cases h1
   exact ⟨b,us,eb,hn,hb,ru.length.symm⟩
  rcases zev (show endJ T ks r j0=true from h0) with ⟨es,rfl,_⟩ | ⟨is,f,args,es,rfl,nd,_⟩
  ·refine zfZ hy c3 If fr (fun ds vs H1 pp ee x1 hpp at1 nw1=>hp _ _ _ fun j hj ds' xs e1 e2=>?_) h'
   cases e1
   refine ⟨pp,vs,rfl,upd_same,?_⟩
   have x2:Ext Nix H1 (upd H1 pp (.tup vs)):=Ext.new hpp
   have hj:newE ks (esAt es j)=true:=by
    rcases zev (show endJ T ks _ j=true from hj) with ⟨_,e,z⟩ | ⟨_,_,_,_,e,_⟩
    ·cases e; exact z
    ·cases e
   rcases zf3 hj with ⟨i,ei,hi⟩ | ⟨e,ei,fe⟩
   ·obtain ⟨d',f1,f2⟩:=zcL ee ei
    rw [e2] at f2; cases f2
    obtain ⟨b,us,g1,g2,g3,g4⟩:=own hi f1
    exact ⟨b,us,at1 j i _ ei g1,g2,x2.all (x1.all g3),g4⟩
   ·obtain ⟨b,us,f1,f2,f3,f4⟩:=nw1 j e xs ei fe e2
    exact ⟨b,us,f1,I.noneH0 f2,x2.all f3,f4⟩
  ·cases st <;> (try (simp [chkSs] at c3; done))
   rename_i x xs
   rw [chkSs,Bool.and_eq_true] at c3
   obtain ⟨c4,c5⟩:=c3
   cases x <;> (try (simp [chkS] at c4; done))
   rename_i ts v pos
   obtain ⟨t0,rfl⟩:∃ t0,ts=[t0]:=by
    rcases ts with _ | ⟨t0,_ | ⟨t1,ts⟩⟩
    ·simp [chkS] at c4
    ·exact ⟨t0,rfl⟩
    ·cases t0 <;> simp [chkS] at c4
   cases t0 <;> (try (simp [chkS] at c4; done))
   rename_i tes tk tp
   rw [chkS] at c4
   simp only [Bool.and_eq_true] at c4
   obtain ⟨⟨⟨⟨k1,k2⟩,k3⟩,k4⟩,k5⟩:=c4
   have k3':kpIO F.ios (less O (topV (.call f args false) ++ escE (.call f args false)))=true:=by rw [hio]; rfl
   obtain ⟨A1,s1,I1⟩:=If.less _ k3'
   have eO:ownS T (.asgT is (.call f args false)) O=some (less (less O (topV (.call f args false) ++ escE (.call f args false))) is):=by rw [ownS]
   rw [eO] at c5
   generalize less O (topV (.call f args false) ++ escE (.call f args false))=O1 at k2 I1 c5 eO
   cases v <;> (try (simp [chkE] at k2; done))
   rename_i fe xs' kws p
   cases fe <;> (try (simp [chkE] at k2; done))
   rename_i g pg
   cases kws <;> (try (simp [chkE] at k2; done))
   rw [chkE] at k2
   simp only [Bool.and_eq_true] at k2
   obtain ⟨⟨⟨⟨⟨⟨q1,q2⟩,q3⟩,q4⟩,q5⟩,q6⟩,q7⟩:=k2
   have ef:f=g:=by simpa using q1
   subst ef
   obtain ⟨g1,g2,g3⟩:=gl_of q2
   obtain ⟨y,rr,rfl⟩:=zaP q5
   have st:=za0 _ _ q3
   rw [List.all_cons,Bool.and_eq_true] at st
   cases ed:findD T f with
   | none=>rw [ed] at q6; cases q6
   | some d =>
    rw [ed] at q7
    have io:d.io=[]:=List.isEmpty_iff.mp q7
    obtain ⟨a,fd,m1,m2,m3,m4⟩:=hy.fn f d ed (by unfold isTab; rw [io]; rfl)
    have h2:PostR (PostP X.K F fresh σ0 Ab Hb pr (ownSs T (.cons (.asgT is (.call f args false)) (.cons (.ret (.tup es)) .nil)) O) OL D) (WOK cls W F) (((((evEs G Fnc args ρf).bind fun x=>(Fnc f x).bind fun r=>R.when (r.2.isEmpty && (!false || r.1.imm)) (R.ok r.1)).bind fun x=>(setT (.many is) x ρf).bind fun ρ=>R.ok (Fl.next,ρ))).bind fun p=>match p.1 with
     | .next=>evSs G Fnc wf (.cons (.ret (.tup es)) .nil) p.2
     | f=>.ok (f,p.2)):=h'
    obtain ⟨t1,t2,t3⟩:=zcd hy.nd hy.tg k1
    refine zay (pss_cons (ps_asg (pe_callS m4 hy.room g1 m1 m2 m3 (fun σ=>passAt hy.tk σ) pa_wa g2 (zab st.1) (zao st.2)) (zgX hy.calm t1 t2 t3) (by unfold swapsWithSole; exact zaI k5) (zg9 k4)) zai) ?_
    cases ee:evEs G Fnc args ρf with
    | bad=>rw [ee] at h2; exact h2.elim
    | exc c =>
     refine zcM hy.toHy hy.tk rfl q3 I1 ?_
     rw [ee] at h2 ⊢
     exact zap I1 h2
    | ok ds =>
     refine zcM hy.toHy hy.tk rfl q3 I1 ?_
     rw [ee] at h2 ⊢
     refine PostR.of fun vs H1 x1 rp at1 _=>?_
     have I2:=I1.step x1
     have hds:PostR _ (WOK cls W F) ((Fnc f ds).bind fun r=>R.when (r.2.isEmpty && (!false || r.1.imm)) (R.ok r.1)):=(show PostR _ (WOK cls W F) ((((Fnc f ds).bind fun r=>R.when (r.2.isEmpty && (!false || r.1.imm)) (R.ok r.1)).bind fun x=>(setT (.many is) x ρf).bind fun ρ=>R.ok (Fl.next,ρ)).bind fun p=>match p.1 with
      | .next=>evSs G Fnc wf (.cons (.ret (.tup es)) .nil) p.2
      | f=>.ok (f,p.2)) from h2).bind.bind
     have len:ds.length=d.ps.length:=hy.flen f d ds ed (by intro z; rw [z] at hds; exact hds.elim)
     have rr:=rp (by simpa using q4)
     have lv:vs.length=d.ps.length:=by rw [<- rr.length]; exact len
     have exn:∀ {H2 H3:Hp},Ext (fun b=>b ∈ ([]:List Addr)) H2 H3 -> Ext Nix H2 H3:=fun h=>h.mono fun b z=>by cases z
     refine ⟨ds,PPa F A1,[],Nix,by rw [io]; exact zbS rr,lv,?_⟩
     cases er:Fnc f ds with
     | bad=>rw [er] at hds; exact hds.elim
     | exc c0 =>
      rw [er] at hds
      exact fun C H' ec x=>zap (σ1:=σ) I1 hds C H' ec (x1.trans (exn x))
     | ok q =>
      obtain ⟨rd,outs⟩:=q
      rw [er] at hds
      obtain ⟨_,hq⟩:=PostR.when (show PostR _ (WOK cls W F) (R.when (outs.isEmpty && (!false || rd.imm)) (R.ok rd)) from hds)
      have hq:=hq.bind
      intro v H' x2 rv fr0 nj io0
      have xn:=exn x2
      have wk:∀ b,((PPa F A1 b \/ H1 b=none) /\ b ∉ ([]:List Addr)) -> PPa F A1 b:=fun b z=>z.1.elim id fun z=>I2.newP z
      have rv':=rv.weak wk
      have pm:=nj io
      obtain ⟨ρ1,e1,hq⟩:=hq.get (zbi _ rd ρf)
      have hq:PostR (PostP X.K F fresh σ0 Ab Hb pr (ownSs T (.cons (.asgT is (.call f args false)) (.cons (.ret (.tup es)) .nil)) O) OL D) (WOK cls W F) (evSs G Fnc wf (.cons (.ret (.tup es)) .nil) ρ1):=hq
      obtain ⟨A2,s2,I3⟩:=(I1.step (x1.trans xn)).less is (by rw [hio]; rfl)
      have hno:∀ i ∈ is,(less O1 is).contains i=false:=fun i hi=>by
       cases z:(less O1 is).contains i with
       | false=>rfl
       | true=>have:=(zav z).2; simp [hi] at this
      have fin:∀ {ds2:List Pf.D} {us2:List V} {σ':St},ρ1=zar is ds2 ρf -> is.length=ds2.length -> EnvR X.K F (less O1 is) A2 σ' ρ1 H' -> FrT is σ σ' -> (∀ (q i:Nat) (u:V),is[q]?=some i -> i < σ.length -> us2[q]?=some u -> σ'[i]?=some (some u)) →
        (∀ a',rd=.tup ds2 -> v=.ref a' -> H' a'=some (.tup us2) -> True) -> (rd=.tup ds2 -> ∃ a',v=.ref a' /\ H' a'=some (.tup us2)) -> (rd=.tup ds2 \/ ∀ d,rd ≠ .tup d) -> WSs X xs D σ' H':=fun {ds2 us2 σ'} er1 hl2 I4 f4 at4 _ hv hrd=>by
       refine zfZ hy c5 I4 (fun j hj=>by rw [hio] at hj; cases hj) (fun ds3 vs3 H3 pp ee3 x3 hpp at3 nw3=>hp _ _ _ fun j hj ds' ys e1' e2'=>?_) hq
       cases e1'
       refine ⟨pp,vs3,rfl,upd_same,?_⟩
       have x4:Ext Nix H3 (upd H3 pp (.tup vs3)):=Ext.new hpp
       have hj:itmJ T ks is f args (esAt es j)=true:=by
        rcases zev (show endJ T ks _ j=true from hj) with ⟨_,e,z⟩ | ⟨_,_,_,_,e,_,z⟩
        ·cases e
        ·cases e; exact z
       rcases zrZ hj with hj | ⟨i,q,d',p',k,ei,eq,ed',hp',ha,ea,hk⟩
       ·rcases zf3 hj with ⟨i,ei,hi⟩ | ⟨e,ei,fe⟩
        ·obtain ⟨hi1,hi2⟩:=zaf hi
         have hni:i ∉ is:=by simpa using hi2
         obtain ⟨d',f1,f2⟩:=zcL ee3 ei
         rw [e2'] at f2; cases f2
         rw [er1,zbt hni] at f1
         obtain ⟨b,us,z1,z2,z3,z4⟩:=own hi1 f1
         exact ⟨b,us,at3 j i _ ei (by rw [f4.off i hni]; exact z1),z2,x4.all (x3.all (xn.all (x1.all z3))),z4⟩
        ·obtain ⟨b,us,f1,f2,f3,f5⟩:=nw3 j e ys ei fe e2'
         exact ⟨b,us,f1,I4.noneH0 f2,x4.all f3,f5⟩
       ·rw [ed] at ed'; cases ed'
        obtain ⟨d',f1,f2⟩:=zcL ee3 ei
        rw [e2'] at f2; cases f2
        have hil:i < ρf.length:=by
         have:=(List.getElem?_eq_some_iff.mp f1).1
         rw [er1,zdt] at this; exact this
        have hql:q < ds2.length:=by rw [<- hl2]; exact (List.getElem?_eq_some_iff.mp eq).1
        have e5:ds2[q]?=some (.lst ys):=by
         have:=zd0 (ρ:=ρf) nd eq hil (List.getElem?_eq_getElem hql)
         rw [<- er1,f1] at this
         rw [List.getElem?_eq_getElem hql]
         have:=Option.some.inj (Option.some.inj this)
         rw [<- this]
        rcases hrd with hrd | hrd
        ·obtain ⟨a1,rfl,hva⟩:=hv hrd
         obtain ⟨a2,us3,e6,e7,e8⟩:=pm.aj q p' hp' ha ds2 ys hrd e5
         cases e6
         rw [hva] at e7; cases e7
         have hsl:i < σ.length:=by rw [If.len]; exact hil
         rcases e8 with ⟨b,us,z1,z2,z3,z4⟩ | ⟨z1,z2⟩
         ·exact ⟨b,us,at3 j i _ ei (at4 q i _ eq hsl z1),I.noneH0 (zaL x1 z2),x4.all (x3.all z3),z4⟩
         ·obtain ⟨d6,w1,w2⟩:=zcL ee ea
          rw [z2] at w2; cases w2
          obtain ⟨b,us,y1,y2,y3,y4⟩:=own hk w1
          have w3:=at1 p' k _ ea y1
          rw [w3] at z1
          exact ⟨b,us,at3 j i _ ei (at4 q i _ eq hsl z1),y2,x4.all (x3.all (xn.all (x1.all y3))),y4⟩
        ·obtain ⟨ds4,e9⟩:=pm.tp q p' hp' ha
         exact absurd e9 (hrd ds4)
      have two:(∃ ds2,rd=.tup ds2) \/ ∃ ds2,rd=.lst ds2:=by
       cases rd <;> first | exact .inl ⟨_,rfl⟩ | exact .inr ⟨_,rfl⟩ | cases e1
      rcases two with ⟨ds2,rfl⟩ | ⟨ds2,rfl⟩
      ·obtain ⟨w,e1⟩:=zae (show R.when (is.length == ds2.length) (R.ok (zar is ds2 ρf))=_ from e1)
       cases e1
       have w:is.length=ds2.length:=by simpa using w
       have rt:=rv'.weak (zaZ s2)
       cases rt with
       | tup hh hr =>
        refine .inl ⟨_,_,rfl,SqT.of hh,by rw [<- hr.length,w],zcj I3 hr w hno nd fun σ' I4 f4 at4=>?_⟩
        exact fin rfl w I4 f4 at4 (fun _ _ _ _=>trivial) (fun _=>⟨_,rfl,hh⟩) (.inl rfl)
      ·obtain ⟨w,e1⟩:=zae (show R.when (is.length == ds2.length) (R.ok (zar is ds2 ρf))=_ from e1)
       cases e1
       have w:is.length=ds2.length:=by simpa using w
       have rt:=rv'.weak (zaZ s2)
       cases rt with
       | lst hh pp hr =>
        refine .inr ⟨_,_,rfl,.inl hh,by rw [<- hr.length,w],zcj I3 hr w hno nd fun σ' I4 f4 at4=>?_⟩
        exact fin rfl w I4 f4 at4 (fun _ _ _ _=>trivial) (fun z=>by cases z) (.inr fun d z=>by cases z)
       | lstK hh hr =>
        refine .inr ⟨_,_,rfl,.inr hh,by rw [<- hr.length,w],zcj I3 hr w hno nd fun σ' I4 f4 at4=>?_⟩
        exact fin rfl w I4 f4 at4 (fun _ _ _ _=>trivial) (fun z=>by cases z) (.inr fun d z=>by cases z)
 | N+1,.nil,_,hm,_,_,_,_,_,_,_,_,_,_,_,_,_,_,_,_=>by obtain ⟨_,h⟩:=hm; exact (Bool.false_ne_true h).elim
 | N+1,.two ..,_,hm,_,_,_,_,_,_,_,_,_,_,_,_,_,_,_,_=>by obtain ⟨_,h⟩:=hm; exact (Bool.false_ne_true h).elim
 | N+1,.yng ..,_,hm,_,_,_,_,_,_,_,_,_,_,_,_,_,_,_,_=>by obtain ⟨_,h⟩:=hm; exact (Bool.false_ne_true h).elim
theorem zp5 {K:PySem.W.Frag} {F:Fx} {O own:List Nat} {A:Addr -> Prop} {σ:St} {ρ:Env} {H1:Hp} {J:L2.It} {xs r:List Pf.D} {tg:Tg} {body:Env -> R (Option Pf.D)} {tt:TT} {te:TE} {Q:VK} (Ek:Addr -> Pf.D -> V -> Hp -> Prop)
  (stab:∀ D y v H H',(∀ b o,b ≠ D -> H b=some o -> H' b=some o) -> Ek D y v H -> Ek D y v H')
  (I:EnvR K F O A σ ρ H1) (ho:∀ i ∈ own,O.contains i=false) (ht:∀ i ∈ zan tg,i ∈ own) (it:ItOK K F A Nix H1 J xs) (hz:r.length <= sizeLine) (ev:lcL tg body (wipeD ρ own) xs=.ok r)
  (step:∀ {A':Addr -> Prop} {σ2:St} {ρ2:Env} {H2:Hp} {o:Option Pf.D} {Nx:Hp -> Prop} {D:Addr} {acc:List V},EnvR K F O A' σ2 ρ2 H2 -> body ρ2=.ok o -> (∀ b o,H1 b=some o -> H2 b=some o) -> H2 D=some (.lst acc) -> (o=none -> ∀ H',Ext Nix H2 H' -> Nx H') -> (∀ y,o=some y -> acc.length < sizeLine /\ ∀ v H4,Ext Nix H2 H4 -> Rep K H4 (PPa F A') y v -> Ek D y v H4 -> Nx (upd H4 D (.lst (acc ++ [v])))) →
   tt σ2 H2 fun b H3=>if b=true then te σ2 H3 fun y H4=>∃ acc,H4 D=some (.lst acc) /\ acc.length < sizeLine /\ Nx (upd H4 D (.lst (acc ++ [y]))) else Nx H3)
  (q:∀ (a:Addr) (vs:List V) (H':Hp),Ext Nix H1 H' -> H1 a=none -> H' a=some (.lst vs) -> Reps K H' (fun b=>PPa F A b /\ b ≠ a) r vs -> (∀ (i:Nat) (y:Pf.D) (u:V),r[i]?=some y -> vs[i]?=some u -> Ek a y u H') -> Q (.ref a) H') :
  ∀ D,H1 D=none -> ∃ W:Nat -> Nat -> Hp -> Prop,(∃ m,W 0 m (upd H1 D (.lst []))) /\ ∀ i m H,W i m H →
   (J.stop i H /\ Q (.ref D) H) \/ (J.go i H /\ ∃ Nx:Hp -> Prop,(∀ H',Nx H' -> ∃ m',m' < m /\ W (i+1) m' H') /\ ∀ x H',J.yld i H x H' -> gTg K tg x (wipe σ own) H' fun σ2 H2=>wipe σ2 own=wipe σ own /\ tt σ2 H2 fun b H3 =>
    if b=true then te σ2 H3 fun y H4=>∃ acc,H4 D=some (.lst acc) /\ acc.length < sizeLine /\ Nx (upd H4 D (.lst (acc ++ [y]))) else Nx H3):=by
 intro D hD
 have np:PPa F A D:=I.newP hD
 refine ⟨fun i m H=>m=xs.length - i /\ i <= xs.length /\ (∀ b o,H1 b=some o -> H b=some o) /\ ∃ ad acc r',H D=some (.lst acc) /\ Reps K H (PPa F fun b=>A b \/ b=D) ad acc /\ lcL tg body (wipeD ρ own) (xs.drop i)=.ok r' /\ ad ++ r'=r /\ ∀ (i:Nat) (y:Pf.D) (u:V),ad[i]?=some y -> acc[i]?=some u -> Ek D y u H,
  ⟨xs.length,by simp,Nat.zero_le _,fun b o e=>by rw [upd_ne (ne_of_none e hD)]; exact e,[],[],r,upd_same,.nil,by simpa using ev,rfl,fun i y u e=>by simp at e⟩,?_⟩
 rintro i m H ⟨rfl,hi,keep,ad,acc,r',hDD,rep,evr,er,ek⟩
 have x1:Ext Nix H1 H:=fun b o e _=>keep b o e
 by_cases hlt:i < xs.length
 ·refine .inr ?_
  have ex:xs[i]?=some xs[i]:=List.getElem?_eq_getElem hlt
  obtain ⟨go,yl⟩:=it.go H (fun b=>A b \/ b=D) x1 (fun b z=>z.imp id fun z=>by rw [z]; exact hD) i xs[i] ex
  refine ⟨go,fun H'=>(∀ b o,H1 b=some o -> H' b=some o) /\ ∃ ad acc r',H' D=some (.lst acc) /\ Reps K H' (PPa F fun b=>A b \/ b=D) ad acc /\ lcL tg body (wipeD ρ own) (xs.drop (i+1))=.ok r' /\ ad ++ r'=r /\ ∀ (i:Nat) (y:Pf.D) (u:V),ad[i]?=some y -> acc[i]?=some u -> Ek D y u H',
   fun H' w=>⟨xs.length - (i+1),by omega,rfl,hlt,w⟩,fun x H' y=>?_⟩
  obtain ⟨x2,rx⟩:=yl x H' y
  rw [List.drop_eq_getElem_cons hlt] at evr
  obtain ⟨ρ1,e1,evr⟩:=bind_ok (show (setT tg xs[i] (wipeD ρ own)).bind _=_ from evr)
  obtain ⟨o,e2,evr⟩:=bind_ok evr
  obtain ⟨r2,e3,evr⟩:=bind_ok evr
  cases evr
  have keep':∀ b o,H1 b=some o -> H' b=some o:=fun b o e=>x2.all (keep b o e)
  have I':=zbs (zce I ho) hD keep' (x2.all hDD) rfl
  refine zcU I' rx e1 (fun j hj=>ho j (ht j hj)) fun σ2 I2 fr=>⟨zdk fr ht,?_⟩
  refine step I2 e2 keep' (x2.all hDD) (fun eo H3 x3=>?_) fun y eo=>?_
  ·subst eo
   exact ⟨fun b o e=>x3.all (keep' b o e),ad,acc,r2,x3.all (x2.all hDD),(rep.ext x2 fun _ _ z=>z).ext x3 fun _ _ z=>z,e3,by simpa using er,fun i y u f1 f2=>stab _ _ _ _ _ (fun b o _ e=>x3.all (x2.all e)) (ek i y u f1 f2)⟩
  ·subst eo
   have hl:ad.length=acc.length:=rep.length
   have hr:r.length=ad.length+(1+r2.length):=by rw [<- er]; simp; omega
   refine ⟨by omega,fun v H4 x4 rv ey=>⟨fun b o e=>?_,ad ++ [y],acc ++ [v],r2,upd_same,?_,e3,by rw [<- er]; simp,fun i' y' u f1 f2=>?_⟩⟩
   ·have:=keep' b o e
    rw [upd_ne (ne_of_none e hD)]
    exact x4.all this
   ·have lw:Le (PPa F fun b=>A b \/ b=D) (PPa F fun b=>A b \/ b=D) H4 (upd H4 D (.lst (acc ++ [v]))) :=
     ⟨fun a u hu e=>by
      by_cases c:a=D
      ·subst c
       rw [x4.all (x2.all hDD)] at e; cases e; cases hu
      ·rw [upd_ne c]; exact e,fun a u _ p r=>by
      have c:a ≠ D:=fun z=>p.2 (.inr z)
      rcases r with r | ⟨ob,r⟩
      ·exact .inl (by rw [upd_ne c]; exact r)
      ·exact .inr ⟨ob,by rw [upd_ne c]; exact r⟩,fun a u _ p _=>p⟩
    exact Reps.mono lw (((rep.ext x2 fun _ _ z=>z).ext x4 fun _ _ z=>z).append (.cons rv .nil))
   ·by_cases c:i' < ad.length
    ·rw [List.getElem?_append_left c] at f1
     rw [List.getElem?_append_left (by omega)] at f2
     exact stab _ _ _ _ _ (fun b o nb e=>by rw [upd_ne nb]; exact x4.all (x2.all e)) (ek i' y' u f1 f2)
    ·have ei:i'=ad.length:=by
      have:=(List.getElem?_eq_some_iff.mp f1).1
      simp at this
      omega
     subst ei
     rw [List.getElem?_append_right (by omega),Nat.sub_self] at f1
     rw [List.getElem?_append_right (by omega),show ad.length - acc.length=0 by omega] at f2
     cases f1
     cases f2
     exact stab _ _ _ _ _ (fun b o nb e=>by rw [upd_ne nb]; exact e) ey
 ·have ei:i=xs.length:=by omega
  have hdr:xs.drop i=[]:=List.drop_eq_nil_iff.mpr (by omega)
  rw [hdr] at evr
  cases evr
  have er:ad=r:=by simpa using er
  subst er
  exact .inl ⟨it.stop H x1 i (by omega),q D acc H x1 hD hDD (rep.weak fun b z=>⟨⟨z.1,fun w=>z.2 (.inl w)⟩,fun w=>z.2 (.inr w)⟩) ek⟩
theorem c_run {X:Cx} {EX:List Str} {G:Str -> Option Pf.D} {Fnc:Fn} {n wf:Nat} {cls:Str -> Option Addr} {W:WX} {F:Fx} {fresh:Bool} {OL O:List Nat} {A Ab:Addr -> Prop} {σ0 σ:St} {ρ:Pf.Env} {H Hb:Hp} {D:Ends} {pr:Pf.D -> V -> Hp -> Prop} {On:Option (List Nat)} {st:List Stmt} {es:Es} {tg:Tg} {it:It} {own:List Nat}
  (hy:HyS X T EX G Fnc n cls W) (c:chkSs X.N T EX X.env.scope F.ios fresh OL O (.cons (.ret (.lc (.tup es) tg it own)) .nil) st=true) (I:EnvR X.K F O A σ ρ H) (fr:FrIO F σ0 σ)
  (hp:∀ d v H',(∀ k e,esAt es k=some e -> frx e=true -> CJ F.H0 H' d v k) -> pr d v H')
  (h:PostR (PostP X.K F fresh σ0 Ab Hb pr On OL D) (WOK cls W F) (evSs G Fnc wf (.cons (.ret (.lc (.tup es) tg it own)) .nil) ρ)):WSs X st D σ H:=by
 cases st <;> (try (simp [chkSs] at c; done))
 rename_i x xs
 rw [chkSs,Bool.and_eq_true] at c
 have c4:=c.1
 have hv0:∃ vo pos,x=.Return vo pos:=by cases x <;> first | exact ⟨_,_,rfl⟩ | exact (Bool.false_ne_true c4).elim
 obtain ⟨vo,pos,rfl⟩:=hv0
 obtain ⟨v,rfl⟩:∃ v,vo=some v:=by cases vo <;> first | exact ⟨_,rfl⟩ | exact (Bool.false_ne_true c4).elim
 have c7:(if fresh=true then chkE X.N T X.env.scope (less O (escE (.lc (.tup es) tg it own))) (.lc (.tup es) tg it own) v && kpIO F.ios (less O (escE (.lc (.tup es) tg it own))) && (frE T (.lc (.tup es) tg it own) || frV F.ios (less O (escE (.lc (.tup es) tg it own))) (.lc (.tup es) tg it own)) else chkE X.N T X.env.scope (less O (topV (.lc (.tup es) tg it own) ++ escE (.lc (.tup es) tg it own))) (.lc (.tup es) tg it own) v && kpIO F.ios (less O (topV (.lc (.tup es) tg it own) ++ escE (.lc (.tup es) tg it own))))=true:=c4
 obtain ⟨c5,c6⟩:chkE X.N T X.env.scope (less O (escE (.lc (.tup es) tg it own))) (.lc (.tup es) tg it own) v=true /\ kpIO F.ios (less O (escE (.lc (.tup es) tg it own)))=true:=by
  by_cases f:fresh=true
  ·rw [if_pos f] at c7
   simp only [Bool.and_eq_true] at c7
   exact c7.1
  ·rw [if_neg f,Bool.and_eq_true] at c7
   exact c7
 have h':PostR (PostP X.K F fresh σ0 Ab Hb pr On OL D) (WOK cls W F) ((((evI G Fnc it ρ).bind fun xs =>
   (R.nox (lcL tg (fun ρ=>(evE G Fnc (.tup es) ρ).bind fun y=>.ok (some y)) (wipeD ρ own) xs)).bind fun r=>R.when (decide (r.length <= sizeLine)) (R.ok (Pf.D.lst r))).bind fun x=>R.ok (Fl.ret x,ρ)).bind fun p=>match p.1 with
  | .next=>evSs G Fnc wf .nil p.2
  | f=>.ok (f,p.2)):=h
 cases v <;> (try (simp [chkE] at c5; done))
 rename_i xe gs scope p
 match gs,c5 with
 | [⟨tgx,itx,[],0⟩],c5 =>
  obtain ⟨A1,s1,I0⟩:=I.less _ c6
  generalize less O (escE (.lc (.tup es) tg it own))=O1 at c5 c6 I0
  rw [chkE] at c5
  simp only [Bool.and_eq_true] at c5
  obtain ⟨⟨⟨⟨⟨⟨k1,k2⟩,k3⟩,k4⟩,k5⟩,k6⟩,k7⟩:=c5
  obtain ⟨bk,eo⟩:=ze1 k2
  have ho:∀ i ∈ own,O1.contains i=false:=fun i hi=>by
   have:=List.all_eq_true.mp k3 i hi
   simpa using this
  have hset:∀ x,foldedSetIterable itx X.env x=pure x:=zaX (zbp k1)
  refine zay (pss_cons (ps_ret (pe_lc (g:=gTg X.K tg) hy.calm hy.nd pi_wi bk (fun s H C cl fp=>pg_tg (za3 hy.toHy s H scope C cl fp).calm (za3 hy.toHy s H scope C cl fp).nd (zdl rfl s H scope C cl fp) k5) (fun _ _ _ _ _=>pts_nil) (fun s H C cl fp=>pe_be s H C cl fp) hset)) zai) ?_
  show tLc (WI X tgx itx) (gTg X.K tg) tYes (BE X scope xe) ((ownP X.N own).map (·.2)) σ H _
  rw [eo]
  refine (allI it) hy.toHy hy.tk rfl k1 I0 (h'.bind.bind.bind.mono (fun xs hxs J H1 x1 itok=>?_) fun c hc=>zap I0 hc)
  obtain ⟨r,er,q⟩:=zdR (e:=WOK cls W F) hxs.bind
  obtain ⟨hz,q⟩:=PostR.when (e:=WOK cls W F) q
  have q:∀ v H',RetOK X.K F fresh σ0 (.lst r) ρ v H' -> pr (.lst r) v H' -> D.rt v H':=q
  have I1:=I0.step x1
  refine zp5 (Ek:=fun D y v H=>∀ ds,y=.tup ds -> ∀ k e zs,esAt es k=some e -> frx e=true -> ds[k]?=some (.lst zs) -> ∃ (t:Addr) (ws:List V) (b:Addr) (vs:List V),v=.ref t /\ t ≠ D /\ H t=some (.tup ws) /\ ws[k]?=some (.ref b) /\ H1 b=none /\ H b=some (.lst vs) /\ b ≠ D)
   (fun D y v H H' hh he ds e1 k e zs e2 e3 e4=>by
    obtain ⟨t,ws,b,vs,g1,g2,g3,g4,g5,g6,g7⟩:=he ds e1 k e zs e2 e3 e4
    exact ⟨t,ws,b,vs,g1,g2,hh t _ g2 g3,g4,g5,hh b _ g7 g6,g7⟩)
   (body:=fun ρ=>(evE G Fnc (.tup es) ρ).bind fun y=>.ok (some y)) I1 ho (tg_in k4) (itok Nix (fun _ z=>z.elim) (.inl fun _ z=>z)) (of_decide_eq_true hz) er (fun {A' σ2 ρ2 H2 o Nx D acc} I2 eb kp hD k1' k2'=>?_) fun a vs H' x2 hn ha rs ek=>?_
  ·obtain ⟨y,ey,eo'⟩:=bind_ok eb
   cases eo'
   simp only [tYes,↓reduceIte]
   obtain ⟨hl,k2'⟩:=k2' y rfl
   obtain ⟨ds,ed,ey2⟩:=bind_ok (show ((evEs G Fnc es ρ2).bind fun x=>R.when (decide (x.length <= sizeLine)) (R.ok (Pf.D.tup x)))=.ok y from ey)
   obtain ⟨wl,ey3⟩:=zae ey2
   cases ey3
   intro s H0 C cl fp
   cases xe <;> (try (simp [chkE] at k6; done))
   rename_i ys kk pp
   rw [chkE,Bool.and_eq_true] at k6
   refine we_of (pe_tup pa_wa) (zcM (X:=X.blk s H0 scope (compEnvC scope cl C X.env) fp) (W:=W0) (za3 hy.toHy s H0 scope C cl fp) ze0 rfl k6.1 I2 ?_)
   rw [ed]
   refine PostR.of fun ws H3 x3 rp _ nw=>?_
   have rr:=rp (by simpa using k6.2)
   refine ⟨by rw [<- rr.length]; exact of_decide_eq_true wl,fun pq hpq=>?_⟩
   have x4:Ext Nix H3 (upd H3 pq (.tup ws)):=Ext.new hpq
   refine ⟨acc,x4.all (x3.all hD),hl,k2' _ _ (x3.trans x4) (.tup upd_same (rr.ext x4 fun _ _ z=>z)) fun ds' e1 k e zs e2 e3 e4=>?_⟩
   cases e1
   obtain ⟨b,us,g1,g2,g3,g4⟩:=nw k e zs e2 e3 e4
   refine ⟨pq,ws,b,us,rfl,fun z=>?_,upd_same,g1,?_,x4.all g3,fun z=>?_⟩
   ·subst z
    rw [x3.all hD] at hpq; cases hpq
   ·cases e5:H1 b with
    | none=>rfl
    | some o=>rw [kp b o e5] at g2; cases g2
   ·subst z
    rw [hD] at g2; cases g2
  ·have I2:=I1.step x2
   have h0:=I1.noneH0 hn
   have np:=I1.newP hn
   refine q _ _ (zbF I2 fr c6 (.lst (.inl ha) (pf_of I2 np) (rs.weak fun b z=>pf_of I2 z.1)) fun _ _=>⟨a,rfl,h0,vs,ha,rs.weak fun b z=>⟨pf_of I2 z.1,z.2⟩⟩) (hp _ _ _ fun k e e1 e2 xs' e3=>?_)
   cases e3
   refine ⟨a,vs,rfl,h0,ha,fun i ds ys f1 f2=>?_⟩
   have hlt:i < vs.length:=by rw [<- rs.length]; exact (List.getElem?_eq_some_iff.mp f1).1
   obtain ⟨t,ws,b,us,g1,g2,g3,g4,g5,g6,g7⟩:=ek i _ vs[i] f1 (List.getElem?_eq_getElem hlt) ds rfl k e ys e1 e2 f2
   exact ⟨t,ws,b,us,by rw [List.getElem?_eq_getElem hlt,g1],g3,g4,I1.noneH0 g5,g6,g7⟩
theorem cJ_of {m:Ss} {k:Nat} (h:cJ m k=true):∃ es tg it own e,m=.cons (.ret (.lc (.tup es) tg it own)) .nil /\ esAt es k=some e /\ frx e=true:=by
 unfold cJ at h
 split at h
 ·rw [Bool.and_eq_true] at h
  obtain ⟨h1,h2⟩:=h
  obtain rfl:=zc3 h1
  split at h2
  ·split at h2
   ·split at h2
    ·split at h2
     ·rename_i e ee
      exact ⟨_,_,_,_,e,rfl,ee,h2⟩
     ·cases h2
    ·cases h2
   ·cases h2
  ·cases h2
 ·cases h
theorem zf5:∀ (m:Ss) {j j2 p:Nat},newJ T m j=true -> argJ m j2 p=true -> False
 | .cons s r,j,j2,p,h,h2=>by
  rcases zbG h2 with ⟨_,h3⟩ | ⟨es,rfl,rfl,_⟩
  ·exact zf5 r (za6 h).2 h3
  ·exact Bool.false_ne_true (za6 h).2
 | .reb ..,_,_,_,_,h2=>Bool.false_ne_true h2
 | .nil,_,_,_,h,_=>Bool.false_ne_true h
 | .two ..,_,_,_,h,_=>Bool.false_ne_true h
 | .yng ..,_,_,_,h,_=>Bool.false_ne_true h
theorem zmY {X:Cx} {EX:List Str} {G:Str -> Option Pf.D} {Fnc:Fn} {n wf:Nat} {cls:Str -> Option Addr} {W:WX} {F:Fx} {fresh:Bool} {OL O:List Nat} {A Ab:Addr -> Prop} {σ0 σ:St} {ρ:Pf.Env} {H Hb:Hp} {D:Ends} {as:List Pf.D} {ws:List V} {np:Nat} (hy:HyS X T EX G Fnc n cls W) (m:Ss) {st:List Stmt}
  (c:chkSs X.N T EX X.env.scope F.ios fresh OL O m st=true) (I:EnvR X.K F O A σ ρ H) (ev:Ev Ab Hb A H) (fr:FrIO F σ0 σ) (hS:∀ p,p < np -> ∃ d u,as[p]?=some d /\ ρ[p]?=some (some d) /\ ws[p]?=some u /\ σ[p]?=some (some u))
  (h:PostR (PostP X.K F fresh σ0 Ab Hb (fun d v H'=>Prom T m np as ws F.H0 H' d v) (ownSs T m O) OL D) (WOK cls W F) (evSs G Fnc wf m ρ)):WSs X st D σ H:=by
 by_cases h1:∃ j,newJ T m j=true
 ·refine zex hy _ m (Nat.le_refl _) h1 c I ev fr (fun d v H' q=>⟨q,fun j p _ hj=>?_,fun k hk=>?_,fun j p _ hj=>?_⟩) rfl h
  ·obtain ⟨j0,h0⟩:=h1
   exact (zf5 m h0 hj).elim
  ·obtain ⟨es,tg,it,own,e,rfl,_⟩:=cJ_of hk
   obtain ⟨j0,h0⟩:=h1
   exact (Bool.false_ne_true (za6 h0).2).elim
  ·obtain ⟨j0,h0⟩:=h1
   exact (zf5 m h0 hj).elim
 ·by_cases h2:∃ j p,argJ m j p=true
  ·refine zeu (S:=List.range np) (as:=as) (ws:=ws) hy _ m (Nat.le_refl _) h2 c I ev fr (fun p hp=>hS p (List.mem_range.mp hp)) (fun d v H' tp q=>⟨fun j hj=>absurd ⟨j,hj⟩ h1,fun j p hp hj=>q j p (List.mem_range.mpr hp) hj,fun k hk=>?_,fun _ _ _ _=>tp⟩) rfl h
   obtain ⟨es,tg,it,own,e,rfl,_⟩:=cJ_of hk
   obtain ⟨j,p,h3⟩:=h2
   rcases zbG h3 with ⟨z,_⟩ | ⟨_,z,_⟩
   ·exact (Bool.false_ne_true z).elim
   ·cases z
  ·by_cases h3:∃ k,cJ m k=true
   ·obtain ⟨k0,h0⟩:=h3
    obtain ⟨es,tg,it,own,e,rfl,_⟩:=cJ_of h0
    refine c_run hy c I fr (fun d v H' q=>⟨fun j hj=>absurd ⟨j,hj⟩ h1,fun j p _ hj=>absurd ⟨j,p,hj⟩ h2,fun k hk=>?_,fun j p _ hj=>absurd ⟨j,p,hj⟩ h2⟩) h
    obtain ⟨es',tg',it',own',e',e1,e2,e3⟩:=cJ_of hk
    cases e1
    exact q k e' e2 e3
   ·refine allSs m hy c I ev fr (h.mono (fun p hp=>?_) fun _ z=>z)
    obtain ⟨f,ρ1⟩:=p
    cases f with
    | next=>exact hp
    | brk=>exact hp
    | cont=>exact hp
    | ret d=>exact fun v H' rk=>hp v H' rk ⟨fun j hj=>absurd ⟨j,hj⟩ h1,fun j p _ hj=>absurd ⟨j,p,hj⟩ h2,fun k hk=>absurd ⟨k,hk⟩ h3,fun j p _ hj=>absurd ⟨j,p,hj⟩ h2⟩
end
section
variable {P:Program} {w:World} {K:PySem.W.Frag} {mg:Str -> Option Value} {base:Heap} {T:List Def} {EX:List Str} {G:Str -> Option D} {cls:Str -> Option Addr}
theorem zfi {f:Str} {d:Def} (h:findD T f=some d):d ∈ T /\ d.name=f:=by
 unfold findD at h
 refine ⟨List.mem_of_find?_eq_some h,?_⟩
 have:=List.find?_some h
 simpa using this
theorem zhk {ρ:Env} {io:List Nat} {k i:Nat} {o:D} (hk:io[k]?=some i) (ho:(outs ρ io)[k]?=some o) (m:o.mut=true):ρ[i]?=some (some o):=by
 unfold outs at ho
 rw [List.getElem?_map,hk] at ho
 have ho:((ρ[i]?).getD none).getD .non=o:=by simpa using ho
 cases e:ρ[i]? with
 | none=>rw [e] at ho; subst ho; cases m
 | some x =>
  cases x with
  | none=>rw [e] at ho; subst ho; cases m
  | some y=>rw [e] at ho; have:y=o:=ho; rw [this]
theorem zoz (tk:TabK K mg T EX G cls) (wf:Nat):∀ (n:Nat) {f q:Str} {d:Def} {st:Stmt} {a:Addr} {fd:FuncData},findD T f=some d -> Fun K q q st a fd -> FnScope d.N d.ps (defScope st) -> chkD T EX d st=true -> FnOk P w K mg base (L2.CX P w) n a fd d.ps (spD T K cls (evF G T wf n) f d)
  | 0,f,q,d,st,a,fd,hf,F1,s1,c1=>by
    refine ⟨fun vs H Q E h=>?_,fun A outer s H args us vs Q E _ _ _ _ h=>?_⟩
    · obtain ⟨ds,P0,IO,A,I,hl,h⟩:=h
      exact hl
    · obtain ⟨ds,P0,IO,A,I,hl,h⟩:=h
      exact h.elim
  | n+1,f,qn,d,st,a,fd,hf,F1,s1,c1=>by
    have ih:∀ (f:Str) (d:Def),findD T f=some d -> isTab d=false -> ∃ a fd,mg f=some (.ref a) /\ PySem.W.keepIn K (.ref a)=true /\ Binds K fd d.ps [] /\ FnOk P w K mg base (L2.CX P w) n a fd d.ps (spD T K cls (evF G T wf n) f d):=fun f d hf ht=>by
      obtain ⟨hm,en⟩:=zfi hf
      obtain ⟨_,st,a,fd,F1,m1,b1,s1,c1⟩:=(tk.defs d hm ht).st
      rw [en] at m1
      exact ⟨a,fd,m1,F1.kp,b1,zoz tk wf n hf F1 s1 c1⟩
    refine F1.okX s1 (fun vs H Q E h=>?_) (fun cdv A outer s H vs Q E hr h=>?_)
    · obtain ⟨ds,P0,IO,A,I,hl,h⟩:=h
      exact hl
    · obtain ⟨ds,P0,IO,A0,I,hl,h⟩:=h
      unfold chkD at c1
      rw [Bool.and_eq_true,Bool.and_eq_true] at c1
      have hlen:ds.length=d.ps.length:=by rw [<- hl]; have:=I.len; simpa using this.symm
      have ev:evF G T wf (n+1) f ds=endOf d.io (evSs G (evF G T wf n) wf d.body (zaJ d.N.length ds)):=by
        rw [evF]
        have:(T.find? fun d=>d.name == f)=some d:=hf
        rw [this]
        show (if (ds.length == d.ps.length)=true then _ else _)=_
        rw [if_pos (by rw [hlen]; exact beq_self_eq_true _)]
      rw [ev] at h
      have hyS:HyS (cxOf (L2.CX P w) P w K mg base d.N qn (defScope st) a cdv A outer s H E) T EX G (evF G T wf n) n cls (fun C dd _ H'=>E C dd H') :=
        { calm:=rfl,nd:=s1.nd,room:=hr,glob:=tk.glob,blt:=tk.blt,
          flen:=fun g d' ds' hg hne=>by
            cases n with
            | zero=>exact absurd rfl hne
            | succ n =>
              rw [evF] at hne
              have:(T.find? fun d=>d.name == g)=some d':=hg
              rw [this] at hne
              by_cases c:ds'.length=d'.ps.length
              · exact c
              · exfalso
                apply hne
                simp [c]
          tab:=fun g d' hg ht=>by
            obtain ⟨hm,en⟩:=zfi hg
            rw [<- en]
            exact tk.tabs d' hm ht
          fn:=ih,tk:=takes_of rfl rfl rfl rfl,po:=passes_of rfl,tg:=⟨fun x h=>h,fun x h=>⟨h,rfl⟩⟩,kind:=s1.kind,tst:=tk.tst,excC:=tk.excC,fr:=⟨rfl,rfl⟩,
          mks:=fun c hc hg hd=>by
            obtain ⟨C,eC,q⟩:=tk.exc c hc
            obtain ⟨B,newId,initId,bmB,FB,hq⟩:=q.q
            exact ⟨C,eC,fun pn xe m j p p2 pos=>pmk_own FB hq q.gC q.kC (raises_own q.ex q.ty) hg hd⟩ }
      refine ⟨WSs _ (defBody st),zai,?_⟩
      refine zmY (as:=ds) (ws:=vs) (np:=d.ps.length) hyS d.body (F:=⟨P0,H,IO,d.io⟩) (Ab:=A0) (Hb:=H) (σ0:=start d.N vs) (wf:=wf) c1.1.1 (zkh I) Ev.refl (fun _ _=>rfl) (fun p hp=>?_) ?_
      · have hd:p < ds.length:=by omega
        have hv:p < vs.length:=by omega
        refine ⟨ds[p],vs[p],List.getElem?_eq_getElem hd,?_,List.getElem?_eq_getElem hv,?_⟩
        · unfold zaJ
          rw [List.getElem?_append_left (by simpa using hd),List.getElem?_map,List.getElem?_eq_getElem hd]; rfl
        · unfold start
          rw [List.getElem?_append_left (by simpa using hv),List.getElem?_map,List.getElem?_eq_getElem hv]; rfl
      cases er:evSs G (evF G T wf n) wf d.body (zaJ d.N.length ds) with
      | bad=>rw [er] at h; exact h.elim
      | exc c =>
        rw [er] at h
        cases hio:d.io with
        | cons _ _=>rw [hio] at h; exact h.elim
        | nil =>
          rw [hio] at h
          exact fun C σ H' e x=>h C H' e x
      | ok p =>
        obtain ⟨fl,ρ'⟩:=p
        rw [er] at h
        cases fl with
        | brk=>exact h.elim
        | cont=>exact h.elim
        | ret dv =>
          refine PostR.of fun v H' rk pm=>h v H' rk.ext rk.rep rk.new (fun _=>pm) fun k i o b hk ho m hv=>?_
          refine rk.io i (List.mem_of_getElem? hk) o b (zhk hk ho m) m ?_
          unfold start
          have:i < (vs.map some).length:=by
            have:=(List.getElem?_eq_some_iff.mp hv).1
            simpa using this
          rw [List.getElem?_append_left this,List.getElem?_map,hv]
          rfl
        | next =>
          refine PostR.of fun O' eO σ' H' A' I' ev' fr'=>?_
          have hkp:kpIO d.io O'=true:=by
            have:=c1.1.2
            rw [eO] at this
            exact this
          have rk:RetOK K ⟨P0,H,IO,d.io⟩ d.fresh (start d.N vs) .non ρ' .non H':=zbF I' fr' hkp .non fun _=>FreshR.flat rfl
          refine h .non H' rk.ext rk.rep rk.new (fun _=>⟨(fun j _ ds xs e=>by cases e),(fun j p _ _ ds xs e=>by cases e),(fun k _ xs e=>by cases e),fun j p _ hj=>?_⟩) fun k i o b hk ho m hv=>?_
          · rw [zc4 d.body hj] at eO; cases eO
          · refine rk.io i (List.mem_of_getElem? hk) o b (zhk hk ho m) m ?_
            unfold start
            have:i < (vs.map some).length:=by
              have:=(List.getElem?_eq_some_iff.mp hv).1
              simpa using this
            rw [List.getElem?_append_left this,List.getElem?_map,hv]
            rfl
def spLaw (K:PySem.W.Frag):Sp:=fun vs H Q _=>∃ (a:Addr) (ns:List Int),vs=[.ref a] /\ SqL K H a (ns.map V.int) /\ ns.length <= 63 /\ ∀ H',Q (.bl true) H'
theorem zr0 (tk:TabK K mg T EX G cls) {wf k:Nat} {f x:Str} {d:Def} {st:Stmt} {a:Addr} {fd:FuncData} (hf:findD T f=some d) (hps:d.ps=[x]) (hio:d.io=[]) (F1:Fun K f f st a fd) (s1:FnScope d.N d.ps (defScope st)) (c1:chkD T EX d st=true)
  (ans:∀ ns:List Int,ns.length <= 63 -> evF G T wf k f [.lst (ns.map .int)]=.ok (.bl true,[])):FnOk P w K mg base (L2.CX P w) k a fd [x] (spLaw K):=by
 have F1:=zoz (P:=P) (w:=w) (base:=base) tk wf k hf F1 s1 c1
 rw [hps] at F1
 refine F1.imp fun vs H Q E h=>?_
 obtain ⟨a0,ns,rfl,hS,hl,q⟩:=h
 have r:Rep K H (fun _=>True) (.lst (ns.map .int)) (.ref a0):=by
  rcases hS with h | h
  ·exact .lst h trivial (Reps.ints ns)
  ·exact .lstK h (Reps.ints ns)
 have I:EnvR K ⟨fun _=>True,H,[],d.io⟩ d.io Nix ([V.ref a0].map some) ([D.lst (ns.map .int)].map some) H:=by rw [hio]; exact zbS (.cons r .nil)
 refine ⟨_,_,_,_,I,by rw [hps]; rfl,?_⟩
 rw [ans ns hl]
 intro v H' _ rv _ _ _
 cases rv
 exact q H'
end
end L2.Pf
namespace L2.Pf
open PySem PySem.Spec PyProof.Rows
section
variable {G:Str -> Option D} {F:Fn} {T:List Def} {wf n:Nat} {ρ:Env}
theorem zd1 {α β:Type} (a:α) (f:α -> R β):(R.ok a).bind f=f a:=by rfl
theorem zp6 {α β:Type} (c:Str) (f:α -> R β):(R.exc c:R α).bind f=.exc c:=by rfl
theorem zfj {α:Type} (r:R α):R.when true r=r:=by rfl
theorem zaW {α:Type} {c:Bool} {r:R α} (h:c=true):R.when c r=r:=by rw [h]; rfl
theorem of_s {α:Type} (a:α):R.of (some a)=.ok a:=by rfl
theorem zfk (d:D) (r:Env):getV (some d :: r) 0=.ok d:=by rfl
theorem zfl (o:Option D) (r:Env) (i:Nat):getV (o :: r) (i+1)=getV r i:=by simp [getV]
theorem evF_s {f:Str} {ds:List D} {d:Def} (h:findD T f=some d) (hl:ds.length=d.ps.length):evF G T wf (n+1) f ds=endOf d.io (evSs G (evF G T wf n) wf d.body (zaJ d.N.length ds)):=by
 rw [evF]
 have:(T.find? fun d=>d.name == f)=some d:=h
 rw [this]
 show (if (ds.length == d.ps.length)=true then _ else _)=_
 rw [if_pos (by rw [hl]; exact beq_self_eq_true _)]
theorem dadd (i j:Int):dBin .add (.int i) (.int j)=.ok (.int (i+j)):=by rfl
theorem dsub (i j:Int):dBin .sub (.int i) (.int j)=.ok (.int (i - j)):=by rfl
theorem dmul {i j:Int} (h:mulOk i j=true):dBin .mul (.int i) (.int j)=.ok (.int (i * j)):=zaW h
theorem ddiv {i j:Int} (h:divOk j=true):dBin .div (.int i) (.int j)=.ok (.int (i / j)):=zaW h
theorem dmod {i j:Int} (h:0 < j):dBin .mod (.int i) (.int j)=.ok (.int (i % j)):=zaW (decide_eq_true h)
theorem dneg (i:Int):L2.Pf.dNeg (.int i)=.ok (.int (-i)):=by rfl
theorem deq (i j:Int):dCmp .eq (.int i) (.int j)=.ok (decide (i=j)):=by rfl
theorem dne (i j:Int):dCmp .ne (.int i) (.int j)=.ok (!decide (i=j)):=by rfl
theorem dlt (i j:Int):dCmp .lt (.int i) (.int j)=.ok (decide (i < j)):=by rfl
theorem dle (i j:Int):dCmp .le (.int i) (.int j)=.ok (decide (i <= j)):=by rfl
theorem dgt (i j:Int):dCmp .gt (.int i) (.int j)=.ok (decide (j < i)):=by rfl
theorem dge (i j:Int):dCmp .ge (.int i) (.int j)=.ok (decide (j <= i)):=by rfl
theorem zfm (b:Bool):zac (.bl b)=.ok b:=by rfl
theorem zdu (i:Int):zac (.int i)=.ok (i != 0):=by rfl
theorem zdv (xs:List D):zac (.lst xs)=.ok (!xs.isEmpty):=by rfl
theorem dint (i:Int):dInt (.int i)=.ok i:=by rfl
theorem zck (xs:List D):biEv .len [.lst xs]=.ok (.int xs.length):=by rfl
theorem zcl (xs:List D):biEv .len [.tup xs]=.ok (.int xs.length):=by rfl
theorem dmax2 (m n:Int):biEv .max2 [.int m,.int n]=.ok (.int (if n > m then n else m)):=by rfl
theorem dmin2 (m n:Int):biEv .min2 [.int m,.int n]=.ok (.int (if n < m then n else m)):=by rfl
theorem zcm (d:D) (ρ:Env) (io:List Nat):endOf io (.ok (.ret d,ρ))=.ok (d,outs ρ io):=by rfl
theorem zc5 (ρ:Env) (io:List Nat):endOf io (.ok (.next,ρ))=.ok (.non,outs ρ io):=by rfl
theorem zcn (ρ:Env):outs ρ []=[]:=by rfl
theorem zbj (d:D) (ds:List D) (n:Nat):zaJ (n+1) (d :: ds)=some d :: zaJ n ds:=by simp [zaJ]
theorem zbH (n:Nat):zaJ n []=List.replicate n none:=by simp [zaJ]
theorem zbI {xs:List D} {i:Int} {d:D} (h:atI xs i=some d):dIdx (.lst xs) (.int i)=.ok d:=by
 show R.of (atI xs i)=_
 rw [h]; rfl
theorem zbc {xs:List D} {i:Int} {d:D} (h:atI xs i=some d):dIdx (.tup xs) (.int i)=.ok d:=by
 show R.of (atI xs i)=_
 rw [h]; rfl
end
theorem zmZ {i j:Int} (a b:Nat) (h1:i.natAbs < 2 ^ a) (h2:j.natAbs < 2 ^ b) (h:a+b <= 1000000:=by decide):mulOk i j=true:=by
 unfold mulOk
 by_cases c1:i.natAbs < 2 ^ 64
 ·rw [decide_eq_true c1]; rfl
 ·by_cases c2:j.natAbs < 2 ^ 64
  ·rw [decide_eq_true c2]; simp
  ·have l1:i.natAbs.log2 < a:=(Nat.log2_lt (by intro z; rw [z] at c1; exact c1 (by decide))).mpr h1
   have l2:j.natAbs.log2 < b:=(Nat.log2_lt (by intro z; rw [z] at c2; exact c2 (by decide))).mpr h2
   rw [decide_eq_true (show i.natAbs.log2+j.natAbs.log2 < 1000000 by omega)]
   simp
end L2.Pf
namespace L2.Pf
open PySem PySem.Spec PyProof.Rows
theorem zfn:dBin .pow (.int 10) (.int 60)=.ok (.int (10 ^ 60)):=by rfl
theorem zfo:dBin .pow (.int 10) (.int 59)=.ok (.int (10 ^ 59)):=by rfl
theorem zfp:dBin .pow (.int 10) (.int 30)=.ok (.int (10 ^ 30)):=by rfl
theorem atI_nat {α:Type} {xs:List α} {k:Nat} (h:k < xs.length):atI xs (k:Int)=some xs[k]:=by
 unfold atI ixN
 rw [if_pos (by omega),if_pos (by omega)]
 show xs[(k:Int).toNat]?=_
 rw [Int.toNat_natCast,List.getElem?_eq_getElem h]
theorem set_0 (o:Option D) (r:Env) (d:Option D):(o :: r).set 0 d=d :: r:=by rfl
theorem set_s (o:Option D) (r:Env) (d:Option D) (i:Nat):(o :: r).set (i+1) d=o :: r.set i d:=by rfl
theorem zco (i:Nat) (d:D) (ρ:Env):setT (.one i) d ρ=.ok (ρ.set i (some d)):=by rfl
theorem za7 (i:Int):isiD (.int i) [.int]=.ok true:=by rfl
theorem zaU (i:Int):isiD (.int i) [.bool]=.ok false:=by rfl
end L2.Pf
namespace L2.Pf
open PySem PySem.Spec PyProof.Rows
end L2.Pf
namespace L2.Pf
open PySem PySem.Spec PyProof.Rows
abbrev pr (p:Int × Int):D:=.tup [.int p.1,.int p.2]
theorem pr0 (p:Int × Int):dIdx (.tup [.int p.1,.int p.2]) (.int 0)=.ok (.int p.1):=by rfl
theorem pr1 (p:Int × Int):dIdx (.tup [.int p.1,.int p.2]) (.int 1)=.ok (.int p.2):=by rfl
theorem zp7 (xs:List D):isiD (.tup xs) [.tuple]=.ok true:=by rfl
theorem zp8 (xs:List D):isiD (.lst xs) [.list]=.ok true:=by rfl
theorem zm0 (b:Bool):isiD (.bl b) [.bool]=.ok true:=by rfl
end L2.Pf
namespace L2.Pf
open PySem PySem.Spec PyProof.Rows
end L2.Pf
namespace L2.Pf
open PySem PySem.Spec PyProof.Rows
theorem zr1 {i j c:Int} (h1:-1000000 <= i) (h2:i <= 1000000) (h3:-1000000 <= j) (h4:j <= 1000000) (h5:0 < c) (h6:c <= 1000):rgcOk i j c=true:=by
 have hr:0 <= Builtin.Range.rangeSize i j c /\ Builtin.Range.rangeSize i j c <= 2000001:=by
  unfold Builtin.Range.rangeSize
  rw [if_pos h5]
  split
  ·have e1:=Int.ediv_nonneg (show 0 <= j - i - 1 by omega) (show 0 <= c by omega)
   have e2:=Int.ediv_le_self (a:=j - i - 1) c (by omega)
   omega
  ·omega
 unfold rgcOk
 have hs:Builtin.Range.small i j c=true:=by
  unfold Builtin.Range.small
  generalize Builtin.Range.rangeSize i j c=z at hr
  simp only [Builtin.Range.rangeFitsLong,Bool.and_eq_true,Bool.or_eq_true,decide_eq_true_eq,beq_iff_eq,show c > 0 from h5,if_true]
  omega
 rw [hs,decide_eq_true hr.1,decide_eq_true (show c ≠ 0 by omega),decide_eq_true (show c.natAbs < 1073741824 by omega)]
 rfl
end L2.Pf
namespace L2.Pf
open PySem PySem.Spec PyProof.Rows
section
variable (G:Str -> Option D) (F:Fn) (wf:Nat) (ρ:Env)
theorem zkl (i:Nat):evE G F (.var i) ρ=getV ρ i:=by rfl
theorem zf6 (x:Str):evE G F (.glob x) ρ=R.of (G x):=by rfl
theorem zkm (n:Int):evE G F (.int n) ρ=.ok (.int n):=by rfl
theorem zkn (n:Str):evE G F (.str n) ρ=.ok (.str n):=by rfl
theorem ev_bl (n:Bool):evE G F (.bl n) ρ=.ok (.bl n):=by rfl
theorem zko:evE G F .non ρ=.ok .non:=by rfl
theorem zkp (op:BOp) (a b:E):evE G F (.bin op a b) ρ=(evE G F a ρ).bind fun x=>(evE G F b ρ).bind fun y=>dBin op x y:=by rfl
theorem zkq (a:E):evE G F (.neg a) ρ=(evE G F a ρ).bind fun x=>L2.Pf.dNeg x:=by rfl
theorem zkr (a:E):evE G F (.not a) ρ=(evE G F a ρ).bind fun x=>(zac x).bind fun b=>.ok (.bl (!b)):=by rfl
theorem zks (op:COp) (a b:E):evE G F (.cmp op a b) ρ=(evE G F a ρ).bind fun x=>(evE G F b ρ).bind fun y=>(dCmp op x y).bind fun c=>.ok (.bl c):=by rfl
theorem zey (o p:COp) (a b c:E):evE G F (.chain o p a b c) ρ=(evE G F a ρ).bind fun x=>(evE G F b ρ).bind fun y=>(dCmp o x y).bind fun k =>
   if k=true then (evE G F c ρ).bind fun z=>(dCmp p y z).bind fun k=>.ok (.bl k) else .ok (.bl false):=rfl
theorem zkt (es:Es):evE G F (.and es) ρ=evAnd G F es ρ:=by rfl
theorem ev_or (es:Es):evE G F (.or es) ρ=evOr G F es ρ:=by rfl
theorem zku (es:Es):evE G F (.tup es) ρ=(evEs G F es ρ).bind fun x=>R.when (decide (x.length <= sizeLine)) (.ok (.tup x)):=by rfl
theorem zkv (es:Es):evE G F (.lst es) ρ=(evEs G F es ρ).bind fun x=>R.when (decide (x.length <= sizeLine)) (.ok (.lst x)):=by rfl
theorem zkw (a k:E):evE G F (.rep a k) ρ=(evE G F a ρ).bind fun x=>(evE G F k ρ).bind fun y=>dRep x y:=by rfl
theorem ev_dK:evE G F .dnewK ρ=.ok (.dK []):=by rfl
theorem ev_dT:evE G F .dnewT ρ=.ok (.dT []):=by rfl
theorem zkx (a i:E):evE G F (.idx a i) ρ=(evE G F a ρ).bind fun x=>(evE G F i ρ).bind fun y=>dIdx x y:=by rfl
theorem zf7 (a:E):evE G F (.slcA a) ρ=(evE G F a ρ).bind fun x=>zaH x none none:=by rfl
theorem zf8 (a lo:E):evE G F (.slcL a lo) ρ=(evE G F a ρ).bind fun x=>(evE G F lo ρ).bind fun y=>(dInt y).bind fun i=>zaH x (some i) none:=by rfl
theorem zf9 (a hi:E):evE G F (.slcH a hi) ρ=(evE G F a ρ).bind fun x=>(evE G F hi ρ).bind fun y=>(dInt y).bind fun i=>zaH x none (some i):=by rfl
theorem zga (a lo hi:E):evE G F (.slcB a lo hi) ρ=(evE G F a ρ).bind fun x=>(evE G F lo ρ).bind fun y=>(dInt y).bind fun i=>(evE G F hi ρ).bind fun z=>(dInt z).bind fun j=>zaH x (some i) (some j):=by rfl
theorem zgb (f:Str) (args:Es) (im:Bool):evE G F (.call f args im) ρ=(evEs G F args ρ).bind fun x=>(F f x).bind fun r=>R.when (r.2.isEmpty && (!im || r.1.imm)) (.ok r.1):=by rfl
theorem ev_bi (b:Bi) (args:Es):evE G F (.bi b args) ρ=(evEs G F args ρ).bind fun x=>biEv b x:=by rfl
theorem ev_me (m:Me) (o:E) (args:Es):evE G F (.me m o args) ρ=(evE G F o ρ).bind fun x=>R.when (meOk m x) ((evEs G F args ρ).bind fun y=>meEv m x y):=by rfl
theorem zky (a:E) (t:Ty):evE G F (.isi a t) ρ=(evE G F a ρ).bind fun x=>(isiD x [t]).bind fun b=>.ok (.bl b):=by rfl
theorem zgc (a:E) (ts:List Ty):evE G F (.isiL a ts) ρ=(evE G F a ρ).bind fun x=>(isiD x ts).bind fun b=>.ok (.bl b):=by rfl
theorem zgd:evSs G F wf .nil ρ=.ok (.next,ρ):=by rfl
theorem zez (s:S) (r:Ss):evSs G F wf (.cons s r) ρ=(evS G F wf s ρ).bind fun p=>match p.1 with
  | .next=>evSs G F wf r p.2
  | f=>.ok (f,p.2):=by rfl
theorem zge:evEs G F .nil ρ=.ok []:=by rfl
theorem zeA (e:E) (es:Es):evEs G F (.cons e es) ρ=(evE G F e ρ).bind fun x=>(evEs G F es ρ).bind fun y=>.ok (x :: y):=by rfl
theorem zkz (e:E):evAnd G F (.cons e .nil) ρ=evE G F e ρ:=by rfl
theorem zgf (e f:E) (r:Es):evAnd G F (.cons e (.cons f r)) ρ=(evE G F e ρ).bind fun x=>(zac x).bind fun c=>if c=true then evAnd G F (.cons f r) ρ else .ok x:=by rfl
theorem zkA (e:E):evOr G F (.cons e .nil) ρ=evE G F e ρ:=by rfl
theorem zgg (e f:E) (r:Es):evOr G F (.cons e (.cons f r)) ρ=(evE G F e ρ).bind fun x=>(zac x).bind fun c=>if c=true then .ok x else evOr G F (.cons f r) ρ:=by rfl
theorem zkB (i:Nat) (e:E):evS G F wf (.asg i e) ρ=(evE G F e ρ).bind fun x=>.ok (.next,ρ.set i (some x)):=by rfl
theorem zgh (is:List Nat) (e:E):evS G F wf (.asgT is e) ρ=(evE G F e ρ).bind fun x=>(setT (.many is) x ρ).bind fun ρ=>.ok (.next,ρ):=by rfl
theorem zgi (i:Nat) (ix e:E):evS G F wf (.setI i ix e) ρ=(evE G F e ρ).bind fun x=>(getV ρ i).bind fun o=>(evE G F ix ρ).bind fun k=>(dSet o k x).bind fun d=>.ok (.next,ρ.set i (some d)):=by rfl
theorem zgj (e:E):evS G F wf (.expr e) ρ=(evE G F e ρ).bind fun _=>.ok (.next,ρ):=by rfl
theorem zkC (c:E) (a b:Ss):evS G F wf (.ifs c a b) ρ=((evE G F c ρ).bind fun x=>zac x).bind fun x=>if x=true then evSs G F wf a ρ else evSs G F wf b ρ:=by rfl
theorem zkD (e:E):evS G F wf (.ret e) ρ=(evE G F e ρ).bind fun x=>.ok (.ret x,ρ):=by rfl
theorem zgk:evS G F wf .cont ρ=.ok (.cont,ρ):=by rfl
theorem zgl:evS G F wf .pass ρ=.ok (.next,ρ):=by rfl
theorem zeB (c:Str):evS G F wf (.raise c) ρ=.exc c:=by rfl
variable {G F wf ρ}
end
end L2.Pf
namespace L2.Pf
open PySem PySem.Spec PyProof.Rows
theorem mulL {i j:Int} (h:i.natAbs < 2 ^ 64):mulOk i j=true:=by unfold mulOk; rw [decide_eq_true h]; rfl
theorem mulR {i j:Int} (h:j.natAbs < 2 ^ 64):mulOk i j=true:=by unfold mulOk; rw [decide_eq_true h]; simp
theorem zc6 (ns:List Int):D.pys (ns.map .int)=ns.map .int:=by
 rw [zcx,List.map_map]; rfl
end L2.Pf
namespace L2.Pf
open PySem PySem.Spec PyProof.Rows
theorem zhl {a b:List D} (h:a.length+b.length <= 16777216):dBin .add (.tup a) (.tup b)=.ok (.tup (a ++ b)):=zaW (decide_eq_true (by rw [sizeLine_eq]; exact h))
theorem zm1 {a b:List D} (h:a.length+b.length <= 16777216):dBin .add (.lst a) (.lst b)=.ok (.lst (a ++ b)):=zaW (decide_eq_true (by rw [sizeLine_eq]; exact h))
theorem zh5 (ρ:Env) (v:Nat) (vs:List Nat):wipeD ρ (v :: vs)=(wipeD ρ vs).set v none:=by rfl
theorem zkE (ρ:Env):wipeD ρ []=ρ:=by rfl
theorem zp9 (xs:List D):seqD (.lst xs)=.ok xs:=by rfl
theorem zqa (xs:List D):seqD (.tup xs)=.ok xs:=by rfl
theorem zm2 (i j:Nat) (a b:D) (ρ:Env):setT (.many [i,j]) (.tup [a,b]) ρ=.ok ((ρ.set i (some a)).set j (some b)):=by rfl
end L2.Pf
namespace L2.Pf
open PySem PySem.Spec PyProof.Rows
theorem zr2 {α:Type} (xs:List α) {k:Int} (h:0 <= k):cut xs none (some k)=xs.take k.toNat:=by
 show (xs.drop 0).take ((if k < 0 then (k+(xs.length:Int)).toNat else min k.toNat xs.length) - 0)=_
 rw [if_neg (by omega),List.drop_zero,Nat.sub_zero]
 by_cases c:k.toNat <= xs.length
 ·rw [Nat.min_eq_left c]
 ·rw [Nat.min_eq_right (by omega),List.take_of_length_le (Nat.le_refl _),List.take_of_length_le (by omega)]
end L2.Pf
namespace L2.Pf
open PySem PySem.Spec PyProof.Rows
theorem zfq:dBin .pow (.int 10) (.int 29)=.ok (.int (10 ^ 29)):=by rfl
theorem zfr (a b:Bool):dCmp .is (.bl a) (.bl b)=.ok (decide (a=b)):=by rfl
theorem zbJ (a b:Bool):dCmp .isnot (.bl a) (.bl b)=.ok (!decide (a=b)):=by rfl
theorem zfs (a b:Bool):dCmp .eq (.bl a) (.bl b)=.ok (a == b):=by cases a <;> cases b <;> rfl
theorem zft (a b:Bool):dCmp .ne (.bl a) (.bl b)=.ok (!(a == b)):=by cases a <;> cases b <;> rfl
end L2.Pf
namespace L2.Pf
open PySem PySem.Spec PyProof.Rows
structure Wp {α:Type} (r:R α) (Q:α -> Prop) (X:Str -> Prop):Prop where
 h:(match r with | .ok a=>Q a | .exc c=>X c | .bad=>False)
abbrev NoX:Str -> Prop:=fun _=>False
section
variable {α β:Type} {Q:α -> Prop} {X:Str -> Prop}
theorem wp_ok (a:α):Wp (.ok a) Q X=Q a:=propext ⟨fun h=>h.h,fun h=>⟨h⟩⟩
theorem zr3 (c:Str):Wp (.exc c) Q X=X c:=propext ⟨fun h=>h.h,fun h=>⟨h⟩⟩
theorem Wp.no {Q:α -> Prop} (h:Wp .bad Q X):False:=h.h
theorem Wp.bind {r:R β} {f:β -> R α} (h:Wp r (fun a=>Wp (f a) Q X) X):Wp (r.bind f) Q X:=by
 cases r with
 | ok a=>exact h.h
 | exc c=>exact ⟨h.h⟩
 | bad=>exact h.no.elim
theorem Wp.mono {r:R α} {Q':α -> Prop} (h:Wp r Q X) (q:∀ a,Q a -> Q' a):Wp r Q' X:=by
 cases r with
 | ok a=>exact ⟨q a h.h⟩
 | exc c=>exact ⟨h.h⟩
 | bad=>exact h.no.elim
theorem Wp.ex {r:R α} (h:Wp r Q NoX):∃ a,r=.ok a /\ Q a:=by
 cases r with
 | ok a=>exact ⟨a,rfl,h.h⟩
 | exc c=>exact h.h.elim
 | bad=>exact h.no.elim
theorem Wp.eq {r:R α} {a:α} (h:Wp r (fun b=>b=a) NoX):r=.ok a:=by
 obtain ⟨b,e,rfl⟩:=h.ex
 exact e
theorem Wp.of {r:R α} {a:α} (e:r=.ok a) (h:Q a):Wp r Q X:=by rw [e]; exact ⟨h⟩
theorem Wp.fx {r:R (D × List D)} {Q:D -> Prop} (h:Wp r (fun p=>p.2=[] /\ Q p.1) NoX):∃ d,r=.ok (d,[]) /\ Q d:=by
 obtain ⟨⟨d,o⟩,e,h1,h2⟩:=h.ex
 cases h1
 exact ⟨d,e,h2⟩
theorem Wp.exi {r:R (D × List D)} {P:α -> Prop} {f:α -> D} (h:Wp r (fun q=>∃ a,P a /\ q=(f a,[])) NoX):∃ a,P a /\ r=.ok (f a,[]):=by
 obtain ⟨q,e,a,ha,rfl⟩:=h.ex
 exact ⟨a,ha,e⟩
end
def Fin (Q:D × List D -> Prop):Fl × Env -> Prop
 | (.ret d,_)=>Q (d,[]) | (.next,_)=>Q (.non,[]) | (.brk,_)=>False | (.cont,_)=>False
theorem zqb (Q:D × List D -> Prop) (d:D) (ρ:Env):Fin Q (.ret d,ρ)=Q (d,[]):=by rfl
theorem zm3 (Q:D × List D -> Prop) (ρ:Env):Fin Q (.next,ρ)=Q (.non,[]):=by rfl
theorem Wp.fn {G:Str -> Option D} {T:List Def} {wf n:Nat} {f:Str} {ds:List D} {Q:D × List D -> Prop} {X:Str -> Prop} (d:Def) (h:findD T f=some d) (hl:ds.length=d.ps.length) (hio:d.io=[])
  (w:Wp (evSs G (evF G T wf n) wf d.body (zaJ d.N.length ds)) (Fin Q) X):Wp (evF G T wf (n+1) f ds) Q X:=by
 rw [evF_s h hl,hio]
 cases e:evSs G (evF G T wf n) wf d.body (zaJ d.N.length ds) with
 | ok p =>
  rw [e] at w
  obtain ⟨fl,ρ⟩:=p
  cases fl with
  | ret d=>exact ⟨w.h⟩
  | next=>exact ⟨w.h⟩
  | brk=>exact w.h.elim
  | cont=>exact w.h.elim
 | exc c=>rw [e] at w; exact ⟨w.h⟩
 | bad=>rw [e] at w; exact w.no.elim
def Turn (P:Env -> Prop) (Q:Fl × Env -> Prop):Fl × Env -> Prop
 | (.next,ρ)=>P ρ | (.cont,ρ)=>P ρ | (.brk,ρ)=>Q (.next,ρ) | (.ret d,ρ)=>Q (.ret d,ρ)
theorem zkF (P:Env -> Prop) (Q:Fl × Env -> Prop) (ρ:Env):Turn P Q (.next,ρ)=P ρ:=by rfl
theorem zkG (P:Env -> Prop) (Q:Fl × Env -> Prop) (ρ:Env):Turn P Q (.cont,ρ)=P ρ:=by rfl
theorem zm4 (P:Env -> Prop) (Q:Fl × Env -> Prop) (ρ:Env):Turn P Q (.brk,ρ)=Q (.next,ρ):=by rfl
theorem zm5 (P:Env -> Prop) (Q:Fl × Env -> Prop) (d:D) (ρ:Env):Turn P Q (.ret d,ρ)=Q (.ret d,ρ):=by rfl
theorem zfu (tg:Tg) (body:Env -> R (Fl × Env)) (x:D) (xs:List D) (ρ:Env):zam tg body (x :: xs) ρ=((setT tg x ρ).bind body).bind fun p=>match p.1 with
   | .next=>zam tg body xs p.2
   | .cont=>zam tg body xs p.2
   | .brk=>.ok (.next,p.2)
   | .ret d=>.ok (.ret d,p.2):=by rw [R.assoc]; rfl
section
variable {α:Type} {tg:Tg} {body:Env -> R (Fl × Env)} {Q:Fl × Env -> Prop} {X:Str -> Prop} {enc:α -> D}
theorem Wp.loop0 {all:List α} (P:List α -> Env -> Prop)
  (h:∀ pre x post ρ,all=pre ++ x :: post -> P pre ρ -> Wp ((setT tg (enc x) ρ).bind body) (Turn (P (pre ++ [x])) Q) X) (hQ:∀ ρ,P all ρ -> Q (.next,ρ)) :
  ∀ (xs pre:List α) (ρ:Env),all=pre ++ xs -> P pre ρ -> Wp (zam tg body (xs.map enc) ρ) Q X
 | [],pre,ρ,e,p=>by
  rw [List.append_nil] at e; subst e
  exact ⟨hQ ρ p⟩
 | x :: xs,pre,ρ,e,p=>by
  rw [List.map_cons,zfu]
  refine Wp.bind ((h pre x xs ρ e p).mono fun q hq=>?_)
  obtain ⟨fl,ρ1⟩:=q
  cases fl with
  | next=>exact Wp.loop0 P h hQ xs (pre ++ [x]) ρ1 (by rw [e,List.append_assoc]; rfl) hq
  | cont=>exact Wp.loop0 P h hQ xs (pre ++ [x]) ρ1 (by rw [e,List.append_assoc]; rfl) hq
  | brk=>exact ⟨hq⟩
  | ret d=>exact ⟨hq⟩
theorem Wp.loop {xs:List α} {ρ:Env} (P:List α -> Env -> Prop) (h0:P [] ρ)
  (h:∀ pre x post ρ,xs=pre ++ x :: post -> P pre ρ -> Wp ((setT tg (enc x) ρ).bind body) (Turn (P (pre ++ [x])) Q) X) (hQ:∀ ρ,P xs ρ -> Q (.next,ρ)) :
  Wp (zam tg body (xs.map enc) ρ) Q X:=Wp.loop0 P h hQ xs [] ρ rfl h0
theorem Wp.for {β:Type} {k:Fl × Env -> R β} {Q:β -> Prop} {xs:List α} {ρ:Env} (P:List α -> Env -> Prop) (h0:P [] ρ)
  (h:∀ pre x post ρ,xs=pre ++ x :: post -> P pre ρ -> Wp ((setT tg (enc x) ρ).bind body) (Turn (P (pre ++ [x])) fun p=>Wp (k p) Q X) X) (hQ:∀ ρ,P xs ρ -> Wp (k (.next,ρ)) Q X) :
  Wp ((zam tg body (xs.map enc) ρ).bind k) Q X:=Wp.bind (Wp.loop (Q:=fun p=>Wp (k p) Q X) P h0 h hQ)
theorem Wp.forR {β:Type} {k:Fl × Env -> R β} {Q:β -> Prop} {lo:Int} {n:Nat} {ρ:Env} (P:Nat -> Env -> Prop) (h0:P 0 ρ)
  (h:∀ i ρ,i < n -> P i ρ -> Wp ((setT tg (.int (lo+(i:Int))) ρ).bind body) (Turn (P (i+1)) fun p=>Wp (k p) Q X) X) (hQ:∀ ρ,P n ρ -> Wp (k (.next,ρ)) Q X) :
  Wp ((zam tg body (zaq lo n) ρ).bind k) Q X:=by
 refine Wp.for (enc:=fun i:Nat=>.int (lo+(i:Int))) (xs:=List.range n) (fun pre ρ=>P pre.length ρ) h0 (fun pre x post ρ e p=>?_) (fun ρ p=>hQ ρ (by simpa using p))
 have hx:x=pre.length /\ pre.length < n:=by
  have h1:=congrArg List.length e
  rw [List.length_range,List.length_append,List.length_cons] at h1
  have h2:(List.range n)[pre.length]?=some x:=by rw [e]; simp
  rw [List.getElem?_range (by omega)] at h2
  cases h2
  exact ⟨rfl,by omega⟩
 obtain ⟨rfl,hlt⟩:=hx
 rw [List.length_append]
 exact h _ ρ hlt p
theorem Wp.forR0 {β:Type} {k:Fl × Env -> R β} {Q:β -> Prop} {n:Nat} {ρ:Env} (P:Nat -> Env -> Prop) (h0:P 0 ρ)
  (h:∀ i ρ,i < n -> P i ρ -> Wp ((setT tg (.int (i:Int)) ρ).bind body) (Turn (P (i+1)) fun p=>Wp (k p) Q X) X) (hQ:∀ ρ,P n ρ -> Wp (k (.next,ρ)) Q X) :
  Wp ((zam tg body (zaq 0 n) ρ).bind k) Q X:=Wp.forR P h0 (fun i ρ hi p=>by rw [Int.zero_add]; exact h i ρ hi p) hQ
theorem Wp.forC {β:Type} {k:Fl × Env -> R β} {Q:β -> Prop} {lo c:Int} {n:Nat} {ρ:Env} (P:Nat -> Env -> Prop) (h0:P 0 ρ)
  (h:∀ i ρ,i < n -> P i ρ -> Wp ((setT tg (.int (lo+(i:Int) * c)) ρ).bind body) (Turn (P (i+1)) fun p=>Wp (k p) Q X) X) (hQ:∀ ρ,P n ρ -> Wp (k (.next,ρ)) Q X) :
  Wp ((zam tg body (zda lo c n) ρ).bind k) Q X:=by
 refine Wp.for (enc:=fun i:Nat=>.int (lo+(i:Int) * c)) (xs:=List.range n) (fun pre ρ=>P pre.length ρ) h0 (fun pre x post ρ e p=>?_) (fun ρ p=>hQ ρ (by simpa using p))
 have hx:x=pre.length /\ pre.length < n:=by
  have h1:=congrArg List.length e
  rw [List.length_range,List.length_append,List.length_cons] at h1
  have h2:(List.range n)[pre.length]?=some x:=by rw [e]; simp
  rw [List.getElem?_range (by omega)] at h2
  cases h2
  exact ⟨rfl,by omega⟩
 obtain ⟨rfl,hlt⟩:=hx
 rw [List.length_append]
 exact h _ ρ hlt p
end
section
variable {α β:Type} {tg:Tg} {body:Env -> R (Option D)} {Q:β -> Prop} {X:Str -> Prop} {enc:α -> D} {ρ:Env} {k:List D -> R β}
theorem Wp.lc {xs:List α} (g:α -> D) (h:∀ x ∈ xs,Wp ((setT tg (enc x) ρ).bind body) (fun o=>o=some (g x)) NoX) (hQ:Wp (k (xs.map g)) Q X) :
  Wp ((R.nox (lcL tg body ρ (xs.map enc))).bind k) Q X:=by
 have:lcL tg body ρ (xs.map enc)=.ok (xs.map g):=by
  clear hQ
  induction xs with
  | nil=>rfl
  | cons x xs ih =>
   have h1:=(h x (by simp)).eq
   have h2:=ih fun y hy=>h y (by simp [hy])
   show (setT tg (enc x) ρ).bind (fun ρ1=>(body ρ1).bind fun o=>(lcL tg body ρ (xs.map enc)).bind fun r=>.ok (o.toList ++ r))=_
   rw [<- R.assoc,h1,h2]
   rfl
 rw [this]
 exact hQ
theorem Wp.lcIf {xs:List α} (p:α -> Bool) (g:α -> D) (h:∀ x ∈ xs,Wp ((setT tg (enc x) ρ).bind body) (fun o=>o=if p x=true then some (g x) else none) NoX) (hQ:Wp (k ((xs.filter p).map g)) Q X) :
  Wp ((R.nox (lcL tg body ρ (xs.map enc))).bind k) Q X:=by
 have:lcL tg body ρ (xs.map enc)=.ok ((xs.filter p).map g):=by
  clear hQ
  induction xs with
  | nil=>rfl
  | cons x xs ih =>
   have h1:=(h x (by simp)).eq
   have h2:=ih fun y hy=>h y (by simp [hy])
   show (setT tg (enc x) ρ).bind (fun ρ1=>(body ρ1).bind fun o=>(lcL tg body ρ (xs.map enc)).bind fun r=>.ok (o.toList ++ r))=_
   rw [<- R.assoc,h1,h2,List.filter_cons]
   by_cases c:p x=true
   ·rw [if_pos c,if_pos c]; rfl
   ·rw [if_neg c,if_neg c]; rfl
 rw [this]
 exact hQ
end
theorem Wp.nox {α:Type} {r:R α} {Q:α -> Prop} {X:Str -> Prop} (h:Wp r Q NoX):Wp (R.nox r) Q X:=by
 cases r with
 | ok a=>exact ⟨h.h⟩
 | exc c=>exact h.h.elim
 | bad=>exact h.no.elim
theorem zm6 (x y:D):zip2D x y=(ltsD x).bind fun xs=>(ltsD y).bind fun ys=>.ok (zipD xs ys):=by rfl
theorem zh6 (lo:Int) (n:Nat):zaq lo n=(List.range n).map fun i:Nat=>D.int (lo+(i:Int)):=by rfl
theorem zb4 (n:Nat):zaq 0 n=(List.range n).map fun i:Nat=>D.int (i:Int):=by
 rw [zh6]; simp
section
variable (G:Str -> Option D) (F:Fn) (wf:Nat) (ρ:Env)
theorem zm7 (kvs:List (Key × D)):zeK (.dK kvs)=.ok (kvs.map fun kv=>.tup [keyV kv.1,kv.2]):=by rfl
theorem zqc (kvs:List (Key × D)):zcR (.dK kvs)=.ok (kvs.map fun kv=>keyV kv.1):=by rfl
theorem zqd (kvs:List (List Key × D)):zcR (.dT kvs)=.ok (kvs.map fun kv=>.tup (kv.1.map keyV)):=by rfl
theorem zqe (xs:List D):lstD (.lst xs)=.ok xs:=by rfl
theorem zqf (xs:List D):ltsD (.lst xs)=.ok xs:=by rfl
theorem zqg (xs:List D):ltsD (.tup xs)=.ok xs:=by rfl
end
theorem zkH {α β γ:Type} (r:R α) (f:α -> R β) (g:β -> R γ):(r.bind f).bind g=r.bind fun x=>(f x).bind g:=R.assoc r f g
theorem zhm {α β:Type} (c:Bool) (r:R α) (f:α -> R β):(R.when c r).bind f=R.when c (r.bind f):=by cases c <;> rfl
theorem Wp.when {α:Type} {c:Bool} {r:R α} {Q:α -> Prop} {X:Str -> Prop} (h:c=true) (w:Wp r Q X):Wp (R.when c r) Q X:=by rw [h]; exact w
def Sm (x:Int):Prop:=x.natAbs < 2 ^ 1000
theorem sm_of {x:Int} (h:-(2 ^ 900) <= x) (h2:x <= 2 ^ 900):Sm x:=by unfold Sm; omega
theorem dmulS {i j:Int} (h1:Sm i) (h2:Sm j):dBin .mul (.int i) (.int j)=.ok (.int (i * j)):=dmul (zmZ 1000 1000 h1 h2)
def nth {α:Type} [Inhabited α] (xs:List α) (i:Int):α:=xs.getD i.toNat default
theorem zgm {α:Type} [Inhabited α] {xs:List α} {i:Int} (h0:0 <= i) (h:i < xs.length):nth xs i ∈ xs:=by
 unfold nth
 rw [List.getD_eq_getElem?_getD,List.getElem?_eq_getElem (show i.toNat < xs.length by omega)]
 exact List.getElem_mem _
theorem zkI {α:Type} [Inhabited α] {f:α -> D} {xs:List α} {i:Int} (h0:0 <= i) (h:i < xs.length):atI (xs.map f) i=some (f (nth xs i)):=by
 have hz:i.toNat < (xs.map f).length:=by rw [List.length_map]; omega
 have:=atI_nat (xs:=xs.map f) hz
 rw [Int.toNat_of_nonneg h0] at this
 rw [this,List.getElem_map]
 unfold nth
 rw [List.getD_eq_getElem?_getD,List.getElem?_eq_getElem (by rw [List.length_map] at hz; exact hz)]
 rfl
theorem zc7 {α:Type} [Inhabited α] {f:α -> D} {xs:List α} {i:Int} (h0:0 <= i) (h:i < xs.length):dIdx (.lst (xs.map f)) (.int i)=.ok (f (nth xs i)):=zbI (zkI h0 h)
theorem zm8 {α:Type} [Inhabited α] {f:α -> D} {xs:List α} {i:Int} (h0:0 <= i) (h:i < xs.length):dIdx (.tup (xs.map f)) (.int i)=.ok (f (nth xs i)):=zbc (zkI h0 h)
theorem zqh {α:Type} [Inhabited α] {xs:List α} {i:Nat} (h:i < xs.length):nth xs (i:Int)=xs[i]:=by
 unfold nth
 rw [Int.toNat_natCast,List.getD_eq_getElem?_getD,List.getElem?_eq_getElem h]; rfl
section
variable (a b c d e f g h:D) (l:List D)
theorem il0:dIdx (.lst (a :: l)) (.int 0)=.ok a:=zbI (atI_nat (xs:=a :: l) (k:=0) (by simp))
theorem it0:dIdx (.tup (a :: l)) (.int 0)=.ok a:=zbc (atI_nat (xs:=a :: l) (k:=0) (by simp))
theorem il1:dIdx (.lst (a :: b :: l)) (.int 1)=.ok b:=zbI (atI_nat (xs:=a :: b :: l) (k:=1) (by simp))
theorem it1:dIdx (.tup (a :: b :: l)) (.int 1)=.ok b:=zbc (atI_nat (xs:=a :: b :: l) (k:=1) (by simp))
theorem il2:dIdx (.lst (a :: b :: c :: l)) (.int 2)=.ok c:=zbI (atI_nat (xs:=a :: b :: c :: l) (k:=2) (by simp))
theorem it2:dIdx (.tup (a :: b :: c :: l)) (.int 2)=.ok c:=zbc (atI_nat (xs:=a :: b :: c :: l) (k:=2) (by simp))
theorem il3:dIdx (.lst (a :: b :: c :: d :: l)) (.int 3)=.ok d:=zbI (atI_nat (xs:=a :: b :: c :: d :: l) (k:=3) (by simp))
theorem it3:dIdx (.tup (a :: b :: c :: d :: l)) (.int 3)=.ok d:=zbc (atI_nat (xs:=a :: b :: c :: d :: l) (k:=3) (by simp))
theorem il4:dIdx (.lst (a :: b :: c :: d :: e :: l)) (.int 4)=.ok e:=zbI (atI_nat (xs:=a :: b :: c :: d :: e :: l) (k:=4) (by simp))
theorem it4:dIdx (.tup (a :: b :: c :: d :: e :: l)) (.int 4)=.ok e:=zbc (atI_nat (xs:=a :: b :: c :: d :: e :: l) (k:=4) (by simp))
theorem il5:dIdx (.lst (a :: b :: c :: d :: e :: f :: l)) (.int 5)=.ok f:=zbI (atI_nat (xs:=a :: b :: c :: d :: e :: f :: l) (k:=5) (by simp))
theorem it5:dIdx (.tup (a :: b :: c :: d :: e :: f :: l)) (.int 5)=.ok f:=zbc (atI_nat (xs:=a :: b :: c :: d :: e :: f :: l) (k:=5) (by simp))
theorem it6:dIdx (.tup (a :: b :: c :: d :: e :: f :: g :: l)) (.int 6)=.ok g:=zbc (atI_nat (xs:=a :: b :: c :: d :: e :: f :: g :: l) (k:=6) (by simp))
theorem it7:dIdx (.tup (a :: b :: c :: d :: e :: f :: g :: h :: l)) (.int 7)=.ok h:=zbc (atI_nat (xs:=a :: b :: c :: d :: e :: f :: g :: h :: l) (k:=7) (by simp))
end
theorem zh7 (i j k:Nat) (a b c:D) (ρ:Env):setT (.many [i,j,k]) (.tup [a,b,c]) ρ=.ok (((ρ.set i (some a)).set j (some b)).set k (some c)):=by rfl
theorem zkJ (i j k l:Nat) (a b c d:D) (ρ:Env):setT (.many [i,j,k,l]) (.tup [a,b,c,d]) ρ=.ok ((((ρ.set i (some a)).set j (some b)).set k (some c)).set l (some d)):=by rfl
theorem zkK (i j k l m:Nat) (a b c d e:D) (ρ:Env):setT (.many [i,j,k,l,m]) (.tup [a,b,c,d,e]) ρ=.ok (((((ρ.set i (some a)).set j (some b)).set k (some c)).set l (some d)).set m (some e)):=by rfl
theorem zr4 {i j c:Int} (h1:-1000000 <= i) (h2:i <= 1000000) (h3:-1000000 <= j) (h4:j <= 1000000) (h5:0 < c) (h6:c <= 1000):rgcOk i j c=true:=zr1 h1 h2 h3 h4 h5 h6
theorem zeC {n:Nat} (h:n <= 16777216):decide (n <= sizeLine)=true:=decide_eq_true (by rw [sizeLine_eq]; exact h)
theorem zeD {n:Nat} (h:n < 16777216):decide (n < sizeLine)=true:=decide_eq_true (by rw [sizeLine_eq]; exact h)
theorem zm9 {s:Str} (h:s.length <= 16777216):biEv .len [.str s]=.ok (.int s.length):=zaW (zeC h)
theorem zh8 (xs:List D):biEv .tuple [.lst xs]=.ok (.tup xs):=by rfl
theorem zkL (xs:List D):biEv .list [.lst xs]=.ok (.lst xs):=by rfl
theorem zkM (xs:List D):biEv .list [.tup xs]=.ok (.lst xs):=by rfl
theorem zqi (b:Bool):biEv .int [.bl b]=.ok (.int (if b=true then 1 else 0)):=by rfl
theorem zqj (xs:List D):zac (.tup xs)=.ok (!xs.isEmpty):=by rfl
theorem zqk:zac .non=.ok false:=by rfl
theorem zql (d:D):dCmp .is d .non=.ok (isNon d):=by cases d <;> rfl
theorem zna (d:D):dCmp .isnot d .non=.ok (!isNon d):=by cases d <;> rfl
theorem dne' (i j:Int):dCmp .ne (.int i) (.int j)=.ok (decide (i ≠ j)):=by
 rw [dne]; congr 1
 by_cases h:i=j <;> simp [h]
theorem zr5 (m n:Int):biEv .max2 [.int m,.int n]=.ok (.int (max m n)):=by
 rw [dmax2]; congr 2; rw [Int.max_def]; split <;> split <;> omega
theorem zr6 (m n:Int):biEv .min2 [.int m,.int n]=.ok (.int (min m n)):=by
 rw [dmin2]; congr 2; rw [Int.min_def]; split <;> split <;> omega
theorem znb {i:Int} (h:-(2 ^ 61) <= i) (h2:i <= 2 ^ 61):rngOk i=true:=by
 unfold rngOk
 rw [decide_eq_true (show -(2 ^ 62) <= i by omega),decide_eq_true (show i < 2 ^ 62 by omega)]; rfl
theorem zr7 {n:Nat} {r:R (Fl × Env)} (h:n < 16777216):R.when (decide (n < sizeLine)) r=r:=zaW (zeD h)
end L2.Pf
namespace L2.Pf
open PySem PySem.Spec PyProof.Rows
section
variable (G:Str -> Option D) (F:Fn) (wf:Nat) (o:Option D) (ρ:Env)
theorem zqm (i:Nat):evE G F (.var i) (o :: ρ)=getV (o :: ρ) i:=by rfl
theorem znc (x:Str):evE G F (.glob x) (o :: ρ)=R.of (G x):=by rfl
theorem zqn (n:Int):evE G F (.int n) (o :: ρ)=.ok (.int n):=by rfl
theorem zqo (n:Str):evE G F (.str n) (o :: ρ)=.ok (.str n):=by rfl
theorem zr8 (n:Bool):evE G F (.bl n) (o :: ρ)=.ok (.bl n):=by rfl
theorem zqp:evE G F .non (o :: ρ)=.ok .non:=by rfl
theorem zqq (op:BOp) (a b:E):evE G F (.bin op a b) (o :: ρ)=(evE G F a (o :: ρ)).bind fun x=>(evE G F b (o :: ρ)).bind fun y=>dBin op x y:=by rfl
theorem zqr (a:E):evE G F (.neg a) (o :: ρ)=(evE G F a (o :: ρ)).bind fun x=>L2.Pf.dNeg x:=by rfl
theorem zqs (a:E):evE G F (.not a) (o :: ρ)=(evE G F a (o :: ρ)).bind fun x=>(zac x).bind fun b=>.ok (.bl (!b)):=by rfl
theorem zqt (op:COp) (a b:E):evE G F (.cmp op a b) (o :: ρ)=(evE G F a (o :: ρ)).bind fun x=>(evE G F b (o :: ρ)).bind fun y=>(dCmp op x y).bind fun c=>.ok (.bl c):=by rfl
theorem zqu (es:Es):evE G F (.and es) (o :: ρ)=evAnd G F es (o :: ρ):=by rfl
theorem zr9 (es:Es):evE G F (.or es) (o :: ρ)=evOr G F es (o :: ρ):=by rfl
theorem zqv (es:Es):evE G F (.tup es) (o :: ρ)=(evEs G F es (o :: ρ)).bind fun x=>R.when (decide (x.length <= sizeLine)) (.ok (.tup x)):=by rfl
theorem zqw (es:Es):evE G F (.lst es) (o :: ρ)=(evEs G F es (o :: ρ)).bind fun x=>R.when (decide (x.length <= sizeLine)) (.ok (.lst x)):=by rfl
theorem zqx (a k:E):evE G F (.rep a k) (o :: ρ)=(evE G F a (o :: ρ)).bind fun x=>(evE G F k (o :: ρ)).bind fun y=>dRep x y:=by rfl
theorem zsa:evE G F .dnewK (o :: ρ)=.ok (.dK []):=by rfl
theorem zsb:evE G F .dnewT (o :: ρ)=.ok (.dT []):=by rfl
theorem zqy (a i:E):evE G F (.idx a i) (o :: ρ)=(evE G F a (o :: ρ)).bind fun x=>(evE G F i (o :: ρ)).bind fun y=>dIdx x y:=by rfl
theorem znd (a:E):evE G F (.slcA a) (o :: ρ)=(evE G F a (o :: ρ)).bind fun x=>zaH x none none:=by rfl
theorem zne (a lo:E):evE G F (.slcL a lo) (o :: ρ)=(evE G F a (o :: ρ)).bind fun x=>(evE G F lo (o :: ρ)).bind fun y=>(dInt y).bind fun i=>zaH x (some i) none:=by rfl
theorem znf (a hi:E):evE G F (.slcH a hi) (o :: ρ)=(evE G F a (o :: ρ)).bind fun x=>(evE G F hi (o :: ρ)).bind fun y=>(dInt y).bind fun i=>zaH x none (some i):=by rfl
theorem zng (a lo hi:E):evE G F (.slcB a lo hi) (o :: ρ)=(evE G F a (o :: ρ)).bind fun x=>(evE G F lo (o :: ρ)).bind fun y=>(dInt y).bind fun i=>(evE G F hi (o :: ρ)).bind fun z=>(dInt z).bind fun j=>zaH x (some i) (some j):=by rfl
theorem znh (f:Str) (args:Es) (im:Bool):evE G F (.call f args im) (o :: ρ)=(evEs G F args (o :: ρ)).bind fun x=>(F f x).bind fun r=>R.when (r.2.isEmpty && (!im || r.1.imm)) (.ok r.1):=by rfl
theorem zsc (b:Bi) (args:Es):evE G F (.bi b args) (o :: ρ)=(evEs G F args (o :: ρ)).bind fun x=>biEv b x:=by rfl
theorem zsd (m:Me) (o1:E) (args:Es):evE G F (.me m o1 args) (o :: ρ)=(evE G F o1 (o :: ρ)).bind fun x=>R.when (meOk m x) ((evEs G F args (o :: ρ)).bind fun y=>meEv m x y):=by rfl
theorem zqz (a:E) (t:Ty):evE G F (.isi a t) (o :: ρ)=(evE G F a (o :: ρ)).bind fun x=>(isiD x [t]).bind fun b=>.ok (.bl b):=by rfl
theorem zni (a:E) (ts:List Ty):evE G F (.isiL a ts) (o :: ρ)=(evE G F a (o :: ρ)).bind fun x=>(isiD x ts).bind fun b=>.ok (.bl b):=by rfl
theorem znj:evSs G F wf .nil (o :: ρ)=.ok (.next,(o :: ρ)):=by rfl
theorem znk:evEs G F .nil (o :: ρ)=.ok []:=by rfl
theorem zkN (e:E) (es:Es):evEs G F (.cons e es) (o :: ρ)=(evE G F e (o :: ρ)).bind fun x=>(evEs G F es (o :: ρ)).bind fun y=>.ok (x :: y):=by rfl
theorem zqA (e:E):evAnd G F (.cons e .nil) (o :: ρ)=evE G F e (o :: ρ):=by rfl
theorem zqB (e:E):evOr G F (.cons e .nil) (o :: ρ)=evE G F e (o :: ρ):=by rfl
theorem znl (is:List Nat) (e:E):evS G F wf (.asgT is e) (o :: ρ)=(evE G F e (o :: ρ)).bind fun x=>(setT (.many is) x (o :: ρ)).bind fun ρ=>.ok (.next,ρ):=by rfl
theorem znm (i:Nat) (ix e:E):evS G F wf (.setI i ix e) (o :: ρ)=(evE G F e (o :: ρ)).bind fun x=>(getV (o :: ρ) i).bind fun o2=>(evE G F ix (o :: ρ)).bind fun k=>(dSet o2 k x).bind fun d=>.ok (.next,(o :: ρ).set i (some d)):=by rfl
theorem znn (e:E):evS G F wf (.expr e) (o :: ρ)=(evE G F e (o :: ρ)).bind fun _=>.ok (.next,(o :: ρ)):=by rfl
theorem zqC (e:E):evS G F wf (.ret e) (o :: ρ)=(evE G F e (o :: ρ)).bind fun x=>.ok (.ret x,(o :: ρ)):=by rfl
theorem zno:evS G F wf .cont (o :: ρ)=.ok (.cont,(o :: ρ)):=by rfl
theorem znp:evS G F wf .pass (o :: ρ)=.ok (.next,(o :: ρ)):=by rfl
theorem zkO (c:Str):evS G F wf (.raise c) (o :: ρ)=.exc c:=by rfl
theorem zqD (e:E):evI G F (.seq e) (o :: ρ)=(evE G F e (o :: ρ)).bind fun x=>seqD x:=by rfl
theorem zqE (t:Tg) (it:It) (b:Ss):evS G F wf (.for t it b) (o :: ρ)=(evI G F it (o :: ρ)).bind fun xs=>zam t (evSs G F wf b) xs (o :: ρ):=by rfl
theorem zse (elt:E) (tg:Tg) (it:It) (own:List Nat):evE G F (.lc elt tg it own) (o :: ρ)=(evI G F it (o :: ρ)).bind fun xs=>(R.nox (lcL tg (fun ρ=>(evE G F elt ρ).bind fun y=>.ok (some y)) (wipeD (o :: ρ) own) xs)).bind fun r=>R.when (decide (r.length <= sizeLine)) (.ok (.lst r)):=by rfl
theorem znq (elt:E) (tg:Tg) (it:It) (cond:E) (own:List Nat):evE G F (.lcIf elt tg it cond own) (o :: ρ)=(evI G F it (o :: ρ)).bind fun xs=>(R.nox (lcL tg (fun ρ=>(evE G F cond ρ).bind fun c=>(zac c).bind fun b=>if b=true then (evE G F elt ρ).bind fun y=>.ok (some y) else .ok none) (wipeD (o :: ρ) own) xs)).bind fun r=>R.when (decide (r.length <= sizeLine)) (.ok (.lst r)):=by rfl
theorem zqF (c:E) (b:Ss):evS G F wf (.whl c b) (o :: ρ)=zaE (evT G F c) (evSs G F wf b) wf (o :: ρ):=by rfl
theorem zqG:evS G F wf .brk (o :: ρ)=.ok (.brk,(o :: ρ)):=by rfl
theorem zqH (is:List Nat) (es:Es):evS G F wf (.par is es) (o :: ρ)=(evEs G F es (o :: ρ)).bind fun x=>R.when (is.length == x.length) (.ok (.next,zar is x (o :: ρ))):=by rfl
theorem zqI (i:Nat) (e:E):evS G F wf (.append i e) (o :: ρ)=(getV (o :: ρ) i).bind fun o2=>(lstD o2).bind fun xs=>(evE G F e (o :: ρ)).bind fun x=>R.when (decide (xs.length < sizeLine)) (.ok (.next,(o :: ρ).set i (some (.lst (xs ++ [x]))))):=by
 show (getV (o :: ρ) i).bind _=_
 congr 1
 funext o2
 cases o2 <;> rfl
theorem zqJ (i:Nat):evS G F wf (.pop i) (o :: ρ)=(getV (o :: ρ) i).bind fun o2=>(lstD o2).bind fun xs=>R.when (!xs.isEmpty) (.ok (.next,(o :: ρ).set i (some (.lst xs.dropLast)))):=by
 show (getV (o :: ρ) i).bind _=_
 congr 1
 funext o2
 cases o2 <;> rfl
theorem zh9 (a:E):evI G F (.range1 a) (o :: ρ)=(evE G F a (o :: ρ)).bind fun x=>(dInt x).bind fun j=>R.when (rngOk j) (.ok (zaq 0 j.toNat)):=by rfl
theorem zia (a b:E):evI G F (.range2 a b) (o :: ρ)=(evE G F a (o :: ρ)).bind fun x=>(evE G F b (o :: ρ)).bind fun y=>(dInt x).bind fun i=>(dInt y).bind fun j=>R.when (rngOk i && rngOk j) (.ok (zaq i (j - i).toNat)):=by rfl
theorem zib (a b:E) (c:Int):evI G F (.range3 a b c) (o :: ρ)=(evE G F a (o :: ρ)).bind fun x=>(evE G F b (o :: ρ)).bind fun y=>(dInt x).bind fun i=>(dInt y).bind fun j=>R.when (rgcOk i j c) (.ok (zda i c (Builtin.Range.rangeSize i j c).toNat)):=by rfl
theorem znr (a b:E):evI G F (.zip2 a b) (o :: ρ)=(evE G F a (o :: ρ)).bind fun x=>(evE G F b (o :: ρ)).bind fun y=>zip2D x y:=by rfl
theorem zns (a:E):evI G F (.enum a) (o :: ρ)=(evE G F a (o :: ρ)).bind fun x=>(ltsD x).bind fun xs=>.ok (enumD 0 xs):=by rfl
theorem zqK (a:E):evI G F (.rev a) (o :: ρ)=(evE G F a (o :: ρ)).bind fun x=>(ltsD x).bind fun xs=>.ok xs.reverse:=by rfl
theorem zkP (t:Bool) (a b:E):evE G F (.disp1 t a b) (o :: ρ)=(evE G F a (o :: ρ)).bind fun x=>(evE G F b (o :: ρ)).bind fun y=>dDisp t x y:=by rfl
theorem znt (b:Ss):evS G F wf (.try0 b) (o :: ρ)=R.nox (evSs G F wf b (o :: ρ)):=by rfl
theorem znu (t:Tg) (i:Nat) (im:Bool) (b:Ss):evS G F wf (.forK t i im b) (o :: ρ)=(getV (o :: ρ) i).bind fun x=>(if im=true then zeK x else zcR x).bind fun xs=>R.nox (zam t (evSs G F wf b) xs (o :: ρ)):=by rfl
theorem znv (c:E):evT G F c (o :: ρ)=(evE G F c (o :: ρ)).bind fun x=>zac x:=by rfl
def contS (G:Str -> Option D) (F:Fn) (wf:Nat) (r:Ss) (p:Fl × Env):R (Fl × Env):=match p.1 with
  | .next=>evSs G F wf r p.2
  | f=>.ok (f,p.2)
theorem znw (a:E):evE G F (.revL a) (o :: ρ)=(evE G F a (o :: ρ)).bind fun x=>(lstD x).bind fun xs=>.ok (.lst xs.reverse):=by rfl
theorem zqL (ne:Bool) (i j:Nat):evE G F (.eqD ne i j) (o :: ρ)=(getV (o :: ρ) i).bind fun x=>(getV (o :: ρ) j).bind fun y=>(dEqD x y).bind fun c=>.ok (.bl (if ne=true then !c else c)):=by rfl
theorem zqM (neg:Bool) (a:E) (g:Str) (ss:List Str):evE G F (.inG neg a g ss) (o :: ρ)=(evE G F a (o :: ρ)).bind fun x=>R.when (flatD x) (.ok (.bl (if neg=true then !(ss.any fun z=>PyData.eqv (.str z) x.py) else ss.any fun z=>PyData.eqv (.str z) x.py))):=by rfl
theorem zkQ (ks:List Str) (es:Es):evE G F (.dispN ks es) (o :: ρ)=(evEs G F es (o :: ρ)).bind fun xs=>R.when (decide (xs.length=ks.length)) (.ok (.dK ((ks.zip xs).map fun p=>(.inr p.1,p.2)))):=by rfl
theorem znx (i:Nat) (elt:E) (tg:Tg) (it:It) (own:List Nat):evS G F wf (.asgL i elt tg it own) (o :: ρ)=(evI G F it (o :: ρ)).bind fun xs=>R.when (decide (xs.length <= sizeLine)) ((lcL tg (fun ρ=>(evE G F elt ρ).bind fun y=>.ok (some y)) (wipeD (o :: ρ) own) xs).bind fun r=>.ok (.next,(o :: ρ).set i (some (.lst r)))):=by
 show (evL G F elt tg it own (o :: ρ)).bind _=_
 unfold evL
 rw [R.assoc]
 congr 1; funext xs
 unfold R.when
 split
 ·rw [R.assoc]; rfl
 ·rfl
theorem zny (e x:E):evS G F wf (.appC e x) (o :: ρ)=(evE G F e (o :: ρ)).bind fun d=>(lstD d).bind fun xs=>(evE G F x (o :: ρ)).bind fun _=>R.when (decide (xs.length < sizeLine)) (.ok (.next,(o :: ρ))):=by rfl
theorem znz (j:Option Nat) (e:E) (x:Str) (q:Option Nat) (hs:List (Nat × HE)) (re:Option Str):evS G F wf (.tryX j e x q hs re) (o :: ρ)=tryR (o :: ρ) j x q hs re (evE G F e (o :: ρ)):=by rfl
theorem zkR (r:Ss) (ρ:Env):contS G F wf r (.next,ρ)=evSs G F wf r ρ:=by rfl
theorem znA (r:Ss) (d:D) (ρ:Env):contS G F wf r (.ret d,ρ)=.ok (.ret d,ρ):=by rfl
theorem znB (r:Ss) (ρ:Env):contS G F wf r (.brk,ρ)=.ok (.brk,ρ):=by rfl
theorem zkS (r:Ss) (ρ:Env):contS G F wf r (.cont,ρ)=.ok (.cont,ρ):=by rfl
def brS (G:Str -> Option D) (F:Fn) (wf:Nat) (a b:Ss) (ρ:Env) (x:Bool):R (Fl × Env):=if x=true then evSs G F wf a ρ else evSs G F wf b ρ
theorem br_t (a b:Ss) (ρ:Env):brS G F wf a b ρ true=evSs G F wf a ρ:=by rfl
theorem br_f (a b:Ss) (ρ:Env):brS G F wf a b ρ false=evSs G F wf b ρ:=by rfl
def andC (G:Str -> Option D) (F:Fn) (r:Es) (ρ:Env) (x:D) (c:Bool):R D:=if c=true then evAnd G F r ρ else .ok x
theorem and_t (r:Es) (ρ:Env) (x:D):andC G F r ρ x true=evAnd G F r ρ:=by rfl
theorem and_f (r:Es) (ρ:Env) (x:D):andC G F r ρ x false=.ok x:=by rfl
def orC (G:Str -> Option D) (F:Fn) (r:Es) (ρ:Env) (x:D) (c:Bool):R D:=if c=true then .ok x else evOr G F r ρ
theorem or_t (r:Es) (ρ:Env) (x:D):orC G F r ρ x true=.ok x:=by rfl
theorem or_f (r:Es) (ρ:Env) (x:D):orC G F r ρ x false=evOr G F r ρ:=by rfl
def chC (G:Str -> Option D) (F:Fn) (p:COp) (c:E) (ρ:Env) (y:D) (k:Bool):R D:=if k=true then (evE G F c ρ).bind fun z=>(dCmp p y z).bind fun k=>.ok (.bl k) else .ok (.bl false)
theorem ch_t (p:COp) (c:E) (ρ:Env) (y:D):chC G F p c ρ y true=(evE G F c ρ).bind fun z=>(dCmp p y z).bind fun k=>.ok (.bl k):=by rfl
theorem ch_f (p:COp) (c:E) (ρ:Env) (y:D):chC G F p c ρ y false=.ok (.bl false):=by rfl
def asC (i:Nat) (ρ:Env) (x:D):R (Fl × Env):=.ok (.next,ρ.set i (some x))
theorem as_c (i:Nat) (ρ:Env) (x:D):asC i ρ x=.ok (.next,ρ.set i (some x)):=by rfl
theorem zkT (s:S) (r:Ss):evSs G F wf (.cons s r) (o :: ρ)=(evS G F wf s (o :: ρ)).bind (contS G F wf r):=by rfl
theorem zkU (op p:COp) (a b c:E):evE G F (.chain op p a b c) (o :: ρ)=(evE G F a (o :: ρ)).bind fun x=>(evE G F b (o :: ρ)).bind fun y=>(dCmp op x y).bind (chC G F p c (o :: ρ) y):=by rfl
theorem znC (e f:E) (r:Es):evAnd G F (.cons e (.cons f r)) (o :: ρ)=(evE G F e (o :: ρ)).bind fun x=>(zac x).bind (andC G F (.cons f r) (o :: ρ) x):=by rfl
theorem znD (e f:E) (r:Es):evOr G F (.cons e (.cons f r)) (o :: ρ)=(evE G F e (o :: ρ)).bind fun x=>(zac x).bind (orC G F (.cons f r) (o :: ρ) x):=by rfl
theorem zqN (c:E) (a b:Ss):evS G F wf (.ifs c a b) (o :: ρ)=((evE G F c (o :: ρ)).bind fun x=>zac x).bind (brS G F wf a b (o :: ρ)):=by rfl
theorem zqO (i:Nat) (e:E):evS G F wf (.asg i e) (o :: ρ)=(evE G F e (o :: ρ)).bind (asC i (o :: ρ)):=by rfl
theorem zsf (i:Nat) (is:List Nat) (d:D) (ds:List D) (ρ:Env):zar (i :: is) (d :: ds) ρ=zar is ds (ρ.set i (some d)):=by rfl
theorem zsg (ρ:Env):zar [] [] ρ=ρ:=by rfl
end
section
variable {tg:Tg} {body:Env -> R (Option D)} {ρ:Env}
end
section
variable {α β:Type} (c x:Str) (ρ:Env) (d:D) (j q:Option Nat) (hs:List (Nat × HE)) (re:Option Str)
theorem zqP:tryR ρ j x q hs re (.ok d)=.ok (.next,setO ρ d j):=by rfl
theorem znE:tryR ρ j x q hs none (.exc c)=if subC c x=true then (hsEv c hs (unset ρ q)).bind (fun ρ1=>.ok (.next,unset ρ1 q)) else .exc c:=by rfl
theorem zsh:setO ρ d none=ρ:=by rfl
theorem zsi (i:Nat):setO ρ d (some i)=ρ.set i (some d):=by rfl
theorem zqQ:unset ρ none=ρ:=by rfl
theorem zqR (i:Nat):unset ρ (some i)=ρ.set i none:=by rfl
theorem znF:hsEv c [] ρ=.ok ρ:=by rfl
theorem zkV (k:Nat) (h:HE) (r:List (Nat × HE)):hsEv c ((k,h) :: r) ρ=(heEv c ρ h).bind fun d=>hsEv c r (ρ.set k (some d)):=by rfl
theorem zsj:heEv c ρ .non=.ok .non:=by rfl
theorem he_bl (b:Bool):heEv c ρ (.bl b)=.ok (.bl b):=by rfl
theorem zsk (b:Int):heEv c ρ (.int b)=.ok (.int b):=by rfl
theorem zsl (i:Nat):heEv c ρ (.var i)=getV ρ i:=by rfl
theorem zsm (y:Str):heEv c ρ (.is1 y)=.ok (.bl (subC c y)):=by rfl
theorem zsn (xs:List Str):heEv c ρ (.isN xs)=.ok (.bl (xs.any (subC c))):=by rfl
theorem zso (a:HE):heEv c ρ (.not a)=(heEv c ρ a).bind fun x=>(zac x).bind fun b=>.ok (.bl (!b)):=by rfl
theorem zsp (a b:HE):heEv c ρ (.and a b)=(heEv c ρ a).bind fun x=>(zac x).bind fun k=>if k=true then heEv c ρ b else .ok x:=by rfl
theorem he_or (a b:HE):heEv c ρ (.or a b)=(heEv c ρ a).bind fun x=>(zac x).bind fun k=>if k=true then .ok x else heEv c ρ b:=by rfl
theorem zsq (xs:List Str):heEv c ρ (.lst xs)=R.when (decide (xs.length <= sizeLine)) (.ok (.lst (xs.map fun x=>.bl (subC c x)))):=by rfl
theorem zsr (i:Nat) (xs:List Str):heEv c ρ (.add i xs)=(getV ρ i).bind fun o=>R.when (decide (xs.length <= sizeLine)) (dAdd o (.lst (xs.map fun x=>.bl (subC c x)))):=by rfl
theorem zss (h:(c == x || x == "ChiefError" || x == "ValueError")=false):subC c x=false:=h
theorem sub_self:subC c c=true:=by unfold subC; simp
theorem zkW:subC c "ChiefError"=true:=by unfold subC; simp
theorem zkX:subC c "ValueError"=true:=by unfold subC; simp
end
end L2.Pf
namespace L2.Pf
open PySem PySem.Spec PyProof.Rows
mutual
def okD (n:Nat):D -> Bool
 | .non=>true | .int _=>true | .str s=>PyData.canLay0 (.str s)
 | .tup xs=>(match n with | 0=>false | m+1=>okDs m xs)
 | .lst xs=>(match n with | 0=>false | m+1=>okDs m xs)
 | .bl _=>false | .dK _=>false | .dT _=>false | .exc _=>false | .tupN _=>false
def okDs (n:Nat):List D -> Bool
 | []=>true
 | x :: xs=>okD n x && okDs n xs
end
mutual
theorem zkY:∀ (n:Nat) (d:D),okD n d=true -> d.py.canLay0=true
 | n,.non,_=>rfl
 | n,.int _,_=>rfl
 | n,.str s,h=>h
 | 0,.tup xs,h=>by simp [okD] at h
 | n+1,.tup xs,h=>zeE n xs h
 | 0,.lst xs,h=>by simp [okD] at h
 | n+1,.lst xs,h=>zeE n xs h
 | _,.bl _,h=>by simp [okD] at h
 | _,.dK _,h=>by simp [okD] at h
 | _,.dT _,h=>by simp [okD] at h
 | _,.exc _,h=>by simp [okD] at h
 | _,.tupN _,h=>by simp [okD] at h
theorem zeE:∀ (n:Nat) (d:List D),okDs n d=true -> PyData.canLayAll0 (D.pys d)=true
 | _,[],_=>rfl
 | n,x :: xs,h=>by
  have h:=Bool.and_eq_true_iff.mp (show (okD n x && okDs n xs)=true from h)
  show (x.py.canLay0 && PyData.canLayAll0 (D.pys xs))=true
  rw [zkY n x h.1,zeE n xs h.2]; rfl
end
mutual
theorem zfv:∀ (n:Nat) (d:D),okD n d=true -> d.py.depth <= n
 | n,.non,_=>Nat.zero_le _
 | n,.int _,_=>Nat.zero_le _
 | n,.str s,h=>Nat.zero_le _
 | 0,.tup xs,h=>by simp [okD] at h
 | n+1,.tup xs,h=>Nat.succ_le_succ (zcN n xs h)
 | 0,.lst xs,h=>by simp [okD] at h
 | n+1,.lst xs,h=>Nat.succ_le_succ (zcN n xs h)
 | _,.bl _,h=>by simp [okD] at h
 | _,.dK _,h=>by simp [okD] at h
 | _,.dT _,h=>by simp [okD] at h
 | _,.exc _,h=>by simp [okD] at h
 | _,.tupN _,h=>by simp [okD] at h
theorem zcN:∀ (n:Nat) (d:List D),okDs n d=true -> PyData.depthAll (D.pys d) <= n
 | _,[],_=>Nat.zero_le _
 | n,x :: xs,h=>by
  have h:=Bool.and_eq_true_iff.mp (show (okD n x && okDs n xs)=true from h)
  show max x.py.depth (PyData.depthAll (D.pys xs)) <= n
  exact Nat.max_le.mpr ⟨zfv n x h.1,zcN n xs h.2⟩
end
theorem zbk {n:Nat} {d:D} (h:okD n d=true) (hn:n <= 64):d.shaped=true:=by
 have h2:=zfv n d h
 show (d.py.canLay0 && decide (d.py.depth <= 64))=true
 rw [zkY n d h,decide_eq_true (Nat.le_trans h2 hn)]; rfl
mutual
theorem zcO:∀ (n m:Nat) (a b:D),okD n a=true -> okD m b=true -> (PyData.eqv a.py b.py=true ↔ a=b)
 | n,m,.non,b,_,hb=>by cases b <;> simp [okD,D.py,PyData.eqv] at hb ⊢
 | n,m,.int i,b,_,hb=>by cases b <;> simp [okD,D.py,PyData.eqv] at hb ⊢
 | n,m,.str s,b,_,hb=>by cases b <;> simp [okD,D.py,PyData.eqv] at hb ⊢
 | 0,m,.tup xs,b,h,hb=>by simp [okD] at h
 | n+1,m,.tup xs,b,h,hb=>by
  cases b with
  | tup ys =>
   cases m with
   | zero=>simp [okD] at hb
   | succ m =>
    have:=zeF n m xs ys h hb
    rw [show PyData.eqv (D.tup xs).py (D.tup ys).py=PyData.eqvAll (D.pys xs) (D.pys ys) from rfl,this]
    exact ⟨fun e=>by rw [e],fun e=>by cases e; rfl⟩
  | _=>simp [okD,D.py,PyData.eqv] at hb ⊢
 | 0,m,.lst xs,b,h,hb=>by simp [okD] at h
 | n+1,m,.lst xs,b,h,hb=>by
  cases b with
  | lst ys =>
   cases m with
   | zero=>simp [okD] at hb
   | succ m =>
    have:=zeF n m xs ys h hb
    rw [show PyData.eqv (D.lst xs).py (D.lst ys).py=PyData.eqvAll (D.pys xs) (D.pys ys) from rfl,this]
    exact ⟨fun e=>by rw [e],fun e=>by cases e; rfl⟩
  | _=>simp [okD,D.py,PyData.eqv] at hb ⊢
 | _,_,.bl _,_,h,_=>by simp [okD] at h
 | _,_,.dK _,_,h,_=>by simp [okD] at h
 | _,_,.dT _,_,h,_=>by simp [okD] at h
 | _,_,.exc _,_,h,_=>by simp [okD] at h
 | _,_,.tupN _,_,h,_=>by simp [okD] at h
theorem zeF:∀ (n m:Nat) (a b:List D),okDs n a=true -> okDs m b=true -> (PyData.eqvAll (D.pys a) (D.pys b)=true ↔ a=b)
 | _,_,[],[],_,_=>by simp [D.pys,PyData.eqvAll]
 | _,_,[],y :: ys,_,_=>by simp [D.pys,PyData.eqvAll]
 | _,_,x :: xs,[],_,_=>by simp [D.pys,PyData.eqvAll]
 | n,m,x :: xs,y :: ys,h,h2=>by
  have h:=Bool.and_eq_true_iff.mp (show (okD n x && okDs n xs)=true from h)
  have h2:=Bool.and_eq_true_iff.mp (show (okD m y && okDs m ys)=true from h2)
  show (PyData.eqv x.py y.py && PyData.eqvAll (D.pys xs) (D.pys ys))=true ↔ _
  rw [Bool.and_eq_true,zcO n m x y h.1 h2.1,zeF n m xs ys h.2 h2.2]
  simp
end
theorem zkZ {n:Nat}:∀ {xs:List D},(∀ x ∈ xs,okD n x=true) -> okDs n xs=true
 | [],_=>rfl
 | x :: xs,h=>by
  show (okD n x && okDs n xs)=true
  rw [h x (by simp),zkZ fun y hy=>h y (by simp [hy])]; rfl
theorem zba {α:Type} {n:Nat} {enc:α -> D} {xs:List α} (h:∀ x ∈ xs,okD n (enc x)=true):okDs n (xs.map enc)=true:=zkZ fun y hy=>by
 obtain ⟨x,hx,rfl⟩:=List.mem_map.mp hy
 exact h x hx
theorem zhn {n:Nat}:∀ {xs:List D},okDs n xs=true -> ∀ x ∈ xs,okD n x=true
 | [],_,x,hx=>by cases hx
 | y :: xs,h,x,hx=>by
  have h:=Bool.and_eq_true_iff.mp (show (okD n y && okDs n xs)=true from h)
  rcases List.mem_cons.mp hx with rfl | hx
  ·exact h.1
  ·exact zhn h.2 x hx
mutual
theorem zho:∀ (n m:Nat) (d:D),n <= m -> okD n d=true -> okD m d=true
 | _,_,.non,_,_=>rfl
 | _,_,.int _,_,_=>rfl
 | _,_,.str s,_,h=>h
 | 0,_,.tup xs,_,h=>by simp [okD] at h
 | n+1,0,.tup xs,l,h=>by omega
 | n+1,m+1,.tup xs,l,h=>zgn n m xs (by omega) h
 | 0,_,.lst xs,_,h=>by simp [okD] at h
 | n+1,0,.lst xs,l,h=>by omega
 | n+1,m+1,.lst xs,l,h=>zgn n m xs (by omega) h
 | _,_,.bl _,_,h=>by simp [okD] at h
 | _,_,.dK _,_,h=>by simp [okD] at h
 | _,_,.dT _,_,h=>by simp [okD] at h
 | _,_,.exc _,_,h=>by simp [okD] at h
 | _,_,.tupN _,_,h=>by simp [okD] at h
theorem zgn:∀ (n m:Nat) (d:List D),n <= m -> okDs n d=true -> okDs m d=true
 | _,_,[],_,_=>rfl
 | n,m,x :: xs,l,h=>by
  have h:=Bool.and_eq_true_iff.mp (show (okD n x && okDs n xs)=true from h)
  show (okD m x && okDs m xs)=true
  rw [zho n m x l h.1,zgn n m xs l h.2]; rfl
end
theorem zoA {a b:D} {p:Prop} [Decidable p] {n m:Nat} (ha:okD n a=true) (hb:okD m b=true) (h:a=b ↔ p) (hn:n <= 64:=by decide) (hm:m <= 64:=by decide):dCmp .eq a b=.ok (decide p):=by
 show R.when (a.shaped && b.shaped) (.ok (PyData.eqv a.py b.py))=_
 rw [zbk ha hn,zbk hb hm]
 show R.ok _=R.ok _
 congr 1
 have:=zcO n m a b ha hb
 rw [h] at this
 by_cases c:p
 ·rw [decide_eq_true c,this.mpr c]
 ·rw [decide_eq_false c]
  cases e:PyData.eqv a.py b.py with
  | false=>rfl
  | true=>exact absurd (this.mp e) c
theorem zk0 {a b:D} {p:Prop} [Decidable p] {n m:Nat} (ha:okD n a=true) (hb:okD m b=true) (h:a=b ↔ p) (hn:n <= 64:=by decide) (hm:m <= 64:=by decide):dCmp .ne a b=.ok (!decide p):=by
 show (dCmp .eq a b).bind (fun c=>.ok (!c))=_
 rw [zoA ha hb h hn hm]; rfl
theorem zst {x:D} {xs:List D} {p:Prop} [Decidable p] {n m:Nat} (hx:okD n x=true) (hs:okDs m xs=true) (h:x ∈ xs ↔ p) (hn:n <= 64:=by decide) (hm:m < 64:=by decide):dCmp .isin x (.lst xs)=.ok (decide p):=by
 have hl:okD (m+1) (.lst xs)=true:=hs
 show R.when (x.shaped && D.shaped (.lst xs)) (.ok (xs.any fun z=>PyData.eqv z.py x.py))=_
 rw [zbk hx hn,zbk hl hm]
 show R.ok _=R.ok _
 congr 1
 have e:∀ ys:List D,(∀ y ∈ ys,okD m y=true) -> ((ys.any fun z=>PyData.eqv z.py x.py)=true ↔ x ∈ ys):=fun ys hy=>by
  rw [List.any_eq_true]
  constructor
  ·rintro ⟨y,h1,h2⟩
   rw [(zcO m n y x (hy y h1) hx).mp h2] at h1
   exact h1
  ·intro h1
   exact ⟨x,h1,(zcO m n x x (hy x h1) hx).mpr rfl⟩
 have:=e xs (zhn hs)
 rw [h] at this
 by_cases c:p
 ·rw [decide_eq_true c,this.mpr c]
 ·rw [decide_eq_false c]
  cases e:(xs.any fun z=>PyData.eqv z.py x.py) with
  | false=>rfl
  | true=>exact absurd (this.mp e) c
theorem zk1 {α β:Type} {f:α -> β} (h:∀ x y,f x=f y -> x=y):∀ {xs ys:List α},xs.map f=ys.map f -> xs=ys
 | [],[],_=>rfl
 | [],_ :: _,e=>by cases e
 | _ :: _,[],e=>by cases e
 | x :: xs,y :: ys,e=>by
  rw [List.map_cons,List.map_cons] at e
  obtain ⟨e1,e2⟩:=List.cons.inj e
  rw [h x y e1,zk1 h e2]
def ltI:List Int -> List Int -> Bool
 | _,[]=>false | [],_ :: _=>true
 | a :: as,b :: bs=>if a=b then ltI as bs else decide (a < b)
theorem lexI:∀ as bs:List Int,PyProof.Rows.lexLt PyProof.Rows.itemOrd (PySem.W.keyToksAll (as.map .int)) (PySem.W.keyToksAll (bs.map .int))=ltI as bs
 | [],[]=>by decide
 | [],b :: bs=>by
  show PyProof.Rows.lexLt PyProof.Rows.itemOrd [Sum.inl 0] (Sum.inl 1 :: _)=true
  rw [lex_diff (O:=PyProof.Rows.itemOrd) (by simp)]; rfl
 | a :: as,[]=>by
  show PyProof.Rows.lexLt PyProof.Rows.itemOrd (Sum.inl 1 :: _) [Sum.inl 0]=false
  rw [lex_diff (O:=PyProof.Rows.itemOrd) (by simp)]; rfl
 | a :: as,b :: bs=>by
  rw [ltI]
  by_cases c:a=b
  ·subst c
   rw [if_pos rfl,<- lexI as bs]
   exact PySem.W.dataLt_all_yes (x:=.int a) (y:=.int a) rfl (by simp [PyData.eqv])
  ·rw [if_neg c]
   show PyProof.Rows.lexLt PyProof.Rows.itemOrd (PySem.W.keyToksAll (.int a :: as.map .int)) (PySem.W.keyToksAll (.int b :: bs.map .int))=_
   rw [PySem.W.dataLt_all_no (x:=.int a) (y:=.int b) rfl (by simpa [PyData.eqv] using c),PySem.W.dataLt_int]
theorem zoB:∀ as bs:List Int,PySem.W.alikeAll (as.map .int) (bs.map .int)=true
 | [],_=>by simp [PySem.W.alikeAll]
 | _ :: _,[]=>by simp [PySem.W.alikeAll]
 | a :: as,b :: bs=>by
  show (PySem.W.alike (.int a) (.int b) && PySem.W.alikeAll (as.map .int) (bs.map .int))=true
  rw [zoB as bs]; rfl
theorem znG (as:List Int):okD 1 (.tup (as.map .int))=true:=zba (enc:=D.int) fun _ _=>rfl
end L2.Pf
namespace L2.Pf
open PySem PySem.Spec PyProof.Rows
abbrev TmR:=List (List Int × Int)
def rowD (es:List Int):D:=.tup (es.map .int)
def dtD (tm:TmR):D:=.dT (tm.map fun t=>(t.1.map Sum.inl,.int t.2))
def getT (tm:TmR) (es:List Int):Option Int:=(tm.find? fun t=>decide (t.1=es)).map (·.2)
def putT (tm:TmR) (es:List Int) (c:Int):TmR:=if (tm.find? fun t=>decide (t.1=es)).isSome then tm.map (fun t=>if t.1=es then (t.1,c) else t) else tm ++ [(es,c)]
theorem zqS (a:List Int):okD 1 (rowD a)=true:=znG a
theorem zdw:∀ es:List Int,keysD (es.map .int)=some (es.map Sum.inl)
 | []=>rfl
 | e :: es=>by
  rw [List.map_cons,keysD,zdw es]; rfl
theorem inl_inj {a b:List Int}:((a.map Sum.inl:List Key)=b.map Sum.inl) ↔ a=b:=⟨zk1 fun x y e=>Sum.inl.inj e,fun e=>by rw [e]⟩
theorem zgo (es:List Int):∀ tm:TmR,((tm.map fun t=>((t.1.map Sum.inl:List Key),D.int t.2)).find? fun kv=>decide (kv.1=(es.map Sum.inl:List Key)))=(tm.find? fun t=>decide (t.1=es)).map fun t=>((t.1.map Sum.inl:List Key),D.int t.2)
 | []=>rfl
 | t :: tm=>by
  rw [List.map_cons,List.find?_cons,List.find?_cons]
  have:decide ((t.1.map Sum.inl:List Key)=es.map Sum.inl)=decide (t.1=es):=by
   by_cases c:t.1=es
   ·rw [decide_eq_true c,decide_eq_true (inl_inj.mpr c)]
   ·rw [decide_eq_false c,decide_eq_false fun z=>c (inl_inj.mp z)]
  rw [this]
  cases decide (t.1=es) with
  | true=>rfl
  | false=>exact zgo es tm
theorem zhp (tm:TmR) (es:List Int):dLook (dtD tm) (rowD es)=.ok ((getT tm es).map .int):=by
 show (R.of (keysD (es.map .int))).bind (fun k=>R.ok (look (tm.map fun t=>((t.1.map Sum.inl:List Key),D.int t.2)) k))=_
 rw [zdw]
 show R.ok (look _ _)=_
 unfold look getT
 rw [zgo]
 cases tm.find? fun t=>decide (t.1=es) <;> rfl
theorem zk2 {tm:TmR} {es:List Int} {c:Int} (h:getT tm es=some c):dIdx (dtD tm) (rowD es)=.ok (.int c):=by
 show (dLook (dtD tm) (rowD es)).bind (fun o=>R.of o)=_
 rw [zhp,h]; rfl
theorem zk3 (tm:TmR) (es:List Int) (d:Int):meEv .get2 (dtD tm) [rowD es,.int d]=.ok (.int ((getT tm es).getD d)):=by
 show (dLook (dtD tm) (rowD es)).bind (fun o=>R.ok (o.getD (.int d)))=_
 rw [zhp]
 cases getT tm es <;> rfl
theorem zk4 {tm:TmR} {es:List Int} {c:Int} (hl:tm.length < 16777216):dSet (dtD tm) (rowD es) (.int c)=.ok (dtD (putT tm es c)):=by
 show R.when (decide ((tm.map fun t=>((t.1.map Sum.inl:List Key),D.int t.2)).length < sizeLine)) ((R.of (keysD (es.map .int))).bind fun k=>R.ok (D.dT (put (tm.map fun t=>((t.1.map Sum.inl:List Key),D.int t.2)) k (.int c))))=_
 rw [zaW (zeD (by rw [List.length_map]; exact hl)),zdw]
 show R.ok (D.dT (put _ _ _))=_
 unfold put putT dtD
 rw [zgo,Option.isSome_map]
 split
 ·rw [List.map_map,List.map_map]
  congr 2
  refine List.map_congr_left fun t _=>?_
  show (if (t.1.map Sum.inl:List Key)=es.map Sum.inl then ((t.1.map Sum.inl:List Key),D.int c) else (t.1.map Sum.inl,D.int t.2))=_
  by_cases e:t.1=es
  ·rw [if_pos (inl_inj.mpr e)]
   show _=(((if t.1=es then (t.1,c) else t).1.map Sum.inl:List Key),D.int (if t.1=es then (t.1,c) else t).2)
   rw [if_pos e]
  ·rw [if_neg fun z=>e (inl_inj.mp z)]
   show _=(((if t.1=es then (t.1,c) else t).1.map Sum.inl:List Key),D.int (if t.1=es then (t.1,c) else t).2)
   rw [if_neg e]
 ·rw [List.map_append]; rfl
theorem zqT (tm:TmR):zcR (dtD tm)=.ok ((tm.map (·.1)).map rowD):=by
 show R.ok ((tm.map fun t=>((t.1.map Sum.inl:List Key),D.int t.2)).map fun kv=>D.tup (kv.1.map keyV))=_
 rw [List.map_map,List.map_map]
 congr 1
 refine List.map_congr_left fun t _=>?_
 show D.tup ((t.1.map Sum.inl).map keyV)=D.tup (t.1.map .int)
 rw [List.map_map]; rfl
theorem zk5 {tm:TmR} {es:List Int} {c:Int} (h:getT tm es=some c):(es,c) ∈ tm:=by
 unfold getT at h
 cases e:tm.find? fun t=>decide (t.1=es) with
 | none=>rw [e] at h; cases h
 | some t =>
  rw [e] at h
  cases h
  have h1:=List.mem_of_find?_eq_some e
  have h3:=List.find?_some e
  have h2:t.1=es:=by simpa using h3
  rw [<- h2]; exact h1
theorem getT_key {tm:TmR} {es:List Int}:(getT tm es).isSome=true ↔ es ∈ tm.map (·.1):=by
 unfold getT
 rw [Option.isSome_map,List.find?_isSome]
 constructor
 ·rintro ⟨t,h1,h2⟩
  exact List.mem_map.mpr ⟨t,h1,of_decide_eq_true h2⟩
 ·intro h
  obtain ⟨t,h1,h2⟩:=List.mem_map.mp h
  exact ⟨t,h1,decide_eq_true h2⟩
theorem zbl {tm:TmR} {es:List Int} {c:Int}:(putT tm es c).map (·.1)=if es ∈ tm.map (·.1) then tm.map (·.1) else tm.map (·.1) ++ [es]:=by
 have k:(tm.find? fun t=>decide (t.1=es)).isSome=true ↔ es ∈ tm.map (·.1):=by
  have:=getT_key (tm:=tm) (es:=es)
  unfold getT at this
  rwa [Option.isSome_map] at this
 unfold putT
 by_cases h:es ∈ tm.map (·.1)
 ·rw [if_pos h,if_pos (k.mpr h),List.map_map]
  refine List.map_congr_left fun t _=>?_
  show (if t.1=es then (t.1,c) else t).1=t.1
  split <;> rfl
 ·rw [if_neg h,if_neg fun z=>h (k.mp z),List.map_append]; rfl
theorem zd2 {tm:TmR} {es:List Int} {c:Int} (nd:(tm.map (·.1)).Nodup):((putT tm es c).map (·.1)).Nodup:=by
 rw [zbl]
 split
 ·exact nd
 ·rename_i h
  rw [List.nodup_append]
  exact ⟨nd,by simp,fun a ha b hb=>by
   rw [List.mem_singleton.mp hb]
   intro e
   rw [e] at ha
   exact h ha⟩
theorem zdx {tm:TmR} {es fs:List Int} {c:Int}:getT (putT tm es c) fs=if fs=es then some c else getT tm fs:=by
 have k:(tm.find? fun t=>decide (t.1=es)).isSome=true ↔ es ∈ tm.map (·.1):=by
  have:=getT_key (tm:=tm) (es:=es)
  unfold getT at this
  rwa [Option.isSome_map] at this
 unfold putT
 by_cases h:es ∈ tm.map (·.1)
 ·rw [if_pos (k.mpr h)]
  clear k
  induction tm with
  | nil=>cases h
  | cons a tm ih =>
   unfold getT
   rw [List.map_cons,List.find?_cons,List.find?_cons]
   by_cases ca:a.1=es
   ·rw [if_pos ca]
    by_cases cf:fs=es
    ·rw [if_pos cf]
     have:decide (a.1=fs)=true:=decide_eq_true (by rw [ca,cf])
     simp only [this,Option.map_some]
    ·rw [if_neg cf]
     have:decide (a.1=fs)=false:=decide_eq_false fun z=>cf (by rw [<- z,ca])
     simp only [this]
     show getT (tm.map fun t=>if t.1=es then (t.1,c) else t) fs=getT tm fs
     by_cases h2:es ∈ tm.map (·.1)
     ·rw [ih h2,if_neg cf]
     ·congr 1
      have:tm.map (fun t=>if t.1=es then (t.1,c) else t)=tm.map id:=List.map_congr_left fun t ht=>by
       show (if t.1=es then (t.1,c) else t)=t
       rw [if_neg fun z=>h2 (by rw [<- z]; exact List.mem_map.mpr ⟨t,ht,rfl⟩)]
      rw [this,List.map_id]
   ·rw [if_neg ca]
    have h2:es ∈ tm.map (·.1):=by
     rw [List.map_cons,List.mem_cons] at h
     exact h.resolve_left fun z=>ca z.symm
    have ih:=ih h2
    unfold getT at ih
    by_cases cf:a.1=fs
    ·rw [decide_eq_true cf]
     show some a.2=_
     rw [if_neg fun z=>ca (by rw [cf,z])]; rfl
    ·rw [decide_eq_false cf]
     exact ih
 ·rw [if_neg fun z=>h (k.mp z)]
  unfold getT
  rw [List.find?_append]
  by_cases cf:fs=es
  ·subst cf
   rw [if_pos rfl]
   cases e:tm.find? fun t=>decide (t.1=fs) with
   | none=>simp
   | some t=>exact absurd (k.mp (by rw [e]; rfl)) h
  ·rw [if_neg cf]
   cases e:tm.find? fun t=>decide (t.1=fs) with
   | none =>
    simp only [Option.none_or,List.find?_cons,List.find?_nil]
    rw [decide_eq_false fun z=>cf z.symm]
   | some t=>simp
theorem zeG (tm:TmR) (es:List Int) (c:Int):(putT tm es c).length <= tm.length+1:=by
 unfold putT
 split
 ·rw [List.length_map]; omega
 ·rw [List.length_append,List.length_singleton]; exact Nat.le_refl _
def leI (a b:List Int):Bool:=!ltI b a
def sortR (l:List (List Int)):List (List Int):=l.mergeSort leI
theorem zic (a b:List Int):leI a b=PySem.W.dataLe false D.py (rowD a) (rowD b):=by
 show (!ltI b a)=(!PyProof.Rows.lexLt PyProof.Rows.itemOrd (PySem.W.keyToks (D.tup (b.map .int)).py) (PySem.W.keyToks (D.tup (a.map .int)).py))
 rw [show (D.tup (b.map .int)).py=.tuple (D.pys (b.map .int)) from rfl,show (D.tup (a.map .int)).py=.tuple (D.pys (a.map .int)) from rfl,zc6,zc6]
 show _=(!PyProof.Rows.lexLt PyProof.Rows.itemOrd (PySem.W.keyToksAll (b.map .int)) (PySem.W.keyToksAll (a.map .int)))
 rw [lexI]
theorem zk6 {l:List (List Int)} (h:∀ es ∈ l,es ≠ []) (hl:l.length <= 16777216):sortD (l.map rowD)=.ok ((sortR l).map rowD):=by
 have ok:zcQ (l.map rowD)=true:=by
  unfold zcQ
  rw [Bool.and_eq_true,Bool.and_eq_true]
  refine ⟨⟨?_,?_⟩,zeC (by rw [List.length_map]; exact hl)⟩
  ·rw [List.all_eq_true]
   intro x hx
   obtain ⟨a,_,rfl⟩:=List.mem_map.mp hx
   rw [Bool.and_eq_true]
   refine ⟨zbk (zqS a) (by decide),?_⟩
   rw [List.all_eq_true]
   intro y hy
   obtain ⟨b,_,rfl⟩:=List.mem_map.mp hy
   show PySem.W.alikeAll (D.pys (a.map .int)) (D.pys (b.map .int))=true
   rw [zc6,zc6,zoB]
  ·rw [Bool.or_eq_true]
   refine .inl (List.all_eq_true.mpr fun x hx=>?_)
   obtain ⟨a,ha,rfl⟩:=List.mem_map.mp hx
   have:=h a ha
   cases a with
   | nil=>exact absurd rfl this
   | cons e es=>rfl
 show R.when (zcQ (l.map rowD)) (R.ok ((l.map rowD).mergeSort (PySem.W.dataLe false D.py)))=_
 rw [zaW ok]
 congr 1
 exact (List.map_mergeSort fun a _ b _=>zic a b).symm
theorem zd3 {tm:TmR} (h:∀ es ∈ tm.map (·.1),es ≠ []) (hl:tm.length <= 16777216):biEv .sorted [dtD tm]=.ok (.lst ((sortR (tm.map (·.1))).map rowD)):=by
 have e:((tm.map fun t=>((t.1.map Sum.inl:List Key),D.int t.2)).map fun kv=>D.tup (kv.1.map keyV))=(tm.map (·.1)).map rowD:=by
  have:=zqT tm
  exact R.ok.inj this
 show (sortD ((tm.map fun t=>((t.1.map Sum.inl:List Key),D.int t.2)).map fun kv=>D.tup (kv.1.map keyV))).bind (fun r=>R.ok (D.lst r))=_
 rw [e,zk6 h (by rw [List.length_map]; exact hl)]; rfl
theorem zaK (l:List (List Int)):(sortR l).Perm l:=List.mergeSort_perm l leI
end L2.Pf
namespace L2.Pf
open PySem PySem.Spec PyProof.Rows
section
variable (G:Str -> Option D) (F:Fn) (wf:Nat) (o:Option D) (ρ:Env)
theorem zqU (i:Nat) (a e:E):evS G F wf (.insert i a e) (o :: ρ)=(getV (o :: ρ) i).bind fun o2=>(lstD o2).bind fun xs=>(evE G F a (o :: ρ)).bind fun k=>(evE G F e (o :: ρ)).bind fun x=>(dInt k).bind fun n =>
  R.when (decide (xs.length < sizeLine) && decide (0 <= n) && decide (n < 2 ^ 63)) (.ok (.next,(o :: ρ).set i (some (.lst (xs.take n.toNat ++ [x] ++ xs.drop n.toNat))))):=by
 show (getV (o :: ρ) i).bind _=_
 congr 1
 funext o2
 cases o2 <;> rfl
theorem znH (i:Nat) (x:Xp):evS G F wf (.xasg i x) (o :: ρ)=(R.nox (evX G F x (o :: ρ))).bind fun q=>.ok (.next,q.2.set i (some q.1)):=by rfl
theorem zk7 (is:List Nat) (x:Xp):evS G F wf (.xasgT is x) (o :: ρ)=(R.nox (evX G F x (o :: ρ))).bind fun q=>(setT (.many is) q.1 q.2).bind fun ρ=>.ok (.next,ρ):=by rfl
theorem znI (x:Xp):evS G F wf (.xret x) (o :: ρ)=(R.nox (evX G F x (o :: ρ))).bind fun q=>.ok (.ret q.1,q.2):=by rfl
theorem znJ (e:E):evX G F (.pure e) (o :: ρ)=(evE G F e (o :: ρ)).bind fun d=>.ok (d,(o :: ρ)):=by rfl
theorem znK (f:Str) (args:Es) (k p:Nat):evX G F (.call f args k p) (o :: ρ)=(evEs G F args (o :: ρ)).bind fun ds=>(F f ds).bind fun r=>ioR (o :: ρ) p r:=by rfl
theorem zk8 (f:Str) (args:Es) (k:Nat):evX G F (.callF f args k) (o :: ρ)=(evEs G F args (o :: ρ)).bind fun ds=>(F f ds).bind fun r=>ioF (o :: ρ) (mutK ds k) r:=by rfl
theorem zk9 (f:Str) (args:Xps) (im:Bool):evX G F (.callP f args im) (o :: ρ)=(evXs G F args (o :: ρ)).bind fun q=>(F f q.1).bind fun r=>R.when (r.2.isEmpty && (!im || r.1.imm)) (.ok (r.1,q.2)):=by rfl
theorem zqV (xs:Xps):evX G F (.tup xs) (o :: ρ)=(evXs G F xs (o :: ρ)).bind fun q=>R.when (decide (q.1.length <= sizeLine)) (.ok (.tup q.1,q.2)):=by rfl
theorem zla (x:Xp):evX G F (.tupOf x) (o :: ρ)=(evX G F x (o :: ρ)).bind fun q=>(lstD q.1).bind fun xs=>.ok (.tup xs,q.2):=by rfl
theorem zsu (x:Xp) (tg:Tg) (it:It) (own:List Nat) (p:Nat):evX G F (.lc x tg it own p) (o :: ρ)=(evI G F it (o :: ρ)).bind fun xs=>(lcX tg own p (evX G F x) xs (o :: ρ)).bind fun q=>R.when (decide (q.1.length <= sizeLine)) (.ok (.lst q.1,q.2)):=by rfl
theorem zqW (op:BOp) (a:Xp) (b:E):evX G F (.bin op a b) (o :: ρ)=(evX G F a (o :: ρ)).bind fun q=>(evE G F b q.2).bind fun y=>(dBin op q.1 y).bind fun d=>.ok (d,q.2):=by rfl
theorem znL:evXs G F .nil (o :: ρ)=.ok ([],(o :: ρ)):=by rfl
theorem zlb (x:Xp) (r:Xps):evXs G F (.cons x r) (o :: ρ)=(evX G F x (o :: ρ)).bind fun q=>(evXs G F r q.2).bind fun w=>.ok (q.1 :: w.1,w.2):=by rfl
theorem zqX (p:Nat) (d d2:D):ioR ρ p (d,[d2])=R.when (d2.mut && mutAt ρ p) (.ok (d,ρ.set p (some d2))):=by rfl
theorem zqY (m:Bool) (d d2:D):ioF ρ m (d,[d2])=R.when m (.ok (d,ρ)):=by rfl
end
theorem zqZ (d:D) (ρ:Env):mutAt (some d :: ρ) 0=d.mut:=by rfl
theorem zq0 (o:Option D) (ρ:Env) (i:Nat):mutAt (o :: ρ) (i+1)=mutAt ρ i:=by rfl
theorem zq1 (xs:List D):D.mut (.lst xs)=true:=by rfl
theorem zsv (d:D) (ds:List D):mutK (d :: ds) 0=d.mut:=by rfl
theorem zsw (d:D) (ds:List D) (i:Nat):mutK (d :: ds) (i+1)=mutK ds i:=by rfl
theorem zsx (d:Option D) (ρ:Env):getO (d :: ρ) 0=d:=by rfl
theorem zsy (o:Option D) (ρ:Env) (i:Nat):getO (o :: ρ) (i+1)=getO ρ i:=by rfl
theorem zq2 {α:Type} (a:α):R.nox (.ok a)=.ok a:=by rfl
def FinO (i:Nat) (Q:D × List D -> Prop):Fl × Env -> Prop
 | (.ret d,ρ)=>Q (d,outs ρ [i]) | (.next,ρ)=>Q (.non,outs ρ [i]) | (.brk,_)=>False | (.cont,_)=>False
theorem znM (i:Nat) (Q:D × List D -> Prop) (d:D) (ρ:Env):FinO i Q (.ret d,ρ)=Q (d,outs ρ [i]):=by rfl
theorem zlc (i:Nat) (Q:D × List D -> Prop) (ρ:Env):FinO i Q (.next,ρ)=Q (.non,outs ρ [i]):=by rfl
theorem znN (ρ:Env) (i:Nat):outs ρ [i]=[(getO ρ i).getD .non]:=by rfl
theorem Wp.fnO {G:Str -> Option D} {T:List Def} {wf n i:Nat} {f:Str} {ds:List D} {Q:D × List D -> Prop} (d:Def) (h:findD T f=some d) (hl:ds.length=d.ps.length) (hio:d.io=[i])
  (w:Wp (evSs G (evF G T wf n) wf d.body (zaJ d.N.length ds)) (FinO i Q) NoX):Wp (evF G T wf (n+1) f ds) Q NoX:=by
 rw [evF_s h hl,hio]
 cases e:evSs G (evF G T wf n) wf d.body (zaJ d.N.length ds) with
 | ok p =>
  rw [e] at w
  obtain ⟨fl,ρ⟩:=p
  cases fl with
  | ret d=>exact ⟨w.h⟩
  | next=>exact ⟨w.h⟩
  | brk=>exact w.h.elim
  | cont=>exact w.h.elim
 | exc c=>rw [e] at w; exact w.h.elim
 | bad=>rw [e] at w; exact w.no.elim
section
variable {α β:Type} {tg:Tg} {own:List Nat} {p:Nat} {body:Env -> R (D × Env)} {Q:β -> Prop} {enc:α -> D} {k:List D × Env -> R β}
end
theorem znO {G:Str -> Option D} {F:Fn} {o:Option D} {ρ:Env} (a b c:E):evI G F (.zip3 a b c) (o :: ρ)=(evE G F a (o :: ρ)).bind fun x=>(evE G F b (o :: ρ)).bind fun y=>(evE G F c (o :: ρ)).bind fun z=>(ltsD x).bind fun xs=>(ltsD y).bind fun ys=>(ltsD z).bind fun zs=>.ok (zip3D xs ys zs):=by rfl
section
variable (G:Str -> Option D) (F:Fn) (wf:Nat) (o:Option D) (ρ:Env)
theorem znP (a:E) (lo k:Nat):evE G F (.stpL a lo k) (o :: ρ)=(evE G F a (o :: ρ)).bind fun x=>(lstD x).bind fun xs=>.ok (.lst (pickL xs lo k)):=by rfl
theorem zld (a:E):evE G F (.valsL a) (o :: ρ)=(evE G F a (o :: ρ)).bind fun x=>(ziD x).bind fun xs=>.ok (.lst xs):=by rfl
theorem znQ (a lo:E) (hi k:Nat):evE G F (.stpB a lo hi k) (o :: ρ)=(evE G F a (o :: ρ)).bind fun x=>(lstD x).bind fun xs=>(evE G F lo (o :: ρ)).bind fun y=>(dInt y).bind fun i=>.ok (.lst (pickB xs i hi k)):=by rfl
theorem zid (a:E):evE G F (.itemsL a) (o :: ρ)=(evE G F a (o :: ρ)).bind fun x=>(ziE x).bind fun xs=>.ok (.lst xs):=by rfl
theorem znR (a b:E):evE G F (.zipL a b) (o :: ρ)=(evE G F a (o :: ρ)).bind fun x=>(evE G F b (o :: ρ)).bind fun y=>(zip2D x y).bind fun zs=>R.when (decide (zs.length <= sizeLine)) (.ok (.lst zs)):=by rfl
theorem znS (a:E) (c:Int):evE G F (.maxD a c) (o :: ρ)=(evE G F a (o :: ρ)).bind fun x=>(lstD x).bind fun xs=>(R.of (intsD xs)).bind fun ns=>.ok (.int (maxDI c ns)):=by rfl
theorem zq3 (neg:Bool) (a b:E):evE G F (.inR neg a b) (o :: ρ)=(evE G F a (o :: ρ)).bind fun x=>(evE G F b (o :: ρ)).bind fun y=>(dInt x).bind fun i=>(dInt y).bind fun j=>R.when (rngOk j) (.ok (.bl (if neg=true then !(decide (0 <= i) && decide (i < j)) else decide (0 <= i) && decide (i < j)))):=by rfl
theorem zie (i j:Nat) (a b:D) (ρ:Env):setT (.many [i,j]) (.lst [a,b]) ρ=.ok ((ρ.set i (some a)).set j (some b)):=by rfl
theorem znT (i:Nat) (x:Xp):evS G F wf (.xapp i x) (o :: ρ)=(getV (o :: ρ) i).bind fun o0=>(lstD o0).bind fun _=>(R.nox (evX G F x (o :: ρ))).bind fun q=>(getV q.2 i).bind fun o=>(lstD o).bind fun xs=>R.when (decide (xs.length < sizeLine)) (.ok (.next,q.2.set i (some (.lst (xs ++ [q.1]))))):=by rfl
theorem zq4 (neg:Bool) (x:Xp) (a b:Ss):evS G F wf (.xif neg x a b) (o :: ρ)=(R.nox (evX G F x (o :: ρ))).bind fun q=>(zac q.1).bind fun k=>if (k != neg)=true then evSs G F wf a q.2 else evSs G F wf b q.2:=by rfl
theorem znU (p:Nat) (k v:E):evX G F (.setd p k v) (o :: ρ)=(getV (o :: ρ) p).bind fun o2=>(evE G F k (o :: ρ)).bind fun x=>(evE G F v (o :: ρ)).bind fun y=>(setdD o2 x y).bind fun w=>R.when (w.2.mut && mutAt (o :: ρ) p) (.ok (w.1,(o :: ρ).set p (some w.2))):=by rfl
theorem znV (op:COp) (a:Xp) (b:E):evX G F (.cmpX op a b) (o :: ρ)=(evX G F a (o :: ρ)).bind fun q=>(evE G F b q.2).bind fun y=>(dCmp op q.1 y).bind fun d=>.ok (.bl d,q.2):=by rfl
def chC3 (G:Str -> Option D) (F:Fn) (p q:COp) (c d:E) (ρ:Env) (y:D) (k:Bool):R D:=if k=true then (evE G F c ρ).bind fun z=>(dCmp p y z).bind (chC G F q d ρ z) else .ok (.bl false)
theorem ch3_t (p q:COp) (c d:E) (ρ:Env) (y:D):chC3 G F p q c d ρ y true=(evE G F c ρ).bind fun z=>(dCmp p y z).bind (chC G F q d ρ z):=by rfl
theorem ch3_f (p q:COp) (c d:E) (ρ:Env) (y:D):chC3 G F p q c d ρ y false=.ok (.bl false):=by rfl
theorem zif (op p q:COp) (a b c d:E):evE G F (.chain3 op p q a b c d) (o :: ρ)=(evE G F a (o :: ρ)).bind fun x=>(evE G F b (o :: ρ)).bind fun y=>(dCmp op x y).bind (chC3 G F p q c d (o :: ρ) y):=by rfl
end
theorem zsz:(true != true)=false:=by rfl
theorem zsA:(true != false)=true:=by rfl
theorem zsB:(false != true)=true:=by rfl
theorem zsC:(false != false)=false:=by rfl
theorem zc8:∀ ks:List Str,strs' (ks.map D.str)=some ks
 | []=>rfl
 | k :: ks=>by rw [List.map_cons,strs',zc8 ks]; rfl
theorem zle (ks:List Str):biEv .tupN [.lst (ks.map .str)]=.ok (.tupN ks):=by
 show (R.of (strs' (ks.map D.str))).bind _=_
 rw [zc8]; rfl
theorem znW (ks:List Str):seqD (.tupN ks)=.ok (ks.map D.str):=by rfl
theorem zlf (ks:List Str):biEv .len [.tupN ks]=.ok (.int (ks.map D.str).length):=by rfl
theorem zig (ks:List Str):biEv .list [.tupN ks]=.ok (.lst (ks.map D.str)):=by rfl
def zhq (G:Str -> Option D) (F:Fn) (k x:Nat) (ex ix val:E) (d:D) (ρ:Env) (q:List (List Key × D) × List (List Key × D)):R (Env × List (List Key × D) × List (List Key × D)) :=
 R.when d.imm ((evE G F ex (ρ.set k (some d))).bind fun y=>R.when y.imm ((evE G F val ((ρ.set k (some d)).set x (some y))).bind fun v=>R.when v.imm ((evE G F ix ((ρ.set k (some d)).set x (some y))).bind fun j=>(keyT y).bind fun key=>(ziF j key v q).bind fun q=>.ok ((ρ.set k (some d)).set x (some y),q))))
section
variable {G:Str -> Option D} {F:Fn} {wf:Nat} {k x:Nat} {ex ix val:E}
theorem zlg (d:D) (ds:List D) (ρ:Env) (q:List (List Key × D) × List (List Key × D)):twoL G F k x ex ix val (d :: ds) ρ q=(zhq G F k x ex ix val d ρ q).bind fun w=>twoL G F k x ex ix val ds w.1 w.2:=by
 unfold zhq
 simp only [zhm,zkH,zd1]
 rfl
theorem Wp.two0 {α:Type} {enc:α -> D} {all:List α} (P:List α -> Env -> List (List Key × D) × List (List Key × D) -> Prop)
  (h:∀ pre v post ρ q,all=pre ++ v :: post -> P pre ρ q -> Wp (zhq G F k x ex ix val (enc v) ρ q) (fun w=>P (pre ++ [v]) w.1 w.2) NoX) :
  ∀ (xs pre:List α) (ρ:Env) (q:List (List Key × D) × List (List Key × D)),all=pre ++ xs -> P pre ρ q -> ∃ w,twoL G F k x ex ix val (xs.map enc) ρ q=.ok w /\ P all w.1 w.2
 | [],pre,ρ,q,e,hp=>⟨(ρ,q),rfl,by rw [e,List.append_nil]; exact hp⟩
 | v :: xs,pre,ρ,q,e,hp=>by
  obtain ⟨w,e1,hw⟩:=(h pre v xs ρ q e hp).ex
  obtain ⟨w2,e2,h2⟩:=Wp.two0 P h xs (pre ++ [v]) w.1 w.2 (by rw [e]; simp) hw
  exact ⟨w2,by rw [List.map_cons,zlg,e1]; exact e2,h2⟩
theorem Wp.two {α β:Type} {enc:α -> D} {kk:Env × List (List Key × D) × List (List Key × D) -> R β} {Q:β -> Prop} {xs:List α} {ρ:Env} {q:List (List Key × D) × List (List Key × D)} (P:List α -> Env -> List (List Key × D) × List (List Key × D) -> Prop) (h0:P [] ρ q)
  (h:∀ pre v post ρ q,xs=pre ++ v :: post -> P pre ρ q -> Wp (zhq G F k x ex ix val (enc v) ρ q) (fun w=>P (pre ++ [v]) w.1 w.2) NoX)
  (hQ:∀ w,P xs w.1 w.2 -> Wp (kk w) Q NoX):Wp ((twoL G F k x ex ix val (xs.map enc) ρ q).bind kk) Q NoX:=by
 obtain ⟨w,e,hw⟩:=Wp.two0 P h xs [] ρ q rfl h0
 rw [e]
 exact hQ w hw
theorem znX {o:Option D} {ρ:Env} (i:Nat) (it:It) (r:Ss):evSs G F wf (.two i k x it ex ix val r) (o :: ρ)=R.when (decide (i < (o :: ρ).length /\ x < (o :: ρ).length)) ((evI G F it ((((o :: ρ).set i none).set k none).set x none)).bind fun xs=>(twoL G F k x ex ix val xs ((((o :: ρ).set i none).set k none).set x none) ([],[])).bind fun q=>evSs G F wf r (q.1.set i (some (.lst [.dT q.2.1,.dT q.2.2])))):=by rfl
end
def rebD (ks:List Nat) (n:Nat) (ρ:Env):Env:=forgD (fun j d=>d.imm || ks.contains j && fltI d) n ρ
section
variable {G:Str -> Option D} {F:Fn} {wf:Nat} {o:Option D} {ρ:Env}
theorem znY (ks:List Nat) (r:Ss):evSs G F wf (.reb ks r) (o :: ρ)=evSs G F wf r (rebD ks 0 (o :: ρ)):=by rfl
def yngC (G:Str -> Option D) (F:Fn) (wf i:Nat) (ap:Ap) (r:Ss) (d:D) (w:Bool × Env):R (Fl × Env):=if w.1=true then (apEv ap i d w.2).bind fun ρ'=>evSs G F wf r ρ' else .ok (.ret (.bl false),w.2)
theorem zsD (i:Nat) (ap:Ap) (r:Ss) (d:D) (ρ:Env):yngC G F wf i ap r d (true,ρ)=(apEv ap i d ρ).bind fun ρ'=>evSs G F wf r ρ':=by rfl
theorem zsE (i:Nat) (ap:Ap) (r:Ss) (d:D) (ρ:Env):yngC G F wf i ap r d (false,ρ)=.ok (.ret (.bl false),ρ):=by rfl
theorem znZ (i:Nat) (f:Str) (args:Es) (gs:List Gd) (ap:Ap) (r:Ss):evSs G F wf (.yng i f args gs ap r) (o :: ρ)=R.when (decide (i < (o :: ρ).length) && decide (apX ap < (o :: ρ).length)) ((evEs G F args (o :: ρ)).bind fun ds=>(F f ds).bind fun q=>R.when q.2.isEmpty ((gdsEv G F gs ((o :: ρ).set i (some q.1))).bind (yngC G F wf i ap r q.1))):=by rfl
theorem zsF (j:Nat) (c:Int) (i:Nat) (xs:List D) (ρ:Env):apEv (.one j c) i (.tup xs) ρ=R.when (lenOk xs[j]?) (.ok (ρ.set i none)):=by rfl
theorem zsG (k lo n:Nat) (c:Int) (i:Nat) (xs:List D) (ρ:Env):apEv (.all k lo n c) i (.tup xs) ρ=R.when ((List.range n).all fun t=>lenOk xs[lo+t]?) (.ok ((ρ.set k none).set i none)):=by rfl
theorem zsH (x k i:Nat) (xs:List D) (ρ:Env):apEv (.clr x k) i (.lst xs) ρ=(clrL k xs).bind fun ys=>.ok ((ρ.set x none).set i (some (.lst ys))):=by rfl
theorem zq5 (j:Nat) (c:Int):apX (.one j c)=0:=by rfl
theorem zq6 (k lo n:Nat) (c:Int):apX (.all k lo n c)=k:=by rfl
theorem zq7 (x k:Nat):apX (.clr x k)=x:=by rfl
theorem zq8 (y:Nat) (e:E) (gs:List Gd):gdsEv G F (.asgI y e :: gs) (o :: ρ)=(evE G F e (o :: ρ)).bind fun d=>R.when d.imm (gdsEv G F gs ((o :: ρ).set y (some d))):=by rfl
theorem zn0 (xs:List D):tupD (.tup xs)=.ok xs:=by rfl
theorem zq9:gdsEv G F [] (o :: ρ)=.ok (true,o :: ρ):=by rfl
def gdI (G:Str -> Option D) (F:Fn) (gs:List Gd) (ρ:Env) (b:Bool):R (Bool × Env):=if b=true then .ok (false,ρ) else gdsEv G F gs ρ
theorem gdI_t (gs:List Gd):gdI G F gs ρ true=.ok (false,ρ):=by rfl
theorem gdI_f (gs:List Gd):gdI G F gs ρ false=gdsEv G F gs ρ:=by rfl
theorem zsI (e:E) (gs:List Gd):gdsEv G F (.ifF e :: gs) (o :: ρ)=(evT G F e (o :: ρ)).bind (gdI G F gs (o :: ρ)):=by rfl
def gdR (G:Str -> Option D) (F:Fn) (gs:List Gd) (q:Bool × Env):R (Bool × Env):=if q.1=true then gdsEv G F gs q.2 else .ok q
theorem gdR_t (gs:List Gd):gdR G F gs (true,ρ)=gdsEv G F gs ρ:=by rfl
theorem gdR_f (gs:List Gd):gdR G F gs (false,ρ)=.ok (false,ρ):=by rfl
theorem zra (k lo n:Nat) (e:E) (gs:List Gd):gdsEv G F (.forF k lo n e :: gs) (o :: ρ)=(forG G F k e (zaq lo n) (o :: ρ)).bind (gdR G F gs):=by rfl
def fgI (G:Str -> Option D) (F:Fn) (k:Nat) (e:E) (ds:List D) (ρ:Env) (b:Bool):R (Bool × Env):=if b=true then .ok (false,ρ) else forG G F k e ds ρ
theorem fgI_t (k:Nat) (e:E) (ds:List D):fgI G F k e ds ρ true=.ok (false,ρ):=by rfl
theorem fgI_f (k:Nat) (e:E) (ds:List D):fgI G F k e ds ρ false=forG G F k e ds ρ:=by rfl
theorem zn1 (k:Nat) (e:E):forG G F k e [] (o :: ρ)=.ok (true,o :: ρ):=by rfl
theorem zlh (k:Nat) (e:E) (d:D) (ds:List D):forG G F k e (d :: ds) (o :: ρ)=(evT G F e ((o :: ρ).set k (some d))).bind (fgI G F k e ds ((o :: ρ).set k (some d))):=by rfl
end
end L2.Pf
namespace L2.Pf
open PySem PySem.Spec PyProof.Rows
abbrev SaysL (fn:List He.DefD) (tbs:List (Str × List Str)) (EX:List Str) (gl:List He.Fa) (w:World) (h:Heap) (K:PySem.W.Frag):Prop:=He.SaysX (faOf fn tbs EX gl) fn [] [] (exB EX tbs) w h K
section
variable {fn:List He.DefD} {tbs:List (Str × List Str)} {EX:List Str} {gl:List He.Fa} {w:World} {h:Heap} {K:PySem.W.Frag} {mg:Str -> Option Value}
theorem zoC (c:SaysL fn tbs EX gl w h K) {x q:Str} {st:Stmt} (m:dfn x q st ∈ fn):∃ fd,Fun K q q st (He.ga K x) fd:=by
 obtain ⟨fd,F⟩:=He.SaysD.defs (He.SaysT.d c.t) m
 obtain ⟨oc,od,dV,kV,doc,pm,an,cdv,ct,osl,e,lk,hc,hd,_⟩:=F.ex
 have dn:dV=.none:=by
  rcases hd with z | z
  ·exact z.2
  ·exact absurd rfl z.1
 subst dn
 exact ⟨fd,⟨⟨oc,od,kV,doc,pm,an,cdv,ct,osl,e,lk,hc⟩,F.kp⟩⟩
theorem zoD (X:K.In h) (G0:h.Ns mainGlobals mg) (c:SaysL fn tbs EX gl w h K) {x q:Str} {st:Stmt} (m:dfn x q st ∈ fn):mg x=some (.ref (He.ga K x)) :=
 He.glo_ok X G0 (He.SaysD.facts (He.SaysT.d c.t) (f:=.glo x) (List.mem_append_left _ (List.mem_map.mpr ⟨_,m,rfl⟩)))
theorem zaz (X:K.In h) (G0:h.Ns mainGlobals mg) (c:SaysL fn tbs EX gl w h K) {T:List Def} {q:Str} {st:Stmt} {d:Def} (m:dfn d.name q st ∈ fn) (S:FnScope d.N d.ps (defScope st)) (k:chkD T EX d st=true)
  (b:∀ (kV doc pm:Value) (an:Option Addr) (cdv ct:Value) (us:List Value),us.length=d.ps.length -> bindArgs (PySem.W.fnOf q q (defArgs st) (defBody st) (defScope st) .none kV doc pm an cdv ct) ⟨us,[]⟩=pure (d.ps.zip us)) :
  DefK K mg T EX d:=by
 obtain ⟨fd,F⟩:=zoC c m
 exact ⟨q,st,_,fd,F,zoD X G0 c m,F.binds b,S,k⟩
theorem zli (X:K.In h) (G0:h.Ns mainGlobals mg) (c:SaysL fn tbs EX gl w h K) {x:Str} (m:x ∈ ("ValueError":Str) :: bltN0):mg x=none :=
 He.free_ok X G0 (He.SaysD.facts (He.SaysT.d c.t) (f:=.free x) (List.mem_append_right _ (List.mem_append_right _ (List.mem_append_right _ (List.mem_append_left _ (List.mem_map.mpr ⟨x,m,rfl⟩))))))
theorem hd_gl (c:SaysL fn tbs EX gl w h K) {f:He.Fa} (m:f ∈ gl):f.ok K=true :=
 He.SaysD.facts (He.SaysT.d c.t) (List.mem_append_right _ (List.mem_append_right _ (List.mem_append_right _ (List.mem_append_right _ m))))
theorem zsJ (X:K.In h) (G0:h.Ns mainGlobals mg) (c:SaysL fn tbs EX gl w h K) {d:Def} (m:(d.name,d.ps) ∈ tbs):∃ (a:Addr) (o:Obj) (its:Array Value) (n:Nat),mg d.name=some (.ref a) /\ K.lookup a=some o /\ o.cls=.type "tuple" /\ o.data=.seq its n /\ its.size <= sizeLine /\ Vals (d.ps.map V.str) its.toList:=by
 have g:=He.glo_ok X G0 (He.SaysD.facts (He.SaysT.d c.t) (f:=.glo d.name) (List.mem_append_right _ (List.mem_append_left _ (List.mem_map.mpr ⟨_,m,rfl⟩))))
 have t:=List.all_eq_true.mp (He.ba c.more).2 _ m
 unfold tbB at t
 cases q:K.lookup (He.ga K d.name) with
 | none=>rw [q] at t; cases t
 | some o =>
  obtain ⟨oc,od,dt,osl⟩:=o
  rw [q] at t
  cases oc with
  | type cc =>
   cases dt with
   | seq its n =>
    obtain ⟨t1,t2⟩:=He.ba t
    obtain ⟨t3,t4⟩:=He.ba t2
    exact ⟨_,_,its,n,g,q,congrArg Value.type (of_decide_eq_true t1),rfl,of_decide_eq_true t3,He.relAll_ok t4⟩
   | _=>cases t
  | _=>cases dt <;> cases t
def clsL (K:PySem.W.Frag) (EX:List Str):List (Str × Addr):=EX.map fun c=>(c,He.ga K c)
theorem zd4 (EX:List Str):(clsL K EX).map (·.1)=EX:=by
 unfold clsL
 rw [List.map_map]
 exact List.map_id _
theorem zsK (X:K.In h) (G0:h.Ns mainGlobals mg) (c:SaysL fn tbs EX gl w h K):∀ p ∈ clsL K EX,OneC K mg p.2 p.1:=fun p hp=>by
 obtain ⟨x,hx,rfl⟩:=List.mem_map.mp hp
 have g:=He.glo_ok X G0 (He.SaysD.facts (He.SaysT.d c.t) (f:=.glo x) (List.mem_append_right _ (List.mem_append_right _ (List.mem_append_left _ (List.mem_map.mpr ⟨x,hx,rfl⟩)))))
 have t:=List.all_eq_true.mp (He.ba (He.ba c.more).1).1 x hx
 obtain ⟨t1,t⟩:=He.ba t
 obtain ⟨t2,t⟩:=He.ba t
 obtain ⟨t3,t⟩:=He.ba t
 obtain ⟨t4,t⟩:=He.ba t
 obtain ⟨t5,t⟩:=He.ba t
 obtain ⟨t6,t⟩:=He.ba t
 obtain ⟨t7,t⟩:=He.ba t
 obtain ⟨t8,t⟩:=He.ba t
 obtain ⟨t9,t⟩:=He.ba t
 obtain ⟨t10,t11⟩:=He.ba t
 exact ⟨g,t1,t2,of_decide_eq_true t3,of_decide_eq_true t4,t5,He.eqO_ok t6,He.eqO_ok t7,He.eqO_ok t8,of_decide_eq_true t9,of_decide_eq_true t10,of_decide_eq_true t11⟩
theorem zsL (c:SaysL fn tbs EX gl w h K):∀ p ∈ clsL K EX,∀ q ∈ clsL K EX,PySem.W.subIn K (.ref p.2) (.ref q.2)=some (subC p.1 q.1):=fun p hp q hq=>by
 obtain ⟨x,hx,rfl⟩:=List.mem_map.mp hp
 obtain ⟨y,hy,rfl⟩:=List.mem_map.mp hq
 have t:=(He.ba (He.ba (He.ba c.more).1).2).1
 exact of_decide_eq_true (List.all_eq_true.mp (List.all_eq_true.mp t x hx) y hy)
theorem hd_tk (X:K.In h) (G0:h.Ns mainGlobals mg) (c:SaysL fn tbs EX gl w h K) {T:List Def} {G:Str -> Option D} (hd:∀ d ∈ T,isTab d=false -> DefK K mg T EX d) (ht:∀ d ∈ T,isTab d=true -> (d.name,d.ps) ∈ tbs)
  (hg:∀ x d,G x=some d -> ∃ v u,mg x=some u /\ RelV v u /\ ∀ K H P,Rep K H P d v):TabK K mg T EX G (clsOf (clsL K EX)):=by
 have h1:=zsK X G0 c
 have h2:=zsL c
 have hv:mg "ValueError"=none:=zli X G0 c List.mem_cons_self
 refine ⟨hd,fun d m z=>zsJ X G0 c (ht d m z),hg,fun x hx=>zli X G0 c (List.mem_cons_of_mem _ hx),fun x hx=>zp1 h1 x (by rw [zd4]; exact hx),fun x hx=>zp2 h1 h2 hv x (by rw [zd4]; exact hx),fun x C e=>?_⟩
 have ne:EX.isEmpty=false:=by
  cases EX with
  | nil=>exact nomatch za5 e
  | cons _ _=>rfl
 have t:=(He.ba (He.ba (He.ba c.more).1).2).2
 rw [ne,Bool.false_or] at t
 obtain ⟨t1,t2⟩:=He.ba t
 exact zmX h1 (He.eqO_ok t1) (of_decide_eq_true t2) x C e
theorem hd_law (X:K.In h) (G0:h.Ns mainGlobals mg) (c:SaysL fn tbs EX gl w h K) {T:List Def} {G:Str -> Option D} (tk:TabK K mg T EX G (clsOf (clsL K EX))) {q x:Str} {st:Stmt} {d:Def} {fa:Addr} (hfa:mg d.name=some (.ref fa)) (m:dfn d.name d.name st ∈ fn) (hq:d.name=q)
  (hf:findD T q=some d) (hps:d.ps=[x]) (hio:d.io=[]) (S:FnScope d.N d.ps (defScope st)) (k:chkD T EX d st=true)
  (b:∀ (kV doc pm:Value) (an:Option Addr) (cdv ct:Value) (s:Shared) (v:Value),BindsTo s (PySem.W.fnOf d.name d.name (defArgs st) (defBody st) (defScope st) .none kV doc pm an cdv ct) ⟨[v],[]⟩ [(x,v)])
  {P:Program} {wf n:Nat} (ans:∀ ns:List Int,ns.length <= 63 -> evF G T wf n q [.lst (ns.map .int)]=.ok (.bl true,[])) :
  ∃ fd:FuncData,(∀ (s:Shared) (v:Value),BindsTo s fd ⟨[v],[]⟩ [(x,v)]) /\ ∀ base:Heap,K.In base -> base.Ns mainGlobals mg -> FnOk P w K mg base (L2.CX P w) n fa fd [x] (spLaw K):=by
 subst hq
 obtain ⟨fd,F⟩:=zoC c m
 have e:=hfa.symm.trans (zoD X G0 c m)
 cases e
 refine ⟨fd,?_,fun base _ _=>zr0 (P:=P) (w:=w) (base:=base) tk hf hps hio F S k ans⟩
 obtain ⟨oc,od,kV,doc,pm,an,cdv,ct,osl,rfl,_,_⟩:=F.ex
 exact fun s v=>b kV doc pm an cdv ct s v
end
theorem hd_walk {l:PySem.W.OpenLaw} {k:Nat} {q:Program} {loose:List Str} {XP:(Str -> Option Value) -> Heap -> Prop} {d:DefRec} {x:Str} {fn:List He.DefD} {tbs:List (Str × List Str)} {EX:List Str} {gl:List He.Fa} {xs ys:List Str}
  (hn:l.most=some 63) (hdf:d.params.defaults=[]) (hr:Room k callerA)
  (F:∀ (w:World) (mg:Str -> Option Value) (fa:Addr) (h:Heap) (K:PySem.W.Frag),K.In h -> SaysL fn tbs EX gl w h K -> h.Ns mainGlobals mg -> mg d.name=some (.ref fa) →
   ∃ fd:FuncData,(∀ (s:Shared) (u:Value),BindsTo s fd ⟨[u],[]⟩ [(x,u)]) /\ ∀ base:Heap,K.In base -> base.Ns mainGlobals mg -> FnOk l.prog w K mg base (L2.CX l.prog w) k fa fd [x] (spLaw K))
  (hC:∀ (w:World) (H:Hp) (s:Shared) (e:Value) (s':Shared),L2.CX l.prog w [] H s (fun _ _ _=>False) e s' -> False) :
  PySem.W.WalkO q loose XP (hookL (faOf fn tbs EX gl) fn (exB EX tbs) xs ys).says l.row.toRowW d [] (fun f vs=>PySem.call f vs):=by
 refine Att.attach_call hn hdf fun w s0 s1 mg mb fa o pm cd dc a vs ns GG YY p1 p2 p3 p4 p5 p6 p7 p8=>?_
 obtain ⟨K,KX,cK⟩:=YY
 obtain ⟨fd,hb,hF⟩:=F w mg fa _ K KX cK GG.T.g p4
 exact law_call KX GG.T.g GG.T.b GG.T.builtins GG.T.nolimit p8 p5 p6 (Nat.le_trans p7 (by decide)) hr hF hb (fun H hO hS=>⟨a,ns,rfl,hS,p7,fun _=>rfl⟩) fun H e s2=>hC w H s1 e s2
end L2.Pf
namespace Law
open PySem PySem.Spec PyProof.Rows L2 L2.Pf
def d_is_whole:Def:=⟨"is_whole",["thing"],["thing"],[],false,(.cons (.ret (.and (.cons (.isi (.var 0) .int) (.cons (.not (.isi (.var 0) .bool)) .nil)))) .nil)⟩
def d_wheel:Def:=⟨"wheel",["thing"],["thing"],[],false,(.cons (.ifs (.not (.call "is_whole" (.cons (.var 0) .nil) true)) (.cons (.raise "NoWheel") .nil) .nil) (.cons (.ifs (.or (.cons (.cmp .lt (.var 0) (.int 3)) (.cons (.cmp .gt (.var 0) (.bin .pow (.int 10) (.int 60))) (.cons (.cmp .eq (.bin .mod (.var 0) (.int 2)) (.int 0)) .nil)))) (.cons (.raise "NoWheel") .nil) .nil) (.cons (.ret (.var 0)) .nil)))⟩
def d_on:Def:=⟨"on",["M","n"],["M","n"],[],true,(.cons (.ret (.bin .mod (.var 1) (.var 0))) .nil)⟩
def d_gathered:Def:=⟨"gathered",["found"],["found","exponents"],[],true,(.cons (.ret (.bi .tuple (.cons (.lcIf (.tup (.cons (.var 1) (.cons (.idx (.var 0) (.var 1)) .nil))) (.one 1) (.seq (.bi .sorted (.cons (.var 0) .nil))) (.cmp .ne (.idx (.var 0) (.var 1)) (.int 0)) [1]) .nil))) .nil)⟩
def zhr:Ss:=(.cons (.ifs (.or (.cons (.cmp .ne (.bi .len (.cons (.var 4) .nil)) (.var 1)) (.cons (.cmp .lt (.bi .minl (.cons (.var 4) .nil)) (.int 0)) (.cons (.cmp .gt (.bi .maxl (.cons (.var 4) .nil)) (.int 8)) .nil)))) (.cons (.raise "NoForm") .nil) .nil) (.cons (.setI 3 (.var 4) (.call "on" (.cons (.var 0) (.cons (.bin .add (.me .get2 (.var 3) (.cons (.var 4) (.cons (.int 0) .nil))) (.var 5)) .nil)) true)) .nil))
def d_form:Def:=⟨"form",["M","n","terms"],["M","n","terms","found","exponents","c"],[],true,(.cons (.ifs (.and (.cons (.cmp .ne (.var 1) (.int 1)) (.cons (.cmp .ne (.var 1) (.int 2)) .nil))) (.cons (.raise "NoForm") .nil) .nil) (.cons (.asg 3 .dnewT) (.cons (.for (.many [4,5]) (.seq (.var 2)) zhr) (.cons (.ret (.call "gathered" (.cons (.var 3) .nil) false)) .nil))))⟩
def zb5:Ss:=(.cons (.ifs (.cmp .notin (.var 1) (.glob "LETTERS")) (.cons (.ret (.bl false)) .nil) .nil) .nil)
def d_is_name:Def:=⟨"is_name",["text"],["text","sign"],[],true,(.cons (.ifs (.or (.cons (.cmp .lt (.bi .len (.cons (.var 0) .nil)) (.int 1)) (.cons (.cmp .gt (.bi .len (.cons (.var 0) .nil)) (.int 8)) (.cons (.inG false (.var 0) "KEPT" ["let","in","pick","again"]) .nil)))) (.cons (.ret (.bl false)) .nil) .nil) (.cons (.for (.one 1) (.seq (.var 0)) zb5) (.cons (.ret (.bl true)) .nil)))⟩
def d_is_price:Def:=⟨"is_price",["price"],["price"],[],true,(.cons (.ret (.chain .le .le (.int 0) (.var 0) (.bin .pow (.int 10) (.int 30)))) .nil)⟩
def zcW:Ss:=(.cons (.ifs (.or (.cons (.not (.call "is_name" (.cons (.idx (.var 0) (.var 1)) .nil) true)) (.cons (.cmp .isin (.idx (.var 0) (.var 1)) (.slcH (.var 0) (.var 1))) .nil))) (.cons (.raise "NoKind") .nil) .nil) .nil)
def d_kinds_of:Def:=⟨"kinds_of",["texts"],["texts","k"],[],true,(.cons (.ifs (.or (.cons (.cmp .lt (.bi .len (.cons (.var 0) .nil)) (.int 1)) (.cons (.cmp .gt (.bi .len (.cons (.var 0) .nil)) (.int 6)) .nil))) (.cons (.raise "NoKind") .nil) .nil) (.cons (.for (.one 1) (.range1 (.bi .len (.cons (.var 0) .nil))) zcW) (.cons (.ret (.bi .tuple (.cons (.var 0) .nil))) .nil)))⟩
def d_road_of:Def:=⟨"road_of",["M","many","road"],["M","many","road","j","k","a","b","price"],[],true,(.cons (.asgT [3,4,5,6,7] (.var 2)) (.cons (.ifs (.or (.cons (.cmp .lt (.var 3) (.int 0)) (.cons (.cmp .ge (.var 3) (.var 4)) (.cons (.cmp .ge (.var 4) (.var 1)) (.cons (.not (.call "is_price" (.cons (.var 7) .nil) true)) .nil))))) (.cons (.raise "NoRoad") .nil) .nil) (.cons (.ret (.tup (.cons (.var 3) (.cons (.var 4) (.cons (.call "on" (.cons (.var 0) (.cons (.var 5) .nil)) true) (.cons (.call "on" (.cons (.var 0) (.cons (.var 6) .nil)) true) (.cons (.var 7) .nil))))))) .nil)))⟩
def zdy:Ss:=(.cons (.ifs (.cmp .gt (.bi .maxl (.cons (.var 4) .nil)) (.int 2)) (.cons (.raise "NoMake") .nil) .nil) .nil)
def d_form_of:Def:=⟨"form_of",["M","n","terms"],["M","n","terms","found","exponents","c"],[],true,(.cons (.try0 (.cons (.asg 3 (.call "form" (.cons (.var 0) (.cons (.var 1) (.cons (.var 2) .nil))) false)) .nil)) (.cons (.for (.many [4,5]) (.seq (.var 2)) zdy) (.cons (.ret (.var 3)) .nil)))⟩
def zdz:Ss:=(.cons (.ifs (.or (.cons (.cmp .lt (.var 3) (.int 0)) (.cons (.cmp .ge (.var 3) (.var 1)) .nil))) (.cons (.raise "NoMake") .nil) .nil) .nil)
def d_make_of:Def:=⟨"make_of",["M","many","make"],["M","many","make","k","name","takes","gives","terms","price"],[],true,(.cons (.asgT [4,5,6,7,8] (.var 2)) (.cons (.ifs (.or (.cons (.not (.call "is_name" (.cons (.var 4) .nil) true)) (.cons (.cmp .lt (.bi .len (.cons (.var 5) .nil)) (.int 1)) (.cons (.cmp .gt (.bi .len (.cons (.var 5) .nil)) (.int 2)) (.cons (.not (.call "is_price" (.cons (.var 8) .nil) true)) .nil))))) (.cons (.raise "NoMake") .nil) .nil) (.cons (.for (.one 3) (.seq (.bin .add (.var 5) (.tup (.cons (.var 6) .nil)))) zdz) (.cons (.ret (.tup (.cons (.var 4) (.cons (.var 5) (.cons (.var 6) (.cons (.call "form_of" (.cons (.var 0) (.cons (.bi .len (.cons (.var 5) .nil)) (.cons (.var 7) .nil))) false) (.cons (.var 8) .nil))))))) .nil))))⟩
def zhs:Ss:=(.cons (.asg 9 (.call "make_of" (.cons (.var 0) (.cons (.bi .len (.cons (.var 4) .nil)) (.cons (.var 8) .nil))) false)) (.cons (.asg 10 (.tup (.cons (.idx (.var 9) (.int 0)) (.cons (.bi .len (.cons (.idx (.var 9) (.int 1)) .nil)) .nil)))) (.cons (.setI 6 (.var 10) (.bin .add (.me .get2 (.var 6) (.cons (.var 10) (.cons (.int 0) .nil))) (.int 1))) (.cons (.ifs (.cmp .gt (.idx (.var 6) (.var 10)) (.int 6)) (.cons (.raise "NoMake") .nil) .nil) (.cons (.append 7 (.var 9)) .nil)))))
def d_book:Def:=⟨"book",["M","kinds","roads","makes"],["M","kinds","roads","makes","names","ways","deeds","found","make","made","deed","road"],[],true,(.cons (.expr (.call "wheel" (.cons (.var 0) .nil) false)) (.cons (.asg 4 (.call "kinds_of" (.cons (.var 1) .nil) false)) (.cons (.ifs (.cmp .gt (.bi .len (.cons (.var 2) .nil)) (.int 12)) (.cons (.raise "NoRoad") .nil) .nil) (.cons (.asg 5 (.lc (.call "road_of" (.cons (.var 0) (.cons (.bi .len (.cons (.var 4) .nil)) (.cons (.var 11) .nil))) false) (.one 11) (.seq (.var 2)) [11])) (.cons (.ifs (.cmp .gt (.bi .len (.cons (.var 3) .nil)) (.int 16)) (.cons (.raise "NoMake") .nil) .nil) (.cons (.asg 6 .dnewT) (.cons (.asg 7 (.lst .nil)) (.cons (.for (.one 8) (.seq (.var 3)) zhs) (.cons (.ret (.tup (.cons (.var 0) (.cons (.var 4) (.cons (.bi .tuple (.cons (.var 5) .nil)) (.cons (.bi .tuple (.cons (.var 7) .nil)) .nil)))))) .nil)))))))))⟩
def d_law_mixed:Def:=⟨"_law_mixed",["script","k"],["script","k","number"],[],false,(.cons (.ifs (.cmp .lt (.var 1) (.bi .len (.cons (.var 0) .nil))) (.cons (.ret (.idx (.var 0) (.var 1))) .nil) .nil) (.cons (.asg 2 (.bin .add (.bin .mul (.bin .mul (.int 91) (.var 1)) (.var 1)) (.int 17))) (.cons (.ifs (.cmp .gt (.bi .len (.cons (.var 0) .nil)) (.int 0)) (.cons (.asg 2 (.bin .add (.var 2) (.bin .mul (.bin .mod (.idx (.var 0) (.bin .mod (.bin .mul (.var 1) (.int 5)) (.bi .len (.cons (.var 0) .nil)))) (.int 999999937)) (.bin .add (.var 1) (.int 3))))) .nil) .nil) (.cons (.ret (.bin .mod (.bin .mul (.var 2) (.var 2)) (.int 2147483647))) .nil))))⟩
def d_law_number:Def:=⟨"_law_number",["cell"],["cell"],[],true,(.cons (.ifs (.cmp .eq (.bin .mod (.var 0) (.int 3)) (.int 0)) (.cons (.ret (.bin .sub (.bin .mod (.bin .div (.var 0) (.int 3)) (.int 21)) (.int 10))) .nil) .nil) (.cons (.ret (.bin .sub (.bin .mod (.bin .div (.var 0) (.int 3)) (.bin .sub (.bin .mul (.int 2) (.bin .pow (.int 10) (.int 60))) (.int 1))) (.bin .sub (.bin .pow (.int 10) (.int 60)) (.int 1)))) .nil))⟩
def d_law_wheel:Def:=⟨"_law_wheel",["cell"],["cell"],[],true,(.cons (.ifs (.cmp .eq (.bin .mod (.var 0) (.int 4)) (.int 0)) (.cons (.ret (.bin .add (.int 3) (.bin .mul (.int 2) (.bin .mod (.bin .div (.var 0) (.int 4)) (.int 4))))) .nil) .nil) (.cons (.ret (.bin .add (.int 3) (.bin .mul (.int 2) (.bin .mod (.bin .div (.var 0) (.int 4)) (.bin .sub (.bin .mul (.int 5) (.bin .pow (.int 10) (.int 59))) (.int 1)))))) .nil))⟩
def d_law_whole:Def:=⟨"_law_whole",["found"],["found"],[],false,(.cons (.ret (.and (.cons (.isi (.var 0) .int) (.cons (.not (.isi (.var 0) .bool)) .nil)))) .nil)⟩
def zbv:Ss:=(.cons (.asg 11 (.bin .add (.bin .add (.bin .mul (.bin .div (.var 0) (.int 64)) (.bin .add (.bin .mul (.int 2) (.var 10)) (.int 1))) (.bin .mul (.bin .div (.var 1) (.int 6)) (.var 10))) (.bin .mul (.bin .mul (.int 5) (.var 10)) (.var 10)))) (.cons (.ifs (.cmp .eq (.var 10) (.var 5)) (.cons (.asg 11 (.bin .add (.var 11) (.bin .mul (.var 6) (.var 8)))) .nil) .nil) (.cons (.asg 9 (.bin .add (.var 9) (.idx (.var 3) (.bin .mod (.var 11) (.int 26))))) .nil)))
def zcp:Ss:=(.cons (.asg 9 (.str "")) (.cons (.for (.one 10) (.range1 (.var 4)) zbv) (.cons (.ifs (.cmp .isin (.var 9) (.tup (.cons (.str "let") (.cons (.str "in") (.cons (.str "pick") (.cons (.str "again") .nil)))))) (.cons (.asg 9 (.bin .add (.var 9) (.str "x"))) .nil) .nil) (.cons (.append 7 (.var 9)) .nil))))
def d_law_names:Def:=⟨"_law_names",["cell","more","many"],["cell","more","many","letters","size","spot","stride","some","k","word","p","number"],[],true,(.cons (.asg 3 (.str "abcdefghijklmnopqrstuvwxyz")) (.cons (.asg 4 (.bin .add (.int 1) (.bin .mod (.var 0) (.int 8)))) (.cons (.asg 5 (.bin .mod (.bin .div (.var 0) (.int 8)) (.var 4))) (.cons (.asg 6 (.idx (.lst (.cons (.int 1) (.cons (.int 3) (.cons (.int 5) (.cons (.int 7) (.cons (.int 9) (.cons (.int 11) .nil))))))) (.bin .mod (.var 1) (.int 6)))) (.cons (.asg 7 (.lst .nil)) (.cons (.for (.one 8) (.range1 (.var 2)) zcp) (.cons (.ret (.var 7)) .nil)))))))⟩
def zcq:Ss:=(.cons (.asg 6 (.bin .mod (.bin .div (.call "_law_mixed" (.cons (.var 0) (.cons (.bin .add (.var 1) (.int 2)) .nil)) false) (.idx (.lst (.cons (.int 1) (.cons (.int 9) (.cons (.int 81) .nil)))) (.var 5))) (.int 9))) (.cons (.append 4 (.tup (.cons (.slcH (.tup (.cons (.bin .mod (.var 6) (.int 3)) (.cons (.bin .div (.var 6) (.int 3)) .nil))) (.var 2)) (.cons (.call "_law_number" (.cons (.call "_law_mixed" (.cons (.var 0) (.cons (.bin .add (.bin .add (.var 1) (.int 3)) (.var 5)) .nil)) false) .nil) true) .nil)))) .nil))
def zcr:Ss:=(.cons (.asg 7 (.bin .add (.call "_law_mixed" (.cons (.var 0) (.cons (.bin .add (.var 1) (.int 3)) .nil)) false) (.bin .mul (.var 5) (.call "_law_mixed" (.cons (.var 0) (.cons (.bin .add (.var 1) (.int 4)) .nil)) false)))) (.cons (.append 4 (.tup (.cons (.slcH (.tup (.cons (.bin .mod (.var 5) (.int 3)) (.cons (.bin .div (.var 5) (.int 3)) .nil))) (.var 2)) (.cons (.call "_law_number" (.cons (.var 7) .nil) true) .nil)))) .nil))
def d_law_pairs:Def:=⟨"_law_pairs",["script","at","n","cell"],["script","at","n","cell","pairs","t","digit","number"],[],true,(.cons (.asg 4 (.lst .nil)) (.cons (.ifs (.cmp .eq (.bin .mod (.bin .div (.var 3) (.int 4)) (.int 8)) (.int 1)) (.cons (.for (.one 5) (.range1 (.int 9)) zcr) (.cons (.ret (.var 4)) .nil)) .nil) (.cons (.for (.one 5) (.range1 (.bin .mod (.var 3) (.int 4))) zcq) (.cons (.ret (.var 4)) .nil))))⟩
def zcX:Ss:=(.cons (.asg 5 (.idx (.var 0) (.bin .mod (.bin .add (.var 2) (.var 4)) (.int 3)))) (.cons (.ifs (.cmp .lt (.bi .len (.cons (.lcIf (.var 6) (.one 6) (.seq (.var 1)) (.and (.cons (.cmp .eq (.idx (.var 6) (.int 0)) (.var 5)) (.cons (.cmp .eq (.bi .len (.cons (.idx (.var 6) (.int 1)) .nil)) (.var 3)) .nil))) [6]) .nil)) (.int 6)) (.cons (.ret (.var 5)) .nil) .nil) .nil))
def d_law_deed:Def:=⟨"_law_deed",["names","makes","at","n"],["names","makes","at","n","k","name","make"],[],false,(.cons (.for (.one 4) (.range1 (.int 3)) zcX) (.cons (.ret (.idx (.var 0) (.int 0))) .nil))⟩
def d_law_road:Def:=⟨"_law_road",["script","at","many"],["script","at","many","cell","j","k","a","b"],[],true,(.cons (.asg 3 (.bin .div (.call "_law_mixed" (.cons (.var 0) (.cons (.var 1) .nil)) false) (.int 2))) (.cons (.asg 4 (.bin .mod (.var 3) (.bin .sub (.var 2) (.int 1)))) (.cons (.asg 5 (.bin .add (.bin .add (.var 4) (.int 1)) (.bin .mod (.bin .div (.var 3) (.int 5)) (.bin .sub (.bin .sub (.var 2) (.int 1)) (.var 4))))) (.cons (.asg 6 (.call "_law_number" (.cons (.bin .add (.call "_law_mixed" (.cons (.var 0) (.cons (.bin .add (.var 1) (.int 2)) .nil)) false) (.call "_law_mixed" (.cons (.var 0) (.cons (.bin .add (.var 1) (.int 4)) .nil)) false)) .nil) true)) (.cons (.asg 7 (.call "_law_number" (.cons (.bin .add (.call "_law_mixed" (.cons (.var 0) (.cons (.bin .add (.var 1) (.int 3)) .nil)) false) (.call "_law_mixed" (.cons (.var 0) (.cons (.bin .add (.var 1) (.int 5)) .nil)) false)) .nil) true)) (.cons (.ret (.tup (.cons (.var 4) (.cons (.var 5) (.cons (.var 6) (.cons (.var 7) (.cons (.bin .mod (.call "_law_mixed" (.cons (.var 0) (.cons (.bin .add (.var 1) (.int 1)) .nil)) false) (.bin .add (.bin .pow (.int 10) (.int 30)) (.int 1))) .nil))))))) .nil))))))⟩
def d_law_make:Def:=⟨"_law_make",["script","at","many","deeds","makes"],["script","at","many","deeds","makes","cell","n","name","takes","more","pairs"],[4],true,(.cons (.asg 5 (.bin .div (.call "_law_mixed" (.cons (.var 0) (.cons (.var 1) .nil)) false) (.int 2))) (.cons (.asg 6 (.bin .add (.int 1) (.bin .mod (.bin .div (.var 5) (.int 3)) (.int 2)))) (.cons (.asg 7 (.call "_law_deed" (.cons (.var 3) (.cons (.var 4) (.cons (.bin .mod (.var 5) (.int 3)) (.cons (.var 6) .nil)))) true)) (.cons (.asg 8 (.slcH (.tup (.cons (.bin .mod (.bin .div (.var 5) (.int 6)) (.var 2)) (.cons (.bin .mod (.bin .div (.var 5) (.int 36)) (.var 2)) .nil))) (.var 6))) (.cons (.asg 9 (.call "_law_mixed" (.cons (.var 0) (.cons (.bin .add (.var 1) (.int 1)) .nil)) false)) (.cons (.asg 10 (.call "_law_pairs" (.cons (.var 0) (.cons (.var 1) (.cons (.var 6) (.cons (.var 9) .nil)))) false)) (.cons (.ret (.tup (.cons (.var 7) (.cons (.var 8) (.cons (.bin .mod (.bin .div (.var 5) (.int 216)) (.var 2)) (.cons (.var 10) (.cons (.bin .mod (.bin .div (.var 9) (.int 32)) (.bin .add (.bin .pow (.int 10) (.int 30)) (.int 1))) .nil))))))) .nil)))))))⟩
def zaG:Ss:=(.cons (.ifs (.and (.cons (.cmp .eq (.bin .mod (.call "_law_mixed" (.cons (.var 0) (.cons (.var 8) .nil)) false) (.int 2)) (.int 0)) (.cons (.cmp .gt (.var 2) (.int 1)) (.cons (.cmp .lt (.bi .len (.cons (.var 5) .nil)) (.int 12)) .nil)))) (.cons (.append 5 (.call "_law_road" (.cons (.var 0) (.cons (.var 8) (.cons (.var 2) .nil))) true)) .nil) (.cons (.ifs (.cmp .lt (.bi .len (.cons (.var 6) .nil)) (.int 16)) (.cons (.xapp 6 (.call "_law_make" (.cons (.var 0) (.cons (.var 8) (.cons (.var 2) (.cons (.var 4) (.cons (.var 6) .nil))))) 4 6)) .nil) .nil) .nil)) .nil)
def d_law_raw:Def:=⟨"_law_raw",["script","start"],["script","start","many","kinds","deeds","roads","makes","items","at"],[],true,(.cons (.asg 2 (.bin .add (.int 1) (.bin .mod (.call "_law_mixed" (.cons (.var 0) (.cons (.int 1) .nil)) false) (.int 6)))) (.cons (.asg 3 (.call "_law_names" (.cons (.call "_law_mixed" (.cons (.var 0) (.cons (.int 2) .nil)) false) (.cons (.call "_law_mixed" (.cons (.var 0) (.cons (.int 3) .nil)) false) (.cons (.var 2) .nil))) false)) (.cons (.asg 4 (.call "_law_names" (.cons (.call "_law_mixed" (.cons (.var 0) (.cons (.int 4) .nil)) false) (.cons (.call "_law_mixed" (.cons (.var 0) (.cons (.int 5) .nil)) false) (.cons (.int 3) .nil))) false)) (.cons (.asg 5 (.lst .nil)) (.cons (.asg 6 (.lst .nil)) (.cons (.asg 7 (.bi .max2 (.cons (.bin .div (.bin .add (.bin .sub (.bi .len (.cons (.var 0) .nil)) (.var 1)) (.int 5)) (.int 6)) (.cons (.bin .mod (.bin .div (.call "_law_mixed" (.cons (.var 0) (.cons (.int 1) .nil)) false) (.int 6)) (.int 29)) .nil)))) (.cons (.for (.one 8) (.range3 (.var 1) (.bin .add (.var 1) (.bin .mul (.int 6) (.bi .min2 (.cons (.var 7) (.cons (.int 40) .nil))))) (6)) zaG) (.cons (.ret (.lst (.cons (.call "_law_wheel" (.cons (.call "_law_mixed" (.cons (.var 0) (.cons (.int 0) .nil)) false) .nil) true) (.cons (.var 3) (.cons (.var 5) (.cons (.var 6) .nil)))))) .nil))))))))⟩
def zcs:Ss:=(.cons (.ifs (.not (.call "_law_alike" (.cons (.idx (.var 0) (.var 2)) (.cons (.idx (.var 1) (.var 2)) .nil)) true)) (.cons (.ret (.bl false)) .nil) .nil) .nil)
def d_law_alike:Def:=⟨"_law_alike",["found","due"],["found","due","k"],[],false,(.cons (.ifs (.isi (.var 1) .tuple) (.cons (.ifs (.or (.cons (.not (.isi (.var 0) .tuple)) (.cons (.cmp .ne (.bi .len (.cons (.var 0) .nil)) (.bi .len (.cons (.var 1) .nil))) .nil))) (.cons (.ret (.bl false)) .nil) .nil) (.cons (.for (.one 2) (.range1 (.bi .len (.cons (.var 1) .nil))) zcs) (.cons (.ret (.bl true)) .nil))) .nil) (.cons (.ifs (.isi (.var 1) .str) (.cons (.ret (.and (.cons (.isi (.var 0) .str) (.cons (.cmp .eq (.var 0) (.var 1)) .nil)))) .nil) .nil) (.cons (.ret (.and (.cons (.call "_law_whole" (.cons (.var 0) .nil) true) (.cons (.cmp .eq (.var 0) (.var 1)) .nil)))) .nil)))⟩
def zcY:Ss:=(.cons (.setI 2 (.var 3) (.bin .mod (.bin .add (.me .get2 (.var 2) (.cons (.var 3) (.cons (.int 0) .nil))) (.var 4)) (.var 0))) .nil)
def d_law_form:Def:=⟨"_law_form",["M","pairs"],["M","pairs","sums","exponents","c"],[],true,(.cons (.asg 2 .dnewT) (.cons (.for (.many [3,4]) (.seq (.var 1)) zcY) (.cons (.ret (.bi .tuple (.cons (.lcIf (.tup (.cons (.var 3) (.cons (.idx (.var 2) (.var 3)) .nil))) (.one 3) (.seq (.bi .sorted (.cons (.var 2) .nil))) (.cmp .gt (.idx (.var 2) (.var 3)) (.int 0)) [3]) .nil))) .nil)))⟩
def d_law_due:Def:=⟨"_law_due",["raw"],["raw","M","roads","makes","name","takes","gives","pairs","cost","j","k","a","b"],[],true,(.cons (.asg 1 (.idx (.var 0) (.int 0))) (.cons (.asg 2 (.bi .tuple (.cons (.lc (.tup (.cons (.var 9) (.cons (.var 10) (.cons (.bin .mod (.var 11) (.var 1)) (.cons (.bin .mod (.var 12) (.var 1)) (.cons (.var 8) .nil)))))) (.many [9,10,11,12,8]) (.seq (.idx (.var 0) (.int 2))) [8,9,10,11,12]) .nil))) (.cons (.asg 3 (.lc (.tup (.cons (.var 4) (.cons (.var 5) (.cons (.var 6) (.cons (.call "_law_form" (.cons (.var 1) (.cons (.var 7) .nil)) false) (.cons (.var 8) .nil)))))) (.many [4,5,6,7,8]) (.seq (.idx (.var 0) (.int 3))) [4,5,6,7,8])) (.cons (.ret (.tup (.cons (.var 1) (.cons (.bi .tuple (.cons (.idx (.var 0) (.int 1)) .nil)) (.cons (.var 2) (.cons (.bi .tuple (.cons (.var 3) .nil)) .nil)))))) .nil))))⟩
def d_law_copied:Def:=⟨"_law_copied",["makes"],["makes","name","takes","gives","pairs","cost"],[],true,(.cons (.ret (.lc (.tup (.cons (.var 1) (.cons (.var 2) (.cons (.var 3) (.cons (.bi .list (.cons (.var 4) .nil)) (.cons (.var 5) .nil)))))) (.many [1,2,3,4,5]) (.seq (.var 0)) [1,2,3,4,5])) .nil)⟩
def d_law:Def:=⟨"law",["script"],["script","raw","due","kinds","roads","makes","found","make"],[],false,(.cons (.asg 1 (.call "_law_raw" (.cons (.var 0) (.cons (.int 6) .nil)) false)) (.cons (.asg 2 (.call "_law_due" (.cons (.var 1) .nil) true)) (.cons (.asg 3 (.bi .list (.cons (.idx (.var 1) (.int 1)) .nil))) (.cons (.asg 4 (.bi .list (.cons (.idx (.var 1) (.int 2)) .nil))) (.yng 5 "_law_copied" (.cons (.idx (.var 1) (.int 3)) .nil) [.asgI 6 (.call "book" (.cons (.idx (.var 1) (.int 0)) (.cons (.var 3) (.cons (.var 4) (.cons (.var 5) .nil)))) true),.ifF (.or (.cons (.cmp .ne (.var 3) (.idx (.var 1) (.int 1))) (.cons (.cmp .ne (.var 4) (.idx (.var 1) (.int 2))) (.cons (.cmp .ne (.var 5) (.idx (.var 1) (.int 3))) .nil))))] (.clr 7 3) (.cons (.clear 3) (.cons (.clear 4) (.cons (.clear 5) (.cons (.ret (.call "_law_alike" (.cons (.var 6) (.cons (.var 2) .nil)) true)) .nil)))))))))⟩
abbrev WF:Nat:=100000
def zsM:Def:=⟨"KEPT",["let","in","pick","again"],[],[999],false,.nil⟩
def T:List Def:=[d_is_whole,d_wheel,d_on,d_gathered,d_form,d_is_name,d_is_price,d_kinds_of,d_road_of,d_form_of,d_make_of,d_book,d_law_mixed,d_law_number,d_law_wheel,d_law_whole,d_law_names,d_law_pairs,d_law_deed,d_law_road,d_law_make,d_law_raw,d_law_alike,d_law_form,d_law_due,d_law_copied,d_law,zsM]
def G (x:Str):Option D:=if x="LETTERS" then some (.str "abcdefghijklmnopqrstuvwxyz") else none
theorem zih:chkD T EX d_is_whole (top 8)=true:=by decide +kernel
theorem zii:FnScope d_is_whole.N d_is_whole.ps (defScope (top 8)):=⟨rfl,rfl,rfl,by decide +kernel,rfl,by decide +kernel,by decide +kernel⟩
theorem zrb:chkD T EX d_wheel (top 9)=true:=by decide +kernel
theorem zrc:FnScope d_wheel.N d_wheel.ps (defScope (top 9)):=⟨rfl,rfl,rfl,by decide +kernel,rfl,by decide +kernel,by decide +kernel⟩
theorem c_on:chkD T EX d_on (top 10)=true:=by decide +kernel
theorem s_on:FnScope d_on.N d_on.ps (defScope (top 10)):=⟨rfl,rfl,rfl,by decide +kernel,rfl,by decide +kernel,by decide +kernel⟩
theorem zij:chkD T EX d_gathered (top 12)=true:=by decide +kernel
theorem zik:FnScope d_gathered.N d_gathered.ps (defScope (top 12)):=⟨rfl,rfl,rfl,by decide +kernel,rfl,by decide +kernel,by decide +kernel⟩
theorem zsN:chkD T EX d_form (top 13)=true:=by decide +kernel
theorem zsO:FnScope d_form.N d_form.ps (defScope (top 13)):=⟨rfl,rfl,rfl,by decide +kernel,rfl,by decide +kernel,by decide +kernel⟩
theorem zlj:chkD T EX d_is_name (top 17)=true:=by decide +kernel
theorem zlk:FnScope d_is_name.N d_is_name.ps (defScope (top 17)):=⟨rfl,rfl,rfl,by decide +kernel,rfl,by decide +kernel,by decide +kernel⟩
theorem zil:chkD T EX d_is_price (top 18)=true:=by decide +kernel
theorem zim:FnScope d_is_price.N d_is_price.ps (defScope (top 18)):=⟨rfl,rfl,rfl,by decide +kernel,rfl,by decide +kernel,by decide +kernel⟩
theorem zin:chkD T EX d_kinds_of (top 19)=true:=by decide +kernel
theorem zio:FnScope d_kinds_of.N d_kinds_of.ps (defScope (top 19)):=⟨rfl,rfl,rfl,by decide +kernel,rfl,by decide +kernel,by decide +kernel⟩
theorem zll:chkD T EX d_road_of (top 20)=true:=by decide +kernel
theorem zlm:FnScope d_road_of.N d_road_of.ps (defScope (top 20)):=⟨rfl,rfl,rfl,by decide +kernel,rfl,by decide +kernel,by decide +kernel⟩
theorem zln:chkD T EX d_form_of (top 21)=true:=by decide +kernel
theorem zlo:FnScope d_form_of.N d_form_of.ps (defScope (top 21)):=⟨rfl,rfl,rfl,by decide +kernel,rfl,by decide +kernel,by decide +kernel⟩
theorem zlp:chkD T EX d_make_of (top 22)=true:=by decide +kernel
theorem zlq:FnScope d_make_of.N d_make_of.ps (defScope (top 22)):=⟨rfl,rfl,rfl,by decide +kernel,rfl,by decide +kernel,by decide +kernel⟩
theorem zsP:chkD T EX d_book (top 23)=true:=by decide +kernel
theorem zsQ:FnScope d_book.N d_book.ps (defScope (top 23)):=⟨rfl,rfl,rfl,by decide +kernel,rfl,by decide +kernel,by decide +kernel⟩
theorem zgp:chkD T EX d_law_mixed (top 25)=true:=by decide +kernel
theorem zgq:FnScope d_law_mixed.N d_law_mixed.ps (defScope (top 25)):=⟨rfl,rfl,rfl,by decide +kernel,rfl,by decide +kernel,by decide +kernel⟩
theorem zfw:chkD T EX d_law_number (top 26)=true:=by decide +kernel
theorem zfx:FnScope d_law_number.N d_law_number.ps (defScope (top 26)):=⟨rfl,rfl,rfl,by decide +kernel,rfl,by decide +kernel,by decide +kernel⟩
theorem zgr:chkD T EX d_law_wheel (top 27)=true:=by decide +kernel
theorem zgs:FnScope d_law_wheel.N d_law_wheel.ps (defScope (top 27)):=⟨rfl,rfl,rfl,by decide +kernel,rfl,by decide +kernel,by decide +kernel⟩
theorem zgt:chkD T EX d_law_whole (top 28)=true:=by decide +kernel
theorem zgu:FnScope d_law_whole.N d_law_whole.ps (defScope (top 28)):=⟨rfl,rfl,rfl,by decide +kernel,rfl,by decide +kernel,by decide +kernel⟩
theorem zgv:chkD T EX d_law_names (top 29)=true:=by decide +kernel
theorem zgw:FnScope d_law_names.N d_law_names.ps (defScope (top 29)):=⟨rfl,rfl,rfl,by decide +kernel,rfl,by decide +kernel,by decide +kernel⟩
theorem zgx:chkD T EX d_law_pairs (top 30)=true:=by decide +kernel
theorem zgy:FnScope d_law_pairs.N d_law_pairs.ps (defScope (top 30)):=⟨rfl,rfl,rfl,by decide +kernel,rfl,by decide +kernel,by decide +kernel⟩
theorem ziq:chkD T EX d_law_deed (top 31)=true:=by decide +kernel
theorem zir:FnScope d_law_deed.N d_law_deed.ps (defScope (top 31)):=⟨rfl,rfl,rfl,by decide +kernel,rfl,by decide +kernel,by decide +kernel⟩
theorem zis:chkD T EX d_law_road (top 32)=true:=by decide +kernel
theorem zit:FnScope d_law_road.N d_law_road.ps (defScope (top 32)):=⟨rfl,rfl,rfl,by decide +kernel,rfl,by decide +kernel,by decide +kernel⟩
theorem ziu:chkD T EX d_law_make (top 33)=true:=by decide +kernel
theorem ziv:FnScope d_law_make.N d_law_make.ps (defScope (top 33)):=⟨rfl,rfl,rfl,by decide +kernel,rfl,by decide +kernel,by decide +kernel⟩
theorem zlr:chkD T EX d_law_raw (top 34)=true:=by decide +kernel
theorem zls:FnScope d_law_raw.N d_law_raw.ps (defScope (top 34)):=⟨rfl,rfl,rfl,by decide +kernel,rfl,by decide +kernel,by decide +kernel⟩
theorem zgz:chkD T EX d_law_alike (top 35)=true:=by decide +kernel
theorem zgA:FnScope d_law_alike.N d_law_alike.ps (defScope (top 35)):=⟨rfl,rfl,rfl,by decide +kernel,rfl,by decide +kernel,by decide +kernel⟩
theorem ziw:chkD T EX d_law_form (top 36)=true:=by decide +kernel
theorem zix:FnScope d_law_form.N d_law_form.ps (defScope (top 36)):=⟨rfl,rfl,rfl,by decide +kernel,rfl,by decide +kernel,by decide +kernel⟩
theorem zlt:chkD T EX d_law_due (top 37)=true:=by decide +kernel
theorem zlu:FnScope d_law_due.N d_law_due.ps (defScope (top 37)):=⟨rfl,rfl,rfl,by decide +kernel,rfl,by decide +kernel,by decide +kernel⟩
theorem zfy:chkD T EX d_law_copied (top 38)=true:=by decide +kernel
theorem zfz:FnScope d_law_copied.N d_law_copied.ps (defScope (top 38)):=⟨rfl,rfl,rfl,by decide +kernel,rfl,by decide +kernel,by decide +kernel⟩
theorem c_law:chkD T EX d_law (top 39)=true:=by decide +kernel
theorem s_law:FnScope d_law.N d_law.ps (defScope (top 39)):=⟨rfl,rfl,rfl,by decide +kernel,rfl,by decide +kernel,by decide +kernel⟩
end Law
namespace Law
open PySem PySem.Spec PyProof.Rows L2 L2.Pf
local macro_rules
 | `(tactic| simp? only [$as,*])=>`(tactic| (simp (maxSteps:=1000000) (decide:=true) (disch:=first | assumption | omega | (exact sm_of (by omega) (by omega)) | decide) only [znX,znY,znZ,zsD,zsE,zsF,zsG,zsH,zq5,zq6,zq7,zq8,zn0,zq9,gdI_t,gdI_f,zsI,gdR_t,gdR_f,zra,fgI_t,fgI_f,zn1,zlh,zle,znx,znW,zlf,zig,znP,zld,znS,znQ,zid,znR,zq3,zie,znT,zq4,znU,znV,ch3_t,ch3_f,zif,zsz,zsA,zsB,zsC,znO,zqU,znH,zk7,znI,znJ,znK,zk8,zk9,zqV,zla,zsu,zqW,znL,zlb,zqX,zqY,zqZ,zq0,zq1,zsv,zsw,zsx,zsy,zq2,znM,zlc,znN,Option.getD_some,zbY,zqm,znc,zqn,zqo,zr8,zqp,zqq,zqr,zqs,zqt,zqu,zr9,zqv,zqw,zqx,zsa,zsb,zqy,znd,zne,znf,zng,znh,zsc,zsd,zqz,zni,znj,znk,zkN,zqA,zqB,znl,znm,znn,zqC,zno,znp,zkO,zqD,zqE,zse,znq,zqF,zqG,zqH,zqI,zqJ,zh9,zia,zib,znr,zns,zqK,zkP,znt,znz,zny,znw,zqL,zqM,zkQ,zqP,znE,zp6,zsh,zsi,zqQ,zqR,znF,zkV,zsj,he_bl,zsk,zsl,zsm,zsn,zso,zsp,he_or,zsq,zsr,sub_self,zkW,zkX,zss,Bool.or_self,beq_self_eq_true,  List.any_cons,List.any_nil,znu,znv,zkR,znA,znB,zkS,br_t,br_f,and_t,and_f,or_t,or_f,ch_t,ch_f,as_c,zkT,zkU,znC,znD,zqN,zqO,zsf,zsg,List.isEmpty_nil,List.isEmpty_cons,D.imm,D.imms,Bool.true_and,Bool.or_true,Bool.false_or,Bool.and_true,Bool.and_self,Bool.true_or,Bool.or_false,Bool.false_and,Bool.and_false,zm7,zqc,zqd,zm6,zp9,zqa,zqe,zqf,zqg,zhm,wp_ok,zr3,zqb,zm3,zkF,zkG,zm4,zm5,zfk,zfl,set_0,set_s,zco,zm2,zh7,zkJ,zkK,zd1,zfj,of_s,dmod,ddiv,dsub,dadd,dmulS,zfn,zfo,zfp,zfq,zfr,zbJ,zfs,zft,dneg,deq,dne',dlt,dle,dgt,dge,zfm,zdu,zdv,zqj,zqk,dint,zck,zcl,zr5,zr6,za7,zaU,zp7,zp8,zm0,zcn,zbj,zbH,List.length_cons,List.length_nil,List.length_map,List.replicate,if_true,if_false,ite_true,ite_false,decide_true,decide_false,Bool.not_true,Bool.not_false,Bool.false_eq_true,Bool.true_eq_false,reduceIte,decide_eq_true_eq,Bool.not_eq_true',decide_eq_false_iff_not,decide_not,il0,il1,il2,il3,il4,il5,it0,it1,it2,it3,it4,it5,it6,it7,zc7,zm8,zh5,zkE,zh8,zkL,zkM,zqi,zql,zna,L2.Pf.isNon,znb,zr4,zr7,zeC,zeD,zhl,zm1,$as,*]; try simp only [zkH]))
def okS (s:Str):Prop:=PyData.canLay0 (.str s)=true
theorem za8 (s:Str):okS s ↔ ∀ c ∈ s.cps.toList,c < 0x110000:=by
 show (s.cps.all (fun c=>decide (c < 0x110000)))=true ↔ _
 rw [Array.all_eq_true_iff_forall_mem]
 simp
theorem deq_s {a b:Str} (h1:okS a) (h2:okS b):dCmp .eq (.str a) (.str b)=.ok (decide (a=b)):=zoA (n:=0) (m:=0) h1 h2 (by simp)
theorem zn2 {α:Type} [Inhabited α] {xs:List α} {i:Nat} (h:i < xs.length):xs.take (i+1)=xs.take i ++ [nth xs (i:Int)]:=by
 rw [List.take_succ_eq_append_getElem h,zqh h]
section
variable {κ:Type} [DecidableEq κ]
theorem zlv {kvs:List (κ × D)} {k k':κ} {v:D} (h:(kvs.find? fun kv=>decide (kv.1=k))=none):look (kvs ++ [(k,v)]) k'=if k=k' then some v else look kvs k':=by
 unfold look
 rw [List.find?_append]
 by_cases c:k=k'
 ·subst c
  rw [h,if_pos rfl]; simp
 ·rw [if_neg c]
  cases kvs.find? fun kv=>decide (kv.1=k') with
  | none=>simp [c]
  | some p=>rfl
theorem zeH {k k':κ} {v:D}:∀ {kvs:List (κ × D)},(kvs.find? fun kv=>decide (kv.1=k)).isSome=true -> look (kvs.map fun kv=>if kv.1=k then (kv.1,v) else kv) k'=if k=k' then some v else look kvs k'
 | [],h=>by cases h
 | p :: kvs,h=>by
  unfold look
  rw [List.map_cons,List.find?_cons,List.find?_cons]
  by_cases c:p.1=k
  ·rw [if_pos c]
   by_cases c2:k=k'
   ·subst c2
    rw [show decide ((p.1,v).1=k)=true from decide_eq_true c,if_pos rfl]; rfl
   ·have n1:¬ (p.1=k'):=fun z=>c2 (c.symm.trans z)
    rw [show decide ((p.1,v).1=k')=false from decide_eq_false n1,if_neg c2]
    by_cases h2:(kvs.find? fun kv=>decide (kv.1=k)).isSome=true
    ·have:=zeH (k':=k') (v:=v) h2
     rw [if_neg c2] at this
     exact this
    ·have:(kvs.map fun kv=>if kv.1=k then (kv.1,v) else kv)=kvs:=by
      have hn:∀ kv ∈ kvs,kv.1 ≠ k:=fun kv hkv z=>h2 (by rw [List.find?_isSome]; exact ⟨kv,hkv,decide_eq_true z⟩)
      exact (List.map_congr_left fun kv hkv=>if_neg (hn kv hkv)).trans (List.map_id _)
     rw [this]
  ·rw [if_neg c]
   rw [List.find?_cons,decide_eq_false c] at h
   have ih:=zeH (k':=k') (v:=v) (kvs:=kvs) h
   by_cases c3:p.1=k'
   ·rw [decide_eq_true c3]
    have:¬ k=k':=fun z=>c (c3.trans z.symm)
    rw [if_neg this]
   ·rw [decide_eq_false c3]
    exact ih
theorem zn3 (kvs:List (κ × D)) (k k':κ) (v:D):look (put kvs k v) k'=if k=k' then some v else look kvs k':=by
 unfold put
 split
 ·rename_i h; exact zeH h
 ·rename_i h
  refine zlv ?_
  cases e:kvs.find? fun kv=>decide (kv.1=k) with
  | none=>rfl
  | some p=>rw [e] at h; exact absurd rfl h
theorem zrd (kvs:List (κ × D)) (k:κ) (v:D):(put kvs k v).length <= kvs.length+1:=by
 unfold put
 split
 ·rw [List.length_map]; omega
 ·rw [List.length_append]; exact Nat.le_refl _
end
theorem f_on (n:Nat) {M x:Int} (h:0 < M):evF G T WF (n+1) "on" [.int M,.int x]=.ok (.int (x % M),[]):=by
 rw [evF_s (d:=d_on) rfl rfl]
 simp (decide:=true) only [d_on,evSs,evS,evE,evEs,evAnd,evOr,evI,evT,zfk,zfl,set_0,set_s,zco,zd1,zfj,of_s,dmod,ddiv,dsub,dadd,dmul,zfn,zfo,zfp,zfq,zfr,zbJ,zfs,zft,  dneg,deq,dne,dlt,dle,dgt,dge,zfm,zdu,zdv,dint,zck,zcl,dmax2,dmin2,za7,zaU,zcm,zc5,zcn,zbj,zbH,List.length_cons,List.length_nil,List.replicate,if_true,if_false,ite_true,ite_false,decide_true,decide_false,Bool.not_true,Bool.not_false,Bool.false_eq_true,Bool.true_eq_false,reduceIte,dmod h]
def termD (t:List Int × Int):D:=.tup [rowD t.1,.int t.2]
def gat (tm:TmR):List (List Int × Int):=((sortR (tm.map (·.1))).filter fun es=>!decide ((getT tm es).getD 0=0)).map fun es=>(es,(getT tm es).getD 0)
theorem ziy (n:Nat) {tm:TmR} (h:∀ es ∈ tm.map (·.1),es ≠ []) (hl:tm.length <= 100000):evF G T WF (n+1) "gathered" [dtD tm]=.ok (.tup ((gat tm).map termD),[]):=by
 refine (Wp.fn d_gathered rfl rfl rfl ?_).eq
 have so:=zd3 h (by omega)
 have ls:(sortR (tm.map (·.1))).length <= 100000:=by rw [(zaK _).length_eq,List.length_map]; exact hl
 simp? only [d_gathered,so]
 refine Wp.lcIf (enc:=rowD) (xs:=sortR (tm.map (·.1))) (fun es=>!decide ((getT tm es).getD 0=0)) (fun es=>termD (es,(getT tm es).getD 0)) (fun es hm=>?_) ?_
 ·have hk:es ∈ tm.map (·.1):=(zaK _).mem_iff.mp hm
  obtain ⟨c,hc⟩:=Option.isSome_iff_exists.mp (getT_key.mpr hk)
  have ix:=zk2 hc
  rw [hc]
  by_cases c0:c=0
  ·subst c0
   simp? only [ix]
  ·simp? only [ix,c0]
   simp [c0,termD]
 ·have e:(gat tm).map termD=((sortR (tm.map (·.1))).filter fun es=>!decide ((getT tm es).getD 0=0)).map fun es=>termD (es,(getT tm es).getD 0):=by
   unfold gat; rw [List.map_map]; rfl
  have lf:((sortR (tm.map (·.1))).filter fun es=>!decide ((getT tm es).getD 0=0)).length <= 100000:=Nat.le_trans (List.length_filter_le _ _) ls
  rw [e]
  simp? only []
def addT (M:Int) (tm:TmR) (t:List Int × Int):TmR:=putT tm t.1 (((getT tm t.1).getD 0+t.2) % M)
def formP (M:Int) (terms:List (List Int × Int)):List (List Int × Int):=gat (terms.foldl (addT M) [])
theorem zoE {es:List Int} {B:Int} (hl:es.length=1 \/ es.length=2) (h:∀ e ∈ es,0 <= e /\ e <= B):(∃ v,biEv .minl [rowD es]=.ok (.int v) /\ 0 <= v) /\ ∃ v,biEv .maxl [rowD es]=.ok (.int v) /\ v <= B:=by
 match es,hl with
 | [a],_=>exact ⟨⟨a,rfl,(h a (by simp)).1⟩,a,rfl,(h a (by simp)).2⟩
 | [a,b],_ =>
  have ha:=h a (by simp); have hb:=h b (by simp)
  exact ⟨⟨minI a [b],rfl,by unfold minI; simp [minI]; split <;> omega⟩,maxI a [b],rfl,by unfold maxI; simp [maxI]; split <;> omega⟩
 | [],h=>simp at h
 | _ :: _ :: _ :: _,h=>simp at h
theorem zsR (n:Nat) {M m:Int} (hM:3 <= M) (hm:m=1 \/ m=2) (terms:List (List Int × Int)) (hl:terms.length <= 1000) (ht:∀ t ∈ terms,(t.1.length:Int)=m /\ ∀ e ∈ t.1,0 <= e /\ e <= 8) :
  evF G T WF (n+2) "form" [.int M,.int m,.lst (terms.map termD)]=.ok (.tup ((formP M terms).map termD),[]):=by
 refine (Wp.fn d_form rfl rfl rfl ?_).eq
 have e0:dtD []=.dT []:=rfl
 rcases hm with rfl | rfl
 all_goals
  simp? only [d_form,<- e0]
  refine Wp.for (enc:=termD) (fun pre ρ=>∃ a b:Option D,((pre.foldl (addT M) []).length <= pre.length /\ ∀ es ∈ (pre.foldl (addT M) []).map (·.1),es ≠ []) /\ ρ=[some (.int M),_,some (.lst (terms.map termD)),some (dtD (pre.foldl (addT M) [])),a,b]) ⟨_,_,⟨Nat.le_refl _,by simp⟩,rfl⟩ (fun pre t post ρ e ⟨a,b,⟨il,ie⟩,eρ⟩=>?_) (fun ρ ⟨a,b,⟨il,ie⟩,eρ⟩=>?_)
  ·subst eρ
   obtain ⟨t1,t2⟩:=ht t (by rw [e]; simp)
   have pl:pre.length <= 1000:=by have:=congrArg List.length e; rw [List.length_append] at this; omega
   obtain ⟨⟨v,ev,v0⟩,w,ew,w1⟩:=zoE (by omega) t2
   have fo:=fun x=>f_on n (M:=M) (x:=x) (by omega)
   rw [List.foldl_append,List.foldl_cons,List.foldl_nil]
   generalize pre.foldl (addT M) []=tm at *
   have gg:=zk3 tm t.1 0
   have ds:=zk4 (tm:=tm) (es:=t.1) (c:=((getT tm t.1).getD 0+t.2) % M) (by omega)
   have ln:biEv .len [rowD t.1]=.ok (.int t.1.length):=by rw [<- List.length_map (f:=D.int)]; rfl
   rw [t1] at ln
   have tn:t.1 ≠ []:=fun z=>by rw [z] at t1; simp at t1
   have l2:=zeG tm t.1 (((getT tm t.1).getD 0+t.2) % M)
   have nv:¬ v < 0:=by omega
   have nw:¬ (8:Int) < w:=by omega
   simp? only [zhr,termD,ln,ev,ew,nv,nw,fo,gg,ds]
   refine ⟨_,_,⟨by rw [List.length_append,List.length_singleton]; unfold addT; omega,fun es he=>?_⟩,rfl⟩
   unfold addT at he
   rw [zbl] at he
   split at he
   ·exact ie es he
   ·rcases List.mem_append.mp he with h | h
    ·exact ie es h
    ·rw [List.mem_singleton.mp h]; exact tn
  ·subst eρ
   have fg:=ziy n ie (by omega)
   simp? only [fg]
   try rfl
--CUT
structure Rd where
 j:Int
 k:Int
 a:Int
 b:Int
 p:Int
def rd (r:Rd):D:=.tup [.int r.j,.int r.k,.int r.a,.int r.b,.int r.p]
structure RdOk (M:Int) (many:Int) (r:Rd):Prop where
 j0:0 <= r.j
 jk:r.j < r.k
 k1:r.k < many
 a0:0 <= r.a
 a1:r.a < M
 b0:0 <= r.b
 b1:r.b < M
 p0:0 <= r.p
 p1:r.p <= 10 ^ 30
def kept (s:Str):Bool:=(["let","in","pick","again"]:List Str).any fun z=>PyData.eqv (.str z) (D.py (.str s))
def ltr (c:Nat):Bool:=!(Builtin.Str.occurrences "abcdefghijklmnopqrstuvwxyz" ⟨#[c]⟩ 0 (Str.length "abcdefghijklmnopqrstuvwxyz") 1).isEmpty
def isN (s:Str):Bool:=if s.length < 1 \/ 8 < s.length then false else !kept s && s.cps.toList.all ltr
theorem zsS (c:Nat):dCmp .notin (.str ⟨#[c]⟩) (.str "abcdefghijklmnopqrstuvwxyz")=.ok (!ltr c):=rfl
theorem zre (s:Str):seqD (.str s)=.ok (s.cps.toList.map fun c=>D.str ⟨#[c]⟩):=rfl
theorem zht (n:Nat) {s:Str} (h:s.length <= 100):evF G T WF (n+1) "is_name" [.str s]=.ok (.bl (isN s),[]):=by
 refine (Wp.fn d_is_name rfl rfl rfl ?_).eq
 have ln:=zm9 (s:=s) (by omega)
 have fl:flatD (.str s)=true:=rfl
 have kk:(PyData.eqv (.str "let") (D.py (.str s)) || (PyData.eqv (.str "in") (D.py (.str s)) || (PyData.eqv (.str "pick") (D.py (.str s)) || PyData.eqv (.str "again") (D.py (.str s)))))=kept s:=by
  unfold kept
  rw [List.any_cons,List.any_cons,List.any_cons,List.any_cons,List.any_nil,Bool.or_false]
 unfold isN
 by_cases c1:(s.length:Int) < 1
 ·rw [if_pos (by omega)]
  simp? only [d_is_name,ln,c1]
 ·by_cases c2:(8:Int) < (s.length:Int)
  ·rw [if_pos (by omega)]
   simp? only [d_is_name,ln,c1,c2]
  ·rw [if_neg (by omega)]
   cases hk:kept s with
   | true =>
    rw [hk] at kk
    simp? only [d_is_name,ln,c1,c2,kk,fl]
   | false =>
    rw [hk] at kk
    simp? only [d_is_name,ln,c1,c2,kk,fl,zre]
    refine Wp.for (enc:=fun c:Nat=>D.str ⟨#[c]⟩) (fun pre ρ=>∃ a:Option D,pre.all ltr=true /\ ρ=[some (.str s),a]) ⟨_,rfl,rfl⟩ (fun pre c post ρ e ⟨a,hp,eρ⟩=>?_) (fun ρ ⟨a,hp,eρ⟩=>?_)
    ·subst eρ
     have gl:G "LETTERS"=some (.str "abcdefghijklmnopqrstuvwxyz"):=rfl
     have ic:=zsS c
     cases hc:ltr c with
     | true =>
      rw [hc] at ic
      simp? only [zb5,gl,of_s,ic]
      exact ⟨_,by rw [List.all_append,hp]; simp [hc],rfl⟩
     | false =>
      rw [hc] at ic
      simp? only [zb5,gl,of_s,ic]
      have:s.cps.toList.all ltr=false:=by rw [e]; simp [hc]
      rw [this]
    ·subst eρ
     simp? only []
     rw [hp]
structure Mk5 where
 nm:Str
 tk:List Int
 gv:Int
 ts:List (List Int × Int)
 p:Int
def Mk5.raw (m:Mk5):D:=.tup [.str m.nm,rowD m.tk,.int m.gv,.lst (m.ts.map termD),.int m.p]
def Mk5.made (M:Int) (m:Mk5):D:=.tup [.str m.nm,rowD m.tk,.int m.gv,.tup ((formP M m.ts).map termD),.int m.p]
structure Mk5.Ok (many:Int) (m:Mk5):Prop where
 nm:isN m.nm=true
 nl:m.nm.length <= 100
 tl:m.tk.length=1 \/ m.tk.length=2
 tk:∀ k ∈ m.tk,0 <= k /\ k < many
 g0:0 <= m.gv
 g1:m.gv < many
 tn:m.ts.length <= 100
 ts:∀ t ∈ m.ts,t.1.length=m.tk.length /\ ∀ e ∈ t.1,0 <= e /\ e <= 2
 p0:0 <= m.p
 p1:m.p <= 10 ^ 30
 sm:∀ t ∈ m.ts,Sm t.2
 so:okS m.nm
theorem ziz (n:Nat) (x:Int):evF G T WF (n+1) "is_whole" [.int x]=.ok (.bl true,[]):=by
 refine (Wp.fn d_is_whole rfl rfl rfl ?_).eq
 simp? only [d_is_whole]
theorem zrf (n:Nat) {M:Int} (h0:3 <= M) (h1:M <= 10 ^ 60) (h2:M % 2=1):evF G T WF (n+2) "wheel" [.int M]=.ok (.int M,[]):=by
 have w:=ziz n M
 have a1:¬ M < 3:=by omega
 have a2:¬ (10:Int) ^ 60 < M:=by omega
 have a3:¬ M % 2=0:=by omega
 refine (Wp.fn d_wheel rfl rfl rfl ?_).eq
 simp? only [d_wheel,w,a1,a2,a3]
theorem zd5 (n:Nat) {p:Int} (h0:0 <= p) (h1:p <= 10 ^ 30):evF G T WF (n+1) "is_price" [.int p]=.ok (.bl true,[]):=by
 refine (Wp.fn d_is_price rfl rfl rfl ?_).eq
 simp? only [d_is_price,h0,h1]
theorem zlw (n:Nat) {M many:Int} {r:Rd} (hM:3 <= M) (j0:0 <= r.j) (jk:r.j < r.k) (k1:r.k < many) (p0:0 <= r.p) (p1:r.p <= 10 ^ 30) :
  evF G T WF (n+2) "road_of" [.int M,.int many,rd r]=.ok (rd { r with a:=r.a % M,b:=r.b % M },[]):=by
 have fp:=zd5 n p0 p1
 have fo:=fun x=>f_on n (M:=M) (x:=x) (by omega)
 have a1:¬ r.j < 0:=by omega
 have a2:¬ r.k <= r.j:=by omega
 have a3:¬ many <= r.k:=by omega
 refine (Wp.fn d_road_of rfl rfl rfl ?_).eq
 simp? only [d_road_of,rd,fp,fo,a1,a2,a3]
theorem zlx (n:Nat) {M m:Int} (hM:3 <= M) (hm:m=1 \/ m=2) (terms:List (List Int × Int)) (hl:terms.length <= 100) (ht:∀ t ∈ terms,(t.1.length:Int)=m /\ ∀ e ∈ t.1,0 <= e /\ e <= 2) :
  evF G T WF (n+3) "form_of" [.int M,.int m,.lst (terms.map termD)]=.ok (.tup ((formP M terms).map termD),[]):=by
 have ff:=zsR n hM hm terms (by omega) fun t h=>⟨(ht t h).1,fun e he=>⟨((ht t h).2 e he).1,by have:=((ht t h).2 e he).2; omega⟩⟩
 refine (Wp.fn d_form_of rfl rfl rfl ?_).eq
 simp? only [d_form_of,ff]
 refine Wp.for (enc:=termD) (fun pre ρ=>∃ a b:Option D,ρ=[some (.int M),some (.int m),some (.lst (terms.map termD)),some (.tup ((formP M terms).map termD)),a,b]) ⟨_,_,rfl⟩ (fun pre t post ρ e ⟨a,b,eρ⟩=>?_) (fun ρ ⟨a,b,eρ⟩=>?_)
 ·subst eρ
  obtain ⟨t1,t2⟩:=ht t (by rw [e]; simp)
  obtain ⟨_,w,ew,w1⟩:=zoE (by omega) t2
  have nw:¬ (2:Int) < w:=by omega
  simp? only [zdy,termD,ew,nw]
  exact ⟨_,_,rfl⟩
 ·subst eρ
  simp? only []
theorem zly (n:Nat) {M many:Int} (hM:3 <= M) {m:Mk5} (h:m.Ok many):evF G T WF (n+4) "make_of" [.int M,.int many,m.raw]=.ok (m.made M,[]):=by
 have fi:=zht (n+2) h.nl
 rw [h.nm] at fi
 have fp:=zd5 (n+2) h.p0 h.p1
 have ff:=zlx n (m:=(m.tk.length:Int)) hM (by have:=h.tl; omega) m.ts h.tn fun t ht=>⟨by rw [(h.ts t ht).1],(h.ts t ht).2⟩
 have ln:biEv .len [rowD m.tk]=.ok (.int m.tk.length):=by rw [<- List.length_map (f:=D.int)]; rfl
 have tl:=h.tl
 have ad:dBin .add (rowD m.tk) (.tup [.int m.gv])=.ok (rowD (m.tk ++ [m.gv])):=by
  unfold rowD
  rw [zhl (by simp; omega),List.map_append]; rfl
 have l1:¬ (m.tk.length:Int) < 1:=by omega
 have l2:¬ (2:Int) < (m.tk.length:Int):=by omega
 have sq:seqD (rowD (m.tk ++ [m.gv]))=.ok ((m.tk ++ [m.gv]).map .int):=rfl
 refine (Wp.fn d_make_of rfl rfl rfl ?_).eq
 simp? only [d_make_of,Mk5.raw,fi,fp,ln,l1,l2,ad,sq]
 refine Wp.for (enc:=D.int) (xs:=m.tk ++ [m.gv]) (fun pre ρ=>∃ a:Option D,ρ=[some (.int M),some (.int many),some m.raw,a,some (.str m.nm),some (rowD m.tk),some (.int m.gv),some (.lst (m.ts.map termD)),some (.int m.p)]) ⟨_,rfl⟩ (fun pre k post ρ e ⟨a,eρ⟩=>?_) (fun ρ ⟨a,eρ⟩=>?_)
 ·subst eρ
  have hk:0 <= k /\ k < many:=by
   have:k ∈ m.tk ++ [m.gv]:=by rw [e]; simp
   rcases List.mem_append.mp this with z | z
   ·exact h.tk k z
   ·rw [List.mem_singleton.mp z]; exact ⟨h.g0,h.g1⟩
  have k0:¬ k < 0:=by omega
  have k1:¬ many <= k:=by omega
  simp? only [zdz,k0,k1]
  exact ⟨_,rfl⟩
 ·subst eρ
  simp? only [ln,ff]
  try rfl
--CUT
theorem dl_t {kvs:List (List Key × D)} {xs:List D} {k:List Key} (kd:keysD xs=some k):dLook (.dT kvs) (.tup xs)=.ok (look kvs k):=by
 show (R.of (keysD xs)).bind (fun k=>R.ok (look kvs k))=_
 rw [kd]; rfl
theorem dg_t {kvs:List (List Key × D)} {xs:List D} {k:List Key} {d:D} (kd:keysD xs=some k):meEv .get2 (.dT kvs) [.tup xs,d]=.ok ((look kvs k).getD d):=by
 show (dLook (.dT kvs) (.tup xs)).bind (fun o=>R.ok (o.getD d))=_
 rw [dl_t kd]; rfl
theorem di_t {kvs:List (List Key × D)} {xs:List D} {k:List Key} {d:D} (kd:keysD xs=some k) (h:look kvs k=some d):dIdx (.dT kvs) (.tup xs)=.ok d:=by
 show (dLook (.dT kvs) (.tup xs)).bind (fun o=>R.of o)=_
 rw [dl_t kd,h]; rfl
theorem dsS_t {kvs:List (List Key × D)} {xs:List D} {k:List Key} {d:D} (kd:keysD xs=some k) (hl:kvs.length < 16777216):dSet (.dT kvs) (.tup xs) d=.ok (.dT (put kvs k d)):=by
 show R.when (decide (kvs.length < sizeLine)) ((R.of (keysD xs)).bind fun k=>R.ok (D.dT (put kvs k d)))=_
 rw [zaW (zeD hl),kd]; rfl
structure KsOk (ks:List Str):Prop where
 l0:1 <= ks.length
 l1:ks.length <= 6
 nm:∀ s ∈ ks,isN s=true /\ s.length <= 100 /\ okS s
 nd:ks.Nodup
theorem ziA (n:Nat) {ks:List Str} (h:KsOk ks):evF G T WF (n+2) "kinds_of" [.lst (ks.map .str)]=.ok (.tup (ks.map .str),[]):=by
 have l0:=h.l0; have l1:=h.l1
 have a1:¬ (ks.length:Int) < 1:=by omega
 have a2:¬ (6:Int) < (ks.length:Int):=by omega
 refine (Wp.fn d_kinds_of rfl rfl rfl ?_).eq
 simp? only [d_kinds_of,a1,a2]
 refine Wp.forR0 (n:=ks.length) (fun i ρ=>∃ a:Option D,ρ=[some (.lst (ks.map .str)),a]) ⟨_,rfl⟩ (fun i ρ hi ⟨a,eρ⟩=>?_) (fun ρ ⟨a,eρ⟩=>?_)
 ·subst eρ
  have ix:=zc7 (f:=D.str) (xs:=ks) (i:=(i:Int)) (by omega) (by omega)
  have hx:nth ks (i:Int) ∈ ks:=zgm (by omega) (by omega)
  obtain ⟨x1,x2,x3⟩:=h.nm _ hx
  have fi:=zht n x2
  rw [x1] at fi
  have sl:zaH (.lst (ks.map .str)) none (some (i:Int))=.ok (.lst ((ks.take i).map .str)):=by
   show R.ok (D.lst (cut _ none (some _)))=_
   rw [zr2 _ (by omega),Int.toNat_natCast,<- List.map_take]
  have okt:okDs 0 ((ks.take i).map D.str)=true:=zba fun s hs=>(h.nm s (List.mem_of_mem_take hs)).2.2
  have di:=zst (n:=0) (m:=0) (x:=.str (nth ks (i:Int))) (xs:=(ks.take i).map D.str) (p:=False) x3 okt ⟨fun z=>by
   obtain ⟨s,hs,e⟩:=List.mem_map.mp z
   injection e with e
   rw [e] at hs
   have nd:=h.nd
   rw [<- List.take_append_drop (i+1) ks,zn2 hi,List.append_assoc] at nd
   exact (List.nodup_append.mp nd).2.2 _ hs _ (by simp) rfl,fun z=>z.elim⟩
  rw [decide_eq_false (fun z=>z)] at di
  simp? only [zcW,ix,fi,sl,di]
  exact ⟨_,rfl⟩
 ·subst eρ
  simp? only []
def rdOn (M:Int) (r:Rd):Rd:={ r with a:=r.a % M,b:=r.b % M }
def ctD (ms:List Mk5) (x:Str) (l:Nat):Nat:=(ms.filter fun m=>decide (m.nm=x) && decide (m.tk.length=l)).length
theorem zdA (a b:List Mk5) (x:Str) (l:Nat):ctD (a ++ b) x l=ctD a x l+ctD b x l:=by
 unfold ctD
 rw [List.filter_append,List.length_append]
theorem zcP (m:Mk5) (x:Str) (l:Nat):ctD [m] x l=if m.nm=x /\ m.tk.length=l then 1 else 0:=by
 unfold ctD
 rw [List.filter_cons]
 by_cases c:m.nm=x /\ m.tk.length=l
 ·rw [if_pos c,if_pos (by simp [c.1,c.2])]; rfl
 ·rw [if_neg c,if_neg (fun z=>c (by simpa using z))]; rfl
def cntX (kvs:List (List Key × D)) (pre:List Mk5):Prop:=kvs.length <= pre.length /\ ∀ (x:Str) (l:Nat),look kvs [.inr x,.inl (l:Int)]=if ctD pre x l=0 then none else some (.int (ctD pre x l:Int))
theorem zn4 (n:Nat) {M:Int} (h0:3 <= M) (h1:M <= 10 ^ 60) (h2:M % 2=1) {ks:List Str} (hk:KsOk ks) {rs:List Rd} (hrl:rs.length <= 12)
  (hr:∀ r ∈ rs,(0 <= r.j /\ r.j < r.k) /\ r.k < ks.length /\ 0 <= r.p /\ r.p <= 10 ^ 30) {ms:List Mk5} (hml:ms.length <= 16) (hm:∀ m ∈ ms,m.Ok ks.length) (h6:∀ m ∈ ms,ctD ms m.nm m.tk.length <= 6) :
  evF G T WF (n+5) "book" [.int M,.lst (ks.map .str),.lst (rs.map rd),.lst (ms.map Mk5.raw)]=.ok (.tup [.int M,.tup (ks.map .str),.tup ((rs.map (rdOn M)).map rd),.tup (ms.map (Mk5.made M))],[]):=by
 have fw:=zrf (n+2) h0 h1 h2
 have fk:=ziA (n+2) hk
 have a1:¬ (12:Int) < (rs.length:Int):=by omega
 have a2:¬ (16:Int) < (ms.length:Int):=by omega
 have l0:=hk.l0; have l1:=hk.l1
 refine (Wp.fn d_book rfl rfl rfl ?_).eq
 rw [List.map_map]
 simp? only [d_book,fw,fk,a1]
 refine Wp.lc (enc:=rd) (xs:=rs) (fun r=>rd (rdOn M r)) (fun r h=>?_) ?_
 ·obtain ⟨⟨b1,b2⟩,b3,b4,b5⟩:=hr r h
  have fr:=zlw (n+2) h0 b1 b2 b3 b4 b5
  simp? only [fr]
  rfl
 simp? only [a2]
 refine Wp.for (enc:=Mk5.raw) (xs:=ms) (fun pre ρ=>∃ (kvs:List (List Key × D)) (a b c:Option D),cntX kvs pre ∧
  ρ=[some (.int M),some (.lst (ks.map .str)),some (.lst (rs.map rd)),some (.lst (ms.map Mk5.raw)),some (.tup (ks.map .str)),some (.lst (rs.map fun r=>rd (rdOn M r))),some (.dT kvs),some (.lst (pre.map (Mk5.made M))),a,b,c,none])
  ⟨[],_,_,_,⟨Nat.le_refl _,fun _ _=>rfl⟩,rfl⟩ (fun pre m post ρ e ⟨kvs,a,b,c,⟨kl,kc⟩,eρ⟩=>?_) (fun ρ ⟨kvs,a,b,c,⟨kl,kc⟩,eρ⟩=>?_)
 ·subst eρ
  have pl:pre.length+1 <= ms.length:=by have:=congrArg List.length e; rw [List.length_append,List.length_cons] at this; omega
  have fm:=zly n (many:=(ks.length:Int)) h0 (hm m (by rw [e]; simp))
  have s6:ctD pre m.nm m.tk.length+1 <= 6:=by
   have z:=h6 m (by rw [e]; simp)
   rw [e,zdA,show m :: post=[m] ++ post from rfl,zdA,zcP,if_pos ⟨rfl,rfl⟩] at z
   omega
  have i0:dIdx (m.made M) (.int 0)=.ok (.str m.nm):=rfl
  have i1:dIdx (m.made M) (.int 1)=.ok (rowD m.tk):=rfl
  have ln:biEv .len [rowD m.tk]=.ok (.int m.tk.length):=by rw [<- List.length_map (f:=D.int)]; rfl
  have kd:keysD [.str m.nm,.int m.tk.length]=some [.inr m.nm,.inl (m.tk.length:Int)]:=rfl
  obtain ⟨c0,ec⟩:∃ c0:Int,c0=(ctD pre m.nm m.tk.length:Int):=⟨_,rfl⟩
  have hg:meEv .get2 (.dT kvs) [.tup [.str m.nm,.int m.tk.length],.int 0]=.ok (.int c0):=by
   rw [dg_t kd,kc m.nm m.tk.length,ec]
   split
   ·rename_i z; rw [z]; rfl
   ·rfl
  have ds:dSet (.dT kvs) (.tup [.str m.nm,.int m.tk.length]) (.int (c0+1))=.ok (.dT (put kvs [.inr m.nm,.inl (m.tk.length:Int)] (.int (c0+1)))):=dsS_t kd (by omega)
  have lp:=fun k=>zn3 kvs [.inr m.nm,.inl (m.tk.length:Int)] k (.int (c0+1))
  have ix:dIdx (.dT (put kvs [.inr m.nm,.inl (m.tk.length:Int)] (.int (c0+1)))) (.tup [.str m.nm,.int m.tk.length])=.ok (.int (c0+1)):=by
   exact di_t kd (by rw [lp,if_pos rfl])
  have a6:¬ (6:Int) < c0+1:=by omega
  have pn:=zrd kvs [.inr m.nm,.inl (m.tk.length:Int)] (.int (c0+1))
  have lkk:(ks.map D.str).length=ks.length:=List.length_map _
  simp? only [zhs,fm,i0,i1,ln,hg,ds,ix,a6]
  have la:(pre ++ [m]).length=pre.length+1:=by simp
  refine ⟨put kvs [.inr m.nm,.inl (m.tk.length:Int)] (.int (c0+1)),_,_,_,⟨by omega,fun x l=>?_⟩,by rw [List.map_append]; rfl⟩
  rw [lp,zdA,zcP]
  by_cases ck:m.nm=x /\ m.tk.length=l
  ·obtain ⟨rfl,rfl⟩:=ck
   have o1:(if m.nm=m.nm /\ m.tk.length=m.tk.length then 1 else 0)=1:=if_pos ⟨rfl,rfl⟩
   rw [if_pos rfl,o1,if_neg (by omega),ec]; rfl
  ·rw [if_neg (fun z=>ck (by
    have z1:=List.cons.inj z
    have z2:=List.cons.inj z1.2
    exact ⟨Sum.inr.inj z1.1,by have:=Sum.inl.inj z2.1; omega⟩)),if_neg ck,Nat.add_zero]
   exact kc x l
 ·subst eρ
  simp? only []
  try rfl
--CUT
theorem zaR {j:Int} (h:0 < j) (h1:j <= 10 ^ 60):divOk j=true:=by
 unfold divOk
 rw [decide_eq_true h,Bool.true_and]
 refine decide_eq_true ?_
 have:j.natAbs.log2 < 300:=(Nat.log2_lt (by omega)).mpr (by omega)
 omega
theorem zc8 {α:Type} (f:α -> Str):∀ l:List α,strs' (l.map fun x=>D.str (f x))=some (l.map f)
 | []=>rfl
 | x :: l=>by
  show (strs' (l.map fun x=>D.str (f x))).map (f x :: ·)=_
  rw [zc8 f l]; rfl
def sgn (s:Str) (i:Int):Str:=⟨#[nth s.cps.toList i]⟩
theorem zrg {s:Str} {i:Int} (hs:s.length <= 16777216) (h0:0 <= i) (h1:i < s.length):dIdx (.str s) (.int i)=.ok (.str (sgn s i)):=by
 show R.when (decide (s.length <= sizeLine)) ((R.of (atI s.cps.toList i)).bind fun c=>R.ok (D.str ⟨#[c]⟩))=_
 rw [zaW (zeC hs)]
 have hz:i.toNat < s.cps.toList.length:=by
  show i.toNat < s.cps.toList.length
  have:s.cps.toList.length=s.length:=Array.length_toList
  omega
 have:=atI_nat hz
 rw [Int.toNat_of_nonneg h0] at this
 rw [this]
 show R.ok _=R.ok _
 unfold sgn nth
 rw [List.getD_eq_getElem?_getD,List.getElem?_eq_getElem hz]; rfl
def lc (c:Int):Nat:=97+(c % 26).toNat
theorem alph:∀ i:Nat,i < 26 -> sgn "abcdefghijklmnopqrstuvwxyz" (i:Int)=⟨#[97+i]⟩:=by
 intro i hi
 have:(List.range 26).all (fun i=>decide (sgn "abcdefghijklmnopqrstuvwxyz" (i:Int)=⟨#[97+i]⟩))=true:=by decide +kernel
 exact of_decide_eq_true (List.all_eq_true.mp this i (List.mem_range.mpr hi))
theorem zsT (c:Int):dIdx (.str "abcdefghijklmnopqrstuvwxyz") (.int (c % 26))=.ok (.str ⟨#[lc c]⟩):=by
 have c0:=Int.emod_nonneg c (show (26:Int) ≠ 0 by decide)
 have c1:=Int.emod_lt_of_pos c (show (0:Int) < 26 by decide)
 rw [zrg (s:="abcdefghijklmnopqrstuvwxyz") (by decide) c0 (show c % 26 < ((26:Nat):Int) by omega)]
 have:=alph (c % 26).toNat (by omega)
 rw [Int.toNat_of_nonneg c0] at this
 rw [this]; rfl
def txt (cs:List Nat):Str:=⟨cs.toArray⟩
theorem zdB {a b:List Nat} (h:txt a=txt b):a=b:=by
 have:=congrArg (fun s:Str=>s.cps.toList) h
 simpa [txt] using this
theorem zsU {cs:List Nat} (h:∀ c ∈ cs,c < 0x110000):okS (txt cs):=by
 rw [za8]
 intro c hc
 exact h c (by simpa [txt] using hc)
theorem zct (l:List Nat):TL.tl (txt l)=l:=by unfold txt TL.tl; simp
theorem zsV (s:Str):txt (TL.tl s)=s:=TL.mk_tl s
theorem zrh (a b:List Nat):txt a ++ txt b=txt (a ++ b):=by
 rw [<- zsV (txt a ++ txt b),TL.tl_append,zct,zct]
theorem zlz (l:List Nat):(txt l).length=l.length:=by rw [TL.len_tl,zct]
theorem zhu {a b:List Nat} (h:a.length+b.length <= 16000000):dBin .add (.str (txt a)) (.str (txt b))=.ok (.str (txt (a ++ b))):=by
 show R.when (decide ((txt a).length+(txt b).length <= sizeLine)) (.ok (D.str (txt a ++ txt b)))=_
 rw [zaW (decide_eq_true (by rw [zlz,zlz,sizeLine_eq]; omega)),zrh]
theorem zlA {s:Str} {a b:List Nat} (e:s=txt b) (h:a.length+b.length <= 16000000):dBin .add (.str (txt a)) (.str s)=.ok (.str (txt (a ++ b))):=by rw [e]; exact zhu h
theorem zri {l:List Nat} (h:∀ c ∈ l,c < 1000):okS (txt l):=zsU fun c hc=>Nat.lt_trans (h c hc) (by decide)
def numI (x:Int):List Nat:=TL.numL x.toNat
def zrj:List Nat:=[119,104,101,101,108]
def zsW:List Nat:=[107,105,110,100]
def zsX:List Nat:=[114,111,97,100]
def zsY:List Nat:=[109,97,107,101]
def w_sp:List Nat:=[32]
def w_gt:List Nat:=[62]
def w_col:List Nat:=[58]
def w_nl:List Nat:=[10]
def zsZ:List Nat:=[42]
def zrk:List Nat:=[44]
structure TBk where
 M:Int
 ks:List Str
 rs:List Rd
 ms:List Mk5
def Low (s:Str):Prop:=(1 <= (TL.tl s).length /\ (TL.tl s).length <= 8) /\ ∀ c ∈ TL.tl s,97 <= c /\ c <= 122
structure TBk.Ok (b:TBk):Prop where
 M0:3 <= b.M
 M1:b.M < 10 ^ 60
 kl:1 <= b.ks.length /\ b.ks.length <= 6
 nd:b.ks.Nodup
 nm:∀ s ∈ b.ks,Low s
 rl:b.rs.length <= 12
 rs:∀ r ∈ b.rs,(0 <= r.j /\ r.j < b.ks.length) /\ (0 <= r.k /\ r.k < b.ks.length) /\ (0 <= r.a /\ r.a < b.M) /\ (0 <= r.b /\ r.b < b.M) /\ 0 <= r.p /\ r.p <= 10 ^ 30
 ml:b.ms.length <= 16
 mn:∀ m ∈ b.ms,Low m.nm
 mm:∀ m ∈ b.ms,(m.tk.length=1 \/ m.tk.length=2) /\ (∀ k ∈ m.tk,0 <= k /\ k < b.ks.length) /\ (0 <= m.gv /\ m.gv < b.ks.length) /\ 0 <= m.p /\ m.p <= 10 ^ 30
 mt:∀ m ∈ b.ms,m.ts.length <= 100 /\ ∀ t ∈ m.ts,(1 <= t.1.length /\ t.1.length <= 2) /\ (∀ e ∈ t.1,0 <= e /\ e <= 100) /\ 1 <= t.2 /\ t.2 < b.M
def kdL (ks:List Str) (k:Int):List Nat:=TL.tl (nth ks k)
def termL (t:List Int × Int):List Nat:=TL.joinL zrk (t.1.map numI) ++ zsZ ++ numI t.2
def roadW (ks:List Str) (r:Rd):List (List Nat):=[zsX,kdL ks r.j,kdL ks r.k,numI r.a,numI r.b,numI r.p]
def makeW (ks:List Str) (m:Mk5):List (List Nat):=[zsY,TL.tl m.nm] ++ m.tk.map (kdL ks) ++ [w_gt,kdL ks m.gv,numI m.p,w_col] ++ m.ts.map termL
def zs0 (M:Int):List (List Nat):=[zrj,numI M]
def kindW (s:Str):List (List Nat):=[zsW,TL.tl s]
def TBk.rowsW (b:TBk):List (List (List Nat)):=[zs0 b.M] ++ b.ks.map kindW ++ b.rs.map (roadW b.ks) ++ b.ms.map (makeW b.ks)
def TBk.txt (b:TBk):List Nat:=TL.joinL w_nl (b.rowsW.map (TL.joinL w_sp))
theorem zlB {s:Str} (h:Low s):okS s:=by
 rw [za8]
 intro c hc
 have:=h.2 c hc
 omega
def w_let:List Nat:=[108,101,116]
theorem l_let:("let":Str)=txt w_let:=by decide +kernel
def w_in:List Nat:=[105,110]
theorem l_in:("in":Str)=txt w_in:=by decide +kernel
def zhv:List Nat:=[112,105,99,107]
theorem zoF:("pick":Str)=txt zhv:=by decide +kernel
def zeI:List Nat:=[97,103,97,105,110]
theorem zlC:("again":Str)=txt zeI:=by decide +kernel
def Nm (s:Str):Prop:=Low s /\ (TL.tl s ≠ w_let /\ TL.tl s ≠ w_in /\ TL.tl s ≠ zhv /\ TL.tl s ≠ zeI)
def nbase (c m:Int) (p:Int):Int:=c / 64 * (2 * p+1)+m / 6 * p+5 * p * p
def nstr (m:Int):Int:=nth [1,3,5,7,9,11] (m % 6)
def nsz (c:Int):Nat:=(1+c % 8).toNat
def nspot (c:Int):Nat:=(c / 8 % (nsz c:Int)).toNat
def nlet (c m:Int) (k p:Nat):Int:=if p=nspot c then nbase c m p+nstr m * k else nbase c m p
def nword (c m:Int) (k j:Nat):List Nat:=(List.range j).map fun p=>lc (nlet c m k p)
def name3 (c m:Int) (k:Nat):List Nat:=if kept (txt (nword c m k (nsz c)))=true then nword c m k (nsz c) ++ [120] else nword c m k (nsz c)
theorem zlD (c:Int):1 <= nsz c /\ nsz c <= 8 /\ (nsz c:Int)=1+c % 8:=by
 unfold nsz
 omega
theorem zhw (c:Int):nspot c < nsz c /\ (nspot c:Int)=c / 8 % (nsz c:Int):=by
 have:=zlD c
 have b0:=Int.emod_nonneg (c / 8) (show (nsz c:Int) ≠ 0 by omega)
 have b1:=Int.emod_lt_of_pos (c / 8) (show (0:Int) < (nsz c:Int) by omega)
 unfold nspot
 omega
theorem zrl (m:Int):nstr m=1 \/ nstr m=3 \/ nstr m=5 \/ nstr m=7 \/ nstr m=9 \/ nstr m=11:=by
 have:nstr m ∈ [1,3,5,7,9,11]:=zgm (xs:=[1,3,5,7,9,11]) (by omega) (by show m % 6 < ((6:Nat):Int); omega)
 simpa using this
theorem lc_in (c:Int):97 <= lc c /\ lc c <= 122:=by unfold lc; omega
theorem zbK (c m:Int) (k j:Nat):(nword c m k j).length=j:=by unfold nword; simp
theorem zn5 (c m:Int) (k j:Nat):∀ x ∈ nword c m k j,97 <= x /\ x <= 122:=fun x hx=>by
 unfold nword at hx
 obtain ⟨p,_,rfl⟩:=List.mem_map.mp hx
 exact lc_in _
theorem ziB (c m:Int) (k j:Nat):nword c m k (j+1)=nword c m k j ++ [lc (nlet c m k j)]:=by
 unfold nword
 rw [List.range_succ,List.map_append]; rfl
theorem zn6 {l:List Nat} (h:∀ c ∈ l,97 <= c /\ c <= 122):kept (txt l)=true ↔ l=w_let \/ l=w_in \/ l=zhv \/ l=zeI:=by
 have ok:okS (txt l):=zri fun c hc=>by have:=h c hc; omega
 constructor
 ·intro e
  unfold kept at e
  rw [List.any_eq_true] at e
  obtain ⟨z,hz,e⟩:=e
  have hz:z="let" \/ z="in" \/ z="pick" \/ z="again":=by simpa using hz
  have key:∀ w:Str,okS w -> PyData.eqv (.str w) (D.py (.str (txt l)))=true -> w=txt l:=fun w hw e=>by
   have:=(zcO 0 0 (.str w) (.str (txt l)) hw ok).mp e
   injection this
  rcases hz with rfl | rfl | rfl | rfl
  ·exact Or.inl (zdB (by rw [<- key _ (by rw [za8]; decide) e,l_let]))
  ·exact Or.inr (Or.inl (zdB (by rw [<- key _ (by rw [za8]; decide) e,l_in])))
  ·exact Or.inr (Or.inr (Or.inl (zdB (by rw [<- key _ (by rw [za8]; decide) e,zoF]))))
  ·exact Or.inr (Or.inr (Or.inr (zdB (by rw [<- key _ (by rw [za8]; decide) e,zlC]))))
 ·rintro (rfl | rfl | rfl | rfl) <;> decide +kernel
theorem zn7 (c m:Int) (k:Nat):Nm (txt (name3 c m k)):=by
 have hs:=zlD c
 have hl:=zbK c m k (nsz c)
 have hi:=zn5 c m k (nsz c)
 have ki:=zn6 hi
 unfold name3
 cases hk:kept (txt (nword c m k (nsz c))) with
 | false =>
  rw [if_neg (by simp)]
  rw [hk] at ki
  have:¬ (nword c m k (nsz c)=w_let \/ nword c m k (nsz c)=w_in \/ nword c m k (nsz c)=zhv \/ nword c m k (nsz c)=zeI):=fun z=>by have:=ki.mpr z; cases this
  unfold Nm Low
  rw [zct]
  exact ⟨⟨⟨by omega,by omega⟩,hi⟩,fun z=>this (Or.inl z),fun z=>this (Or.inr (Or.inl z)),fun z=>this (Or.inr (Or.inr (Or.inl z))),fun z=>this (Or.inr (Or.inr (Or.inr z)))⟩
 | true =>
  rw [if_pos rfl]
  have:=ki.mp hk
  unfold Nm Low
  rw [zct]
  rcases this with e | e | e | e <;> rw [e] <;> decide
theorem zlE {c m:Int} {i j:Nat} (hi:i < 26) (hj:j < 26) (h:txt (name3 c m i)=txt (name3 c m j)):i=j:=by
 have h:=zdB h
 have li:=zbK c m i (nsz c)
 have lj:=zbK c m j (nsz c)
 have e:nword c m i (nsz c)=nword c m j (nsz c):=by
  have hl:=congrArg List.length h
  unfold name3 at h hl
  split at h <;> split at h <;> rename_i a b
  ·exact List.append_cancel_right h
  ·rw [if_pos a,if_neg b] at hl
   rw [List.length_append,List.length_singleton] at hl; omega
  ·rw [if_neg a,if_pos b] at hl
   rw [List.length_append,List.length_singleton] at hl; omega
  ·exact h
 have hs:=(zhw c).1
 have:=congrArg (fun l:List Nat=>l[nspot c]?) e
 have this:(nword c m i (nsz c))[nspot c]?=(nword c m j (nsz c))[nspot c]?:=this
 unfold nword at this
 rw [List.getElem?_map,List.getElem?_map,List.getElem?_range hs] at this
 have this:lc (nlet c m i (nspot c))=lc (nlet c m j (nspot c)):=Option.some.inj this
 unfold nlet lc at this
 rw [if_pos rfl,if_pos rfl] at this
 generalize nbase c m (nspot c)=b at this
 have hst:=zrl m
 rcases hst with z | z | z | z | z | z <;> rw [z] at this <;> omega
theorem zgB {i j:Int} (h:j.natAbs < 2 ^ 64):mulOk i j=true:=by
 unfold mulOk
 rw [decide_eq_true h]; simp
theorem zdC (n:Nat) (c m:Int) {many:Nat} (hm:many <= 20):evF G T WF (n+1) "_law_names" [.int c,.int m,.int (many:Int)]=.ok (.lst (((List.range many).map fun k=>txt (name3 c m k)).map .str),[]):=by
 have hs:=zlD c
 have hp:=zhw c
 have s0:(1:Int)+c % 8=(nsz c:Int):=hs.2.2.symm
 have ms:=dmod (i:=c / 8) (j:=(nsz c:Int)) (by omega)
 have ix:dIdx (.lst [.int 1,.int 3,.int 5,.int 7,.int 9,.int 11]) (.int (m % 6))=.ok (.int (nstr m)) :=
  zc7 (f:=D.int) (xs:=[1,3,5,7,9,11]) (by omega) (by show m % 6 < ((6:Nat):Int); omega)
 rw [<- hp.2] at ms
 refine (Wp.fn d_law_names rfl rfl rfl ?_).eq
 simp? only [d_law_names,s0,ms,ix]
 refine Wp.forR0 (n:=many) (fun i ρ=>∃ a b d e:Option D,ρ=[some (.int c),some (.int m),some (.int (many:Int)),some (.str "abcdefghijklmnopqrstuvwxyz"),some (.int (nsz c:Int)),some (.int (nspot c:Int)),some (.int (nstr m)),some (.lst (((List.range i).map fun k=>txt (name3 c m k)).map .str)),a,b,d,e])
  ⟨_,_,_,_,rfl⟩ (fun i ρ hi ⟨a,b,d,e,eρ⟩=>?_) (fun ρ ⟨a,b,d,e,eρ⟩=>?_)
 ·subst eρ
  simp? only [zcp]
  refine Wp.forR0 (n:=nsz c) (fun j ρ=>∃ d e:Option D,ρ=[some (.int c),some (.int m),some (.int (many:Int)),some (.str "abcdefghijklmnopqrstuvwxyz"),some (.int (nsz c:Int)),some (.int (nspot c:Int)),some (.int (nstr m)),some (.lst (((List.range i).map fun k=>txt (name3 c m k)).map .str)),some (.int (i:Int)),some (.str (txt (nword c m i j))),d,e])
   ⟨_,_,rfl⟩ (fun j ρ hj ⟨d,e,eρ⟩=>?_) (fun ρ ⟨d,e,eρ⟩=>?_)
  ·subst eρ
   have m1:dBin .mul (.int (c / 64)) (.int (2 * (j:Int)+1))=.ok (.int (c / 64 * (2 * (j:Int)+1))):=dmul (zgB (by omega))
   have m2:dBin .mul (.int (m / 6)) (.int (j:Int))=.ok (.int (m / 6 * (j:Int))):=dmul (zgB (by omega))
   have m3:dBin .mul (.int (nstr m)) (.int (i:Int))=.ok (.int (nstr m * (i:Int))):=dmul (zgB (by omega))
   have ix2:=zsT (nlet c m i j)
   have ad:dBin .add (.str (txt (nword c m i j))) (.str ⟨#[lc (nlet c m i j)]⟩)=.ok (.str (txt (nword c m i (j+1)))):=by
    rw [ziB]
    exact zhu (a:=nword c m i j) (b:=[lc (nlet c m i j)]) (by rw [zbK,List.length_singleton]; omega)
   by_cases cj:(j:Int)=(nspot c:Int)
   ·have en:nlet c m i j=c / 64 * (2 * (j:Int)+1)+m / 6 * (j:Int)+5 * (j:Int) * (j:Int)+nstr m * (i:Int):=by
     unfold nlet nbase
     rw [if_pos (by omega)]
    rw [en] at ix2 ad
    have ej:j=nspot c:=by omega
    subst ej
    simp? only [zbv,m1,m2,m3,ix2,ad]
    exact ⟨_,_,rfl⟩
   ·have en:nlet c m i j=c / 64 * (2 * (j:Int)+1)+m / 6 * (j:Int)+5 * (j:Int) * (j:Int):=by
     unfold nlet nbase
     rw [if_neg (by omega)]
    rw [en] at ix2 ad
    simp? only [zbv,m1,m2,m3,cj,ix2,ad]
    exact ⟨_,_,rfl⟩
  ·subst eρ
   have ii:dCmp .isin (.str (txt (nword c m i (nsz c)))) (.tup [.str "let",.str "in",.str "pick",.str "again"])=.ok (kept (txt (nword c m i (nsz c)))):=rfl
   have e1:((List.range (i+1)).map fun k=>txt (name3 c m k)).map D.str=((List.range i).map fun k=>txt (name3 c m k)).map D.str ++ [.str (txt (name3 c m i))]:=by
    rw [List.range_succ,List.map_append,List.map_append]; rfl
   have hn:=zbK c m i (nsz c)
   have lr:(List.range i).length=i:=List.length_range
   rw [e1]
   cases hk:kept (txt (nword c m i (nsz c))) with
   | false =>
    have en:name3 c m i=nword c m i (nsz c):=by unfold name3; rw [if_neg (by rw [hk]; decide)]
    rw [en]
    rw [hk] at ii
    simp? only [ii,lr]
    exact ⟨_,_,_,_,rfl⟩
   | true =>
    have en:name3 c m i=nword c m i (nsz c) ++ [120]:=by unfold name3; rw [if_pos hk]
    have ad:=zlA (s:="x") (a:=nword c m i (nsz c)) (b:=[120]) (by decide +kernel) (by rw [hn,List.length_singleton]; omega)
    rw [en]
    rw [hk] at ii
    simp? only [ii,ad,lr]
    exact ⟨_,_,_,_,rfl⟩
 ·subst eρ
  simp? only []
def mixed (ns:List Int) (z:Int):Int:=if z < ns.length then ns.getD z.toNat 0 else
 (91 * z * z+17+(if 0 < ns.length then ns.getD (z * 5 % ns.length).toNat 0 % 999999937 * (z+3) else 0)) * (91 * z * z+17+(if 0 < ns.length then ns.getD (z * 5 % ns.length).toNat 0 % 999999937 * (z+3) else 0)) % 2147483647
theorem at_ns (ns:List Int) {z:Int} (h0:0 <= z) (h:z < ns.length):dIdx (.lst (ns.map .int)) (.int z)=.ok (.int (ns.getD z.toNat 0)):=by
 refine zbI ?_
 have hz:z.toNat < (ns.map D.int).length:=by rw [List.length_map]; omega
 have:=atI_nat (xs:=ns.map D.int) hz
 rw [Int.toNat_of_nonneg h0] at this
 rw [this,List.getElem_map,List.getD_eq_getElem?_getD,List.getElem?_eq_getElem (by rw [List.length_map] at hz; exact hz)]
 rfl
theorem zbd (n:Nat) (ns:List Int) (hl:ns.length <= 63) {z:Int} (h0:0 <= z) (h1:z <= 1000):evF G T WF (n+1) "_law_mixed" [.lst (ns.map .int),.int z]=.ok (.int (mixed ns z),[]):=by
 rw [evF_s (d:=d_law_mixed) rfl rfl]
 unfold mixed
 have q1:mulOk 91 z=true:=mulL (by decide)
 have q2:mulOk (91 * z) z=true:=mulL (by omega)
 have zz:0 <= 91 * z * z /\ 91 * z * z <= 91000000:=by
  have a:=Int.mul_nonneg (show 0 <= 91 * z by omega) h0
  have b:=Int.mul_le_mul (show 91 * z <= 91000 by omega) h1 h0 (by decide)
  exact ⟨a,by omega⟩
 by_cases c:z < ns.length
 ·have c':z < ((ns.map D.int).length:Int):=by rw [List.length_map]; exact c
  simp (decide:=true) only [d_law_mixed,zgd,zez,zge,zeA,zkz,zgf,zkA,zgg,zkl,zf6,zkm,zkn,ev_bl,zko,zkp,zkq,zkr,zks,zey,zkt,ev_or,zku,zkv,zkw,ev_dK,ev_dT,zkx,zf7,zf8,zf9,zga,zgb,ev_bi,ev_me,zky,zgc,zkB,zgh,zgi,zgj,zkC,zkD,zgk,zgl,zeB,zfk,zfl,set_0,set_s,zco,zd1,zfj,of_s,dmod,ddiv,dsub,dadd,dmul,zfn,zfo,zfp,zfq,zfr,zbJ,zfs,zft,  dneg,deq,dne,dlt,dle,dgt,dge,zfm,zdu,zdv,dint,zck,zcl,dmax2,dmin2,za7,zaU,zcm,zc5,zcn,zbj,zbH,List.length_cons,List.length_nil,List.replicate,if_true,if_false,ite_true,ite_false,decide_true,decide_false,Bool.not_true,Bool.not_false,Bool.false_eq_true,Bool.true_eq_false,reduceIte,List.isEmpty,D.imm,D.imms,Bool.true_and,Bool.or_true,Bool.false_or,Bool.and_true,Bool.and_self,Bool.true_or,c,c',at_ns ns h0 c]
 ·have c':¬ z < ((ns.map D.int).length:Int):=by rw [List.length_map]; exact c
  by_cases e:0 < ns.length
  ·have e':(0:Int) < ((ns.map D.int).length:Int):=by rw [List.length_map]; omega
   have e'':(0:Int) < (ns.length:Int):=by omega
   have q3:mulOk z 5=true:=mulR (by decide)
   have el:((ns.map D.int).length:Int)=(ns.length:Int):=by rw [List.length_map]
   have em:=dmod (i:=z * 5) (j:=((ns.map D.int).length:Int)) e'
   rw [el] at em
   have r0:0 <= z * 5 % (ns.length:Int):=Int.emod_nonneg _ (by omega)
   have r1:z * 5 % (ns.length:Int) < (ns.length:Int):=Int.emod_lt_of_pos _ (by omega)
   have ea:=at_ns ns r0 r1
   generalize ns.getD (z * 5 % (ns.length:Int)).toNat 0=y at ea
   have y0:0 <= y % 999999937:=Int.emod_nonneg _ (by decide)
   have y1:y % 999999937 < 999999937:=Int.emod_lt_of_pos _ (by decide)
   have q4:mulOk (y % 999999937) (z+3)=true:=mulR (by omega)
   have m1:=Int.mul_le_mul (show y % 999999937 <= 999999937 by omega) (show z+3 <= 1003 by omega) (by omega) (by decide)
   have m0:=Int.mul_nonneg y0 (show 0 <= z+3 by omega)
   have q5:mulOk (91 * z * z+17+y % 999999937 * (z+3)) (91 * z * z+17+y % 999999937 * (z+3))=true:=mulL (by omega)
   simp (decide:=true) only [d_law_mixed,zgd,zez,zge,zeA,zkz,zgf,zkA,zgg,zkl,zf6,zkm,zkn,ev_bl,zko,zkp,zkq,zkr,zks,zey,zkt,ev_or,zku,zkv,zkw,ev_dK,ev_dT,zkx,zf7,zf8,zf9,zga,zgb,ev_bi,ev_me,zky,zgc,zkB,zgh,zgi,zgj,zkC,zkD,zgk,zgl,zeB,zfk,zfl,set_0,set_s,zco,zd1,zfj,of_s,dmod,ddiv,dsub,dadd,dmul,zfn,zfo,zfp,zfq,zfr,zbJ,zfs,zft,  dneg,deq,dne,dlt,dle,dgt,dge,zfm,zdu,zdv,dint,zck,zcl,dmax2,dmin2,za7,zaU,zcm,zc5,zcn,zbj,zbH,List.length_cons,List.length_nil,List.replicate,if_true,if_false,ite_true,ite_false,decide_true,decide_false,Bool.not_true,Bool.not_false,Bool.false_eq_true,Bool.true_eq_false,reduceIte,List.isEmpty,D.imm,D.imms,Bool.true_and,Bool.or_true,Bool.false_or,Bool.and_true,Bool.and_self,Bool.true_or,c,c',e,e',e'',el,q1,q2,q3,em,ea,q4,q5]
  ·have e':¬ (0:Int) < ((ns.map D.int).length:Int):=by rw [List.length_map]; omega
   have q5:mulOk (91 * z * z+17) (91 * z * z+17)=true:=mulL (by omega)
   simp (decide:=true) only [d_law_mixed,zgd,zez,zge,zeA,zkz,zgf,zkA,zgg,zkl,zf6,zkm,zkn,ev_bl,zko,zkp,zkq,zkr,zks,zey,zkt,ev_or,zku,zkv,zkw,ev_dK,ev_dT,zkx,zf7,zf8,zf9,zga,zgb,ev_bi,ev_me,zky,zgc,zkB,zgh,zgi,zgj,zkC,zkD,zgk,zgl,zeB,zfk,zfl,set_0,set_s,zco,zd1,zfj,of_s,dmod,ddiv,dsub,dadd,dmul,zfn,zfo,zfp,zfq,zfr,zbJ,zfs,zft,  dneg,deq,dne,dlt,dle,dgt,dge,zfm,zdu,zdv,dint,zck,zcl,dmax2,dmin2,za7,zaU,zcm,zc5,zcn,zbj,zbH,List.length_cons,List.length_nil,List.replicate,if_true,if_false,ite_true,ite_false,decide_true,decide_false,Bool.not_true,Bool.not_false,Bool.false_eq_true,Bool.true_eq_false,reduceIte,List.isEmpty,D.imm,D.imms,Bool.true_and,Bool.or_true,Bool.false_or,Bool.and_true,Bool.and_self,Bool.true_or,c,c',e,e',q1,q2,q5,Int.add_zero]
--CUT
def zcu (c:Int):Int:=if c % 4=0 then 3+2 * (c / 4 % 4) else 3+2 * (c / 4 % (5 * 10 ^ 59 - 1))
theorem zn8 (n:Nat) (c:Int):evF G T WF (n+1) "_law_wheel" [.int c]=.ok (.int (zcu c),[]):=by
 refine (Wp.fn d_law_wheel rfl rfl rfl ?_).eq
 unfold zcu
 have m1:=fun x:Int=>dmod (i:=x) (j:=4) (by decide)
 have m2:=fun x:Int=>dmod (i:=x) (j:=5 * 10 ^ 59 - 1) (by decide)
 have d1:=fun x:Int=>ddiv (i:=x) (j:=4) (zaR (by decide) (by decide))
 have mu:=fun x:Int=>dmulS (i:=2) (j:=x) (by unfold Sm; omega)
 by_cases h:c % 4=0
 ·rw [if_pos h]
  simp? only [d_law_wheel,m1,d1,mu,h]
 ·rw [if_neg h]
  simp? only [d_law_wheel,m1,d1,m2,mu,h]
theorem zlF (c:Int):(3 <= zcu c /\ zcu c < 10 ^ 60) /\ zcu c % 2=1:=by
 unfold zcu
 split <;> omega
def zb6 (c:Int):Int:=if c % 3=0 then c / 3 % 21 - 10 else c / 3 % (2 * 10 ^ 60 - 1) - (10 ^ 60 - 1)
theorem zfA (n:Nat) (c:Int):evF G T WF (n+1) "_law_number" [.int c]=.ok (.int (zb6 c),[]):=by
 refine (Wp.fn d_law_number rfl rfl rfl ?_).eq
 unfold zb6
 have m1:=fun x:Int=>dmod (i:=x) (j:=3) (by decide)
 have m2:=fun x:Int=>dmod (i:=x) (j:=21) (by decide)
 have m3:=fun x:Int=>dmod (i:=x) (j:=2 * 10 ^ 60 - 1) (by decide)
 have d1:=fun x:Int=>ddiv (i:=x) (j:=3) (zaR (by decide) (by decide))
 by_cases h:c % 3=0
 ·rw [if_pos h]
  simp? only [d_law_number,m1,m2,d1,h]
 ·rw [if_neg h]
  simp? only [d_law_number,m1,m3,d1,h]
theorem zd6 (c:Int):-(10 ^ 60) < zb6 c /\ zb6 c < 10 ^ 60:=by
 unfold zb6
 split <;> omega
theorem zrm (n:Nat) (ns:List Int) (hl:ns.length <= 63) {at':Nat} (ha:at' <= 900) {many:Int} (m2:2 <= many) (m6:many <= 6) :
  ∃ r:Rd,((0 <= r.j /\ r.j < r.k) /\ r.k < many /\ 0 <= r.p /\ r.p <= 10 ^ 30) /\ evF G T WF (n+2) "_law_road" [.lst (ns.map .int),.int (at':Int),.int many]=.ok (rd r,[]):=by
 have f0:=zbd n ns hl (z:=(at':Int)) (by omega) (by omega)
 have f1:=zbd n ns hl (z:=(at':Int)+1) (by omega) (by omega)
 have f2:=zbd n ns hl (z:=(at':Int)+2) (by omega) (by omega)
 have f3:=zbd n ns hl (z:=(at':Int)+3) (by omega) (by omega)
 have f4:=zbd n ns hl (z:=(at':Int)+4) (by omega) (by omega)
 have f5:=zbd n ns hl (z:=(at':Int)+5) (by omega) (by omega)
 have fa:=fun x:Int=>zfA n x
 generalize mixed ns (at':Int)=c at *
 generalize mixed ns ((at':Int)+1)=c1 at *
 generalize mixed ns ((at':Int)+2)=c2 at *
 generalize mixed ns ((at':Int)+3)=c3 at *
 generalize mixed ns ((at':Int)+4)=c4 at *
 generalize mixed ns ((at':Int)+5)=c5 at *
 obtain ⟨j,ej⟩:∃ j,j=c / 2 % (many - 1):=⟨_,rfl⟩
 have j0:0 <= j:=by rw [ej]; exact Int.emod_nonneg _ (by omega)
 have j1:j < many - 1:=by rw [ej]; exact Int.emod_lt_of_pos _ (by omega)
 have k0:=Int.emod_nonneg (c / 2 / 5) (show many - 1 - j ≠ 0 by omega)
 have k1:=Int.emod_lt_of_pos (c / 2 / 5) (show (0:Int) < many - 1 - j by omega)
 have p0:=Int.emod_nonneg c1 (show (10 ^ 30+1:Int) ≠ 0 by decide)
 have p1:=Int.emod_lt_of_pos c1 (show (0:Int) < 10 ^ 30+1 by decide)
 have d2:=ddiv (i:=c) (j:=2) (zaR (by decide) (by decide))
 have d5:=ddiv (i:=c / 2) (j:=5) (zaR (by decide) (by decide))
 have e1:=dmod (i:=c / 2) (j:=many - 1) (by omega)
 rw [<- ej] at e1
 have e2:=dmod (i:=c / 2 / 5) (j:=many - 1 - j) (by omega)
 have e3:=dmod (i:=c1) (j:=10 ^ 30+1) (by decide)
 refine ⟨⟨j,j+1+c / 2 / 5 % (many - 1 - j),zb6 (c2+c4),zb6 (c3+c5),c1 % (10 ^ 30+1)⟩,⟨⟨j0,by show j < j+1+_; omega⟩,by show j+1+_ < many; omega,p0,by show c1 % (10 ^ 30+1) <= 10 ^ 30; omega⟩,?_⟩
 refine (Wp.fn d_law_road rfl rfl rfl ?_).eq
 simp? only [d_law_road,f0,f1,f2,f3,f4,f5,fa,d2,d5,e1,e2,e3]
 rfl
def TsL (n:Nat) (ts:List (List Int × Int)):Prop:=∀ t ∈ ts,(t.1.length=n /\ ∀ e ∈ t.1,0 <= e /\ e <= 2) /\ -(10 ^ 60) < t.2 /\ t.2 < 10 ^ 60
theorem TsL.snoc {n:Nat} {ts:List (List Int × Int)} (h:TsL n ts) {x y c:Int} (hn:n=1 \/ n=2) (hx:0 <= x /\ x <= 2) (hy:0 <= y /\ y <= 2) (hc:-(10 ^ 60) < c /\ c < 10 ^ 60):TsL n (ts ++ [([x,y].take n,c)]):=by
 intro t ht
 rcases List.mem_append.mp ht with z | z
 ·exact h t z
 ·rw [List.mem_singleton.mp z]
  rcases hn with rfl | rfl
  ·exact ⟨⟨rfl,fun e he=>by rw [List.mem_singleton.mp he]; exact hx⟩,hc⟩
  ·exact ⟨⟨rfl,fun e he=>by
    rcases List.mem_cons.mp he with rfl | he
    ·exact hx
    ·rw [List.mem_singleton.mp he]; exact hy⟩,hc⟩
theorem zoG {n:Nat} (hn:n=1 \/ n=2) (x y:Int):zaH (.tup [.int x,.int y]) none (some (n:Int))=.ok (rowD ([x,y].take n)):=by
 rcases hn with rfl | rfl <;> rfl
theorem zn9 (k:Nat) (ns:List Int) (hl:ns.length <= 63) {at' n:Nat} (ha:at' <= 900) (hn:n=1 \/ n=2) (cell:Int) :
  ∃ ts:List (List Int × Int),(ts.length <= 9 /\ TsL n ts) /\ evF G T WF (k+2) "_law_pairs" [.lst (ns.map .int),.int (at':Int),.int (n:Int),.int cell]=.ok (.lst (ts.map termD),[]):=by
 have fm:=fun (z:Int) (h0:0 <= z) (h1:z <= 1000)=>zbd k ns hl h0 h1
 have fa:=fun x:Int=>zfA k x
 have d4:=ddiv (i:=cell) (j:=4) (zaR (by decide) (by decide))
 have m8:=dmod (i:=cell / 4) (j:=8) (by decide)
 have m4:=dmod (i:=cell) (j:=4) (by decide)
 have m3:=fun x:Int=>dmod (i:=x) (j:=3) (by decide)
 have m9:=fun x:Int=>dmod (i:=x) (j:=9) (by decide)
 have d3:=fun x:Int=>ddiv (i:=x) (j:=3) (zaR (by decide) (by decide))
 have cx:=fun x y:Int=>zoG hn x y
 refine Wp.exi (f:=fun ts:List (List Int × Int)=>D.lst (ts.map termD)) (Wp.fn d_law_pairs rfl rfl rfl ?_)
 by_cases c:cell / 4 % 8=1
 ·have r9:zaq 0 (Int.toNat 9)=(List.range 9).map fun i:Nat=>D.int (i:Int):=zb4 9
  simp? only [d_law_pairs,d4,m8,c,r9]
  refine Wp.for (enc:=fun i:Nat=>D.int (i:Int)) (xs:=List.range 9) (fun pre ρ=>∃ (ts:List (List Int × Int)) (a b e:Option D),(ts.length=pre.length /\ TsL n ts) /\ ρ=[some (.lst (ns.map .int)),some (.int (at':Int)),some (.int (n:Int)),some (.int cell),some (.lst (ts.map termD)),a,b,e]) ⟨[],_,_,_,⟨rfl,fun _ h=>nomatch h⟩,rfl⟩ (fun pre t post ρ eq ⟨ts,a,b,e,⟨h1,h2⟩,eρ⟩=>?_) (fun ρ ⟨ts,a,b,e,⟨h1,h2⟩,eρ⟩=>?_)
  ·subst eρ
   have ht:t < 9:=List.mem_range.mp (by rw [eq]; simp)
   have f3:=fm ((at':Int)+3) (by omega) (by omega)
   have f4:=fm ((at':Int)+4) (by omega) (by omega)
   have mu:=dmul (i:=(t:Int)) (j:=mixed ns ((at':Int)+4)) (mulL (by omega))
   have sn:=h2.snoc (x:=(t:Int) % 3) (y:=(t:Int) / 3) hn (by omega) (by omega) (zd6 (mixed ns ((at':Int)+3)+(t:Int) * mixed ns ((at':Int)+4)))
   have sz:ts.length < sizeLine:=by rw [h1,sizeLine_eq]; have:=congrArg List.length eq; rw [List.length_range,List.length_append,List.length_cons] at this; omega
   simp? only [zcr,f3,f4,mu,m3,d3,cx,fa,sz]
   exact ⟨_,_,_,_,⟨by rw [List.length_append,List.length_append,h1]; rfl,sn⟩,by rw [List.map_append]; rfl⟩
  ·subst eρ
   simp? only []
   exact ⟨ts,⟨by rw [h1]; simp,h2⟩,rfl⟩
 ·have c0:=Int.emod_nonneg cell (show (4:Int) ≠ 0 by decide)
  have c1:=Int.emod_lt_of_pos cell (show (0:Int) < 4 by decide)
  simp? only [d_law_pairs,d4,m8,c,m4]
  rw [zb4]
  refine Wp.for (enc:=fun i:Nat=>D.int (i:Int)) (xs:=List.range (cell % 4).toNat) (fun pre ρ=>∃ (ts:List (List Int × Int)) (a b e:Option D),(ts.length=pre.length /\ TsL n ts) /\ ρ=[some (.lst (ns.map .int)),some (.int (at':Int)),some (.int (n:Int)),some (.int cell),some (.lst (ts.map termD)),a,b,e]) ⟨[],_,_,_,⟨rfl,fun _ h=>nomatch h⟩,rfl⟩ (fun pre t post ρ eq ⟨ts,a,b,e,⟨h1,h2⟩,eρ⟩=>?_) (fun ρ ⟨ts,a,b,e,⟨h1,h2⟩,eρ⟩=>?_)
  ·subst eρ
   have ht:t < (cell % 4).toNat:=List.mem_range.mp (by rw [eq]; simp)
   have f2:=fm ((at':Int)+2) (by omega) (by omega)
   have f3:=fm ((at':Int)+3+(t:Int)) (by omega) (by omega)
   obtain ⟨w,w0,ix⟩:∃ w:Int,(0 < w /\ w <= 10 ^ 60) /\ dIdx (.lst [.int 1,.int 9,.int 81]) (.int (t:Int))=.ok (.int w):=by
    rcases (by omega:t=0 \/ t=1 \/ t=2) with rfl | rfl | rfl
    ·exact ⟨1,by decide,rfl⟩
    ·exact ⟨9,by decide,rfl⟩
    ·exact ⟨81,by decide,rfl⟩
   have dw:=ddiv (i:=mixed ns ((at':Int)+2)) (j:=w) (zaR w0.1 w0.2)
   have q0:=Int.emod_nonneg (mixed ns ((at':Int)+2) / w) (show (9:Int) ≠ 0 by decide)
   have q1:=Int.emod_lt_of_pos (mixed ns ((at':Int)+2) / w) (show (0:Int) < 9 by decide)
   have sn:=h2.snoc (x:=mixed ns ((at':Int)+2) / w % 9 % 3) (y:=mixed ns ((at':Int)+2) / w % 9 / 3) hn (by omega) (by omega) (zd6 (mixed ns ((at':Int)+3+(t:Int))))
   have sz:ts.length < sizeLine:=by rw [h1,sizeLine_eq]; have:=congrArg List.length eq; rw [List.length_range,List.length_append,List.length_cons] at this; omega
   simp? only [zcq,f2,ix,dw,m9,f3,m3,d3,cx,fa,sz]
   exact ⟨_,_,_,_,⟨by rw [List.length_append,List.length_append,h1]; rfl,sn⟩,by rw [List.map_append]; rfl⟩
  ·subst eρ
   simp? only []
   exact ⟨ts,⟨by rw [h1]; simp; omega,h2⟩,rfl⟩
theorem ct3 {a b c:Str} (ab:a ≠ b) (ac:a ≠ c) (bc:b ≠ c) (l:Nat):∀ ms:List Mk5,ctD ms a l+ctD ms b l+ctD ms c l <= ms.length
 | []=>by simp [ctD]
 | m :: ms=>by
  have ih:=ct3 ab ac bc l ms
  have e:∀ x,ctD (m :: ms) x l=ctD [m] x l+ctD ms x l:=fun x=>zdA [m] ms x l
  rw [e,e,e,zcP,zcP,zcP,List.length_cons]
  by_cases c1:m.nm=a /\ m.tk.length=l
  ·rw [if_pos c1,if_neg (fun z=>ab (c1.1.symm.trans z.1)),if_neg (fun z=>ac (c1.1.symm.trans z.1))]; omega
  ·by_cases c2:m.nm=b /\ m.tk.length=l
   ·rw [if_neg c1,if_pos c2,if_neg (fun z=>bc (c2.1.symm.trans z.1))]; omega
   ·rw [if_neg c1,if_neg c2]; split <;> omega
theorem zoa {xs:List Str} (nd:xs.Nodup) {i j:Int} (i0:0 <= i) (i1:i < xs.length) (j0:0 <= j) (j1:j < xs.length) (e:nth xs i=nth xs j):i=j:=by
 unfold nth at e
 rw [List.getD_eq_getElem?_getD,List.getD_eq_getElem?_getD,List.getElem?_eq_getElem (by omega),List.getElem?_eq_getElem (by omega)] at e
 have e:xs[i.toNat]=xs[j.toNat]:=e
 have p:=List.pairwise_iff_getElem.mp nd
 rcases Nat.lt_trichotomy i.toNat j.toNat with z | z | z
 ·exact absurd e (p _ _ (by omega) (by omega) z)
 ·omega
 ·exact absurd e.symm (p _ _ (by omega) (by omega) z)
theorem zrn (k:Nat) {nms:List Str} (h3:nms.length=3) (nd:nms.Nodup) (ok:∀ s ∈ nms,okS s) {ms:List Mk5} (hm:∀ m ∈ ms,okS m.nm) (hl:ms.length <= 15) {at':Int} (a0:0 <= at') {n:Nat} :
  ∃ s:Str,(s ∈ nms /\ ctD ms s n < 6) /\ evF G T WF (k+1) "_law_deed" [.lst (nms.map .str),.lst (ms.map Mk5.raw),.int at',.int (n:Int)]=.ok (.str s,[]):=by
 have r3:zaq 0 (Int.toNat 3)=(List.range 3).map fun i:Nat=>D.int (i:Int):=zb4 3
 refine Wp.exi (f:=D.str) (Wp.fn d_law_deed rfl rfl rfl ?_)
 simp? only [d_law_deed,r3]
 refine Wp.for (enc:=fun i:Nat=>D.int (i:Int)) (xs:=List.range 3) (fun pre ρ=>(∀ i ∈ pre,6 <= ctD ms (nth nms ((at'+(i:Int)) % 3)) n) /\ ∃ (a b c:Option D),ρ=[some (.lst (nms.map .str)),some (.lst (ms.map Mk5.raw)),some (.int at'),some (.int (n:Int)),a,b,c]) ⟨(fun _ h=>nomatch h),_,_,_,rfl⟩ (fun pre t post ρ eq ⟨hp,a,b,c,eρ⟩=>?_) (fun ρ ⟨hp,a,b,c,eρ⟩=>?_)
 ·subst eρ
  have q0:=Int.emod_nonneg (at'+(t:Int)) (show (3:Int) ≠ 0 by decide)
  have q1:=Int.emod_lt_of_pos (at'+(t:Int)) (show (0:Int) < 3 by decide)
  have m3:=dmod (i:=at'+(t:Int)) (j:=3) (by decide)
  have ix:=zc7 (f:=D.str) (xs:=nms) (i:=(at'+(t:Int)) % 3) q0 (by omega)
  have hs:nth nms ((at'+(t:Int)) % 3) ∈ nms:=zgm q0 (by omega)
  have os:=ok _ hs
  obtain ⟨s,es⟩:∃ s,s=nth nms ((at'+(t:Int)) % 3):=⟨_,rfl⟩
  rw [<- es] at ix hs os
  have sq:seqD (.lst (ms.map Mk5.raw))=.ok (ms.map Mk5.raw):=rfl
  simp? only [zcX,m3,ix,sq]
  refine Wp.lcIf (enc:=Mk5.raw) (xs:=ms) (fun m=>decide (m.nm=s) && decide (m.tk.length=n)) Mk5.raw (fun m hmm=>?_) ?_
  ·have i0:dIdx m.raw (.int 0)=.ok (.str m.nm):=rfl
   have i1:dIdx m.raw (.int 1)=.ok (rowD m.tk):=rfl
   have ln:biEv .len [rowD m.tk]=.ok (.int (m.tk.length:Int)):=by rw [<- List.length_map (f:=D.int)]; rfl
   have e1:=deq_s (hm m hmm) os
   by_cases c1:m.nm=s
   ·rw [decide_eq_true c1] at e1
    by_cases c2:m.tk.length=n
    ·have c2':(m.tk.length:Int)=(n:Int):=by omega
     rw [if_pos (by simp [c1,c2])]
     simp? only [i0,i1,ln,e1,c2']
    ·have c2':¬ (m.tk.length:Int)=(n:Int):=by omega
     rw [if_neg (by simp [c2])]
     simp? only [i0,i1,ln,e1,c2']
   ·rw [decide_eq_false c1] at e1
    rw [if_neg (by simp [c1])]
    simp? only [i0,e1]
  ·have ec:((ms.filter fun m=>decide (m.nm=s) && decide (m.tk.length=n)).map Mk5.raw).length=ctD ms s n:=List.length_map _
   have lf:(ms.filter fun m=>decide (m.nm=s) && decide (m.tk.length=n)).length=ctD ms s n:=rfl
   have sz:ctD ms s n <= sizeLine:=Nat.le_trans (List.length_filter_le _ _) (by rw [sizeLine_eq]; omega)
   by_cases c:ctD ms s n < 6
   ·have c':(ctD ms s n:Int) < 6:=by omega
    simp? only [lf,sz,c']
    exact ⟨s,⟨hs,c⟩,rfl⟩
   ·have c':¬ (ctD ms s n:Int) < 6:=by omega
    simp? only [lf,sz,c']
    refine ⟨fun i hi=>?_,_,_,_,rfl⟩
    rcases List.mem_append.mp hi with z | z
    ·exact hp i z
    ·rw [List.mem_singleton.mp z,<- es]; omega
 ·exfalso
  have g:=fun i (h:i < 3)=>hp i (List.mem_range.mpr h)
  have g0:=g 0 (by omega); have g1:=g 1 (by omega); have g2:=g 2 (by omega)
  have key:∀ i j:Int,(0 <= i /\ i < 3) -> (0 <= j /\ j < 3) -> i ≠ j -> nth nms i ≠ nth nms j:=fun i j hi hj ne e=>ne (zoa nd hi.1 (by omega) hj.1 (by omega) e)
  have e0:=Int.emod_nonneg at' (show (3:Int) ≠ 0 by decide)
  have e1:=Int.emod_lt_of_pos at' (show (0:Int) < 3 by decide)
  have k01:=key ((at'+((0:Nat):Int)) % 3) ((at'+((1:Nat):Int)) % 3) (by omega) (by omega) (by omega)
  have k02:=key ((at'+((0:Nat):Int)) % 3) ((at'+((2:Nat):Int)) % 3) (by omega) (by omega) (by omega)
  have k12:=key ((at'+((1:Nat):Int)) % 3) ((at'+((2:Nat):Int)) % 3) (by omega) (by omega) (by omega)
  have:=ct3 k01 k02 k12 n ms
  omega
theorem zro (k:Nat) (ns:List Int) (hl:ns.length <= 63) {at':Nat} (ha:at' <= 900) {many:Int} (m1:1 <= many) {nms:List Str} (h3:nms.length=3) (nd:nms.Nodup) (ok:∀ s ∈ nms,isN s=true /\ s.length <= 100 /\ okS s) {ms:List Mk5} (hm:∀ m ∈ ms,okS m.nm) (h15:ms.length <= 15) :
  ∃ m:Mk5,(m.Ok many /\ m.nm ∈ nms /\ ctD ms m.nm m.tk.length < 6 /\ m.ts.length <= 9 /\ TsL m.tk.length m.ts) /\ evF G T WF (k+3) "_law_make" [.lst (ns.map .int),.int (at':Int),.int many,.lst (nms.map .str),.lst (ms.map Mk5.raw)]=.ok (m.raw,[.lst (ms.map Mk5.raw)]):=by
 have f0:=zbd (k+1) ns hl (z:=(at':Int)) (by omega) (by omega)
 have f1:=zbd (k+1) ns hl (z:=(at':Int)+1) (by omega) (by omega)
 generalize mixed ns (at':Int)=c0 at *
 obtain ⟨c,ec⟩:∃ c,c=c0 / 2:=⟨_,rfl⟩
 have d2:=ddiv (i:=c0) (j:=2) (zaR (by decide) (by decide))
 rw [<- ec] at d2
 generalize mixed ns ((at':Int)+1)=more at *
 have n0:=Int.emod_nonneg (c / 3) (show (2:Int) ≠ 0 by decide)
 have n1:=Int.emod_lt_of_pos (c / 3) (show (0:Int) < 2 by decide)
 obtain ⟨n,en,hn⟩:∃ n:Nat,1+c / 3 % 2=(n:Int) /\ (n=1 \/ n=2):=⟨(1+c / 3 % 2).toNat,by omega,by omega⟩
 obtain ⟨s,⟨s1,s2⟩,fd⟩:=zrn (k+1) h3 nd (fun s hs=>(ok s hs).2.2) hm h15 (at':=c % 3) (Int.emod_nonneg _ (by decide)) (n:=n)
 obtain ⟨ts,⟨t1,t2⟩,fp⟩:=zn9 k ns hl ha hn more
 have dd:=fun (x j:Int) (h:0 < j) (h1:j <= 10 ^ 60)=>ddiv (i:=x) (j:=j) (zaR h h1)
 have d3:=dd c 3 (by decide) (by decide)
 have d6:=dd c 6 (by decide) (by decide)
 have d36:=dd c 36 (by decide) (by decide)
 have d216:=dd c 216 (by decide) (by decide)
 have d32:=dd more 32 (by decide) (by decide)
 have e2:=dmod (i:=c / 3) (j:=2) (by decide)
 have e3:=dmod (i:=c) (j:=3) (by decide)
 have em:=fun x:Int=>dmod (i:=x) (j:=many) (by omega)
 have ep:=dmod (i:=more / 32) (j:=10 ^ 30+1) (by decide)
 have bm:=fun x:Int=>(⟨Int.emod_nonneg x (by omega),Int.emod_lt_of_pos x (by omega)⟩:0 <= x % many /\ x % many < many)
 have p0:=Int.emod_nonneg (more / 32) (show (10 ^ 30+1:Int) ≠ 0 by decide)
 have p1:=Int.emod_lt_of_pos (more / 32) (show (0:Int) < 10 ^ 30+1 by decide)
 have cx:=zoG hn (c / 6 % many) (c / 36 % many)
 have tl:([c / 6 % many,c / 36 % many].take n).length=n:=by rcases hn with rfl | rfl <;> rfl
 have tk:∀ x ∈ [c / 6 % many,c / 36 % many].take n,0 <= x /\ x < many:=fun x hx=>by
  have:=List.mem_of_mem_take hx
  rcases List.mem_cons.mp this with rfl | h
  ·exact bm _
  ·rw [List.mem_singleton.mp h]; exact bm _
 obtain ⟨o1,o2,o3⟩:=ok s s1
 refine ⟨⟨s,[c / 6 % many,c / 36 % many].take n,c / 216 % many,ts,more / 32 % (10 ^ 30+1)⟩,⟨?_,s1,by show ctD ms s _ < 6; rw [tl]; exact s2,t1,by show TsL _ ts; rw [tl]; exact t2⟩,?_⟩
 ·refine ⟨o1,o2,by show List.length _=1 \/ _; rw [tl]; exact hn,tk,(bm _).1,(bm _).2,by show ts.length <= 100; omega,fun t ht=>?_,p0,by show more / 32 % (10 ^ 30+1) <= 10 ^ 30; omega,fun t ht=>?_,o3⟩
  ·have:=(t2 t ht).1
   exact ⟨this.1.trans tl.symm,this.2⟩
  ·have:=(t2 t ht).2
   unfold Sm; omega
 ·suffices w:Wp (evF G T WF (k+3) "_law_make" [.lst (ns.map .int),.int (at':Int),.int many,.lst (nms.map .str),.lst (ms.map Mk5.raw)]) (fun r=>r=(Mk5.raw ⟨s,[c / 6 % many,c / 36 % many].take n,c / 216 % many,ts,more / 32 % (10 ^ 30+1)⟩,[.lst (ms.map Mk5.raw)])) NoX by
   obtain ⟨r,e,rfl⟩:=w.ex
   exact e
  refine Wp.fnO (i:=4) d_law_make rfl rfl rfl ?_
  simp? only [d_law_make,f0,f1,d2,d3,e2,en,e3,fd,d6,d36,d216,em,cx,fp,d32,ep]
  rfl
--CUT
structure RawL (M:Int) (ks:List Str) (rs:List Rd) (ms:List Mk5):Prop where
 M0:3 <= M /\ M < 10 ^ 60
 M2:M % 2=1
 kl:1 <= ks.length /\ ks.length <= 6
 kd:ks.Nodup
 kn:∀ s ∈ ks,Nm s
 rl:rs.length <= 12
 rs:∀ r ∈ rs,(0 <= r.j /\ r.j < r.k) /\ r.k < ks.length /\ 0 <= r.p /\ r.p <= 10 ^ 30
 ml:ms.length <= 16
 mo:∀ m ∈ ms,m.Ok ks.length /\ Nm m.nm /\ m.ts.length <= 9 /\ TsL m.tk.length m.ts
 mc:∀ x l,ctD ms x l <= 6
theorem rg6 (t:Nat) (h:t <= 40):rgcOk 6 (6+6 * (t:Int)) 6=true /\ (Builtin.Range.rangeSize 6 (6+6 * (t:Int)) 6).toNat=t:=by
 have:(List.range 41).all (fun t:Nat=>rgcOk 6 (6+6 * (t:Int)) 6 && decide ((Builtin.Range.rangeSize 6 (6+6 * (t:Int)) 6).toNat=t))=true:=by decide +kernel
 have:=Bool.and_eq_true_iff.mp (List.all_eq_true.mp this t (List.mem_range.mpr (by omega)))
 exact ⟨this.1,of_decide_eq_true this.2⟩
theorem zlG (c m:Int) {n:Nat} (hn:n <= 20):((List.range n).map fun k=>txt (name3 c m k)).Nodup /\ ∀ s ∈ (List.range n).map fun k=>txt (name3 c m k),Nm s:=by
 constructor
 ·rw [List.nodup_iff_pairwise_ne,List.pairwise_map]
  refine List.Pairwise.imp_of_mem (fun {i j} hi hj ne e=>?_) (List.nodup_iff_pairwise_ne.mp (List.nodup_range (n:=n)))
  exact ne (zlE (by have:=List.mem_range.mp hi; omega) (by have:=List.mem_range.mp hj; omega) e)
 ·intro s hs
  obtain ⟨k,_,rfl⟩:=List.mem_map.mp hs
  exact zn7 c m k
theorem zs1 {c:Nat} (h:97 <= c /\ c <= 122):ltr c=true:=by
 have:(List.range 26).all (fun i=>ltr (97+i))=true:=by decide +kernel
 have:=List.all_eq_true.mp this (c - 97) (List.mem_range.mpr (by omega))
 rwa [show 97+(c - 97)=c by omega] at this
theorem zs2 {s:Str} (h:Nm s):isN s=true:=by
 have l1:=h.1.1
 have el:s.length=(TL.tl s).length:=TL.len_tl s
 have ok:=zlB h.1
 unfold isN
 rw [if_neg (by omega)]
 have k:kept s=false:=by
  unfold kept
  rw [List.any_eq_false]
  intro z hz e
  have hz:z="let" \/ z="in" \/ z="pick" \/ z="again":=by simpa using hz
  have key:∀ w:Str,okS w -> PyData.eqv (.str w) (D.py (.str s))=true -> w=s:=fun w hw e=>by
   have:=(zcO 0 0 (.str w) (.str s) hw ok).mp e
   injection this
  rcases hz with rfl | rfl | rfl | rfl
  ·have:=key _ (by rw [za8]; decide) e
   exact h.2.1 (by rw [<- this,l_let,zct])
  ·have:=key _ (by rw [za8]; decide) e
   exact h.2.2.1 (by rw [<- this,l_in,zct])
  ·have:=key _ (by rw [za8]; decide) e
   exact h.2.2.2.1 (by rw [<- this,zoF,zct])
  ·have:=key _ (by rw [za8]; decide) e
   exact h.2.2.2.2 (by rw [<- this,zlC,zct])
 rw [k]
 show (true && s.cps.toList.all ltr)=true
 rw [Bool.true_and,List.all_eq_true]
 exact fun c hc=>zs1 (h.1.2 c hc)
theorem nm_ok {s:Str} (h:Nm s):isN s=true /\ s.length <= 100 /\ okS s:=by
 have l1:=h.1.1
 have el:s.length=(TL.tl s).length:=TL.len_tl s
 exact ⟨zs2 h,by omega,zlB h.1⟩
theorem zs3 (k:Nat) (ns:List Int) (hl:ns.length <= 63):∃ (M:Int) (ks:List Str) (rs:List Rd) (ms:List Mk5),RawL M ks rs ms /\ evF G T WF (k+4) "_law_raw" [.lst (ns.map .int),.int 6]=.ok (.lst [.int M,.lst (ks.map .str),.lst (rs.map rd),.lst (ms.map Mk5.raw)],[]):=by
 have fm:=fun (z:Int) (h0:0 <= z) (h1:z <= 1000)=>zbd (k+2) ns hl h0 h1
 have f0:=fm 0 (by omega) (by omega); have f1:=fm 1 (by omega) (by omega); have f2:=fm 2 (by omega) (by omega)
 have f3:=fm 3 (by omega) (by omega); have f4:=fm 4 (by omega) (by omega); have f5:=fm 5 (by omega) (by omega)
 have m6:=dmod (i:=mixed ns 1) (j:=6) (by decide)
 have n0:=Int.emod_nonneg (mixed ns 1) (show (6:Int) ≠ 0 by decide)
 have n1:=Int.emod_lt_of_pos (mixed ns 1) (show (0:Int) < 6 by decide)
 obtain ⟨many,en,hn⟩:∃ many:Nat,1+mixed ns 1 % 6=(many:Int) /\ (1 <= many /\ many <= 6):=⟨(1+mixed ns 1 % 6).toNat,by omega,by omega⟩
 have fk:=zdC (k+2) (mixed ns 2) (mixed ns 3) (many:=many) (by omega)
 have fd:=zdC (k+2) (mixed ns 4) (mixed ns 5) (many:=3) (by decide)
 obtain ⟨kd,kn⟩:=zlG (mixed ns 2) (mixed ns 3) (n:=many) (by omega)
 obtain ⟨dd,dn⟩:=zlG (mixed ns 4) (mixed ns 5) (n:=3) (by decide)
 have kl:((List.range many).map fun k=>txt (name3 (mixed ns 2) (mixed ns 3) k)).length=many:=by rw [List.length_map,List.length_range]
 have dl:((List.range 3).map fun k=>txt (name3 (mixed ns 4) (mixed ns 5) k)).length=3:=by rw [List.length_map,List.length_range]
 generalize ((List.range many).map fun k=>txt (name3 (mixed ns 2) (mixed ns 3) k))=ks at *
 generalize ((List.range 3).map fun k=>txt (name3 (mixed ns 4) (mixed ns 5) k))=ds at *
 have fd:evF G T WF (k+3) "_law_names" [.int (mixed ns 4),.int (mixed ns 5),.int 3]=.ok (.lst (ds.map .str),[]):=fd
 have fw:=zn8 (k+2) (mixed ns 0)
 obtain ⟨w1,w2⟩:=zlF (mixed ns 0)
 have len:biEv .len [.lst (ns.map .int)]=.ok (.int (ns.length:Int)):=by
  show R.ok (D.int ((ns.map D.int).length:Int))=_
  rw [List.length_map]
 have d6:=fun x:Int=>ddiv (i:=x) (j:=6) (zaR (by decide) (by decide))
 have m29:=dmod (i:=mixed ns 1 / 6) (j:=29) (by decide)
 have z0:=Int.emod_nonneg (mixed ns 1 / 6) (show (29:Int) ≠ 0 by decide)
 obtain ⟨it,mx,it0⟩:∃ it:Int,biEv .max2 [.int (((ns.length:Int) - 6+5) / 6),.int (mixed ns 1 / 6 % 29)]=.ok (.int it) /\ 0 <= it:=by
  refine ⟨if mixed ns 1 / 6 % 29 > ((ns.length:Int) - 6+5) / 6 then mixed ns 1 / 6 % 29 else ((ns.length:Int) - 6+5) / 6,rfl,?_⟩
  split <;> omega
 obtain ⟨t,mn,ht⟩:∃ t:Nat,biEv .min2 [.int it,.int 40]=.ok (.int (t:Int)) /\ t <= 40:=by
  refine ⟨(if (40:Int) < it then 40 else it).toNat,?_,by split <;> omega⟩
  rw [Int.toNat_of_nonneg (by split <;> omega)]; rfl
 obtain ⟨ro,rs⟩:=rg6 t ht
 have mu:=dmul (i:=6) (j:=(t:Int)) (mulL (by decide))
 obtain ⟨r,e,M,ks',rs',ms',hR,er⟩:∃ r,evF G T WF (k+4) "_law_raw" [.lst (ns.map .int),.int 6]=.ok r /\ ∃ (M:Int) (ks:List Str) (rs:List Rd) (ms:List Mk5),RawL M ks rs ms /\ r=(.lst [.int M,.lst (ks.map .str),.lst (rs.map rd),.lst (ms.map Mk5.raw)],[]):=by
  refine Wp.ex (Wp.fn d_law_raw rfl rfl rfl ?_)
  simp? only [d_law_raw,f0,f1,f2,f3,f4,f5,m6,en,fk,fd,len,d6,m29,mx,mn,mu,ro,rs]
  refine Wp.forC (fun i ρ=>∃ (rr:List Rd) (mm:List Mk5) (a:Option D),RawL (zcu (mixed ns 0)) ks rr mm /\ (rr.length+mm.length <= i) /\ ρ=[some (.lst (ns.map .int)),some (.int 6),some (.int (many:Int)),some (.lst (ks.map .str)),some (.lst (ds.map .str)),some (.lst (rr.map rd)),some (.lst (mm.map Mk5.raw)),some (.int it),a]) ⟨[],[],_,⟨w1,w2,by omega,kd,kn,by simp,fun _ h=>(nomatch h),by simp,fun _ h=>(nomatch h),fun _ _=>by simp [ctD]⟩,by simp,rfl⟩ (fun i ρ hi ⟨rr,mm,a,hR,hc,eρ⟩=>?_) (fun ρ ⟨rr,mm,a,hR,hc,eρ⟩=>?_)
  ·subst eρ
   have ha:6+6 * i <= 900:=by omega
   have eat:(6:Int)+(i:Int) * 6=((6+6 * i:Nat):Int):=by omega
   rw [eat]
   have fc:=fm ((6+6 * i:Nat):Int) (by omega) (by omega)
   have mp:=dmod (i:=mixed ns ((6+6 * i:Nat):Int)) (j:=2) (by decide)
   have rl:=hR.rl
   have ml:=hR.ml
   have lr:(rr.map rd).length=rr.length:=List.length_map _
   have lm:(mm.map Mk5.raw).length=mm.length:=List.length_map _
   have kmany:ks.length=many:=kl
   have mk:∀ (_:mm.length < 16),∃ m:Mk5,(m.Ok ks.length /\ Nm m.nm /\ m.ts.length <= 9 /\ TsL m.tk.length m.ts) /\ ctD mm m.nm m.tk.length < 6 /\ evF G T WF (k+3) "_law_make" [.lst (ns.map .int),.int ((6+6 * i:Nat):Int),.int (many:Int),.lst (ds.map .str),.lst (mm.map Mk5.raw)]=.ok (m.raw,[.lst (mm.map Mk5.raw)]):=fun h16=>by
    obtain ⟨m,⟨o1,o2,o3,o4,o5⟩,fmk⟩:=zro k ns hl ha (many:=(many:Int)) (by omega) dl dd (fun s hs=>nm_ok (dn s hs)) (ms:=mm) (fun m hm=>(hR.mo m hm).1.so) (by omega)
    exact ⟨m,⟨by rw [kmany]; exact o1,dn _ o2,o4,o5⟩,o3,fmk⟩
   have road:∀ (_:1 < many) (_:rr.length < 12),∃ x:Rd,RawL (zcu (mixed ns 0)) ks (rr ++ [x]) mm /\ evF G T WF (k+3) "_law_road" [.lst (ns.map .int),.int ((6+6 * i:Nat):Int),.int (many:Int)]=.ok (rd x,[]):=fun h2 h12=>by
    obtain ⟨x,xo,fx⟩:=zrm (k+1) ns hl ha (many:=(many:Int)) (by omega) (by omega)
    refine ⟨x,⟨hR.M0,hR.M2,hR.kl,hR.kd,hR.kn,by rw [List.length_append,List.length_singleton]; omega,fun z hz=>?_,hR.ml,hR.mo,hR.mc⟩,fx⟩
    rcases List.mem_append.mp hz with z1 | z1
    ·exact hR.rs z z1
    ·rw [List.mem_singleton.mp z1,kmany]; exact xo
   have make:∀ (_:mm.length < 16),∃ m:Mk5,RawL (zcu (mixed ns 0)) ks rr (mm ++ [m]) /\ evF G T WF (k+3) "_law_make" [.lst (ns.map .int),.int ((6+6 * i:Nat):Int),.int (many:Int),.lst (ds.map .str),.lst (mm.map Mk5.raw)]=.ok (m.raw,[.lst (mm.map Mk5.raw)]):=fun h16=>by
    obtain ⟨m,o,o6,fmk⟩:=mk h16
    refine ⟨m,⟨hR.M0,hR.M2,hR.kl,hR.kd,hR.kn,hR.rl,hR.rs,by rw [List.length_append,List.length_singleton]; omega,fun z hz=>?_,fun x l=>?_⟩,fmk⟩
    ·rcases List.mem_append.mp hz with z1 | z1
     ·exact hR.mo z z1
     ·rw [List.mem_singleton.mp z1]; exact o
    ·rw [zdA,zcP]
     have:=hR.mc x l
     split
     ·rename_i z; obtain ⟨rfl,rfl⟩:=z; omega
     ·omega
   have szm:mm.length < sizeLine:=by rw [sizeLine_eq]; omega
   have szr:rr.length < sizeLine:=by rw [sizeLine_eq]; omega
   by_cases c1:mixed ns ((6+6 * i:Nat):Int) % 2=0
   ·by_cases c2:1 < many
    ·have c2':(1:Int) < (many:Int):=by omega
     by_cases c3:rr.length < 12
     ·have c3':(rr.length:Int) < 12:=by omega
      obtain ⟨x,hX,fx⟩:=road c2 c3
      simp? only [zaG,fc,mp,c1,c2',c3',fx,szr]
      exact ⟨rr ++ [x],mm,_,hX,by rw [List.length_append,List.length_singleton]; omega,by rw [List.map_append]; rfl⟩
     ·have c3':¬ (rr.length:Int) < 12:=by omega
      by_cases c4:mm.length < 16
      ·obtain ⟨m,hX,fx⟩:=make c4
       have c4':(mm.length:Int) < 16:=by omega
       simp? only [zaG,fc,mp,c1,c2',c3',c4',fx,szm]
       exact ⟨rr,mm ++ [m],_,hX,by rw [List.length_append,List.length_singleton]; omega,by rw [List.map_append]; rfl⟩
      ·have c4':¬ (mm.length:Int) < 16:=by omega
       simp? only [zaG,fc,mp,c1,c2',c3',c4']
       exact ⟨rr,mm,_,hR,by omega,rfl⟩
    ·have c2':¬ (1:Int) < (many:Int):=by omega
     by_cases c4:mm.length < 16
     ·obtain ⟨m,hX,fx⟩:=make c4
      have c4':(mm.length:Int) < 16:=by omega
      simp? only [zaG,fc,mp,c1,c2',c4',fx,szm]
      exact ⟨rr,mm ++ [m],_,hX,by rw [List.length_append,List.length_singleton]; omega,by rw [List.map_append]; rfl⟩
     ·have c4':¬ (mm.length:Int) < 16:=by omega
      simp? only [zaG,fc,mp,c1,c2',c4']
      exact ⟨rr,mm,_,hR,by omega,rfl⟩
   ·skip
    by_cases c4:mm.length < 16
    ·obtain ⟨m,hX,fx⟩:=make c4
     have c4':(mm.length:Int) < 16:=by omega
     simp? only [zaG,fc,mp,c1,c4',fx,szm]
     exact ⟨rr,mm ++ [m],_,hX,by rw [List.length_append,List.length_singleton]; omega,by rw [List.map_append]; rfl⟩
    ·have c4':¬ (mm.length:Int) < 16:=by omega
     simp? only [zaG,fc,mp,c1,c4']
     exact ⟨rr,mm,_,hR,by omega,rfl⟩
  ·subst eρ
   simp? only [f0,fw]
   exact ⟨_,ks,rr,mm,hR,rfl⟩
 exact ⟨M,ks',rs',ms',hR,by rw [e,er]⟩
--CUT
theorem zgC (n:Nat) {M:Int} (hM:3 <= M) (terms:List (List Int × Int)) (hl:terms.length <= 1000) (ht:∀ t ∈ terms,t.1 ≠ []) :
  evF G T WF (n+1) "_law_form" [.int M,.lst (terms.map termD)]=.ok (.tup ((formP M terms).map termD),[]):=by
 refine (Wp.fn d_law_form rfl rfl rfl ?_).eq
 have e0:dtD []=.dT []:=rfl
 have md:=fun x:Int=>dmod (i:=x) (j:=M) (by omega)
 simp? only [d_law_form,<- e0]
 refine Wp.for (enc:=termD) (fun pre ρ=>∃ a b:Option D,((pre.foldl (addT M) []).length <= pre.length /\ (∀ es ∈ (pre.foldl (addT M) []).map (·.1),es ≠ []) /\ ∀ es c,getT (pre.foldl (addT M) []) es=some c -> 0 <= c) /\ ρ=[some (.int M),some (.lst (terms.map termD)),some (dtD (pre.foldl (addT M) [])),a,b]) ⟨_,_,⟨Nat.le_refl _,by simp,fun _ _ h=>(nomatch h)⟩,rfl⟩ (fun pre t post ρ e ⟨a,b,⟨pl0,ie,ip⟩,eρ⟩=>?_) (fun ρ ⟨a,b,⟨pl0,ie,ip⟩,eρ⟩=>?_)
 ·subst eρ
  have tn:=ht t (by rw [e]; simp)
  have pl:pre.length <= 1000:=by have:=congrArg List.length e; rw [List.length_append] at this; omega
  rw [List.foldl_append,List.foldl_cons,List.foldl_nil]
  generalize pre.foldl (addT M) []=tm at *
  have gg:=zk3 tm t.1 0
  have ds:=zk4 (tm:=tm) (es:=t.1) (c:=((getT tm t.1).getD 0+t.2) % M) (by omega)
  have l2:=zeG tm t.1 (((getT tm t.1).getD 0+t.2) % M)
  simp? only [zcY,termD,gg,ds,md]
  refine ⟨_,_,⟨by rw [List.length_append,List.length_singleton]; unfold addT; omega,fun es he=>?_,fun es c hc=>?_⟩,rfl⟩
  ·unfold addT at he
   rw [zbl] at he
   split at he
   ·exact ie es he
   ·rcases List.mem_append.mp he with h | h
    ·exact ie es h
    ·rw [List.mem_singleton.mp h]; exact tn
  ·unfold addT at hc
   rw [zdx] at hc
   split at hc
   ·cases hc; exact Int.emod_nonneg _ (by omega)
   ·exact ip es c hc
 ·subst eρ
  rw [show formP M terms=gat (terms.foldl (addT M) []) from rfl]
  generalize terms.foldl (addT M) []=tm at *
  have so:=zd3 ie (by omega)
  have ls:(sortR (tm.map (·.1))).length <= 100000:=by rw [(zaK _).length_eq,List.length_map]; omega
  simp? only [so]
  refine Wp.lcIf (enc:=rowD) (xs:=sortR (tm.map (·.1))) (fun es=>!decide ((getT tm es).getD 0=0)) (fun es=>termD (es,(getT tm es).getD 0)) (fun es hm=>?_) ?_
  ·have hk:es ∈ tm.map (·.1):=(zaK _).mem_iff.mp hm
   obtain ⟨c,hc⟩:=Option.isSome_iff_exists.mp (getT_key.mpr hk)
   have ix:=zk2 hc
   have cp:=ip es c hc
   rw [hc]
   by_cases c0:c=0
   ·subst c0
    simp? only [ix]
   ·have cp':(0:Int) < c:=by omega
    simp? only [ix,cp']
    simp [c0,termD]
  ·have e:(gat tm).map termD=((sortR (tm.map (·.1))).filter fun es=>!decide ((getT tm es).getD 0=0)).map fun es=>termD (es,(getT tm es).getD 0):=by
    unfold gat; rw [List.map_map]; rfl
   have lf:((sortR (tm.map (·.1))).filter fun es=>!decide ((getT tm es).getD 0=0)).length <= 100000:=Nat.le_trans (List.length_filter_le _ _) ls
   simp? only []
   rw [e]
theorem zs4 (n:Nat) {M:Int} {ks:List Str} {rs:List Rd} {ms:List Mk5} (h:RawL M ks rs ms) :
  evF G T WF (n+2) "_law_due" [.lst [.int M,.lst (ks.map .str),.lst (rs.map rd),.lst (ms.map Mk5.raw)]]=.ok (.tup [.int M,.tup (ks.map .str),.tup ((rs.map (rdOn M)).map rd),.tup (ms.map (Mk5.made M))],[]):=by
 have M0:=h.M0
 have i0:∀ a b c d:D,dIdx (.lst [a,b,c,d]) (.int 0)=.ok a:=fun _ _ _ _=>rfl
 have i1:∀ a b c d:D,dIdx (.lst [a,b,c,d]) (.int 1)=.ok b:=fun _ _ _ _=>rfl
 have i2:∀ a b c d:D,dIdx (.lst [a,b,c,d]) (.int 2)=.ok c:=fun _ _ _ _=>rfl
 have i3:∀ a b c d:D,dIdx (.lst [a,b,c,d]) (.int 3)=.ok d:=fun _ _ _ _=>rfl
 have sq1:seqD (.lst (rs.map rd))=.ok (rs.map rd):=rfl
 have sq2:seqD (.lst (ms.map Mk5.raw))=.ok (ms.map Mk5.raw):=rfl
 have md:=fun x:Int=>dmod (i:=x) (j:=M) (by omega)
 have tt:∀ xs:List D,biEv .tuple [.lst xs]=.ok (.tup xs):=fun _=>rfl
 refine (Wp.fn d_law_due rfl rfl rfl ?_).eq
 rw [List.map_map]
 simp? only [d_law_due,i0,i1,i2,i3,sq1]
 refine Wp.lc (enc:=rd) (xs:=rs) (fun r=>rd (rdOn M r)) (fun r hr=>?_) ?_
 ·have st:∀ (i1 i2 i3 i4 i5:Nat) (ρ:Pf.Env),setT (.many [i1,i2,i3,i4,i5]) (rd r) ρ=.ok (((((ρ.set i1 (some (.int r.j))).set i2 (some (.int r.k))).set i3 (some (.int r.a))).set i4 (some (.int r.b))).set i5 (some (.int r.p))):=fun _ _ _ _ _ _=>rfl
  simp? only [st,md]
  rfl
 have lr:rs.length <= sizeLine:=by have:=h.rl; rw [sizeLine_eq]; omega
 have lm:ms.length <= sizeLine:=by have:=h.ml; rw [sizeLine_eq]; omega
 simp? only [lr,tt,sq2,i3]
 refine Wp.lc (enc:=Mk5.raw) (xs:=ms) (fun m=>Mk5.made M m) (fun m hm=>?_) ?_
 ·have ff:=zgC n (M:=M) M0.1 m.ts (by have:=(h.mo m hm).2.2.1; omega) (fun t ht z=>by
   have:=(h.mo m hm).2.2.2 t ht
   have l1:=this.1.1
   rw [z] at l1
   have:=(h.mo m hm).1.tl
   simp at l1; omega)
  have st:∀ (i1 i2 i3 i4 i5:Nat) (ρ:Pf.Env),setT (.many [i1,i2,i3,i4,i5]) m.raw ρ=.ok (((((ρ.set i1 (some (.str m.nm))).set i2 (some (rowD m.tk))).set i3 (some (.int m.gv))).set i4 (some (.lst (m.ts.map termD)))).set i5 (some (.int m.p))):=fun _ _ _ _ _ _=>rfl
  simp? only [st,ff]
  rfl
 simp? only [lm,tt,i1]
 rfl
--CUT
def hR (es:List Int):Int:=reduceHash (Builtin.Tuple.tupleHashOf (es.map ziC))
theorem zdD:∀ {a b c:List Int},ltI a b=true -> ltI b c=true -> ltI a c=true
 | _,[],_,h,_=>by simp [ltI] at h
 | _,_ :: _,[],_,h=>by simp [ltI] at h
 | [],_ :: _,_ :: _,_,_=>rfl
 | a :: as,b :: bs,c :: cs,h1,h2=>by
  unfold ltI at h1 h2 ⊢
  by_cases e1:a=b
  ·rw [if_pos e1] at h1
   by_cases e2:b=c
   ·rw [if_pos e2] at h2
    rw [if_pos (e1.trans e2)]
    exact zdD h1 h2
   ·rw [if_neg e2] at h2
    rw [if_neg fun z=>e2 (e1.symm.trans z)]
    have:=of_decide_eq_true h2
    exact decide_eq_true (by omega)
  ·rw [if_neg e1] at h1
   have q1:=of_decide_eq_true h1
   by_cases e2:b=c
   ·rw [if_neg (by omega)]
    exact decide_eq_true (by omega)
   ·rw [if_neg e2] at h2
    have q2:=of_decide_eq_true h2
    rw [if_neg (by omega)]
    exact decide_eq_true (by omega)
theorem zdE:∀ a b:List Int,ltI a b=true \/ a=b \/ ltI b a=true
 | [],[]=>.inr (.inl rfl)
 | [],_ :: _=>.inl rfl
 | _ :: _,[]=>.inr (.inr rfl)
 | a :: as,b :: bs=>by
  unfold ltI
  by_cases e:a=b
  ·subst e
   rw [if_pos rfl,if_pos rfl]
   rcases zdE as bs with h | h | h
   ·exact .inl h
   ·exact .inr (.inl (by rw [h]))
   ·exact .inr (.inr h)
  ·rw [if_neg e,if_neg fun z=>e z.symm]
   by_cases c:a < b
   ·exact .inl (decide_eq_true c)
   ·exact .inr (.inr (decide_eq_true (by omega)))
theorem zbX:∀ a:List Int,ltI a a=false
 | []=>rfl
 | x :: a=>by simp [ltI,zbX a]
theorem zdF {a b:List Int} (h:ltI a b=true):ltI b a=false:=by
 cases e:ltI b a with
 | false=>rfl
 | true =>
  have:=zdD h e
  rw [zbX] at this; cases this
theorem zlH (a b c:List Int) (h1:leI a b=true) (h2:leI b c=true):leI a c=true:=by
 unfold leI at *
 rcases zdE a b with h | h | h
 ·rcases zdE b c with g | g | g
  ·rw [zdF (zdD h g)]; rfl
  ·subst g; exact h1
  ·rw [g] at h2; cases h2
 ·subst h; exact h2
 ·rw [h] at h1; cases h1
theorem zlI (a b:List Int):(leI a b || leI b a)=true:=by
 unfold leI
 rcases zdE a b with h | h | h
 ·rw [zdF h]; rfl
 ·subst h; rw [zbX]; rfl
 ·rw [zdF h]; simp
theorem zoc {l:List (List Int)} (nd:l.Nodup):(sortR l).Pairwise fun a b=>ltI a b=true:=by
 have h:(sortR l).Pairwise (fun a b=>leI a b=true):=List.pairwise_mergeSort zlH zlI l
 have n:(sortR l).Nodup:=(zaK l).nodup_iff.mpr nd
 refine (h.and n).imp fun {a b} z=>?_
 rcases zdE a b with q | q | q
 ·exact q
 ·exact absurd q z.2
 ·have:=z.1
  unfold leI at this
  rw [q] at this; cases this
theorem gat_mem {tm:TmR} {t:List Int × Int}:t ∈ gat tm ↔ getT tm t.1=some t.2 /\ t.2 ≠ 0:=by
 unfold gat
 constructor
 ·intro h
  obtain ⟨es,he,rfl⟩:=List.mem_map.mp h
  obtain ⟨h1,h2⟩:=List.mem_filter.mp he
  have hk:=(zaK _).mem_iff.mp h1
  obtain ⟨c,hc⟩:=Option.isSome_iff_exists.mp (getT_key.mpr hk)
  rw [hc] at h2 ⊢
  exact ⟨rfl,by simpa using h2⟩
 ·rintro ⟨h1,h2⟩
  refine List.mem_map.mpr ⟨t.1,List.mem_filter.mpr ⟨(zaK _).mem_iff.mpr (getT_key.mp (by rw [h1]; rfl)),by rw [h1]; simpa using h2⟩,?_⟩
  rw [h1]; rfl
theorem zs5 {tm:TmR} (nd:(tm.map (·.1)).Nodup):(gat tm).Pairwise fun a b=>ltI a.1 b.1=true:=by
 unfold gat
 rw [List.pairwise_map]
 exact (zoc nd).filter _
def rawT (tm:TmR) (t:List Int × Int):TmR:=putT tm t.1 ((getT tm t.1).getD 0+t.2)
structure RelT (M:Int) (a r:TmR):Prop where
 keys:a.map (·.1)=r.map (·.1)
 nd:(r.map (·.1)).Nodup
 mod:∀ es,getT a es=(getT r es).map (· % M)
theorem RelT.nil {M:Int}:RelT M [] []:=⟨rfl,List.nodup_nil,fun _=>rfl⟩
theorem RelT.put {M:Int} {a r:TmR} (h:RelT M a r) {es:List Int} {c d:Int} (e:c=d % M):RelT M (putT a es c) (putT r es d):=by
 refine ⟨by rw [zbl,zbl,h.keys],zd2 h.nd,fun fs=>?_⟩
 rw [zdx,zdx]
 by_cases z:fs=es
 ·rw [if_pos z,if_pos z,e]; rfl
 ·rw [if_neg z,if_neg z]; exact h.mod fs
theorem RelT.step {M:Int} {a r:TmR} (h:RelT M a r) (t:List Int × Int):RelT M (addT M a t) (rawT r t):=by
 unfold addT rawT
 refine h.put ?_
 rw [h.mod]
 cases getT r t.1 with
 | none=>rfl
 | some x=>show (x % M+t.2) % M=(x+t.2) % M; exact Int.emod_add_emod ..
structure IsForm (M:Int) (fs:List (List Int × Int)) (tm:TmR):Prop where
 pw:fs.Pairwise fun a b=>ltI a.1 b.1=true
 mem:∀ t ∈ fs,∃ s,getT tm t.1=some s /\ 1 <= t.2 /\ t.2 < M /\ (s - t.2) % M=0
 rest:∀ es s,getT tm es=some s -> es ∉ fs.map (·.1) -> s % M=0
def pr (p:Int × Int):D:=.tup [.int p.1,.int p.2]
def co (ts:TmR) (es:List Int):Int:=(ts.map fun t=>if t.1=es then t.2 else 0).sum
structure FormOk (M:Int) (fs:TmR):Prop where
 pw:fs.Pairwise fun a b=>ltI a.1 b.1=true
 num:∀ t ∈ fs,1 <= t.2 /\ t.2 < M
theorem zod {fs:TmR} (h:fs.Pairwise fun a b=>ltI a.1 b.1=true):(fs.map (·.1)).Nodup:=by
 unfold List.Nodup
 rw [List.pairwise_map]
 exact h.imp fun {a b} z e=>by rw [e,zbX] at z; cases z
theorem FormOk.nd {M:Int} {fs:TmR} (h:FormOk M fs):(fs.map (·.1)).Nodup:=zod h.pw
def OnW (M:Int) (a:TmR):Prop:=∀ t ∈ a,0 <= t.2 /\ t.2 < M
theorem zlJ {tm:TmR} {es:List Int} {c:Int} {t:List Int × Int} (h:t ∈ putT tm es c):t=(es,c) \/ t ∈ tm:=by
 unfold putT at h
 split at h
 ·obtain ⟨u,hu,rfl⟩:=List.mem_map.mp h
  by_cases e:u.1=es
  ·rw [if_pos e,e]; exact .inl rfl
  ·rw [if_neg e]; exact .inr hu
 ·rcases List.mem_append.mp h with h | h
  ·exact .inr h
  ·exact .inl (List.mem_singleton.mp h)
theorem zs6 {M:Int} {a:TmR} (nd:(a.map (·.1)).Nodup) (h:OnW M a):FormOk M (gat a) :=
 ⟨zs5 nd,fun t ht=>by
  obtain ⟨h1,h2⟩:=gat_mem.mp ht
  have h3:0 <= t.2 /\ t.2 < M:=h _ (zk5 h1)
  omega⟩
structure AddOk (M:Int) (a:TmR):Prop where
 nd:(a.map (·.1)).Nodup
 on:OnW M a
theorem zrp {M:Int} (hM:0 < M) {a:TmR} (h:AddOk M a) (t:List Int × Int):AddOk M (addT M a t) :=
 ⟨zd2 h.nd,fun u hu=>by
  rcases zlJ hu with rfl | hu
  ·exact ⟨Int.emod_nonneg _ (by omega),Int.emod_lt_of_pos _ hM⟩
  ·exact h.on u hu⟩
theorem zlK {M:Int} (hM:0 < M):∀ (ts:TmR) {a:TmR},AddOk M a -> AddOk M (ts.foldl (addT M) a)
 | [],_,h=>h
 | t :: ts,_,h=>zlK hM ts (zrp hM h t)
theorem AddOk.nil {M:Int}:AddOk M []:=⟨List.nodup_nil,fun _ h=>nomatch h⟩
theorem FormOk.add {M:Int} {fs:TmR} (h:FormOk M fs):AddOk M fs:=⟨h.nd,fun t ht=>by have:=h.num t ht; omega⟩
theorem zlL {M:Int} {ts:TmR} {a:TmR} {es:List Int} (h:es ∈ (ts.foldl (addT M) a).map (·.1)):es ∈ a.map (·.1) \/ es ∈ ts.map (·.1):=by
 induction ts generalizing a with
 | nil=>exact .inl h
 | cons t ts ih =>
  rcases ih h with h | h
  ·unfold addT at h
   rw [zbl] at h
   split at h
   ·exact .inl h
   ·rcases List.mem_append.mp h with h | h
    ·exact .inl h
    ·exact .inr (by rw [List.mem_singleton.mp h]; simp)
  ·exact .inr (List.mem_cons_of_mem _ h)
theorem zoe {M:Int} {ts:TmR} {a:TmR}:(ts.foldl (addT M) a).length <= a.length+ts.length:=by
 induction ts generalizing a with
 | nil=>exact Nat.le_refl _
 | cons t ts ih =>
  have h1:=ih (a:=addT M a t)
  have h3:(addT M a t).length <= a.length+1:=zeG a t.1 _
  rw [List.foldl_cons,List.length_cons]
  omega
theorem zof {a:TmR} {es:List Int} (h:es ∈ (gat a).map (·.1)):es ∈ a.map (·.1):=by
 obtain ⟨t,ht,rfl⟩:=List.mem_map.mp h
 exact getT_key.mp (by rw [(gat_mem.mp ht).1]; rfl)
theorem zrq (a:TmR):(gat a).length <= a.length:=by
 unfold gat
 rw [List.length_map]
 refine Nat.le_trans (List.length_filter_le _ _) ?_
 rw [(zaK _).length_eq,List.length_map]; exact Nat.le_refl _
theorem zog {M:Int} (hM:0 < M) (ts:TmR):FormOk M (formP M ts):=by
 have a:=zlK hM ts AddOk.nil
 exact zs6 a.nd a.on
def gath (M:Int) (m:Mk5):Mk5:={ m with ts:=formP M m.ts }
theorem zlM {M:Int} (hM:0 < M) (ts:TmR):∀ t ∈ formP M ts,1 <= t.2 /\ t.2 < M:=(zog hM ts).num
theorem zlN {M:Int} {ts:TmR} {t:List Int × Int} (h:t ∈ formP M ts):∃ u ∈ ts,u.1=t.1:=by
 have hk:=zof (List.mem_map.mpr ⟨t,h,rfl⟩)
 rcases zlL hk with z | z
 ·cases z
 ·obtain ⟨u,hu,e⟩:=List.mem_map.mp z
  exact ⟨u,hu,e⟩
theorem zlO (M:Int) (ts:TmR):(formP M ts).length <= ts.length:=by
 have a:=zrq (ts.foldl (addT M) [])
 have b:=zoe (M:=M) (ts:=ts) (a:=[])
 have:(formP M ts).length <= (ts.foldl (addT M) []).length:=a
 have b:(ts.foldl (addT M) []).length <= 0+ts.length:=b
 omega
def TBk.vol (b:TBk):D:=.tup [.int b.M,.tup (b.ks.map .str),.tup (b.rs.map rd),.tup (b.ms.map fun m=>.tup [.str m.nm,rowD m.tk,.int m.gv,.tup (m.ts.map termD),.int m.p])]
def mkD (m:Mk5):D:=.tup [.str m.nm,rowD m.tk,.int m.gv,.tup (m.ts.map termD),.int m.p]
theorem zs7 (b:TBk):b.vol=.tup [.int b.M,.tup (b.ks.map .str),.tup (b.rs.map rd),.tup (b.ms.map mkD)]:=rfl
def tbL (M:Int) (ks:List Str) (rs:List Rd) (ms:List Mk5):TBk:=⟨M,ks,rs.map (rdOn M),ms.map (gath M)⟩
theorem zs8 {M:Int} {ks:List Str} {rs:List Rd} {ms:List Mk5} (h:RawL M ks rs ms):(tbL M ks rs ms).Ok:=by
 obtain ⟨M0,M1⟩:=h.M0
 refine ⟨M0,M1,h.kl,h.kd,fun s hs=>(h.kn s hs).1,?_,fun r hr=>?_,?_,fun m hm=>?_,fun m hm=>?_,fun m hm=>?_⟩
 ·show (rs.map (rdOn M)).length <= 12
  rw [List.length_map]; exact h.rl
 ·obtain ⟨x,hx,rfl⟩:=List.mem_map.mp hr
  obtain ⟨⟨r1,r2⟩,r3,r4,r5⟩:=h.rs x hx
  show (0 <= x.j /\ x.j < (ks.length:Int)) /\ (0 <= x.k /\ x.k < (ks.length:Int)) /\ (0 <= x.a % M /\ x.a % M < M) /\ (0 <= x.b % M /\ x.b % M < M) /\ 0 <= x.p /\ x.p <= 10 ^ 30
  have e1:=Int.emod_nonneg x.a (show M ≠ 0 by omega)
  have e2:=Int.emod_lt_of_pos x.a (show 0 < M by omega)
  have e3:=Int.emod_nonneg x.b (show M ≠ 0 by omega)
  have e4:=Int.emod_lt_of_pos x.b (show 0 < M by omega)
  omega
 ·show (ms.map (gath M)).length <= 16
  rw [List.length_map]; exact h.ml
 ·obtain ⟨x,hx,rfl⟩:=List.mem_map.mp hm
  exact (h.mo x hx).2.1.1
 ·obtain ⟨x,hx,rfl⟩:=List.mem_map.mp hm
  have o:=(h.mo x hx).1
  exact ⟨o.tl,o.tk,⟨o.g0,o.g1⟩,o.p0,o.p1⟩
 ·obtain ⟨x,hx,rfl⟩:=List.mem_map.mp hm
  have o:=(h.mo x hx).1
  refine ⟨Nat.le_trans (zlO M x.ts) o.tn,fun t ht=>?_⟩
  obtain ⟨u,hu,e⟩:=zlN ht
  have z:=o.ts u hu
  have tl:=o.tl
  have nm:=zlM (by omega) x.ts t ht
  rw [<- e]
  exact ⟨by omega,fun c hc=>by have:=z.2 c hc; omega,nm.1,nm.2⟩
theorem zrr (M:Int) (ks:List Str) (rs:List Rd) (ms:List Mk5):(tbL M ks rs ms).vol=.tup [.int M,.tup (ks.map .str),.tup ((rs.map (rdOn M)).map rd),.tup (ms.map (Mk5.made M))]:=by
 unfold TBk.vol tbL
 congr 4
 rw [List.map_map]
 rfl
def alD:Nat -> D -> Bool
 | _,.int _=>true
 | _,.str s=>s.cps.toList.all fun c=>decide (c < 1000)
 | n+1,.tup xs=>xs.all (alD n) && decide (xs.length <= 100)
 | _,_=>false
theorem zgD (n:Nat) (i:Int):evF G T WF (n+1) "_law_whole" [.int i]=.ok (.bl true,[]):=by
 refine (Wp.fn d_law_whole rfl rfl rfl ?_).eq
 simp? only [d_law_whole]
theorem zdG:∀ (n:Nat) (d:D),alD n d=true -> evF G T WF (n+2) "_law_alike" [d,d]=.ok (.bl true,[])
 | n,.int i,_=>by
  have fw:=zgD n i
  have y1:isiD (.int i) [.tuple]=.ok false:=rfl
  have y2:isiD (.int i) [.str]=.ok false:=rfl
  refine (Wp.fn d_law_alike rfl rfl rfl ?_).eq
  simp? only [d_law_alike,fw,y1,y2]
 | n,.str s,h=>by
  have os:okS s:=by
   rw [za8]
   intro c hc
   have h:(s.cps.toList.all fun c=>decide (c < 1000))=true:=by cases n <;> exact h
   have:=of_decide_eq_true (List.all_eq_true.mp h c hc)
   omega
  have e:=deq_s os os
  rw [decide_eq_true rfl] at e
  have y1:isiD (.str s) [.tuple]=.ok false:=rfl
  have y2:isiD (.str s) [.str]=.ok true:=rfl
  refine (Wp.fn d_law_alike rfl rfl rfl ?_).eq
  simp? only [d_law_alike,e,y1,y2]
 | n+1,.tup xs,h=>by
  have h:(xs.all (alD n) && decide (xs.length <= 100))=true:=h
  rw [Bool.and_eq_true] at h
  have hl:=of_decide_eq_true h.2
  have ln:biEv .len [.tup xs]=.ok (.int (xs.length:Int)):=rfl
  refine (Wp.fn d_law_alike rfl rfl rfl ?_).eq
  have y1:isiD (.tup xs) [.tuple]=.ok true:=rfl
  simp? only [d_law_alike,ln,y1]
  refine Wp.forR0 (n:=xs.length) (fun i ρ=>∃ a:Option D,ρ=[some (.tup xs),some (.tup xs),a]) ⟨_,rfl⟩ (fun i ρ hi ⟨a,eρ⟩=>?_) (fun ρ ⟨a,eρ⟩=>?_)
  ·subst eρ
   have ix:dIdx (.tup xs) (.int (i:Int))=.ok xs[i]:=by
    refine zbc ?_
    rw [Pf.atI_nat hi]
   have ih:=zdG n xs[i] (List.all_eq_true.mp h.1 _ (List.getElem_mem hi))
   simp? only [zcs,ix,ih]
   exact ⟨_,rfl⟩
  ·subst eρ
   simp? only []
 | 0,.tup _,h=>by cases h
 | 0,.non,h=>by cases h
 | 0,.bl _,h=>by cases h
 | 0,.lst _,h=>by cases h
 | 0,.dK _,h=>by cases h
 | 0,.dT _,h=>by cases h
 | 0,.exc _,h=>by cases h
 | 0,.tupN _,h=>by cases h
 | n+1,.non,h=>by cases h
 | n+1,.bl _,h=>by cases h
 | n+1,.lst _,h=>by cases h
 | n+1,.dK _,h=>by cases h
 | n+1,.dT _,h=>by cases h
 | n+1,.exc _,h=>by cases h
 | n+1,.tupN _,h=>by cases h
theorem zhx:∀ (n:Nat) (d:D),alD n d=true -> alD (n+1) d=true
 | n,.int _,_=>rfl
 | n,.str s,h=>by cases n <;> exact h
 | n+1,.tup xs,h=>by
  have h:(xs.all (alD n) && decide (xs.length <= 100))=true:=h
  show (xs.all (alD (n+1)) && decide (xs.length <= 100))=true
  rw [Bool.and_eq_true] at *
  exact ⟨List.all_eq_true.mpr fun x hx=>zhx n x (List.all_eq_true.mp h.1 x hx),h.2⟩
 | 0,.tup _,h=>by cases h
 | 0,.non,h=>by cases h
 | 0,.bl _,h=>by cases h
 | 0,.lst _,h=>by cases h
 | 0,.dK _,h=>by cases h
 | 0,.dT _,h=>by cases h
 | 0,.exc _,h=>by cases h
 | 0,.tupN _,h=>by cases h
 | n+1,.non,h=>by cases h
 | n+1,.bl _,h=>by cases h
 | n+1,.lst _,h=>by cases h
 | n+1,.dK _,h=>by cases h
 | n+1,.dT _,h=>by cases h
 | n+1,.exc _,h=>by cases h
 | n+1,.tupN _,h=>by cases h
theorem zoH {n m:Nat} (h:n <= m) {d:D} (hd:alD n d=true):alD m d=true:=by
 induction h with
 | refl=>exact hd
 | step _ ih=>exact zhx _ _ ih
theorem zfB {n:Nat} {i:Int}:alD n (.int i)=true:=by cases n <;> rfl
theorem zlP {s:Str} (h:Low s) (n:Nat):alD n (.str s)=true:=by
 have:(s.cps.toList.all fun c=>decide (c < 1000))=true:=List.all_eq_true.mpr fun c hc=>decide_eq_true (by have:=h.2 c hc; omega)
 cases n <;> exact this
theorem zhy (xs:List Int) (h:xs.length <= 100):alD 1 (rowD xs)=true:=by
 show ((xs.map D.int).all (alD 0) && decide ((xs.map D.int).length <= 100))=true
 rw [Bool.and_eq_true,List.all_eq_true,List.length_map]
 exact ⟨fun d hd=>by obtain ⟨x,_,rfl⟩:=List.mem_map.mp hd; rfl,decide_eq_true h⟩
theorem zbL {n:Nat} {xs:List D} (h:∀ x ∈ xs,alD n x=true) (l:xs.length <= 100):alD (n+1) (.tup xs)=true:=by
 show (xs.all (alD n) && decide (xs.length <= 100))=true
 rw [Bool.and_eq_true,List.all_eq_true]
 exact ⟨h,decide_eq_true l⟩
theorem zoI {b:TBk} (h:b.Ok):alD 6 b.vol=true:=by
 have kl:=h.kl; have rl:=h.rl; have ml:=h.ml
 rw [zs7]
 refine zbL (fun x hx=>?_) (by simp)
 simp only [List.mem_cons,List.not_mem_nil,or_false] at hx
 rcases hx with rfl | rfl | rfl | rfl
 ·exact zfB
 ·exact zbL (fun d hd=>by obtain ⟨s,hs,rfl⟩:=List.mem_map.mp hd; exact zlP (h.nm s hs) _) (by rw [List.length_map]; omega)
 ·exact zbL (fun d hd=>by
   obtain ⟨r,hr,rfl⟩:=List.mem_map.mp hd
   exact zbL (fun z hz=>by
    simp only [List.mem_cons,List.not_mem_nil,or_false] at hz
    rcases hz with rfl | rfl | rfl | rfl | rfl <;> exact zfB) (by simp)) (by rw [List.length_map]; omega)
 ·exact zbL (fun d hd=>by
   obtain ⟨m,hm,rfl⟩:=List.mem_map.mp hd
   obtain ⟨t1,t2⟩:=h.mt m hm
   obtain ⟨k1,_⟩:=h.mm m hm
   exact zbL (fun z hz=>by
    simp only [List.mem_cons,List.not_mem_nil,or_false] at hz
    rcases hz with rfl | rfl | rfl | rfl | rfl
    ·exact zlP (h.mn m hm) _
    ·exact zoH (by omega) (zhy m.tk (by omega))
    ·exact zfB
    ·exact zbL (fun y hy=>by
      obtain ⟨t,ht,rfl⟩:=List.mem_map.mp hy
      obtain ⟨⟨b0,b1⟩,_⟩:=t2 t ht
      exact zbL (fun w hw=>by
       simp only [List.mem_cons,List.not_mem_nil,or_false] at hw
       rcases hw with rfl | rfl
       ·exact zhy t.1 (by omega)
       ·exact zfB) (by simp)) (by rw [List.length_map]; omega)
    ·exact zfB) (by simp)) (by rw [List.length_map]; omega)
theorem zoJ:∀ (n:Nat) (d:D),alD n d=true -> d.imm=true
 | _,.int _,_=>rfl
 | _,.str _,_=>rfl
 | n+1,.tup xs,h=>by
  have h:(xs.all (alD n) && decide (xs.length <= 100))=true:=h
  rw [Bool.and_eq_true,List.all_eq_true] at h
  have all:∀ ys:List D,(∀ y ∈ ys,alD n y=true) -> D.imms ys=true:=fun ys=>by
   induction ys with
   | nil=>exact fun _=>rfl
   | cons y ys ih =>
    intro q
    show (D.imm y && D.imms ys)=true
    rw [zoJ n y (q y (by simp)),ih fun z hz=>q z (by simp [hz])]; rfl
  exact all xs h.1
 | 0,.tup _,h=>by cases h
 | n,.non,h=>by cases n <;> cases h
 | n,.bl _,h=>by cases n <;> cases h
 | n,.lst _,h=>by cases n <;> cases h
 | n,.dK _,h=>by cases n <;> cases h
 | n,.dT _,h=>by cases n <;> cases h
 | n,.exc _,h=>by cases n <;> cases h
 | n,.tupN _,h=>by cases n <;> cases h
theorem zlQ:∀ xs:List Int,D.imms (xs.map .int)=true
 | []=>rfl
 | x :: xs=>zlQ xs
theorem zfC:∀ ms:List Mk5,∃ ys,clrL 3 (ms.map Mk5.raw)=.ok ys
 | []=>⟨[],rfl⟩
 | m :: ms=>by
  obtain ⟨ys,e⟩:=zfC ms
  have i1:D.imms ([D.str m.nm,rowD m.tk,.int m.gv,.non,.int m.p])=true:=by
   show (true && (D.imms (m.tk.map .int) && true))=true
   rw [zlQ]; rfl
  have e1:clrX 3 m.raw=.ok (.tup [.str m.nm,rowD m.tk,.int m.gv,.lst [],.int m.p]):=by
   show R.when (true && D.imms ([D.str m.nm,rowD m.tk,.int m.gv,.non,.int m.p])) (R.ok (D.tup [.str m.nm,rowD m.tk,.int m.gv,.lst [],.int m.p]))=_
   rw [i1]; rfl
  refine ⟨.tup [.str m.nm,rowD m.tk,.int m.gv,.lst [],.int m.p] :: ys,?_⟩
  show (clrX 3 m.raw).bind (fun x=>(clrL 3 (ms.map Mk5.raw)).bind fun r=>R.ok (x :: r))=_
  rw [e1,e]; rfl
theorem zoh (n:Nat) (ms:List Mk5) (hl:ms.length <= 16):evF G T WF (n+1) "_law_copied" [.lst (ms.map Mk5.raw)]=.ok (.lst (ms.map Mk5.raw),[]):=by
 refine (Wp.fn d_law_copied rfl rfl rfl ?_).eq
 have bl:∀ xs:List D,biEv .list [.lst xs]=.ok (.lst xs):=fun _=>rfl
 simp? only [d_law_copied]
 refine Wp.lc (enc:=Mk5.raw) (xs:=ms) Mk5.raw (fun m _=>?_) ?_
 ·simp? only [Mk5.raw,bl]
 simp? only [hl]
theorem zoi {G:Str -> Option D} {F:Fn} {wf:Nat} {o:Option D} {ρ:Pf.Env} (i:Nat):evS G F wf (.clear i) (o :: ρ)=(getV (o :: ρ) i).bind fun x=>(lstD x).bind fun _=>.ok (.next,(o :: ρ).set i (some (.lst []))):=by
 show (getV (o :: ρ) i).bind (fun x=>match x with
  | .lst _=>R.ok (Fl.next,(o :: ρ).set i (some (.lst [])))
  | _=>.bad)=_
 congr 1
 funext x
 cases x <;> rfl
theorem ans (ns:List Int) (hl:ns.length <= 63):evF G T WF 20 "law" [.lst (ns.map .int)]=.ok (.bl true,[]):=by
 obtain ⟨M,ks,rs,ms,hR,fr⟩:=zs3 15 ns hl
 have ho:=zs8 hR
 have fd:=zs4 17 hR
 obtain ⟨M0,M1⟩:=hR.M0
 have fb:=zn4 14 M0 (by omega) hR.M2 (ks:=ks) ⟨hR.kl.1,hR.kl.2,fun s hs=>nm_ok (hR.kn s hs),hR.kd⟩ (rs:=rs) hR.rl (fun r hr=>hR.rs r hr) (ms:=ms) hR.ml (fun m hm=>(hR.mo m hm).1) (fun m _=>hR.mc _ _)
 rw [<- zrr] at fd fb
 have fc:=zoh 18 ms hR.ml
 have im:=zoJ 6 _ (zoI ho)
 have al:=zdG 17 (tbL M ks rs ms).vol (zoH (by omega) (zoI ho))
 generalize (tbL M ks rs ms).vol=v at *
 obtain ⟨ys,ey⟩:=zfC ms
 have i0:∀ a b c d:D,dIdx (.lst [a,b,c,d]) (.int 0)=.ok a:=fun _ _ _ _=>rfl
 have i1:∀ a b c d:D,dIdx (.lst [a,b,c,d]) (.int 1)=.ok b:=fun _ _ _ _=>rfl
 have i2:∀ a b c d:D,dIdx (.lst [a,b,c,d]) (.int 2)=.ok c:=fun _ _ _ _=>rfl
 have i3:∀ a b c d:D,dIdx (.lst [a,b,c,d]) (.int 3)=.ok d:=fun _ _ _ _=>rfl
 have bl:∀ xs:List D,biEv .list [.lst xs]=.ok (.lst xs):=fun _=>rfl
 have o1:okD 12 (.lst (ks.map .str))=true:=zba fun s hs=>(nm_ok (hR.kn s hs)).2.2
 have o2:okD 12 (.lst (rs.map rd))=true:=zba fun r _=>rfl
 have o3:okD 12 (.lst (ms.map Mk5.raw))=true:=zba fun m hm=>by
  have w:okD 9 (.lst (m.ts.map termD))=true:=zba fun t _=>by
   show (okDs 6 (t.1.map .int) && true)=true
   rw [zba (n:=6) (enc:=D.int) fun _ _=>rfl]; rfl
  have u:okD 9 (rowD m.tk)=true:=zba fun _ _=>rfl
  have s:okD 9 (.str m.nm)=true:=(nm_ok (hR.mo m hm).2.1).2.2
  show (okD 10 (.str m.nm) && (okD 10 (rowD m.tk) && (true && (okD 10 (.lst (m.ts.map termD)) && (true && true)))))=true
  rw [zho 9 10 _ (by decide) w,zho 9 10 _ (by decide) u,zho 9 10 _ (by decide) s]; rfl
 have n1:dCmp .ne (.lst (ks.map .str)) (.lst (ks.map .str))=.ok false:=zk0 (p:=True) o1 o1 (by simp)
 have n2:dCmp .ne (.lst (rs.map rd)) (.lst (rs.map rd))=.ok false:=zk0 (p:=True) o2 o2 (by simp)
 have n3:dCmp .ne (.lst (ms.map Mk5.raw)) (.lst (ms.map Mk5.raw))=.ok false:=zk0 (p:=True) o3 o3 (by simp)
 refine (Wp.fn d_law rfl rfl rfl ?_).eq
 simp? only [d_law,fr,fd,bl,i0,i1,i2,i3,fc,fb,im,n1,n2,n3,ey,al,zoi]
end Law
namespace Law
open PySem PySem.Spec PyProof.Rows L2 L2.Pf
section
variable {w:World} {h:Heap} {K:PySem.W.Frag} {mg:Str -> Option Value}
theorem tk (X:K.In h) (G0:h.Ns mainGlobals mg) (c:SaysL LawH.fn LawH.tbs EX LawH.glF w h K):TabK K mg T EX G (clsOf (clsL K EX)):=by
 refine hd_tk X G0 c (fun d hd ht=>?_) (fun d hd ht=>?_) (fun x d hx=>?_)
 ·simp only [T,List.mem_cons,List.not_mem_nil,or_false] at hd
  rcases hd with rfl | rfl | rfl | rfl | rfl | rfl | rfl | rfl | rfl | rfl | rfl | rfl | rfl | rfl | rfl | rfl | rfl | rfl | rfl | rfl | rfl | rfl | rfl | rfl | rfl | rfl | rfl | rfl
  ·exact zaz X G0 c (q:="is_whole") (st:=top 8) (show L2.Pf.dfn "is_whole" "is_whole" (Law.top 8) ∈ LawH.fn from List.mem_of_getElem? (i:=0) rfl) zii zih fun _ _ _ _ _ _ us hl=>match us,hl with | [_],_=>rfl
  ·exact zaz X G0 c (q:="wheel") (st:=top 9) (show L2.Pf.dfn "wheel" "wheel" (Law.top 9) ∈ LawH.fn from List.mem_of_getElem? (i:=1) rfl) zrc zrb fun _ _ _ _ _ _ us hl=>match us,hl with | [_],_=>rfl
  ·exact zaz X G0 c (q:="on") (st:=top 10) (show L2.Pf.dfn "on" "on" (Law.top 10) ∈ LawH.fn from List.mem_of_getElem? (i:=2) rfl) s_on c_on fun _ _ _ _ _ _ us hl=>match us,hl with | [_,_],_=>rfl
  ·exact zaz X G0 c (q:="gathered") (st:=top 12) (show L2.Pf.dfn "gathered" "gathered" (Law.top 12) ∈ LawH.fn from List.mem_of_getElem? (i:=3) rfl) zik zij fun _ _ _ _ _ _ us hl=>match us,hl with | [_],_=>rfl
  ·exact zaz X G0 c (q:="form") (st:=top 13) (show L2.Pf.dfn "form" "form" (Law.top 13) ∈ LawH.fn from List.mem_of_getElem? (i:=4) rfl) zsO zsN fun _ _ _ _ _ _ us hl=>match us,hl with | [_,_,_],_=>rfl
  ·exact zaz X G0 c (q:="is_name") (st:=top 17) (show L2.Pf.dfn "is_name" "is_name" (Law.top 17) ∈ LawH.fn from List.mem_of_getElem? (i:=5) rfl) zlk zlj fun _ _ _ _ _ _ us hl=>match us,hl with | [_],_=>rfl
  ·exact zaz X G0 c (q:="is_price") (st:=top 18) (show L2.Pf.dfn "is_price" "is_price" (Law.top 18) ∈ LawH.fn from List.mem_of_getElem? (i:=6) rfl) zim zil fun _ _ _ _ _ _ us hl=>match us,hl with | [_],_=>rfl
  ·exact zaz X G0 c (q:="kinds_of") (st:=top 19) (show L2.Pf.dfn "kinds_of" "kinds_of" (Law.top 19) ∈ LawH.fn from List.mem_of_getElem? (i:=7) rfl) zio zin fun _ _ _ _ _ _ us hl=>match us,hl with | [_],_=>rfl
  ·exact zaz X G0 c (q:="road_of") (st:=top 20) (show L2.Pf.dfn "road_of" "road_of" (Law.top 20) ∈ LawH.fn from List.mem_of_getElem? (i:=8) rfl) zlm zll fun _ _ _ _ _ _ us hl=>match us,hl with | [_,_,_],_=>rfl
  ·exact zaz X G0 c (q:="form_of") (st:=top 21) (show L2.Pf.dfn "form_of" "form_of" (Law.top 21) ∈ LawH.fn from List.mem_of_getElem? (i:=9) rfl) zlo zln fun _ _ _ _ _ _ us hl=>match us,hl with | [_,_,_],_=>rfl
  ·exact zaz X G0 c (q:="make_of") (st:=top 22) (show L2.Pf.dfn "make_of" "make_of" (Law.top 22) ∈ LawH.fn from List.mem_of_getElem? (i:=10) rfl) zlq zlp fun _ _ _ _ _ _ us hl=>match us,hl with | [_,_,_],_=>rfl
  ·exact zaz X G0 c (q:="book") (st:=top 23) (show L2.Pf.dfn "book" "book" (Law.top 23) ∈ LawH.fn from List.mem_of_getElem? (i:=11) rfl) zsQ zsP fun _ _ _ _ _ _ us hl=>match us,hl with | [_,_,_,_],_=>rfl
  ·exact zaz X G0 c (q:="_law_mixed") (st:=top 25) (show L2.Pf.dfn "_law_mixed" "_law_mixed" (Law.top 25) ∈ LawH.fn from List.mem_of_getElem? (i:=12) rfl) zgq zgp fun _ _ _ _ _ _ us hl=>match us,hl with | [_,_],_=>rfl
  ·exact zaz X G0 c (q:="_law_number") (st:=top 26) (show L2.Pf.dfn "_law_number" "_law_number" (Law.top 26) ∈ LawH.fn from List.mem_of_getElem? (i:=13) rfl) zfx zfw fun _ _ _ _ _ _ us hl=>match us,hl with | [_],_=>rfl
  ·exact zaz X G0 c (q:="_law_wheel") (st:=top 27) (show L2.Pf.dfn "_law_wheel" "_law_wheel" (Law.top 27) ∈ LawH.fn from List.mem_of_getElem? (i:=14) rfl) zgs zgr fun _ _ _ _ _ _ us hl=>match us,hl with | [_],_=>rfl
  ·exact zaz X G0 c (q:="_law_whole") (st:=top 28) (show L2.Pf.dfn "_law_whole" "_law_whole" (Law.top 28) ∈ LawH.fn from List.mem_of_getElem? (i:=15) rfl) zgu zgt fun _ _ _ _ _ _ us hl=>match us,hl with | [_],_=>rfl
  ·exact zaz X G0 c (q:="_law_names") (st:=top 29) (show L2.Pf.dfn "_law_names" "_law_names" (Law.top 29) ∈ LawH.fn from List.mem_of_getElem? (i:=16) rfl) zgw zgv fun _ _ _ _ _ _ us hl=>match us,hl with | [_,_,_],_=>rfl
  ·exact zaz X G0 c (q:="_law_pairs") (st:=top 30) (show L2.Pf.dfn "_law_pairs" "_law_pairs" (Law.top 30) ∈ LawH.fn from List.mem_of_getElem? (i:=17) rfl) zgy zgx fun _ _ _ _ _ _ us hl=>match us,hl with | [_,_,_,_],_=>rfl
  ·exact zaz X G0 c (q:="_law_deed") (st:=top 31) (show L2.Pf.dfn "_law_deed" "_law_deed" (Law.top 31) ∈ LawH.fn from List.mem_of_getElem? (i:=18) rfl) zir ziq fun _ _ _ _ _ _ us hl=>match us,hl with | [_,_,_,_],_=>rfl
  ·exact zaz X G0 c (q:="_law_road") (st:=top 32) (show L2.Pf.dfn "_law_road" "_law_road" (Law.top 32) ∈ LawH.fn from List.mem_of_getElem? (i:=19) rfl) zit zis fun _ _ _ _ _ _ us hl=>match us,hl with | [_,_,_],_=>rfl
  ·exact zaz X G0 c (q:="_law_make") (st:=top 33) (show L2.Pf.dfn "_law_make" "_law_make" (Law.top 33) ∈ LawH.fn from List.mem_of_getElem? (i:=20) rfl) ziv ziu fun _ _ _ _ _ _ us hl=>match us,hl with | [_,_,_,_,_],_=>rfl
  ·exact zaz X G0 c (q:="_law_raw") (st:=top 34) (show L2.Pf.dfn "_law_raw" "_law_raw" (Law.top 34) ∈ LawH.fn from List.mem_of_getElem? (i:=21) rfl) zls zlr fun _ _ _ _ _ _ us hl=>match us,hl with | [_,_],_=>rfl
  ·exact zaz X G0 c (q:="_law_alike") (st:=top 35) (show L2.Pf.dfn "_law_alike" "_law_alike" (Law.top 35) ∈ LawH.fn from List.mem_of_getElem? (i:=22) rfl) zgA zgz fun _ _ _ _ _ _ us hl=>match us,hl with | [_,_],_=>rfl
  ·exact zaz X G0 c (q:="_law_form") (st:=top 36) (show L2.Pf.dfn "_law_form" "_law_form" (Law.top 36) ∈ LawH.fn from List.mem_of_getElem? (i:=23) rfl) zix ziw fun _ _ _ _ _ _ us hl=>match us,hl with | [_,_],_=>rfl
  ·exact zaz X G0 c (q:="_law_due") (st:=top 37) (show L2.Pf.dfn "_law_due" "_law_due" (Law.top 37) ∈ LawH.fn from List.mem_of_getElem? (i:=24) rfl) zlu zlt fun _ _ _ _ _ _ us hl=>match us,hl with | [_],_=>rfl
  ·exact zaz X G0 c (q:="_law_copied") (st:=top 38) (show L2.Pf.dfn "_law_copied" "_law_copied" (Law.top 38) ∈ LawH.fn from List.mem_of_getElem? (i:=25) rfl) zfz zfy fun _ _ _ _ _ _ us hl=>match us,hl with | [_],_=>rfl
  ·exact zaz X G0 c (q:="law") (st:=top 39) (show L2.Pf.dfn "law" "law" (Law.top 39) ∈ LawH.fn from List.mem_of_getElem? (i:=26) rfl) s_law c_law fun _ _ _ _ _ _ us hl=>match us,hl with | [_],_=>rfl
  ·cases ht
 ·simp only [T,List.mem_cons,List.not_mem_nil,or_false] at hd
  rcases hd with rfl | rfl | rfl | rfl | rfl | rfl | rfl | rfl | rfl | rfl | rfl | rfl | rfl | rfl | rfl | rfl | rfl | rfl | rfl | rfl | rfl | rfl | rfl | rfl | rfl | rfl | rfl | rfl
  ·cases ht
  ·cases ht
  ·cases ht
  ·cases ht
  ·cases ht
  ·cases ht
  ·cases ht
  ·cases ht
  ·cases ht
  ·cases ht
  ·cases ht
  ·cases ht
  ·cases ht
  ·cases ht
  ·cases ht
  ·cases ht
  ·cases ht
  ·cases ht
  ·cases ht
  ·cases ht
  ·cases ht
  ·cases ht
  ·cases ht
  ·cases ht
  ·cases ht
  ·cases ht
  ·cases ht
  ·exact List.mem_of_getElem? (i:=0) rfl
 ·unfold G at hx
  split at hx
  ·rename_i ex; cases hx; subst ex; obtain ⟨t,e⟩:=He.str_ok X G0 (hd_gl c (f:=.str "LETTERS" "abcdefghijklmnopqrstuvwxyz") (List.mem_of_getElem? (i:=0) rfl)); exact ⟨.str "abcdefghijklmnopqrstuvwxyz",_,e,⟨t,rfl⟩,fun _ _ _=>.str _⟩
  cases hx
end
end Law
open PySem PySem.W PyProof.Rows
set_option maxRecDepth 100000 in
set_option maxHeartbeats 0 in
theorem PySem.Challenge.cw_chiefway_k12_a_book_made_holds : PySem.Challenge.rw_chiefway_k12_a_book_made.Holds := by
 refine LawH.law0 fun said=>LawH.ahead said ?hc
 case hc =>
  refine L2.Pf.hd_walk (l:=PySem.Challenge.rw_chiefway_k12_a_book_made) (k:=20) (x:="script") rfl (by kernel_rfl) ⟨rfl,by decide,by decide⟩ ?F (fun _ _ _ _ _ ⟨_,_,_,_,_,_,_,_,_,_,_,_,z⟩=>z)
  intro w mg fa h K X c G0 hmg0
  have hmg:mg ("law":Str)=some (.ref fa):=by
   have e:(HandSHeadRun.topDef (OpenLaw.row PySem.Challenge.rw_chiefway_k12_a_book_made).prog 39).name=("law":Str):=by kernel_rfl
   rw [<- e]; exact hmg0
  exact L2.Pf.hd_law (q:="law") (st:=Law.top 39) (d:=Law.d_law) X G0 c (Law.tk X G0 c) hmg (show L2.Pf.dfn "law" "law" (Law.top 39) ∈ LawH.fn from List.mem_of_getElem? (i:=26) rfl) rfl rfl rfl rfl Law.s_law Law.c_law (fun _ _ _ _ _ _ _ _=>.of_eq rfl) Law.ans

