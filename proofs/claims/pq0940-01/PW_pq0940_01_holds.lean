import PyProof.Rows.All
import Wide.All
import OpenK.AllK
import Wide.FinOn
import Lean
import PySem.Challenge.RW_pq0940_01
set_option Elab.async false
set_option linter.all false
set_option bootstrap.genMatcherCode false
set_option backward.match.sparseCases false
set_option genSizeOf false
set_option genInjectivity false
set_option genCtorIdx false
noncomputable section
namespace Mine
section
open PySem
set_option genCtorIdx true in
inductive Bi where
  | len | min | max | sorted | abs | tInt | tList | tTuple | tDict | tRange | tEnum
  | cHeld | cCopy | cAtom | cFault | fn (a:Addr)
noncomputable def Bi.key (b:Bi):Nat×Nat:=(b.ctorIdx,match b with | .fn a=>a | _=>0)
noncomputable def Bi.of (p:Nat×Nat):Bi:=([Bi.len,.min,.max,.sorted,.abs,.tInt,.tList,.tTuple,.tDict,.tRange,.tEnum,.cHeld,.cCopy,.cAtom,.cFault][p.1]?).getD (.fn p.2)
theorem Bi.of_key (b:Bi):of b.key=b:=by cases b <;> rfl
noncomputable instance:DecidableEq Bi:=λa b=>if h:a.key=b.key then .isTrue (a.of_key.symm.trans (h▸b.of_key)) else .isFalse λe=>h (e▸rfl)
set_option genInjectivity true in
inductive V where
  | none | bool (b:Bool) | int (i:Int) | str (s:Str)
  | tup (vs:List V) | lst (vs:List V) | dct (ks vs:List V)
  | ref (i:Nat) | rng (lo hi:Int) | glob (b:Bi) | atom (v:V)
noncomputable def V.bool?:V->Option Bool | .bool b=>some b | _=>.none
noncomputable def V.int?:V->Option Int | .int b=>some b | _=>.none
noncomputable def V.str?:V->Option Str | .str b=>some b | _=>.none
noncomputable def V.tup?:V->Option (List V) | .tup b=>some b | _=>.none
noncomputable def V.lst?:V->Option (List V) | .lst b=>some b | _=>.none
noncomputable def V.dct?:V->Option (List V×List V) | .dct a b=>some (a,b) | _=>.none
noncomputable def V.ref?:V->Option Nat | .ref b=>some b | _=>.none
noncomputable def V.rng?:V->Option (Int×Int) | .rng a b=>some (a,b) | _=>.none
noncomputable def V.glob?:V->Option Bi | .glob b=>some b | _=>.none
noncomputable def V.atom?:V->Option V | .atom b=>some b | _=>.none
noncomputable def V.isNone:V->Bool | .none=>true | _=>false
section
variable {v:V}
theorem V.bool?_eq {b} (h:v.bool?=some b):v=.bool b:=by cases v with | bool=>cases h;rfl | _=>nomatch h
theorem V.int?_eq {b} (h:v.int?=some b):v=.int b:=by cases v with | int=>cases h;rfl | _=>nomatch h
theorem V.str?_eq {b} (h:v.str?=some b):v=.str b:=by cases v with | str=>cases h;rfl | _=>nomatch h
theorem V.tup?_eq {b} (h:v.tup?=some b):v=.tup b:=by cases v with | tup=>cases h;rfl | _=>nomatch h
theorem V.lst?_eq {b} (h:v.lst?=some b):v=.lst b:=by cases v with | lst=>cases h;rfl | _=>nomatch h
theorem V.dct?_eq {b} (h:v.dct?=some b):v=.dct b.1 b.2:=by cases v with | dct=>cases h;rfl | _=>nomatch h
theorem V.ref?_eq {b} (h:v.ref?=some b):v=.ref b:=by cases v with | ref=>cases h;rfl | _=>nomatch h
theorem V.rng?_eq {b} (h:v.rng?=some b):v=.rng b.1 b.2:=by cases v with | rng=>cases h;rfl | _=>nomatch h
theorem V.glob?_eq {b} (h:v.glob?=some b):v=.glob b:=by cases v with | glob=>cases h;rfl | _=>nomatch h
theorem V.atom?_eq {b} (h:v.atom?=some b):v=.atom b:=by cases v with | atom=>cases h;rfl | _=>nomatch h
theorem V.isNone_eq (h:v.isNone=true):v=.none:=by cases v with | none=>rfl | _=>nomatch h
end
mutual
noncomputable def V.beq:V->V->Bool
  | .none,v=>v.isNone
  | .bool a,v=>decide (v.bool?=some a)
  | .int a,v=>decide (v.int?=some a)
  | .str a,v=>decide (v.str?=some a)
  | .tup a,v=>v.tup?.elim false λb=>V.beqs a b
  | .lst a,v=>v.lst?.elim false λb=>V.beqs a b
  | .dct a b,v=>v.dct?.elim false λc=>V.beqs a c.1&&V.beqs b c.2
  | .ref a,v=>decide (v.ref?=some a)
  | .rng a b,v=>decide (v.rng?=some (a,b))
  | .glob a,v=>decide (v.glob?=some a)
  | .atom a,v=>v.atom?.elim false λb=>V.beq a b
noncomputable def V.beqs:List V->List V->Bool
  | [],l=>l.isEmpty
  | a :: r,l=>l.head?.elim false λb=>V.beq a b&&V.beqs r l.tail
end
theorem elim_at {α:Type} {o:Option α} {f:α->Bool} (h:o.elim false f=true):∃ b,o=some b/\f b=true:=match o,h with | some b,h=>⟨b,rfl,h⟩
mutual
theorem V.beq_eq:∀ {a b:V},V.beq a b=true->a=b
  | .none,_,h=>(V.isNone_eq h).symm
  | .bool _,_,h=>(V.bool?_eq (of_decide_eq_true h)).symm
  | .int _,_,h=>(V.int?_eq (of_decide_eq_true h)).symm
  | .str _,_,h=>(V.str?_eq (of_decide_eq_true h)).symm
  | .tup _,_,h=>let ⟨_,e,h⟩:=elim_at h;(congrArg V.tup (V.beqs_eq h)).trans (V.tup?_eq e).symm
  | .lst _,_,h=>let ⟨_,e,h⟩:=elim_at h;(congrArg V.lst (V.beqs_eq h)).trans (V.lst?_eq e).symm
  | .dct _ _,_,h=>let ⟨_,e,h⟩:=elim_at h;let ⟨h1,h2⟩:=Bool.and_eq_true_iff.mp h;(congr (congrArg V.dct (V.beqs_eq h1)) (V.beqs_eq h2)).trans (V.dct?_eq e).symm
  | .ref _,_,h=>(V.ref?_eq (of_decide_eq_true h)).symm
  | .rng _ _,_,h=>(V.rng?_eq (of_decide_eq_true h)).symm
  | .glob _,_,h=>(V.glob?_eq (of_decide_eq_true h)).symm
  | .atom _,_,h=>let ⟨_,e,h⟩:=elim_at h;(congrArg V.atom (V.beq_eq h)).trans (V.atom?_eq e).symm
theorem V.beqs_eq:∀ {a b:List V},V.beqs a b=true->a=b
  | [],_,h=>(List.isEmpty_iff.mp h).symm
  | _ :: _,[],h=>nomatch h
  | _ :: _,_ :: _,h=>let ⟨h1,h2⟩:=Bool.and_eq_true_iff.mp h;congr (congrArg List.cons (V.beq_eq h1)) (V.beqs_eq h2)
end
mutual
theorem V.beq_refl:∀ a:V,V.beq a a=true
  | .none=>rfl
  | .bool _=>decide_eq_true rfl
  | .int _=>decide_eq_true rfl
  | .str _=>decide_eq_true rfl
  | .tup x=>V.beqs_refl x
  | .lst x=>V.beqs_refl x
  | .dct x y=>Bool.and_eq_true_iff.mpr ⟨V.beqs_refl x,V.beqs_refl y⟩
  | .ref _=>decide_eq_true rfl
  | .rng _ _=>decide_eq_true rfl
  | .glob _=>decide_eq_true rfl
  | .atom x=>V.beq_refl x
theorem V.beqs_refl:∀ a:List V,V.beqs a a=true
  | []=>rfl
  | x :: r=>Bool.and_eq_true_iff.mpr ⟨V.beq_refl x,V.beqs_refl r⟩
end
noncomputable instance:DecidableEq V:=λa b=>if h:V.beq a b=true then .isTrue (V.beq_eq h) else .isFalse λe=>h (e▸V.beq_refl a)
inductive O where
  | list (vs:List V)
  | dict (ks vs:List V)
  | inst (c:Bool) (fs:List V)
inductive Res (α:Type) where
  | ok (a:α) (μ:List O) (ρ:List (Option V))
  | exc (μ:List O) (ρ:List (Option V))
  | fail
noncomputable abbrev M (α:Type):=List O->List (Option V)->Res α
noncomputable def retM {α:Type} (a:α):M α:=λμ ρ=>.ok a μ ρ
noncomputable def failM {α:Type}:M α:=λ_ _=>.fail
noncomputable def bindM {α β:Type} (m:M α) (f:α->M β):M β:=λμ ρ=>match m μ ρ with
  | .ok a μ' ρ'=>f a μ' ρ'
  | .exc μ' ρ'=>.exc μ' ρ'
  | .fail=>.fail
noncomputable def rdM {α:Type} (f:List O->Option α):M α:=λμ ρ=>match f μ with | some a=>.ok a μ ρ | none=>.fail
noncomputable def wrM {α:Type} (f:List O->Option (α×List O)):M α:=λμ ρ=>match f μ with | some a=>.ok a.1 a.2 ρ | none=>.fail
noncomputable def opt {α β:Type} (o:Option α) (k:α->M β):M β:=match o with | some a=>k a | none=>failM
noncomputable def alt {α β:Type} (o:Option α) (k:α->M β) (m:M β):M β:=match o with | some a=>k a | none=>m
noncomputable def gd {α:Type} (c:Bool) (m:M α):M α:=if c then m else failM
noncomputable def nil (vs:List V) (m:M V):M V:=match vs with | []=>m | _=>failM
noncomputable def one (vs:List V) (k:V->M V):M V:=match vs with | [v]=>k v | _=>failM
noncomputable def two (vs:List V) (k:V->V->M V):M V:=match vs with | [v,u]=>k v u | _=>failM
noncomputable def int2 {α:Type} (a b:V) (k:Int->Int->M α):M α:=opt a.int? λx=>opt b.int? λy=>k x y
noncomputable def big:Nat:=16777216
noncomputable def O.list?:O->Option (List V) | .list vs=>some vs | _=>none
noncomputable def O.dict?:O->Option (List V×List V) | .dict ks vs=>some (ks,vs) | _=>none
noncomputable def listAt (μ:List O) (i:Nat):Option (List V):=(μ[i]?).bind O.list?
theorem O.list?_eq {o:O} {vs} (h:o.list?=some vs):o=.list vs:=by cases o with | list=>cases h;rfl | _=>nomatch h
theorem O.dict?_eq {o:O} {p} (h:o.dict?=some p):o=.dict p.1 p.2:=by cases o with | dict=>cases h;rfl | _=>nomatch h
noncomputable def dictAt (μ:List O) (i:Nat):Option (List V×List V):=(μ[i]?).bind O.dict?
noncomputable def seqOf (μ:List O):V->Option (List V)
  | .tup vs=>some vs
  | .lst vs=>some vs
  | .ref i=>listAt μ i
  | _=>none
noncomputable def lseqOf (μ:List O):V->Option (List V)
  | .lst vs=>some vs
  | .ref i=>listAt μ i
  | _=>none
noncomputable def dictOf (μ:List O):V->Option (List V×List V)
  | .dct ks vs=>some (ks,vs)
  | .ref i=>dictAt μ i
  | _=>none
noncomputable def ofOpt {α:Type} (o:Option α):M α:=rdM λ_=>o
noncomputable def seqM (v:V):M (List V):=rdM λμ=>seqOf μ v
noncomputable def lseqM (v:V):M (List V):=rdM λμ=>lseqOf μ v
noncomputable def allocM (o:O):M V:=λμ ρ=>.ok (.ref μ.length) (μ++[o]) ρ
noncomputable def tupM (vs:List V):M V:=gd (decide (vs.length<=big)) (retM (.tup vs))
noncomputable def lstM (thaw:Bool) (vs:List V):M V:=gd (decide (vs.length<=big)) (if thaw then allocM (.list vs) else retM (.lst vs))
noncomputable def dctM (thaw:Bool) (ks vs:List V):M V:=gd (decide (ks.length<=big)) (if thaw then allocM (.dict ks vs) else retM (.dct ks vs))
noncomputable def thaws:List (Nat×Nat):=[(26,12),(32,10),(51,10),(88,20),(115,24),(126,20),(130,16),(172,16),(234,16),(247,16),(260,11),(260,12),(292,38),(301,12),(303,16),(313,12),(313,60),(387,19),(387,38),(387,39),(390,19),(339,15),(385,71),(404,49)]
noncomputable def thawed (p:Pos):Bool:=thaws.any λx=>x.1==p.line&&x.2==p.col
noncomputable def okV:Nat->V->Bool
  | _,.none=>true
  | _,.int _=>true
  | _,.str s=>PyData.strOk s
  | n+1,.tup vs=>vs.all (okV n)
  | n+1,.lst vs=>vs.all (okV n)
  | _,_=>false
noncomputable def plainL (μ:List O):V->Option V
  | .ref i=>(listAt μ i).map V.lst
  | v=>some v
noncomputable def eqD (μ:List O) (a b:V):Option Bool:=(plainL μ a).bind λx=>(plainL μ b).bind λy=>if okV 8 x&&okV 8 y then some (decide (x=y)) else none
noncomputable def eqL (μ:List O) (a b:V):Option Bool:=match a.bool?,b.bool? with
  | some x,some y=>some (x==y)
  | _,_=>eqD μ a b
noncomputable def memV (x:V) (vs:List V):Option Bool:=if okV 8 x&&vs.all (okV 8) then some (decide (x∈vs)) else none
noncomputable def keyV:Nat->V->Bool
  | _,.none=>true
  | _,.int _=>true
  | _,.str s=>PyData.strOk s
  | n+1,.tup vs=>vs.all (keyV n)
  | _,_=>false
noncomputable def keyOk (v:V):Bool:=keyV 8 v
noncomputable def isStrV:V->Bool
  | .str _=>true
  | _=>false
noncomputable def mixOk (x:V) (ks:List V):Bool:=keyOk x&&(if isStrV x then ks.all isStrV else ks.all λk=>!isStrV k)
noncomputable def findV (x:V) (ks:List V):Option Nat:=ks.findIdx? λk=>decide (k=x)
noncomputable def lookD (x:V) (ks:List V):Option (Option Nat):=if mixOk x ks then some (findV x ks) else none
noncomputable def putD (x y:V) (ks vs:List V):Option (List V×List V):=(lookD x ks).map λo=>match o with
  | some i=>(ks,vs.set i y)
  | none=>(ks++[x],vs++[y])
noncomputable def intsOf:List V->Option (List Int)
  | []=>some []
  | v :: r=>v.int?.bind λi=>(intsOf r).map (i :: ·)
noncomputable def strsOf:List V->Option (List Str)
  | []=>some []
  | v :: r=>v.str?.bind λi=>(strsOf r).map (i :: ·)
noncomputable def two?:List V->Option (V×V)
  | [a,b]=>some (a,b)
  | _=>none
noncomputable def V.two? (v:V):Option (V×V):=v.tup?.bind Mine.two?
noncomputable def V.pair? (v:V):Option (Int×Int):=v.two?.bind λp=>p.1.int?.bind λi=>p.2.int?.map λj=>(i,j)
noncomputable def pairsOf:List V->Option (List (Int×Int))
  | []=>some []
  | v :: r=>v.pair?.bind λp=>(pairsOf r).map (p :: ·)
noncomputable def insBy {α:Type} (lt:α->α->Bool) (x:α):List α->List α
  | []=>[x]
  | y :: r=>if lt x y then x :: y :: r else y :: insBy lt x r
noncomputable def sortBy {α:Type} (lt:α->α->Bool):List α->List α
  | []=>[]
  | x :: r=>insBy lt x (sortBy lt r)
noncomputable def ltNs:List Nat->List Nat->Bool
  | _,[]=>false
  | [],_ :: _=>true
  | a :: r,b :: t=>if a<b then true else if b<a then false else ltNs r t
noncomputable def ltS (a b:Str):Bool:=ltNs a.cps.toList b.cps.toList
noncomputable def ltI (a b:Int):Bool:=decide (a<b)
noncomputable def ltP (a b:Int×Int):Bool:=decide (a.1<b.1)||(decide (a.1=b.1)&&decide (a.2<b.2))
noncomputable def sortV (vs:List V):Option (List V):=if 64<=vs.length then none else match intsOf vs with
  | some is=>some ((sortBy ltI is).map .int)
  | none=>(strsOf vs).map λss=>(sortBy ltS ss).map .str
noncomputable def sortP (vs:List V):Option (List V):=if 64<=vs.length then none else (pairsOf vs).map λps=>(sortBy ltP ps).map λp=>.tup [.int p.1,.int p.2]
noncomputable def fits (i:Int):Bool:=decide (-9223372036854775808<=i)&&decide (i<9223372036854775808)
noncomputable def fit62 (i:Int):Bool:=decide (-4611686018427387904<=i)&&decide (i<4611686018427387904)
noncomputable def rngList (lo hi:Int):List V:=(List.range (hi - lo).toNat).map λk:Nat=>V.int (lo+(k:Int))
noncomputable def rngOk (lo hi:Int):Bool:=decide ((hi - lo).toNat<=big)&&fit62 lo&&fit62 hi
noncomputable def pairUp:List V->Option (List V×List V)
  | []=>some ([],[])
  | u :: r=>u.two?.bind λp=>(pairUp r).map λq=>(p.1 :: q.1,p.2 :: q.2)
noncomputable def putAll:List V->List V->List V->List V->Option (List V×List V)
  | k :: r,v :: t,ks,vs=>(putD k v ks vs).bind λp=>putAll r t p.1 p.2
  | _,_,ks,vs=>some (ks,vs)
noncomputable def mmM (f:Int->Int->Int) (args:List V):M V:=match args with
  | [a,b]=>int2 a b λa b=>retM (.int (f a b))
  | [v]=>bindM (seqM v) λvs=>opt (intsOf vs) λis=>match is with
    | x :: r=>retM (.int (r.foldl f x))
    | []=>failM
  | _=>failM
noncomputable def biM (thaw:Bool) (b:Bi) (args:List V):M V:=match b with
  | .len=>one args λv=>bindM (seqM v) λvs=>gd (decide (vs.length<=big)) (retM (.int vs.length))
  | .min=>mmM (λa b=>if b<a then b else a) args
  | .max=>mmM (λa b=>if a<b then b else a) args
  | .abs=>one args λv=>opt v.int? λi=>retM (.int i.natAbs)
  | .tInt=>one args λv=>opt v.int? λi=>retM (.int i)
  | .tRange=>match args with
    | [v]=>opt v.int? λhi=>gd (fits hi) (retM (.rng 0 hi))
    | [u,v]=>int2 u v λlo hi=>gd (fits lo&&fits hi) (retM (.rng lo hi))
    | _=>failM
  | .tTuple=>one args λv=>alt v.tup? (λvs=>retM (.tup vs)) (bindM (lseqM v) tupM)
  | .tList=>one args λv=>alt v.dct? (λp=>lstM thaw p.1) (alt v.rng? (λp=>gd (rngOk p.1 p.2) (lstM thaw (rngList p.1 p.2))) (opt v.tup? λvs=>lstM thaw vs))
  | .tDict=>one args λv=>bindM (seqM v) λvs=>opt (pairUp vs) λp=>opt (putAll p.1 p.2 [] []) λq=>dctM thaw q.1 q.2
  | .sorted=>one args λv=>alt v.dct? (λp=>match p.1 with | []=>lstM thaw [] | _=>failM) (bindM (lseqM v) λvs=>opt (sortV vs) λus=>lstM thaw us)
  | _=>failM
set_option genCtorIdx true in
inductive Fd where
  | uid | flags | modseq | text | box | validity | next_uid | top | rows | kept | is_opening | coming_top | is_readonly | flag_names
  deriving DecidableEq
noncomputable def fdName:Fd->Str
  | .rows=>Str.ofString "rows" | .uid=>Str.ofString "uid" | .flags=>Str.ofString "flags" | .modseq=>Str.ofString "modseq" | .text=>Str.ofString "text" | .kept=>Str.ofString "kept"
  | .box=>Str.ofString "box" | .validity=>Str.ofString "validity" | .next_uid=>Str.ofString "next_uid" | .top=>Str.ofString "top" | .is_opening=>Str.ofString "is_opening"
  | .coming_top=>Str.ofString "coming_top" | .is_readonly=>Str.ofString "is_readonly" | .flag_names=>Str.ofString "flag_names"
noncomputable def fdAll:List Fd:=[.rows,.uid,.flags,.modseq,.text,.kept,.box,.validity,.next_uid,.top,.is_opening,.coming_top,.is_readonly,.flag_names]
noncomputable def fdOf (s:Str):Option Fd:=fdAll.find? λf=>s==fdName f
noncomputable def heldFs:List Fd:=[.uid,.flags,.modseq]
noncomputable def copyFs:List Fd:=[.box,.validity,.next_uid,.top,.rows,.kept,.is_opening,.coming_top,.is_readonly,.flag_names]
noncomputable def fsOf (c:Bool):List Fd:=if c then copyFs else heldFs
noncomputable def Fd.at (c:Bool) (f:Fd):Option Nat:=(fsOf c).findIdx? λg=>decide (g=f)
noncomputable def O.inst?:O->Option (Bool×List V) | .inst c fs=>some (c,fs) | _=>none
noncomputable def getO (f:Fd) (o:O):Option V:=o.inst?.bind λx=>(f.at x.1).bind λi=>x.2[i]?
noncomputable def layAt (v:V):List V->Nat->Option (List V)
  | x :: r,i=>(match i with
    | 0=>some (v :: r)
    | i+1=>(layAt v r i).map (x :: ·))
  | [],i=>if i=0 then some [v] else none
noncomputable def putO (f:Fd) (v:V) (o:O):Option O:=o.inst?.bind λx=>(f.at x.1).bind λi=>(layAt v x.2 i).map (.inst x.1)
noncomputable def getA (f:Fd) (v:V):M V:=alt v.atom? (λt=>gd (decide (f=.text)) (retM t)) (opt v.ref? λi=>rdM λμ=>(μ[i]?).bind (getO f))
noncomputable def setA (f:Fd) (o v:V):M Unit:=opt o.ref? λi=>wrM λμ=>((μ[i]?).bind (putO f v)).map λo'=>((),μ.set i o')
noncomputable def itemAt (vs:List V) (i:Int):Option V:=
  if 0<=i then vs[i.toNat]? else if 0<=i+vs.length then vs[(i+vs.length).toNat]? else none
noncomputable def placeAt (vs:List V) (i:Int):Option Nat:=
  if 0<=i then (if i.toNat<vs.length then some i.toNat else none) else if 0<=i+vs.length then some (i+vs.length).toNat else none
noncomputable def idxM (o i:V):M V:=alt o.dct? (λp=>opt (lookD i p.1) λj=>opt j λj=>ofOpt p.2[j]?) (opt i.int? λi=>bindM (seqM o) λvs=>gd (fits i) (ofOpt (itemAt vs i)))
noncomputable def putO2 (i:Int) (v:V):O->Option O
  | .list vs=>if fits i then (placeAt vs i).map λj=>.list (vs.set j v) else none
  | .dict ks vs=>(putD (.int i) v ks vs).bind λp=>if p.1.length<=big then some (.dict p.1 p.2) else none
  | _=>none
noncomputable def putM (o i v:V):M Unit:=opt o.ref? λr=>opt i.int? λi=>wrM λμ=>((μ[r]?).bind (putO2 i v)).map λo'=>((),μ.set r o')
noncomputable def cutAt (n:Nat) (i:Int):Nat:=if 0<=i then min i.toNat n else (i+n).toNat
noncomputable def sliceHi (thaw:Bool) (o h:V):M V:=opt h.int? λi=>alt o.tup? (λvs=>gd (decide (0<=i)&&decide (i<=vs.length)&&decide (vs.length<=big)) (tupM (vs.take i.toNat)))
  (bindM (lseqM o) λvs=>gd (decide (vs.length<=big)&&fits i) (lstM thaw (vs.take (cutAt vs.length i))))
noncomputable def sliceLo (thaw:Bool) (o l:V):M V:=opt l.int? λi=>alt o.tup? (λvs=>gd (decide (1<=i)&&decide (i<=vs.length)&&decide (vs.length<=big)) (tupM (vs.drop i.toNat)))
  (bindM (lseqM o) λvs=>gd (decide (vs.length<=big)&&fits i) (lstM thaw (vs.drop (cutAt vs.length i))))
noncomputable def sliceBack (thaw:Bool) (o:V):M V:=bindM (lseqM o) λvs=>gd (decide (vs.length<=big)) (lstM thaw vs.reverse)
noncomputable def binM (thaw:Bool) (op:Operator) (a b:V):M V:=match op with
  | .Add=>alt a.int? (λx=>opt b.int? λy=>retM (.int (x+y))) (alt a.tup? (λx=>opt b.tup? λy=>tupM (x++y)) (bindM (lseqM a) λx=>bindM (lseqM b) λy=>lstM thaw (x++y)))
  | .Sub=>int2 a b λx y=>retM (.int (x - y))
  | .Mult=>int2 a b λx y=>gd (fits x&&fits y) (retM (.int (x * y)))
  | .Mod=>int2 a b λx y=>gd (decide (0<y)) (retM (.int (x % y)))
  | .FloorDiv=>int2 a b λx y=>gd (decide (0<y)&&decide (y<1073741824)) (retM (.int (x / y)))
  | .Pow=>int2 a b λx y=>gd (decide (0<=y)&&decide (y<=100)&&decide (0<=x)&&decide (x<=100)) (retM (.int (x ^ y.toNat)))
  | .RShift=>int2 a b λx y=>gd (decide (0<=y)&&decide (y<=1000)&&decide (0<=x)&&fits x) (retM (.int (x / 2 ^ y.toNat)))
  | .BitAnd=>int2 a b λx y=>gd (decide (0<=x)&&decide (0<=y)&&fits x&&fits y) (retM (.int ((x.toNat &&& y.toNat:Nat):Int)))
  | _=>failM
noncomputable def augM (op:Operator) (a b:V):M V:=match op with
  | .Add=>int2 a b λx y=>retM (.int (x+y))
  | .Sub=>int2 a b λx y=>retM (.int (x - y))
  | _=>failM
noncomputable def unM (op:UnaryOp) (a:V):M V:=match op with
  | .USub=>opt a.int? λx=>retM (.int (-x))
  | _=>failM
noncomputable def inV (μ:List O) (a b:V):Option Bool:=match dictOf μ b with
  | some p=>(lookD a p.1).map Option.isSome
  | none=>(seqOf μ b).bind λvs=>memV a vs
noncomputable def cmpM (op:CmpOp) (a b:V):M Bool:=match op with
  | .Eq=>rdM λμ=>eqL μ a b
  | .NotEq=>rdM λμ=>(eqL μ a b).map (!·)
  | .Lt=>int2 a b λx y=>retM (decide (x<y))
  | .LtE=>int2 a b λx y=>retM (decide (x<=y))
  | .Gt=>int2 a b λx y=>retM (decide (y<x))
  | .GtE=>int2 a b λx y=>retM (decide (y<=x))
  | .Is=>gd b.isNone (retM a.isNone)
  | .IsNot=>gd b.isNone (retM (!a.isNone))
  | .In=>rdM λμ=>inV μ a b
  | .NotIn=>rdM λμ=>(inV μ a b).map (!·)
noncomputable def truthM (v:V):M Bool:=ofOpt v.bool?
set_option genCtorIdx true in
inductive Me where
  | append | extend | insert | pop | sort | get | fn (a:Addr)
noncomputable def listMs:List (Str×Me):=[(Str.ofString "append",.append),(Str.ofString "pop",.pop),(Str.ofString "insert",.insert),(Str.ofString "extend",.extend),(Str.ofString "sort",.sort)]
noncomputable def instMs (c:Bool):List (Str×Addr):=if c then [(Str.ofString "told",208),(Str.ofString "row",198),(Str.ofString "take",215),(Str.ofString "uids",191),(Str.ofString "missing",203)]
  else [(Str.ofString "told",165),(Str.ofString "is_whole",158)]
noncomputable def meAt (name:Str):O->Option Me
  | .list _=>listMs.lookup name
  | .inst c _=>((instMs c).lookup name).map .fn
  | _=>none
noncomputable def pickV (v:V) (name:Str) (μ:List O):Option Me:=match v.dct? with
  | some _=>if name==Str.ofString "get" then some .get else none
  | none=>v.ref?.bind λr=>(μ[r]?).bind (meAt name)
noncomputable def pickM (v:V) (name:Str):M Me:=rdM (pickV v name)
noncomputable def eraseAt (vs:List V) (j:Nat):List V:=vs.take j++vs.drop (j+1)
noncomputable def listDo (r:Nat) (f:List V->Option (V×List V)):M V:=wrM λμ=>((listAt μ r).bind f).map λp=>(p.1,μ.set r (.list p.2))
noncomputable def capped (v:V) (us:List V):Option (V×List V):=if us.length<=big then some (v,us) else none
set_option genCtorIdx true in
inductive CR where
  | ok (v:V) (μ:List O)
  | exc (μ:List O)
  | fail
noncomputable abbrev Tab:=Addr->List V->List O->CR
noncomputable def callA (Φ:Tab) (a:Addr) (args:List V):M V:=λμ ρ=>match Φ a args μ with
  | .ok v μ'=>.ok v μ' ρ
  | .exc μ'=>.exc μ' ρ
  | .fail=>.fail
noncomputable def newHeld:O:=.inst false [.int 0,.none,.int 0]
noncomputable def newCopyAt (n:Nat):O:=.inst true [.str (Str.ofString ""),.int 0,.int 0,.int 0,.ref n,.dct [] [],.bool false,.int 0,.bool false,.tup []]
noncomputable def callB (Φ:Tab) (thaw:Bool) (b:Bi) (args:List V):M V:=match b with
  | .fn a=>callA Φ a args
  | .cHeld=>nil args (bindM (allocM (.inst false [])) λr=>bindM (callA Φ 151 [r,.int 0,.none,.int 0]) λv=>gd v.isNone (retM r))
  | .cCopy=>nil args (bindM (allocM (.inst true [])) λr=>bindM (callA Φ 186 [r]) λv=>gd v.isNone (retM r))
  | .cAtom=>one args λv=>retM (.atom v)
  | b=>biM thaw b args
noncomputable def callM (Φ:Tab) (thaw:Bool) (f:V) (args:List V):M V:=opt f.glob? λb=>callB Φ thaw b args
noncomputable def methM (Φ:Tab) (o:V) (me:Me) (args:List V):M V:=match me with
  | .append=>opt o.ref? λr=>one args λx=>listDo r λvs=>capped .none (vs++[x])
  | .extend=>opt o.ref? λr=>one args λx=>opt x.rng? λp=>gd (rngOk p.1 p.2) (listDo r λvs=>capped .none (vs++rngList p.1 p.2))
  | .insert=>opt o.ref? λr=>two args λi x=>opt i.int? λi=>gd (decide (i=0)) (listDo r λvs=>capped .none (x :: vs))
  | .pop=>opt o.ref? λr=>one args λi=>opt i.int? λi=>gd (fits i&&decide (0<=i)) (listDo r λvs=>if vs.length<=big then (vs[i.toNat]?).map λx=>(x,eraseAt vs i.toNat) else none)
  | .sort=>opt o.ref? λr=>nil args (listDo r λvs=>(sortP vs).map λus=>(.none,us))
  | .get=>opt o.dct? λp=>two args λk u=>opt (lookD k p.1) λj=>alt j (λj=>ofOpt p.2[j]?) (retM u)
  | .fn a=>opt o.ref? λr=>callA Φ a (.ref r :: args)
noncomputable def varsOf (sc:Scope):List (Str×NameKind):=sc.names.filter λx=>x.2==.local||x.2==.cell||x.2==.free
noncomputable def slotOf (sc:Scope) (x:Str):Option Nat:=(varsOf sc).findIdx? λy=>y.1==x
noncomputable def isCellName (sc:Scope) (x:Str):Bool:=sc.names.lookup x==some .cell||sc.names.lookup x==some .free
noncomputable def isOwn (sc:Scope) (x:Str):Bool:=sc.names.lookup x==some .local||sc.names.lookup x==some .cell
noncomputable def isVar (sc:Scope) (x:Str):Bool:=isOwn sc x||sc.names.lookup x==some .free
noncomputable def isGlob (sc:Scope) (x:Str):Bool:=sc.names.lookup x==some .globalImplicit
noncomputable def lawFlags:V:=.tup [.str (Str.ofString "\\Seen"),.str (Str.ofString "k"),.str (Str.ofString "\\Deleted")]
noncomputable def defsAt:List (Str×Addr):=[(Str.ofString "_law_digit",346),(Str.ofString "ends_of",73),(Str.ofString "plain_set",80),(Str.ofString "settled",87),(Str.ofString "has",94),(Str.ofString "numbers_in",101),
  (Str.ofString "size_of",108),(Str.ofString "take_exists",227),(Str.ofString "check_uid",234),(Str.ofString "take_fetch",239),(Str.ofString "place_gone",246),
  (Str.ofString "blur",253),(Str.ofString "drop_uid",260),(Str.ofString "uids_of",267),(Str.ofString "take_vanished",272),(Str.ofString "code_word",279),
  (Str.ofString "take_code",307),(Str.ofString "known_rows",314),(Str.ofString "begin_select",321),(Str.ofString "settle_rows",326),(Str.ofString "end_select",333),
  (Str.ofString "_law_ink",339),(Str.ofString "_law_longer",351),(Str.ofString "_law_spread",356),(Str.ofString "_law_behind",361),
  (Str.ofString "_law_left",366),(Str.ofString "_law_pairs",371),(Str.ofString "_law_told_of",376),(Str.ofString "_law_true",381),(Str.ofString "_law_untrue",386),
  (Str.ofString "_law_is_taken",393),(Str.ofString "_law_row_holds",398),(Str.ofString "_law_knows",403)]
noncomputable def bisAt:List (Str×Bi):=[(Str.ofString "ClientFault",.cFault),(Str.ofString "Held",.cHeld),(Str.ofString "Copy",.cCopy),(Str.ofString "Atom",.cAtom)]
noncomputable def builtinsAt:List (Str×Bi):=[(Str.ofString "len",.len),(Str.ofString "range",.tRange),(Str.ofString "list",.tList),(Str.ofString "tuple",.tTuple),(Str.ofString "dict",.tDict),(Str.ofString "enumerate",.tEnum),
  (Str.ofString "sorted",.sorted),(Str.ofString "max",.max),(Str.ofString "min",.min),(Str.ofString "abs",.abs),(Str.ofString "int",.tInt)]
noncomputable def gtab (x:Str):Option V:=match defsAt.lookup x with
  | some a=>some (.glob (.fn a))
  | none=>match builtinsAt.lookup x with
    | some b=>some (.glob b)
    | none=>match bisAt.lookup x with
      | some b=>some (.glob b)
      | none=>if x==Str.ofString "_law_flags" then some lawFlags else none
noncomputable def ldAt (o:Option Nat):M V:=λμ ρ=>match o.bind λi=>ρ[i]? with
  | some (some v)=>.ok v μ ρ
  | _=>.fail
noncomputable def ldM (sc:Scope) (x:Str):M V:=if isVar sc x then ldAt (slotOf sc x) else gd (isGlob sc x) (ofOpt (gtab x))
noncomputable def stAt (o:Option Nat) (v:V):M Unit:=λμ ρ=>match o with
  | some i=>.ok () μ (ρ.set i (some v))
  | none=>.fail
noncomputable def stM (sc:Scope) (x:Str) (v:V):M Unit:=gd (isOwn sc x) (stAt (slotOf sc x) v)
noncomputable def innerρ (sc inner:Scope) (ρ:List (Option V)):Option (List (Option V)):=
  (varsOf inner).mapM λx=>if x.2==.free then ((slotOf sc x.1).bind λi=>ρ[i]?).bind λo=>o.map some else some none
noncomputable def compOk (sc inner:Scope):Bool:=decide (inner.kind=.function)&&decide ((inner.names.map (·.1)).Nodup)&&inner.names.all (λy=>y.2 != .cell&&(y.2 != .free||isCellName sc y.1)&&y.1 != Str.ofString "__debug__"&&y.1 != Str.ofString "__classdict__")
noncomputable def inComp {α:Type} (sc inner:Scope) (m:M α):M α:=λμ ρ=>match innerρ sc inner ρ with
  | some ρ'=>(match m μ ρ' with
    | .ok a μ' _=>.ok a μ' ρ
    | _=>.fail)
  | none=>.fail
noncomputable def keepM {α:Type} (m:M α):M α:=λμ ρ=>match m μ ρ with
  | .ok a μ' ρ'=>if ρ'=ρ then .ok a μ' ρ else .fail
  | .exc μ' ρ'=>.exc μ' ρ'
  | .fail=>.fail
noncomputable def constV:Const->Option V
  | .none=>some .none
  | .bool b=>some (.bool b)
  | .int i=>some (.int i)
  | .str s=>some (.str s)
  | _=>none
inductive Fl where
  | next | brk | cont
  | ret (v:V)
noncomputable abbrev Src:=Option (Nat×List V)×List V
noncomputable def srcOf (μ:List O):V->Option Src
  | .tup vs=>some (none,vs)
  | .lst vs=>some (none,vs)
  | .ref r=>(listAt μ r).map λvs=>(some (r,vs),vs)
  | .rng lo hi=>if rngOk lo hi then some (none,rngList lo hi) else none
  | .dct ks _=>if ks.isEmpty then some (none,[]) else none
  | _=>none
noncomputable def srcM (v:V):M Src:=rdM λμ=>srcOf μ v
noncomputable def enumFrom (n:Nat):List V->List V
  | []=>[]
  | v :: r=>.tup [.int n,v] :: enumFrom (n+1) r
noncomputable def eseqOf (μ:List O):V->Option Src
  | .tup vs=>some (none,vs)
  | .lst vs=>some (none,vs)
  | .ref r=>(listAt μ r).map λvs=>(some (r,vs),vs)
  | _=>none
noncomputable def enumM (args:List V):M Src:=match args with
  | [v]=>rdM λμ=>(eseqOf μ v).map λs=>(s.1,enumFrom 0 s.2)
  | _=>failM
noncomputable def isStill (μ:List O):Option (Nat×List V)->Bool
  | none=>true
  | some r=>decide (listAt μ r.1=some r.2)
noncomputable def stillM (c:Option (Nat×List V)):M Unit:=rdM λμ=>if isStill μ c then some () else none
noncomputable def forM (still:M Unit) (body:V->M Fl):List V->M Fl
  | []=>bindM still λ_=>retM .next
  | x :: r=>bindM still λ_=>bindM (body x) λf=>match f with
    | .next=>forM still body r
    | .cont=>forM still body r
    | .brk=>retM .next
    | .ret v=>retM (.ret v)
noncomputable def whileM (test:M Bool) (body:M Fl):Nat->M Fl
  | 0=>failM
  | n+1=>bindM test λb=>if b then bindM body λf=>(match f with
    | .next=>whileM test body n
    | .cont=>whileM test body n
    | .brk=>retM .next
    | .ret v=>retM (.ret v)) else retM .next
noncomputable abbrev Acc:=List V×List V
noncomputable def turnsM (still:M Unit) (turn:V->Acc->M Acc):List V->Acc->M Acc
  | [],a=>bindM still λ_=>retM a
  | x :: r,a=>bindM still λ_=>bindM (turn x a) λa'=>turnsM still turn r a'
noncomputable def emitL (v:V) (acc:Acc):M Acc:=gd (decide (acc.1.length<=big)) (retM (acc.1++[v],acc.2))
noncomputable def emitD (x y:V) (acc:Acc):M Acc:=opt (putD x y acc.1 acc.2) λp=>gd (decide (p.1.length<=big)) (retM p)
noncomputable def tryM {α:Type} (m h:M α):M α:=λμ ρ=>match m μ ρ with
  | .exc μ' ρ'=>h μ' ρ'
  | r=>r
noncomputable def excM {α:Type}:M α:=λμ ρ=>.exc μ ρ
noncomputable def asgTup (n:Nat) (v:V) (f:List V->M Unit):M Unit:=opt v.tup? λvs=>gd (decide (vs.length=n)) (f vs)
noncomputable def asgs:List (V->M Unit)->List V->M Unit
  | [],vs=>(match vs with
    | []=>retM ()
    | _ :: _=>failM)
  | f :: r,vs=>(match vs with
    | []=>failM
    | v :: vs=>bindM (f v) λ_=>asgs r vs)
noncomputable def seqFl (k:M Fl) (f:Fl):M Fl:=match f with
  | .next=>k
  | f=>retM f
noncomputable def each:List (M V)->M (List V)
  | []=>retM []
  | m :: r=>bindM m λv=>bindM (each r) λvs=>retM (v :: vs)
end
section
open PySem PySem.W PyProof.Rows
inductive All2 {α β:Type} (R:α->β->Prop):List α->List β->Prop
  | nil:All2 R [] []
  | cons {a:α} {b:β} {l:List α} {m:List β}:R a b->All2 R l m->All2 R (a :: l) (b :: m)
section
variable {α β:Type} {R R':α->β->Prop} {l l':List α} {m m':List β} {a:α} {b:β} {i:Nat}
theorem All2.imp (k:∀ a b,R a b->R' a b) (r:All2 R l m):All2 R' l m:=by
  induction r with
  | nil=>exact .nil
  | cons a _ ih=>exact .cons (k _ _ a) ih
theorem All2.len (r:All2 R l m):m.length=l.length:=by
  induction r with
  | nil=>rfl
  | cons _ _ ih=>exact congrArg (·+1) ih
@[elab_as_elim] theorem All2.inv {C:List β->Prop} (r:All2 R (a :: l) m) (k:∀ b m,R a b->All2 R l m->C (b :: m)):C m:=by
  cases r with | cons x y=>exact k _ _ x y
@[elab_as_elim] theorem All2.inv0 {C:List β->Prop} (r:All2 R [] m) (k:C []):C m:=by
  cases r;exact k
theorem All2.get (r:All2 R l m):∀ {i:Nat} {a:α},l[i]?=some a->∃ b,m[i]?=some b/\R a b:=by
  induction r with
  | nil=>exact λe=>nomatch e
  | cons x _ ih=>exact λ{i _} e=>match i,e with | 0,e=>⟨_,rfl,Option.some.inj e▸x⟩ | _+1,e=>ih e
theorem All2.at {b:β} (r:All2 R l m) (e:l[i]?=some a) (e':m[i]?=some b):R a b:=
  let ⟨_,h,x⟩:=r.get e;Option.some.inj (h.symm.trans e')▸x
theorem All2.get' (r:All2 R l m) (e:m[i]?=some b):∃ a,l[i]?=some a/\R a b:=
  have h:i<l.length:=r.len▸(List.getElem?_eq_some_iff.mp e).1
  ⟨_,List.getElem?_eq_getElem h,r.at (List.getElem?_eq_getElem h) e⟩
theorem All2.of:∀ {l:List α} {m:List β},m.length=l.length->(∀ (i:Nat) a b,l[i]?=some a->m[i]?=some b->R a b)->All2 R l m
  | [],[],_,_=>.nil
  | a :: l,b :: m,e,k=>.cons (k 0 a b rfl rfl) (All2.of (Nat.succ.inj e) λi=>k (i+1))
  | [],_ :: _,e,_=>nomatch e
  | _ :: _,[],e,_=>nomatch e
theorem All2.append (r:All2 R l m) (r':All2 R l' m'):All2 R (l++l') (m++m'):=by
  induction r with
  | nil=>exact r'
  | cons a _ ih=>exact .cons a ih
theorem All2.snoc (r:All2 R l m) (h:R a b):All2 R (l++[a]) (m++[b]):=r.append (.cons h .nil)
theorem All2.drop (r:All2 R l m) (n:Nat):All2 R (l.drop n) (m.drop n):=.of (by rw [List.length_drop,List.length_drop,r.len]) λi a b x y=>r.at (i:=n+i) (by rw [←List.getElem?_drop];exact x) (by rw [←List.getElem?_drop];exact y)
theorem All2.take (r:All2 R l m) (n:Nat):All2 R (l.take n) (m.take n):=.of (by rw [List.length_take,List.length_take,r.len]) λi a b x y=>by
  rw [List.getElem?_take] at x y
  split at x
  · rw [if_pos ‹_›] at y;exact r.at x y
  · cases x
theorem All2.reverse (r:All2 R l m):All2 R l.reverse m.reverse:=by
  induction r with
  | nil=>exact .nil
  | cons a _ ih=>rw [List.reverse_cons,List.reverse_cons];exact ih.snoc a
theorem All2.set (r:All2 R l m) (h:R a b) (n:Nat):All2 R (l.set n a) (m.set n b):=.of (by rw [List.length_set,List.length_set,r.len]) λi x y e e'=>by
  rw [List.getElem?_set] at e e'
  by_cases hn:n=i
  · rw [if_pos hn] at e e'
    split at e
    · split at e'
      · cases e;cases e';exact h
      · cases e'
    · cases e
  · rw [if_neg hn] at e e'
    exact r.at e e'
end
inductive FEs (P:Params) {γ:Type} (R:γ->Value->Prop):List Str->List γ->List DictEntry->Prop
  | nil (ns:List Str):FEs P R ns [] []
  | cons {n:Str} {v:γ} {ns:List Str} {vs:List γ} {e:DictEntry} {es:List DictEntry} (t:Tok):e.key=.str n t->e.hash=PyData.keyHash P n->R v e.val->FEs P R ns vs es->FEs P R (n :: ns) (v :: vs) (e :: es)
theorem FEs.imp {P:Params} {γ:Type} {R R':γ->Value->Prop} {ns:List Str} {vs:List γ} {es:List DictEntry} (k:∀ a b,R a b->R' a b) (r:FEs P R ns vs es):FEs P R' ns vs es:=by
  induction r with
  | nil=>exact .nil _
  | cons t a b c _ ih=>exact .cons t a b (k _ _ c) ih
noncomputable abbrev Slot:=Addr×Option Addr
structure Gh where
  β:List Slot
  φ:List Addr
noncomputable def feet (β:List Slot):List Addr:=β.flatMap λp=>p.1 :: p.2.toList
noncomputable def Bi.val:Bi->Value
  | .len=>.builtin "len" | .min=>.builtin "min" | .max=>.builtin "max" | .sorted=>.builtin "sorted" | .abs=>.builtin "abs"
  | .tInt=>.type "int" | .tList=>.type "list" | .tTuple=>.type "tuple" | .tDict=>.type "dict" | .tRange=>.type "range" | .tEnum=>.type "enumerate"
  | .cHeld=>.ref 168 | .cCopy=>.ref 218 | .cAtom=>.ref 132 | .cFault=>.ref 64 | .fn a=>.ref a
noncomputable abbrev tupO (xs:List Value):Obj:={ cls:=.type "tuple",data:=.seq xs.toArray }
noncomputable abbrev lstO (xs:List Value) (n:Nat):Obj:={ cls:=.type "list",data:=.seq xs.toArray n }
noncomputable abbrev instO (C d:Addr):Obj:={ cls:=.ref C,dict:=some d,data:=.plain }
noncomputable abbrev dctO (es:List DictEntry) (n:Nat):Obj:={ cls:=.type "dict",data:=.dict es.toArray n }
noncomputable abbrev rngO (lo hi:Int) (t u v:Tok):Obj:={ cls:=.type "range",data:=.fields #[.int lo t,.int hi u,.int 1 v] }
noncomputable def toW:Nat->V->WData
  | _,.int i=>.int i
  | _,.str s=>.str s
  | n+1,.tup vs=>.tuple (vs.map (toW n))
  | _,_=>.none
noncomputable def hashV (P:Params) (v:V):Int:=hashW P (toW 8 v)
noncomputable def DKeys (ks:List V):Prop:=ks.Nodup/\∀ k∈ks,keyOk k=true
noncomputable def sText:Str:=Str.ofString "text"
inductive RelV (P:Params) (g:Gh) (h:Heap):V->Value->Prop
  | none:RelV P g h .none .none
  | bool (b:Bool):RelV P g h (.bool b) (.bool b)
  | int (i:Int) (t:Tok):RelV P g h (.int i) (.int i t)
  | str (s:Str) (t:Tok):RelV P g h (.str s) (.str s t)
  | tup' {vs:List V} {a:Addr} {xs:List Value}:a∈g.φ->h.get? a=some (tupO xs)->xs.length=vs.length->(∀ (i:Nat) v x,vs[i]?=some v->xs[i]?=some x->RelV P g h v x)->RelV P g h (.tup vs) (.ref a)
  | lst' {vs:List V} {a:Addr} {xs:List Value} {n:Nat}:a∈g.φ->h.get? a=some (lstO xs n)->xs.length=vs.length->(∀ (i:Nat) v x,vs[i]?=some v->xs[i]?=some x->RelV P g h v x)->RelV P g h (.lst vs) (.ref a)
  | dct' {ks vs:List V} {a:Addr} {es:List DictEntry} {n:Nat}:a∈g.φ->h.get? a=some (dctO es n)->DKeys ks->es.length=ks.length->vs.length=ks.length->(∀ (i:Nat) k e,ks[i]?=some k->es[i]?=some e->RelV P g h k e.key) ->
      (∀ (i:Nat) v e,vs[i]?=some v->es[i]?=some e->RelV P g h v e.val)->(∀ (i:Nat) k e,ks[i]?=some k->es[i]?=some e->e.hash=hashV P k)->RelV P g h (.dct ks vs) (.ref a)
  | ref {i:Nat} {p:Slot}:g.β[i]?=some p->RelV P g h (.ref i) (.ref p.1)
  | rng {lo hi:Int} {a:Addr} {t u v:Tok}:a∈g.φ->h.get? a=some (rngO lo hi t u v)->RelV P g h (.rng lo hi) (.ref a)
  | glob (b:Bi):RelV P g h (.glob b) b.val
  | atom {v:V} {a d:Addr} {e:DictEntry} {n:Nat} {t:Tok}:a∈g.φ->d∈g.φ->h.get? a=some (instO 132 d)->h.get? d=some (dctO [e] n) ->
      e.key=.str sText t->e.hash=PyData.keyHash P sText->RelV P g h v e.val->RelV P g h (.atom v) (.ref a)
noncomputable abbrev RelVs (P:Params) (g:Gh) (h:Heap):List V->List Value->Prop:=All2 (RelV P g h)
structure RelEs (P:Params) (g:Gh) (h:Heap) (ks vs:List V) (es:List DictEntry):Prop where
  len:es.length=ks.length
  len2:vs.length=ks.length
  keys:∀ (i:Nat) k e,ks[i]?=some k->es[i]?=some e->RelV P g h k e.key
  vals:∀ (i:Nat) v e,vs[i]?=some v->es[i]?=some e->RelV P g h v e.val
  hash:∀ (i:Nat) k e,ks[i]?=some k->es[i]?=some e->e.hash=hashV P k
inductive LstAt (P:Params) (g:Gh) (h:Heap) (vs:List V) (a:Addr):Prop
  | mk (xs:List Value) (n:Nat) (e:h.get? a=some (lstO xs n)) (r:RelVs P g h vs xs)
inductive DctAt (P:Params) (g:Gh) (h:Heap) (ks vs:List V) (a:Addr):Prop
  | mk (es:List DictEntry) (n:Nat) (e:h.get? a=some (dctO es n)) (k:DKeys ks) (r:RelEs P g h ks vs es)
noncomputable def namesOf (c:Bool):List Str:=(fsOf c).map fdName
noncomputable def clsAt (c:Bool):Addr:=if c then 218 else 168
inductive InsAt (P:Params) (g:Gh) (h:Heap) (c:Bool) (vs:List V) (p:Slot):Prop
  | mk (d:Addr) (es:List DictEntry) (n:Nat) (s:p.2=some d) (e:h.get? p.1=some (instO (clsAt c) d)) (e':h.get? d=some (dctO es n)) (r:FEs P (RelV P g h) (namesOf c) vs es)
noncomputable def RelO (P:Params) (g:Gh) (h:Heap) (o:O) (p:Slot):Prop:=match o with
  | .list vs=>p.2=none/\LstAt P g h vs p.1
  | .dict ks vs=>p.2=none/\DctAt P g h ks vs p.1
  | .inst c fs=>InsAt P g h c fs p
section
variable {P:Params} {g g':Gh} {h h':Heap} {v:V} {x:Value} {vs ks:List V} {xs:List Value} {es:List DictEntry} {a:Addr}
theorem RelV.tup (m:a∈g.φ) (e:h.get? a=some (tupO xs)) (r:RelVs P g h vs xs):RelV P g h (.tup vs) (.ref a):=.tup' m e r.len λ_ _ _=>r.at
theorem RelV.lst (m:a∈g.φ) (l:LstAt P g h vs a):RelV P g h (.lst vs) (.ref a):=let ⟨_,_,e,r⟩:=l;.lst' m e r.len λ_ _ _=>r.at
theorem RelV.dct (m:a∈g.φ) (l:DctAt P g h ks vs a):RelV P g h (.dct ks vs) (.ref a):=let ⟨_,_,e,k,r⟩:=l;.dct' m e k r.len r.len2 r.keys r.vals r.hash
inductive IsInt (i:Int):Value->Prop | mk (t:Tok):IsInt i (.int i t)
inductive IsStr (i:Str):Value->Prop | mk (t:Tok):IsStr i (.str i t)
inductive IsTup (P:Params) (g:Gh) (h:Heap) (vs:List V):Value->Prop | mk (a:Addr) (xs:List Value) (m:a∈g.φ) (e:h.get? a=some (tupO xs)) (r:RelVs P g h vs xs):IsTup P g h vs (.ref a)
inductive IsLst (P:Params) (g:Gh) (h:Heap) (vs:List V):Value->Prop | mk (a:Addr) (m:a∈g.φ) (l:LstAt P g h vs a):IsLst P g h vs (.ref a)
inductive IsDct (P:Params) (g:Gh) (h:Heap) (ks vs:List V):Value->Prop | mk (a:Addr) (m:a∈g.φ) (l:DctAt P g h ks vs a):IsDct P g h ks vs (.ref a)
inductive IsRef (g:Gh) (i:Nat):Value->Prop | mk (p:Slot) (e:g.β[i]?=some p):IsRef g i (.ref p.1)
inductive IsRng (g:Gh) (h:Heap) (lo hi:Int):Value->Prop | mk (a:Addr) (t u v:Tok) (m:a∈g.φ) (e:h.get? a=some (rngO lo hi t u v)):IsRng g h lo hi (.ref a)
inductive IsAtom (P:Params) (g:Gh) (h:Heap) (v:V):Value->Prop | mk (a d:Addr) (e:DictEntry) (n:Nat) (t:Tok) (m:a∈g.φ) (m':d∈g.φ) (q:h.get? a=some (instO 132 d)) (q':h.get? d=some (dctO [e] n)) (k:e.key=.str sText t) (hh:e.hash=PyData.keyHash P sText) (r:RelV P g h v e.val):IsAtom P g h v (.ref a)
noncomputable def Out (P:Params) (g:Gh) (h:Heap) (v:V) (x:Value):Prop:=match v with
  | .none=>x=.none
  | .bool b=>x=.bool b
  | .int i=>IsInt i x
  | .str i=>IsStr i x
  | .tup vs=>IsTup P g h vs x
  | .lst vs=>IsLst P g h vs x
  | .dct ks vs=>IsDct P g h ks vs x
  | .ref i=>IsRef g i x
  | .rng lo hi=>IsRng g h lo hi x
  | .glob b=>x=b.val
  | .atom v=>IsAtom P g h v x
theorem RelV.out (r:RelV P g h v x):Out P g h v x:=by
  cases r with
  | none=>exact rfl
  | bool=>exact rfl
  | int i t=>exact .mk t
  | str i t=>exact .mk t
  | tup' m e l f=>exact .mk _ _ m e (.of l f)
  | lst' m e l f=>exact .mk _ m ⟨_,_,e,.of l f⟩
  | dct' m e k l l2 f f' f2=>exact .mk _ m ⟨_,_,e,k,l,l2,f,f',f2⟩
  | ref e=>exact .mk _ e
  | rng m e=>exact .mk _ _ _ _ m e
  | glob=>exact rfl
  | atom m m' q q' k hh r=>exact .mk _ _ _ _ _ m m' q q' k hh r
section
variable {C:Value->Prop}
@[elab_as_elim] theorem RelV.isInt {i:Int} (r:RelV P g h v x) (e:v.int?=some i) (k:∀ t,C (.int i t)):C x:=by
  cases V.int?_eq e;cases r.out with | mk t=>exact k t
@[elab_as_elim] theorem RelV.isStr {i:Str} (r:RelV P g h v x) (e:v.str?=some i) (k:∀ t,C (.str i t)):C x:=by
  cases V.str?_eq e;cases r.out with | mk t=>exact k t
@[elab_as_elim] theorem RelV.isBool {i:Bool} (r:RelV P g h v x) (e:v.bool?=some i) (k:C (.bool i)):C x:=by
  cases V.bool?_eq e;cases (show x=.bool i from r.out);exact k
@[elab_as_elim] theorem RelV.isNone (r:RelV P g h v x) (e:v.isNone=true) (k:C .none):C x:=by
  cases V.isNone_eq e;cases (show x=.none from r.out);exact k
@[elab_as_elim] theorem RelV.isGlob {b:Bi} (r:RelV P g h v x) (e:v.glob?=some b) (k:C b.val):C x:=by
  cases V.glob?_eq e;cases (show x=b.val from r.out);exact k
@[elab_as_elim] theorem RelV.isTup (r:RelV P g h v x) (e:v.tup?=some vs) (k:∀ a xs,a∈g.φ->h.get? a=some (tupO xs)->RelVs P g h vs xs->C (.ref a)):C x:=by
  cases V.tup?_eq e;cases r.out with | mk a xs m e r'=>exact k a xs m e r'
@[elab_as_elim] theorem RelV.isDct {p:List V×List V} (r:RelV P g h v x) (e:v.dct?=some p) (k:∀ a,a∈g.φ->DctAt P g h p.1 p.2 a->C (.ref a)):C x:=by
  cases V.dct?_eq e;cases r.out with | mk a m l=>exact k a m l
@[elab_as_elim] theorem RelV.isRef {i:Nat} (r:RelV P g h v x) (e:v.ref?=some i) (k:∀ p,g.β[i]?=some p->C (.ref p.1)):C x:=by
  cases V.ref?_eq e;cases r.out with | mk p e=>exact k p e
@[elab_as_elim] theorem RelV.isRng {p:Int×Int} (r:RelV P g h v x) (e:v.rng?=some p) (k:∀ a t u v,a∈g.φ->h.get? a=some (rngO p.1 p.2 t u v)->C (.ref a)):C x:=by
  cases V.rng?_eq e;cases r.out with | mk a t u v m e=>exact k a t u v m e
end
structure Stays (g g':Gh) (h h':Heap):Prop where
  slots:∀ (i:Nat) (p:Slot),g.β[i]?=some p->g'.β[i]?=some p
  sub:∀ a∈g.φ,a∈g'.φ
  same:∀ a∈g.φ,∀ o,h.get? a=some o->h'.get? a=some o
theorem RelV.mono (S:Stays g g' h h') (r:RelV P g h v x):RelV P g' h' v x:=by
  induction r with
  | none=>exact .none
  | bool b=>exact .bool b
  | int i t=>exact .int i t
  | str i t=>exact .str i t
  | tup' m e l _ ih=>exact .tup' (S.sub _ m) (S.same _ m _ e) l ih
  | lst' m e l _ ih=>exact .lst' (S.sub _ m) (S.same _ m _ e) l ih
  | dct' m e k l l2 _ _ f2 i1 i2=>exact .dct' (S.sub _ m) (S.same _ m _ e) k l l2 i1 i2 f2
  | ref e=>exact .ref (S.slots _ _ e)
  | rng m e=>exact .rng (S.sub _ m) (S.same _ m _ e)
  | glob b=>exact .glob b
  | atom m m' q q' k hh _ ih=>exact .atom (S.sub _ m) (S.sub _ m') (S.same _ m _ q) (S.same _ m' _ q') k hh ih
theorem RelVs.mono (S:Stays g g' h h') (r:RelVs P g h vs xs):RelVs P g' h' vs xs:=r.imp λ_ _=>RelV.mono S
theorem RelEs.mono (S:Stays g g' h h') (r:RelEs P g h ks vs es):RelEs P g' h' ks vs es:=⟨r.len,r.len2,λi k e a b=>(r.keys i k e a b).mono S,λi k e a b=>(r.vals i k e a b).mono S,r.hash⟩
theorem Stays.refl:Stays g g h h:=⟨λ_ _ e=>e,λ_ m=>m,λ_ _ _ e=>e⟩
theorem RelO.mono (S:Stays g g' h h') {o:O} {p:Slot} (hp:∀ a,a=p.1∨p.2=some a->∀ ob,h.get? a=some ob->h'.get? a=some ob) (r:RelO P g h o p):RelO P g' h' o p:=
  match o,r with
  | .list _,⟨a,_,_,e,r⟩=>⟨a,_,_,hp _ (.inl rfl) _ e,r.mono S⟩
  | .dict _ _,⟨a,_,_,e,k,r⟩=>⟨a,_,_,hp _ (.inl rfl) _ e,k,r.mono S⟩
  | .inst _ _,⟨d,_,_,s,e,e',r⟩=>⟨d,_,_,s,hp _ (.inl rfl) _ e,hp _ (.inr s) _ e',r.imp λ_ _=>RelV.mono S⟩
theorem RelEs.nil:RelEs P g h [] [] []:=⟨rfl,rfl,λ_ _ _ e=>(nomatch e),λ_ _ _ e=>(nomatch e),λ_ _ _ e=>(nomatch e)⟩
theorem RelEs.at (r:RelEs P g h ks vs es) {i:Nat} {e:DictEntry} (q:es[i]?=some e):∃ k v,ks[i]?=some k/\vs[i]?=some v/\RelV P g h k e.key/\RelV P g h v e.val/\e.hash=hashV P k:=
  have l:i<ks.length:=r.len▸(List.getElem?_eq_some_iff.mp q).1
  have hk:=List.getElem?_eq_getElem l
  have hv:=List.getElem?_eq_getElem (r.len2.symm▸l)
  ⟨_,_,hk,hv,r.keys _ _ _ hk q,r.vals _ _ _ hv q,r.hash _ _ _ hk q⟩
theorem RelEs.ent (r:RelEs P g h ks vs es) {i:Nat} {k:V} (q:ks[i]?=some k):∃ e,es[i]?=some e:=
  ⟨_,List.getElem?_eq_getElem (r.len.symm▸(List.getElem?_eq_some_iff.mp q).1)⟩
end
end
section
open PySem PySem.W PyProof.Rows
noncomputable abbrev prog:Program:=PySem.Challenge.pw_pq0940_01
structure ClsOK (K:Frag) (C:Addr) (names:List Str):Prop where
  ga:findIn K (.ref C) "__getattribute__"=some (some (.builtin "object.__getattribute__"))
  sa:findIn K (.ref C) "__setattr__"=some (some (.builtin "object.__setattr__"))
  dict:hasDictIn K C=true
  over:plainOver K C=true
  fields:∀ n∈names,findIn K (.ref C) n=some none
structure BaseOK (K:Frag) (w:World) (B:Heap):Prop where
  k:K.In B
  inst:∀ c,ClsOK K (clsAt c) (namesOf c)
  atom:ClsOK K 132 [sText]
  names:∃ mg mb,B.Ns mainGlobals mg/\B.Ns builtinsNs mb/\∀ x v,gtab x=some v->∃ y,(mg x=some y∨(mg x=none/\mb x=some y))/\RelV w.params ⟨[],[334]⟩ B v y
  nolimit:B.NoLimit
structure Cfg (d:Nat) (A:Around) (env:Env) (fs:List Env):Prop where
  handled:A.handled=none
  frames:A.frames=some fs
  depth:A.depth+10 * d<=900
  units:A.units+100 * d<=7900
  head:∃ e r,fs=e :: r/\env.frame=e.frame
structure Kx where
  w:World
  B:Heap
  K:Frag
  d:Nat
  Φ:Tab
  base:BaseOK K w B
structure Cx (k:Kx) where
  fs:List Env
  sc:Scope
  env:Env
  A:Around
  cfg:Cfg k.d A env fs
noncomputable def frs (fs:List Env):List Addr:=fs.filterMap (·.frame)
noncomputable def FrameAt (h:Heap) (a:Addr):Prop:=∃ o es n,h.get? a=some o/\o.data=.dict es n
theorem FrameAt.of {h:Heap} {a:Addr} {m:Str->Option Value} (hn:h.Ns a m):FrameAt h a:=by
  obtain ⟨o,es,n,e,d,_⟩:=hn;exact ⟨o,es,n,e,d⟩
noncomputable def Keeps (fs:List Env) (N:Addr->Prop) (h h':Heap):Prop:=∀ b o,¬N b->h.get? b=some o->∃ sl,h'.get? b=some { o with slots:=sl }/\(b∉frs fs->sl=o.slots)
structure Hp (B:Heap) (P:Params) (fs:List Env) (g:Gh) (μ:List O) (h:Heap):Prop where
  stays:B.StaysIn h
  flags:334∈g.φ
  len:g.β.length=μ.length
  objs:∀ (i:Nat) (o:O),μ[i]?=some o->∃ p,g.β[i]?=some p/\RelO P g h o p
  nodup:(feet g.β).Nodup
  off:∀ a∈feet g.β,a∉g.φ/\a∉frs fs/\B.get? a=none
  froz:∀ a∈g.φ,a∉frs fs/\∃ o,h.get? a=some o
  low:∀ a,a∈g.φ∨a∈feet g.β->(a==sysModules)=false
  kinds:∀ e∈fs,e.scope.kind≠.module/\∃ L,e.frame=some L
  frames:∀ a∈frs fs,B.get? a=none/\FrameAt h a
structure EnvOK (sc:Scope) (env:Env):Prop where
  glo:env.globals=mainGlobals
  blt:env.builtins=builtinsNs
  kind:env.scope.kind=.function
  own:∀ x k,sc.names.lookup x=some k->k≠.free->env.kindOf x=some k
  free:∀ x,sc.names.lookup x=some .free->env.kindOf x=some .free∨env.kindOf x=some .cell
  dbg:sc.names.lookup ("__debug__":Str)=none
  cld:sc.names.lookup ("__classdict__":Str)=none
noncomputable def fa (env:Env):List Addr:=env.locals :: env.cells.map (·.2)
structure Fr' {k:Kx} (c:Cx k) (g:Gh) (ρ:List (Option V)) (h:Heap):Prop where
  above:k.B.objs.size<=c.env.locals
  eok:EnvOK c.sc c.env
  rlen:ρ.length=(varsOf c.sc).length
  foff:∀ a∈fa c.env,a∉feet g.β/\a∉g.φ/\k.B.get? a=none
  cfrs:∀ x∈c.env.cells,x.2∉frs c.fs/\x.2≠c.env.locals
  apart:c.env.cells.Pairwise λx y=>x.2≠y.2
  cpres:∀ x∈c.env.cells,∃ vo,h.IsCell x.2 vo
  loc:∃ m,h.Ns c.env.locals m/\∀ x i v,c.sc.names.lookup x=some .local->slotOf c.sc x=some i->ρ[i]?=some (some v)->∃ y,m x=some y/\RelV k.w.params g h v y
  cel:∀ x i,isCellName c.sc x=true->slotOf c.sc x=some i->∃ a vo,c.env.cells.lookup x=some a/\h.IsCell a vo/\∀ v,ρ[i]?=some (some v)->∃ y,vo=some y/\RelV k.w.params g h v y
theorem Fr'.here {k:Kx} {c:Cx k} {g:Gh} {ρ:List (Option V)} {h:Heap} (F:Fr' c g ρ h):FrameAt h c.env.locals:=by
  obtain ⟨m,hm,_⟩:=F.loc;exact .of hm
theorem Fr'.lt {k:Kx} {c:Cx k} {g:Gh} {ρ:List (Option V)} {h:Heap} (F:Fr' c g ρ h):c.env.locals<h.objs.size:=by
  obtain ⟨m,hm,_⟩:=F.loc;exact hm.lt
structure St {k:Kx} (c:Cx k) (g:Gh) (μ:List O) (ρ:List (Option V)) (h:Heap):Prop where
  hp:Hp k.B k.w.params c.fs g μ h
  fr:Fr' c g ρ h
structure At {k:Kx} (c:Cx k) where
  g:Gh
  μ:List O
  ρ:List (Option V)
  s:Shared
  st:St c g μ ρ s.heap
noncomputable def wcells (sc:Scope) (env:Env):List Addr:=env.cells.filterMap λx=>if sc.names.lookup x.1==some .cell then some x.2 else none
structure Aft {k:Kx} (c:Cx k) (Z:List Addr) (g:Gh) (s:Shared) (g':Gh) (s':Shared):Prop where
  size:s.heap.objs.size<=s'.heap.objs.size
  slots:∀ (i:Nat) (p:Slot),g.β[i]?=some p->g'.β[i]?=some p
  sub:∀ a∈g.φ,a∈g'.φ
  newβ:∀ a∈feet g'.β,a∈feet g.β∨s.heap.objs.size<=a
  newφ:∀ a∈g'.φ,a∈g.φ∨s.heap.objs.size<=a
  keep:Keeps c.fs (λb=>b∈Z∨b∈feet g.β∨b=c.env.locals∨b∈wcells c.sc c.env) s.heap s'.heap
  gens:s'.gens=s.gens
  os:s'.os=s.os
section
variable {k:Kx} {c:Cx k}
noncomputable abbrev After (Z:List Addr) (x y:At c):Prop:=Aft c Z x.g x.s y.g y.s
noncomputable abbrev At.is (x:At c) (v:V) (y:Value):Prop:=RelV k.w.params x.g x.s.heap v y
noncomputable abbrev At.are (x:At c) (v:List V) (y:List Value):Prop:=RelVs k.w.params x.g x.s.heap v y
noncomputable abbrev WP {α:Type} (c:Cx k) (t:Sem α) (Q:α->Shared->Prop) (E:Value->Shared->Prop) (s:Shared):Prop:=wpAny (model prog k.w) c.A t Q E s
variable {Z:List Addr} {x y z:At c} {g g' g'':Gh} {s s' s'':Shared} {h h':Heap} {μ:List O} {ρ:List (Option V)} {a b:Addr} {o:Obj} {v:V} {u:Value}
theorem old_ne (e:h.get? a=some o) (hb:h.objs.size<=b):a≠b:=λq=>absurd (Heap.lt_size e) (Nat.not_lt.mpr (q▸hb))
theorem mem_feet {β:List Slot} {i:Nat} {p:Slot} (e:β[i]?=some p) (h:a=p.1∨p.2=some a):a∈feet β:=
  List.mem_flatMap.mpr ⟨p,List.mem_of_getElem? e,h.elim (λh=>h▸List.mem_cons_self) λh=>List.mem_cons_of_mem _ (by rw [h];exact List.mem_singleton.mpr rfl)⟩
theorem feet_append (β γ:List Slot):feet (β++γ)=feet β++feet γ:=List.flatMap_append
theorem feet_mem {p:Slot} (h:a∈feet [p]):a=p.1∨p.2=some a:=by
  rw [show feet [p]=p.1 :: p.2.toList from List.append_nil _] at h
  exact (List.mem_cons.mp h).imp id Option.mem_toList.mp
theorem wcells_fa {sc:Scope} {env:Env} (h:a∈wcells sc env):a∈fa env:=by
  obtain ⟨x,hx,e⟩:=List.mem_filterMap.mp h
  split at e
  · cases e;exact List.mem_cons_of_mem _ (List.mem_map.mpr ⟨x,hx,rfl⟩)
  · cases e
theorem Keeps.exact {fs:List Env} {N:Addr->Prop} (q:Keeps fs N h h') (n:¬N a) (nf:a∉frs fs) (e:h.get? a=some o):h'.get? a=some o:=by
  obtain ⟨sl,e',z⟩:=q a o n e
  rw [z nf] at e';exact e'
theorem Keeps.same {fs:List Env} {N:Addr->Prop} (q:∀ b o,¬N b->h.get? b=some o->h'.get? b=some o):Keeps fs N h h':=λb o n e=>⟨o.slots,q b o n e,λ_=>rfl⟩
theorem Aft.refl:Aft c Z g s g s:=⟨Nat.le_refl _,λ_ _ e=>e,λ_ m=>m,λ_ m=>.inl m,λ_ m=>.inl m,.same λ_ _ _ e=>e,rfl,rfl⟩
theorem Aft.notin (f:Aft c Z g s g' s') (e:s.heap.get? a=some o) (n:a∉feet g.β):a∉feet g'.β:=λm=>(f.newβ a m).elim n λq=>old_ne e q rfl
theorem Aft.nin (f:Aft c Z g s g' s') (e:s.heap.get? a=some o) (n:a∉g.φ):a∉g'.φ:=λm=>(f.newφ a m).elim n λq=>old_ne e q rfl
theorem Aft.hide {own:List Addr} (f:Aft c Z g s g' s') (q:Aft c own g' s' g'' s'') (ge:∀ a∈own,a∈Z∨s.heap.objs.size<=a):Aft c Z g s g'' s'' where
  size:=Nat.le_trans f.size q.size
  slots i p e:=q.slots i p (f.slots i p e)
  sub a m:=q.sub a (f.sub a m)
  newβ a m:=(q.newβ a m).elim (f.newβ a) λe=>.inr (Nat.le_trans f.size e)
  newφ a m:=(q.newφ a m).elim (f.newφ a) λe=>.inr (Nat.le_trans f.size e)
  keep b o n e:=
    let ⟨sl,e1,z1⟩:=f.keep b o n e
    let ⟨sl',e2,z2⟩:=q.keep b _ (λm=>m.elim (λm=>(ge b m).elim (λm=>n (.inl m)) λm=>old_ne e m rfl) λm=>n (.inr (m.imp (λm=>Classical.byContradiction λw=>f.notin e w m) id))) e1
    ⟨sl',e2,λm=>(z2 m).trans (z1 m)⟩
  gens:=q.gens.trans f.gens
  os:=q.os.trans f.os
theorem Aft.trans (f:Aft c Z g s g' s') (q:Aft c Z g' s' g'' s''):Aft c Z g s g'' s'':=f.hide q λ_ m=>.inl m
theorem Hp.here {B:Heap} {P:Params} {fs:List Env} (H:Hp B P fs g μ h) (m:a∈feet g.β):∃ o,h.get? a=some o:=by
  obtain ⟨p,hp,ha⟩:=List.mem_flatMap.mp m
  obtain ⟨i,hi⟩:=List.mem_iff_getElem?.mp hp
  have hl:i<μ.length:=H.len▸(List.getElem?_eq_some_iff.mp hi).1
  obtain ⟨p',hp',r⟩:=H.objs i μ[i] (List.getElem?_eq_getElem hl)
  cases hi.symm.trans hp'
  match μ[i],r with
  | .list _,⟨q,_,_,e,_⟩=>rw [q] at ha;exact ⟨_,List.mem_singleton.mp ha▸e⟩
  | .dict _ _,⟨q,_,_,e,_,_⟩=>rw [q] at ha;exact ⟨_,List.mem_singleton.mp ha▸e⟩
  | .inst _ _,⟨d,_,_,q,e,e',_⟩=>
    rw [q] at ha
    exact (List.mem_cons.mp ha).elim (λm=>⟨_,m▸e⟩) λm=>⟨_,List.mem_singleton.mp m▸e'⟩
structure New (c:Cx k) (g:Gh) (a:Addr):Prop where
  β:a∉feet g.β
  φ:a∉g.φ
  frs:a∉frs c.fs
  fa:a∉fa c.env
  B:k.B.get? a=none
  low:(a==sysModules)=false
theorem Hp.fresh_low {B:Heap} {P:Params} {fs:List Env} (H:Hp B P fs g μ h) (ha:h.objs.size<=a):(a==sysModules)=false:=by
  obtain ⟨o,e⟩:=(H.froz 334 H.flags).2
  have h2:=Nat.lt_of_lt_of_le (Heap.lt_size e) ha
  exact beq_eq_false_iff_ne.mpr λq=>by rw [q] at h2;exact absurd h2 (by decide)
theorem St.new (S:St c g μ ρ h) (ha:h.objs.size<=a):New c g a where
  β m:=let ⟨_,e⟩:=S.hp.here m;old_ne e ha rfl
  φ m:=let ⟨_,e⟩:=(S.hp.froz a m).2;old_ne e ha rfl
  frs m:=let ⟨_,_,_,e,_⟩:=(S.hp.frames a m).2;old_ne e ha rfl
  fa m:=by
    rcases List.mem_cons.mp m with q | q
    · obtain ⟨o,_,_,e,_⟩:=S.fr.here;exact old_ne e ha q.symm
    · obtain ⟨x,hx,q⟩:=List.mem_map.mp q
      obtain ⟨v,o,e,_⟩:=S.fr.cpres x hx
      exact old_ne e ha q
  B:=by
    cases e:k.B.get? a with
    | none=>rfl
    | some o=>exact absurd rfl (old_ne (S.hp.stays a o e) ha)
  low:=S.hp.fresh_low ha
theorem FrameAt.keep (f:FrameAt h a) (q:∀ o,h.get? a=some o->∃ sl,h'.get? a=some { o with slots:=sl }):FrameAt h' a:=
  let ⟨o,es,n,e,d⟩:=f;let ⟨sl,e'⟩:=q o e;⟨_,es,n,e',d⟩
theorem ns_slots {m:Str->Option Value} (hn:h.Ns a m) (q:∀ o,h.get? a=some o->∃ sl,h'.get? a=some { o with slots:=sl }):h'.Ns a m:=
  let ⟨o,es,ep,e,r⟩:=hn;let ⟨sl,e'⟩:=q o e;⟨_,es,ep,e',r⟩
theorem cell_slots {vo:Option Value} (hn:h.IsCell a vo) (q:∀ o,h.get? a=some o->∃ sl,h'.get? a=some { o with slots:=sl }):h'.IsCell a vo:=
  let ⟨o,e,r⟩:=hn;let ⟨sl,e'⟩:=q o e;⟨_,e',r⟩
theorem Fr'.keep (F:Fr' c g ρ h) (M:Stays g g' h h') (q:∀ a∈fa c.env,∀ o,h.get? a=some o->∃ sl,h'.get? a=some { o with slots:=sl }) (n:∀ a∈fa c.env,a∉feet g'.β/\a∉g'.φ):Fr' c g' ρ h' where
  above:=F.above
  eok:=F.eok
  rlen:=F.rlen
  foff a m:=⟨(n a m).1,(n a m).2,(F.foff a m).2.2⟩
  cfrs:=F.cfrs
  apart:=F.apart
  cpres x hx:=let ⟨v,e⟩:=F.cpres x hx;⟨v,cell_slots e (q _ (List.mem_cons_of_mem _ (List.mem_map.mpr ⟨x,hx,rfl⟩)))⟩
  loc:=let ⟨m,hm,r⟩:=F.loc;⟨m,ns_slots hm (q _ List.mem_cons_self),λx i v a b c=>let ⟨y,e,q⟩:=r x i v a b c;⟨y,e,q.mono M⟩⟩
  cel x i a b:=let ⟨c,vo,e,hc,r⟩:=F.cel x i a b;⟨c,vo,e,cell_slots hc (q _ (List.mem_cons_of_mem _ (List.mem_map.mpr ⟨_,mem_of_lookup e,rfl⟩))),λv hv=>let ⟨y,e,z⟩:=r v hv;⟨y,e,z.mono M⟩⟩
theorem St.other {own:List Addr} (S:St c g μ ρ h) (n:∀ a∈own,New c g a) (q:Keeps c.fs (·∈own) h h'):St c g μ ρ h' where
  hp:=
    have kf:∀ {a o},a∉own->a∉frs c.fs->h.get? a=some o->h'.get? a=some o:=λa b e=>q.exact a b e
    have M:Stays g g h h':=⟨λ_ _ e=>e,λ_ m=>m,λa m o e=>kf (λw=>(n a w).φ m) (S.hp.froz a m).1 e⟩
    { stays:=λb o e=>kf (λw=>by rw [(n b w).B] at e;cases e) (λw=>by rw [(S.hp.frames b w).1] at e;cases e) (S.hp.stays b o e)
      flags:=S.hp.flags,len:=S.hp.len,nodup:=S.hp.nodup,off:=S.hp.off,low:=S.hp.low,kinds:=S.hp.kinds
      objs:=λi o e=>let ⟨p,hp,r⟩:=S.hp.objs i o e;⟨p,hp,r.mono M λa ha ob e=>kf (λw=>(n a w).β (mem_feet hp ha)) (S.hp.off a (mem_feet hp ha)).2.1 e⟩
      froz:=λa m=>⟨(S.hp.froz a m).1,let ⟨o,e⟩:=(S.hp.froz a m).2;⟨o,M.same a m o e⟩⟩
      frames:=λa m=>⟨(S.hp.frames a m).1,(S.hp.frames a m).2.keep λo e=>let ⟨sl,e',_⟩:=q a o (λw=>(n a w).frs m) e;⟨sl,e'⟩⟩ }
  fr:=S.fr.keep ⟨λ_ _ e=>e,λ_ m=>m,λa m o e=>q.exact (λw=>(n a w).φ m) (S.hp.froz a m).1 e⟩
    (λa m o e=>let ⟨sl,e',_⟩:=q a o (λw=>(n a w).fa m) e;⟨sl,e'⟩) λa m=>⟨(S.fr.foff a m).1,(S.fr.foff a m).2.1⟩
theorem St.grow (S:St c g μ ρ h) (q:∀ b o,h.get? b=some o->h'.get? b=some o):St c g μ ρ h':=S.other (own:=[]) (λ_ m=>nomatch m) (.same λb o _=>q b o)
theorem St.promote {as:List Addr} (S:St c g μ ρ h) (n:∀ a∈as,New c g a) (p:∀ a∈as,∃ o,h.get? a=some o):St c ⟨g.β,as++g.φ⟩ μ ρ h:=
  have M:Stays g ⟨g.β,as++g.φ⟩ h h:=⟨λ_ _ e=>e,λ_ m=>List.mem_append_right _ m,λ_ _ _ e=>e⟩
  { hp:={ S.hp with
      flags:=List.mem_append_right _ S.hp.flags
      objs:=λi o e=>let ⟨p,hp,r⟩:=S.hp.objs i o e;⟨p,hp,r.mono M λ_ _ _ e=>e⟩
      off:=λa m=>⟨λq=>(List.mem_append.mp q).elim (λq=>(n a q).β m) (S.hp.off a m).1,(S.hp.off a m).2⟩
      froz:=λa m=>(List.mem_append.mp m).elim (λq=>⟨(n a q).frs,p a q⟩) (S.hp.froz a)
      low:=λa m=>m.elim (λm=>(List.mem_append.mp m).elim (λq=>(n a q).low) λq=>S.hp.low a (.inl q)) λm=>S.hp.low a (.inr m) }
    fr:=S.fr.keep M (λ_ _ o e=>⟨o.slots,e⟩) λa m=>⟨(S.fr.foff a m).1,λq=>(List.mem_append.mp q).elim (λq=>(n a q).fa m) (S.fr.foff a m).2.1⟩ }
theorem slots_new (β:List Slot) (p:Slot):(β++[p])[β.length]?=some p:=by rw [List.getElem?_append_right (Nat.le_refl _),Nat.sub_self];rfl
theorem slots_old {β:List Slot} (p:Slot) (i:Nat) (q:Slot) (e:β[i]?=some q):(β++[p])[i]?=some q:=by rw [List.getElem?_append_left (List.getElem?_eq_some_iff.mp e).1];exact e
theorem St.adopt {p:Slot} {o:O} (S:St c g μ ρ h) (n:∀ a∈feet [p],New c g a) (hn:(feet [p]).Nodup) (r:RelO k.w.params ⟨g.β++[p],g.φ⟩ h o p):St c ⟨g.β++[p],g.φ⟩ (μ++[o]) ρ h:=
  have M:Stays g ⟨g.β++[p],g.φ⟩ h h:=⟨slots_old p,λ_ m=>m,λ_ _ _ e=>e⟩
  have hf:∀ {a},a∈feet (g.β++[p])->a∈feet g.β∨a∈feet [p]:=λm=>List.mem_append.mp (feet_append g.β [p]▸m)
  { hp:={ S.hp with
      len:=by rw [List.length_append,List.length_append,S.hp.len];rfl
      objs:=λi o' e=>by
        rw [List.getElem?_append] at e
        split at e
        · obtain ⟨q,hq,r'⟩:=S.hp.objs i o' e
          exact ⟨q,slots_old p _ _ hq,r'.mono M λ_ _ _ e=>e⟩
        · have hz:i=g.β.length:=by
            have:=(List.getElem?_eq_some_iff.mp e).1
            rw [S.hp.len];simp at this;lia
          rw [hz,S.hp.len,Nat.sub_self] at e
          cases e
          exact ⟨p,hz▸slots_new _ _,r⟩
      nodup:=by
        rw [feet_append,List.nodup_append]
        exact ⟨S.hp.nodup,hn,λa ha b hb e=>(n b hb).β (e▸ha)⟩
      off:=λa m=>(hf m).elim (S.hp.off a) λq=>⟨(n a q).φ,(n a q).frs,(n a q).B⟩
      low:=λa m=>m.elim (λm=>S.hp.low a (.inl m)) λm=>(hf m).elim (λm=>S.hp.low a (.inr m)) λq=>(n a q).low }
    fr:=S.fr.keep M (λ_ _ o e=>⟨o.slots,e⟩) λa m=>⟨λq=>(hf q).elim (S.fr.foff a m).1 λq=>(n a q).fa m,(S.fr.foff a m).2.1⟩ }
theorem feet_disjoint:∀ {β:List Slot},(feet β).Nodup->∀ {i j:Nat} {p q:Slot} {a:Addr},β[i]?=some p->β[j]?=some q->a∈feet [p]->a∈feet [q]->i=j
  | r :: t,hn,i,j,p,q,a,e,e',m,m'=>
    have hn':(feet [r]++feet t).Nodup:=by rw [←feet_append];exact hn
    have h:=List.nodup_append.mp hn'
    match i,j,e,e' with
    | 0,0,_,_=>rfl
    | 0,j+1,e,e'=>absurd rfl (h.2.2 a (Option.some.inj e▸m) a (mem_feet (β:=t) e' (feet_mem m')))
    | i+1,0,e,e'=>absurd rfl (h.2.2 a (Option.some.inj e'▸m') a (mem_feet (β:=t) e (feet_mem m)))
    | i+1,j+1,e,e'=>congrArg (·+1) (feet_disjoint (β:=t) h.2.1 e e' m m')
theorem St.put (S:St c g μ ρ h) {i:Nat} {p:Slot} {o':O} (hi:g.β[i]?=some p) (ha:a∈feet [p]) (q:∀ b o,b≠a->h.get? b=some o->h'.get? b=some o) (r:RelO k.w.params g h' o' p):St c g (μ.set i o') ρ h':=
  have hx:=mem_feet hi (feet_mem ha)
  have f:=S.hp.off a hx
  have M:Stays g g h h':=⟨λ_ _ e=>e,λ_ m=>m,λb m o e=>q b o (λw=>f.1 (w▸m)) e⟩
  { hp:={ S.hp with
      stays:=λb o e=>q b o (λw=>by rw [w,f.2.2] at e;cases e) (S.hp.stays b o e)
      len:=by rw [List.length_set];exact S.hp.len
      objs:=λj o e=>by
        rw [List.getElem?_set] at e
        split at e
        · rename_i hij
          split at e
          · cases e;exact ⟨p,hij▸hi,r⟩
          · cases e
        · rename_i hij
          obtain ⟨s,hs,r'⟩:=S.hp.objs j o e
          exact ⟨s,hs,r'.mono M λb hb ob e'=>q b ob (λz=>hij (feet_disjoint S.hp.nodup hi hs ha (z▸by
            rw [show feet [s]=s.1 :: s.2.toList from List.append_nil _]
            exact hb.elim (λe=>e▸List.mem_cons_self) λe=>List.mem_cons_of_mem _ (Option.mem_toList.mpr e)))) e'⟩
      froz:=λb m=>⟨(S.hp.froz b m).1,let ⟨o,e⟩:=(S.hp.froz b m).2;⟨o,M.same b m o e⟩⟩
      frames:=λb m=>⟨(S.hp.frames b m).1,(S.hp.frames b m).2.keep λo e=>⟨o.slots,q b o (λw=>f.2.1 (w▸m)) e⟩⟩ }
    fr:=S.fr.keep M (λb m o e=>⟨o.slots,q b o (λw=>(S.fr.foff b m).1 (w▸hx)) e⟩) λb m=>⟨(S.fr.foff b m).1,(S.fr.foff b m).2.1⟩ }
end
end
section
open PySem PySem.W PyProof.Rows
structure Off (n:Nat) (g:Gh) (a:Addr):Prop where
  ge:n<=a
  β:a∉feet g.β
  φ:a∉g.φ
structure FObj (n:Nat) (g:Gh) (h:Heap) (a:Addr) (o:Obj) (vs:Array Value):Prop extends Off n g a where
  at_:h.get? a=some o
  is:o.data=.fields vs
inductive Tr (n:Nat) (g:Gh) (h:Heap) (a T:Addr):Prop
  | mk (o:Obj) (ts:Array Value) (F:FObj n g h T o ts) (ne:T≠a) (z:4<=ts.size)
inductive Fly (n:Nat) (g:Gh) (h:Heap):Value->Prop
  | mk (a:Addr) (o:Obj) (vs:Array Value) (F:FObj n g h a o vs) (c:o.cls=.ref 64) (z:2<=vs.size) (t:vs[1]?=some .none∨∃ T,vs[1]?=some (.ref T)/\Tr n g h a T):Fly n g h (.ref a)
theorem FObj.back {n m:Nat} {g:Gh} {h:Heap} {a:Addr} {o:Obj} {vs:Array Value} (q:n<=m) (f:FObj m g h a o vs):FObj n g h a o vs:={ f with ge:=Nat.le_trans q f.ge }
theorem Fly.back {n m:Nat} {g:Gh} {h:Heap} {e:Value} (q:n<=m) (f:Fly m g h e):Fly n g h e:=
  let ⟨a,o,vs,F,c,z,t⟩:=f
  ⟨a,o,vs,F.back q,c,z,t.imp id λ⟨T,h1,⟨o,ts,F,ne,z⟩⟩=>⟨T,h1,⟨o,ts,F.back q,ne,z⟩⟩⟩
section
variable {k:Kx} {c:Cx k} {α γ X Y:Type} {Z:List Addr} {x y z:At c} {R:At c->α->X->Prop} {R':At c->γ->Y->Prop} {Q:X->Shared->Prop} {Q':Y->Shared->Prop} {E E':Value->Shared->Prop} {a:α} {r:Res α} {v:V} {u:Value} {C:Prop}
noncomputable def Post (Z:List Addr) (x:At c) (R:At c->α->X->Prop) (r:Res α) (Q:X->Shared->Prop) (E:Value->Shared->Prop):Prop:=match r with
  | .ok a μ ρ=>∀ (y:At c) v,After Z x y->y.μ=μ->y.ρ=ρ->R y a v->Q v y.s
  | .exc μ ρ=>∀ (y:At c) e,After Z x y->y.μ=μ->y.ρ=ρ->Fly x.s.heap.objs.size y.g y.s.heap e->E e y.s
  | .fail=>False
noncomputable def Do (Z:List Addr) (x:At c) (R:At c->α->X->Prop) (t:Sem X) (m:M α):Prop:=∀ Q E,Post Z x R (m x.μ x.ρ) Q E->WP c t Q E x.s
noncomputable abbrev So (c:Cx k) (R:At c->α->X->Prop) (t:Sem X) (m:M α):Prop:=∀ x:At c,Do [] x R t m
noncomputable abbrev RV (x:At c):V->Value->Prop:=x.is
noncomputable abbrev RVs (x:At c):List V->List Value->Prop:=x.are
noncomputable abbrev RB (x:At c) (a b:Bool):Prop:=a=b
noncomputable abbrev RW (x:At c) (a:Bool) (b:Value):Prop:=b=.bool a
noncomputable abbrev RU (x:At c) (a b:Unit):Prop:=True
theorem Post.bindB {Z':List Addr} {m:M α} {f:α->M γ} (p:Post Z x R' (bindM m f y.μ y.ρ) Q' E) (hs:x.s.heap.objs.size<=y.s.heap.objs.size) (le:∀ z:At c,After Z' y z->After Z x z)
    (kn:∀ a z v,After Z' y z->R z a v->Post Z x R' (f a z.μ z.ρ) Q' E->Q v z.s):Post Z' y R (m y.μ y.ρ) Q E:=by
  unfold bindM at p
  cases hm:m y.μ y.ρ with
  | ok a μ ρ=>rw [hm] at p;exact λz v f e1 e2 r=>kn a z v f r (by rw [e1,e2];exact p)
  | exc μ ρ=>rw [hm] at p;exact λz e f e1 e2 q=>p z e (le z f) e1 e2 (q.back hs)
  | fail=>rw [hm] at p;exact p.elim
theorem Post.base (p:Post Z x R r Q E) (hs:x.s.heap.objs.size<=y.s.heap.objs.size) {Z':List Addr} (le:∀ z:At c,After Z' y z->After Z x z):Post Z' y R r Q E:=by
  cases r with
  | ok a μ ρ=>exact λz v q=>p z v (le z q)
  | exc μ ρ=>exact λz e q e1 e2 w=>p z e (le z q) e1 e2 (w.back hs)
  | fail=>exact p
theorem Post.later (p:Post Z x R r Q E) (f:After Z x y):Post Z y R r Q E:=p.base f.size λ_=>f.trans
theorem Post.bind {m:M α} {f:α->M γ} (p:Post Z x R' (bindM m f x.μ x.ρ) Q' E)
    (kn:∀ a z v,After Z x z->R z a v->Post Z z R' (f a z.μ z.ρ) Q' E->Q v z.s):Post Z x R (m x.μ x.ρ) Q E:=
  p.bindB (Nat.le_refl _) (λ_ f=>f) λa z v f r p=>kn a z v f r (p.later f)
theorem Post.mono (p:Post Z x R r Q E) {R':At c->α->Y->Prop} (kn:∀ a y v,R' y a v->∃ w,R y a w/\(Q w y.s->Q' v y.s)):Post Z x R' r Q' E:=by
  cases r with
  | ok a μ ρ=>exact λy v f e1 e2 q=>let ⟨w,q',k⟩:=kn a y v q;k (p y w f e1 e2 q')
  | exc μ ρ=>exact p
  | fail=>exact p
theorem Post.rd {f:List O->Option α} (p:Post Z x R (rdM f y.μ y.ρ) Q E) (kn:∀ a,f y.μ=some a->Post Z x R (.ok a y.μ y.ρ) Q E->C):C:=by
  unfold rdM at p
  cases h:f y.μ with
  | some a=>rw [h] at p;exact kn a h p
  | none=>rw [h] at p;exact p.elim
theorem Post.rdB {f:List O->Option α} {m:α->M γ} (p:Post Z x R' (bindM (rdM f) m y.μ y.ρ) Q' E) (kn:∀ a,f y.μ=some a->Post Z x R' (m a y.μ y.ρ) Q' E->C):C:=by
  unfold bindM rdM at p
  cases h:f y.μ with
  | some a=>rw [h] at p;exact kn a h p
  | none=>rw [h] at p;exact p.elim
theorem Post.wr {f:List O->Option (α×List O)} (p:Post Z x R (wrM f y.μ y.ρ) Q E) (kn:∀ a,f y.μ=some a->Post Z x R (.ok a.1 a.2 y.ρ) Q E->C):C:=by
  unfold wrM at p
  cases h:f y.μ with
  | some a=>rw [h] at p;exact kn a h p
  | none=>rw [h] at p;exact p.elim
theorem Post.opt {o:Option γ} {m:γ->M α} (p:Post Z x R (opt o m y.μ y.ρ) Q E) (kn:∀ a,o=some a->Post Z x R (m a y.μ y.ρ) Q E->C):C:=by
  cases o with
  | some a=>exact kn a rfl p
  | none=>exact p.elim
theorem Post.alt {o:Option γ} {m:γ->M α} {m':M α} (p:Post Z x R (alt o m m' y.μ y.ρ) Q E) (kn:∀ a,o=some a->Post Z x R (m a y.μ y.ρ) Q E->C) (kn':o=none->Post Z x R (m' y.μ y.ρ) Q E->C):C:=by
  cases o with
  | some a=>exact kn a rfl p
  | none=>exact kn' rfl p
theorem Post.gd {b:Bool} {m:M α} (p:Post Z x R (gd b m y.μ y.ρ) Q E) (kn:b=true->Post Z x R (m y.μ y.ρ) Q E->C):C:=by
  cases b with
  | true=>exact kn rfl p
  | false=>exact p.elim
theorem Post.gdB {b:Bool} {m:M α} {f:α->M γ} (p:Post Z x R' (bindM (Mine.gd b m) f y.μ y.ρ) Q' E) (kn:b=true->Post Z x R' (bindM m f y.μ y.ρ) Q' E->C):C:=by
  cases b with
  | true=>exact kn rfl p
  | false=>exact p.elim
@[elab_as_elim] theorem Post.int2 {a b:V} {w w':Value} {m:Int->Int->M α} {T:Value->Value->Prop} (p:Post Z x R (int2 a b m y.μ y.ρ) Q E) (ra:y.is a w) (rb:y.is b w') (kn:∀ i j t t',Post Z x R (m i j y.μ y.ρ) Q E->T (.int i t) (.int j t')):T w w':=
  p.opt λi e1 p=>p.opt λj e2 p=>ra.isInt e1 λt=>rb.isInt e2 λt'=>kn i j t t' p
@[elab_as_elim] theorem Post.nil {vs:List V} {ys:List Value} {m:M V} {R:At c->V->X->Prop} {T:List Value->Prop} (p:Post Z x R (nil vs m y.μ y.ρ) Q E) (r:y.are vs ys) (kn:Post Z x R (m y.μ y.ρ) Q E->T []):T ys:=by
  cases r with
  | nil=>exact kn p
  | cons=>exact p.elim
@[elab_as_elim] theorem Post.one {vs:List V} {ys:List Value} {m:V->M V} {R:At c->V->X->Prop} {T:List Value->Prop} (p:Post Z x R (one vs m y.μ y.ρ) Q E) (r:y.are vs ys) (kn:∀ v u,y.is v u->Post Z x R (m v y.μ y.ρ) Q E->T [u]):T ys:=by
  cases r with
  | nil=>exact p.elim
  | cons a r=>cases r with
    | nil=>exact kn _ _ a p
    | cons=>exact p.elim
@[elab_as_elim] theorem Post.two {vs:List V} {ys:List Value} {m:V->V->M V} {R:At c->V->X->Prop} {T:List Value->Prop} (p:Post Z x R (two vs m y.μ y.ρ) Q E) (r:y.are vs ys) (kn:∀ v v' u u',y.is v u->y.is v' u'->Post Z x R (m v v' y.μ y.ρ) Q E->T [u,u']):T ys:=by
  cases r with
  | nil=>exact p.elim
  | cons a r=>cases r with
    | nil=>exact p.elim
    | cons b r=>cases r with
      | nil=>exact kn _ _ _ _ a b p
      | cons=>exact p.elim
theorem At.staysZ (x:At c) {y:At c} (f:After Z x y) (nz:∀ a∈Z,a∉x.g.φ):Stays x.g y.g x.s.heap y.s.heap:=⟨f.slots,f.sub,λa m o e=>f.keep.exact (λn=>n.elim (λn=>nz a n m) λn=>n.elim (λn=>(x.st.hp.off a n).1 m) λn=>
  (x.st.fr.foff a (n.elim (λe=>e▸List.mem_cons_self) wcells_fa)).2.1 m) (x.st.hp.froz a m).1 e⟩
theorem At.stays (x:At c) {y:At c} (f:After [] x y):Stays x.g y.g x.s.heap y.s.heap:=x.staysZ f λ_ m=>nomatch m
theorem RelV.after (r:x.is v u) (f:After [] x y):y.is v u:=r.mono (x.stays f)
theorem RelVs.after {vs:List V} {us:List Value} (r:x.are vs us) (f:After [] x y):y.are vs us:=RelVs.mono (x.stays f) r
theorem Aft.wide {Z':List Addr} {g g':Gh} {s s':Shared} (f:Aft c Z g s g' s') (h:∀ a∈Z,a∈Z'):Aft c Z' g s g' s':={ f with keep:=λb o n=>f.keep b o λm=>n (m.imp (h b) id) }
theorem Aft.weak {g g':Gh} {s s':Shared} (f:Aft c [] g s g' s'):Aft c Z g s g' s':=f.wide λ_ m=>nomatch m
theorem Post.now (p:Post Z x R (.ok a x.μ x.ρ) Q E) {w:X} (r:R x a w):Q w x.s:=p x w .refl rfl rfl r
noncomputable abbrev At.to (x:At c) (h:Heap) (tk:Nat):Shared:={ x.s with heap:=h,toks:=tk }
theorem Aft.other {own:List Addr} {h:Heap} {tk:Nat} (f:After Z z x) (n:∀ a∈own,New c x.g a) (ge:∀ a∈own,a∈Z∨z.s.heap.objs.size<=a) (q:Keeps c.fs (·∈own) x.s.heap h) (hs:x.s.heap.objs.size<=h.objs.size):Aft c Z z.g z.s x.g (x.to h tk) where
  size:=Nat.le_trans f.size hs
  slots:=f.slots
  sub:=f.sub
  newβ:=f.newβ
  newφ:=f.newφ
  keep b o nb e:=
    let ⟨sl,e1,z1⟩:=f.keep b o nb e
    let ⟨sl',e2,z2⟩:=q b _ (λm=>(ge b m).elim (λm=>nb (.inl m)) λm=>old_ne e m rfl) e1
    ⟨sl',e2,λm=>(z2 m).trans (z1 m)⟩
  gens:=f.gens
  os:=f.os
noncomputable def At.other (x:At c) {own:List Addr} (n:∀ a∈own,New c x.g a) {h:Heap} (tk:Nat) (q:Keeps c.fs (·∈own) x.s.heap h):At c:=⟨x.g,x.μ,x.ρ,x.to h tk,x.st.other n q⟩
noncomputable def At.grow (x:At c) {h:Heap} (tk:Nat) (q:∀ b o,x.s.heap.get? b=some o->h.get? b=some o):At c:=⟨x.g,x.μ,x.ρ,x.to h tk,x.st.grow q⟩
theorem After.grow {h:Heap} {tk:Nat} (q:∀ b o,x.s.heap.get? b=some o->h.get? b=some o) (hs:x.s.heap.objs.size<=h.objs.size):After Z x (x.grow tk q):=
  Aft.other (x:=x) (z:=x) (own:=[]) .refl (λ_ m=>nomatch m) (λ_ m=>nomatch m) (.same λb o _=>q b o) hs
theorem Stays.more {g:Gh} {h h':Heap} (q:∀ b o,h.get? b=some o->h'.get? b=some o):Stays g g h h':=⟨λ_ _ e=>e,λ_ m=>m,λa _ o e=>q a o e⟩
theorem Post.tok (p:Post Z x R (.ok a x.μ x.ρ) Q E) (tk:Nat) {w:X} (r:R (x.grow tk λ_ _ e=>e) a w):Q w { x.s with toks:=tk }:=p (x.grow tk λ_ _ e=>e) w (After.grow _ (Nat.le_refl _)) rfl rfl r
theorem Post.old {S:Value->Shared->Prop} (p:Post Z x RV (.ok v x.μ x.ρ) S E) {h:Heap} {tk:Nat} (q:∀ b o,x.s.heap.get? b=some o->h.get? b=some o) (hs:x.s.heap.objs.size<=h.objs.size) (r:x.is v u):S u (x.to h tk):=
  p (x.grow tk q) u (After.grow _ hs) rfl rfl (r.mono (.more q))
end
end
section
open PySem PySem.W PyProof.Rows
theorem ok_ind {C:Nat->V->Prop} (none:∀ n,C n .none) (int:∀ n i,C n (.int i)) (str:∀ n s,PyData.strOk s=true->C n (.str s)) (tup:∀ n vs,(∀ v∈vs,C n v)->C (n+1) (.tup vs)) (lst:∀ n vs,(∀ v∈vs,C n v)->C (n+1) (.lst vs)) :
    ∀ {n:Nat} {v:V},okV n v=true->C n v
  | n,.none,_=>none n
  | n,.int i,_=>int n i
  | 0,.str s,e=>str 0 s e
  | n+1,.str s,e=>str (n+1) s e
  | n+1,.tup vs,e=>tup n vs λv m=>ok_ind none int str tup lst (List.all_eq_true.mp e v m)
  | n+1,.lst vs,e=>lst n vs λv m=>ok_ind none int str tup lst (List.all_eq_true.mp e v m)
  | 0,.bool _,e | 0,.tup _,e | 0,.lst _,e | 0,.dct _ _,e | 0,.ref _,e | 0,.rng _ _,e | 0,.glob _,e | 0,.atom _,e=>nomatch e
  | _+1,.bool _,e | _+1,.dct _ _,e | _+1,.ref _,e | _+1,.rng _ _,e | _+1,.glob _,e | _+1,.atom _,e=>nomatch e
noncomputable def toD:Nat->V->Dat
  | _,.none=>.none
  | _,.int i=>.int i
  | _,.str s=>.str s
  | n+1,.tup vs=>.tuple (vs.map (toD n))
  | n+1,.lst vs=>.list (vs.map (toD n))
  | _,_=>.bytes #[]
noncomputable def fromD:Nat->Dat->V
  | _,.int i=>.int i
  | _,.str s=>.str s
  | n+1,.tuple ds=>.tup (ds.map (fromD n))
  | n+1,.list ds=>.lst (ds.map (fromD n))
  | _,_=>.none
theorem map_id' {α:Type} {f:α->α} {l:List α} (h:∀ x∈l,f x=x):l.map f=l:=(List.map_congr_left h).trans (List.map_id l)
theorem toD_ok {n:Nat} {v:V} (e:okV n v=true):kqdOk n (toD n v)=true:=by
  refine ok_ind (C:=λn v=>kqdOk n (toD n v)=true) ?_ ?_ ?_ ?_ ?_ e
  · exact λn=>by cases n <;> rfl
  · exact λn _=>by cases n <;> rfl
  · exact λn s h=>by cases n <;> exact h
  · exact λn vs h=>List.all_eq_true.mpr λd m=>let ⟨v,hv,q⟩:=List.mem_map.mp m;q▸h v hv
  · exact λn vs h=>List.all_eq_true.mpr λd m=>let ⟨v,hv,q⟩:=List.mem_map.mp m;q▸h v hv
theorem fromD_to {n:Nat} {v:V} (e:okV n v=true):fromD n (toD n v)=v:=by
  refine ok_ind (C:=λn v=>fromD n (toD n v)=v) ?_ ?_ ?_ ?_ ?_ e
  · exact λn=>by cases n <;> rfl
  · exact λn _=>by cases n <;> rfl
  · exact λn s h=>by cases n <;> rfl
  · exact λn vs h=>congrArg V.tup (List.map_map.trans (map_id' h))
  · exact λn vs h=>congrArg V.lst (List.map_map.trans (map_id' h))
theorem kqdPs_eq:∀ ds:List Dat,kqdPs ds=ds.map kqdP
  | []=>rfl
  | _ :: ds=>congrArg _ (kqdPs_eq ds)
section
variable {P:Params} {g:Gh} {h:Heap}
noncomputable abbrev dat (v:V):PyData:=kqdP (toD 8 v)
noncomputable abbrev dats (vs:List V):List PyData:=kqdPs (vs.map (toD 8))
theorem readsAll_of {C:V->Dat} {vs:List V} {xs:List Value} (r:RelVs P g h vs xs) (k:∀ v∈vs,∀ x,RelV P g h v x->∃ as,Reads h x (kqdP (C v)) as):∃ as,ReadsAll h xs (kqdPs (vs.map C)) as:=by
  induction r with
  | nil=>exact ⟨_,.nil⟩
  | cons a r ih=>
    obtain ⟨as,q⟩:=k _ List.mem_cons_self _ a
    obtain ⟨bs,p⟩:=ih λv m=>k v (List.mem_cons_of_mem _ m)
    exact ⟨_,.cons q p⟩
theorem reads_of {n:Nat} {v:V} (e:okV n v=true):∀ {x:Value},RelV P g h v x->∃ as,Reads h x (kqdP (toD n v)) as:=by
  refine ok_ind (C:=λn v=>∀ x:Value,RelV P g h v x->∃ as,Reads h x (kqdP (toD n v)) as) ?_ ?_ ?_ ?_ ?_ e _
  · exact λn x r=>r.isNone rfl (by cases n <;> exact ⟨_,.none⟩)
  · exact λn i x r=>r.isInt rfl λt=>by cases n <;> exact ⟨_,.int i t⟩
  · exact λn i _ x r=>r.isStr rfl λt=>by cases n <;> exact ⟨_,.str i t⟩
  · exact λn vs k x r=>r.isTup rfl λa xs _ q r=>let ⟨_,q'⟩:=readsAll_of r λv m _ r=>k v m _ r;⟨_,reads_tuple_at q rfl rfl q'⟩
  · intro n vs k x r
    cases r.out with | mk a m l=>
    obtain ⟨xs,n,q,r⟩:=l
    exact let ⟨_,q'⟩:=readsAll_of r λv m x r=>k v m _ r;⟨_,reads_list_at q rfl rfl q'⟩
end
theorem eqv_dec {a b:V} (h1:okV 8 a=true) (h2:okV 8 b=true):PyData.eqv (dat a) (dat b)=decide (a=b):=by
  rw [Bool.eq_iff_iff,decide_eq_true_iff]
  exact (kqd_eqv 8 _ _ 8 (toD_ok h1) (toD_ok h2)).trans ⟨λe=>(fromD_to h1).symm.trans ((congrArg (fromD 8) e).trans (fromD_to h2)),congrArg _⟩
theorem shaped_of {v:V} (e:okV 8 v=true):SeqAt.shaped (dat v)=true:=
  have l:=kqd_lay 8 _ (toD_ok e)
  Bool.and_eq_true_iff.mpr ⟨l.1,decide_eq_true (Nat.le_trans l.2 (by decide))⟩
theorem dats_ok {vs:List V} (h:∀ v∈vs,okV 8 v=true):∀ d∈vs.map (toD 8),kqdOk 8 d=true:=λd m=>let ⟨v,hv,q⟩:=List.mem_map.mp m;q▸toD_ok (h v hv)
theorem any_dec {x:V} {vs:List V} (hx:okV 8 x=true) (h:∀ v∈vs,okV 8 v=true):((dats vs).any λy=>PyData.eqv y (dat x))=decide (x∈vs):=by
  rw [Bool.eq_iff_iff,decide_eq_true_iff]
  refine (kqd_any _ _ (dats_ok h) (toD_ok hx)).trans ⟨λm=>?_,λm=>List.mem_map.mpr ⟨x,m,rfl⟩⟩
  obtain ⟨v,hv,e⟩:=List.mem_map.mp m
  exact ((fromD_to (h v hv)).symm.trans ((congrArg (fromD 8) e).trans (fromD_to hx)))▸hv
section
variable {k:Kx} {c:Cx k} {x:At c} {a b u:V} {y z:Value} {Q:Value->Shared->Prop} {E:Value->Shared->Prop} {r:Bool} {vs:List V}
theorem At.obj (x:At c) {i:Nat} {p:Slot} {o:O} (hp:x.g.β[i]?=some p) (e:x.μ[i]?=some o):RelO k.w.params x.g x.s.heap o p:=by
  obtain ⟨q,hq,r⟩:=x.st.hp.objs i o e
  cases hp.symm.trans hq
  exact r
theorem At.lst (x:At c) {i:Nat} {p:Slot} (hp:x.g.β[i]?=some p) (e:listAt x.μ i=some vs):p.2=none/\LstAt k.w.params x.g x.s.heap vs p.1:=
  let ⟨_,ho,e⟩:=Option.bind_eq_some_iff.mp e
  x.obj (o:=.list vs) hp (O.list?_eq e▸ho)
theorem At.dctA (x:At c) {i:Nat} {p:Slot} {q:List V×List V} (hp:x.g.β[i]?=some p) (e:dictAt x.μ i=some q):p.2=none/\DctAt k.w.params x.g x.s.heap q.1 q.2 p.1:=
  let ⟨_,ho,e⟩:=Option.bind_eq_some_iff.mp e
  x.obj (o:=.dict q.1 q.2) hp (O.dict?_eq e▸ho)
inductive SeqA (P:Params) (g:Gh) (h:Heap) (vs:List V):Value->Prop
  | tup (a:Addr) (xs:List Value) (e:h.get? a=some (tupO xs)) (r:RelVs P g h vs xs):SeqA P g h vs (.ref a)
  | lst (a:Addr) (l:LstAt P g h vs a):SeqA P g h vs (.ref a)
theorem RelV.lseq (r:x.is a y) (e:lseqOf x.μ a=some vs) {C:Value->Prop} (kn:∀ l,LstAt k.w.params x.g x.s.heap vs l->C (.ref l)):C y:=by
  cases a with
  | lst=>cases e;cases r.out with | mk a m l=>exact kn a l
  | ref i=>exact r.isRef rfl λp hp=>kn _ (x.lst hp e).2
  | _=>cases e
theorem RelV.seq (r:x.is a y) (e:seqOf x.μ a=some vs):SeqA k.w.params x.g x.s.heap vs y:=by
  cases a with
  | tup=>cases e;exact r.isTup rfl λa xs _ q r=>.tup a xs q r
  | lst=>exact r.lseq (a:=.lst _) e .lst
  | ref i=>exact r.lseq (a:=.ref i) e .lst
  | _=>cases e
theorem RelV.plain (r:x.is a y) (e:plainL x.μ a=some u) (ok:okV 8 u=true):∃ as,Reads x.s.heap y (dat u) as:=by
  have go:∀ {u},some a=some u->okV 8 u=true->∃ as,Reads x.s.heap y (dat u) as:=λe ok=>reads_of ok (Option.some.inj e▸r)
  cases a with
  | ref i=>
    obtain ⟨vs,hv,rfl⟩:=Option.map_eq_some_iff.mp e
    refine r.isRef rfl λp hp=>?_
    obtain ⟨xs,n,q,rs⟩:=(x.lst hp hv).2
    obtain ⟨as,w⟩:=readsAll_of rs λv m _ r=>reads_of (n:=7) (List.all_eq_true.mp ok v m) r
    exact ⟨_,reads_list_at q rfl rfl w⟩
  | _=>exact go e ok
inductive EqWay (h:Heap):Value->Value->Bool->Prop
  | bool (a b:Bool):EqWay h (.bool a) (.bool b) (a==b)
  | data {y z:Value} {d e:PyData} {as bs:List Addr}:Reads h y d as->Reads h z e bs->SeqAt.shaped d=true->SeqAt.shaped e=true->EqWay h y z (PyData.eqv d e)
theorem eq_way (ra:x.is a y) (rb:x.is b z) (e:eqL x.μ a b=some r):EqWay x.s.heap y z r:=by
  have go:eqD x.μ a b=some r->EqWay x.s.heap y z r:=λe=>by
    obtain ⟨u,hu,e⟩:=Option.bind_eq_some_iff.mp e
    obtain ⟨v,hv,e⟩:=Option.bind_eq_some_iff.mp e
    split at e
    · rename_i h
      obtain ⟨h1,h2⟩:=Bool.and_eq_true_iff.mp h
      obtain ⟨as,r1⟩:=ra.plain hu h1
      obtain ⟨bs,r2⟩:=rb.plain hv h2
      cases e
      exact eqv_dec h1 h2▸.data r1 r2 (shaped_of h1) (shaped_of h2)
    · cases e
  unfold eqL at e
  cases h1:a.bool? with
  | none=>rw [h1] at e;exact go e
  | some t=>cases h2:b.bool? with
    | none=>rw [h1,h2] at e;exact go e
    | some t'=>
      rw [h1,h2] at e;cases e
      exact ra.isBool h1 (rb.isBool h2 (.bool _ _))
theorem Cx.unit (c:Cx k):c.A.units+90<cLine:=Nat.lt_of_le_of_lt (Nat.add_le_add_right (Nat.le_trans (Nat.le_add_right _ _) c.cfg.units) _) (by decide)
theorem Cx.in_u (c:Cx k) {m n:Nat} (h:n<=8):c.A.units+1+min m n<cLine:=
  Nat.lt_of_le_of_lt (Nat.le_trans (Nat.le_of_eq (Nat.add_assoc _ _ _)) (Nat.add_le_add_left (Nat.le_trans (Nat.add_le_add_left (Nat.le_trans (Nat.min_le_right _ _) h) 1) (by decide)) _)) c.unit
theorem Cx.u64 (c:Cx k):c.A.units+64<cLine:=Nat.lt_of_le_of_lt (Nat.add_le_add_left (by decide) _) c.unit
theorem op_eq (ra:x.is a y) (rb:x.is b z) (e:eqL x.μ a b=some r) (q:Q (.bool r) x.s):WP c (compareOp .Eq y z) Q E x.s:=by
  cases eq_way ra rb e with
  | bool=>exact eq_bool q
  | data r1 r2 s1 s2=>exact eq_dataH r1 r2 s1 s2 c.u64 q
theorem op_ne (ra:x.is a y) (rb:x.is b z) (e:eqL x.μ a b=some r) (q:Q (.bool (!r)) x.s):WP c (compareOp .NotEq y z) Q E x.s:=by
  cases eq_way ra rb e with
  | bool=>exact ne_bool q
  | data r1 r2 s1 s2=>exact ne_dataH r1 r2 s1 s2 c.u64 q
inductive InWay (h:Heap):Value->Value->Bool->Prop
  | mk {y z:Value} {vs:List PyData} {d:PyData} {as bs:List Addr}:Reads h z (.tuple vs) as∨Reads h z (.list vs) as->Reads h y d bs->PyData.canLayAll0 vs=true->d.canLay0=true->d.depth<=8->InWay h y z (vs.any λe=>PyData.eqv e d)
theorem in_way (ra:x.is a y) (rb:x.is b z) (hv:seqOf x.μ b=some vs) (e:memV a vs=some r):InWay x.s.heap y z r:=by
  unfold memV at e
  split at e
  · rename_i h
    obtain ⟨h1,h2⟩:=Bool.and_eq_true_iff.mp h
    have h2:=List.all_eq_true.mp h2
    cases e
    rw [←any_dec h1 h2]
    obtain ⟨bs,r1⟩:=reads_of h1 ra
    have l:=kqd_lay 8 _ (toD_ok h1)
    cases rb.seq hv with
    | tup _ xs q r=>obtain ⟨as,w⟩:=readsAll_of r λv m _ r=>reads_of (h2 v m) r;exact .mk (.inl (reads_tuple_at q rfl rfl w)) r1 (kqd_layL (dats_ok h2)).1 l.1 l.2
    | lst _ l'=>obtain ⟨xs,n,q,r⟩:=l';obtain ⟨as,w⟩:=readsAll_of r λv m _ r=>reads_of (h2 v m) r;exact .mk (.inr (reads_list_at q rfl rfl w)) r1 (kqd_layL (dats_ok h2)).1 l.1 l.2
  · cases e
theorem op_in (ra:x.is a y) (rb:x.is b z) (hv:seqOf x.μ b=some vs) (e:memV a vs=some r) (q:Q (.bool r) x.s):WP c (compareOp .In y z) Q E x.s:=by
  cases in_way ra rb hv e with
  | mk h r1 c1 c2 dd=>
    exact h.elim (λh=>SeqAt.in_tuple_reads h r1 c1 c2 (c.in_u dd) q) λh=>SeqAt.in_list_reads h r1 c1 c2 (c.in_u dd) q
theorem op_notin (ra:x.is a y) (rb:x.is b z) (hv:seqOf x.μ b=some vs) (e:memV a vs=some r) (q:Q (.bool (!r)) x.s):WP c (compareOp .NotIn y z) Q E x.s:=by
  cases in_way ra rb hv e with
  | mk h r1 c1 c2 dd=>
    exact h.elim (λh=>SeqAt.notIn_tuple_reads h r1 c1 c2 (c.in_u dd) q) λh=>SeqAt.notIn_list_reads h r1 c1 c2 (c.in_u dd) q
theorem none_of (r:x.is a y):(y==Value.none)=a.isNone:=by
  cases r with
  | glob b=>cases b <;> rfl
  | _=>rfl
end
end
section
open PySem PySem.W PyProof.Rows
theorem key_ok {n:Nat} {v:V}:keyV n v=true->okV n v=true:=by
  induction n generalizing v with
  | zero=>cases v <;> first | exact id | exact λh=>(Bool.false_ne_true h).elim
  | succ n ih=>cases v <;> first | exact id | exact λh=>(Bool.false_ne_true h).elim | exact λh=>List.all_eq_true.mpr λv m=>ih (List.all_eq_true.mp h v m)
theorem key_ind {C:Nat->V->Prop} (none:∀ n,C n .none) (int:∀ n i,C n (.int i)) (str:∀ n s,C n (.str s)) (tup:∀ n vs,(∀ v∈vs,C n v)->C (n+1) (.tup vs)) {n:Nat} {v:V} (e:keyV n v=true):C n v:=
  ok_ind (C:=λn v=>keyV n v=true->C n v) (λn _=>none n) (λn i _=>int n i) (λn s _ _=>str n s) (λn vs k e=>tup n vs λv m=>k v m (List.all_eq_true.mp e v m)) (λn vs _ e=>nomatch e) (key_ok e) e
section
variable {P:Params} {g:Gh} {h:Heap}
theorem wellAll_of {C:V->WData} {vs:List V} {xs:List Value} (r:RelVs P g h vs xs) (k:∀ v∈vs,∀ x,RelV P g h v x->Well P h x (C v)):WellAll P h xs (vs.map C):=by
  induction r with
  | nil=>exact .nil
  | cons a r ih=>exact .cons (k _ List.mem_cons_self _ a) (ih λv m=>k v (List.mem_cons_of_mem _ m))
theorem well_of {n:Nat} {v:V} (e:keyV n v=true):∀ x:Value,RelV P g h v x->Well P h x (toW n v):=by
  refine key_ind (C:=λn v=>∀ x:Value,RelV P g h v x->Well P h x (toW n v)) ?_ ?_ ?_ ?_ e
  · exact λn x r=>r.isNone rfl (by cases n <;> exact .none)
  · exact λn i x r=>r.isInt rfl λt=>by cases n <;> exact .int i t
  · exact λn i x r=>r.isStr rfl λt=>by cases n <;> exact .str i t
  · exact λn vs k x r=>r.isTup rfl λa xs _ q r=>.tuple q (wellAll_of r λv m _ r=>k v m _ r)
theorem key_w {n:Nat} {v:V} (e:keyV n v=true):(toW n v).isDKey=true/\(toW n v).depth<=n:=by
  refine key_ind (C:=λn v=>(toW n v).isDKey=true/\(toW n v).depth<=n) ?_ ?_ ?_ ?_ e
  · exact λn=>by cases n <;> exact ⟨rfl,Nat.zero_le _⟩
  · exact λn i=>by cases n <;> exact ⟨rfl,Nat.zero_le _⟩
  · exact λn i=>by cases n <;> exact ⟨rfl,Nat.zero_le _⟩
  · intro n vs k
    have all:∀ vs:List V,(∀ v∈vs,(toW n v).isDKey=true/\(toW n v).depth<=n)->WData.areDKeys (vs.map (toW n))=true/\WData.depthAll (vs.map (toW n))<=n:=λvs=>by
      induction vs with
      | nil=>exact λ_=>⟨rfl,Nat.zero_le _⟩
      | cons v vs ih=>exact λk=>⟨Bool.and_eq_true_iff.mpr ⟨(k v List.mem_cons_self).1,(ih λv m=>k v (List.mem_cons_of_mem _ m)).1⟩,Nat.max_le.mpr ⟨(k v List.mem_cons_self).2,(ih λv m=>k v (List.mem_cons_of_mem _ m)).2⟩⟩
    exact ⟨(all vs k).1,Nat.succ_le_succ (all vs k).2⟩
theorem key_uniq {u v:V} {y:Value} (eu:keyOk u=true) (ev:keyOk v=true) (ru:RelV P g h u y) (rv:RelV P g h v y):u=v:=by
  obtain ⟨as,r1⟩:=reads_of (key_ok eu) ru
  obtain ⟨bs,r2⟩:=reads_of (key_ok ev) rv
  have l:=(kqd_lay 8 _ (toD_ok (key_ok eu))).1
  have e:PyData.eqv (dat u) (dat v)=true:=(congrArg (PyData.eqv (dat u)) (SeqAt.Reads.unique _ _ _ _ _ l r1 r2)).symm.trans (SeqAt.eqv_refl _ l)
  exact of_decide_eq_true ((eqv_dec (key_ok eu) (key_ok ev)).symm.trans e)
end
section
variable {k:Kx} {A:Around} {g:Gh} {s:Shared} {u v:V} {y z:Value} {E:Value->Shared->Prop}
theorem hash_key (hu:A.units<=8000) {Q:Int->Shared->Prop} (r:RelV k.w.params g s.heap u y) (e:keyOk u=true) (q:∀ tk,Q (hashV k.w.params u) { s with toks:=tk }):wpAny (model prog k.w) A (pyHash y) Q E s:=
  have kw:=key_w e
  pyHash_laid _ _ A s Q kw.1 (well_of e _ r) (Nat.lt_of_le_of_lt (Nat.add_le_add hu kw.2) (by decide)) q
theorem eq_key (hu:A.units<=8000) {Q:Bool->Shared->Prop} (ru:RelV k.w.params g s.heap u y) (rv:RelV k.w.params g s.heap v z) (eu:keyOk u=true) (ev:keyOk v=true) (q:Q (decide (u=v)) s):wpAny (model prog k.w) A (eqBool y z) Q E s:=by
  obtain ⟨as,r1⟩:=reads_of (key_ok eu) ru
  obtain ⟨bs,r2⟩:=reads_of (key_ok ev) rv
  have l1:=kqd_lay 8 _ (toD_ok (key_ok eu))
  have l2:=kqd_lay 8 _ (toD_ok (key_ok ev))
  exact SeqAt.eqBoolOverData prog k.w A E s y z _ _ as bs Q r1 r2 l1.1 l2.1 (Nat.lt_of_le_of_lt (Nat.add_le_add hu (Nat.le_trans (Nat.min_le_left _ _) l1.2)) (by decide)) (eqv_dec (key_ok eu) (key_ok ev)▸q)
theorem quiet_all {n:Nat} (e:keyV n u=true):∀ m,n<=m->∀ y,RelV k.w.params g s.heap u y->∀ {Q:Bool->Shared->Prop},Q true s->wpAny (model prog k.w) A (eqIsQuiet m y) Q E s:=by
  refine key_ind (C:=λn u=>∀ m,n<=m->∀ y,RelV k.w.params g s.heap u y->∀ {Q:Bool->Shared->Prop},Q true s->wpAny (model prog k.w) A (eqIsQuiet m y) Q E s) ?_ ?_ ?_ ?_ e
  · exact λn m _ y r Q q=>wpAny_of_eq (eqIsQuiet_byValue m (r.isNone rfl rfl)) q
  · exact λn i m _ y r Q q=>wpAny_of_eq (eqIsQuiet_byValue m (r.isInt rfl λ_=>rfl)) q
  · exact λn i m _ y r Q q=>wpAny_of_eq (eqIsQuiet_byValue m (r.isStr rfl λ_=>rfl)) q
  · rintro n vs ih m hm y r Q q
    refine r.isTup rfl λa xs _ g' r=>?_
    obtain ⟨m,rfl⟩:∃ p,m=p+1:=⟨m - 1,(Nat.sub_add_cancel (Nat.le_trans (Nat.le_add_left 1 n) hm)).symm⟩
    have hT:s.TypeIs (.ref a) "tuple":=⟨_,g',rfl⟩
    unfold eqIsQuiet
    refine wpAny_bind (wpAny_specialOf hT F.slot_tuple_eq.lookup (wpAny_bind (wpAny_isInstance hT isSubtype_tuple_tuple ?_)))
    refine wpAny_bind (wpAny_seqItems g' rfl (wpAny_bind ?_))
    show wpAny _ _ (forIn xs.toArray _ _) _ _ s
    rw [←Array.forIn_toList]
    refine wpAny_forIn_list _ (λrest r s'=>r.1=none/\s'=s/\∃ us,RelVs k.w.params g s.heap us rest/\∀ v∈us,v∈vs) _ ?_ ?_ _ _ ⟨rfl,rfl,vs,r,λ_ m=>m⟩
    · rintro y rest z s' ⟨hr,rfl,us,ru,hu⟩
      cases ru with
      | cons u1 u2=>exact wpAny_bind (ih _ (hu _ List.mem_cons_self) m (Nat.le_of_succ_le_succ hm) _ u1 (wpAny_pure ⟨rfl,rfl,_,u2,λv m=>hu v (List.mem_cons_of_mem _ m)⟩))
    · rintro ⟨r1,r2⟩ s' ⟨hr,rfl,_⟩
      cases hr
      exact wpAny_pure q
theorem wp_t {M:Model} {α:Type} {b:Prop} [Decidable b] {m m':Sem α} {Q:α->Shared->Prop} (h:b) (q:wpAny M A m Q E s):wpAny M A (if b then m else m') Q E s:=by rw [if_pos h];exact q
theorem wp_f {M:Model} {α:Type} {b:Prop} [Decidable b] {m m':Sem α} {Q:α->Shared->Prop} (h:¬b) (q:wpAny M A m' Q E s):wpAny M A (if b then m else m') Q E s:=by rw [if_neg h];exact q
structure Seek (k:Kx) (A:Around) (E:Value->Shared->Prop) (s:Shared) (D:Addr) (es:Array DictEntry) (x:Value) (hx:Int) (f:Nat->Bool) (r:Option Nat):Prop where
  at_:∃ n,s.heap.get? D=some { cls:=.type "dict",data:=.dict es n }
  eq:∀ (i:Nat) e,es[i]?=some e->∀ Q:Bool->Shared->Prop,Q (f i) s->wpAny (model prog k.w) A (eqBool e.key x) Q E s
  hash:∀ (i:Nat) e,es[i]?=some e->f i=true->(e.hash==hx)=true
  is:∀ i,r=some i↔f i=true
  lt:∀ i,r=some i->i<es.size
section
variable {D:Addr} {es:Array DictEntry} {x:Value} {hx:Int} {f:Nat->Bool} {r:Option Nat} {Q:Option Nat->Shared->Prop}
theorem places_lt {i:Nat} (m:i∈placesWithHash es.size (λi=>es[i]?.map (·.hash)) hx):∃ e,es[i]?=some e:=
  ⟨_,getElem?_pos es i (List.mem_range.mp (List.mem_filter.mp m).1)⟩
theorem Seek.place (S:Seek k A E s D es x hx f r) {i:Nat} (h:r=some i):i∈placesWithHash es.size (λi=>es[i]?.map (·.hash)) hx:=by
  have hl:=S.lt i h
  refine List.mem_filter.mpr ⟨List.mem_range.mpr hl,?_⟩
  show (es[i]?.map (·.hash)==some hx)=true
  rw [getElem?_pos es i hl]
  exact S.hash i _ (getElem?_pos es i hl) ((S.is i).mp h)
noncomputable def Left (r:Option Nat) (pl rest:List Nat) (hit:Option Nat):Prop:=(∀ i∈rest,i∈pl)/\rest.Nodup/\((hit=none/\∀ i,r=some i->i∈rest)∨(hit=r/\∀ i,r=some i->i∉rest))
theorem Left.next {pl rest:List Nat} {i:Nat} {hit:Option Nat} (L:Left r pl (i :: rest) hit) (n:r≠some i):Left r pl rest hit:=
  ⟨λj m=>L.1 j (List.mem_cons_of_mem _ m),(List.nodup_cons.mp L.2.1).2,L.2.2.imp (λh=>⟨h.1,λj e=>(List.mem_cons.mp (h.2 j e)).elim (λq=>absurd (q▸e) n) id⟩) λh=>⟨h.1,λj e m=>h.2 j e (List.mem_cons_of_mem _ m)⟩⟩
theorem Left.done {pl:List Nat} {hit:Option Nat} (L:Left r pl [] hit):hit=r:=L.2.2.elim (λh=>h.1.trans (by cases r with | none=>rfl | some i=>cases h.2 i rfl)) (·.1)
theorem walk_plain (S:Seek k A E s D es x hx f r) (q:Q r s):wpAny (model prog k.w) A (dictWalkPlain D x hx es (placesWithHash es.size (λi=>es[i]?.map (·.hash)) hx)) Q E s:=by
  obtain ⟨n,hD⟩:=S.at_
  unfold dictWalkPlain
  refine wpAny_bind (wpAny_forIn_list _ (λrest b s'=>s'=s/\b=(none,())/\(∀ i∈rest,∃ e,es[i]?=some e)/\∀ i,r=some i->i∈rest) _ ?_ ?_ _ _ ⟨rfl,rfl,λi m=>places_lt m,λi h=>S.place h⟩)
  · rintro i rest b s' ⟨rfl,rfl,hp,hr⟩
    obtain ⟨e,he⟩:=hp i List.mem_cons_self
    have next:f i=false->∀ j,r=some j->j∈rest:=λhf j hj=>(List.mem_cons.mp (hr j hj)).elim (λq=>by rw [q] at hj;rw [(S.is i).mp hj] at hf;cases hf) id
    have tail:=λj m=>hp j (List.mem_cons_of_mem i m)
    rw [he]
    refine wpAny_ite_split (λhh=>?_) λhh=>wpAny_pure ⟨rfl,rfl,tail,next (Bool.eq_false_iff.mpr λw=>hh (S.hash i e he w))⟩
    refine wpAny_bind (wpAny_dictEpoch hD rfl (wpAny_bind (S.eq i e he _ (wpAny_bind (wpAny_dictEpoch hD rfl (wp_f (by rw [bne_self_eq_false];exact Bool.false_ne_true) ?_))))))
    refine wpAny_ite_split (λhf=>?_) λhf=>wpAny_bind (wpAny_rule (wpAny_pure ⟨rfl,rfl,tail,next (Bool.eq_false_iff.mpr hf)⟩))
    rw [(S.is i).mpr hf] at q
    exact wpAny_bind (wpAny_rule (wpAny_pure (wpAny_pure q)))
  · rintro b s' ⟨rfl,rfl,_,hr⟩
    cases r with
    | none=>exact wpAny_pure q
    | some i=>cases hr i rfl
theorem tells_not {β:Type} {sto:List Value} {jp:Bool->Sem β} {Q:β->Shared->Prop} (h:∀ v∈x :: sto,∀ Q:Bool->Shared->Prop,Q true s->wpAny (model prog k.w) A (eqIsQuiet 8 v) Q E s) (q:wpAny (model prog k.w) A (jp false) Q E s) :
    wpAny (model prog k.w) A (if sto==[x] then pure false >>= jp else tableMayTell x sto >>= jp) Q E s:=by
  refine wpAny_ite_split (λ_=>wpAny_bind (wpAny_pure q)) λ_=>wpAny_bind ?_
  unfold tableMayTell
  refine wpAny_ite_split (λ_=>wpAny_pure q) λ_=>wpAny_bind (h x List.mem_cons_self _ (wpAny_bind ?_))
  refine wpAny_forIn_list _ (λrest r s'=>s'=s/\r=(none,())/\∀ v∈rest,v∈sto) _ ?_ ?_ _ _ ⟨rfl,rfl,λ_ m=>m⟩
  · rintro y rest r s' ⟨rfl,rfl,hr⟩
    exact wpAny_bind (h y (List.mem_cons_of_mem _ (hr y List.mem_cons_self)) _ (wpAny_pure ⟨rfl,rfl,λv m=>hr v (List.mem_cons_of_mem _ m)⟩))
  · rintro r s' ⟨rfl,rfl,_⟩
    exact wpAny_pure q
end
end
end
section
set_option backward.match.sparseCases true
open PySem PySem.W PyProof.Rows
theorem str_no {β:Type} {M:Model} {A:Around} {Q:β->Shared->Prop} {E:Value->Shared->Prop} {s:Shared} {x:Value} {F:Str->Tok->Sem β} {R:Sem β} (hs:∀ a t,x≠.str a t) (h:wpAny M A R Q E s) :
    wpAny M A (match x with | .str a t=>F a t | _=>R) Q E s:=by
  cases x with
  | str a t=>exact absurd rfl (hs a t)
  | _=>exact h
theorem ref_no {β:Type} {M:Model} {A:Around} {Q:β->Shared->Prop} {E:Value->Shared->Prop} {s:Shared} {x:Value} {c:Bool} {F R:Sem β} (hr:∀ a,x=.ref a->c=false) (h:wpAny M A R Q E s) :
    wpAny M A (match x with | .ref _=>if c=true then F else R | _=>R) Q E s:=by
  cases x with
  | ref a=>rw [hr a rfl];exact h
  | _=>exact h
section
variable {k:Kx} {A:Around} {g:Gh} {s:Shared} {u v:V} {y z:Value} {E:Value->Shared->Prop} {D:Addr} {es:Array DictEntry} {x:Value} {hx:Int} {f:Nat->Bool} {r:Option Nat} {Q:Option Nat->Shared->Prop}
theorem walk_all (S:Seek k A E s D es x hx f r) (hs:∀ a t,x≠.str a t) (hr:∀ a,x=.ref a->(es.any λe=>e.key==x&&e.hash != hx)=false)
    (h:∀ v∈x :: (placesWithHash es.size (λi=>es[i]?.map (·.hash)) hx).filterMap (λi=>es[i]?.map (·.key)),∀ Q:Bool->Shared->Prop,Q true s->wpAny (model prog k.w) A (eqIsQuiet 8 v) Q E s) (q:Q r s) :
    wpAny (model prog k.w) A (dictFind D x hx) Q E s:=by
  obtain ⟨n,hD⟩:=S.at_
  have pl:∀ i∈placesWithHash es.size (λi=>es[i]?.map (·.hash)) hx,∃ e,es[i]?=some e:=λi m=>places_lt m
  have L:Left r (placesWithHash es.size (λi=>es[i]?.map (·.hash)) hx) (placesWithHash es.size (λi=>es[i]?.map (·.hash)) hx) none:=⟨λ_ m=>m,List.nodup_range.filter _,.inl ⟨rfl,λi e=>S.place e⟩⟩
  refine wpAny_holding (wpAny_bind (wpAny_dictEntries hD rfl (str_no hs (wpAny_ite_split (λ_=>walk_plain S q) λ_=>ref_no hr ?_))))
  dsimp only
  generalize (placesWithHash es.size (λi=>es[i]?.map (·.hash)) hx).filterMap (λi=>es[i]?.map (·.key))=sto at h
  generalize placesWithHash es.size (λi=>es[i]?.map (·.hash)) hx=pls at pl L
  refine tells_not h (wp_f Bool.false_ne_true (wpAny_bind ?_))
  refine wpAny_forIn_list _ (λrest b s'=>s'=s/\∃ hit,b=(none,hit)/\Left r pls rest hit) _ ?_ ?_ _ _ ⟨rfl,none,rfl,L⟩
  · rintro i rest b s' ⟨rfl,hit,rfl,L⟩
    obtain ⟨e,he⟩:=pl i (L.1 i List.mem_cons_self)
    have next:f i=false->wpAny (model prog k.w) A (pure (ForInStep.yield (none,hit))) (λr' s''=>match r' with | .yield b'=>s''=s'/\∃ hit,b'=(none,hit)/\Left r pls rest hit | .done b'=>Q (b'.1.elim b'.2 id) s'') E s':=
      λhf=>wpAny_pure ⟨rfl,hit,rfl,L.next λw=>by rw [(S.is i).mp w] at hf;cases hf⟩
    rw [he]
    refine wpAny_ite_split (λhh=>?_) λhh=>wpAny_pure ⟨rfl,hit,rfl,L.next λw=>hh (S.hash i e he ((S.is i).mp w))⟩
    refine wpAny_bind (wpAny_dictEpoch hD rfl (wpAny_bind (S.eq i e he _ (wpAny_bind (wpAny_dictEpoch hD rfl (wp_f (by rw [bne_self_eq_false];exact Bool.false_ne_true) ?_))))))
    refine wpAny_ite_split (λhf=>?_) λhf=>wpAny_bind (wpAny_rule (wpAny_pure ⟨rfl,hit,rfl,L.next λw=>hf ((S.is i).mp w)⟩))
    have hr:=(S.is i).mpr hf
    obtain ⟨p1,p2,⟨rfl,p3⟩ | ⟨_,p3⟩⟩:=L
    · refine wp_f Bool.false_ne_true (wpAny_bind (wpAny_rule (wpAny_ite_split (λ_=>?_) λ_=>?_)))
      · rw [hr] at q
        exact wpAny_pure (wpAny_pure q)
      · have n:=List.nodup_cons.mp p2
        exact wpAny_pure ⟨rfl,some i,rfl,λj m=>p1 j (List.mem_cons_of_mem _ m),n.2,.inr ⟨hr.symm,λj e=>by cases hr.symm.trans e;exact n.1⟩⟩
    · exact absurd List.mem_cons_self (p3 i hr)
  · rintro b s' ⟨rfl,hit,rfl,L⟩
    rw [←L.done] at q
    exact wpAny_pure q
end
end
section
set_option backward.match.sparseCases true
open PySem PySem.W PyProof.Rows
noncomputable def hitAt (ks:List V) (u:V) (i:Nat):Bool:=ks[i]?.elim false λk=>decide (k=u)
theorem hit_at {ks:List V} {u v:V} {i:Nat} (h:ks[i]?=some v):hitAt ks u i=decide (v=u):=congrArg (Option.elim · false _) h
theorem hit_iff {ks:List V} {u:V} {i:Nat}:hitAt ks u i=true↔ks[i]?=some u:=
  ⟨λh=>let ⟨v,e,q⟩:=elim_at h;e.trans (congrArg some (of_decide_eq_true q)),λe=>(hit_at e).trans (decide_eq_true rfl)⟩
theorem find_iff {ks:List V} {u:V} (hn:ks.Nodup) {i:Nat}:findV u ks=some i↔ks[i]?=some u:=by
  unfold findV
  refine List.findIdx?_eq_some_iff_getElem.trans ⟨λ⟨hl,h,_⟩=>List.getElem?_eq_some_iff.mpr ⟨hl,of_decide_eq_true h⟩,λh=>?_⟩
  obtain ⟨hl,e⟩:=List.getElem?_eq_some_iff.mp h
  refine ⟨hl,decide_eq_true e,λj hj q=>?_⟩
  exact absurd ((List.getElem?_inj hl hn).mp (h.trans (List.getElem?_eq_some_iff.mpr ⟨Nat.lt_trans hj hl,of_decide_eq_true q⟩).symm)) (Nat.ne_of_gt hj)
theorem find_none {ks:List V} {u:V} (h:findV u ks=none):u∉ks:=λm=>of_decide_eq_false ((List.findIdx?_eq_none_iff.mp h) u m) rfl
theorem of_toArray {es:List DictEntry} {i:Nat} {e:DictEntry} (h:es.toArray[i]?=some e):es[i]?=some e:=(List.getElem?_toArray ..).symm.trans h
theorem Heap.size_upd {h:Heap} {a:Addr} {f:Obj->Obj}:(h.update a f).objs.size=h.objs.size:=(Heap.SameBut.update ..).1
section
variable {k:Kx} {A:Around} {g:Gh} {s:Shared} {u v:V} {y z:Value} {E:Value->Shared->Prop} {D:Addr} {ks vs:List V} {es:List DictEntry} {n:Nat} {Q:Option Nat->Shared->Prop}
theorem key_at (hk:DKeys ks) (re:RelEs k.w.params g s.heap ks vs es) {i:Nat} {e:DictEntry} (he:es.toArray[i]?=some e):∃ j,ks[i]?=some j/\RelV k.w.params g s.heap j e.key/\keyOk j=true/\e.hash=hashV k.w.params j:=
by
  obtain ⟨j,_,h1,_,h2,_,h3⟩:=re.at (of_toArray he)
  exact ⟨j,h1,h2,hk.2 j (List.mem_of_getElem? h1),h3⟩
theorem seek_of (hu:A.units<=8000) (hD:s.heap.get? D=some (dctO es n)) (hk:DKeys ks) (re:RelEs k.w.params g s.heap ks vs es) (r:RelV k.w.params g s.heap u y) (hm:keyOk u=true) :
    Seek k A E s D es.toArray y (hashV k.w.params u) (hitAt ks u) (findV u ks) where
  at_:=⟨n,hD⟩
  eq i e he Q q:=let ⟨j,h1,h2,h3,_⟩:=key_at hk re he;eq_key hu h2 r h3 hm (hit_at h1▸q)
  hash i e he h:=let ⟨j,h1,_,_,h4⟩:=key_at hk re he;beq_iff_eq.mpr (h4.trans (congrArg _ (Option.some.inj (h1.symm.trans (hit_iff.mp h)))))
  is i:=(find_iff hk.1).trans hit_iff.symm
  lt i h:=by
    rw [List.size_toArray,re.len]
    exact (List.getElem?_eq_some_iff.mp ((find_iff hk.1).mp h)).1
theorem str_key {e:Value} {t:Str} (r:RelV k.w.params g s.heap v e) (h:isStrV v=true):isExactStrKey e=true/\e.isStr t=decide (v=.str t):=by
  cases v with
  | str w=>exact r.isStr rfl λ_=>⟨rfl,Bool.eq_iff_iff.mpr (beq_iff_eq.trans ⟨λh=>decide_eq_true (congrArg V.str h),λh=>V.str.inj (of_decide_eq_true h)⟩)⟩
  | _=>nomatch h
theorem find_strs {t:Str}:∀ {ks:List V} {es:List DictEntry},es.length=ks.length->(∀ (i:Nat) k e,ks[i]?=some k->es[i]?=some e->e.key.isStr t=decide (k=.str t))->(es.findIdx? λe=>e.key.isStr t)=findV (.str t) ks
  | [],[],_,_=>rfl
  | [],_ :: _,h,_=>nomatch h
  | _ :: _,[],h,_=>nomatch h
  | j :: ks,e :: es,h,r=>by
    unfold findV
    rw [List.findIdx?_cons,List.findIdx?_cons,r 0 j e rfl rfl,find_strs (Nat.succ.inj h) λi=>r (i+1)];rfl
theorem walk_key (hu:A.units<=8000) (hD:s.heap.get? D=some (dctO es n)) (hk:DKeys ks) (re:RelEs k.w.params g s.heap ks vs es) (r:RelV k.w.params g s.heap u y) (ku:keyOk u=true) (hs:∀ a t,y≠.str a t) (q:Q (findV u ks) s) :
    wpAny (model prog k.w) A (dictFind D y (hashV k.w.params u)) Q E s:=by
  refine walk_all (seek_of (E:=E) hu hD hk re r ku) hs (λ_ _=>Bool.eq_false_iff.mpr λh=>?_) (λv m Q q=>(List.mem_cons.mp m).elim (λh=>quiet_all (n:=8) ku 8 (Nat.le_refl _) _ (h▸r) q) λm=>?_) q
  · rw [←Array.any_toList,List.any_eq_true] at h
    obtain ⟨e,he,h⟩:=h
    obtain ⟨i,hi⟩:=List.mem_iff_getElem?.mp he
    obtain ⟨j,_,h2,h3,h4⟩:=key_at hk re ((List.getElem?_toArray ..).trans hi)
    obtain ⟨c1,c2⟩:=Bool.and_eq_true_iff.mp h
    exact bne_iff_ne.mp c2 (h4.trans (congrArg _ (key_uniq h3 ku h2 (eq_of_beq c1▸r))))
  · obtain ⟨i,_,hi⟩:=List.mem_filterMap.mp m
    obtain ⟨e,he,w⟩:=Option.map_eq_some_iff.mp hi
    obtain ⟨j,_,h1,h2,_⟩:=key_at hk re he
    exact quiet_all (n:=8) h2 8 (Nat.le_refl _) _ (w▸h1) q
theorem find_str {t:Str} {tk:Tok} (hu:A.units<=8000) (hD:s.heap.get? D=some (dctO es n)) (hk:DKeys ks) (re:RelEs k.w.params g s.heap ks vs es) (ku:keyOk (.str t)=true) (mx:∀ v∈ks,isStrV v=true) (q:Q (findV (.str t) ks) s) :
    wpAny (model prog k.w) A (foundByValue D (.str t tk) es.toArray t) Q E s:=by
  have S:=seek_of (E:=E) hu hD hk re (.str t tk) ku
  unfold foundByValue
  rw [List.findIdx?_toArray,find_strs re.len λi j e h1 h2=>(str_key (re.keys i j e h1 h2) (mx j (List.mem_of_getElem? h1))).2]
  cases hf:findV (.str t) ks with
  | none=>rw [hf] at q;exact wpAny_pure q
  | some i=>
    obtain ⟨e,he⟩:=re.ent ((find_iff hk.1).mp hf)
    have he:es.toArray[i]?=some e:=(List.getElem?_toArray ..).trans he
    rw [hf] at q S
    dsimp only
    rw [he]
    exact wpAny_bind (wpAny_dictEpoch hD rfl (wpAny_bind (S.eq i e he _ (wpAny_bind (wpAny_dictEpoch hD rfl (wp_f (by rw [bne_self_eq_false];exact Bool.false_ne_true)
      (wp_t ((S.is i).mp rfl) (wpAny_bind (wpAny_rule (wpAny_pure q))))))))))
inductive KeyIs:V->Prop
  | none:KeyIs .none
  | int (i:Int):KeyIs (.int i)
  | str (t:Str):KeyIs (.str t)
  | tup (us:List V):KeyIs (.tup us)
theorem key_is (h:keyOk u=true):KeyIs u:=key_ind (C:=λ_ u=>KeyIs u) (λ_=>.none) (λ_=>.int) (λ_=>.str) (λ_ us _=>.tup us) h
theorem find_key (hu:A.units<=8000) (hD:s.heap.get? D=some (dctO es n)) (hk:DKeys ks) (re:RelEs k.w.params g s.heap ks vs es) (r:RelV k.w.params g s.heap u y) (hm:mixOk u ks=true) (q:Q (findV u ks) s) :
    wpAny (model prog k.w) A (dictFind D y (hashV k.w.params u)) Q E s:=by
  obtain ⟨ku,mx⟩:=Bool.and_eq_true_iff.mp hm
  cases key_is ku with
  | str t=>
    have mx:∀ v∈ks,isStrV v=true:=List.all_eq_true.mp mx
    refine r.isStr rfl λtk=>wpAny_holding (wpAny_bind (wpAny_dictEntries hD rfl (wp_t ?_ (find_str hu hD hk re ku mx q))))
    rw [←Array.all_toList,List.all_eq_true]
    intro e he
    obtain ⟨i,hi⟩:=List.mem_iff_getElem?.mp he
    obtain ⟨j,h1,h2,_⟩:=key_at hk re ((List.getElem?_toArray ..).trans hi)
    exact (str_key (t:=t) h2 (mx j (List.mem_of_getElem? h1))).1
  | none=>exact walk_key hu hD hk re r ku (r.isNone rfl λ_ _ e=>(nomatch e)) q
  | int i=>exact walk_key hu hD hk re r ku (r.isInt rfl λ_ _ _ e=>(nomatch e)) q
  | tup us=>exact walk_key hu hD hk re r ku (r.isTup rfl λ_ _ _ _ _ _ _ e=>(nomatch e)) q
end
section
variable {k:Kx} {c:Cx k} {x:At c} {A:Around} {g:Gh} {s:Shared} {u v:V} {y z:Value} {E:Value->Shared->Prop} {D:Addr} {ks vs:List V} {es:List DictEntry} {n:Nat} {o:Option Nat}
theorem RelV.dic (r:x.is v y) {p:List V×List V} (e:dictOf x.μ v=some p) {C:Value->Prop} (kn:∀ a,DctAt k.w.params x.g x.s.heap p.1 p.2 a->(a==sysModules)=false->C (.ref a)):C y:=by
  cases v with
  | dct=>cases e;exact r.isDct rfl λa m l=>kn a l (x.st.hp.low a (.inl m))
  | ref i=>exact r.isRef rfl λq hq=>kn _ (x.dctA hq e).2 (x.st.hp.low _ (.inr (mem_feet hq (.inl rfl))))
  | _=>cases e
theorem look_at (e:lookD u ks=some o):mixOk u ks=true/\findV u ks=o:=by
  unfold lookD at e
  split at e
  · exact ⟨‹_›,Option.some.inj e⟩
  · cases e
theorem get_key (hu:A.units<=8000) {Q:Option Value->Shared->Prop} (H:DctAt k.w.params g s.heap ks vs D) (r:RelV k.w.params g s.heap u y) (hm:lookD u ks=some o)
    (q:∀ tk y,(∀ i,o=some i->∃ v z,vs[i]?=some v/\y=some z/\RelV k.w.params g s.heap v z)->(o=none->y=none)->Q y { s with toks:=tk }):wpAny (model prog k.w) A (dictGet D y) Q E s:=by
  obtain ⟨es,n,hD,hk,re⟩:=H
  obtain ⟨hx,rfl⟩:=look_at hm
  refine wpAny_holding (wpAny_bind (hash_key hu r (Bool.and_eq_true_iff.mp hx).1 λtk=>wpAny_bind (find_key (s:={ s with toks:=tk }) hu hD hk re r hx ?_)))
  cases hf:findV u ks with
  | none=>exact wpAny_pure (q tk none (λi e=>by rw [hf] at e;cases e) λ_=>rfl)
  | some i=>
    obtain ⟨e,he⟩:=re.ent ((find_iff hk.1).mp hf)
    obtain ⟨_,v,_,h2,_,h4,_⟩:=re.at he
    refine wpAny_bind (wpAny_dictEntries (s:={ s with toks:=tk }) hD rfl (wpAny_pure (q tk _ (λj e'=>?_) λe=>by rw [hf] at e;cases e)))
    cases hf.symm.trans e'
    exact ⟨v,e.val,h2,congrArg (Option.map _) ((List.getElem?_toArray ..).trans he),h4⟩
theorem DctAt.typ (H:DctAt k.w.params g s.heap ks vs D):s.TypeIs (.ref D) "dict":=let ⟨_,_,h,_,_⟩:=H;⟨_,h,rfl⟩
theorem dict_has (hu:A.units+1<=8000) (H:DctAt k.w.params g s.heap ks vs D) (lo:(D==sysModules)=false) (r:RelV k.w.params g s.heap u y) (hm:lookD u ks=some o) {Q:Bool->Shared->Prop} (q:∀ tk,Q o.isSome { s with toks:=tk }):wpAny (model prog k.w) A (contains (.ref D) y) Q E s:=by
  unfold contains
  refine wpAny_holding ?_
  rw [show stdlibNamesSay? (.ref D) y=none by unfold stdlibNamesSay?;rfl]
  refine wpAny_bind (wpAny_specialOf H.typ slot_dict_contains.lookup (wp_f (by rw [beq_builtin_none];exact Bool.false_ne_true) ?_))
  refine wpAny_bind (wpAny_callSpecialUnlessNone?_slot (name:=Str.ofString "__contains__") H.typ slot_dict_contains
    (wpAny_call_entry slot_dict_contains H.typ entry_dict_contains (show wpAny _ _ (dictGet D y >>= _) _ _ s from wpAny_bind (get_key (A:=A.in1) hu H r hm λtk y h1 h2=>?_)) (args_dict_contains _ _)))
  cases o with
  | none=>cases h2 rfl;exact wpAny_bind (wpAny_pendingKey_other lo (wpAny_pure ⟨_,rfl,wpAny_truthy_bool (q tk)⟩))
  | some i=>
    obtain ⟨_,_,_,rfl,_⟩:=h1 i rfl
    exact wpAny_pure ⟨_,rfl,wpAny_truthy_bool (q tk)⟩
theorem dict_item (hu:A.units+1<=8000) {i:Nat} {Q:Value->Shared->Prop} (H:DctAt k.w.params g s.heap ks vs D) (r:RelV k.w.params g s.heap u y) (hm:lookD u ks=some (some i))
    (q:∀ tk v z,vs[i]?=some v->RelV k.w.params g s.heap v z->Q z { s with toks:=tk }):wpAny (model prog k.w) A (getItem (.ref D) y) Q E s:=by
  unfold getItem
  refine wpAny_holding (wpAny_bind (wpAny_sequenceKey H.typ (by decide) (wpAny_bind (wpAny_callSpecial?_slot (name:=Str.ofString "__getitem__") H.typ slot_dict_getitem
    (wpAny_call_entry slot_dict_getitem H.typ entry_dict_getitem (show wpAny _ _ (dictGet D y >>= _) _ _ s from wpAny_bind (get_key (A:=A.in1) hu H r hm λtk z h1 _=>?_)) (args_dict_getitem _ _))))))
  obtain ⟨v,z,h2,rfl,h3⟩:=h1 i rfl
  exact wpAny_pure ⟨z,rfl,wpAny_pure (q tk v z h2 h3)⟩
inductive Put (u v:V) (ks vs:List V):List V->List V->Prop
  | old (i:Nat):findV u ks=some i->Put u v ks vs ks (vs.set i v)
  | new:findV u ks=none->Put u v ks vs (ks++[u]) (vs++[v])
theorem put_at {p:List V×List V} (e:putD u v ks vs=some p):mixOk u ks=true/\Put u v ks vs p.1 p.2:=by
  obtain ⟨o,ho,rfl⟩:=Option.map_eq_some_iff.mp e
  obtain ⟨hm,h⟩:=look_at ho
  refine ⟨hm,?_⟩
  cases o with
  | none=>exact .new h
  | some i=>exact .old i h
theorem dkeys_push (a:DKeys ks) (hk:keyOk u=true) (n:findV u ks=none):DKeys (ks++[u]):=
  ⟨List.nodup_append.mpr ⟨a.1,List.nodup_cons.mpr ⟨List.not_mem_nil,List.nodup_nil⟩,λx hx y hy e=>find_none n (List.mem_singleton.mp hy▸e▸hx)⟩,
    λj m=>(List.mem_append.mp m).elim (a.2 j) λm=>List.mem_singleton.mp m▸hk⟩
theorem get_modify {α:Type} {l:List α} {f:α->α} {i j:Nat} {e:α} (h:(l.modify i f)[j]?=some e):∃ e',l[j]?=some e'/\e=if i=j then f e' else e':=by
  rw [List.getElem?_modify] at h
  obtain ⟨e',h1,h2⟩:=Option.map_eq_some_iff.mp h
  exact ⟨e',h1,h2.symm.trans (by split <;> rfl)⟩
variable {P:Params} {h:Heap} {e:DictEntry}
theorem RelEs.put (r:RelEs P g h ks vs es) (i:Nat) (rv:RelV P g h v z):RelEs P g h ks (vs.set i v) (es.modify i λe=>{ e with val:=z }) where
  len:=(List.length_modify ..).trans r.len
  len2:=List.length_set.trans r.len2
  keys j k e a b:=let ⟨e',h1,h2⟩:=get_modify b;by rw [h2];split <;> exact r.keys j k e' a h1
  hash j k e a b:=let ⟨e',h1,h2⟩:=get_modify b;by rw [h2];split <;> exact r.hash j k e' a h1
  vals j u e a b:=by
    obtain ⟨e',h1,rfl⟩:=get_modify b
    rw [List.getElem?_set] at a
    split
    · rw [if_pos ‹_›] at a
      split at a
      · cases a;exact rv
      · cases a
    · rw [if_neg ‹_›] at a;exact r.vals j u e' a h1
theorem get_snoc {α β:Type} {l:List α} {m:List β} (hl:l.length=m.length) {R:α->β->Prop} (r:∀ (i:Nat) x y,l[i]?=some x->m[i]?=some y->R x y) {a:α} {b:β} (q:R a b) (i:Nat) {x:α} {y:β} (h1:(l++[a])[i]?=some x) (h2:(m++[b])[i]?=some y):R x y:=
  ((All2.of hl.symm r).snoc q).at h1 h2
theorem RelEs.push (r:RelEs P g h ks vs es) (ru:RelV P g h u e.key) (rv:RelV P g h v e.val) (hh:e.hash=hashV P u):RelEs P g h (ks++[u]) (vs++[v]) (es++[e]) where
  len:=by rw [List.length_append,List.length_append,r.len];rfl
  len2:=by rw [List.length_append,List.length_append,r.len2];rfl
  keys i _ _:=get_snoc r.len.symm r.keys ru i
  vals i _ _:=get_snoc (r.len2.trans r.len.symm) r.vals rv i
  hash i _ _:=get_snoc (R:=λk e=>DictEntry.hash e=hashV P k) r.len.symm r.hash hh i
theorem set_key (hu:A.units<=8000) {p:List V×List V} {Q:Unit->Shared->Prop} (nφ:D∉g.φ) (H:DctAt k.w.params g s.heap ks vs D) (r:RelV k.w.params g s.heap u y) (rv:RelV k.w.params g s.heap v z) (e:putD u v ks vs=some p) (hl:p.1.length<=big)
    (q:∀ h' tk,DctAt k.w.params g h' p.1 p.2 D->Heap.SameBut D s.heap h'->Q () { s with heap:=h',toks:=tk }):wpAny (model prog k.w) A (dictSet D y z) Q E s:=by
  obtain ⟨hm,pu⟩:=put_at e
  obtain ⟨es,n,hD,hk,re⟩:=H
  have ku:=(Bool.and_eq_true_iff.mp hm).1
  have M:∀ g',Heap.SameBut D s.heap g'->Stays g g s.heap g':=λg' hs=>⟨λ_ _ e=>e,λ_ m=>m,λa m o e=>(hs.2 a λz=>nφ (z▸m)).trans e⟩
  refine wpAny_holding (wpAny_bind (hash_key hu r ku λtk=>wpAny_holding (wpAny_bind (find_key (s:={ s with toks:=tk }) hu hD hk re r hm ?_))))
  obtain ⟨ks',vs'⟩:=p
  cases pu with
  | old i hi=>
    rw [hi]
    have hs:=Heap.SameBut.update s.heap D (Obj.mapDict λa=>a.modify i λe=>{ e with val:=z })
    refine wpAny_bind (wpAny_rule (wpAny_bind (wpAny_updateDict (s:={ s with toks:=tk }) hD rfl (wpAny_point (q _ tk ⟨es.modify i λe=>{ e with val:=z },n,?_,hk,(re.mono (M _ hs)).put i (rv.mono (M _ hs))⟩ hs)) (by simp))))
    rw [Heap.get?_update_self _ hD rfl];exact congrArg (λa=>some ({ cls:=.type "dict",data:=.dict a n }:Obj)) (by simp)
  | new hi=>
    rw [hi]
    have hs:=Heap.SameBut.update s.heap D (Obj.mapDictKeys λa=>a.push ⟨hashV k.w.params u,y,z⟩)
    refine wpAny_bind (wpAny_rule (wpAny_updateDictKeys (s:={ s with toks:=tk }) hD rfl (q _ tk ⟨es++[⟨hashV k.w.params u,y,z⟩],n+1,?_,dkeys_push hk ku hi,(re.mono (M _ hs)).push (r.mono (M _ hs)) (rv.mono (M _ hs)) rfl⟩ hs) ?_ (by simp)))
    · rw [Heap.get?_update_self _ hD rfl];exact congrArg (λa=>some ({ cls:=.type "dict",data:=.dict a (n+1) }:Obj)) (by simp)
    · rw [List.size_toArray,re.len]
      exact Nat.le_trans (Nat.le_trans (Nat.le_add_right _ 1) (Nat.le_of_eq (List.length_append (as:=ks) (bs:=[u])).symm)) (Nat.le_trans hl (Nat.le_of_eq sizeLine_eq.symm))
end
end
section
open PySem PySem.W PyProof.Rows
section
variable {k:Kx} {c:Cx k} {x y:At c} {Z:List Addr} {α X:Type} {R:At c->α->X->Prop} {S:X->Shared->Prop} {Q:Value->Shared->Prop} {E:Value->Shared->Prop} {a b v:V} {u u':Value} {vs ks:List V} {xs:List Value} {h:Heap} {tk:Nat} {i:Int} {thaw:Bool} {es:List DictEntry} {n:Nat} {ob:Obj}
theorem RelV.base (x:At c) (r:RelV k.w.params ⟨[],[334]⟩ k.B v u):x.is v u:=
  r.mono ⟨λi p e=>(nomatch (show ([]:List Slot)[i]?=some p from e)),λa (m:a∈[334])=>List.mem_singleton.mp m▸x.st.hp.flags,λa _ o e=>x.st.hp.stays a o e⟩
theorem isGlob_at {sc:Scope} {n:Str} (h:isGlob sc n=true):sc.names.lookup n=some .globalImplicit:=eq_of_beq h
theorem isVar_at {sc:Scope} {n:Str} (h:isVar sc n=true):sc.names.lookup n=some .local∨sc.names.lookup n=some .cell∨sc.names.lookup n=some .free:=by
  unfold isVar isOwn at h
  rcases Bool.or_eq_true_iff.mp h with h | h
  · rcases Bool.or_eq_true_iff.mp h with h | h
    · exact .inl (eq_of_beq h)
    · exact .inr (.inl (eq_of_beq h))
  · exact .inr (.inr (eq_of_beq h))
theorem isCell_of {sc:Scope} {n:Str} (h:sc.names.lookup n=some .cell∨sc.names.lookup n=some .free):isCellName sc n=true:=by
  unfold isCellName
  rcases h with h | h
  · rw [h];rfl
  · rw [h];rfl
theorem var_load {n:Str} {i:Nat} {A:Around} {S:Value->Shared->Prop} (hv:isVar c.sc n=true) (hi:slotOf c.sc n=some i) (hr:x.ρ[i]?=some (some v)) (q:∀ u,x.is v u->S u x.s):wpAny (model prog k.w) A (loadName c.env n) S E x.s:=by
  have F:=x.st.fr
  rcases isVar_at hv with hl | hl
  · obtain ⟨m,hm,r⟩:=F.loc
    obtain ⟨y,hy,ry⟩:=r n i v hl hi hr
    exact wpAny_loadName_local F.eok.kind (F.eok.own n _ hl (by decide)) hm hy (q y ry)
  · obtain ⟨a,vo,hc,hcell,r⟩:=F.cel n i (isCell_of hl) hi
    obtain ⟨y,rfl,ry⟩:=r v hr
    have go:c.env.kindOf n=some .cell->wpAny (model prog k.w) A (loadName c.env n) S E x.s:=λh=>wpAny_loadName_cell F.eok.kind h hc hcell (q y ry)
    rcases hl with hl | hl
    · exact go (F.eok.own n _ hl (by decide))
    · exact (F.eok.free n hl).elim (λhk=>wpAny_loadName_free F.eok.kind hk hc hcell (q y ry) (Bool.eq_false_iff.mpr λhb=>by rw [eq_of_beq hb,F.eok.cld] at hl;cases hl)) go
theorem glob_load {n:Str} {A:Around} {S:Value->Shared->Prop} (hg:isGlob c.sc n=true) (hr:gtab n=some v) (q:∀ u,x.is v u->S u x.s):wpAny (model prog k.w) A (loadName c.env n) S E x.s:=by
  obtain ⟨mg,mb,hmg,hmb,hn⟩:=k.base.names
  obtain ⟨y,hy,ry⟩:=hn n v hr
  have F:=x.st.fr
  have hk:=F.eok.own n _ (isGlob_at hg) (by decide)
  unfold loadName
  rw [hk,show c.env.blockKind=ScopeKind.function by unfold Env.blockKind;rw [F.eok.kind];rfl,F.eok.kind]
  refine wp_f Bool.false_ne_true ?_
  rcases hy with hy | ⟨h1,h2⟩
  · exact Calls.loadGlobal_global (F.eok.glo▸hmg.keeps x.st.hp.stays) hy (q y (ry.base x))
  · exact Calls.loadGlobal_builtin (F.eok.glo▸hmg.keeps x.st.hp.stays) h1 (F.eok.blt▸hmb.keeps x.st.hp.stays) h2 (q y (ry.base x))
theorem load_name {n:Str} {A:Around} {S:Value->Shared->Prop} (p:Post Z x RV (ldM c.sc n x.μ x.ρ) S E):wpAny (model prog k.w) A (loadName c.env n) S E x.s:=by
  unfold ldM at p
  cases hv:isVar c.sc n with
  | true=>
    rw [if_pos hv] at p
    cases hi:slotOf c.sc n with
    | none=>rw [hi] at p;exact p.elim
    | some i=>
      rw [hi] at p
      change Post Z x RV (match x.ρ[i]? with | some (some v)=>Res.ok v x.μ x.ρ | _=>.fail) S E at p
      revert p
      cases hr:x.ρ[i]? with
      | none=>exact λp=>p.elim
      | some o=>cases o with
        | none=>exact λp=>p.elim
        | some u=>exact λp=>var_load hv hi hr λu r=>p.now r
  | false=>
    rw [hv] at p
    exact p.gd λhg p=>p.rd λv hr p=>glob_load hg hr λu r=>p.now r
theorem Post.froz {as:List Addr} (p:Post Z x RV (.ok v x.μ x.ρ) Q E) (q:∀ b o,x.s.heap.get? b=some o->h.get? b=some o) (hs:x.s.heap.objs.size<=h.objs.size) (ge:∀ a∈as,x.s.heap.objs.size<=a) (here:∀ a∈as,∃ o,h.get? a=some o)
    (r:RelV k.w.params ⟨x.g.β,as++x.g.φ⟩ h v u):Q u (x.to h tk):=
  p ⟨⟨x.g.β,as++x.g.φ⟩,x.μ,x.ρ,x.to h tk,(x.st.grow q).promote (λa m=>x.st.new (ge a m)) here⟩ u
    { (After.grow (Z:=Z) (x:=x) (tk:=tk) q hs) with
      sub:=λa m=>List.mem_append_right _ m
      newφ:=λa m=>(List.mem_append.mp m).elim (λm=>.inr (ge a m)) .inl } rfl rfl r
theorem Post.born {o:O} {s:Slot} (p:Post Z x RV (.ok (.ref x.μ.length) (x.μ++[o]) x.ρ) Q E) (q:∀ b o,x.s.heap.get? b=some o->h.get? b=some o) (hs:x.s.heap.objs.size<=h.objs.size) (ge:∀ a∈feet [s],x.s.heap.objs.size<=a) (hn:(feet [s]).Nodup)
    (r:RelO k.w.params ⟨x.g.β++[s],x.g.φ⟩ h o s):Q (.ref s.1) (x.to h tk):=
  p ⟨⟨x.g.β++[s],x.g.φ⟩,_,x.ρ,x.to h tk,(x.st.grow q).adopt (λa m=>x.st.new (ge a m)) hn r⟩ (.ref s.1)
    { (After.grow (Z:=Z) (x:=x) (tk:=tk) q hs) with
      slots:=slots_old s
      newβ:=λa m=>(List.mem_append.mp (feet_append x.g.β [s]▸m)).elim .inl λm=>.inr (ge a m) } rfl rfl (.ref (x.st.hp.len▸slots_new _ _))
theorem one_in {a b:Addr} (m:a∈[b]):b<=a:=Nat.le_of_eq (List.mem_singleton.mp m).symm
theorem push_more (o:Obj) (h:Heap):∀ b ob,h.get? b=some ob->(h.push o).get? b=some ob:=λ_ _ e=>Heap.get?_push_of_some _ e
theorem push_size (o:Obj) (h:Heap):h.objs.size<=(h.push o).objs.size:=Nat.le_of_lt (by rw [Heap.size_push];exact Nat.lt_succ_self _)
theorem Stays.froz {g:Gh} {as:List Addr} {h h':Heap} (q:∀ b o,h.get? b=some o->h'.get? b=some o):Stays g ⟨g.β,as++g.φ⟩ h h':=⟨λ_ _ e=>e,λ_ m=>List.mem_append_right _ m,λ_ _ _ e=>q _ _ e⟩
theorem Stays.born {g:Gh} {s:Slot} {h h':Heap} (q:∀ b o,h.get? b=some o->h'.get? b=some o):Stays g ⟨g.β++[s],g.φ⟩ h h':=⟨slots_old s,λ_ m=>m,λ_ _ _ e=>q _ _ e⟩
theorem Post.frozAt {D:Addr} {o:Obj} (p:Post Z x RV (.ok v x.μ x.ρ) Q E) (q:∀ b o,x.s.heap.get? b=some o->h.get? b=some o) (hD:x.s.heap.objs.size<=D) (g:h.get? D=some o) (r:RelV k.w.params ⟨x.g.β,[D]++x.g.φ⟩ h v (.ref D)):Q (.ref D) (x.to h tk):=
  p.froz q (Nat.le_of_lt (Nat.lt_of_le_of_lt hD (Heap.lt_size g))) (λa m=>List.mem_singleton.mp m▸hD) (λa m=>List.mem_singleton.mp m▸⟨o,g⟩) r
theorem big_eq:big=sizeLine:=by decide
theorem Post.tup (p:Post Z x RV (tupM vs x.μ x.ρ) Q E) (r:x.are vs xs):xs.length<=sizeLine/\Q (.ref x.s.heap.objs.size) (x.to (x.s.heap.push (tupO xs)) tk):=
  p.gd λh p=>⟨Nat.le_trans (Nat.le_of_eq r.len) (Nat.le_trans (of_decide_eq_true h) (Nat.le_of_eq big_eq)),p.frozAt (push_more _ _) (Nat.le_refl _) (Heap.get?_push_size _ rfl) (.tup List.mem_cons_self (Heap.get?_push_size _ rfl) (r.mono (.froz (push_more _ _))))⟩
theorem Post.bornAt {D:Addr} {o:O} {ob:Obj} (p:Post Z x RV (allocM o x.μ x.ρ) Q E) (q:∀ b o,x.s.heap.get? b=some o->h.get? b=some o) (hD:x.s.heap.objs.size<=D) (g:h.get? D=some ob) (r:RelO k.w.params ⟨x.g.β++[(D,none)],x.g.φ⟩ h o (D,none)):Q (.ref D) (x.to h tk):=
  p.born (s:=(D,none)) q (Nat.le_of_lt (Nat.lt_of_le_of_lt hD (Heap.lt_size g))) (λa m=>List.mem_singleton.mp m▸hD) (List.nodup_cons.mpr ⟨List.not_mem_nil,List.nodup_nil⟩) r
theorem Post.listAt {D:Addr} (p:Post Z x RV (lstM thaw vs x.μ x.ρ) Q E) (q:∀ b o,x.s.heap.get? b=some o->h.get? b=some o) (hD:x.s.heap.objs.size<=D) (g:h.get? D=some (lstO xs n)) (r:x.are vs xs):Q (.ref D) (x.to h tk):=
  p.gd λ_ p=>match thaw,p with
    | false,p=>p.frozAt q hD g (.lst List.mem_cons_self ⟨xs,n,g,r.mono (.froz q)⟩)
    | true,p=>p.bornAt q hD g ⟨rfl,xs,n,g,r.mono (.born q)⟩
theorem Post.dictAt {D:Addr} (p:Post Z x RV (dctM thaw ks vs x.μ x.ρ) Q E) (q:∀ b o,x.s.heap.get? b=some o->h.get? b=some o) (hD:x.s.heap.objs.size<=D) (H:DctAt k.w.params x.g h ks vs D):Q (.ref D) (x.to h tk):=
  p.gd λ_ p=>let ⟨es,n,g,hk,r⟩:=H;match thaw,p with
    | false,p=>p.frozAt q hD g (.dct List.mem_cons_self ⟨es,n,g,hk,r.mono (.froz λ_ _ e=>e)⟩)
    | true,p=>p.bornAt q hD g ⟨rfl,es,n,g,hk,r.mono (.born λ_ _ e=>e)⟩
theorem Post.list (p:Post Z x RV (lstM thaw vs x.μ x.ρ) Q E) (r:x.are vs xs):xs.length<=sizeLine/\Q (.ref x.s.heap.objs.size) (x.to (x.s.heap.push (lstO xs 0)) tk):=
  ⟨p.gd λh p=>Nat.le_trans (Nat.le_of_eq r.len) (Nat.le_trans (of_decide_eq_true h) (Nat.le_of_eq big_eq)),p.listAt (push_more _ _) (Nat.le_refl _) (Heap.get?_push_size _ rfl) r⟩
theorem Post.dict (p:Post Z x RV (dctM thaw ks vs x.μ x.ρ) Q E) (hk:DKeys ks) (r:RelEs k.w.params x.g x.s.heap ks vs es):Q (.ref x.s.heap.objs.size) (x.to (x.s.heap.push (dctO es n)) tk):=
  p.dictAt (push_more _ _) (Nat.le_refl _) ⟨es,n,Heap.get?_push_size _ rfl,hk,r.mono (.more (push_more _ _))⟩
theorem Post.int {t:Tok} (p:Post Z x RV (.ok (.int i) x.μ x.ρ) Q E):Q (.int i t) { x.s with toks:=tk }:=p.tok tk (.int i t)
theorem and_t {a b:Bool} (h:(a&&b)=true):a=true/\b=true:=Bool.and_eq_true_iff.mp h
theorem fits_of {i:Int} (e:fits i=true):-9223372036854775808<=i/\i<9223372036854775808:=⟨of_decide_eq_true (and_t e).1,of_decide_eq_true (and_t e).2⟩
theorem fits_64 {i:Int} (e:fits i=true):Builtin.Int.intBits i<=64:=intBits_le_64 (Int.lt_of_lt_of_le (by decide) (fits_of e).1) (Int.lt_trans (fits_of e).2 (by decide))
theorem flatten {xs ys:List Value}:xs.toArray++ys.toArray=(xs++ys).toArray:=List.append_toArray ..
theorem op_add_tup {ws:List V} {ys:List Value} {l m:Addr} (hl:x.s.heap.get? l=some (tupO xs)) (hm:x.s.heap.get? m=some (tupO ys)) (ml:l∈x.g.φ) (mm:m∈x.g.φ) (r:x.are vs xs) (r':x.are ws ys) (p:Post Z x RV (tupM (vs++ws) x.μ x.ρ) Q E) :
    WP c (binaryOp .Add (.ref l) (.ref m)) Q E x.s:=by
  have w:=p.tup (tk:=x.s.toks) (r.append r')
  cases r with
  | nil=>
    exact concat_meets ⟨_,hl,rfl⟩ ⟨_,hm,rfl⟩ noFill_tuple_add seq_tuple_add PySem.F.slot_tuple_add PySem.F.entry_tuple_add (PySem.F.args_tuple_add_2 _ _)
      (tuple_addW0 _ _ _ _ 0 0 none none #[] #[] rfl) ⟨hl,hm,p.gd λ_ p=>p.now (.tup mm hm r')⟩
  | cons a r=>cases r' with
    | nil=>
      refine concat_meets ⟨_,hl,rfl⟩ ⟨_,hm,rfl⟩ noFill_tuple_add seq_tuple_add PySem.F.slot_tuple_add PySem.F.entry_tuple_add (PySem.F.args_tuple_add_2 _ _)
        (tuple_addW1 _ _ (List.toArray (_ :: _)) _ 0 0 none none #[] #[] Bool.false_ne_true rfl) ⟨hl,hm,p.gd λ_ p=>p.now (by rw [List.append_nil];exact .tup ml hl (.cons a r))⟩
    | cons b r'=>exact P.add_tuple hl hm (λh=>nomatch h) (λh=>nomatch h) (by rw [flatten];exact w.2) (Nat.le_trans (Nat.le_of_eq List.length_append.symm) w.1)
theorem op_add_lst {ws:List V} {l m:Addr} (hl:LstAt k.w.params x.g x.s.heap vs l) (hm:LstAt k.w.params x.g x.s.heap ws m) (p:Post Z x RV (lstM thaw (vs++ws) x.μ x.ρ) Q E) :
    WP c (binaryOp .Add (.ref l) (.ref m)) Q E x.s:=by
  obtain ⟨xs,n,hl,r⟩:=hl
  obtain ⟨ys,m,hm,r'⟩:=hm
  have w:=p.list (tk:=x.s.toks) (r.append r')
  exact P.add_list hl hm (by rw [flatten];exact w.2) (Nat.le_trans (Nat.le_of_eq List.length_append.symm) w.1)
@[elab_as_elim] theorem Post.lseqB {R:At c->α->X->Prop} {S:X->Shared->Prop} {m:List V->M α} (p:Post Z x R (bindM (lseqM v) m x.μ x.ρ) S E) (r:x.is v u) {C:Value->Prop} (kn:∀ vs l,LstAt k.w.params x.g x.s.heap vs l->Post Z x R (m vs x.μ x.ρ) S E->C (.ref l)):C u:=
  p.rdB λvs e p=>r.lseq e λl h=>kn vs l h p
theorem op_bin {op:Operator} (ra:x.is a u) (rb:x.is b u') (p:Post Z x RV (binM thaw op a b x.μ x.ρ) Q E):WP c (binaryOp op u u') Q E x.s:=by
  cases op with
  | Add=>
    refine p.alt (λi e p=>p.opt λj e' p=>ra.isInt e λt=>rb.isInt e' λt'=>PyProof.Rows.add_int p.int) λ_ p=>p.alt (λvs e p=>p.opt λws e' p=>?_) λ_ p=>?_
    · exact ra.isTup e λl xs ml hl r=>rb.isTup e' λm ys mm hm r'=>op_add_tup hl hm ml mm r r' p
    · exact p.lseqB ra λvs l hl p=>p.lseqB rb λws m hm p=>op_add_lst hl hm p
  | Sub=>exact p.int2 ra rb λi j t t' p=>PyProof.Rows.sub_int p.int
  | Mult=>exact p.int2 ra rb λi j t t' p=>p.gd λh p=>P.mul_int p.int (.of_left (fits_64 (and_t h).1))
  | Mod=>exact p.int2 ra rb λi j t t' p=>p.gd λh p=>have h:=of_decide_eq_true h;PyProof.Rows.mod_int (Int.ne_of_gt h) (by rw [Int.fmod_eq_emod_of_nonneg _ (Int.le_of_lt h)];exact p.int)
  | FloorDiv=>exact p.int2 ra rb λi j t t' p=>p.gd λh p=>have h1:=of_decide_eq_true (and_t h).1;have h2:=of_decide_eq_true (and_t h).2
      AutoIntOps.floordiv_1 (λe=>Int.ne_of_gt h1 (eq_of_beq e)) (by rw [PyProof.noPylong_small (by lia)];exact Bool.false_ne_true) (by rw [Int.fdiv_eq_ediv_of_nonneg _ (Int.le_of_lt h1)];exact p.int)
  | Pow=>
    exact p.int2 ra rb λi j t t' p=>p.gd λh p=>by
      simp only [Bool.and_eq_true,decide_eq_true_eq] at h
      exact pow_int_small h.1.1.1 (by lia) (by lia) p.int
  | RShift=>exact p.int2 ra rb λi j t t' p=>p.gd λh p=>rshift_int (of_decide_eq_true (and_t (and_t (and_t h).1).1).1) (by rw [Int.fdiv_eq_ediv_of_nonneg _ (Int.pow_nonneg (by decide))];exact p.int)
  | BitAnd=>
    exact p.int2 ra rb λi j t t' p=>p.gd λh p=>and_int (by
      unfold Builtin.bitAnd
      rw [(and_t (and_t (and_t h).1).1).1,(and_t (and_t (and_t h).1).1).2]
      exact p.int)
  | _=>exact p.elim
theorem op_un {op:UnaryOp} (ra:x.is a u) (p:Post Z x RV (unM op a x.μ x.ρ) Q E):WP c (unaryOp op u) Q E x.s:=by
  cases op with
  | USub=>exact p.opt λi e p=>ra.isInt e λt=>P.neg_int p.int
  | _=>exact p.elim
theorem Cx.u1 (c:Cx k):c.A.units+1<=8000:=Nat.le_trans (Nat.add_le_add_right (Nat.le_trans (Nat.le_add_right _ _) c.cfg.units) 1) (by decide)
theorem inV_in {r:Bool} (ra:x.is a u) (rb:x.is b u') (e:inV x.μ a b=some r) {C:Prop} (kd:∀ D,(∀ {S:Bool->Shared->Prop},(∀ tk,S r { x.s with toks:=tk })->WP c (contains (.ref D) u) S E x.s)->u'=.ref D->C)
    (ks:∀ vs,seqOf x.μ b=some vs->memV a vs=some r->C):C:=by
  unfold inV at e
  cases hd:dictOf x.μ b with
  | some p=>
    rw [hd] at e
    obtain ⟨o,ho,rfl⟩:=Option.map_eq_some_iff.mp e
    have z:=kd
    revert z
    exact rb.dic (C:=λu'=>(∀ D,(∀ {S:Bool->Shared->Prop},(∀ tk,S o.isSome { x.s with toks:=tk })->WP c (contains (.ref D) u) S E x.s)->u'=.ref D->C)->C) hd λD hD lo z=>z D (λq=>dict_has c.u1 hD lo ra ho q) rfl
  | none=>
    rw [hd] at e
    obtain ⟨vs,hs,e⟩:=Option.bind_eq_some_iff.mp e
    exact ks vs hs e
theorem op_cmp {op:CmpOp} (ra:x.is a u) (rb:x.is b u') (p:Post Z x RW (cmpM op a b x.μ x.ρ) Q E):WP c (compareOp op u u') Q E x.s:=by
  cases op with
  | Eq=>exact Post.rd (f:=λμ=>eqL μ a b) p λr h p=>op_eq ra rb h (p.now rfl)
  | NotEq=>
    exact Post.rd (f:=λμ=>(eqL μ a b).map (!·)) p λr h p=>by
      obtain ⟨r,h',rfl⟩:=Option.map_eq_some_iff.mp h
      exact op_ne ra rb h' (p.now rfl)
  | Lt=>exact p.int2 ra rb λi j t t' p=>P.lt_int (p.now rfl)
  | LtE=>exact p.int2 ra rb λi j t t' p=>P.le_int (p.now rfl)
  | Gt=>exact p.int2 ra rb λi j t t' p=>P.gt_int (p.now rfl)
  | GtE=>exact p.int2 ra rb λi j t t' p=>P.ge_int (p.now rfl)
  | Is=>
    exact p.gd λh p=>by
      refine rb.isNone h (is_none ?_)
      rw [none_of ra];exact p.now rfl
  | IsNot=>
    exact p.gd λh p=>by
      refine rb.isNone h (PyProof.Rows.isnot_none_gen ?_)
      rw [none_of ra];exact p.now rfl
  | In=>exact Post.rd (f:=λμ=>inV μ a b) p λr h p=>inV_in ra rb h (λD q e=>by rw [e];exact wpAny_bind (q λtk=>wpAny_pure (p.tok tk rfl))) λvs hs e=>op_in ra rb hs e (p.now rfl)
  | NotIn=>
    exact Post.rd (f:=λμ=>(inV μ a b).map (!·)) p λr h p=>by
      obtain ⟨r,h',rfl⟩:=Option.map_eq_some_iff.mp h
      exact inV_in ra rb h' (λD q e=>by rw [e];exact wpAny_bind (q λtk=>wpAny_pure (p.tok tk rfl))) λvs hs e=>op_notin ra rb hs e (p.now rfl)
theorem op_truth {S:Bool->Shared->Prop} (ra:x.is a u) (p:Post Z x RB (truthM a x.μ x.ρ) S E):WP c (truthy u) S E x.s:=by
  unfold truthM ofOpt at p
  refine p.rd λb h p=>?_
  refine ra.isBool h ?_
  exact wpAny_truthy_bool (p.now rfl)
end
end
section
open PySem PySem.W PyProof.Rows
inductive Idx (n:Nat) (i:Int):Nat->Prop
  | pos (h:0<=i):Idx n i i.toNat
  | neg (h:i<0) (h':-(n:Int)<=i):Idx n i (i+n).toNat
theorem item_idx {vs:List V} {i:Int} {v:V} (e:itemAt vs i=some v):∃ j,Idx vs.length i j/\vs[j]?=some v:=by
  unfold itemAt at e
  split at e
  · exact ⟨_,.pos ‹_›,e⟩
  · split at e
    · exact ⟨_,.neg (Int.not_le.mp ‹_›) (by lia),e⟩
    · cases e
theorem place_idx {vs:List V} {i:Int} {j:Nat} (e:placeAt vs i=some j):Idx vs.length i j/\j<vs.length:=by
  unfold placeAt at e
  split at e
  · split at e
    · cases e;exact ⟨.pos ‹_›,‹_›⟩
    · cases e
  · split at e
    · cases e;exact ⟨.neg (Int.not_le.mp ‹_›) (by lia),by lia⟩
    · cases e
theorem Idx.seq {n:Nat} {i:Int} {j:Nat} (h:Idx n i j) (l:j<n):seqIndex? i n=some j:=by
  unfold seqIndex?
  cases h with
  | pos h=>rw [if_neg (Int.not_lt.mpr h)];exact if_pos (by simp;lia)
  | neg h h'=>rw [if_pos h];exact if_pos (by simp;lia)
theorem if_at {α:Type} {b:Prop} [Decidable b] {o:Option α} {a:α} (h:(if b then o else none)=some a):b/\o=some a:=by
  split at h
  · exact ⟨‹_›,h⟩
  · cases h
section
variable {k:Kx} {c:Cx k} {x y:At c} {Z:List Addr} {α X:Type} {R:At c->α->X->Prop} {S:X->Shared->Prop} {Q:Value->Shared->Prop} {E:Value->Shared->Prop} {a b v:V} {u u':Value} {vs ks:List V} {xs:List Value} {h:Heap} {tk:Nat} {i:Int} {thaw:Bool} {es:List DictEntry} {n:Nat} {l:Addr}
theorem All2.toA {R:V->Value->Prop} (r:All2 R vs xs) {j:Nat} (e:vs[j]?=some v):∃ y,xs.toArray[j]?=some y/\R v y:=let ⟨y,h,r⟩:=r.get e;⟨y,(List.getElem?_toArray ..).trans h,r⟩
theorem size_len {R:V->Value->Prop} (r:All2 R vs xs):xs.toArray.size=vs.length:=List.size_toArray.trans r.len
theorem op_item (ra:x.is a u) (rb:x.is b u') (p:Post Z x RV (idxM a b x.μ x.ρ) Q E):WP c (getItem u u') Q E x.s:=by
  refine p.alt (λq e p=>?_) λ_ p=>p.opt λi hi p=>p.rdB λvs hs p=>p.gd λhf p=>?_
  · refine p.opt λo ho p=>p.opt λj hj p'=>?_
    unfold ofOpt at p'
    refine p'.rd λv hv p=>ra.isDct e λD m H=>dict_item c.u1 H rb (hj▸ho) λtk w z hw rz=>?_
    cases hv.symm.trans hw
    exact p.tok tk rz
  · unfold ofOpt at p
    refine p.rd λv hv p=>?_
    obtain ⟨j,hj,hv⟩:=item_idx hv
    have f:=fits_of hf
    refine rb.isInt hi λt=>?_
    cases ra.seq hs with
    | tup l xs g r=>
      obtain ⟨y,hy,ry⟩:=r.toA hv
      exact P.getItem_tuple g f.1 f.2 (by rw [size_len r];exact hj.seq (List.getElem?_eq_some_iff.mp hv).1) hy (p.now ry)
    | lst l H=>
      obtain ⟨xs,n,g,r⟩:=H
      obtain ⟨y,hy,ry⟩:=r.toA hv
      have L:=PySem.IsL.isList g
      have q:=p.now ry
      cases hj with
      | pos h=>exact wpAny_getItem_list L h f.2 hy q
      | neg h h'=>exact wpAny_getItem_list_neg L h (by rw [size_len r];exact h') f.1 (by rw [size_len r];exact hy) q
theorem adjust_to (b n:Nat) (hb:b<=n):Builtin.Slice.sliceAdjust none (some (b:Int)) 1 (n:Int)=(0,(b:Int)):=by
  unfold Builtin.Slice.sliceAdjust
  dsimp only
  rw [if_neg (by decide),if_neg (by decide),if_neg (Int.not_lt.mpr (Int.natCast_nonneg b))]
  exact congrArg (Prod.mk 0) (by lia)
theorem places_to (b:Nat):Builtin.Slice.slicePlaces 0 (b:Int) 1=b:=by
  unfold Builtin.Slice.slicePlaces
  rw [if_pos (by decide)]
  simp only [Int.ediv_one]
  split <;> lia
theorem sliceApplied_to {A:Around} {s:Shared} {sl:Addr} {b n:Nat} {t:Tok} {S:Int×Int×Nat->Shared->Prop} (hs:s.heap.IsSliceOf sl .none (.int b t) .none) (hb:b<=n) (h:S (0,1,b) s) :
    wpAny (model prog k.w) A (Builtin.Slice.sliceApplied (.ref sl) (pure (n:Int))) S E s:=by
  obtain ⟨os,hos,hcs,hds⟩:=hs
  unfold Builtin.Slice.sliceApplied Builtin.Slice.sliceFields
  refine wpAny_bind (wpAny_bind (wpAny_field hos hds (x:=.none) rfl (wpAny_bind (wpAny_field hos hds (x:=.int b t) rfl (wpAny_bind (wpAny_field hos hds (x:=.none) rfl (wpAny_pure ?_)))))))
  refine wpAny_bind (slicePart_none (wp_f (by decide) (wpAny_bind (slicePart_none (wpAny_bind (slicePart_int (wpAny_bind (wpAny_pure ?_))))))))
  refine wpAny_pure ?_
  show S ((Builtin.Slice.sliceAdjust none (some (b:Int)) 1 (n:Int)).1,(1:Int),Builtin.Slice.slicePlaces (Builtin.Slice.sliceAdjust none (some (b:Int)) 1 (n:Int)).1 (Builtin.Slice.sliceAdjust none (some (b:Int)) 1 (n:Int)).2 1) s
  rw [adjust_to b n hb,places_to b]
  exact h
theorem pick_to (xs:Array Value) (b:Nat):((List.range b).filterMap λ(k:Nat)=>xs[((0:Int)+(k:Int) * 1).toNat]?).toArray=(xs.toList.take b).toArray:=by
  have h:=pick_run xs 0 b
  rw [List.filterMap_map,List.drop_zero] at h
  rw [←h]
  refine congrArg (λf=>(List.filterMap f (List.range b)).toArray) (funext λk=>congrArg (xs[·]?) ?_)
  rw [Int.mul_one,Int.zero_add,Int.toNat_natCast];exact (Nat.zero_add k).symm
theorem getItem_tuple_to {A:Around} {s:Shared} {t sl:Addr} {items:Array Value} {b:Nat} {w:Tok} (ht:IsT s.heap t items 0) (hs:s.heap.IsSliceOf sl .none (.int b w) .none) (hb:b<=items.size)
    (h0:b=items.size->Q (.ref t) s) (h:Q (.ref s.heap.objs.size) { s with heap:=s.heap.push { cls:=.type "tuple",data:=.seq (items.toList.take b).toArray } })
    (hsz:items.size<=sizeLine):wpAny (model prog k.w) A (getItem (.ref t) (.ref sl)) Q E s:=by
  have hT:PyProof.Rows.IsTup s.heap t items:=⟨_,ht,rfl,0,rfl⟩
  have hTs:s.TypeIs (.ref sl) "slice":=let ⟨os,hos,hcs,_⟩:=hs;⟨os,hos,hcs⟩
  unfold getItem
  refine wpAny_holding (wpAny_bind (wpAny_sequenceKey hT.typeIs (by decide) (wpAny_bind (wpAny_callSpecial?_slot (name:=Str.ofString "__getitem__") hT.typeIs slot_tuple_getitem
    (wpAny_call_entry slot_tuple_getitem hT.typeIs entry_tuple_getitem (show wpAny _ _ (Builtin.Tuple.tupleItemsOf (.ref t) >>= _) _ _ s from ?_) (args_tuple_getitem _ _))))))
  refine wpAny_bind (tupleItemsOf_ hT (wpAny_bind (wpAny_typeOf hTs (wp_t (by decide) (wpAny_bind (sliceApplied_to hs hb (wpAny_ite_split (λe=>?_) λe=>?_)))))))
  · have hw:b=items.size:=eq_of_beq e
    unfold Builtin.Tuple.tupleIsExact
    exact wpAny_bind (wpAny_bind (wpAny_typeOf hT.typeIs (wpAny_pure (wp_t (by decide) (wpAny_bind (wpAny_rule (wpAny_bind (wpAny_pure (wpAny_pure ⟨_,rfl,wpAny_pure (h0 hw)⟩)))))))))
  · rw [pick_to items b]
    have hd:sizeOk (.seq (items.toList.take b).toArray):=Nat.le_trans (by rw [List.size_toArray,List.length_take,Array.length_toList];exact Nat.min_le_right _ _) hsz
    exact wpAny_bind (m:=Builtin.Tuple.tupleExact _) (wpAny_newObj_type (wpAny_pure ⟨_,rfl,wpAny_pure h⟩) hd)
theorem nat_of {i:Int} {t:Tok} (h:0<=i):Value.int i t=.int (i.toNat:Int) t:=by rw [Int.toNat_of_nonneg h]
theorem big_le {n:Nat} (h:decide (n<=big)=true):n<=sizeLine:=Nat.le_trans (of_decide_eq_true h) (Nat.le_of_eq big_eq)
theorem take_at (r:x.are vs xs) (i:Int):slicePick xs.toArray none (some i) none=(xs.take (cutAt vs.length i)).toArray:=by
  rw [kms_pick_eq]
  unfold kms_pick kms_lo kms_hi cutAt
  rw [r.len]
  refine congrArg List.toArray ?_
  dsimp only
  rw [List.drop_zero,Nat.sub_zero]
  refine congrArg (List.take · xs) ?_
  split <;> split <;> lia
theorem drop_at (r:x.are vs xs) (i:Int):slicePick xs.toArray (some i) none none=(xs.drop (cutAt vs.length i)).toArray:=by
  rw [kms_pick_eq]
  unfold kms_pick kms_lo kms_hi cutAt
  rw [r.len]
  refine congrArg List.toArray ?_
  dsimp only
  rw [List.take_of_length_le (by rw [List.length_drop,r.len];exact Nat.le_refl _)]
  refine congrArg (List.drop · xs) ?_
  split <;> split <;> lia
theorem op_sliceHi {sl:Addr} {vu:Value} (ra:x.is a u) (hs:x.s.heap.IsSliceOf sl .none vu .none) (rb:x.is b vu) (p:Post Z x RV (sliceHi thaw a b x.μ x.ρ) Q E):WP c (getItem u (.ref sl)) Q E x.s:=by
  refine p.opt λi hi p=>?_
  revert hs
  refine rb.isInt hi λt hs=>p.alt (λvs e p=>p.gd λh p=>?_) λ_ p=>p.lseqB ra λvs l H p=>p.gd λh p=>?_
  · obtain ⟨h,hl⟩:=and_t h
    have h0:0<=i:=of_decide_eq_true (and_t h).1
    have h1:i<=vs.length:=of_decide_eq_true (and_t h).2
    rw [nat_of h0] at hs
    refine ra.isTup e λl xs m g r=>?_
    refine getItem_tuple_to g hs (by rw [size_len r];exact Int.toNat_le.mpr h1) (λe=>?_) (p.tup (tk:=x.s.toks) (r.take i.toNat)).2 (by rw [size_len r];exact big_le hl)
    rw [List.take_of_length_le (Nat.le_of_eq ((size_len r).symm.trans e.symm))] at p
    exact p.gd λ_ p=>p.now (.tup m g r)
  · obtain ⟨xs,n,g,r⟩:=H
    exact wpAny_getItem_list_slice (PySem.IsL.isList g) hs .none (.int i t) .none (by decide) (by rw [take_at r];exact (p.list (tk:=x.s.toks) (r.take _)).2) (by rw [size_len r];exact big_le (and_t h).1)
theorem op_sliceLo {sl:Addr} {vl:Value} (ra:x.is a u) (hs:x.s.heap.IsSliceOf sl vl .none .none) (rb:x.is b vl) (p:Post Z x RV (sliceLo thaw a b x.μ x.ρ) Q E):WP c (getItem u (.ref sl)) Q E x.s:=by
  refine p.opt λi hi p=>?_
  revert hs
  refine rb.isInt hi λt hs=>p.alt (λvs e p=>p.gd λh p=>?_) λ_ p=>p.lseqB ra λvs l H p=>p.gd λh p=>?_
  · obtain ⟨h,hl⟩:=and_t h
    have h0:1<=i:=of_decide_eq_true (and_t h).1
    have h1:i<=vs.length:=of_decide_eq_true (and_t h).2
    rw [nat_of (Int.le_trans (by decide) h0)] at hs
    refine ra.isTup e λl xs m g r=>?_
    exact getItem_tuple_from ⟨_,g,rfl,_,rfl⟩ hs (by lia) (by rw [size_len r];exact Int.toNat_le.mpr h1) (p.tup (tk:=x.s.toks) (r.drop i.toNat)).2 (by rw [size_len r];exact big_le hl)
  · obtain ⟨xs,n,g,r⟩:=H
    exact wpAny_getItem_list_slice (PySem.IsL.isList g) hs (.int i t) .none .none (by decide) (by rw [drop_at r];exact (p.list (tk:=x.s.toks) (r.drop _)).2) (by rw [size_len r];exact big_le (and_t h).1)
theorem op_sliceBack {sl:Addr} {t:Tok} (ra:x.is a u) (hs:x.s.heap.IsSliceOf sl .none .none (.int (-1) t)) (p:Post Z x RV (sliceBack thaw a x.μ x.ρ) Q E):WP c (getItem u (.ref sl)) Q E x.s:=
  p.lseqB ra λvs l H p=>p.gd λh p=>by
    obtain ⟨xs,n,g,r⟩:=H
    exact wpAny_getItem_list_slice (PySem.IsL.isList g) hs .none .none (.int (-1) t) (by decide) (by rw [krv_pick];exact (p.list (tk:=x.s.toks) r.reverse).2) (by rw [size_len r];exact big_le h)
theorem At.one (x:At c) {i:Nat} {p:Slot} (hi:x.g.β[i]?=some p) {l:Addr} (hl:l∈feet [p]):l∉x.g.φ/\l∉frs c.fs/\k.B.get? l=none:=x.st.hp.off l (mem_feet hi (feet_mem hl))
theorem At.hold (x:At c) {i:Nat} {p:Slot} (hi:x.g.β[i]?=some p) {l:Addr} (hl:l∈feet [p]) (q:∀ b o,b≠l->x.s.heap.get? b=some o->h.get? b=some o):Stays x.g x.g x.s.heap h:=
  ⟨λ_ _ e=>e,λ_ m=>m,λa m o e=>q a o (λw=>(x.one hi hl).1 (w▸m)) e⟩
theorem Post.put {w:X} {r:α} {i:Nat} {s:Slot} {l:Addr} {o:O} (p:Post Z x R (.ok r (x.μ.set i o) x.ρ) S E) (hi:x.g.β[i]?=some s) (hl:l∈feet [s]) (q:∀ b o,b≠l->x.s.heap.get? b=some o->h.get? b=some o)
    (hs:x.s.heap.objs.size<=h.objs.size) (ro:RelO k.w.params x.g h o s) (rr:∀ y:At c,y.g=x.g->y.s.heap=h->R y r w):S w (x.to h tk):=
  p ⟨x.g,_,x.ρ,x.to h tk,x.st.put hi hl q ro⟩ w
    { size:=hs,slots:=λ_ _ e=>e,sub:=λ_ m=>m,newβ:=λ_ m=>.inl m,newφ:=λ_ m=>.inl m,gens:=rfl,os:=rfl
      keep:=.same λb o n e=>q b o (λz=>n (.inr (.inl (mem_feet hi (feet_mem (z▸hl)))))) e } rfl rfl (rr _ rfl rfl)
theorem same_size {h:Heap} (hs:Heap.SameBut l x.s.heap h):x.s.heap.objs.size<=h.objs.size:=Nat.le_of_eq hs.1.symm
theorem same_q {h:Heap} (hs:Heap.SameBut l x.s.heap h):∀ b o,b≠l->x.s.heap.get? b=some o->h.get? b=some o:=λb o n e=>(hs.2 b n).trans e
theorem foot {s:Slot}:s.1∈feet [s]:=List.mem_cons_self
theorem list_set {S:Unit->Shared->Prop} {z:Value} {i:Nat} {s:Slot} {j:Nat} (hi:x.g.β[i]?=some s) (h2:s.2=none) (H:LstAt k.w.params x.g x.s.heap vs s.1) (rv:x.is v z) (p:Post Z x RU (.ok () (x.μ.set i (.list (vs.set j v))) x.ρ) S E) :
    S () (x.to (x.s.heap.update s.1 (Obj.mapSeq (·.setIfInBounds j z))) tk):=by
  obtain ⟨xs,n,g,r⟩:=H
  have hs:=Heap.SameBut.update x.s.heap s.1 (Obj.mapSeq (·.setIfInBounds j z))
  have M:=x.hold hi foot (same_q hs)
  refine p.put hi foot (same_q hs) (same_size hs) ⟨h2,xs.set j z,n,?_,(r.mono M).set (rv.mono M) j⟩ λ_ _ _=>trivial
  rw [IsL.update g (·.setIfInBounds j z),List.setIfInBounds_toArray];simp
theorem op_put {S:Unit->Shared->Prop} {o i v:V} {w y z:Value} (ro:x.is o w) (ri:x.is i y) (rv:x.is v z) (p:Post Z x RU (putM o i v x.μ x.ρ) S E):WP c (setItem w y z) S E x.s:=by
  refine p.opt λr hr p=>p.opt λi hi p=>p.wr λe he p=>ri.isInt hi λt=>?_
  obtain ⟨ob,hob,rfl⟩:=Option.map_eq_some_iff.mp he
  obtain ⟨ob',h1,hb⟩:=Option.bind_eq_some_iff.mp hob
  refine ro.isRef hr λq hq=>?_
  have rr:=x.obj hq h1
  cases ob' with
  | list vs=>
    obtain ⟨hf,hb⟩:=if_at (b:=fits i=true) hb
    obtain ⟨j,hj,rfl⟩:=Option.map_eq_some_iff.mp hb
    have f:=fits_of hf
    obtain ⟨hx,hl⟩:=place_idx hj
    obtain ⟨h2,H⟩:=rr
    have fin:=list_set (tk:=x.s.toks) hq h2 H rv p
    obtain ⟨xs,n,g,r⟩:=H
    cases hx with
    | pos h=>exact ki_setAt g h f.2 (by rw [size_len r];lia) fin
    | neg h h'=>exact ki_setBack g h (by rw [size_len r];exact h') f.1 (by rw [size_len r];exact fin)
  | dict ks vs=>
    obtain ⟨kv,hkv,hb⟩:=Option.bind_eq_some_iff.mp hb
    obtain ⟨hl,hb⟩:=if_at hb
    cases hb
    obtain ⟨h2,H⟩:=rr
    have hT:=H.typ (s:=x.s)
    unfold setItem
    refine wpAny_holding (wpAny_bind (wpAny_sequenceKey hT (by decide) (wpAny_bind (wpAny_callSpecial?_slot (name:=Str.ofString "__setitem__") hT slot_dict_setitem
      (wpAny_call_entry slot_dict_setitem hT entry_dict_setitem (show wpAny _ _ (Builtin.Dict.notOrdered "__setitem__" ⟨[.ref q.1,.int i t,z],[]⟩ >>= _) _ _ x.s from ?_) (args_dict_setitem _ _ _))))))
    refine wpAny_bind (wpAny_notOrdered_dict hT (show wpAny _ _ (dictSet q.1 (.int i t) z >>= _) _ _ x.s from wpAny_bind (set_key (A:=c.A.in1) c.u1 (x.one hq foot).1 H (.int i t) rv hkv hl λh' tk H' hs=>wpAny_pure ⟨.none,rfl,wpAny_pure ?_⟩)))
    exact p.put hq foot (same_q hs) (same_size hs) ⟨h2,H'⟩ λ_ _ _=>trivial
  | inst=>cases hb
end
end
section
open PySem PySem.W PyProof.Rows
section
variable {P:Params} {γ:Type} {R:γ->Value->Prop} {ns:List Str} {vs:List γ} {es:List DictEntry} {n:Str} {v:γ} {hsh:Int} {key y:Value} {i:Nat}
theorem key_str {e:DictEntry} {m:Str} {t:Tok} (h:e.key=.str m t) (n:Str):e.key.isStr n=(m==n):=by rw [h];rfl
theorem FEs.noref (r:FEs P R ns vs es):es.any (·.refKey)=false:=by
  induction r with
  | nil=>rfl
  | cons t a b c _ ih=>rw [List.any_cons,ih];unfold DictEntry.refKey;rw [a];rfl
theorem FEs.len (r:FEs P R ns vs es):es.length<=ns.length:=by
  induction r with
  | nil=>exact Nat.zero_le _
  | cons t a b c _ ih=>exact Nat.succ_le_succ ih
theorem not_head {m:Str} (hn:(m :: ns).Nodup) (hi:ns[i]?=some n):(m==n)=false:=beq_eq_false_iff_ne.mpr λe=>(List.nodup_cons.mp hn).1 (e▸List.mem_of_getElem? hi)
theorem FEs.find (r:FEs P R ns vs es) (hn:ns.Nodup) {i:Nat} (hi:ns[i]?=some n) (hv:vs[i]?=some v):∃ e,es.find? (·.key.isStr n)=some e/\R v e.val:=by
  induction r generalizing i with
  | nil=>cases hv
  | @cons m v' ns vs e es t a b c _ ih=>
    rw [List.find?_cons,key_str a]
    match i,hi,hv with
    | 0,hi,hv=>cases hi;cases hv;rw [beq_self_eq_true];exact ⟨e,rfl,c⟩
    | i+1,hi,hv=>rw [not_head hn hi];exact ih (List.nodup_cons.mp hn).2 hi hv
theorem FEs.put {R:V->Value->Prop} {vs us:List V} {v:V} {t:Tok} (r:FEs P R ns vs es) (hn:ns.Nodup) {i:Nat} (hi:ns[i]?=some n) (hv:R v y) (e:layAt v vs i=some us):FEs P R ns us (putL n (PyData.keyHash P n) (.str n t) y es):=by
  induction r generalizing i us with
  | nil ns=>
    obtain ⟨rfl,e⟩:=if_at e
    cases e
    cases ns with
    | nil=>cases hi
    | cons=>cases hi;exact .cons t rfl rfl hv (.nil _)
  | @cons m v' ns vs e' es t' a b c r ih=>
    unfold putL
    rw [key_str a]
    match i,hi,e with
    | 0,hi,e=>cases hi;cases e;rw [beq_self_eq_true];exact .cons t' a b hv r
    | i+1,hi,e2=>
      obtain ⟨us',e3,rfl⟩:=Option.map_eq_some_iff.mp e2
      rw [not_head hn hi]
      exact .cons t' a b c (ih (List.nodup_cons.mp hn).2 hi e3)
theorem putL_len:∀ es:List DictEntry,(putL n hsh key y es).length<=es.length+1
  | []=>Nat.le_refl _
  | e :: r=>by
    unfold putL
    split
    · exact Nat.le_succ _
    · exact Nat.succ_le_succ (putL_len r)
theorem getL_of {e:DictEntry} (h:es.find? (·.key.isStr n)=some e):getL n es=some (some e.val):=by unfold getL;rw [h]
end
theorem handed_of {P:Params} {g:Gh} {h:Heap} {v:V} {x:Value} (r:RelV P g h v x):handedIn x=true:=by
  cases r with
  | glob b=>cases b <;> first | rfl | kernel_rfl
  | _=>rfl
theorem names_nodup (c:Bool):(namesOf c).Nodup:=of_decide_eq_true (by cases c <;> kernel_rfl)
theorem names_short (c:Bool):(namesOf c).length<=100:=by cases c <;> decide
theorem fd_at {c:Bool} {f:Fd} {i:Nat} (h:f.at c=some i):(namesOf c)[i]?=some (fdName f):=by
  obtain ⟨hl,e,_⟩:=List.findIdx?_eq_some_iff_getElem.mp h
  exact (List.getElem?_map ..).trans (congrArg (Option.map fdName) ((List.getElem?_eq_getElem hl).trans (congrArg some (of_decide_eq_true e))))
theorem fd_name {x:Str} {f:Fd} (e:fdOf x=some f):x=fdName f:=beq_iff_eq.mp (List.find?_some (p:=λf=>x==fdName f) e)
theorem O.inst?_eq {o:O} {p} (h:o.inst?=some p):o=.inst p.1 p.2:=by cases o with | inst=>cases h;rfl | _=>nomatch h
section
variable {k:Kx} {c:Cx k} {x y:At c} {A:Around} {s:Shared} {Z:List Addr} {Q:Value->Shared->Prop} {S:Unit->Shared->Prop} {E:Value->Shared->Prop} {a v:V} {u z:Value} {h:Heap} {n:Nat} {C d l:Addr} {es:List DictEntry} {name:Str} {ns:List Str} {f:Fd}
theorem At.kin (x:At c):k.K.In x.s.heap:=k.base.k.keeps x.st.hp.stays
theorem field_get {ex:Bool} {e:DictEntry} (X:k.K.In s.heap) (c:ClsOK k.K C ns) (hn:name∈ns) (hx:s.heap.get? l=some (instO C d)) (hd:s.heap.get? d=some (dctO es n))
    (hl:es.find? (·.key.isStr name)=some e) (hv:handedIn e.val=true) (q:Q e.val { s with toks:=s.toks+1 }):wpAny (model prog k.w) A (getAttr (.ref l) name ex) Q E s:=
  get_value X (⟨hx,rfl,rfl,hd⟩:InstAt s.heap l (instO C d) C (some (dctO es n))) c.ga (findObj_own c.dict (c.fields _ hn) rfl (getL_of hl)) hv q
theorem ns_put (hd:s.heap.get? d=some (dctO es n)) (hr:es.any (·.refKey)=false)
    (q:∀ h' n',h'.get? d=some (dctO (putL name (PyData.keyHash k.w.params name) (.str name s.toks) z es) n')->Heap.SameBut d s.heap h'->S () { s with heap:=h',toks:=s.toks+1 }) :
    wpAny (model prog k.w) A (nsSet d name z) S E s:=by
  unfold nsSet
  refine wpAny_bind (wpAny_bind (wpAny_askSetting (wpAny_pure (wpAny_bind (wpAny_mkText (wpAny_bind (wpAny_loadPart hd (wp_f ?_ ?_))))))))
  · rw [aRefKeyMayBeTheName_at,←Array.any_toList (p:=DictEntry.refKey)]
    exact λe=>Bool.false_ne_true (hr.symm.trans (and_t e).2)
  · have e:=putName_dict name (PyData.keyHash k.w.params name) (.str name s.toks) z es n
    have D:=(Heap.get?_update_self (Obj.putName name (PyData.keyHash k.w.params name) (.str name s.toks) z) hd (by rw [e];rfl)).trans (congrArg some e)
    have hs:=Heap.SameBut.update s.heap d (Obj.putName name (PyData.keyHash k.w.params name) (.str name s.toks) z)
    exact wpAny_updatePart hd (q _ _ D hs)
theorem field_size (hz:es.length<=900) {key:Value} {hsh:Int}:(putL name hsh key z es).toArray.size<=sizeLine+1:=by
  rw [List.size_toArray,sizeLine_eq]
  exact Nat.le_trans (putL_len _) (Nat.le_trans (Nat.succ_le_succ hz) (by decide))
theorem field_set (X:k.K.In s.heap) (c:ClsOK k.K C ns) (hn:name∈ns) (hx:s.heap.get? l=some (instO C d)) (hd:s.heap.get? d=some (dctO es n)) (hr:es.any (·.refKey)=false) (hz:es.length<=900)
    (q:∀ h' n' tk key,h'.get? d=some (dctO (putL name (PyData.keyHash k.w.params name) (.str name key) z es) n')->Heap.SameBut d s.heap h'->S () { s with heap:=h',toks:=tk }) :
    wpAny (model prog k.w) A (setAttr (.ref l) name z) S E s:=by
  refine set_plain X (⟨hx,rfl,rfl,hd⟩:InstAt s.heap l (instO C d) C (some (dctO es n))) c.sa ?_
  refine osa_open (s:={ s with toks:=s.toks+1 }) X (⟨hx,rfl,rfl,hd⟩:InstAt s.heap l (instO C d) C (some (dctO es n))) c.over (r:=none) (by unfold takerIn;rw [c.fields _ hn];rfl) λb=>?_
  obtain ⟨cd,hc,hd'⟩:=any_some (show (clsIn k.K C).any (·.hasDict)=true from c.dict)
  refine wpAny_bind (wpAny_pure (wpAny_bind (wpAny_bind (wpAny_loadPart hx (wpAny_bind ((looks_clsIn X hc).here (s:={ s with toks:=s.toks+1 }) ?_))))))
  rw [hd']
  exact wpAny_pure (a:=some d) (wpAny_bind (wpAny_pure (wpAny_bind (ns_put (s:={ s with toks:=s.toks+1 }) hd hr λh' n' D hs=>wpAny_bind (wpAny_lookBehind D (pastItsLine_dict (field_size hz)) (wpAny_pure (q h' n' _ _ D hs)))))))
theorem InsAt.own {i:Nat} {b:Bool} {vs:List V} {s:Slot} (hi:x.g.β[i]?=some s) (H:InsAt k.w.params x.g x.s.heap b vs s):∃ d es n,d∈feet [s]/\s.2=some d/\s.1≠d/\x.s.heap.get? s.1=some (instO (clsAt b) d)/\x.s.heap.get? d=some (dctO es n)/\FEs k.w.params x.is (namesOf b) vs es:=by
  obtain ⟨d,es,n,h1,h2,h3,r⟩:=H
  exact ⟨d,es,n,List.mem_cons_of_mem _ (by rw [h1];exact List.mem_singleton.mpr rfl),h1,λe=>(by rw [e,h3] at h2;cases h2),h2,h3,r⟩
theorem inst_at {i:Nat} {s:Slot} {o:O} {p} (hi:x.g.β[i]?=some s) (ho:x.μ[i]?=some o) (e:o.inst?=some p):InsAt k.w.params x.g x.s.heap p.1 p.2 s:=by
  have r:=x.obj hi ho
  rw [O.inst?_eq e] at r
  exact r
theorem op_get {ex:Bool} (ra:x.is a u) (hf:fdOf name=some f) (p:Post Z x RV (getA f a x.μ x.ρ) Q E):WP c (getAttr u name ex) Q E x.s:=by
  cases fd_name hf
  refine p.alt (λt e p=>p.gd λhf p=>?_) λ_ p=>p.opt λi hi p=>p.rd λv hv p=>?_
  · cases V.atom?_eq e
    cases ra.out with | mk b d e n t m m' q q' kk hh r=>
    cases of_decide_eq_true hf
    refine field_get x.kin k.base.atom (List.mem_singleton.mpr rfl) q q' (e:=e) ?_ (handed_of r) (p.tok _ r)
    rw [List.find?_cons,key_str kk,show (sText==fdName .text)=true by kernel_rfl]
  · obtain ⟨o,ho,hv⟩:=Option.bind_eq_some_iff.mp hv
    obtain ⟨q,hq,hv⟩:=Option.bind_eq_some_iff.mp hv
    obtain ⟨j,hj,hv⟩:=Option.bind_eq_some_iff.mp hv
    refine ra.isRef hi λs hs=>?_
    obtain ⟨d,es,n,_,_,_,h2,h3,r⟩:=InsAt.own hs (inst_at hs ho hq)
    obtain ⟨e,he,re⟩:=r.find (names_nodup q.1) (fd_at hj) hv
    exact field_get x.kin (k.base.inst q.1) (List.mem_of_getElem? (fd_at hj)) h2 h3 he (handed_of re) (p.tok _ re)
theorem op_set (ra:x.is a u) (rv:x.is v z) (hf:fdOf name=some f) (p:Post Z x RU (setA f a v x.μ x.ρ) S E):WP c (setAttr u name z) S E x.s:=by
  cases fd_name hf
  refine p.opt λi hi p=>p.wr λw hw p=>?_
  obtain ⟨o',ho',rfl⟩:=Option.map_eq_some_iff.mp hw
  obtain ⟨o,ho,ho'⟩:=Option.bind_eq_some_iff.mp ho'
  obtain ⟨q,hq,ho'⟩:=Option.bind_eq_some_iff.mp ho'
  obtain ⟨j,hj,ho'⟩:=Option.bind_eq_some_iff.mp ho'
  obtain ⟨us,hu,rfl⟩:=Option.map_eq_some_iff.mp ho'
  refine ra.isRef hi λs hs=>?_
  obtain ⟨d,es,n,m,h1,ne,h2,h3,r⟩:=InsAt.own hs (inst_at hs ho hq)
  refine field_set x.kin (k.base.inst q.1) (List.mem_of_getElem? (fd_at hj)) h2 h3 r.noref (Nat.le_trans r.len (Nat.le_trans (names_short q.1) (by decide))) λh' n' tk key D H=>?_
  have M:=x.hold hs m (same_q H)
  exact p.put hs m (same_q H) (same_size H) ⟨d,_,_,h1,(H.2 _ ne).trans h2,D,(r.imp λ_ _=>RelV.mono M).put (names_nodup q.1) (fd_at hj) (rv.mono M) hu⟩ λ_ _ _=>trivial
end
end
section
open PySem PySem.W PyProof.Rows
open PySem (wpAny_pyNext_tuple_item)
theorem runs_size {M:Model} {Γ:Ctx} {p:Pos} {t:Sem Fin} {fs:List Frame} {s s':Shared} {e:End} (h:Runs M Γ p t fs s e s'):s.heap.objs.size<=s'.heap.objs.size:=by
  induction h <;> (try simp only [Shared.setGen,Heap.size_upd,Heap.size_push] at *) <;> lia
theorem wakes_size {M:Model} {Γ:Ctx} {p:Pos} {g:Nat} {r:Resume} {s s':Shared} {res:GenResult} (h:Wakes M Γ p g r s res s'):s.heap.objs.size<=s'.heap.objs.size:=by
  unfold Wakes at h
  split at h
  · exact h.elim
  · split at h
    · obtain ⟨e₁,s₁,hr,_,_,rfl⟩:=h;exact (runs_size hr:(s.setGen g .running).heap.objs.size<=_)
    · rw [h.2];exact Nat.le_refl _
    · rw [h.2];exact Nat.le_refl _
  · obtain ⟨e₁,s₁,hr,_,_,rfl⟩:=h;exact (runs_size hr:(s.setGen g .running).heap.objs.size<=_)
  · rw [h.2];exact Nat.le_refl _
  · rw [h.2];exact Nat.le_refl _
theorem wp_size {α:Type} (M:Model) (Γ:Ctx) (n:Nat) (t:Sem α):∀ (Q:α->Pos->Shared->Prop) (E:Value->Pos->Shared->Prop) (p:Pos) (s:Shared),n<=s.heap.objs.size->Sem.wp M Γ t Q E p s ->
    Sem.wp M Γ t (λa p' s'=>n<=s'.heap.objs.size/\Q a p' s') (λe p' s'=>n<=s'.heap.objs.size/\E e p' s') p s:=by
  induction t with
  | pure a=>exact λQ E p s hn h=>⟨hn,h⟩
  | raise e=>exact λQ E p s hn h=>⟨hn,h⟩
  | unsupported _=>exact λQ E p s _ h=>h
  | finish _=>exact λQ E p s _ h=>h
  | rule _ k ih=>exact λQ E p s hn h=>ih () Q E p s hn h
  | «at» p' k ih=>exact λQ E p s hn h=>ih () Q E p' s hn h
  | load a _ k ih=>intro Q E p s hn h;obtain ⟨o,ho,h⟩:=h;exact ⟨o,ho,ih o Q E p s hn h⟩
  | update a _ f k ih=>exact λQ E p s hn h=>⟨h.1,ih () Q E p _ (Nat.le_trans hn (Nat.le_of_eq Heap.size_upd.symm)) h.2⟩
  | loadIfAlive a k ih=>exact λQ E p s hn h=>ih _ Q E p s hn h
  | point _ k ih=>exact λQ E p s hn h=>ih () Q E p s hn h
  | register _ _=>exact λQ E p s _ h=>h
  | alloc o k ih=>exact λQ E p s hn h=>ih _ Q E p _ (Nat.le_trans hn (by show s.heap.objs.size<=(s.heap.push o).objs.size;rw [Heap.size_push];lia)) h
  | fresh k ih=>exact λQ E p s hn h=>ih _ Q E p _ hn h
  | ask k ih=>exact λQ E p s hn h=>ih _ Q E p s hn h
  | choose src m k ih=>exact λQ E p s hn h=>⟨h.1,ih _ Q E p _ hn h.2⟩
  | os q _ k ih=>exact λQ E p s hn h=>ih _ Q E p _ hn h
  | call c hd _ _ k ih=>intro Q E p s hn h;obtain ⟨r,s',hr,h⟩:=h;exact ⟨r,s',hr,ih r Q E p s' (Nat.le_trans hn (runs_size hr)) h⟩
  | handled own k ih=>exact λQ E p s hn h=>ih _ Q E p s hn h
  | genState g k ih=>intro Q E p s hn h;obtain ⟨st,hs,h⟩:=h;exact ⟨st,hs,ih _ Q E p s hn h⟩
  | newGen c k ih=>exact λQ E p s hn h=>ih _ Q E p _ hn h
  | resume g r _ k ih=>intro Q E p s hn h;obtain ⟨res,s',hw,h⟩:=h;exact ⟨res,s',hw,ih res Q E p s' (Nat.le_trans hn (wakes_size hw)) h⟩
  | yield _ _ _ _=>exact λQ E p s _ h=>h
  | stack k ih=>exact λQ E p s hn h=>ih _ Q E p s hn h
  | fork _ _=>exact λQ E p s _ h=>h
  | thread k ih=>exact λQ E p s hn h=>ih _ Q E p s hn h
  | await _ _ _ _ _=>exact λQ E p s _ h=>h
theorem wpAny_size {α:Type} {M:Model} {A:Around} {s:Shared} {t:Sem α} {Q:α->Shared->Prop} {E:Value->Shared->Prop}
    (h:wpAny M A t (λa s'=>s.heap.objs.size<=s'.heap.objs.size->Q a s') (λe s'=>s.heap.objs.size<=s'.heap.objs.size->E e s') s):wpAny M A t Q E s:=
  have g:wpAny M A t (λa s'=>s.heap.objs.size<=s'.heap.objs.size/\(s.heap.objs.size<=s'.heap.objs.size->Q a s')) (λe s'=>s.heap.objs.size<=s'.heap.objs.size/\(s.heap.objs.size<=s'.heap.objs.size->E e s')) s:=
    λΓ p hΓ=>wp_size M Γ _ t (λa _ s'=>s.heap.objs.size<=s'.heap.objs.size->Q a s') (λe _ s'=>s.heap.objs.size<=s'.heap.objs.size->E e s') p s (Nat.le_refl _) (h Γ p hΓ)
  wpAny_mono g (λ_ _ x=>x.2 x.1) (λ_ _ x=>x.2 x.1)
section
variable {prog:Program} {w:World} {A:Around} {E:Value->Shared->Prop} {s:Shared}
theorem nextOf_tuple_item {it t:Addr} {i:Nat} {items:Array Value} {x:Value} {Q:Value->Shared->Prop} (hit:s.heap.IsTupleIter it t i) (ht:s.heap.IsTuple t items) (hx:items[i]?=some x)
    (hQ:∀ h',h'.IsTupleIter it t (i+1)->Heap.SameBut it s.heap h'->Q x { s with heap:=h' }):wpAny (model prog w) A (Builtin.SmallTypes.nextOf (.ref it)) Q E s:=by
  obtain ⟨o,ho,hc,hd⟩:=id hit
  obtain ⟨ol,hol,_,nl,hdl⟩:=ht
  unfold Builtin.SmallTypes.nextOf
  refine wpAny_bind (wpAny_callSpecial?_slot (name:=Str.ofString "__next__") hit.typeIs F.slot_tuple_iterator_next
    (wpAny_call_entry F.slot_tuple_iterator_next hit.typeIs F.entry_tuple_iterator_next ?_ (F.args_tuple_iterator_next_1 _)))
  show wpAny _ _ (field (.ref it) 0 >>= _) _ _ s
  refine wpAny_bind (wpAny_field ho hd (x:=.ref t) rfl ?_)
  show wpAny _ _ (if (Value.ref t==Value.none)=true then _ else _) _ _ s
  rw [if_neg (show ¬((Value.ref t==Value.none)=true) from Bool.false_ne_true)]
  show wpAny _ _ (field (.ref it) 1 >>= _) _ _ s
  refine wpAny_bind (wpAny_field ho hd (x:=.int i 0) rfl ?_)
  show wpAny _ _ (seqItems? (.ref t) >>= _) _ _ s
  refine wpAny_bind (wpAny_seqItems hol hdl ?_)
  simp only [Int.toNat_natCast,hx]
  refine wpAny_bind (wpAny_setField ho hd (by simp) (wpAny_pure ⟨x,rfl,wpAny_pure (hQ _ ?_ (Heap.SameBut.update ..))⟩))
  exact ⟨_,Heap.get?_update_self _ ho (Obj.isFreed_of_fields (Obj.data_mapFields hd _)),(Obj.cls_mapFields ..).trans hc,by
    rw [Obj.data_mapFields hd];simp [rawInt]⟩
theorem nextOf_tuple_end {it t:Addr} {i:Nat} {items:Array Value} {Q:Value->Shared->Prop} (hh:A.handled=none) (hit:s.heap.IsTupleIter it t i) (ht:s.heap.IsTuple t items) (hx:items[i]?=none)
    (hE:∀ h' e,Heap.ExtBut it s.heap h'->(∃ o,h'.get? e=some o/\o.cls=.type "StopIteration")->E (.ref e) { s with heap:=h' }):wpAny (model prog w) A (Builtin.SmallTypes.nextOf (.ref it)) Q E s:=by
  obtain ⟨o,ho,hc,hd⟩:=id hit
  obtain ⟨ol,hol,_,nl,hdl⟩:=ht
  unfold Builtin.SmallTypes.nextOf
  refine wpAny_bind (wpAny_callSpecial?_slot (name:=Str.ofString "__next__") hit.typeIs F.slot_tuple_iterator_next
    (wpAny_call_entry F.slot_tuple_iterator_next hit.typeIs F.entry_tuple_iterator_next ?_ (F.args_tuple_iterator_next_1 _)))
  show wpAny _ _ (field (.ref it) 0 >>= _) _ _ s
  refine wpAny_bind (wpAny_field ho hd (x:=.ref t) rfl ?_)
  show wpAny _ _ (if (Value.ref t==Value.none)=true then _ else _) _ _ s
  rw [if_neg (show ¬((Value.ref t==Value.none)=true) from Bool.false_ne_true)]
  show wpAny _ _ (field (.ref it) 1 >>= _) _ _ s
  refine wpAny_bind (wpAny_field ho hd (x:=.int i 0) rfl ?_)
  show wpAny _ _ (seqItems? (.ref t) >>= _) _ _ s
  refine wpAny_bind (wpAny_seqItems hol hdl ?_)
  simp only [Int.toNat_natCast,hx]
  refine wpAny_bind (wpAny_rule (wpAny_bind (wpAny_setField ho hd (by simp) ?_)))
  show wpAny _ _ (newExc (.type "StopIteration") [] >>= _) _ _ _
  refine wpAny_bind ?_
  simp only [newExc,newTuple]
  refine wpAny_bind (wpAny_newObj_type ?_ (by size_fits))
  refine wpAny_bind (m:=firstArgMember _ _) (wpAny_of_eq (a:=Value.none) (by first | rfl | (simp only [firstArgMember];rfl)) ?_)
  refine wpAny_newObj_type ?_ (by size_fits)
  refine wpAny_raiseNew_none hh ?_
  exact hE _ _ (((Heap.SameBut.update ..).extBut.push _).push _) ⟨_,Heap.get?_push_size _ rfl,rfl⟩
theorem draws_tuple (hh:A.handled=none) (it l:Addr) (hne:l≠it) (items:Array Value) :
    Draws prog w A it [it,l] items.size (λi v=>items[i]?=some v) (λi h=>h.IsTupleIter it l i/\h.IsTuple l items) where
  live:=λ_ _ st=>let ⟨o,ho,_⟩:=st.1;⟨o,ho⟩
  frame:=λ_ _ _ st hk=>⟨let ⟨o,ho,r⟩:=st.1;⟨o,hk it (by simp) o ho,r⟩,let ⟨o,ho,r⟩:=st.2;⟨o,hk l (by simp) o ho,r⟩⟩
  item:=λi s Q E hi st hQ=>by
    refine nextOf_tuple_item st.1 st.2 (x:=items[i]) (by simp [hi]) λh' hit' hs'=>?_
    exact hQ _ h' s.toks (by simp [hi]) ⟨hit',st.2.extBut hs'.extBut hne⟩ hs'
  done:=λs Q E st hE=>nextOf_tuple_end hh st.1 st.2 (by simp) hE
inductive Tgt:Expr->Bool->Prop
  | name (x:Str) (p:Pos) (b:Bool):Tgt (.Name x p) b
  | tup (es:List Expr) (x) (p:Pos):Tgt (.Tuple es x p) true
noncomputable def bare (n:String):Bool:=["enumerate", "zip", "dict_itemiterator", "dict_reverseitemiterator", "odict_iterator", "itertools.zip_longest", "itertools.pairwise"].contains n
structure Bare (h:Heap) (I:Addr):Prop where
  get:∃ o n vs,h.get? I=some o/\o.cls=.type n/\o.data=.fields vs/\bare n=false
theorem letOwned_plain {target:Expr} {b:Bool} (ht:Tgt target b) {I:Addr} {v:Value} {Q:Unit->Shared->Prop} (B:Bare s.heap I) (q:Q () s):wpAny (model prog w) A (letOwnedTupleGo target (.ref I) v) Q E s:=by
  cases ht with
  | name=>exact wpAny_pure q
  | tup es x p=>cases v with
    | ref a=>
      obtain ⟨o,n,vs,ho,hc,hd,hn⟩:=B.get
      unfold letOwnedTupleGo
      refine wpAny_bind (wpAny_load ho ?_)
      rw [hc,hd]
      exact wp_f (λe=>Bool.false_ne_true (hn.symm.trans (and_t e).1)) (wpAny_pure q)
    | _=>exact wpAny_pure q
end
theorem enumFrom_get:∀ (vs:List V) (k n:Nat),(enumFrom k vs)[n]?=(vs[n]?).map λv=>.tup [.int ((k+n:Nat):Int),v]
  | [],_,_=>by simp [enumFrom]
  | v :: r,k,0=>by simp [enumFrom]
  | v :: r,k,n+1=>by
    rw [enumFrom,List.getElem?_cons_succ,List.getElem?_cons_succ,enumFrom_get r (k+1) n]
    congr 1;funext v;congr 3;lia
theorem rngList_get (lo hi:Int) (n:Nat):(rngList lo hi)[n]?=if n<(hi - lo).toNat then some (.int (lo+(n:Nat))) else none:=by
  unfold rngList
  rw [List.getElem?_map]
  by_cases h:n<(hi - lo).toNat
  · rw [if_pos h,List.getElem?_range h];rfl
  · rw [if_neg h,List.getElem?_eq_none (by simp;lia)];rfl
inductive SeqIt (P:Params) (g:Gh) (h:Heap):Src->Nat->Addr->Prop
  | ref {i:Nat} {p:Slot} {vs:List V} {n:Nat} {I:Addr}:g.β[i]?=some p->h.IsListIter I p.1 n->SeqIt P g h (some (i,vs),vs) n I
  | lst {a:Addr} {vs:List V} {n:Nat} {I:Addr}:a∈g.φ->LstAt P g h vs a->h.IsListIter I a n->SeqIt P g h (none,vs) n I
  | tup {a:Addr} {vs:List V} {xs:List Value} {n:Nat} {I:Addr}:a∈g.φ->h.get? a=some (tupO xs)->RelVs P g h vs xs->h.IsTupleIter I a n->SeqIt P g h (none,vs) n I
inductive ItAt (P:Params) (g:Gh) (h:Heap):List Addr->Src->Nat->Value->Prop
  | seq {src:Src} {n:Nat} {I:Addr}:SeqIt P g h src n I->n<=src.2.length->ItAt P g h [I] src n (.ref I)
  | rng {I:Addr} {lo hi:Int} {n:Nat}:IsRangeIter h I (lo+(n:Nat) * 1) (((hi - lo).toNat:Nat) - (n:Nat):Int) 1->n<=(hi - lo).toNat->ItAt P g h [I] (none,rngList lo hi) n (.ref I)
  | nod {I d:Addr} {m:Nat}:d∈g.φ->h.get? d=some (dctO [] m)->h.IsKeyIter I d 0 0 m->ItAt P g h [I] (none,[]) 0 (.ref I)
  | enum {e I:Addr} {src:Src} {n:Nat} {old:Value}:SeqIt P g h src n I->IsEnum h e I n old->e≠I->n<=src.2.length->ItAt P g h [e,I] (src.1,enumFrom 0 src.2) n (.ref e)
section
variable {P:Params} {g g':Gh} {h h':Heap} {src:Src} {n:Nat} {I:Addr} {own:List Addr} {v:Value}
theorem LstAt.mono {vs:List V} {a:Addr} (S:Stays g g' h h') (m:a∈g.φ) (l:LstAt P g h vs a):LstAt P g' h' vs a:=let ⟨xs,n,e,r⟩:=l;⟨xs,n,S.same _ m _ e,r.mono S⟩
theorem SeqIt.keep (x:SeqIt P g h src n I) (S:Stays g g' h h') (k:∀ o,h.get? I=some o->h'.get? I=some o):SeqIt P g' h' src n I:=by
  cases x with
  | ref a b=>exact .ref (S.slots _ _ a) (let ⟨o,e,r⟩:=b;⟨o,k o e,r⟩)
  | lst a b e=>exact .lst (S.sub _ a) (b.mono S a) (let ⟨o,e,r⟩:=e;⟨o,k o e,r⟩)
  | tup a b c e=>exact .tup (S.sub _ a) (S.same _ a _ b) (c.mono S) (let ⟨o,e,r⟩:=e;⟨o,k o e,r⟩)
theorem ItAt.keep (y:ItAt P g h own src n v) (S:Stays g g' h h') (k:∀ a∈own,∀ o,h.get? a=some o->h'.get? a=some o):ItAt P g' h' own src n v:=by
  cases y with
  | seq a hl=>exact .seq (a.keep S (k _ List.mem_cons_self)) hl
  | rng a b=>exact .rng (k _ List.mem_cons_self _ a) b
  | nod a b c=>exact .nod (S.sub _ a) (S.same _ a _ b) (let ⟨o,e,r⟩:=c;⟨o,k _ List.mem_cons_self o e,r⟩)
  | enum a b c hl=>exact .enum (a.keep S (k _ (List.mem_cons_of_mem _ List.mem_cons_self))) (k _ List.mem_cons_self _ b) c hl
theorem SeqIt.bare (x:SeqIt P g h src n I):Bare h I:=by
  cases x with
  | ref _ b=>obtain ⟨o,e,c,d⟩:=b;exact ⟨o,_,_,e,c,d,rfl⟩
  | lst _ _ b=>obtain ⟨o,e,c,d⟩:=b;exact ⟨o,_,_,e,c,d,rfl⟩
  | tup _ _ _ b=>obtain ⟨o,e,c,d⟩:=b;exact ⟨o,_,_,e,c,d,rfl⟩
end
structure Own {k:Kx} (c:Cx k) (g:Gh) (m:Nat) (own:List Addr):Prop where
  lt:∀ a∈own,a<m
  new:∀ a∈own,New c g a
section
variable {k:Kx} {c:Cx k} {Z:List Addr} {x y z:At c} {n m:Nat} {own as:List Addr} {src:Src} {it:Value} {I:Addr} {h:Heap} {A:Around} {E E':Value->Shared->Prop}
theorem Own.after (O:Own c x.g x.s.heap.objs.size own) (f:After Z x y):Own c y.g y.s.heap.objs.size own where
  lt a m:=Nat.lt_of_lt_of_le (O.lt a m) f.size
  new a m:={ O.new a m with
    β:=λq=>(f.newβ a q).elim (O.new a m).β λq=>absurd (O.lt a m) (Nat.not_lt.mpr q)
    φ:=λq=>(f.newφ a q).elim (O.new a m).φ λq=>absurd (O.lt a m) (Nat.not_lt.mpr q) }
theorem New.same (N:New c x.g I) (f:After Z x y) (nz:I∉Z) {o:Obj} (e:x.s.heap.get? I=some o):y.s.heap.get? I=some o:=
  f.keep.exact (λq=>q.elim nz λq=>q.elim N.β λq=>N.fa (q.elim (λe=>e▸List.mem_cons_self) wcells_fa)) N.frs e
noncomputable def At.drawn (y:At c) (n:∀ a∈own,New c y.g a) (tk:Nat) (q:∀ b o,b∉own->y.s.heap.get? b=some o->h.get? b=some o) (ge:∀ a∈as,y.s.heap.objs.size<=a) (here:∀ a∈as,∃ o,h.get? a=some o):At c:=
  ⟨⟨y.g.β,as++y.g.φ⟩,y.μ,y.ρ,y.to h tk,(y.st.other n (.same q)).promote (λa m=>y.st.new (ge a m)) here⟩
theorem At.drew {n:∀ a∈own,New c y.g a} {tk:Nat} {q:∀ b o,b∉own->y.s.heap.get? b=some o->h.get? b=some o} {ge:∀ a∈as,y.s.heap.objs.size<=a} {here:∀ a∈as,∃ o,h.get? a=some o} (hs:y.s.heap.objs.size<=h.objs.size):After own y (y.drawn n tk q ge here) where
  size:=hs
  slots _ _ e:=e
  sub _ m:=List.mem_append_right _ m
  newβ _ m:=.inl m
  newφ a m:=(List.mem_append.mp m).elim (λm=>.inr (ge a m)) .inl
  keep:=.same λb o nb e=>q b o (λm=>nb (.inl m)) e
  gens:=rfl
  os:=rfl
theorem SeqIt.now (si:SeqIt k.w.params y.g y.s.heap src n I) (hh:A.handled=none) (st:∀ r,src.1=some r->listAt y.μ r.1=some r.2) (N:New c y.g I) {C:Prop}
    (kn:∀ a xs T,y.are src.2 xs->a∈y.g.φ∨a∈feet y.g.β->a≠I->T n y.s.heap->Walks prog k.w A I [I,a] [I] xs.length (λi v=>xs[i]?=some v) T->Draws prog k.w A I [I,a] xs.length (λi v=>xs[i]?=some v) T ->
      (∀ j h',T j h'->(∀ b∈y.g.φ,∀ o,y.s.heap.get? b=some o->h'.get? b=some o)->SeqIt k.w.params y.g h' src j I)->C):C:=by
  have fix:∀ {xs:List Value} {F:Nat->(Nat->Value->Prop)->Prop},F xs.toArray.size (λi v=>xs.toArray[i]?=some v)->F xs.length (λi v=>xs[i]?=some v):=λh=>by
    rw [List.size_toArray] at h
    simpa only [List.getElem?_toArray] using h
  cases si with
  | @ref i p vs n I hp hit=>
    obtain ⟨_,xs,m,g,r⟩:=y.lst hp (st (i,vs) rfl)
    have hne:p.1≠I:=λq=>N.β (q▸mem_feet hp (.inl rfl))
    exact kn p.1 xs (λi h=>h.IsListIter I p.1 i/\h.IsList p.1 xs.toArray) r (.inr (mem_feet hp (.inl rfl))) hne ⟨hit,PySem.IsL.isList g⟩ (fix (F:=λn p=>Walks _ _ A I [I,_] [I] n p _) (Walks.list hh I p.1 hne xs.toArray)) (fix (F:=λn p=>Draws _ _ A I [I,_] n p _) (Draws.list hh I p.1 hne xs.toArray)) λk h' t _=>.ref hp t.1
  | @lst a vs n I ha g hit=>
    have g':=g
    obtain ⟨xs,m,g,r⟩:=g
    have hne:a≠I:=λq=>N.φ (q▸ha)
    exact kn a xs (λi h=>h.IsListIter I a i/\h.IsList a xs.toArray) r (.inl ha) hne ⟨hit,PySem.IsL.isList g⟩ (fix (F:=λn p=>Walks _ _ A I [I,_] [I] n p _) (Walks.list hh I a hne xs.toArray)) (fix (F:=λn p=>Draws _ _ A I [I,_] n p _) (Draws.list hh I a hne xs.toArray)) λk h' t z=>.lst ha (g'.mono ⟨λ_ _ e=>e,λ_ m=>m,z⟩ ha) t.1
  | @tup a vs xs n I ha g r hit=>
    have hne:a≠I:=λq=>N.φ (q▸ha)
    exact kn a xs (λi h=>h.IsTupleIter I a i/\h.IsTuple a xs.toArray) r (.inl ha) hne ⟨hit,_,g,rfl,_,rfl⟩ (fix (F:=λn p=>Walks _ _ A I [I,_] [I] n p _) (Walks.tuple hh I a hne xs.toArray)) (fix (F:=λn p=>Draws _ _ A I [I,_] n p _) (draws_tuple hh I a hne xs.toArray)) λk h' t z=>.tup ha (z a ha _ g) (r.mono ⟨λ_ _ e=>e,λ_ m=>m,z⟩) t.1
end
end
section
open PySem PySem.W PyProof.Rows
section
variable {k:Kx} {c:Cx k} {Z:List Addr} {x y z:At c} {n m:Nat} {own as:List Addr} {src:Src} {it:Value} {I:Addr} {h:Heap} {A:Around} {E E':Value->Shared->Prop}
structure Loop (Z:List Addr) (x y:At c) (src:Src) (it:Value) (n:Nat) (own:List Addr):Prop where
  af:After Z x y
  mine:Own c y.g y.s.heap.objs.size own
  ge:∀ a∈own,a∈Z∨x.s.heap.objs.size<=a
  iter:ItAt k.w.params y.g y.s.heap own src n it
theorem Loop.hide (L:Loop Z x y src it n own) (f:After own y z):After Z x z:=L.af.hide f L.ge
structure Draw (Z:List Addr) (x y:At c) (src:Src) (it:Value) (n:Nat) (own:List Addr) (Qn:Shared->Prop) (K:Value->Shared->Prop):Prop where
  last:src.2[n]?=none->∀ z:At c,After own y z->z.μ=y.μ->z.ρ=y.ρ->Qn z.s
  next:∀ v,src.2[n]?=some v->∀ (z:At c) u,After own y z->z.μ=y.μ->z.ρ=y.ρ->Loop Z x z src it (n+1) own->z.is v u->K u z.s
noncomputable abbrev GoOn (target:Expr) (A:Around) (it:Value) (Qn:Shared->Prop) (K:Value->Shared->Prop) (E':Value->Shared->Prop) (w:World):Option Value->Shared->Prop:=λr s₁=>match r with
  | none=>Qn s₁
  | some v=>wpAny (model prog w) A (letOwnedTupleGo target it v) (λ_ s₁'=>K v s₁') E' s₁
variable {target:Expr} {Qn:Shared->Prop} {K:Value->Shared->Prop} {two:Bool}
theorem Draw.over (D:Draw Z x y src it n own Qn K) (L:Loop Z x y src it n own) (e:src.2[n]?=none) {tk:Nat} (q:∀ b o,b∉own->y.s.heap.get? b=some o->h.get? b=some o) (hs:y.s.heap.objs.size<=h.objs.size):Qn (y.to h tk):=
  D.last e (y.drawn (as:=[]) L.mine.new tk q (λ_ m=>nomatch m) λ_ m=>nomatch m) (At.drew hs) rfl rfl
theorem Draw.item (D:Draw Z x y src it n own Qn K) (L:Loop Z x y src it n own) {v:V} {u:Value} (e:src.2[n]?=some v) {tk:Nat} (q:∀ b o,b∉own->y.s.heap.get? b=some o->h.get? b=some o) (hs:y.s.heap.objs.size<=h.objs.size)
    (ge:∀ a∈as,y.s.heap.objs.size<=a) (here:∀ a∈as,∃ o,h.get? a=some o) (r:RelV k.w.params ⟨y.g.β,as++y.g.φ⟩ h v u) (i:ItAt k.w.params ⟨y.g.β,as++y.g.φ⟩ h own src (n+1) it):K u (y.to h tk):=
  have f:After own y (y.drawn L.mine.new tk q ge here):=At.drew hs
  D.next v e _ u f rfl rfl ⟨L.hide f,L.mine.after f,L.ge,i⟩ r
theorem kφ (L:Loop Z x y src it n own) (q:∀ b o,b∉own->y.s.heap.get? b=some o->h.get? b=some o):∀ b∈y.g.φ,∀ o,y.s.heap.get? b=some o->h.get? b=some o:=λb m o e=>q b o (λw=>(L.mine.new b w).φ m) e
theorem Stays.frozen {g:Gh} {as:List Addr} {h h':Heap} (q:∀ b∈g.φ,∀ o,h.get? b=some o->h'.get? b=some o):Stays g ⟨g.β,as++g.φ⟩ h h':=⟨λ_ _ e=>e,λ_ m=>List.mem_append_right _ m,q⟩
theorem seq_lt {xs:List Value} (r:y.are src.2 xs) (hn:n<xs.length) {v:Value} (hv:xs[n]?=some v):∃ u,src.2[n]?=some u/\y.is u v:=r.get' hv
theorem seq_end {xs:List Value} (r:y.are src.2 xs) (hl:n<=src.2.length) (hn:¬n<xs.length):n=xs.length/\src.2[n]?=none:=by
  rw [r.len] at hn ⊢
  exact ⟨Nat.le_antisymm hl (Nat.not_lt.mp hn),List.getElem?_eq_none (Nat.not_lt.mp hn)⟩
theorem enum_get {vs:List V} {v:V} (h:vs[n]?=some v):(enumFrom 0 vs)[n]?=some (.tup [.int n,v]):=by rw [enumFrom_get,h,Nat.zero_add];rfl
theorem enum_none {vs:List V} (h:vs[n]?=none):(enumFrom 0 vs)[n]?=none:=by rw [enumFrom_get,h];rfl
theorem Draw.seq (hh:A.handled=none) (D:Draw Z x y src (.ref I) n [I] Qn K) (L:Loop Z x y src (.ref I) n [I]) (st:∀ r,src.1=some r->listAt y.μ r.1=some r.2) (ht:Tgt target two) (si:SeqIt k.w.params y.g y.s.heap src n I) (hl:n<=src.2.length) :
    wpAny (model prog k.w) A (pyNext (.ref I)) (GoOn target A (.ref I) Qn K E' k.w) E y.s:=by
  refine si.now hh st (L.mine.new I List.mem_cons_self) λa xs T r ha hne t0 W _ back=>?_
  by_cases hn:n<xs.length
  · refine wpAny_size (W.item n y.s _ _ hn t0 λv h' tk hv t1 q hz=>?_)
    obtain ⟨u,hu,ru⟩:=seq_lt r hn hv
    have si':=back (n+1) h' t1 (kφ L q)
    exact letOwned_plain (s:={ y.s with heap:=h',toks:=tk }) ht si'.bare (D.item (as:=[]) L hu q hz (λ_ m=>nomatch m) (λ_ m=>nomatch m) (ru.mono ⟨λ_ _ e=>e,λ_ m=>m,kφ L q⟩) (.seq si' (r.len▸hn)))
  · obtain ⟨rfl,e⟩:=seq_end r hl hn
    exact wpAny_size (W.done y.s _ _ t0 λh' tk q hz=>D.over L e q hz)
theorem Draw.rng {lo hi:Int} (hh:A.handled=none) (D:Draw Z x y (none,rngList lo hi) (.ref I) n [I] Qn K) (L:Loop Z x y (none,rngList lo hi) (.ref I) n [I]) (ht:Tgt target two)
    (hr:IsRangeIter y.s.heap I (lo+(n:Nat) * 1) (((hi - lo).toNat:Nat) - (n:Nat):Int) 1) (hl:n<=(hi - lo).toNat) :
    wpAny (model prog k.w) A (pyNext (.ref I)) (GoOn target A (.ref I) Qn K E' k.w) E y.s:=by
  have W:=Walks.range (prog:=prog) (w:=k.w) (A:=A) hh I lo 1 (hi - lo).toNat
  by_cases hn:n<(hi - lo).toNat
  · refine wpAny_size (W.item n y.s _ _ hn hr λv h' tk hv t1 q hz=>?_)
    obtain ⟨t,rfl⟩:=hv
    refine letOwned_plain (s:={ y.s with heap:=h',toks:=tk }) ht ⟨_,_,_,t1,rfl,rfl,rfl⟩ (D.item (as:=[]) (v:=.int (lo+(n:Nat))) L (by rw [rngList_get,if_pos hn]) q hz (λ_ m=>nomatch m) (λ_ m=>nomatch m) ?_ (.rng t1 hn))
    rw [Int.mul_one];exact .int _ _
  · cases Nat.le_antisymm hl (Nat.not_lt.mp hn)
    exact wpAny_size (W.done y.s _ _ hr λh' tk q hz=>D.over L (by rw [rngList_get,if_neg hn]) q hz)
theorem Draw.nod {d:Addr} (hh:A.handled=none) (D:Draw Z x y (none,[]) (.ref I) 0 [I] Qn K) (L:Loop Z x y (none,[]) (.ref I) 0 [I]) (g:y.s.heap.get? d=some (dctO [] m)) (hk:y.s.heap.IsKeyIter I d 0 0 m) :
    wpAny (model prog k.w) A (pyNext (.ref I)) (GoOn target A (.ref I) Qn K E' k.w) E y.s:=
  have Dt:y.s.heap.DictAt (intKind prog k.w) d [] m:=⟨_,_,g,⟨rfl,rfl,rfl⟩,rfl,(λe he=>nomatch he),.nil,List.nodup_nil⟩
  wpAny_size (wpAny_pyNext_dict_end hh hk Dt rfl λh' q hz=>D.over (tk:=y.s.toks) L rfl (λb o hb e=>q b o (λw=>hb (w▸List.mem_cons_self)) e) hz)
theorem not_two {a b e:Addr} (h:b∉[e,a]):b≠e/\b≠a:=⟨λq=>h (q▸List.mem_cons_self),λq=>h (q▸List.mem_cons_of_mem _ List.mem_cons_self)⟩
theorem Draw.enum {e:Addr} {old:Value} {src:Src} (hh:A.handled=none) (D:Draw Z x y (src.1,enumFrom 0 src.2) (.ref e) n [e,I] Qn K) (L:Loop Z x y (src.1,enumFrom 0 src.2) (.ref e) n [e,I]) (st:∀ r,src.1=some r->listAt y.μ r.1=some r.2) (ht:Tgt target true)
    (hn:∀ a b,target≠.Name a b) (si:SeqIt k.w.params y.g y.s.heap src n I) (he:IsEnum y.s.heap e I n old) (hei:e≠I) (hl:n<=src.2.length) :
    wpAny (model prog k.w) A (pyNext (.ref e)) (GoOn target A (.ref e) Qn K E' k.w) E y.s:=by
  have me:e∈[e,I]:=List.mem_cons_self
  have mI:I∈[e,I]:=List.mem_cons_of_mem _ List.mem_cons_self
  refine si.now (A:=A.in1) hh st (L.mine.new I mI) λa xs T r ha hne t0 _ W back=>?_
  have hea:e≠a:=λq=>ha.elim (λm=>(L.mine.new e me).φ (q▸m)) λm=>(L.mine.new e me).β (q▸m)
  have hIa:e∉[I,a]:=λm=>(List.mem_cons.mp m).elim hei λm=>hea (List.mem_singleton.mp m)
  by_cases hn':n<xs.length
  · refine wpAny_size (wpAny_pyNext_enum_itemD W he t0 hn' hei hIa λv h' tk hv ho t1 hT hsz q hz=>?_)
    obtain ⟨u,hu,ru⟩:=seq_lt r hn' hv
    cases ht with
    | name a b=>exact absurd rfl (hn a b)
    | tup=>
      refine wpAny_letOwnedTupleGo_enum (s:={ y.s with heap:=h',toks:=tk+1 }) ho λh2 he2 hs2=>?_
      have k':∀ b o,b∉[e,I]->y.s.heap.get? b=some o->h2.get? b=some o:=λb o hb eo=>(hs2.2 b (not_two hb).1).trans (q b o (not_two hb).1 (not_two hb).2 eo)
      have t2:T (n+1) h2:=W.frame _ _ _ t1 λb hb o eo=>(hs2.2 b (λq=>hIa (q▸hb))).trans eo
      have gT:h2.get? y.s.heap.objs.size=some (tupO [.int n tk,v]):=(hs2.2 _ (λq=>Nat.lt_irrefl _ (Nat.lt_of_le_of_lt (Nat.le_of_eq q) (L.mine.lt e me)))).trans hT
      refine D.item (as:=[y.s.heap.objs.size]) L (enum_get hu) k' (by rw [hs2.1];exact hz) (λ_=>one_in) (λa m=>⟨_,List.mem_singleton.mp m▸gT⟩) ?_ ?_
      · exact .tup List.mem_cons_self gT (.cons (.int _ _) (.cons (ru.mono (.frozen (kφ L k'))) .nil))
      · exact .enum ((back _ _ t2 (kφ L k')).keep (.froz λ_ _ e=>e) λ_ e=>e) he2 hei (r.len▸hn')
  · obtain ⟨rfl,e'⟩:=seq_end r hl hn'
    exact wpAny_size (wpAny_pyNext_enum_endD W he t0 λh' q hz=>D.over (tk:=y.s.toks) L (enum_none e') (λb o hb eo=>q b o (not_two hb).2 eo) hz)
noncomputable def Fits (own:List Addr) (target:Expr):Prop:=own.length=2->Tgt target true/\∀ a b,target≠.Name a b
theorem Loop.draw (L:Loop Z x y src it n own) (hh:A.handled=none) (st:∀ r,src.1=some r->listAt y.μ r.1=some r.2) (ht:Tgt target two) (hf:Fits own target) (D:Draw Z x y src it n own Qn K) :
    wpAny (model prog k.w) A (pyNext it) (GoOn target A it Qn K E' k.w) E y.s:=by
  obtain ⟨af,ow,_,i⟩:=id L
  cases i with
  | seq si hl=>exact D.seq hh L st ht si hl
  | rng hr hl=>exact D.rng hh L ht hr hl
  | nod _ g hk=>exact D.nod hh L g hk
  | enum si he hei hl=>exact D.enum hh L st (hf rfl).1 (hf rfl).2 si he hei hl
theorem Loop.afterZ {Z':List Addr} (L:Loop Z x y src it n own) (f:After Z' y z) (nφ:∀ a∈Z',a∉y.g.φ) (no:∀ a∈own,a∉Z') (a0:After Z x z):Loop Z x z src it n own:=
  ⟨a0,L.mine.after f,L.ge,L.iter.keep (y.staysZ f nφ) λa m o e=>(L.mine.new a m).same f (no a m) e⟩
theorem Loop.after (L:Loop Z x y src it n own) (f:After [] y z) (a0:After Z x z):Loop Z x z src it n own:=L.afterZ f (λ_ m=>nomatch m) (λ_ _ m=>nomatch m) a0
end
end
section
open PySem PySem.W PyProof.Rows
section
variable {k:Kx} {c:Cx k} {α X:Type} {Z:List Addr} {x y z:At c} {R:At c->α->X->Prop} {r:Res α} {Q:X->Shared->Prop} {E:Value->Shared->Prop} {K:Shared->Prop} {h:Heap} {e:Value} {a b T:Addr} {o:Obj} {vs:Array Value} {g:Gh}
theorem Hp.funs {B:Heap} {P:Params} {fs:List Env} {μ:List O} (H:Hp B P fs g μ h):∀ l:List Env,(∀ x∈l,x∈fs)->h.FunFrames B l
  | [],_=>trivial
  | x :: r,hl=>
    let ⟨k1,L,k2⟩:=H.kinds x (hl x List.mem_cons_self)
    let ⟨n1,o,es,n,e,dd⟩:=H.frames L (List.mem_filterMap.mpr ⟨x,hl x List.mem_cons_self,k2⟩)
    ⟨k1,⟨L,o,k2,n1,e,λvs q=>by rw [dd] at q;cases q⟩,H.funs r λy hy=>hl y (List.mem_cons_of_mem _ hy)⟩
theorem frame_of {S:Value->Shared->Prop} {A:Around} (hA:A.frames=some c.fs) {L:Addr} (hf:c.env.frame=some L) (q:∀ h',Heap.SlotsOnly (frs c.fs) y.s.heap h'->S (.ref L) (y.to h' y.s.toks)) :
    wpAny (model prog k.w) A (PySem.frameOf c.env) S E y.s:=by
  obtain ⟨e,r,he,hfe⟩:=c.cfg.head
  have hl:=y.st.hp.funs c.fs λ_ m=>m
  unfold PySem.frameOf
  refine wpAny_bind (wpAny_frameEnvs hA ?_)
  rw [show (c.fs.dropWhile λx=>x.frame != c.env.frame)=c.fs by rw [he,hfe,List.dropWhile_cons,bne_self_eq_false];rfl]
  rw [he] at hl ⊢
  refine wpAny_bind (wpAny_bind (wpAny_readyFrames_fun hl λh₁ hs₁=>wpAny_pure ?_))
  rw [←hfe,hf]
  exact wpAny_pure (q h₁ (he▸hs₁))
theorem slots_keep {fs:List Env} {h':Heap} (q:Heap.SlotsOnly (frs fs) h h'):Keeps fs (·∈[]) h h':=λb o _ e=>by
  by_cases m:b∈frs fs
  · obtain ⟨sl,e'⟩:=q.2.2 b o e;exact ⟨sl,e',λn=>absurd m n⟩
  · exact ⟨o.slots,(q.2.1 b m).trans e,λ_=>rfl⟩
theorem Off.new (F:Off x.s.heap.objs.size g a):New c g a:={ x.st.new F.ge with β:=F.β,φ:=F.φ }
theorem FObj.keep {n:Nat} {h':Heap} (F:FObj n g h a o vs) (q:h.get? a=some o->h'.get? a=some o):FObj n g h' a o vs:={ F with at_:=q F.at_ }
structure Step (Z:List Addr) (x y z:At c):Prop where
  af:After Z x z
  μ:z.μ=y.μ
  ρ:z.ρ=y.ρ
  g:z.g=y.g
theorem set_own {A:Around} {i:Nat} {v:Value} (a0:After Z x y) (F:FObj x.s.heap.objs.size y.g y.s.heap a o vs) (hi:i<vs.size)
    (kn:∀ (z:At c) (o':Obj),Step Z x y z->o'.cls=o.cls->FObj x.s.heap.objs.size z.g z.s.heap a o' (vs.setIfInBounds i v)->(∀ b ob,b≠a->y.s.heap.get? b=some ob->z.s.heap.get? b=some ob)->K z.s) :
    wpAny (model prog k.w) A (setField (.ref a) i v) (λ_ s'=>K s') E y.s:=by
  have hs:=Heap.SameBut.update y.s.heap a (Obj.mapFields (·.setIfInBounds i v))
  have n:∀ b∈[a],New c y.g b:=λb m=>List.mem_singleton.mp m▸F.toOff.new
  have q:Keeps c.fs (·∈[a]) y.s.heap (y.s.heap.update a (Obj.mapFields (·.setIfInBounds i v))):=.same λb o nb e=>(hs.2 b λq=>nb (List.mem_singleton.mpr q)).trans e
  have dd:=Obj.data_mapFields F.is (·.setIfInBounds i v)
  exact wpAny_setField F.at_ F.is hi (kn (y.other n y.s.toks q) _ ⟨Aft.other (x:=y) (z:=x) a0 n (λb m=>.inr (List.mem_singleton.mp m▸F.ge)) q (Nat.le_of_eq hs.1.symm),rfl,rfl,rfl⟩ (Obj.cls_mapFields ..)
    { F with at_:=Heap.get?_update_self _ F.at_ (Obj.isFreed_of_fields dd),is:=dd } λb ob nb e=>(hs.2 b nb).trans e)
inductive FlyT (n:Nat) (g:Gh) (h:Heap):Value->Prop
  | mk (a:Addr) (o:Obj) (vs:Array Value) (T:Addr) (F:FObj n g h a o vs) (c:o.cls=.ref 64) (z:2<=vs.size) (e:vs[1]?=some (.ref T)) (t:Tr n g h a T):FlyT n g h (.ref a)
theorem FlyT.fly {n:Nat} (f:FlyT n g h e):Fly n g h e:=let ⟨a,o,vs,T,F,c,z,e,t⟩:=f;⟨a,o,vs,F,c,z,.inr ⟨T,e,t⟩⟩
theorem set_flight {A:Around} {fl:Option Addr} (a0:After Z x y) (f:FlyT x.s.heap.objs.size y.g y.s.heap e) (kn:∀ z,Step Z x y z->FlyT x.s.heap.objs.size z.g z.s.heap e->K z.s):wpAny (model prog k.w) A (setFlight e fl) (λ_ s'=>K s') E y.s:=by
  obtain ⟨a,o,vs,T,F,hc,hz,ht,⟨oT,ts,FT,ne,zt⟩⟩:=f
  exact wpAny_bind (wpAny_field F.at_ F.is ht (wp_t rfl (set_own a0 FT zt λz o' s hc' F' q=>kn z s ⟨a,o,vs,T,by rw [s.g];exact F.keep (q a o ne.symm),hc,hz,ht,⟨_,_,F',ne,by rw [Array.size_setIfInBounds];exact zt⟩⟩)))
theorem Step.trans {w:At c} (p:Step Z x y z) (q:Step Z x z w):Step Z x y w:=⟨q.af,q.μ.trans p.μ,q.ρ.trans p.ρ,q.g.trans p.g⟩
theorem top_entry {A:Around} (hA:A.frames=some c.fs) {L:Addr} (hf:c.env.frame=some L) (a0:After Z x y) (F:FObj x.s.heap.objs.size y.g y.s.heap a o vs) (hc:o.cls=.ref 64) (hz:2<=vs.size) (head:Value) (b:Bool)
    (kn:∀ z,Step Z x y z->FlyT x.s.heap.objs.size z.g z.s.heap (.ref a)->K z.s) :
    wpAny (model prog k.w) A (do setField (.ref a) 1 (←EntryCells.newEntry head (←PySem.frameOf c.env) .none (rawInt L) .none (←entryPlaceOf L b))) (λ_ s'=>K s') E y.s:=by
  refine wpAny_bind (frame_of hA hf λh₁ hs₁=>wpAny_bind (wpAny_entryPlaceOf λpl hpl=>wpAny_bind (wpAny_newObj_type ?_ (hpl.sizeOk5 _ _ _ _ _))))
  generalize hob:({ cls:=.type "traceback",dict:=none,data:=.fields ([head,Value.ref L,.none,rawInt L,.none]++(if pl.isEmpty then List.replicate 6 Value.none else pl)).toArray }:Obj)=ob
  have hobd:∃ ts,ob.data=.fields ts/\4<=ts.size:=by rw [←hob];exact ⟨_,rfl,by simp⟩
  obtain ⟨ts,hts,zts⟩:=hobd
  have k1:=slots_keep hs₁
  let y1:=y.other (own:=[]) (λ_ m=>nomatch m) y.s.toks k1
  have a1:After Z x y1:=Aft.other (x:=y) (z:=x) (own:=[]) a0 (λ_ m=>nomatch m) (λ_ m=>nomatch m) k1 (Nat.le_of_eq hs₁.1.symm)
  let y2:At c:=y1.grow (h:=h₁.push ob) y.s.toks (push_more ob h₁)
  have a2:After Z x y2:=a1.trans (After.grow (x:=y1) (push_more ob h₁) (push_size ob h₁))
  have F2:FObj x.s.heap.objs.size y2.g y2.s.heap a o vs:=F.keep λe=>push_more ob h₁ _ _ ((hs₁.2.1 a F.toOff.new.frs).trans e)
  have T2:FObj x.s.heap.objs.size y2.g y2.s.heap h₁.objs.size ob ts:={ ge:=a1.size,β:=(y1.st.new (Nat.le_refl _)).β,φ:=(y1.st.new (Nat.le_refl _)).φ,at_:=Heap.get?_push_size h₁ (Obj.isFreed_of_fields hts),is:=hts }
  have ne:h₁.objs.size≠a:=λq=>old_ne ((hs₁.2.1 a F.toOff.new.frs).trans F.at_) (Nat.le_refl _) q.symm
  exact set_own (y:=y2) a2 F2 hz λz o' s hc' F' q=>kn z ⟨s.af,s.μ,s.ρ,s.g⟩ ⟨a,o',_,h₁.objs.size,F',hc'.trans hc,by rw [Array.size_setIfInBounds];exact hz,by simp [show 1<vs.size from hz],⟨_,_,by rw [s.g];exact T2.keep (q _ _ ne),ne,zts⟩⟩
theorem note_frame {A:Around} (hA:A.frames=some c.fs) (a0:After Z x y) (f:Fly x.s.heap.objs.size y.g y.s.heap e) (kn:∀ z,Step Z x y z->FlyT x.s.heap.objs.size z.g z.s.heap e->K z.s):wpAny (model prog k.w) A (noteFrame e c.env) (λ_ s'=>K s') E y.s:=by
  obtain ⟨a,o,vs,F,hc,hz,ht⟩:=f
  obtain ⟨L,hf⟩:∃ L,c.env.frame=some L:=
    let ⟨e,r,he,hfe⟩:=c.cfg.head
    let ⟨_,L,q⟩:=y.st.hp.kinds e (he▸List.mem_cons_self)
    ⟨L,hfe.trans q⟩
  unfold noteFrame
  rw [hf]
  rcases ht with ht | ⟨T,ht,⟨oT,ts,FT,ne,zt⟩⟩
  · exact wpAny_bind (wpAny_field F.at_ F.is ht (wp_f Bool.false_ne_true (top_entry hA hf a0 F hc hz _ _ kn)))
  · obtain ⟨x3,hx3⟩:∃ x,ts[3]?=some x:=⟨_,Array.getElem?_eq_getElem zt⟩
    refine wpAny_bind (wpAny_field F.at_ F.is ht (wp_t rfl (wpAny_bind (wpAny_field FT.at_ FT.is hx3 (wpAny_ite_split (λ_=>?_) λ_=>?_)))))
    · exact wpAny_pure (kn y ⟨a0,rfl,rfl,rfl⟩ ⟨a,o,vs,T,F,hc,hz,ht,⟨oT,ts,FT,ne,zt⟩⟩)
    · exact wpAny_bind (set_own a0 FT zt λz o' s hc' F' q=>top_entry hA hf s.af (by rw [s.g];exact F.keep (q a o ne.symm)) hc hz _ _ λw s'=>kn w (s.trans s'))
theorem Post.noted (p:Post Z x R r Q E):Post Z x R r Q (notedBy (model prog k.w) c.A c.env (λe s'=>cameBackBy (model prog k.w) c.A c.env E e s')):=by
  cases r with
  | ok a μ ρ=>exact p
  | fail=>exact p
  | exc μ ρ=>
    refine λy e f e1 e2 fl=>note_frame c.cfg.frames f fl λz s fl=>?_
    have fl':=fl
    obtain ⟨a,o,vs,T,F,_,_,ht,_⟩:=fl'
    exact wpAny_bind (wpAny_field F.at_ F.is ht (wp_f Bool.false_ne_true (set_flight s.af fl λw s' fl=>p w _ s'.af (s'.μ.trans (s.μ.trans e1)) (s'.ρ.trans (s.ρ.trans e2)) fl.fly)))
end
end
section
open PySem PySem.W PyProof.Rows
open AutoSeq1 (wpAny_loadPart')
theorem pure_any {M:Model} {A:Around} {α:Type} {a:α} {Q:α->Shared->Prop} {E:Value->Shared->Prop} {s:Shared} (h:∀ b,Q b s):wpAny M A (pure a:Sem α) Q E s:=wpAny_pure (h a)
theorem meets_enum_tuple (l:Addr) (items:Array Value) (n:Nat) :
    Meets (Builtin.«enumerate.__new__» ⟨[.type "enumerate",.ref l],[]⟩) (λ_ R s=>s.heap.get? l=some { cls:=.type "tuple",dict:=none,data:=.seq items n,slots:=#[] } /\
      R (.ok (.ret (.ref (s.heap.push { cls:=.type "tuple_iterator",data:=.fields #[.ref l,.int 0 0] }).objs.size)))
        { s with heap:=(s.heap.push { cls:=.type "tuple_iterator",data:=.fields #[.ref l,.int 0 0] }).push { cls:=.type "enumerate",data:=.fields #[.none,.bool false,.ref s.heap.objs.size,rawInt 0,.none,.none] } }):=
  .of_wp λprog w A R s h=>by
    obtain ⟨hp,g,d,tk,os⟩:=s;obtain ⟨hl,h⟩:=h
    have hsub:=sub_enumerate
    have hL:Heap.IsTuple (Shared.heap ⟨hp,g,d,tk,os⟩) l items:=⟨_,hl,rfl,n,rfl⟩
    wp_walk using wpAny_loadPart' hl
    refine wpAny_stack_any λst=>pure_any λb=>?_
    cases b
    · wp_walk using wpAny_loadPart' hl,wpAny_pyIter_tuple hL
      exact ⟨_,rfl,h⟩
    · wp_walk using wpAny_loadPart' hl,wpAny_pyIter_tuple hL
      exact ⟨_,rfl,h⟩
section
variable {k:Kx} {c:Cx k} {Z:List Addr} {x y z:At c} {α X:Type} {R:At c->α->X->Prop} {S:X->Shared->Prop} {Q:Value->Shared->Prop} {E:Value->Shared->Prop} {v:V} {u:Value} {n:Nat} {src:Src} {own:List Addr} {ob:Obj} {t:Expr} {h:Heap} {a:Addr}
theorem call_enum_tuple {s:Shared} {A:Around} {items:Array Value} (hl:s.heap.get? a=some { cls:=.type "tuple",dict:=none,data:=.seq items n,slots:=#[] })
    (q:∀ h',IsEnum h' (s.heap.objs.size+1) s.heap.objs.size 0 .none->h'.IsTupleIter s.heap.objs.size a 0->h'.objs.size=s.heap.objs.size+2 ->
      (∀ b o,s.heap.get? b=some o->h'.get? b=some o)->Q (.ref (s.heap.objs.size+1)) { s with heap:=h' }) :
    wpAny (model prog k.w) A (call (.type "enumerate") [.ref a]) Q E s:=by
  have hz:(s.heap.push { cls:=.type "tuple_iterator",data:=.fields #[.ref a,.int 0 0] }).objs.size=s.heap.objs.size+1:=Heap.size_push ..
  refine callType_new F.called_enumerate (by decide) (F.typeCall_enumerate_1 _) (F.newCall_enumerate_1 _) (λobj=>F.args_object_init_2 obj _) F.entry_enumerate_new
    (meets_enum_tuple a items n) ⟨hl,?_⟩
  rw [hz]
  have he:=Heap.get?_push_size (s.heap.push { cls:=.type "tuple_iterator",data:=.fields #[.ref a,.int 0 0] })
      (o:={ cls:=.type "enumerate",data:=.fields #[.none,.bool false,.ref s.heap.objs.size,rawInt 0,.none,.none] }) rfl
  rw [hz] at he
  exact ⟨⟨_,he,rfl⟩,q _ he ⟨_,push_more _ _ _ _ (Heap.get?_push_size _ rfl),rfl,rfl⟩ (by rw [Heap.size_push,hz]) λb o x=>push_more _ _ _ _ (push_more _ _ _ _ x)⟩
inductive RI (n:Nat) (t:Expr) (y:At c) (src:Src) (v:Value):Prop
  | mk (own:List Addr) (ge:∀ a∈own,n<=a) (O:Own c y.g y.s.heap.objs.size own) (i:ItAt k.w.params y.g y.s.heap own src 0 v) (f:Fits own t)
theorem Post.iter (p:Post Z x (RI n t) (.ok src x.μ x.ρ) Q E) (hn:n<=x.s.heap.objs.size) (q:∀ b o,x.s.heap.get? b=some o->h.get? b=some o) (ge:∀ a∈own,x.s.heap.objs.size<=a) (lt:∀ a∈own,a<h.objs.size) (hs:x.s.heap.objs.size<=h.objs.size) (f:Fits own t)
    (i:ItAt k.w.params x.g h own src 0 u):Q u (x.to h x.s.toks):=
  p (x.grow x.s.toks q) u (After.grow q hs) rfl rfl ⟨own,λa m=>Nat.le_trans hn (ge a m),⟨lt,λa m=>x.st.new (ge a m)⟩,i,f⟩
theorem not_fits {a:Addr}:Fits [a] t:=λh=>nomatch h
theorem Post.iter1 (p:Post Z x (RI n t) (.ok src x.μ x.ρ) Q E) (hn:n<=x.s.heap.objs.size) (i:ItAt k.w.params x.g (x.s.heap.push ob) [x.s.heap.objs.size] src 0 (.ref x.s.heap.objs.size)):Q (.ref x.s.heap.objs.size) (x.to (x.s.heap.push ob) x.s.toks):=
  p.iter hn (push_more ob _) (λ_=>one_in) (λa m=>List.mem_singleton.mp m▸(by rw [Heap.size_push];exact Nat.lt_succ_self _)) (push_size ob _) not_fits i
theorem made_iter {h:Heap} (T:String) (vs:Array Value):∃ o,(h.push { cls:=.type T,data:=.fields vs }).get? h.objs.size=some o/\o.cls=.type T/\o.data=.fields vs:=⟨_,Heap.get?_push_size _ rfl,rfl,rfl⟩
theorem fit62_of {i:Int} (e:fit62 i=true):-4611686018427387904<=i/\i<4611686018427387904:=⟨of_decide_eq_true (and_t e).1,of_decide_eq_true (and_t e).2⟩
theorem rng_iter {lo hi:Int} {t' w w':Tok} (hn:n<=x.s.heap.objs.size) (ok:rngOk lo hi=true) (g:x.s.heap.get? a=some (rngO lo hi t' w w')) (p:Post Z x (RI n t) (.ok (none,rngList lo hi) x.μ x.ρ) Q E):WP c (pyIter (.ref a)) Q E x.s:=by
  have h1:=fit62_of (and_t (and_t ok).1).2
  have h2:=fit62_of (and_t ok).2
  have h3:(hi - lo).toNat<=16777216:=of_decide_eq_true (and_t (and_t ok).1).1
  refine wpAny_pyIter_range g (small_one (by lia) (by lia) (by lia) (by lia)) (p.iter1 hn (.rng ?_ (Nat.zero_le _)))
  have e:Builtin.Range.rangeSize lo hi 1=((hi - lo).toNat:Int):=by rw [rangeSize_one];split <;> lia
  rw [e]
  unfold IsRangeIter
  rw [Heap.get?_push_size _ rfl]
  simp
theorem src_iter (hn:n<=x.s.heap.objs.size) (r:x.is v u) (p:Post Z x (RI n t) (srcM v x.μ x.ρ) Q E):WP c (pyIter u) Q E x.s:=by
  refine p.rd λsrc e p=>?_
  cases v with
  | tup vs=>cases e;exact r.isTup rfl λa xs m g r=>wpAny_pyIter_tuple (items:=xs.toArray) ⟨_,g,rfl,_,rfl⟩ (p.iter1 hn (.seq (.tup m (push_more _ _ _ _ g) (r.mono (.more (push_more _ _))) (made_iter _ _)) (Nat.zero_le _)))
  | lst vs=>
    cases e
    cases r.out with | mk a m l=>
    have l':=l
    obtain ⟨xs,_,g,_⟩:=l'
    exact wpAny_pyIter_list (items:=xs.toArray) (PySem.IsL.isList g) (p.iter1 hn (.seq (.lst m (l.mono (.more (push_more _ _)) m) (made_iter _ _)) (Nat.zero_le _)))
  | ref i=>
    obtain ⟨vs,hl,rfl⟩:=Option.map_eq_some_iff.mp e
    refine r.isRef rfl λp' hp=>?_
    obtain ⟨_,xs,_,g,_⟩:=x.lst hp hl
    exact wpAny_pyIter_list (items:=xs.toArray) (PySem.IsL.isList g) (p.iter1 hn (.seq (.ref hp (made_iter _ _)) (Nat.zero_le _)))
  | rng lo hi=>
    obtain ⟨ok,e⟩:=if_at (b:=rngOk lo hi=true) e
    cases e
    exact r.isRng rfl λa _ _ _ m g=>rng_iter hn ok g p
  | dct ks vs=>
    obtain ⟨hk,e⟩:=if_at (b:=ks.isEmpty=true) e
    cases e
    refine r.isDct rfl λa m H=>?_
    obtain ⟨es,n',g,_,re⟩:=H
    cases List.isEmpty_iff.mp hk
    cases List.length_eq_zero_iff.mp re.len
    exact wpAny_pyIter_dict (knd:=intKind prog k.w) (x.st.hp.low a (.inl m)) (kvs:=[]) ⟨_,_,g,⟨rfl,rfl,rfl⟩,rfl,(λe he=>nomatch he),.nil,List.nodup_nil⟩ (p.iter1 hn (.nod m (push_more _ _ _ _ g) (made_iter _ _)))
  | _=>cases e
theorem enum_iter {es:List Expr} {w} {ps:Pos} (hn:n<=x.s.heap.objs.size) {vs:List V} {us:List Value} (r:x.are vs us) (p:Post Z x (RI n (.Tuple es w ps)) (enumM vs x.μ x.ρ) Q E):WP c (call (.type "enumerate") us) (λy s₁=>WP c (pyIter y) Q E s₁) E x.s:=by
  have fin:∀ {src:Src} {h':Heap},IsEnum h' (x.s.heap.objs.size+1) x.s.heap.objs.size 0 .none->SeqIt k.w.params x.g h' src 0 x.s.heap.objs.size->h'.objs.size=x.s.heap.objs.size+2->(∀ b o,x.s.heap.get? b=some o->h'.get? b=some o) ->
      Post Z x (RI n (.Tuple es w ps)) (.ok (src.1,enumFrom 0 src.2) x.μ x.ρ) Q E->WP c (pyIter (.ref (x.s.heap.objs.size+1))) Q E (x.to h' x.s.toks):=λ{src h'} he si hz q p=>
    wpAny_pyIter_enum he (p.iter (own:=[x.s.heap.objs.size+1,x.s.heap.objs.size]) hn q
      (λa m=>(List.mem_cons.mp m).elim (λe=>e▸Nat.le_succ _) one_in)
      (λa m=>(List.mem_cons.mp m).elim (λe=>by rw [e,hz];exact Nat.lt_succ_self _) λm=>by rw [List.mem_singleton.mp m,hz];exact Nat.lt_succ_of_lt (Nat.lt_succ_self _))
      (by rw [hz];exact Nat.le_add_right _ _) (λ_=>⟨.tup es w ps,λ_ _=>nofun⟩) (.enum si he (Nat.succ_ne_self _) (Nat.zero_le _)))
  cases r with
  | nil=>exact p.elim
  | cons r r'=>cases r' with
    | cons=>exact p.elim
    | @nil=>
      rename_i v u
      refine (show Post Z x (RI n (.Tuple es w ps)) (rdM (λμ=>(eseqOf μ v).map λs=>(s.1,enumFrom 0 s.2)) x.μ x.ρ) Q E from p).rd λs' e' p=>?_
      obtain ⟨src,e,rfl⟩:=Option.map_eq_some_iff.mp e'
      clear e'
      cases v with
      | tup vs=>cases e;exact r.isTup rfl λa xs m g r=>call_enum_tuple g λh' he hI hz q=>fin (src:=(none,vs)) he (.tup m (q _ _ g) (r.mono (.more q)) hI) hz q p
      | lst vs=>
        cases e
        cases r.out with | mk a m l=>
        have l':=l
        obtain ⟨xs,_,g,_⟩:=l'
        exact call_enumerate_list (items:=xs.toArray) (PySem.IsL.isList g) λh' he hI hz q=>fin (src:=(none,vs)) he (.lst m (l.mono (.more q) m) hI) hz q p
      | ref i=>
        obtain ⟨vs,hl,rfl⟩:=Option.map_eq_some_iff.mp e
        refine r.isRef rfl λp' hp=>?_
        obtain ⟨_,xs,_,g,_⟩:=x.lst hp hl
        exact call_enumerate_list (items:=xs.toArray) (PySem.IsL.isList g) λh' he hI hz q=>fin (src:=(some (i,vs),vs)) he (.ref hp hI) hz q p
      | _=>cases e
theorem iter_self (it:ItAt k.w.params y.g y.s.heap own src n u) {A:Around} (q:Q u y.s):wpAny (model prog k.w) A (pyIter u) Q E y.s:=by
  cases it with
  | seq a _=>cases a with
    | ref _ b=>exact wpAny_pyIter_listiter b q
    | lst _ _ b=>exact wpAny_pyIter_listiter b q
    | tup _ _ _ b=>exact wpAny_pyIter_tupleiter b q
  | rng a _=>exact wpAny_pyIter_rangeiter a q
  | nod _ _ b=>exact wpAny_pyIter_keyiter b q
  | enum _ b _ _=>exact wpAny_pyIter_enum b q
end
end
section
open PySem PySem.W PyProof.Rows
section
variable {k:Kx} {c:Cx k} {Z:List Addr} {x y z:At c} {α X Y:Type} {R:At c->α->X->Prop} {E:Value->Shared->Prop} {v:V} {u:Value} {n:Nat} {src:Src} {own:List Addr} {t:Expr} {two:Bool} {it:Value} {Q:Flow->Shared->Prop}
inductive RF (x:At c):Fl->Flow->Prop
  | next:RF x .next .next
  | brk:RF x .brk .brk
  | cont:RF x .cont .cont
  | ret {v:V} {u:Value}:x.is v u->RF x (.ret v) (.ret u)
noncomputable abbrev Stands (μ:List O) (o:Option (Nat×List V)):Prop:=∀ r,o=some r->listAt μ r.1=some r.2
theorem Post.stillB {S:X->Shared->Prop} {o:Option (Nat×List V)} {f:Unit->M α} {C:Prop} (p:Post Z x R (bindM (stillM o) f y.μ y.ρ) S E) (kn:Stands y.μ o->Post Z x R (f () y.μ y.ρ) S E->C):C:=
  p.rdB λa h p=>kn (λr e=>by rw [e] at h;exact of_decide_eq_true (if_at (b:=isStill y.μ (some r)=true) h).1) p
noncomputable abbrev Back (c:Cx k) (E:Value->Shared->Prop):Value->Shared->Prop:=notedBy (model prog k.w) c.A c.env (λe s'=>cameBackBy (model prog k.w) c.A c.env E e s')
inductive ForInv (x:At c) (src:Src) (it:Value) (own:List Addr) (body:V->M Fl) (Q:Flow->Shared->Prop) (E:Value->Shared->Prop) (j:Nat):Shared->Prop
  | mk (n:Nat) (y:At c) (e:j=src.2.length - n) (L:Loop [] x y src it n own) (p:Post [] x RF (forM (stillM src.1) body (src.2.drop n) y.μ y.ρ) Q E):ForInv x src it own body Q E j y.s
theorem drop_at' {vs:List V} (h:vs[n]?=some v):vs.drop n=v :: vs.drop (n+1):=let ⟨hl,e⟩:=List.getElem?_eq_some_iff.mp h;e▸List.drop_eq_getElem_cons hl
theorem stands_for {S:Flow->Shared->Prop} {body:V->M Fl} {vs:List V} {o:Option (Nat×List V)} (p:Post Z x RF (forM (stillM o) body vs y.μ y.ρ) S E):Stands y.μ o:=by
  cases vs with
  | nil=>exact p.stillB λh _=>h
  | cons=>exact p.stillB λh _=>h
theorem less {m n:Nat} (h:n<m):m - (n+1)<m - n:=by lia
theorem for_of {target:Expr} {body:List Stmt} {bodyM:V->M Fl} (hb:∀ (y:At c) v u,y.is v u->∀ Q E,Post [] y RF (bodyM v y.μ y.ρ) Q E->WP c (assign target c.env u) (λ_ s=>WP c (execs body c.env) Q E s) E y.s)
    (L:Loop [] x y src it 0 own) (ht:Tgt target two) (hf:Fits own target) (p:Post [] x RF (forM (stillM src.1) bodyM src.2 y.μ y.ρ) Q E) :
    codeAny (model prog k.w) c.A (.forLoop target it body [] c.env) (λr s'=>match r with | .ok f=>Q f s' | .error e=>cameBackBy (model prog k.w) c.A c.env E e s') y.s:=by
  refine codeAny_forLoop_any (ForInv x src it own bodyM Q (Back c E)) ?_ _ (.mk 0 y rfl L p.noted)
  rintro j _ ⟨n,y,rfl,L,p⟩
  refine L.draw c.cfg.handled (stands_for p) ht hf ⟨λe z f e1 e2=>?_,λv e z u f e1 e2 L1 rv=>?_⟩
  · rw [List.drop_eq_nil_of_le (List.getElem?_eq_none_iff.mp e)] at p
    exact p.stillB λ_ p=>wpAny_pure (p z _ (L.hide f) e1 e2 .next)
  · rw [drop_at' e] at p
    refine p.stillB λ_ p=>hb z v u rv _ _ ?_
    rw [←e1,←e2] at p
    refine p.bindB L1.af.size (λw=>L1.af.trans) λa w g f2 rg p=>?_
    have L2:=L1.after f2 (L1.af.trans f2)
    cases rg with
    | next=>exact ⟨_,less (List.getElem?_eq_some_iff.mp e).1,_,w,rfl,L2,p⟩
    | cont=>exact ⟨_,less (List.getElem?_eq_some_iff.mp e).1,_,w,rfl,L2,p⟩
    | brk=>exact p w _ L2.af rfl rfl .next
    | ret r=>exact p w _ L2.af rfl rfl (.ret r)
end
end
section
open PySem PySem.W PyProof.Rows
section
variable {α β:Type} {l:List (Str×α)} {x:Str} {v:α}
theorem lookup_nodup (hn:(l.map (·.1)).Nodup) (hm:(x,v)∈l):l.lookup x=some v:=by
  induction l with
  | nil=>cases hm
  | cons y r ih=>
    obtain ⟨h1,h2⟩:=List.nodup_cons.mp hn
    rw [List.lookup_cons]
    rcases List.mem_cons.mp hm with e | hm
    · rw [←e,beq_self_eq_true]
    · rw [beq_eq_false_iff_ne.mpr λq=>h1 (List.mem_map.mpr ⟨_,hm,q⟩)];exact ih h2 hm
theorem lookup_map (F:Str->α->α):(l.map λy=>(y.1,F y.1 y.2)).lookup x=(l.lookup x).map (F x):=by
  induction l with
  | nil=>rfl
  | cons y r ih=>
    rw [List.map_cons,List.lookup_cons,List.lookup_cons]
    cases h:x==y.1 with
    | true=>rw [eq_of_beq h];rfl
    | false=>exact ih
theorem lookup_none (h:∀ y∈l,y.1≠x):l.lookup x=none:=by
  cases e:l.lookup x with
  | none=>rfl
  | some v=>exact absurd rfl (h _ (mem_of_lookup e))
theorem mapM_all {γ:Type} {f:γ->Option β} {l:List γ} {r:List β} (e:l.mapM f=some r):All2 (λa b=>f a=some b) l r:=by
  induction l generalizing r with
  | nil=>rw [List.mapM_nil] at e;cases e;exact .nil
  | cons a l ih=>
    rw [List.mapM_cons] at e
    obtain ⟨b,hb,e⟩:=Option.bind_eq_some_iff.mp e
    obtain ⟨t,ht,e⟩:=Option.bind_eq_some_iff.mp e
    cases e
    exact .cons hb (ih ht)
end
theorem slot_at {sc:Scope} (hn:(sc.names.map (·.1)).Nodup) {x:Str} {i:Nat} (hi:slotOf sc x=some i):∃ y,(varsOf sc)[i]?=some (x,y)/\sc.names.lookup x=some y:=by
  obtain ⟨hl,he,_⟩:=List.findIdx?_eq_some_iff_getElem.mp hi
  have e:=eq_of_beq he
  exact ⟨_,(List.getElem?_eq_getElem hl).trans (congrArg some (Prod.ext e rfl)),lookup_nodup hn (e▸(List.mem_filter.mp (List.getElem_mem hl)).1)⟩
theorem slot_of {sc:Scope} {x:Str} {y:NameKind} (h:sc.names.lookup x=some y) (hy:y=.local∨y=.cell∨y=.free):∃ i,slotOf sc x=some i:=by
  have m:(x,y)∈varsOf sc:=List.mem_filter.mpr ⟨mem_of_lookup h,by rcases hy with rfl | rfl | rfl <;> rfl⟩
  unfold slotOf
  cases hf:(varsOf sc).findIdx? λy=>y.1==x with
  | some i=>exact ⟨i,rfl⟩
  | none=>exact absurd (beq_self_eq_true x) (Bool.eq_false_iff.mp ((List.findIdx?_eq_none_iff.mp hf) _ m))
theorem isCell_at {sc:Scope} {n:Str} (h:isCellName sc n=true):sc.names.lookup n=some .cell∨sc.names.lookup n=some .free:=(Bool.or_eq_true_iff.mp h).imp eq_of_beq eq_of_beq
noncomputable def clOf (env:Env) (l:List (Str×NameKind)):List (Str×Addr):=((l.filter λx=>x.2==.free).reverse).map λx=>(x.1,(env.cells.lookup x.1).getD 0)
theorem cl_mem {env:Env} {l:List (Str×NameKind)} {y:Str×Addr}:y∈clOf env l↔(y.1,.free)∈l/\y.2=(env.cells.lookup y.1).getD 0:=by
  refine List.mem_map.trans ⟨λ⟨x,hx,e⟩=>?_,λh=>⟨(y.1,.free),List.mem_reverse.mpr (List.mem_filter.mpr ⟨h.1,rfl⟩),Prod.ext rfl h.2.symm⟩⟩
  obtain ⟨h1,h2⟩:=List.mem_filter.mp (List.mem_reverse.mp hx)
  rw [←e]
  exact ⟨show (x.1,NameKind.free)∈l from (eq_of_beq h2:x.2=.free)▸h1,rfl⟩
theorem cl_nodup {env:Env} {l:List (Str×NameKind)} (h:(l.map (·.1)).Nodup):((clOf env l).map (·.1)).Nodup:=by
  unfold clOf
  rw [List.map_map]
  exact List.pairwise_map.mpr (List.pairwise_reverse.mpr (((List.pairwise_map.mp h).imp λe=>Ne.symm e).filter _))
theorem cl_go {env:Env}:∀ (l:List (Str×NameKind)) (acc:List (Str×Addr)),(∀ y∈l,y.2=.free->∃ c,env.cells.lookup y.1=some c) ->
    (forIn l acc λx cs=>(do
      if x.2==NameKind.free then do
        let c ←cellOf env x.1
        pure (ForInStep.yield ((x.1,c) :: cs))
      else pure (ForInStep.yield cs):Sem (ForInStep (List (Str×Addr)))))=(pure (clOf env l++acc):Sem (List (Str×Addr)))
  | [],acc,_=>rfl
  | (n,k) :: r,acc,hy=>by
    have ih:=λacc=>cl_go r acc λy m=>hy y (List.mem_cons_of_mem _ m)
    rw [List.forIn_cons]
    unfold clOf
    rw [List.filter_cons]
    cases hk:k==NameKind.free with
    | true=>
      obtain ⟨c,hc⟩:=hy (n,k) List.mem_cons_self (eq_of_beq hk)
      rw [if_pos rfl,if_pos rfl,List.reverse_cons,List.map_append,List.append_assoc]
      unfold cellOf
      rw [hc]
      refine (ih ((n,c) :: acc)).trans ?_
      rw [show (List.map (λx:Str×NameKind=>(x.1,(env.cells.lookup x.1).getD 0)) [(n,k)])=[(n,c)] by rw [List.map_cons,hc];rfl]
      rfl
    | false=>exact ih acc
theorem closure_eq {scope:Scope} {env:Env} (h:∀ y∈scope.names,y.2=.free->∃ c,env.cells.lookup y.1=some c):closureFor scope env=pure (clOf env scope.names):=by
  have e:=cl_go scope.names [] h
  rw [List.append_nil] at e
  rw [←e]
  exact bind_pure _
structure CompOk (sc inner:Scope):Prop where
  kind:inner.kind=.function
  nodup:(inner.names.map (·.1)).Nodup
  cell:∀ y∈inner.names,y.2≠.cell
  free:∀ y∈inner.names,y.2=.free->isCellName sc y.1=true
  dbg:∀ y∈inner.names,y.1≠Str.ofString "__debug__"
  cld:∀ y∈inner.names,y.1≠Str.ofString "__classdict__"
theorem compOk_at {sc inner:Scope} (ok:compOk sc inner=true):CompOk sc inner:=
  have h:=(and_t ok).2
  have all:=λy m=>List.all_eq_true.mp h y m
  { kind:=of_decide_eq_true (and_t (and_t ok).1).1
    nodup:=of_decide_eq_true (and_t (and_t ok).1).2
    cell:=λy m=>bne_iff_ne.mp (and_t (and_t (and_t (all y m)).1).1).1
    free:=λy m e=>(Bool.or_eq_true_iff.mp (and_t (and_t (and_t (all y m)).1).1).2).elim (λq=>absurd e (bne_iff_ne.mp q)) id
    dbg:=λy m=>bne_iff_ne.mp (and_t (and_t (all y m)).1).2
    cld:=λy m=>bne_iff_ne.mp (and_t (all y m)).2 }
noncomputable abbrev cenvOf (inner:Scope) (C:Addr) (env:Env):Env:=compEnvC inner (clOf env inner.names) C env
section
variable {k:Kx} {c c':Cx k} {Z:List Addr} {x y z:At c} {g':Gh} {s':Shared} {μ':List O} {inner:Scope} {C:Addr} {h:Heap} {ρi:List (Option V)}
noncomputable abbrev Cx.within (c:Cx k) (inner:Scope) (C:Addr):Cx k:=⟨c.fs,inner,cenvOf inner C c.env,c.A,⟨c.cfg.handled,c.cfg.frames,c.cfg.depth,c.cfg.units,c.cfg.head⟩⟩
theorem At.closure (x:At c) (ok:CompOk c.sc inner):∀ y∈inner.names,y.2=.free->∃ a,c.env.cells.lookup y.1=some a:=λy hy hf=>by
  have h:=ok.free y hy hf
  obtain ⟨i,hi⟩:∃ i,slotOf c.sc y.1=some i:=(isCell_at h).elim (λe=>slot_of e (.inr (.inl rfl))) λe=>slot_of e (.inr (.inr rfl))
  obtain ⟨a,_,e,_⟩:=x.st.fr.cel y.1 i h hi
  exact ⟨a,e⟩
theorem At.cell (x:At c) (ok:CompOk c.sc inner) {y:Str×Addr} (hy:y∈clOf c.env inner.names):y∈c.env.cells:=by
  obtain ⟨h1,h2⟩:=cl_mem.mp hy
  obtain ⟨a,ha⟩:=x.closure ok _ h1 rfl
  rw [ha] at h2
  exact mem_of_lookup (ha.trans (congrArg some h2.symm))
theorem relabel_at (e:Env) (n:Str):(cenvOf inner C e).kindOf n=(inner.names.lookup n).map λk=>if k==.free&&e.scope.kind==.function&&e.kindOf n==some .cell then .cell else k:=by
  rw [←lookup_map λn k=>if k==NameKind.free&&e.scope.kind==.function&&e.kindOf n==some .cell then .cell else k]
  refine congrArg (List.lookup n) (List.map_congr_left λ⟨n,k⟩ _=>?_)
  dsimp only
  split <;> rfl
theorem At.inside (x:At c) (ok:CompOk c.sc inner) (hρ:innerρ c.sc inner x.ρ=some ρi) (hC:x.s.heap.objs.size<=C) (q:∀ b o,x.s.heap.get? b=some o->h.get? b=some o) (hn:h.Ns C λ_=>none):St (c.within inner C) x.g x.μ ρi h where
  hp:=(x.st.grow q).hp
  fr:=
    have N:=x.st.new hC
    have F:=x.st.fr
    have all:=mapM_all hρ
    { above:=Nat.le_trans F.above (Nat.le_trans (Nat.le_of_lt F.lt) hC)
      eok:={
        glo:=F.eok.glo,blt:=F.eok.blt,kind:=ok.kind
        own:=λn k hx hf=>by rw [relabel_at,hx];exact congrArg some (if_neg λe=>hf (eq_of_beq (and_t (and_t e).1).1))
        free:=λn hx=>by
          rw [relabel_at,hx]
          show some (if _ then _ else _)=_∨some (if _ then _ else _)=_
          split
          · exact .inr rfl
          · exact .inl rfl
        dbg:=lookup_none ok.dbg
        cld:=lookup_none ok.cld }
      rlen:=all.len
      foff:=λa m=>(List.mem_cons.mp m).elim (λe=>by rw [e];exact ⟨N.β,N.φ,N.B⟩) λm=>let ⟨y,hy,e⟩:=List.mem_map.mp m;F.foff a (List.mem_cons_of_mem _ (List.mem_map.mpr ⟨y,x.cell ok hy,e⟩))
      cfrs:=λy hy=>⟨(F.cfrs y (x.cell ok hy)).1,λe=>N.fa (List.mem_cons_of_mem _ (List.mem_map.mpr ⟨y,x.cell ok hy,e⟩))⟩
      apart:=(List.pairwise_map.mp (cl_nodup ok.nodup)).imp_of_mem λhx hy hne e=>hne (name_of_addr F.apart (x.cell ok hx) (e▸x.cell ok hy))
      cpres:=λy hy=>let ⟨v,e⟩:=F.cpres y (x.cell ok hy);⟨v,e.keeps q⟩
      loc:=⟨_,hn,λn i v hx hi hv=>by
        obtain ⟨y,hy,hl⟩:=slot_at ok.nodup hi
        have e:=all.at hy hv
        cases hx.symm.trans hl
        cases e⟩
      cel:=λn i hx hi=>by
        obtain ⟨y,hy,hl⟩:=slot_at ok.nodup hi
        have hf:y=.free:=(isCell_at hx).elim (λe=>absurd rfl (ok.cell _ (mem_of_lookup e))) λe=>Option.some.inj (hl.symm.trans e)
        subst hf
        have hc:=ok.free _ (mem_of_lookup hl) rfl
        obtain ⟨j,hj⟩:∃ i,slotOf c.sc n=some i:=(isCell_at hc).elim (λe=>slot_of e (.inr (.inl rfl))) λe=>slot_of e (.inr (.inr rfl))
        obtain ⟨a,vo,ha,hcell,r⟩:=F.cel n j hc hj
        refine ⟨a,vo,lookup_nodup (cl_nodup ok.nodup) (cl_mem.mpr ⟨mem_of_lookup hl,by rw [ha];rfl⟩),hcell.keeps q,λv hv=>?_⟩
        obtain ⟨o,ho,e⟩:=Option.bind_eq_some_iff.mp (show ((slotOf c.sc n).bind λi=>x.ρ[i]?).bind (λo=>o.map some)=_ from all.at hy hv)
        obtain ⟨u,rfl,e⟩:=Option.map_eq_some_iff.mp e
        cases e
        obtain ⟨j',hj',ho⟩:=Option.bind_eq_some_iff.mp ho
        cases hj.symm.trans hj'
        obtain ⟨w,hw,rw⟩:=r v ho
        exact ⟨w,hw,rw.mono (.more q)⟩ }
structure Inn {k':Kx} (c:Cx k) (c':Cx k') (n:Nat):Prop where
  fs:∀ e∈c.fs,e∈c'.fs
  frs:∀ a∈frs c'.fs,a∈frs c.fs∨n<=a
  loc:n<=c'.env.locals
  wc:∀ a∈wcells c'.sc c'.env,n<=a
section
variable {k':Kx} {c':Cx k'}
theorem frs_sub {f f':List Env} (h:∀ e∈f,e∈f'):∀ a∈frs f,a∈frs f':=λa m=>let ⟨e,he,q⟩:=List.mem_filterMap.mp m;List.mem_filterMap.mpr ⟨e,h e he,q⟩
theorem Inn.keep (I:Inn c c' x.s.heap.objs.size) (f:Aft c' Z x.g x.s g' s') {b:Addr} {o:Obj} (n:¬(b∈Z∨b∈feet x.g.β)) (e:x.s.heap.get? b=some o):∃ sl,s'.heap.get? b=some { o with slots:=sl }/\(b∉Mine.frs c.fs->sl=o.slots):=
  let ⟨sl,e',z⟩:=f.keep b o (λm=>m.elim (λm=>n (.inl m)) λm=>m.elim (λm=>n (.inr m)) λm=>m.elim (λm=>old_ne e I.loc m) λm=>old_ne e (I.wc b m) rfl) e
  ⟨sl,e',λm=>z λw=>(I.frs b w).elim m λq=>old_ne e q rfl⟩
theorem Inn.out (I:Inn c c' x.s.heap.objs.size) (f:Aft c' Z x.g x.s g' s'):Aft c Z x.g x.s g' s':=
  { f with keep:=λb o n e=>I.keep f (λm=>n (m.imp id .inl)) e }
theorem Inn.back (I:Inn c c' x.s.heap.objs.size) (f:Aft c' Z x.g x.s g' s') (hz:∀ a∈Z,a∉x.g.φ/\a∉fa c.env) (H:Hp k.B k.w.params c'.fs g' μ' s'.heap):St c g' μ' x.ρ s'.heap:=
  have sub:=frs_sub I.fs
  have M:Stays x.g g' x.s.heap s'.heap:=⟨f.slots,f.sub,λa m o e=>by
    obtain ⟨sl,e',w⟩:=I.keep f (λq=>q.elim (λq=>(hz a q).1 m) λq=>(x.st.hp.off a q).1 m) e
    rw [w (x.st.hp.froz a m).1] at e';exact e'⟩
  { hp:={ H with
      off:=λa m=>⟨(H.off a m).1,λq=>(H.off a m).2.1 (sub a q),(H.off a m).2.2⟩
      froz:=λa m=>⟨λq=>(H.froz a m).1 (sub a q),(H.froz a m).2⟩
      kinds:=λe m=>H.kinds e (I.fs e m)
      frames:=λa m=>H.frames a (sub a m) }
    fr:=x.st.fr.keep M (λa m o e=>let ⟨sl,e',_⟩:=I.keep f (λq=>q.elim (λq=>(hz a q).2 m) (x.st.fr.foff a m).1) e;⟨sl,e'⟩) λa m=>by
      obtain ⟨o,e⟩:∃ o,x.s.heap.get? a=some o:=(List.mem_cons.mp m).elim (λq=>by obtain ⟨o,_,_,e,_⟩:=x.st.fr.here;exact ⟨o,q▸e⟩) λq=>let ⟨y,hy,q⟩:=List.mem_map.mp q;let ⟨v,o,e,_⟩:=x.st.fr.cpres y hy;⟨o,q▸e⟩
      exact ⟨f.notin e (x.st.fr.foff a m).1,f.nin e (x.st.fr.foff a m).2.1⟩ }
end
end
end
section
open PySem PySem.W PyProof.Rows
noncomputable def testTree (ifs:List Expr) (env:Env):Sem Bool:=forIn ifs true λc r=>if r=true then do let ok ←isTrue c env (eval c env);pure (ForInStep.yield ok) else pure (ForInStep.yield r)
noncomputable def compBody (tail:Sem Fin->Sem Fin) (t i:Expr) (ifs:List Expr) (it:Value) (again':Sem Fin) (env:Env):Sem Fin:=do
  standAt i.pos
  match ←pyNext it with
  | none=>pure (.done .next)
  | some v=>
    letOwnedTupleGo t it v
    assign t env v
    let ok ←testTree ifs env
    if ok then tail again' else again'
noncomputable def emitL' (elt:Expr) (acc:Value) (env:Env):Sem Unit:=do let _ ←call (.builtin "list.append") [acc,←eval elt env]
noncomputable def emitD' (kx vx:Expr) (D:Addr) (env:Env):Sem Unit:=do
  let kv ←eval kx env
  let vv ←holding [kv] (eval vx env)
  standAt { kx.pos with endLine:=vx.pos.endLine,endCol:=vx.pos.endCol }
  holding [kv,vv] (dictSet D kv vv)
noncomputable def emitTreeL (elt:Expr) (acc:Value) (env:Env) (kont:Sem Fin):Sem Fin:=emitL' elt acc env >>= λ_=>kont
noncomputable def emitTreeD (kx vx:Expr) (D:Addr) (env:Env) (kont:Sem Fin):Sem Fin:=emitD' kx vx D env >>= λ_=>kont
noncomputable def nestTree (e:Expr) (i:Expr) (acc:Value) (env:Env) (kont:Sem Fin):Sem Fin:=do
  let x ←eval i env
  standAt i.pos
  let x ←foldedSetIterable i env x
  let _ ←runOwn (.compStart e 1 (←holding [x] (pyIter x)) acc env) env
  kont
section
variable (elt kx vx t i t2 i2:Expr) (ifs ifs2:List Expr) (scope:Scope) (pos:Pos) (it:Value) (D:Addr) (env:Env)
noncomputable abbrev onceMore (e:Expr) (n:Nat):Sem Fin:=again (.compLoop e n it (.ref D) env)
theorem turn_L1:compTurn (.ListComp elt [⟨t,i,ifs,0⟩] scope pos) 0 it (.ref D) env=compBody (emitTreeL elt (.ref D) env) t i ifs it (onceMore it D env (.ListComp elt [⟨t,i,ifs,0⟩] scope pos) 0) env:=rfl
theorem turn_L2a:compTurn (.ListComp elt [⟨t,i,ifs,0⟩,⟨t2,i2,ifs2,0⟩] scope pos) 0 it (.ref D) env=compBody (nestTree (.ListComp elt [⟨t,i,ifs,0⟩,⟨t2,i2,ifs2,0⟩] scope pos) i2 (.ref D) env) t i ifs it (onceMore it D env (.ListComp elt [⟨t,i,ifs,0⟩,⟨t2,i2,ifs2,0⟩] scope pos) 0) env:=rfl
theorem turn_L2b:compTurn (.ListComp elt [⟨t,i,ifs,0⟩,⟨t2,i2,ifs2,0⟩] scope pos) 1 it (.ref D) env=compBody (emitTreeL elt (.ref D) env) t2 i2 ifs2 it (onceMore it D env (.ListComp elt [⟨t,i,ifs,0⟩,⟨t2,i2,ifs2,0⟩] scope pos) 1) env:=rfl
theorem turn_D1:compTurn (.DictComp kx vx [⟨t,i,ifs,0⟩] scope pos) 0 it (.ref D) env=compBody (emitTreeD kx vx D env) t i ifs it (onceMore it D env (.DictComp kx vx [⟨t,i,ifs,0⟩] scope pos) 0) env:=rfl
theorem turn_D2a:compTurn (.DictComp kx vx [⟨t,i,ifs,0⟩,⟨t2,i2,ifs2,0⟩] scope pos) 0 it (.ref D) env=compBody (nestTree (.DictComp kx vx [⟨t,i,ifs,0⟩,⟨t2,i2,ifs2,0⟩] scope pos) i2 (.ref D) env) t i ifs it (onceMore it D env (.DictComp kx vx [⟨t,i,ifs,0⟩,⟨t2,i2,ifs2,0⟩] scope pos) 0) env:=rfl
theorem turn_D2b:compTurn (.DictComp kx vx [⟨t,i,ifs,0⟩,⟨t2,i2,ifs2,0⟩] scope pos) 1 it (.ref D) env=compBody (emitTreeD kx vx D env) t2 i2 ifs2 it (onceMore it D env (.DictComp kx vx [⟨t,i,ifs,0⟩,⟨t2,i2,ifs2,0⟩] scope pos) 1) env:=rfl
end
inductive IsComp:Expr->Prop
  | list {elt:Expr} {gens:List Comprehension} {sc:Scope} {pos:Pos}:IsComp (.ListComp elt gens sc pos)
  | dict {kx vx:Expr} {gens:List Comprehension} {sc:Scope} {pos:Pos}:IsComp (.DictComp kx vx gens sc pos)
section
variable {k:Kx} {c:Cx k} {Z:List Addr} {x y z:At c} {α X Y:Type} {R:At c->α->X->Prop} {E:Value->Shared->Prop} {v:V} {u:Value} {n:Nat} {src:Src} {own:List Addr} {e t i:Expr} {ifs:List Expr} {two b:Bool} {it:Value} {D:Addr} {a:Acc}
noncomputable def AccAt (P:Params) (g:Gh) (h:Heap) (b:Bool) (a:Acc) (D:Addr):Prop:=match b with
  | true=>LstAt P g h a.1 D
  | false=>DctAt P g h a.1 a.2 D
theorem AccAt.keep {P:Params} {g g':Gh} {h h':Heap} (r:AccAt P g h b a D) (S:Stays g g' h h') (q:∀ o,h.get? D=some o->h'.get? D=some o):AccAt P g' h' b a D:=match b,r with
  | true,⟨xs,n,e,r⟩=>⟨xs,n,q _ e,r.mono S⟩
  | false,⟨es,n,e,k,r⟩=>⟨es,n,q _ e,k,r.mono S⟩
structure Gat (b:Bool) (D:Addr) (y:At c) (a:Acc):Prop where
  new:New c y.g D
  lt:D<y.s.heap.objs.size
  acc:AccAt k.w.params y.g y.s.heap b a D
theorem Gat.after {Z:List Addr} (G:Gat b D x a) (f:After Z x y) (nD:D∉Z) (nφ:∀ a∈Z,a∉x.g.φ):Gat b D y a where
  new:={ G.new with
    β:=λq=>(f.newβ D q).elim G.new.β λq=>absurd G.lt (Nat.not_lt.mpr q)
    φ:=λq=>(f.newφ D q).elim G.new.φ λq=>absurd G.lt (Nat.not_lt.mpr q) }
  lt:=Nat.lt_of_lt_of_le G.lt f.size
  acc:=G.acc.keep (x.staysZ f nφ) λo e=>G.new.same f nD e
noncomputable abbrev RG (b:Bool) (D:Addr) (y:At c) (a:Acc) (_:Unit):Prop:=Gat b D y a
theorem Gat.gather {a':Acc} {tk:Nat} {h:Heap} {Q:Unit->Shared->Prop} (G:Gat b D y a) (hs:Heap.SameBut D y.s.heap h) (acc:AccAt k.w.params y.g h b a' D) (p:Post [D] y (RG b D) (.ok a' y.μ y.ρ) Q E):Q () (y.to h tk):=
  have n:∀ b∈[D],New c y.g b:=λb m=>List.mem_singleton.mp m▸G.new
  have q:Keeps c.fs (·∈[D]) y.s.heap h:=.same λb o nb e=>(hs.2 b λw=>nb (List.mem_singleton.mpr w)).trans e
  p (y.other n tk q) () (Aft.other (x:=y) (z:=y) .refl n (λ_ m=>.inl m) q (Nat.le_of_eq hs.1.symm)) rfl rfl ⟨G.new,Nat.lt_of_lt_of_le G.lt (Nat.le_of_eq hs.1.symm),acc⟩
theorem Gat.stays {h:Heap} (G:Gat b D y a) (hs:Heap.SameBut D y.s.heap h):Stays y.g y.g y.s.heap h:=⟨λ_ _ e=>e,λ_ m=>m,λb m o e=>(hs.2 b λq=>G.new.φ (q▸m)).trans e⟩
noncomputable abbrev noE:Value->Shared->Prop:=λ_ _=>False
noncomputable abbrev SoT (c:Cx k) (b:Bool) (D:Addr) (tail:Sem Fin->Sem Fin) (m:Acc->M Acc):Prop:=
  ∀ (x:At c) a,Gat b D x a->∀ (kont:Sem Fin) (Q:Fin->Shared->Prop),Post [D] x (RG b D) (m a x.μ x.ρ) (λ_ s'=>WP c kont Q noE s') noE->WP c (tail kont) Q noE x.s
theorem none_in {a:Addr} (m:a∈([]:List Addr)) {C:Prop}:C:=nomatch m
theorem sot_list {elt:Expr} {em:M V} (he:So c RV (eval elt c.env) em):SoT c true D (emitTreeL elt (.ref D) c.env) (λacc=>bindM em λv=>emitL v acc):=λx a G kont Q p=>
  wpAny_bind (wpAny_bind (he x _ _ (p.bindB (Nat.le_refl _) (λ_=>Aft.weak) λv y u f rv p=>p.gd λhl p=>by
    have G:=G.after f (λm=>none_in m) λ_ m=>none_in m
    obtain ⟨xs,n,g,r⟩:=G.acc
    refine wpAny_bind (wpAny_list_append_plain (items:=xs.toArray) ⟨n,g⟩ (λh' hp hs=>wpAny_pure ?_) (by rw [size_len r];exact big_le hl))
    obtain ⟨n',hp⟩:=hp
    rw [List.push_toArray] at hp
    exact G.gather (tk:=y.s.toks) hs ⟨xs++[u],n',hp,RelVs.mono (G.stays hs) (r.snoc rv)⟩ (p.base f.size λz q=>f.weak.trans q))))
theorem sot_dict {kx vx:Expr} {km vm:M V} (hk:So c RV (eval kx c.env) km) (hv:So c RV (eval vx c.env) vm):SoT c false D (emitTreeD kx vx D c.env) (λacc=>bindM km λx=>bindM vm λy=>emitD x y acc):=λx a G kont Q p=>
  wpAny_bind (wpAny_bind (hk x _ _ (p.bindB (Nat.le_refl _) (λ_=>Aft.weak) λu y w f ru p=>wpAny_bind (wpAny_holding (hv y _ _ (p.bindB f.size (λ_ q=>(f.trans q).weak) λv z w' f2 rv p=>wpAny_bind (wpAny_standAt (wpAny_holding (p.opt λpr hpr p=>p.gd λhl p=>
    have G:=G.after (f.trans f2) (λm=>none_in m) λ_ m=>none_in m
    set_key (Nat.le_trans (Nat.le_add_right _ 1) c.u1) G.new.φ G.acc (ru.after f2) rv hpr (of_decide_eq_true hl) λh' tk H hs=>G.gather (tk:=tk) (a':=pr) hs H (p.base (f.trans f2).size λz q=>(f.trans f2).weak.trans q))))))))))
theorem tests_nil:So c RB (testTree [] c.env) (retM true):=λx Q E p=>wpAny_pure (p.now rfl)
theorem tests_no {env:Env}:∀ l:List Expr,(forIn l false λc r=>if r=true then do let ok ←isTrue c env (eval c env);pure (ForInStep.yield ok) else pure (ForInStep.yield r):Sem Bool)=pure false
  | []=>rfl
  | c :: t=>by rw [List.forIn_cons,if_neg Bool.false_ne_true];exact tests_no t
theorem tests_cons {e:Expr} {r:List Expr} {m mr:M Bool} (he:So c RB (isTrue e c.env (eval e c.env)) m) (hr:So c RB (testTree r c.env) mr):So c RB (testTree (e :: r) c.env) (bindM m λb=>if b then mr else retM false):=λx Q E p=>by
  unfold testTree
  rw [List.forIn_cons]
  rw [if_pos rfl]
  refine wpAny_bind (wpAny_bind (he x _ _ (p.bind λb y b' f rb p=>wpAny_pure ?_)))
  cases rb
  cases b with
  | true=>exact hr y _ _ p
  | false=>
    show wpAny _ _ (forIn r false _) _ _ _
    rw [tests_no]
    exact wpAny_pure (p.now rfl)
theorem Post.assoc {β:Type} {S:X->Shared->Prop} {m:M β} {f:β->M Y} {g:Y->M α} (p:Post Z x R (bindM (bindM m f) g y.μ y.ρ) S E):Post Z x R (bindM m (λa=>bindM (f a) g) y.μ y.ρ) S E:=by
  unfold bindM at p ⊢
  cases h:m y.μ y.ρ with
  | ok a μ ρ=>rw [h] at p;exact p
  | exc μ ρ=>rw [h] at p;exact p
  | fail=>rw [h] at p;exact p
inductive CompInv (Z:List Addr) (b:Bool) (D:Addr) (x:At c) (src:Src) (it:Value) (own:List Addr) (turn:V->Acc->M Acc) (Q:Shared->Prop) (j:Nat):Shared->Prop
  | mk (n:Nat) (a:Acc) (y:At c) (e:j=src.2.length - n) (L:Loop Z x y src it n own) (G:Gat b D y a) (p:Post Z x (RG b D) (turnsM (stillM src.1) turn (src.2.drop n) a y.μ y.ρ) (λ_=>Q) noE):CompInv Z b D x src it own turn Q j y.s
theorem stands_turns {b:Bool} {S:Unit->Shared->Prop} {turn:V->Acc->M Acc} {vs:List V} {o:Option (Nat×List V)} (p:Post Z x (RG b D) (turnsM (stillM o) turn vs a y.μ y.ρ) S E):Stands y.μ o:=by
  cases vs with
  | nil=>exact p.stillB λh _=>h
  | cons=>exact p.stillB λh _=>h
noncomputable abbrev SoA (c:Cx k) (t:Expr) (m:V->M Unit):Prop:=∀ (x:At c) v u,x.is v u->Do [] x RU (assign t c.env u) (m v)
noncomputable abbrev turnM (asgM:V->M Unit) (testsM:M Bool) (tailM:Acc->M Acc) (v:V) (a:Acc):M Acc:=bindM (asgM v) λ_=>bindM testsM λb=>if b then tailM a else retM a
theorem comp_turns {cd:Code} {tail:Sem Fin->Sem Fin} {tailM:Acc->M Acc} {asgM:V->M Unit} {testsM:M Bool} {Q:Shared->Prop} (hq:cd.quiet=true) (hA:c.A.under cd=c.A)
    (hden:(model prog k.w).den cd=(compBody tail t i ifs it (again cd) c.env).onRaise (λx=>do noteFrame x c.env;theTreesLotGoes x))
    (hasg:SoA c t asgM) (htests:So c RB (testTree ifs c.env) testsM) (htail:SoT c b D tail tailM) (hZ:D∈Z) (L:Loop Z x y src it 0 own) (hD:D∉own) (ht:Tgt t two) (hf:Fits own t) (G:Gat b D y a)
    (p:Post Z x (RG b D) (turnsM (stillM src.1) (turnM asgM testsM tailM) src.2 a y.μ y.ρ) (λ_=>Q) noE):codeAny (model prog k.w) c.A cd (λr s'=>r=.ok .next/\Q s') y.s:=by
  refine codeAny_loop hq (CompInv Z b D x src it own (turnM asgM testsM tailM) Q) ?_ _ (.mk 0 a y rfl L G p)
  rintro j _ ⟨n,a,y,rfl,L,G,p⟩
  rw [hden,hA]
  refine wpAny_noted (wpAny_mono (E:=noE) ?_ (λ_ _ x=>x) λ_ _ x=>x.elim)
  have noφ:∀ a∈own,a∉y.g.φ:=λa m=>(L.mine.new a m).φ
  have hD1:∀ a∈[D],a∈Z:=λa m=>List.mem_singleton.mp m▸hZ
  have D1:∀ a∈own,a∉[D]:=λa m q=>hD (List.mem_singleton.mp q▸m)
  refine wpAny_bind (wpAny_standAt (wpAny_bind (wpAny_mono (L.draw (E':=noE) c.cfg.handled (stands_turns p) ht hf ⟨λe z f e1 e2=>?_,λv e z u f e1 e2 L1 rv=>?_⟩) (λr s₁ h₁=>match r with
    | none=>wpAny_pure ⟨rfl,h₁⟩
    | some v=>wpAny_bind h₁) λ_ _ x=>x)))
  · rw [List.drop_eq_nil_of_le (List.getElem?_eq_none_iff.mp e)] at p
    exact p.stillB λ_ p=>p z () (L.hide f) e1 e2 (G.after f hD noφ)
  · rw [drop_at' e] at p
    have G1:=G.after f hD noφ
    refine p.stillB λ_ p=>?_
    rw [←e1,←e2] at p
    refine wpAny_bind (hasg z v u rv _ _ (p.assoc.bindB L1.af.size (λ_ q=>L1.af.trans q.weak) λ_ z2 _ f2 _ p=>?_))
    have L2:=L1.after f2 (L1.af.trans f2.weak)
    have G2:=G1.after f2 (λm=>none_in m) λ_ m=>none_in m
    refine wpAny_bind (htests z2 _ _ (p.assoc.bindB L2.af.size (λ_ q=>L2.af.trans q.weak) λb z3 b' f3 hb p=>?_))
    cases hb
    have L3:=L2.after f3 (L2.af.trans f3.weak)
    have G3:=G2.after f3 (λm=>none_in m) λ_ m=>none_in m
    have less:=less (List.getElem?_eq_some_iff.mp e).1
    cases b with
    | false=>exact wpAny_pure ⟨rfl,_,less,.mk (n+1) a z3 rfl L3 G3 p⟩
    | true=>exact htail z3 a G3 _ _ (p.bindB L3.af.size (λ_ q=>L3.af.trans (q.wide hD1)) λa' w _ f4 G4 p=>wpAny_pure ⟨rfl,_,less,.mk (n+1) a' w rfl (L3.afterZ f4 (λa m=>List.mem_singleton.mp m▸G3.new.φ) D1 (L3.af.trans (f4.wide hD1))) G4 p⟩)
end
end
section
open PySem PySem.W PyProof.Rows
noncomputable def finM (b thaw:Bool) (a:Acc):M V:=if b then lstM thaw a.1 else dctM thaw a.1 a.2
section
variable {k:Kx} {c:Cx k} {Z:List Addr} {x y z w:At c} {α X Y:Type} {R:At c->α->X->Prop} {Q':X->Shared->Prop} {E:Value->Shared->Prop} {v:V} {u:Value} {n:Nat} {src:Src} {own:List Addr} {e t i:Expr} {ifs:List Expr} {two b thaw:Bool} {it:Value} {D C:Addr} {a:Acc} {inner:Scope}
noncomputable abbrev SoS (c:Cx k) (t i:Expr) (m:M Src):Prop:=∀ (x:At c) n,n<=x.s.heap.objs.size->∀ Q E,Post [] x (RI n t) (m x.μ x.ρ) Q E->WP c (eval i c.env) (λv s₁=>WP c (pyIter v) Q E s₁) E x.s
theorem start_of {A:Around} {env:Env} {s:Shared} {depth:Nat} {acc:Value} {RR:Result->Shared->Prop} (he:IsComp e) (hcl:((clausesOf e)[depth]?).elim false (·.is_async != 0)=false) (self:∀ {Q:Value->Shared->Prop} {E:Value->Shared->Prop},Q it s->wpAny (model prog k.w) A (pyIter it) Q E s)
    (h0:codeAny (model prog k.w) A (.compLoop e depth it acc env) RR s):codeAny (model prog k.w) A (.compStart e depth it acc env) RR s:=by
  have tree:∀ {Q:PySem.Fin->Shared->Prop} {E:Value->Shared->Prop},Q (.again (.compLoop e depth it acc env)) s->wpAny (model prog k.w) A (compStart e depth it acc env) Q E s:=λq=>by
    unfold compStart
    refine wp_f (by rw [hcl];exact Bool.false_ne_true) (wpAny_bind (wpAny_askSetting (wpAny_ite_split (λ_=>wpAny_bind (wpAny_pure (wpAny_pure q))) λ_=>wpAny_bind (wpAny_rule ?_))))
    split
    · exact wpAny_bind (wpAny_standAt (wpAny_bind (self (wpAny_pure q))))
    · exact wpAny_bind (self (wpAny_pure q))
  cases he with
  | list=>exact codeAny_of_tree (wpAny_notedAt (tree ⟨rfl,h0⟩))
  | dict=>exact codeAny_of_tree (wpAny_notedAt (tree ⟨rfl,h0⟩))
theorem sot_nest {tail2:Sem Fin->Sem Fin} {tailM2:Acc->M Acc} {srcM2:M Src} {asgM:V->M Unit} {testsM:M Bool} (he:IsComp e) (hcl:((clausesOf e)[1]?).elim false (·.is_async != 0)=false) (hns:∀ x,foldedSetIterable i c.env x=pure x)
    (hturn:∀ it,compTurn e 1 it (.ref D) c.env=compBody tail2 t i ifs it (onceMore it D c.env e 1) c.env)
    (ht:Tgt t two) (hsrc:SoS c t i srcM2) (hasg:SoA c t asgM) (htests:So c RB (testTree ifs c.env) testsM) (htail:SoT c b D tail2 tailM2) :
    SoT c b D (nestTree e i (.ref D) c.env) (λa=>bindM srcM2 λs=>turnsM (stillM s.1) (turnM asgM testsM tailM2) s.2 a):=λx a G kont Q p=>by
  refine wpAny_bind (wpAny_mono (hsrc x _ (Nat.le_refl _) _ _ (p.bindB (Nat.le_refl _) (λ_=>Aft.weak) λsrc y it f ri p=>?_)) (λx s1 h1=>wpAny_bind (wpAny_standAt (wpAny_bind (wpAny_of_eq (hns x) (wpAny_bind (wpAny_holding h1)))))) λ_ _ x=>x)
  obtain ⟨own,ge,O,i,hf⟩:=ri
  have G:=G.after f (λm=>none_in m) λ_ m=>none_in m
  refine wpAny_bind (wpAny_runOwn (codeAny_mono (start_of (RR:=λr s'=>r=.ok .next/\WP c kont Q noE s') he hcl (λq=>iter_self i q) ?_) λr s' hr=>?_))
  · exact comp_turns (Z:=[D]) (x:=x) (y:=y) (by cases he <;> rfl) (by cases he <;> rfl) (by rw [←hturn];cases he <;> rfl) hasg htests htail List.mem_cons_self ⟨f.weak,O,λa m=>.inr (ge a m),i⟩ (λm=>absurd ‹Gat b D x a›.lt (Nat.not_lt.mpr (ge D m))) ht hf G p
  · obtain ⟨rfl,q⟩:=hr
    exact q
theorem Post.keepB {m:M α} {γ:Type} {f:α->M γ} {R':At c->γ->Y->Prop} {S:Y->Shared->Prop} {Q:X->Shared->Prop} (p:Post Z x R' (bindM (keepM m) f x.μ x.ρ) S E)
    (kn:∀ a z v,After Z x z->R z a v->Post Z x R' (f a z.μ z.ρ) S E->Q v z.s):Post Z x R (m x.μ x.ρ) Q E:=by
  unfold bindM keepM at p
  cases hm:m x.μ x.ρ with
  | ok a μ ρ=>
    rw [hm] at p
    dsimp only at p
    by_cases h:ρ=x.ρ
    · rw [if_pos h] at p
      exact λz v f e1 e2 r=>kn a z v f r (by rw [e1,e2,h];exact p)
    · rw [if_neg h] at p;exact p.elim
  | exc μ ρ=>rw [hm] at p;exact p
  | fail=>rw [hm] at p;exact p.elim
inductive Inner (c:Cx k) (inner:Scope) (y:At c) (m:M Acc) (K:Acc->List O->Prop):Prop
  | mk (ρi:List (Option V)) (a:Acc) (μ:List O) (ρ:List (Option V)) (h:innerρ c.sc inner y.ρ=some ρi) (e:m y.μ ρi=.ok a μ ρ) (q:K a μ)
theorem Post.innerB {m:M Acc} {f:Acc->M α} (p:Post Z x R (bindM (inComp c.sc inner m) f y.μ y.ρ) Q' E):Inner c inner y m (λa μ=>Post Z x R (f a μ y.ρ) Q' E):=by
  unfold bindM inComp at p
  cases hρ:innerρ c.sc inner y.ρ with
  | none=>rw [hρ] at p;exact p.elim
  | some ρi=>
    rw [hρ] at p
    dsimp only at p
    cases hm:m y.μ ρi with
    | ok a μ ρ=>rw [hm] at p;exact ⟨ρi,a,μ,ρ,hρ,hm,p⟩
    | exc μ ρ=>rw [hm] at p;exact p.elim
    | fail=>rw [hm] at p;exact p.elim
theorem Post.fin {f:V->M α} {K:Prop} (p:Post Z x R (bindM (finM b thaw a) f w.μ w.ρ) Q' E) (af:After Z x w) (ge:x.s.heap.objs.size<=D) (n:New c w.g D) (acc:AccAt k.w.params w.g w.s.heap b a D)
    (kn:∀ v (z:At c),z.s=w.s->After Z x z->(∀ C,New c w.g C->C≠D->New c z.g C)->z.is v (.ref D)->Post Z x R (f v z.μ z.ρ) Q' E->K):K:=by
  have froz:∀ v,RelV k.w.params ⟨w.g.β,[D]++w.g.φ⟩ w.s.heap v (.ref D)->(∃ o,w.s.heap.get? D=some o)->Post Z x R (f v w.μ w.ρ) Q' E->K:=λv r h p=>
    kn v ⟨⟨w.g.β,[D]++w.g.φ⟩,w.μ,w.ρ,w.s,w.st.promote (λa m=>List.mem_singleton.mp m▸n) λa m=>List.mem_singleton.mp m▸h⟩ rfl
      { af with sub:=λa m=>List.mem_append_right _ (af.sub a m),newφ:=λa m=>(List.mem_append.mp m).elim (λm=>.inr (List.mem_singleton.mp m▸ge)) (af.newφ a) }
      (λC N ne=>{ N with φ:=λm=>(List.mem_append.mp m).elim (λm=>ne (List.mem_singleton.mp m)) N.φ }) r p
  have born:∀ o,RelO k.w.params ⟨w.g.β++[(D,none)],w.g.φ⟩ w.s.heap o (D,none)->Post Z x R (f (.ref w.μ.length) (w.μ++[o]) w.ρ) Q' E->K:=λo r p=>
    kn _ ⟨⟨w.g.β++[(D,none)],w.g.φ⟩,_,w.ρ,w.s,w.st.adopt (p:=(D,none)) (λa m=>List.mem_singleton.mp m▸n) (List.nodup_cons.mpr ⟨List.not_mem_nil,List.nodup_nil⟩) r⟩ rfl
      { af with slots:=λi p e=>slots_old _ _ _ (af.slots i p e),newβ:=λa m=>(List.mem_append.mp (feet_append w.g.β [(D,none)]▸m)).elim (af.newβ a) λm=>.inr (List.mem_singleton.mp m▸ge) }
      (λC N ne=>{ N with β:=λm=>(List.mem_append.mp (feet_append w.g.β [(D,none)]▸m)).elim N.β λm=>ne (List.mem_singleton.mp m) }) (.ref (p:=(D,none)) (show (w.g.β++[(D,none)])[w.μ.length]?=_ from w.st.hp.len▸slots_new w.g.β (D,none))) p
  have Mf:Stays w.g ⟨w.g.β,[D]++w.g.φ⟩ w.s.heap w.s.heap:=.froz λ_ _ e=>e
  have Mt:Stays w.g ⟨w.g.β++[(D,none)],w.g.φ⟩ w.s.heap w.s.heap:=.born λ_ _ e=>e
  cases b with
  | true=>
    obtain ⟨xs,n',g,r⟩:=acc
    exact p.gdB λ_ p=>match thaw,p with
      | false,p=>froz _ (.lst List.mem_cons_self ⟨xs,n',g,r.mono Mf⟩) ⟨_,g⟩ p
      | true,p=>born (.list a.1) ⟨rfl,xs,n',g,r.mono Mt⟩ p
  | false=>
    obtain ⟨es,n',g,hk,r⟩:=acc
    exact p.gdB λ_ p=>match thaw,p with
      | false,p=>froz _ (.dct List.mem_cons_self ⟨es,n',g,hk,r.mono Mf⟩) ⟨_,g⟩ p
      | true,p=>born (.dict a.1 a.2) ⟨rfl,es,n',g,hk,r.mono Mt⟩ p
theorem acc_new {s:Shared} {A:Around} {g:Gh} {Q:Value->Shared->Prop} (b:Bool) (q:∀ h',(∀ b o,s.heap.get? b=some o->h'.get? b=some o)->h'.objs.size=s.heap.objs.size+1->AccAt k.w.params g h' b ([],[]) s.heap.objs.size->Q (.ref s.heap.objs.size) { s with heap:=h' }) :
    wpAny (model prog k.w) A (if b then newList [] else newDict) Q E s:=by
  cases b with
  | true=>exact wpAny_newList (q _ (push_more _ _) (Heap.size_push ..) ⟨[],0,Heap.get?_push_size _ rfl,.nil⟩)
  | false=>exact wpAny_newObj_type (q _ (push_more _ _) (Heap.size_push ..) ⟨[],0,Heap.get?_push_size _ rfl,⟨List.nodup_nil,λ_ m=>nomatch m⟩,.nil⟩)
structure CompH (c:Cx k) (inner:Scope) (b:Bool) (e t i:Expr) (ifs:List Expr) (gs:List Comprehension) (srcM:M Src) (tailM:Acc->M Acc) (asgM:V->M Unit) (testsM:M Bool) (two:Bool):Prop where
  he:IsComp e
  hcl:clausesOf e=⟨t,i,ifs,0⟩ :: gs
  ok:compOk c.sc inner=true
  hns:∀ x,foldedSetIterable i c.env x=pure x
  ht:Tgt t two
  hsrc:SoS c t i srcM
  hasg:∀ C,SoA (c.within inner C) t asgM
  htests:∀ C,So (c.within inner C) RB (testTree ifs (cenvOf inner C c.env)) testsM
  tail:∀ C D,∃ tail,(∀ it,compTurn e 0 it (.ref D) (cenvOf inner C c.env)=compBody tail t i ifs it (onceMore it D (cenvOf inner C c.env) e 0) (cenvOf inner C c.env))/\SoT (c.within inner C) b D tail tailM
noncomputable abbrev compM (sc inner:Scope) (b thaw:Bool) (srcM:M Src) (tailM:Acc->M Acc) (asgM:V->M Unit) (testsM:M Bool):M V:=
  bindM (keepM srcM) λs=>bindM (inComp sc inner (turnsM (stillM s.1) (turnM asgM testsM tailM) s.2 ([],[]))) (finM b thaw)
variable {gs:List Comprehension} {srcM:M Src} {tailM:Acc->M Acc} {asgM:V->M Unit} {testsM:M Bool}
theorem New.within {g:Gh} {a:Addr} (N:New c g a) (x:At c) (ok:CompOk c.sc inner) (ne:a≠C):New (c.within inner C) g a:={ N with fa:=λm=>(List.mem_cons.mp m).elim ne λm=>let ⟨y,hy,e⟩:=List.mem_map.mp m;N.fa (List.mem_cons_of_mem _ (List.mem_map.mpr ⟨y,x.cell ok hy,e⟩)) }
theorem inn_within {n:Nat} (ok:CompOk c.sc inner) (hC:n<=C):Inn c (c.within inner C) n:=⟨λ_ m=>m,λ_ m=>.inl m,hC,λa m=>by
  obtain ⟨y,hy,e⟩:=List.mem_filterMap.mp m
  split at e
  · exact absurd rfl (ok.cell _ (mem_of_lookup (eq_of_beq ‹_›)))
  · cases e⟩
theorem comp_of {pos:Pos} {f:V->M α} {Q:Value->Shared->Prop} {use:Option (Value->Sem Unit)} (H:CompH c inner b e t i ifs gs srcM tailM asgM testsM two)
    (p:Post [] x R (bindM (compM c.sc inner b thaw srcM tailM asgM testsM) f x.μ x.ρ) Q' E)
    (kn:∀ v (w:At c) D C m,After [] x w->w.is v (.ref D)->New c w.g C->x.s.heap.objs.size<=C->C<w.s.heap.objs.size->w.s.heap.Ns C m->Post [] x R (f v w.μ w.ρ) Q' E->compPost (model prog k.w) c.A E use Q (.ref D) C (.ok .next) w.s) :
    WP c (comprehension e inner c.env pos (if b then newList [] else newDict) false (eval i c.env) use) Q E x.s:=by
  have o:=compOk_at H.ok
  refine wpAny_comprehension_free H.hcl H.hns (closure_eq (x.closure o)) o.kind (λx hx hl=>lookup_nodup o.nodup (hl▸hx)) ?_
  refine H.hsrc x _ (Nat.le_refl _) _ _ (p.assoc.keepB λsrc y it f1 ri p=>?_)
  obtain ⟨own,ge,O,ia,hf⟩:=ri
  obtain ⟨ρi,a',μ',ρ',hρ,hm,p⟩:=p.assoc.innerB
  refine acc_new (g:=y.g) b λh2 k2 z2 acc2=>wpAny_newFunctionEnv (λx hx=>o.cell x hx) (λ_ m=>nomatch m) (λh3 hn3 hs3=>?_) o.kind
  have hD:y.s.heap.objs.size<h2.objs.size:=by rw [z2];exact Nat.lt_succ_self _
  have hz3:h3.objs.size=h2.objs.size+1:=hs3.1.trans (Heap.size_push ..)
  have k3:∀ b o,h2.get? b=some o->h3.get? b=some o:=λb o e=>(hs3.2 b (Nat.ne_of_lt (Heap.lt_size e))).trans (push_more _ _ _ _ e)
  have k13:∀ b o,y.s.heap.get? b=some o->h3.get? b=some o:=λb o e=>k3 b o (k2 b o e)
  generalize hCe:h2.objs.size=C at hn3
  rw [hCe] at hD hz3
  have hC:y.s.heap.objs.size<=C:=Nat.le_of_lt hD
  let c':=c.within inner C
  let y':At c':=⟨y.g,y.μ,ρi,y.to h3 y.s.toks,y.inside o hρ hC k13 hn3⟩
  have hs:y.s.heap.objs.size<=h3.objs.size:=by rw [hz3];exact Nat.le_succ_of_le hC
  have G:Gat b y.s.heap.objs.size y' ([],[]):=⟨(y.st.new (Nat.le_refl _)).within y o (Nat.ne_of_lt hD),by show _<h3.objs.size;rw [hz3];exact Nat.lt_succ_of_lt hD,acc2.keep (.more k3) λo=>k3 _ o⟩
  have L:Loop (y.s.heap.objs.size :: own) y' y' src it 0 own:=⟨.refl,⟨λa m=>Nat.lt_of_lt_of_le (O.lt a m) hs,λa m=>(O.new a m).within y o (Nat.ne_of_lt (Nat.lt_trans (O.lt a m) hD))⟩,λa m=>.inl (List.mem_cons_of_mem _ m),
    ia.keep (.more k13) λa m o=>k13 a o⟩
  obtain ⟨tail,hturn,htail⟩:=H.tail C y.s.heap.objs.size
  show codeAny _ _ (.compStart e 0 it (.ref y.s.heap.objs.size) c'.env) (compPost (model prog k.w) c.A E use Q (.ref y.s.heap.objs.size) C) y'.s
  refine codeAny_mono (R:=λr s'=>r=.ok .next/\compPost (model prog k.w) c.A E use Q (.ref y.s.heap.objs.size) C (.ok .next) s') (start_of H.he (by rw [H.hcl];rfl) (λq=>iter_self L.iter q) ?_) λr s' hr=>by obtain ⟨rfl,q⟩:=hr;exact q
  refine comp_turns (c:=c') (x:=y') (by cases H.he <;> rfl) (by cases H.he <;> rfl) (by rw [←hturn];cases H.he <;> rfl) (H.hasg C) (H.htests C) htail List.mem_cons_self L (λm=>Nat.lt_irrefl _ (O.lt _ m)) H.ht hf G ?_
  show Post _ _ _ (turnsM _ _ _ _ y.μ ρi) _ _
  rw [hm]
  intro z _ fz e1 e2 Gz
  have I:Inn c c' y.s.heap.objs.size:=inn_within o hC
  have fz':Aft c' (y.s.heap.objs.size :: own) y.g y.s z.g z.s:=
    { fz with size:=Nat.le_trans hs fz.size,keep:=λb o n e=>fz.keep b o n (k13 b o e)
              newβ:=λa m=>(fz.newβ a m).imp id (Nat.le_trans hs),newφ:=λa m=>(fz.newφ a m).imp id (Nat.le_trans hs) }
  let w:At c:=⟨z.g,z.μ,y.ρ,z.s,I.back fz' (λa m=>(List.mem_cons.mp m).elim (λe=>e▸⟨(y.st.new (Nat.le_refl _)).φ,(y.st.new (Nat.le_refl _)).fa⟩) λm=>⟨(O.new a m).φ,(O.new a m).fa⟩) z.st.hp⟩
  have aw:After [] x w:=Aft.hide f1 (I.out fz') λa m=>(List.mem_cons.mp m).elim (λe=>.inr (e▸f1.size)) λm=>.inr (ge a m)
  have old:∀ {a},y.s.heap.objs.size<=a->a∉feet z.g.β->a∉z.g.φ->New c w.g a:=λg h1 h2=>{ y.st.new g with β:=h1,φ:=h2 }
  obtain ⟨m,hm,_⟩:=z.st.fr.loc
  have fC:=z.st.fr.foff C List.mem_cons_self
  refine Post.fin (w:=w) (x:=x) (by rw [e1] at *;exact p) aw f1.size (old (Nat.le_refl _) Gz.new.β Gz.new.φ) Gz.acc λv w2 es f2 keep r p=>?_
  have q:=kn v w2 _ C m f2 r (keep C (old hC fC.1 fC.2.1) (Nat.ne_of_gt hD)) (Nat.le_trans f1.size hC) (by rw [es];exact hm.lt) (by rw [es];exact hm) p
  rw [es] at q
  exact q
end
end
section
open PySem PySem.W PyProof.Rows
noncomputable def Me.val:Me->Value
  | .append=>.builtin "list.append" | .extend=>.builtin "list.extend" | .insert=>.builtin "list.insert" | .pop=>.builtin "list.pop" | .sort=>.builtin "list.sort" | .get=>.builtin "dict.get" | .fn a=>.ref a
noncomputable def Keeps1 (M:Model) (h:Heap) (f:Value):Prop:=∃ k,(k=Keeper.frame∨k=Keeper.machine∨k=Keeper.boundFrame)/\Looks M h (keeperOf f) k
structure Calls (k:Kx):Prop where
  calls:∀ {c:Cx k} (x:At c) {thaw:Bool} {f:V} {vs:List V} {fx:Value} {xs:List Value} {Q E},x.is f fx->x.are vs xs->Post [] x RV (callM k.Φ thaw f vs x.μ x.ρ) Q E->Keeps1 (model prog k.w) x.s.heap fx/\WP c (PySem.call fx xs) Q E x.s
  pick:∀ {c:Cx k} (x:At c) {v:V} {u:Value} {name:Str} {m:Me} {pl:Sem Bool} {Q:Value×List Value->Shared->Prop} {E},x.is v u->pickV v name x.μ=some m->Q (m.val,[u]) x.s->WP c (getMethod u name pl) Q E x.s
  meth:∀ {c:Cx k} (x:At c) {v:V} {vs:List V} {u:Value} {us:List Value} {m:Me} {Q E},x.is v u->x.are vs us->Post [] x RV (methM k.Φ v m vs x.μ x.ρ) Q E->Keeps1 (model prog k.w) x.s.heap m.val/\WP c (PySem.call m.val (u :: us)) Q E x.s
theorem bindM_ret {α:Type} (m:M α):bindM m retM=m:=by
  funext μ ρ
  unfold bindM
  cases m μ ρ <;> rfl
section
variable {k:Kx} {c:Cx k} {x y z:At c} {α X Y:Type} {R:At c->α->X->Prop} {E:Value->Shared->Prop} {v:V} {u:Value} {e t i l r:Expr} {ifs:List Expr} {gs:List Comprehension} {two b thaw:Bool} {inner:Scope} {pos:Pos} {srcM:M Src} {tailM:Acc->M Acc} {asgM:V->M Unit} {testsM:M Bool} {es:List Expr} {n:Nat} {op:Operator}
theorem behind {h:Heap} {C:Addr} {Q:Value->Shared->Prop} {w:At c} {D:Addr} (aw:After [] x w) (N:New c w.g C) (ge:x.s.heap.objs.size<=C) (hs:Heap.SameBut C w.s.heap h):∃ z:At c,z.s=w.to h w.s.toks/\After [] x z/\z.μ=w.μ/\z.ρ=w.ρ/\Stays w.g z.g w.s.heap z.s.heap:=
  have n:∀ b∈[C],New c w.g b:=λb m=>List.mem_singleton.mp m▸N
  have q:Keeps c.fs (·∈[C]) w.s.heap h:=.same λb o nb e=>(hs.2 b λz=>nb (List.mem_singleton.mpr z)).trans e
  ⟨w.other n w.s.toks q,rfl,Aft.other (x:=w) (z:=x) aw n (λb m=>.inr (List.mem_singleton.mp m▸ge)) q (Nat.le_of_eq hs.1.symm),rfl,rfl,⟨λ_ _ e=>e,λ_ m=>m,λb m o e=>(hs.2 b λz=>N.φ (z▸m)).trans e⟩⟩
theorem so_comp (H:CompH c inner b e t i ifs gs srcM tailM asgM testsM two):So c RV (comprehension e inner c.env pos (if b then newList [] else newDict) false (eval i c.env) none) (compM c.sc inner b thaw srcM tailM asgM testsM):=λx Q E p=>by
  rw [←bindM_ret (compM c.sc inner b thaw srcM tailM asgM testsM)] at p
  refine comp_of H p λv w D C m aw r N ge lt hn p=>⟨m,hn,λh' hs=>?_⟩
  obtain ⟨z,e,az,e1,e2,S⟩:=behind (Q:=Q) (D:=D) aw N ge hs
  have q:=p z (.ref D) az e1 e2 (r.mono S)
  rw [e] at q
  exact q
theorem comp_use {use:Value->Sem Unit} {um:V->M Unit} {Q:Unit->Shared->Prop} (H:CompH c inner b e t i ifs gs srcM tailM asgM testsM two) (hu:∀ (x:At c) v u,x.is v u->Do [] x RU (use u) (um v)) (p:Post [] x RU (bindM (compM c.sc inner b thaw srcM tailM asgM testsM) um x.μ x.ρ) Q E) :
    WP c (comprehension e inner c.env pos (if b then newList [] else newDict) false (eval i c.env) (some use)) (λ_=>Q ()) E x.s:=by
  refine comp_of H p λv w D C m aw r N ge lt hn p=>hu w v _ r _ _ ?_
  have p':=p.base aw.size λz=>aw.trans (Z:=[])
  cases hr:um v w.μ w.ρ with
  | ok a μ ρ=>
    rw [hr] at p
    intro w2 _ f2 e1 e2 _
    obtain ⟨o,es,ep,e,rest⟩:=hn
    have N2:New c w2.g C:={ N with β:=λq=>(f2.newβ C q).elim N.β λq=>absurd lt (Nat.not_lt.mpr q),φ:=λq=>(f2.newφ C q).elim N.φ λq=>absurd lt (Nat.not_lt.mpr q) }
    refine ⟨m,⟨o,es,ep,N.same f2 (λm=>none_in m) e,rest⟩,λh' hs=>?_⟩
    obtain ⟨z,e,az,e3,e4,S⟩:=behind (Q:=λ_=>Q ()) (D:=D) (aw.trans f2) N2 ge hs
    have q:=p z () az (e3.trans e1) (e4.trans e2) trivial
    rw [e] at q
    exact q
  | exc μ ρ=>rw [hr] at p';exact p'
  | fail=>rw [hr] at p';exact p'
noncomputable abbrev nestM (srcM2:M Src) (asgM2:V->M Unit) (testsM2:M Bool) (tailM2:Acc->M Acc) (a:Acc):M Acc:=bindM srcM2 λs=>turnsM (stillM s.1) (turnM asgM2 testsM2 tailM2) s.2 a
theorem so_none:So c RV (eval (.Constant .none n pos) c.env) (retM .none):=λx Q E p=>wpAny_Constant_none (p.now .none)
theorem so_bool:So c RV (eval (.Constant (.bool b) n pos) c.env) (retM (.bool b)):=λx Q E p=>wpAny_Constant_bool (p.now (.bool _))
theorem so_int {j:Int}:So c RV (eval (.Constant (.int j) n pos) c.env) (retM (.int j)):=λx Q E p=>wpAny_Constant_int (p.tok _ (.int _ _))
theorem so_str {j:Str}:So c RV (eval (.Constant (.str j) n pos) c.env) (retM (.str j)):=λx Q E p=>wpAny_Constant_str (p.tok _ (.str _ _))
theorem so_name {n:Str}:So c RV (eval (.Name n pos) c.env) (ldM c.sc n):=λx Q E p=>by
  refine wpAny_Name (load_name p) (Bool.eq_false_iff.mpr λhb=>?_)
  rw [eq_of_beq hb] at p
  unfold ldM isVar isOwn isGlob at p
  rw [x.st.fr.eok.dbg] at p
  exact p.elim
noncomputable abbrev SoEs (c:Cx k) (es:List Expr) (m:M (List V)):Prop:=∀ pos,So c RVs (spliced (backTo pos (starEach es c.env))) m
noncomputable def starOf:Expr->Bool | .Starred ..=>true | _=>false
theorem so_nil:SoEs c [] (retM []):=λpos x Q E p=>wpAny_pure (p.now .nil)
theorem star_plain {env:Env} (h:starOf e=false):starEach (e :: es) env=(false,eval e env) :: starEach es env:=by
  cases e <;> first | rfl | cases h
theorem so_cons {m:M V} {ms:M (List V)} (h:starOf e=false) (he:So c RV (eval e c.env) m) (hr:SoEs c es ms):SoEs c (e :: es) (bindM m λv=>bindM ms λvs=>retM (v :: vs)):=λpos x Q E p=>by
  rw [star_plain h]
  show wpAny _ _ (spliced ((false,eval e c.env) :: backTo pos (starEach es c.env))) Q E x.s
  unfold spliced
  refine wpAny_bind (he x _ _ (p.bind λv y u f rv p=>wp_f Bool.false_ne_true (wpAny_bind (wpAny_pure (wpAny_bind (wpAny_holding (hr pos y _ _ (p.bind λvs z us f rs p=>wpAny_pure (p.now (.cons (rv.after f) rs))))))))))
noncomputable def noStars (es:List Expr):Bool:=es.all λe=>!starOf e
theorem noStars_cons (h:noStars (e :: es)=true):starOf e=false/\noStars es=true:=⟨(Bool.not_eq_true' _).mp (and_t h).1,(and_t h).2⟩
theorem plain_any {env:Env}:∀ {es:List Expr},noStars es=true->(backTo pos (starEach es env)).any (·.1)=false
  | [],_=>rfl
  | e :: r,h=>by
    rw [star_plain (noStars_cons h).1]
    exact plain_any (noStars_cons h).2
theorem plain_all {env:Env}:∀ {es:List Expr},noStars es=true->(backTo pos (starEach es env)).all (λx=>!x.1)=true
  | [],_=>rfl
  | e :: r,h=>by
    rw [star_plain (noStars_cons h).1]
    exact plain_all (noStars_cons h).2
theorem args_of {f:Value} {Q:Args->Shared->Prop} {s:Shared} (h:noStars es=true) (q:WP c (spliced (backTo pos (starEach es c.env))) (λvs s₁=>Q ⟨vs,[]⟩ s₁) E s):WP c (evalArgs f true (backTo pos (starEach es c.env)) []) Q E s:=by
  have ne:∀ x,backTo pos (starEach es c.env)≠[(true,x)]:=λx e=>by
    have:=plain_any (pos:=pos) (env:=c.env) h
    rw [e] at this
    cases this
  unfold evalArgs
  generalize backTo pos (starEach es c.env)=l at q ne
  match l,ne,q with
  | [],_,q=>exact wpAny_bind (m:=spliced []) (wpAny_mono q (λvs s₁ h₁=>wpAny_bind (wpAny_pure (wpAny_holding (wpAny_bind (wpAny_pure (wpAny_bind (wpAny_pure (wpAny_pure h₁)))))))) λ_ _ x=>x)
  | [(true,x)],ne,_=>exact absurd rfl (ne x)
  | [(false,x)],_,q=>exact wpAny_bind (m:=spliced [(false,x)]) (wpAny_mono q (λvs s₁ h₁=>wpAny_bind (wpAny_pure (wpAny_holding (wpAny_bind (wpAny_pure (wpAny_bind (wpAny_pure (wpAny_pure h₁)))))))) λ_ _ x=>x)
  | (ba,a) :: b :: r,_,q=>cases ba <;> exact wpAny_bind (wpAny_mono q (λvs s₁ h₁=>wpAny_bind (wpAny_pure (wpAny_holding (wpAny_bind (wpAny_pure (wpAny_bind (wpAny_pure (wpAny_pure h₁)))))))) λ_ _ x=>x)
theorem so_tuple {ms:M (List V)} (hes:SoEs c es ms):So c RV (eval (.Tuple es n pos) c.env) (bindM ms tupM):=λx Q E p=>by
  rw [arm_eval_Tuple]
  exact wpAny_bind (wpAny_standAt (wpAny_bind (hes _ x _ _ (p.bind λvs y us f rs p=>wpAny_newTuple (p.tup (tk:=y.s.toks) rs).2 (p.tup (tk:=y.s.toks) rs).1))))
theorem so_list {ms:M (List V)} (hes:SoEs c es ms):So c RV (eval (.List es pos) c.env) (bindM ms (lstM thaw)):=λx Q E p=>by
  rw [arm_eval_List]
  exact wpAny_bind (wpAny_standAt (wpAny_bind (hes _ x _ _ (p.bind λvs y us f rs p=>wpAny_newList (p.list (tk:=y.s.toks) rs).2 (p.list (tk:=y.s.toks) rs).1))))
theorem so_dict0:So c RV (eval (.Dict [] [] pos) c.env) (dctM thaw [] []):=λx Q E p=>wpAny_Dict_empty (p.dict (es:=[]) (n:=0) ⟨List.nodup_nil,λ_ m=>nomatch m⟩ .nil)
theorem so_bin {ml mr:M V} (hl:So c RV (eval l c.env) ml) (hr:So c RV (eval r c.env) mr):So c RV (eval (.BinOp l op r pos) c.env) (bindM ml λa=>bindM mr λb=>binM thaw op a b):=λx Q E p=>
  wpAny_BinOp (hl x _ _ (p.bind λa y u f ra p=>hr y _ _ (p.bind λb z w f rb p=>op_bin (ra.after f) rb p)))
theorem so_un {op:UnaryOp} {m:M V} (he:So c RV (eval e c.env) m):So c RV (eval (.UnaryOp op e pos) c.env) (bindM m λa=>unM op a):=λx Q E p=>by
  rw [arm_eval_UnaryOp]
  exact wpAny_bind (he x _ _ (p.bind λa y u f ra p=>wpAny_bind (wpAny_standAt (wpAny_holding (op_un ra p)))))
theorem so_not {m:M V} (he:So c RV (eval e c.env) m):So c RV (eval (.UnaryOp .Not e pos) c.env) (bindM (bindM m truthM) λb=>retM (.bool (!b))):=λx Q E p=>by
  rw [arm_eval_UnaryOp]
  refine wpAny_bind (he x _ _ (p.assoc.bind λa y u f ra p=>wpAny_bind (wpAny_standAt (wpAny_holding ?_))))
  show wpAny _ _ (holding [u] (truthy u >>= λb=>pure (Value.bool (!b)))) _ _ _
  refine wpAny_holding (wpAny_bind (op_truth ra (p.bind λb z b' f rb p=>?_)))
  cases rb
  exact wpAny_pure (p.now (.bool _))
theorem so_if {a b:Expr} {mt:M Bool} {ma mb:M V} (ht:So c RB (isTrue t c.env (eval t c.env)) mt) (ha:So c RV (eval a c.env) ma) (hb:So c RV (eval b c.env) mb):So c RV (eval (.IfExp t a b pos) c.env) (bindM mt λc=>if c then ma else mb):=λx Q E p=>
  wpAny_IfExp (ht x _ _ (p.bind λb y b' f rb p=>by
    cases rb
    cases b with
    | true=>exact ha y _ _ p
    | false=>exact hb y _ _ p))
end
end
section
set_option backward.match.sparseCases true
open PySem PySem.W PyProof.Rows
section
variable {k:Kx} {c:Cx k} {x y z:At c} {Z:List Addr} {α X Y:Type} {R:At c->α->X->Prop} {Q:Value->Shared->Prop} {E:Value->Shared->Prop} {a b v:V} {u w:Value} {e t i l r o:Expr} {es:List Expr} {pos:Pos} {m me ml mr:M V} {op op2:CmpOp} {ops:List CmpOp} {n:Nat} {name:Str} {thaw:Bool}
structure SoC (c:Cx k) (a:V) (ops:List CmpOp) (es:List Expr) (m:M Bool):Prop where
  val:∀ pos (x:At c) u,x.is a u->Do [] x RW (compareChain pos u ops (markedEach ops es (evalEach es c.env))) m
  test:∀ pos (x:At c) u,x.is a u->Do [] x RB (testChain pos u ops (markedEach ops es (evalEach es c.env))) m
noncomputable abbrev Unmarked (op:CmpOp) (e:Expr):Prop:=behindInMarks op e=false
theorem marked_of (h:Unmarked op e) (t:Sem Value):markedBehindIn op e t=t:=by unfold markedBehindIn;rw [h]
theorem soc_last (h:Unmarked op e) (he:So c RV (eval e c.env) me):SoC c a [op] [e] (bindM me λb=>cmpM op a b):=
  have hm:markedEach [op] [e] (evalEach [e] c.env)=[eval e c.env]:=congrArg (· :: []) (marked_of h _)
  ⟨λpos x u ra Q E p=>by rw [hm];exact chain_last (he x _ _ (p.bind λb y w f rb p=>op_cmp (ra.after f) rb p)),
   λpos x u ra Q E p=>by
    rw [hm]
    exact test_last (he x _ _ (p.bind λb y w f rb p=>op_cmp (ra.after f) rb (p.mono λd z s (rs:s=.bool d)=>⟨d,rfl,λq=>rs▸wpAny_truthy_bool q⟩)))⟩
theorem soc_link {e2:Expr} {mr:V->M Bool} (he:So c RV (eval e c.env) me) (hr:∀ b,SoC c b (op2 :: ops) (e2 :: es) (mr b)) :
    SoC c a (op :: op2 :: ops) (e :: e2 :: es) (bindM me λb=>bindM (cmpM op a b) λd=>if d then mr b else retM false):=by
  have hm:markedEach (op :: op2 :: ops) (e :: e2 :: es) (evalEach (e :: e2 :: es) c.env)=eval e c.env :: markedEach (op2 :: ops) (e2 :: es) (evalEach (e2 :: es) c.env):=rfl
  obtain ⟨t,ts,hts⟩:∃ t ts,markedEach (op2 :: ops) (e2 :: es) (evalEach (e2 :: es) c.env)=t :: ts:=by cases ops <;> cases es <;> exact ⟨_,_,rfl⟩
  refine ⟨λpos x u ra Q E p=>?_,λpos x u ra Q E p=>?_⟩
  · rw [hm,hts]
    refine chain_link (he x _ _ (p.bind λb y w f rb p=>op_cmp (ra.after f) rb (p.bind λd z s f2 (rs:s=.bool d) p=>?_)))
    rw [rs]
    cases d with
    | true=>exact wpAny_truthy_bool (hts▸(hr b).val pos z w (rb.after f2) _ _ p)
    | false=>exact wpAny_truthy_bool (p.now rfl)
  · rw [hm,hts]
    refine test_link (he x _ _ (p.bind λb y w f rb p=>op_cmp (ra.after f) rb (p.bind λd z s f2 (rs:s=.bool d) p=>?_)))
    rw [rs]
    cases d with
    | true=>exact wpAny_truthy_bool (hts▸(hr b).test pos z w (rb.after f2) _ _ p)
    | false=>exact wpAny_truthy_bool (p.now rfl)
theorem so_compare {mr:V->M Bool} (hl:So c RV (eval l c.env) ml) (hr:∀ b,SoC c b ops es (mr b)):So c RV (eval (.Compare l ops es pos) c.env) (bindM ml λa=>bindM (mr a) λb=>retM (.bool b)):=λx Q E p=>by
  rw [arm_eval_Compare]
  exact wpAny_bind (hl x _ _ (p.bind λa y u f ra p=>(hr a).val _ y u ra _ _ (p.bind λb z w f2 (rw':w=.bool b) p=>rw'▸p.now (.bool b))))
theorem so_test {mr:V->M Bool} (hl:So c RV (eval l c.env) ml) (hr:∀ b,SoC c b ops es (mr b)):So c RB (isTrue (.Compare l ops es pos) c.env (eval (.Compare l ops es pos) c.env)) (bindM ml λa=>mr a):=λx Q E p=>by
  rw [arm_isTrue_Compare]
  exact wpAny_bind (hl x _ _ (p.bind λa y u f ra p=>(hr a).test _ y u ra _ _ p))
noncomputable abbrev SoT? (c:Cx k) (e:Expr) (m:M Bool):Prop:=So c RB (isTrue e c.env (eval e c.env)) m
theorem so_true (he:So c RV (eval e c.env) m) (h:isTrue e c.env (eval e c.env)=(do let v ←eval e c.env;standAt e.pos;holding [v] (truthy v))):SoT? c e (bindM m truthM):=λx Q E p=>
  wpAny_isTrue_value (he x _ _ (p.bind λa y u f ra p=>op_truth ra p)) h
theorem so_tnot {m:M Bool} (he:SoT? c e m):SoT? c (.UnaryOp .Not e pos) (bindM m λb=>retM (!b)):=λx Q E p=>
  wpAny_isTrue_Not (he x _ _ (p.bind λb y b' f rb p=>by cases rb;exact p.now rfl))
theorem so_tif {a b:Expr} {mt ma mb:M Bool} (ht:SoT? c t mt) (ha:SoT? c a ma) (hb:SoT? c b mb):SoT? c (.IfExp t a b pos) (bindM mt λc=>if c then ma else mb):=λx Q E p=>
  show WP c (do if ←isTrue t c.env (eval t c.env) then isTrue a c.env (eval a c.env) else isTrue b c.env (eval b c.env)) Q E x.s from wpAny_bind (ht x _ _ (p.bind λd y d' f rd p=>by
    cases rd
    cases d with
    | true=>exact ha y _ _ p
    | false=>exact hb y _ _ p))
theorem so_tnil {op:BoolOp}:So c RB (allTrue op [] c.env) (retM (op matches .And)):=λx Q E p=>by cases op <;> exact wpAny_pure (p.now rfl)
theorem so_tand {m mr:M Bool} (hx:SoT? c e m) (hr:So c RB (allTrue .And es c.env) mr):So c RB (allTrue .And (e :: es) c.env) (bindM m λb=>if b then mr else retM false):=λx Q E p=>
  wpAny_allTrue_And_cons (hx x _ _ (p.bind λd y d' f rd p=>by
    cases rd
    cases d with
    | true=>exact hr y _ _ p
    | false=>exact p.now rfl))
theorem so_tor {m mr:M Bool} (hx:SoT? c e m) (hr:So c RB (allTrue .Or es c.env) mr):So c RB (allTrue .Or (e :: es) c.env) (bindM m λb=>if b then retM true else mr):=λx Q E p=>
  show WP c (do match BoolOp.Or,←isTrue e c.env (eval e c.env) with | .And,false=>pure false | .Or,true=>pure true | _,_=>allTrue .Or es c.env) Q E x.s from wpAny_bind (hx x _ _ (p.bind λd y d' f rd p=>by
    cases rd
    cases d with
    | true=>exact wpAny_pure (p.now rfl)
    | false=>exact hr y _ _ p))
theorem so_one (hx:So c RV (eval e c.env) m) {op:BoolOp}:So c RV (boolOp pos op (evalEach [e] c.env)) m:=hx
theorem so_and (hx:So c RV (eval e c.env) m) (hr:So c RV (boolOp pos .And (evalEach (t :: es) c.env)) mr):So c RV (boolOp pos .And (evalEach (e :: t :: es) c.env)) (bindM m λv=>bindM (truthM v) λb=>if b then mr else retM v):=λx Q E p=>by
  show WP c (boolOp pos .And (eval e c.env :: eval t c.env :: evalEach es c.env)) Q E x.s
  show WP c (_ >>= _) Q E x.s
  refine wpAny_bind (hx x _ _ (p.bind λv y u f rv p=>wpAny_bind (wpAny_standAt (wpAny_bind (wpAny_holding (op_truth rv (p.bind λd z d' f2 rd p=>?_)))))))
  cases rd
  cases d with
  | true=>exact hr z _ _ p
  | false=>exact wpAny_pure (p.now (rv.after f2))
theorem so_or (hx:So c RV (eval e c.env) m) (hr:So c RV (boolOp pos .Or (evalEach (t :: es) c.env)) mr):So c RV (boolOp pos .Or (evalEach (e :: t :: es) c.env)) (bindM m λv=>bindM (truthM v) λb=>if b then retM v else mr):=λx Q E p=>by
  show WP c (boolOp pos .Or (eval e c.env :: eval t c.env :: evalEach es c.env)) Q E x.s
  show WP c (_ >>= _) Q E x.s
  refine wpAny_bind (hx x _ _ (p.bind λv y u f rv p=>wpAny_bind (wpAny_standAt (wpAny_bind (wpAny_holding (op_truth rv (p.bind λd z d' f2 rd p=>?_)))))))
  cases rd
  cases d with
  | true=>exact wpAny_pure (p.now (rv.after f2))
  | false=>exact hr z _ _ p
inductive Sub (s:Shared) (u:Value):Prop
  | mk (T id:String) (h:s.TypeIs u T) (l:typeLookup (.type T) "__getitem__"=pure (some (.builtin id)))
theorem SeqA.sub {P:Params} {g:Gh} {s:Shared} {vs:List V} (h:SeqA P g s.heap vs u):Sub s u:=by
  cases h with
  | tup a xs e r=>exact ⟨_,_,⟨_,e,rfl⟩,PySem.F.slot_tuple_getitem.lookup⟩
  | lst a l=>obtain ⟨_,_,e,_⟩:=l;exact ⟨_,_,⟨_,e,rfl⟩,slot_list_getitem.lookup⟩
theorem idx_sub (ra:x.is a u) (p:Post Z x RV (idxM a b x.μ x.ρ) Q E):Sub x.s u:=
  p.alt (λq e p=>ra.isDct e λl m H=>⟨_,_,H.typ,PySem.F.slot_dict_getitem.lookup⟩) λ_ p=>p.opt λi hi p=>p.rdB λvs hs p=>(ra.seq hs).sub
noncomputable abbrev Plainly (i:Expr):Prop:=∀ o v,subscripted i false o v=operate [o,v] (getItem o v)
theorem Sub.tail {ops:List Value} (h:subscripted i false u w=operate ops (getItem u w)) (S:Sub x.s u) (q:WP c (getItem u w) Q E x.s):WP c (subscriptTail o i u w) Q E x.s:=
  let ⟨_,_,hT,hl⟩:=S
  tail_any hT hl q h
theorem so_sub {mo mi:M V} (h:Plainly i) (ho:So c RV (eval o c.env) mo) (hi:So c RV (eval i c.env) mi):So c RV (eval (.Subscript o i pos) c.env) (bindM mo λa=>bindM mi λb=>idxM a b):=λx Q E p=>
  Subscript_ (ho x _ _ (p.bind λa y u f ra p=>hi y _ _ (p.bind λb z w f2 rb p=>(idx_sub (ra.after f2) p).tail (h _ _) (op_item (ra.after f2) rb p))))
noncomputable abbrev At.sliced (x:At c) (l u s:Value):At c:=x.grow (h:=x.s.heap.push { cls:=.type "slice",data:=.fields #[l,u,s] }) x.s.toks (push_more _ _)
theorem After.sliced {l u s:Value}:After Z x (x.sliced l u s):=.grow (push_more _ _) (push_size _ _)
theorem is_sliced {l w s:Value} (ra:x.is a u):(x.sliced l w s).is a u:=ra.mono (.more (push_more _ _))
theorem seq_sub {vs:List V} (ra:x.is a u) (h:seqOf x.μ a=some vs):Sub x.s u:=(ra.seq h).sub
theorem alt_sub {f:List V->M V} {f':List V->M V} (ra:x.is a u) (p:Post Z x RV (alt a.tup? f (bindM (lseqM a) f') x.μ x.ρ) Q E):Sub x.s u:=
  p.alt (λvs e p=>ra.isTup e λl xs _ e r=>⟨_,_,⟨_,e,rfl⟩,PySem.F.slot_tuple_getitem.lookup⟩) λ_ p=>p.rdB λvs e p=>ra.lseq e λl H=>(SeqA.lst l H).sub
theorem so_slice_hi {hE:Expr} {sp:Pos} {mo mh:M V} (ho:So c RV (eval o c.env) mo) (hh:So c RV (eval hE c.env) mh):So c RV (eval (.Subscript o (.Slice none (some hE) none sp) pos) c.env) (bindM mo λa=>bindM mh λb=>sliceHi thaw a b):=λx Q E p=>
  Subscript_ (ho x _ _ (p.bind λa y u f ra p=>wpAny_Slice (wpAny_evalPart_none (wpAny_evalPart_some (hh y _ _ (p.bind λb z w f2 rb p=>wpAny_evalPart_none
    (have p:=p.later (y:=z.sliced .none w .none) .sliced
     (p.opt λi _ p=>alt_sub (is_sliced (ra.after f2)) p).tail rfl (op_sliceHi (is_sliced (ra.after f2)) (Heap.IsSliceOf.new ..) (is_sliced rb) p))))))))
theorem so_slice_lo {lE:Expr} {sp:Pos} {mo ml:M V} (ho:So c RV (eval o c.env) mo) (hl:So c RV (eval lE c.env) ml):So c RV (eval (.Subscript o (.Slice (some lE) none none sp) pos) c.env) (bindM mo λa=>bindM ml λb=>sliceLo thaw a b):=λx Q E p=>
  Subscript_ (ho x _ _ (p.bind λa y u f ra p=>wpAny_Slice (wpAny_evalPart_some (hl y _ _ (p.bind λb z w f2 rb p=>wpAny_evalPart_none (wpAny_evalPart_none
    (have p:=p.later (y:=z.sliced w .none .none) .sliced
     (p.opt λi _ p=>alt_sub (is_sliced (ra.after f2)) p).tail rfl (op_sliceLo (is_sliced (ra.after f2)) (Heap.IsSliceOf.new ..) (is_sliced rb) p))))))))
theorem so_slice_back {q1 q2 sp:Pos} {mo:M V} (ho:So c RV (eval o c.env) mo):So c RV (eval (.Subscript o (.Slice none none (some (.UnaryOp .USub (.Constant (.int 1) n q1) q2)) sp) pos) c.env) (bindM mo λa=>sliceBack thaw a):=λx Q E p=>
  Subscript_ (ho x _ _ (p.bind λa y u f ra p=>wpAny_Slice (wpAny_evalPart_none (wpAny_evalPart_none (wpAny_evalPart_some (by
    rw [arm_eval_UnaryOp]
    refine wpAny_bind (wpAny_Constant_int (wpAny_bind (wpAny_standAt (wpAny_holding (P.neg_int ?_)))))
    let z:At c:=y.grow (h:=y.s.heap.push { cls:=.type "slice",data:=.fields #[.none,.none,.int (-1) (y.s.toks+1)] }) (y.s.toks+1+1) (push_more _ _)
    have f:After [] y z:=.grow (push_more _ _) (push_size _ _)
    have p:=p.later f
    have ra:z.is a u:=ra.mono (.more (push_more _ _))
    exact Sub.tail (x:=z) rfl (p.rdB λvs e p=>ra.lseq e λl H=>(SeqA.lst l H).sub) (op_sliceBack (x:=z) ra (Heap.IsSliceOf.new ..) p)))))))
theorem so_attr {f:Fd} {mo:M V} (hb:attributeBase o name c.env (eval o c.env)=eval o c.env) (hf:fdOf name=some f) (ho:So c RV (eval o c.env) mo):So c RV (eval (.Attribute o name pos) c.env) (bindM mo λa=>getA f a):=λx Q E p=>by
  rw [arm_eval_Attribute,hb]
  exact wpAny_bind (ho x _ _ (p.bind λa y u g ra p=>wpAny_bind (wpAny_standAt (wpAny_bind (wpAny_holding (op_get ra hf (p.mono λv z w r=>⟨w,r,λq=>wpAny_bind (wpAny_letTemporaryGo (wpAny_pure q))⟩)))))))
theorem so_with {f:Value} {first:List Value} {ms:M (List V)} {g:List V->M V} (hn:noStars es=true) (hes:SoEs c es ms) (p:Post [] x RV (bindM ms g x.μ x.ρ) Q E)
    (hc:∀ vs (y:At c) us,After [] x y->y.are vs us->Post [] y RV (g vs y.μ y.ρ) Q E->Keeps1 (model prog k.w) y.s.heap f/\WP c (call f (first++us)) Q E y.s) :
    WP c (callWith pos f first (backTo pos (starEach es c.env)) (backToKw pos (keywordEach [] c.env))) Q E x.s:=
  callWith_of (P:=λh=>Keeps1 (model prog k.w) h f) (by rw [plain_any hn];rfl) (λh k=>k) (args_of hn (hes _ x _ _ (p.bind λvs y us f rs p=>hc vs y us f rs p)))
theorem so_call {s:Str} {xp:Pos} {ms:M (List V)} (F:Calls k) (hn:noStars es=true) (hes:SoEs c es ms):So c RV (eval (.Call (.Name s xp) es [] pos) c.env) (bindM (ldM c.sc s) λfv=>bindM ms λvs=>callM k.Φ thaw fv vs):=λx Q E p=>by
  rw [arm_eval_Call_Name']
  exact wpAny_bind (so_name x _ _ (p.bind λfv y fx f rf p=>so_with hn hes p λvs z us f2 rs p=>F.calls z (rf.after f2) rs p))
theorem so_meth {apos:Pos} {mo:M V} {ms:M (List V)} (F:Calls k) (hn:noStars es=true) (hl:decide (es.length<30)=true) (hp:(apos.endLine==pos.line)=true) (hb:attributeBase o name c.env (eval o c.env)=eval o c.env) (ho:So c RV (eval o c.env) mo) (hes:SoEs c es ms) :
    So c RV (eval (.Call (.Attribute o name apos) es [] pos) c.env) (bindM mo λa=>bindM (pickM a name) λme=>bindM ms λvs=>methM k.Φ a me vs):=λx Q E p=>by
  rw [arm_eval_Call,hb]
  refine wpAny_bind (ho x _ _ (p.bind λa y u f ra p=>p.rdB λme hme p=>wpAny_bind (wpAny_standAt ?_)))
  have hform:methodCallForm (es.length+([]:List Keyword).length) (backTo pos (starEach es c.env)) (backToKw pos (keywordEach [] c.env))=true:=by
    unfold methodCallForm
    rw [plain_all hn]
    exact hl
  unfold methodCall
  rw [hform]
  refine wpAny_bind (wpAny_holding (F.pick y ra hme ?_))
  have hpos:methodCallPos true o c.env apos pos=pure pos:=by
    unfold methodCallPos
    rw [hp];rfl
  rw [hpos]
  exact wpAny_bind (wpAny_pure (so_with hn hes p λvs z us f2 rs p=>F.meth z (ra.after f2) rs p))
theorem sos_plain {t:Expr} {m:M V} (hi:So c RV (eval i c.env) m):SoS c t i (bindM m srcM):=λx n hn Q E p=>hi x _ _ (p.bind λv y u f rv p=>src_iter (Nat.le_trans hn f.size) rv p)
theorem sos_enum {ts:List Expr} {w:Nat} {ps xp:Pos} {ms:M (List V)} (hn:noStars es=true) (he:SoEs c es ms):SoS c (.Tuple ts w ps) (.Call (.Name (Str.ofString "enumerate") xp) es [] pos) (gd (isGlob c.sc (Str.ofString "enumerate")) (bindM ms enumM)):=λx n hn' Q E p=>p.gd λhg p=>by
  rw [arm_eval_Call_Name']
  refine wpAny_bind (wpAny_Name (glob_load (v:=.glob .tEnum) hg (by kernel_rfl) λu r=>?_) (by decide))
  exact r.isGlob rfl (callWith_of (P:=λ_=>True) (by rw [plain_any hn];rfl) (λh _=>⟨.machine,.inr (.inl rfl),.now⟩) (args_of hn (he _ x _ _ (p.bind λvs y us f rs p=>⟨trivial,enum_iter (Nat.le_trans hn' f.size) rs p⟩))))
end
end
section
set_option backward.match.sparseCases true
open PySem PySem.W PyProof.Rows
section
variable {k:Kx} {c:Cx k} {x y z:At c} {Z:List Addr} {α X:Type} {g:Gh} {μ:List O} {ρ:List (Option V)} {h h':Heap} {E:Value->Shared->Prop} {v:V} {u:Value} {n:Str} {i j:Nat} {a:Addr}
theorem slot_inj {sc:Scope} {n m:Str} (h1:slotOf sc n=some i) (h2:slotOf sc m=some i):n=m:=by
  obtain ⟨_,e1,_⟩:=List.findIdx?_eq_some_iff_getElem.mp h1
  obtain ⟨_,e2,_⟩:=List.findIdx?_eq_some_iff_getElem.mp h2
  exact (eq_of_beq e1).symm.trans (eq_of_beq e2)
theorem get_set {ρ:List (Option V)} {o:Option V} (h:(ρ.set i (some v))[j]?=some o):(i=j/\o=some v)∨(i≠j/\ρ[j]?=some o):=by
  rw [List.getElem?_set] at h
  split at h
  · split at h
    · exact .inl ⟨‹_›,(Option.some.inj h).symm⟩
    · cases h
  · exact .inr ⟨‹_›,h⟩
theorem Hp.frame {B:Heap} {P:Params} {fs:List Env} (H:Hp B P fs g μ h) (n:a∉feet g.β/\a∉g.φ/\B.get? a=none) (q:∀ b o,b≠a->h.get? b=some o->h'.get? b=some o) (hf:FrameAt h a->FrameAt h' a):Hp B P fs g μ h':=
  have M:Stays g g h h':=⟨λ_ _ e=>e,λ_ m=>m,λb m o e=>q b o (λw=>n.2.1 (w▸m)) e⟩
  { H with
    stays:=λb o e=>q b o (λw=>by rw [w,n.2.2] at e;cases e) (H.stays b o e)
    objs:=λi o e=>let ⟨p,hp,r⟩:=H.objs i o e;⟨p,hp,r.mono M λb hb ob e=>q b ob (λw=>n.1 (w▸mem_feet hp hb)) e⟩
    froz:=λb m=>⟨(H.froz b m).1,let ⟨o,e⟩:=(H.froz b m).2;⟨o,M.same b m o e⟩⟩
    frames:=λb m=>⟨(H.frames b m).1,by
      by_cases w:b=a
      · rw [w] at m ⊢;exact hf (H.frames a m).2
      · exact (H.frames b m).2.keep λo e=>⟨o.slots,q b o w e⟩⟩ }
theorem St.stays {S:St c g μ ρ h} (n:a∉g.φ) (q:∀ b o,b≠a->h.get? b=some o->h'.get? b=some o):Stays g g h h':=⟨λ_ _ e=>e,λ_ m=>m,λb m o e=>q b o (λw=>n (w▸m)) e⟩
theorem St.local (S:St c g μ ρ h) (hx:c.sc.names.lookup n=some .local) (hi:slotOf c.sc n=some i) (r:RelV k.w.params g h v u) {m:Str->Option Value} (hm:h.Ns c.env.locals m) (hr:∀ n i v,c.sc.names.lookup n=some .local->slotOf c.sc n=some i->ρ[i]?=some (some v)->∃ y,m n=some y/\RelV k.w.params g h v y)
    (hn:h'.Ns c.env.locals (λz=>if z=n then some u else m z)) (hs:Heap.SameBut c.env.locals h h'):St c g μ (ρ.set i (some v)) h':=
  have q:∀ b o,b≠c.env.locals->h.get? b=some o->h'.get? b=some o:=λb o n e=>(hs.2 b n).trans e
  have F:=S.fr
  have f:=F.foff _ List.mem_cons_self
  have M:Stays g g h h':=S.stays f.2.1 q
  { hp:=S.hp.frame f q λ_=>.of hn
    fr:={ F with
      rlen:=List.length_set.trans F.rlen
      cpres:=λy hy=>let ⟨v,e⟩:=F.cpres y hy;⟨v,cell_slots e λo e=>⟨o.slots,q _ o (F.cfrs y hy).2 e⟩⟩
      loc:=⟨_,hn,λz j w a b e=>by
        rcases get_set e with ⟨rfl,e'⟩ | ⟨ne,e⟩
        · cases slot_inj hi b
          cases e'
          exact ⟨u,if_pos rfl,r.mono M⟩
        · obtain ⟨y,e',r'⟩:=hr z j w a b e
          exact ⟨y,(if_neg λw=>ne (by rw [w,hi] at b;exact Option.some.inj b)).trans e',r'.mono M⟩⟩
      cel:=λz j a b=>by
        obtain ⟨d,vo,e,hc,r'⟩:=F.cel z j a b
        refine ⟨d,vo,e,cell_slots hc λo e'=>⟨o.slots,q _ o (F.cfrs _ (mem_of_lookup e)).2 e'⟩,λw hw=>?_⟩
        rcases get_set hw with ⟨rfl,_⟩ | ⟨ne,hw⟩
        · cases slot_inj hi b
          unfold isCellName at a
          rw [hx] at a
          cases a
        · exact let ⟨y,e,q⟩:=r' w hw;⟨y,e,q.mono M⟩ } }
theorem St.cell (S:St c g μ ρ h) (hx:c.sc.names.lookup n=some .cell) (hi:slotOf c.sc n=some i) (hc:c.env.cells.lookup n=some a) (r:RelV k.w.params g h v u) (hn:h'.IsCell a (some u)) (hs:Heap.SameBut a h h'):St c g μ (ρ.set i (some v)) h':=
  have q:∀ b o,b≠a->h.get? b=some o->h'.get? b=some o:=λb o n e=>(hs.2 b n).trans e
  have F:=S.fr
  have ma:=mem_of_lookup hc
  have f:=F.foff a (List.mem_cons_of_mem _ (List.mem_map.mpr ⟨_,ma,rfl⟩))
  have M:Stays g g h h':=S.stays f.2.1 q
  { hp:=S.hp.frame f q λ⟨o,es,n,e,d⟩=>absurd d (by
      obtain ⟨vo,o',e',d'⟩:=F.cpres _ ma
      cases e.symm.trans e'
      rw [d'];exact λw=>nomatch w)
    fr:={ F with
      rlen:=List.length_set.trans F.rlen
      cpres:=λy hy=>by
        by_cases w:y.2=a
        · exact ⟨_,w▸hn⟩
        · exact let ⟨v,e⟩:=F.cpres y hy;⟨v,cell_slots e λo e=>⟨o.slots,q _ o w e⟩⟩
      loc:=let ⟨m,hm,rr⟩:=F.loc;⟨m,ns_slots hm λo e=>⟨o.slots,q _ o (λw=>(F.cfrs _ ma).2 w.symm) e⟩,λz j w a b e=>by
        rcases get_set e with ⟨rfl,_⟩ | ⟨ne,e⟩
        · cases slot_inj hi b
          cases hx.symm.trans a
        · exact let ⟨y,e,q⟩:=rr z j w a b e;⟨y,e,q.mono M⟩⟩
      cel:=λz j a' b=>by
        obtain ⟨d,vo,e,hc',r'⟩:=F.cel z j a' b
        by_cases w:z=n
        · subst w
          cases hc.symm.trans e
          refine ⟨_,_,e,hn,λw hw=>?_⟩
          rcases get_set hw with ⟨_,e⟩ | ⟨ne,_⟩
          · cases e;exact ⟨u,rfl,r.mono M⟩
          · exact absurd (Option.some.inj (hi.symm.trans b)) ne
        · refine ⟨d,vo,e,cell_slots hc' λo e'=>⟨o.slots,q _ o (λwd=>w (name_of_addr F.apart (mem_of_lookup e) (wd▸ma))) e'⟩,λw' hw=>?_⟩
          rcases get_set hw with ⟨rfl,_⟩ | ⟨ne,hw⟩
          · exact absurd (slot_inj b hi) w
          · exact let ⟨y,e,q⟩:=r' w' hw;⟨y,e,q.mono M⟩ } }
theorem isOwn_at {sc:Scope} (h:isOwn sc n=true):sc.names.lookup n=some .local∨sc.names.lookup n=some .cell:=(Bool.or_eq_true_iff.mp h).imp eq_of_beq eq_of_beq
theorem Aft.frame {g:Gh} {s:Shared} {tk:Nat} (hs:Heap.SameBut a s.heap h) (ha:a=c.env.locals∨a∈wcells c.sc c.env):Aft c Z g s g { s with heap:=h,toks:=tk }:=
  ⟨Nat.le_of_eq hs.1.symm,λ_ _ e=>e,λ_ m=>m,λ_ m=>.inl m,λ_ m=>.inl m,.same λb o nb e=>(hs.2 b λw=>nb (.inr (.inr (w▸ha)))).trans e,rfl,rfl⟩
theorem store_of {Q:Unit->Shared->Prop} (r:x.is v u) (p:Post Z x RU (stM c.sc n v x.μ x.ρ) Q E):WP c (storeName c.env n u) Q E x.s:=by
  refine p.gd λho p=>?_
  unfold stAt at p
  split at p
  · rename_i i hi
    have F:=x.st.fr
    rcases isOwn_at ho with hl | hl
    · obtain ⟨m,hm,rr⟩:=F.loc
      exact wpAny_storeName_local (F.eok.own n _ hl (by decide)) hm (λh' hn hs=>p ⟨x.g,x.μ,_,_,x.st.local hl hi r hm rr hn hs⟩ () (.frame hs (.inl rfl)) rfl rfl trivial) (by rw [F.eok.kind];rfl)
    · obtain ⟨a,vo,hc,hcell,_⟩:=F.cel n i (isCell_of (.inl hl)) hi
      exact wpAny_storeName_cell F.eok.kind (F.eok.own n _ hl (by decide)) hc hcell λh' hn hs=>
        p ⟨x.g,x.μ,_,_,x.st.cell hl hi hc r hn hs⟩ () (Aft.frame (tk:=x.s.toks) hs (.inr (List.mem_filterMap.mpr ⟨(n,a),mem_of_lookup hc,by rw [hl];rfl⟩))) rfl rfl trivial
  · exact p.elim
end
end
section
set_option backward.match.sparseCases true
open PySem PySem.W PyProof.Rows
theorem stM_at {sc:Scope} {n:Str} {v:V}:stM sc n v=stAt (if isOwn sc n then slotOf sc n else none) v:=by
  unfold stM
  cases isOwn sc n <;> rfl
theorem st_comm {sc:Scope} {a b:Str} {v u:V} {α:Type} (h:a≠b) (m:M α):(bindM (stM sc a v) λ_=>bindM (stM sc b u) λ_=>m)=bindM (stM sc b u) λ_=>bindM (stM sc a v) λ_=>m:=by
  rw [stM_at,stM_at]
  cases ha:(if isOwn sc a then slotOf sc a else none) with
  | none=>cases (if isOwn sc b then slotOf sc b else none) <;> rfl
  | some i=>cases hb:(if isOwn sc b then slotOf sc b else none) with
    | none=>rfl
    | some j=>
      have hij:i≠j:=λq=>h (slot_inj (if_at (b:=isOwn sc a=true) ha).2 (q▸(if_at (b:=isOwn sc b=true) hb).2))
      funext μ ρ
      show m μ ((ρ.set i (some v)).set j (some u))=m μ ((ρ.set j (some u)).set i (some v))
      rw [List.set_comm _ _ hij]
theorem st_last {sc:Scope} {n:Str} {v:V}:∀ {ns:List Str} {vs:List V},vs.length=ns.length->n∉ns->asgs ((ns++[n]).map (stM sc)) (vs++[v])=bindM (stM sc n v) λ_=>asgs (ns.map (stM sc)) vs
  | [],[],_,_=>rfl
  | [],_ :: _,h,_=>nomatch h
  | _ :: _,[],h,_=>nomatch h
  | a :: ns,u :: vs,h,hn=>by
    have ih:=st_last (sc:=sc) (v:=v) (Nat.succ.inj h) λm=>hn (List.mem_cons_of_mem _ m)
    show (bindM (stM sc a u) λ_=>asgs ((ns++[n]).map (stM sc)) (vs++[v]))=bindM (stM sc n v) λ_=>bindM (stM sc a u) λ_=>asgs (ns.map (stM sc)) vs
    rw [ih,st_comm λe=>hn (List.mem_cons.mpr (.inl e.symm))]
inductive AllNames:List Expr->List Str->Prop
  | nil:AllNames [] []
  | cons (n:Str) (p:Pos) {ts:List Expr} {ns:List Str}:AllNames ts ns->AllNames (.Name n p :: ts) (n :: ns)
section
variable {k:Kx} {c:Cx k} {x y z:At c} {E:Value->Shared->Prop} {v:V} {u:Value} {o i:Expr} {ts es:List Expr} {ns:List Str} {pos:Pos} {n:Nat} {name:Str} {mo mi m:M V}
theorem asg_name:SoA c (.Name name pos) (stM c.sc name):=λx v u r Q E p=>wpAny_assign_Name (store_of r p)
theorem asg_attr {f:Fd} (hf:fdOf name=some f) (ho:So c RV (eval o c.env) mo):SoA c (.Attribute o name pos) (λv=>bindM mo λa=>setA f a v):=λx v u r Q E p=>by
  rw [arm_assign_Attribute]
  exact wpAny_bind (wpAny_holding (ho x _ _ (p.bind λa y w g ra p=>wpAny_bind (wpAny_standAt (wpAny_bind (wpAny_holding (op_set ra (r.after g) hf (p.mono λv z w r=>⟨w,r,λq=>wpAny_release q⟩))))))))
theorem asg_sub (ho:So c RV (eval o c.env) mo) (hi:So c RV (eval i c.env) mi):SoA c (.Subscript o i pos) (λv=>bindM mo λa=>bindM mi λb=>putM a b v):=λx v u r Q E p=>by
  rw [arm_assign_Subscript]
  exact wpAny_bind (wpAny_holding (ho x _ _ (p.bind λa y w g ra p=>wpAny_bind (wpAny_holding (hi y _ _ (p.bind λb z w' g2 rb p=>wpAny_bind (wpAny_standAt (wpAny_bind (wpAny_holding (op_put (ra.after g2) rb (r.after (g.trans g2)) (p.mono λv z w r=>⟨w,r,λq=>wpAny_release q⟩)))))))))))
structure AsgsOk (c:Cx k) (ts:List Expr) (n:Nat) (fs:List (V->M Unit)):Prop where
  plain:(assignEach ts c.env).findIdx? (·.1)=none
  len:(assignEach ts c.env).length=n
  so:∀ (x:At c) vs us Q E,x.are vs us->Post [] x RU (asgs fs vs x.μ x.ρ) Q E->WP c (assignInOrder ((assignEach ts c.env).map (·.2)) us) Q E x.s
theorem asgs_nil:AsgsOk c [] 0 []:=⟨rfl,rfl,λx vs us Q E r p=>by
  cases r with
  | nil=>exact wpAny_pure (p.now trivial)
  | cons=>exact p.elim⟩
noncomputable abbrev EachOk (t:Expr):Prop:=∀ r env,assignEach (t :: r) env=(false,assign t env) :: assignEach r env
theorem asgs_cons {t:Expr} {m:V->M Unit} {fs:List (V->M Unit)} (h:EachOk t) (ha:SoA c t m) (r:AsgsOk c ts n fs):AsgsOk c (t :: ts) (n+1) (m :: fs) where
  plain:=by rw [h];exact List.findIdx?_eq_none_iff.mpr λx m=>(List.mem_cons.mp m).elim (λe=>e▸rfl) ((List.findIdx?_eq_none_iff.mp r.plain) x)
  len:=by rw [h];exact congrArg (·+1) r.len
  so x vs us Q E rs p:=by
    cases rs with
    | nil=>exact p.elim
    | cons a rs=>
      rw [h]
      show WP c (_ >>= _) Q E x.s
      exact wpAny_bind (wpAny_holding (ha x _ _ a _ _ (p.bind λ_ y _ f _ p=>r.so y _ _ _ _ (RelVs.after rs f) p)))
theorem AllNames.ok (h:AllNames ts ns):AsgsOk c ts ns.length (ns.map (stM c.sc)):=by
  induction h with
  | nil=>exact asgs_nil
  | cons n p _ ih=>exact asgs_cons (λ_ _=>rfl) asg_name ih
theorem back_so (ns:List Str):∀ (x:At c) vs us Q E,x.are vs us->vs.length=ns.length->ns.Nodup->Post [] x RU (asgs (ns.reverse.map (stM c.sc)) vs.reverse x.μ x.ρ) Q E->WP c (assignInOrder (ns.map λn=>bindName c.env n) us) Q E x.s:=by
  induction ns with
  | nil=>
    intro x vs us Q E r hl _ p
    cases vs with
    | nil=>exact r.inv0 (wpAny_pure (p.now trivial))
    | cons v vs=>exact (nomatch hl)
  | cons n ns ih=>
    intro x vs us Q E r hl hn p
    cases vs with
    | nil=>exact (nomatch hl)
    | cons v vs=>
      have hn:=List.nodup_cons.mp hn
      rw [List.reverse_cons,List.reverse_cons,st_last (by rw [List.length_reverse,List.length_reverse];exact Nat.succ.inj hl) λm=>hn.1 (List.mem_reverse.mp m)] at p
      exact r.inv (C:=λus=>WP c (assignInOrder (bindName c.env n :: ns.map λn=>bindName c.env n) us) Q E x.s) λu us a r=>wpAny_bind (wpAny_holding (wpAny_bindName (store_of a (p.bind λ_ y _ f _ p=>ih y vs us Q E (RelVs.after r f) (Nat.succ.inj hl) hn.2 p))))
theorem unpack_of {α X:Type} {R:At c->α->X->Prop} {r:Res α} {S:X->Shared->Prop} {vs:List V} {Q:List Value->Shared->Prop} (ra:x.is v u) (e:v.tup?=some vs) (hn:n=vs.length) (p:Post [] x R r S E) (q:∀ (y:At c) us,y.μ=x.μ->y.ρ=x.ρ->y.are vs us->Post [] y R r S E->Q us y.s):WP c (unpackItems u n none) Q E x.s:=
  ra.isTup e λl us m g r=>by
    cases hn.trans (size_len r).symm
    refine wpAny_size (wpAny_unpackItems_tuple c.cfg.handled (items:=us.toArray) ⟨_,g,rfl,_,rfl⟩ λh' he hs=>?_)
    have k:∀ b o,x.s.heap.get? b=some o->h'.get? b=some o:=λb o e=>he b o (Nat.ne_of_lt (Heap.lt_size e)) e
    exact q (x.grow x.s.toks k) us rfl rfl (RelVs.mono (.more k) r) (p.later (.grow k hs))
noncomputable abbrev tupA (sc:Scope) (ns:List Str) (v:V):M Unit:=asgTup ns.length v (asgs (ns.map (stM sc)))
theorem asg_tup {fs:List (V->M Unit)} {l:Nat} (h:AsgsOk c ts l fs):SoA c (.Tuple ts n pos) (λv=>asgTup l v (asgs fs)):=λx v u r Q E p=>p.opt λvs e p=>p.gd λhv p=>by
  rw [arm_assign_Tuple]
  refine wpAny_bind (wpAny_standAt ?_)
  unfold unpack
  rw [h.plain]
  refine wpAny_bind (wpAny_holding (unpack_of r e (h.len.trans (of_decide_eq_true hv).symm) p λy us e1 e2 rs p=>?_))
  rw [←e1,←e2] at p
  exact h.so y vs us _ _ rs p
noncomputable abbrev SoF (c:Cx k) (st:Stmt) (m:M Fl):Prop:=So c RF (exec st c.env) m
noncomputable abbrev SoFs (c:Cx k) (l:List Stmt) (m:M Fl):Prop:=So c RF (execs l c.env) m
theorem fl_nil:SoFs c [] (retM .next):=λx Q E p=>wpAny_pure (p.now .next)
theorem fl_cons {st:Stmt} {r:List Stmt} {m mr:M Fl} (hs:SoF c st m) (hr:SoFs c r mr):SoFs c (st :: r) (bindM m (seqFl mr)):=λx Q E p=>
  wpAny_execs_cons (hs x _ _ (p.bind λf y g a rg p=>by
    cases rg with
    | next=>exact hr y _ _ p
    | brk=>exact p.now .brk
    | cont=>exact p.now .cont
    | ret r=>exact p.now (.ret r)))
theorem fl_if {t:Expr} {b e:List Stmt} {mt:M Bool} {mb me:M Fl} (ht:SoT? c t mt) (hb:SoFs c b mb) (he:SoFs c e me):SoF c (.If t b e pos) (bindM mt λd=>if d then mb else me):=λx Q E p=>by
  rw [arm_exec_If]
  refine wpAny_bind (wpAny_standAt (wpAny_bind (ht x _ _ (p.bind λd y d' f rd p=>?_))))
  cases rd
  cases d with
  | true=>exact hb y _ _ p
  | false=>exact he y _ _ p
theorem fl_for {t it:Expr} {b:List Stmt} {ms:M Src} {asgM:V->M Unit} {bodyM:M Fl} {two:Bool} (hns:∀ x,foldedSetIterable it c.env x=pure x) (ht:Tgt t two) (hs:SoS c t it ms) (ha:SoA c t asgM) (hb:SoFs c b bodyM) :
    SoF c (.For t it b [] pos) (bindM ms λs=>forM (stillM s.1) (λx=>bindM (asgM x) λ_=>bodyM) s.2):=λx Q E p=>
  wpAny_For (hs x _ (Nat.le_refl _) _ _ (p.bindB (Nat.le_refl _) (λ_ f=>f) λsrc y v f ri p=>by
    obtain ⟨own,ge,O,i,hf⟩:=ri
    exact for_of (λz v u r Q E p=>ha z v u r _ _ (p.bind λ_ w _ _ _ p=>hb w _ _ p)) ⟨f,O,λa m=>.inr (ge a m),i⟩ ht hf p)) hns
inductive WhInv (x:At c) (mt:M Bool) (mb:M Fl) (Q:Flow->Shared->Prop) (E:Value->Shared->Prop) (j:Nat):Shared->Prop
  | mk (y:At c) (f:After [] x y) (p:Post [] x RF (whileM mt mb j y.μ y.ρ) Q E):WhInv x mt mb Q E j y.s
theorem fl_while {t:Expr} {b:List Stmt} {mt:M Bool} {mb:M Fl} (ht:SoT? c t mt) (hb:SoFs c b mb):SoF c (.While t b [] pos) (whileM mt mb n):=λx Q E p=>by
  refine wpAny_While (codeAny_whileLoop (WhInv x mt mb Q (Back c E)) ?_ n (.mk x .refl p.noted))
  rintro j _ ⟨y,f,p⟩
  cases j with
  | zero=>exact p.elim
  | succ j=>
    refine ht y _ _ (p.bindB f.size (λ_=>f.trans) λd z d' f2 rd p=>?_)
    cases rd
    cases d with
    | false=>exact wpAny_pure (p z _ (f.trans f2) rfl rfl .next)
    | true=>
      refine hb z _ _ (p.bindB (f.trans f2).size (λ_=>(f.trans f2).trans) λg w g' f3 rg p=>?_)
      have f4:=(f.trans f2).trans f3
      cases rg with
      | next=>exact ⟨j,Nat.lt_succ_self _,w,f4,p⟩
      | cont=>exact ⟨j,Nat.lt_succ_self _,w,f4,p⟩
      | brk=>exact p w _ f4 rfl rfl .next
      | ret r=>exact p w _ f4 rfl rfl (.ret r)
theorem fl_break:SoF c (.Break pos) (retM .brk):=λx Q E p=>by
  rw [arm_exec_Break]
  exact wpAny_bind (wpAny_standAt (wpAny_pure (p.now .brk)))
theorem fl_return {e:Expr} (he:So c RV (eval e c.env) m):SoF c (.Return (some e) pos) (bindM m λv=>retM (.ret v)):=λx Q E p=>wpAny_Return_some (he x _ _ (p.bind λv y u f r p=>p.now (.ret r)))
theorem fl_return0:SoF c (.Return none pos) (retM (.ret .none)):=λx Q E p=>wpAny_Return_none (p.now (.ret .none))
@[elab_as_elim] theorem Post.int2B {Z:List Addr} {α β X:Type} {R:At c->α->X->Prop} {Q:X->Shared->Prop} {a b:V} {w w':Value} {m:Int->Int->M β} {f:β->M α} {T:Value->Value->Prop} (p:Post Z x R (bindM (Mine.int2 a b m) f y.μ y.ρ) Q E) (ra:y.is a w) (rb:y.is b w') (kn:∀ i j t t',Post Z x R (bindM (m i j) f y.μ y.ρ) Q E->T (.int i t) (.int j t')):T w w':=by
  unfold Mine.int2 Mine.opt at p
  cases h1:a.int? with
  | none=>rw [h1] at p;exact p.elim
  | some i=>cases h2:b.int? with
    | none=>rw [h1,h2] at p;exact p.elim
    | some j=>
      rw [h1,h2] at p
      exact ra.isInt h1 λt=>rb.isInt h2 λt'=>kn i j t t' p
theorem fl_aug {op:Operator} {e:Expr} {np:Pos} (he:So c RV (eval e c.env) m):SoF c (.AugAssign (.Name name np) op e pos) (bindM (ldM c.sc name) λa=>bindM m λb=>bindM (augM op a b) λv=>bindM (stM c.sc name v) λ_=>retM .next):=λx Q E p=>by
  rw [arm_exec_AugAssign]
  refine wpAny_bind (wpAny_standAt (wpAny_bind (load_name (p.bind λa y u f ra p=>wpAny_bind (wpAny_holding (he y _ _ (p.bind λb z w f2 rb p=>wpAny_bind (wpAny_standAt (wpAny_bind (wpAny_operateT ?_))))))))))
  have fin:∀ {j:Int} {t:Tok} {tk:Nat},Post [] z RF (bindM (stM c.sc name (.int j)) (λ_=>retM Fl.next) z.μ z.ρ) Q E->WP c (do standAt np;bindName c.env name (.int j t);pure .next) Q E { z.s with toks:=tk }:=λ{j t tk} p=>
    wpAny_bind (wpAny_standAt (wpAny_bind (wpAny_bindName (store_of (x:=z.grow tk λ_ _ e=>e) (.int j t) ((p.later (y:=z.grow tk λ_ _ e=>e) (.grow _ (Nat.le_refl _))).bind λ_ w _ _ _ p=>wpAny_pure (p.now .next))))))
  have ra:=ra.after f2
  cases op with
  | Add=>exact Post.int2B p ra rb λi j t t' p=>P.iadd_int (fin p)
  | Sub=>exact Post.int2B p ra rb λi j t t' p=>P.isub_int (fin p)
  | _=>exact p.elim
theorem fl_expr {e:Expr} (hs:∀ n,swapsWith e none n c.env=pure false) (he:So c RV (eval e c.env) m):SoF c (.Expr e pos) (bindM m λ_=>retM .next):=λx Q E p=>by
  rw [arm_exec_Expr,hs,show interactive c.env=false by unfold interactive;rw [x.st.fr.eok.kind];rfl]
  exact wpAny_bind (wpAny_standAt (wpAny_bind (wpAny_pure (wpAny_bind (he x _ _ (p.bind λv y u f r p=>wpAny_dropValue (p.now .next)))))))
noncomputable abbrev asgF (m:M V) (asgM:V->M Unit):M Fl:=bindM m λv=>bindM (asgM v) λ_=>retM .next
theorem Post.optB {Z:List Addr} {α β γ X:Type} {R:At c->α->X->Prop} {Q:X->Shared->Prop} {o:Option β} {m:β->M γ} {f:γ->M α} {C:Prop} (p:Post Z x R (bindM (Mine.opt o m) f y.μ y.ρ) Q E) (kn:∀ a,o=some a->Post Z x R (bindM (m a) f y.μ y.ρ) Q E->C):C:=by
  cases o with
  | some a=>exact kn a rfl p
  | none=>exact p.elim
variable {t e:Expr} {asgM:V->M Unit}
theorem fl_assign (hst:EachOk t) (hs:swapsWith e (some t) pos.line c.env=pure false) (hw:swappedStores [t] e c.env=pure none) (he:So c RV (eval e c.env) m) (ha:SoA c t asgM):SoF c (.Assign [t] e pos) (asgF m asgM):=λx Q E p=>by
  rw [arm_exec_Assign,hst [] _,hw]
  refine wpAny_bind (wpAny_standAt ?_)
  show wpAny _ _ (swapsWith e (some t) pos.line c.env >>= _) _ _ _
  rw [hs]
  refine wpAny_bind (wpAny_pure (wpAny_bind (he x _ _ (p.bind λv y u f r p=>wpAny_bind (wpAny_pure ?_)))))
  exact wpAny_bind (ha y v u r _ _ (p.bind λ_ z _ _ _ p=>wpAny_pure (p.now .next)))
theorem fl_swap {p':Pos} (hs:swapsWith e (some (.Tuple ts n p')) pos.line c.env=pure false) (hw:swappedStores [.Tuple ts n p'] e c.env=pure (some ns)) (hn:ns.Nodup) (he:So c RV (eval e c.env) m):SoF c (.Assign [.Tuple ts n p'] e pos) (asgF m (tupA c.sc ns)):=λx Q E p=>by
  rw [arm_exec_Assign,hw]
  refine wpAny_bind (wpAny_standAt ?_)
  show wpAny _ _ (swapsWith e (some (.Tuple ts n p')) pos.line c.env >>= _) _ _ _
  rw [hs]
  refine wpAny_bind (wpAny_pure (wpAny_bind (he x _ _ (p.bind λv y u f r p=>p.optB λvs e p=>p.gdB λhv p=>wpAny_bind (wpAny_pure (wpAny_bind (wpAny_rule (wpAny_bind ?_))))))))
  have hl:=of_decide_eq_true hv
  refine unpack_of r e hl.symm p λz us e1 e2 rs p=>wpAny_bind (back_so ns.reverse z vs.reverse us.reverse _ _ rs.reverse (by rw [List.length_reverse,List.length_reverse,hl]) (List.pairwise_reverse.mpr (hn.imp Ne.symm)) ?_)
  rw [List.reverse_reverse,List.reverse_reverse]
  rw [←e1,←e2] at p
  exact p.bind λ_ w _ _ _ p=>wpAny_pure (p.now .next)
noncomputable abbrev Uses (c:Cx k) (e:Expr) (m:M V):Prop:=∀ (use:Value->Sem Unit) (um:V->M Unit),(∀ (x:At c) v u,x.is v u->Do [] x RU (use u) (um v))->∀ (x:At c) Q E,Post [] x RU (bindM m um x.μ x.ρ) Q E->WP c (evalThenUse e c.env use) (λ_ s=>Q () s) E x.s
theorem fl_use (hst:EachOk t) (hs:swapsWith e (some t) pos.line c.env=pure true) (he:Uses c e m) (ha:SoA c t asgM):SoF c (.Assign [t] e pos) (asgF m asgM):=λx Q E p=>by
  rw [arm_exec_Assign,hst [] _]
  refine wpAny_bind (wpAny_standAt ?_)
  show wpAny _ _ (swapsWith e (some t) pos.line c.env >>= _) _ _ _
  rw [hs]
  refine wpAny_bind (wpAny_pure (wpAny_bind (he _ asgM ha x (λ_ s=>WP c (pure Flow.next) Q E s) E ?_)))
  have h:asgF m asgM=bindM (bindM m asgM) λ_=>retM .next:=by
    funext μ ρ
    unfold asgF bindM
    cases m μ ρ <;> rfl
  rw [h] at p
  exact p.bind λ_ w _ _ _ p=>wpAny_pure (p.now .next)
theorem fl_comp (hb:∃ b,swapsWith e (some t) pos.line c.env=pure b) (hst:EachOk t) (hu:Uses c e m) (he:So c RV (eval e c.env) m) (ha:SoA c t asgM) (hw:swappedStores [t] e c.env=pure none):SoF c (.Assign [t] e pos) (asgF m asgM):=by
  obtain ⟨b,hb⟩:=hb
  cases b with
  | false=>exact fl_assign hst hb hw he ha
  | true=>exact fl_use hst hb hu ha
theorem names_at {env:Env} {l:Nat} (h:AllNames ts ns):∀ {ms:List Str},ms=ts.filterMap (λ
      | .Name id pos=>if env.kindOf id==some .local&&pos.line==l then some id else none
      | _=>none)->ms.length=ts.length->ms=ns:=by
  induction h with
  | nil=>exact λe _=>e
  | @cons n p ts ns _ ih=>
    intro ms e hl
    rw [List.filterMap_cons] at e
    split at e
    · rw [e] at hl
      exact absurd hl (Nat.ne_of_lt (Nat.lt_succ_of_le (List.length_filterMap_le _ _)))
    · rename_i a ha
      have ha:=(if_at (b:=(env.kindOf n==some .local&&p.line==l)=true) ha).2
      cases ha
      rw [e] at hl ⊢
      exact congrArg _ (ih rfl (Nat.succ.inj hl))
theorem swap_or {w:Nat} {p' q':Pos} (h:AllNames ts ns) (hk:es.all (constantsAlone 8)=false):swappedStores [.Tuple ts n p'] (.Tuple es w q') c.env=pure none∨swappedStores [.Tuple ts n p'] (.Tuple es w q') c.env=pure (some ns):=by
  unfold swappedStores
  dsimp only
  split
  · exact .inl rfl
  · split
    · exact .inl rfl
    · split
      · exact .inl rfl
      · rename_i h3
        split
        · exact .inl rfl
        · rw [if_neg (by rw [hk];exact Bool.false_ne_true)]
          rw [Bool.or_eq_true,not_or,bne_iff_ne,ne_eq,Classical.not_not] at h3
          exact .inr (congrArg (λx=>pure (some x)) (names_at h rfl h3.1))
noncomputable def nameOf:Expr->Bool | .Name ..=>true | _=>false
noncomputable def shortName (env:Env) (l:Nat):Expr->Option Str
  | .Name id pos=>if env.kindOf id==some .local&&pos.line==l then some id else none
  | _=>none
theorem noName {env:Env} {l:Nat} {t:Expr} (h:nameOf t=false):shortName env l t=none:=by
  cases t <;> first | exact rfl | cases h
theorem short_names {env:Env} {l:Nat} {ts:List Expr} (h:ts.all nameOf=false):(ts.filterMap (shortName env l)).length≠ts.length:=by
  induction ts with
  | nil=>cases h
  | cons t ts ih=>
    cases hn:nameOf t with
    | false=>rw [List.filterMap_cons_none (noName hn)];exact Nat.ne_of_lt (Nat.lt_succ_of_le (List.length_filterMap_le _ _))
    | true=>
      have ih:=ih (by rw [List.all_cons,hn] at h;exact h)
      cases e:shortName env l t with
      | none=>rw [List.filterMap_cons_none e];exact Nat.ne_of_lt (Nat.lt_succ_of_le (List.length_filterMap_le _ _))
      | some a=>rw [List.filterMap_cons_some e];exact λe=>ih (Nat.succ.inj e)
theorem swap_none {w:Nat} {p' q':Pos} (h:ts.all nameOf=false):swappedStores [.Tuple ts n p'] (.Tuple es w q') c.env=pure none:=by
  unfold swappedStores
  dsimp only
  split
  · rfl
  · split
    · rfl
    · rw [if_pos (by rw [Bool.or_eq_true];exact .inl (bne_iff_ne.mpr (short_names h)))]
theorem fl_tup {w:Nat} {p' q':Pos} (h:AllNames ts ns) (hn:ns.Nodup) (hk:es.all (constantsAlone 8)=false) (he:So c RV (eval (.Tuple es w q') c.env) m):SoF c (.Assign [.Tuple ts n p'] (.Tuple es w q') pos) (asgF m (tupA c.sc ns)):=
  (swap_or (c:=c) h hk).elim (λhw=>fl_assign (λ_ _=>rfl) rfl hw he (asg_tup h.ok)) λhw=>fl_swap rfl hw hn he
end
end
section
open PySem PySem.W PyProof.Rows
structure FaultOK (K:Frag):Prop where
  cls:∃ oc od cd sl,K.lookup 64=some ⟨oc,od,.cls cd,sl⟩
  notTup:instIn K (.ref 64) (.type "tuple")=some false
  isExc:subIn K (.ref 64) (.type "BaseException")=some true
  self:subIn K (.ref 64) (.ref 64)=some true
  typ:typeIn K (.ref 64)=some (.type "type")
section
variable {k:Kx} {c:Cx k} {x y z:At c} {E:Value->Shared->Prop} {K:Frag} {MM:Model} {h:Heap} {a b t:Expr} {pos:Pos} {s:Shared} {l:Addr} {o:Obj} {vs:Array Value}
theorem is_type (F:FaultOK K) (X:K.In h):Looks MM h (isType (.ref 64)) true:=by
  obtain ⟨oc,od,cd,sl,e⟩:=F.cls
  exact (Looks.ld (X _ _ e)).andThen .now
theorem is_exc (F:FaultOK K) (X:K.In h):Looks MM h (isExcClass (.ref 64)) true:=(is_type F X).andThen (looks_subIn X F.isExc)
theorem typ_of (he:h.get? l=some o) (hc:o.cls=.ref 64):Looks MM h (typeOf (.ref l)) (.ref 64):=by
  have t:Looks MM h (typeOf (.ref l)) o.cls:=(Looks.ld he).andThen .now
  rw [hc] at t;exact t
theorem matches_of {A:Around} {Q:Bool->Shared->Prop} (F:FaultOK K) (X:K.In s.heap) (he:s.heap.get? l=some o) (hc:o.cls=.ref 64) (q:Q true s):wpAny MM A (excMatches (.ref l) (.ref 64)) Q E s:=by
  unfold excMatches
  refine wpAny_bind ((looks_instIn X F.notTup).here (wpAny_bind (wpAny_pure ?_)))
  dsimp only
  rw [List.forIn_cons]
  refine wpAny_bind (wpAny_bind (wpAny_bind ((is_exc F X).here (wpAny_pure ?_))))
  dsimp only
  rw [List.forIn_nil]
  refine wpAny_pure (wpAny_bind ((typ_of he hc).here ?_))
  rw [List.forIn_cons]
  exact wpAny_bind (wpAny_bind (wpAny_bind ((looks_subIn X F.self).here (wpAny_pure (wpAny_pure (wpAny_pure q))))))
theorem fault_name {A:Around} {xp:Pos} {Q:Value->Shared->Prop} (hg:isGlob c.sc (Str.ofString "ClientFault")=true) (q:Q (.ref 64) x.s):wpAny (model prog k.w) A (eval (.Name (Str.ofString "ClientFault") xp) c.env) Q E x.s:=
  wpAny_Name (glob_load (v:=.glob .cFault) hg (by kernel_rfl) λu r=>r.isGlob rfl q) (by decide)
structure IsConst (e:Expr) (v:V):Prop where
  so:∀ {k:Kx} {c:Cx k} (x:At c) {A:Around} {Q:Value->Shared->Prop} {E:Value->Shared->Prop},(∀ tk u,(x.grow tk λ_ _ e=>e).is v u->Q u (x.grow tk λ_ _ e=>e).s)->wpAny (model prog k.w) A (eval e c.env) Q E x.s
theorem fl_try {e:Expr} {bl:List Stmt} {xp p2 p3:Pos} {v:V} {m:M Fl} (F:FaultOK k.K) (he:IsConst e v) (hb:SoFs c bl m) :
    SoF c (.Try bl [.ExceptHandler (some (.Name (Str.ofString "ClientFault") xp)) none [.Return (some e) p2] p3] [] [] pos) (gd (isGlob c.sc (Str.ofString "ClientFault")) (tryM m (retM (.ret v)))):=λx Q E p=>p.gd λhg p=>by
  refine wpAny_Try_except (hb x _ _ ?_)
  unfold tryM at p
  cases hm:m x.μ x.ρ with
  | ok f μ ρ=>
    rw [hm] at p
    intro y g af e1 e2 rg
    cases rg with
    | next=>exact wpAny_pure (p y _ af e1 e2 .next)
    | brk=>exact p y _ af e1 e2 .brk
    | cont=>exact p y _ af e1 e2 .cont
    | ret r=>exact p y _ af e1 e2 (.ret r)
  | exc μ ρ=>
    rw [hm] at p
    refine λy e f e1 e2 fl=>note_frame c.cfg.frames f fl λz2 s2 f2=>set_flight s2.af f2 λz3 s3 f3=>?_
    have f3':=f3
    obtain ⟨a,o,vs,T,Fo,hc,hz,ht,tr⟩:=f3'
    refine wpAny_handleBy_cons (codeAny_handlers_test (fault_name hg (matches_of F z3.kin Fo.at_ hc (codeAny_handlers_suite (set_flight s3.af f3 λz4 s4 f4=>?_))))) (λq=>nomatch q)
    refine wpAny_execs_cons (wpAny_Return_some (he.so z4 λtk u r=>?_))
    exact p (z4.grow tk λ_ _ e=>e) _ (s4.af.trans (After.grow (x:=z4) _ (Nat.le_refl _))) (s4.μ.trans (s3.μ.trans (s2.μ.trans e1))) (s4.ρ.trans (s3.ρ.trans (s2.ρ.trans e2))) (.ret r)
  | fail=>rw [hm] at p;exact p.elim
structure Made (s s':Shared) (v:Value):Prop where
  keep:∀ b o,s.heap.get? b=some o->s'.heap.get? b=some o
  size:s.heap.objs.size<=s'.heap.objs.size
  gens:s'.gens=s.gens
  os:s'.os=s.os
  is:∃ a oe vs,v=.ref a/\s.heap.objs.size<=a/\s'.heap.get? a=some oe/\oe.cls=.ref 64/\oe.data=.fields vs/\2<=vs.size/\vs[1]?=some .none
noncomputable def FaultCall (k:Kx):Prop:=∀ {c:Cx k} (x:At c) {u v:V} {w w':Value} {Q:Value->Shared->Prop} {E:Value->Shared->Prop},x.is u w->x.is v w'->(∀ z s',Made x.s s' z->Q z s')->Keeps1 (model prog k.w) x.s.heap (.ref 64)/\WP c (call (.ref 64) [w,w']) Q E x.s
theorem raise_of {A:Around} {env:Env} {e:Sem Value} {Q:Flow->Shared->Prop} (F:FaultOK K) (hh:A.handled=none) (q:wpAny MM A e (λv s₁=>∃ a o vs,v=.ref a/\K.In s₁.heap/\s₁.heap.get? a=some o/\o.cls=.ref 64/\o.data=.fields vs/\vs[1]?=some .none/\E v s₁) E s):wpAny MM A (raiseStmt env (some e) none) Q E s:=by
  refine wpAny_bind (wpAny_mono q (λv s₁ h₁=>?_) λ_ _ x=>x)
  obtain ⟨a,o,vs,rfl,X,he,hc,hd,h1,hE⟩:=h₁
  have t1:=typ_of (MM:=MM) he hc
  have ty:Looks MM s₁.heap (isType (.ref a)) false:=(Looks.ld he).andThen (by rw [hd];exact .now)
  have inst:Looks MM s₁.heap (isInstance (.ref a) (.type "BaseException")) true:=t1.andThen (looks_subIn X F.isExc)
  refine wpAny_bind (wpAny_pure (wpAny_bind (wpAny_holding (wpAny_bind (wpAny_bind (ty.here (wpAny_pure (wpAny_bind (inst.here (wpAny_pure (wpAny_bind (ty.here ?_))))))))))))
  unfold raisedInstance
  refine wpAny_bind (wpAny_bind (t1.here (wpAny_bind ((looks_typeIn X F.typ).here (wp_t (beq_self_eq_true _) (wpAny_pure (wpAny_bind (wpAny_bind (wpAny_field he hd h1 (wp_f Bool.false_ne_true (wpAny_pure ?_)))))))))))
  exact wpAny_raiseNew_none hh hE
theorem fl_raise {xp p:Pos} {ma mb:M V} (F:FaultOK k.K) (Fc:FaultCall k) (hn:noStars [a,b]=true) (ha:So c RV (eval a c.env) ma) (hb:So c RV (eval b c.env) mb) :
    SoF c (.Raise (some (.Call (.Name (Str.ofString "ClientFault") xp) [a,b] [] p)) none pos) (gd (isGlob c.sc (Str.ofString "ClientFault")) (bindM ma λ_=>bindM mb λ_=>excM)):=λx Q E pp=>pp.gd λhg pp=>by
  rw [arm_exec_Raise]
  refine wpAny_bind (wpAny_standAt ?_)
  show WP c (raiseStmt c.env (some (do let v ←eval (.Call (.Name (Str.ofString "ClientFault") xp) [a,b] [] p) c.env;standAt pos;pure v)) none) _ _ _
  refine raise_of F c.cfg.handled (wpAny_bind ?_)
  rw [arm_eval_Call_Name']
  refine wpAny_bind (fault_name hg (callWith_of (P:=λh=>Keeps1 (model prog k.w) h (.ref 64)) (by rw [plain_any hn];rfl) (λh k=>k) (args_of hn ?_)))
  rw [star_plain (noStars_cons hn).1,star_plain (noStars_cons (noStars_cons hn).2).1]
  show WP c (spliced [(false,eval a c.env),(false,eval b c.env)]) _ _ _
  unfold spliced
  refine wpAny_bind (ha x _ _ (pp.bind λu y w f ru pp=>wp_f Bool.false_ne_true (wpAny_bind (wpAny_pure (wpAny_bind (wpAny_holding ?_))))))
  unfold spliced
  refine wpAny_bind (hb y _ _ (pp.bind λv z w' f2 rv pp=>wp_f Bool.false_ne_true (wpAny_bind (wpAny_pure (wpAny_bind (wpAny_holding (wpAny_pure (wpAny_pure (wpAny_pure ?_)))))))))
  refine Fc z (ru.after f2) rv λe s m=>?_
  obtain ⟨a,o,vs,rfl,h2,h3,h4,h5,h6,h7⟩:=m.is
  let q:At c:=⟨z.g,z.μ,z.ρ,s,z.st.grow m.keep⟩
  have g:After [] z (z.grow s.toks m.keep):=.grow m.keep m.size
  have n:=z.st.new h2
  exact wpAny_bind (wpAny_standAt (wpAny_pure ⟨a,o,vs,rfl,q.kin,h3,h4,h5,h7,pp q (.ref a) { g with gens:=m.gens,os:=m.os } rfl rfl ⟨a,o,vs,⟨⟨h2,n.β,n.φ⟩,h3,h5⟩,h4,h6,.inl h7⟩⟩))
end
end
section
set_option genInjectivity false
set_option genSizeOf false
open PySem PySem.W PyProof.Rows
structure Full (k:Kx):Prop extends Calls k where
  fault:FaultOK k.K
  made:FaultCall k
structure Plain (e:Expr):Prop where
  star:starOf e=false
  fold:∀ env x,foldedSetIterable e env x=pure x
  sub:Plainly e
  mark:∀ op,Unmarked op e
noncomputable abbrev Part (α:Type):=Tab->Scope->M α
inductive Kind (e:Expr) (m:Part V):Type
  | other (drop:∀ t n env,swapsWith e t n env=pure false) (st:∀ ts w p env,swappedStores [.Tuple ts w p] e env=pure none)
  | tup (es:List Expr) (w:Nat) (p:Pos) (h:e=.Tuple es w p)
  | comp (ic:IsComp e) (us:∀ {k} (F:Full k) (c:Cx k),Uses c e (m k.Φ c.sc))
structure Cert (e:Expr) where
  m:Part V
  t:Part Bool
  pl:Plain e
  so:∀ {k} (F:Full k) (c:Cx k),So c RV (eval e c.env) (m k.Φ c.sc)
  sot:∀ {k} (F:Full k) (c:Cx k),SoT? c e (t k.Φ c.sc)
  base:Option (PLift (∀ n env t,attributeBase e n env t=t))
  kd:Kind e m
inductive KindA (t:Expr) (m:Tab->Scope->V->M Unit):Type
  | other (st:∀ e env,swappedStores [t] e env=pure none) (sw:∀ e,IsComp e->∀ l env,∃ b,swapsWith e (some t) l env=pure b)
  | tup (ts:List Expr) (w:Nat) (p:Pos) (ns:List Str) (h:t=.Tuple ts w p) (hn:AllNames ts ns) (hm:m=λ_ sc=>tupA sc ns)
  | mix (ts:List Expr) (w:Nat) (p:Pos) (h:t=.Tuple ts w p) (hx:ts.all nameOf=false)
structure CertA (t:Expr) where
  m:Tab->Scope->V->M Unit
  so:∀ {k} (F:Full k) (c:Cx k),SoA c t (m k.Φ c.sc)
  each:EachOk t
  kd:KindA t m
  two:Bool
  tg:Option (PLift (Tgt t two))
noncomputable abbrev Cd {α:Type} (C:∀ {k:Kx} (c:Cx k),M α->Prop):Type:={ m:Part α // ∀ {k} (F:Full k) (c:Cx k),C c (m k.Φ c.sc) }
noncomputable abbrev CertS (t i:Expr):Type:=Cd λ{_} c m=>SoS c t i m
noncomputable abbrev CertL (es:List Expr):Type:=Cd λ{_} c m=>noStars es=true/\SoEs c es m
noncomputable abbrev CertT (ifs:List Expr):Type:=Cd λ{_} c m=>So c RB (testTree ifs c.env) m
noncomputable abbrev CertB (op:BoolOp) (es:List Expr):Type:=(Cd λ{_} c m=>∀ pos,So c RV (boolOp pos op (evalEach es c.env)) m)×Cd λ{_} c m=>So c RB (allTrue op es c.env) m
noncomputable abbrev CertC (ops:List CmpOp) (es:List Expr):Type:={ m:Tab->Scope->V->M Bool // ∀ {k} (F:Full k) (c:Cx k) a,SoC c a ops es (m k.Φ c.sc a) }
structure Tower where
  E:∀ e,Option (Cert e)
  A:∀ t,Option (CertA t)
section
variable (T:Tower)
noncomputable def cEach:∀ es,Option (CertL es)
  | []=>some ⟨λ_ _=>retM [],λ_ _=>⟨rfl,so_nil⟩⟩
  | e :: r=>(T.E e).bind λa=>(cEach r).map λb=>⟨λΦ sc=>bindM (a.m Φ sc) λv=>bindM (b.1 Φ sc) λvs=>retM (v :: vs),λF c=>⟨Bool.and_eq_true_iff.mpr ⟨(Bool.not_eq_true' _).mpr a.pl.star,(b.2 F c).1⟩,so_cons a.pl.star (a.so F c) (b.2 F c).2⟩⟩
noncomputable def cTests:∀ es,Option (CertT es)
  | []=>some ⟨λ_ _=>retM true,λ_ _=>tests_nil⟩
  | e :: r=>(T.E e).bind λa=>(cTests r).map λb=>⟨λΦ sc=>bindM (a.t Φ sc) λd=>if d then b.1 Φ sc else retM false,λF c=>tests_cons (a.sot F c) (b.2 F c)⟩
noncomputable def cAnd:∀ es,Option (CertB .And es)
  | []=>none
  | [e]=>(T.E e).map λa=>⟨⟨a.m,λF c pos=>so_one (a.so F c)⟩,⟨λΦ sc=>bindM (a.t Φ sc) λd=>if d then retM true else retM false,λF c=>so_tand (a.sot F c) (so_tnil (op:=.And))⟩⟩
  | e :: f :: r=>(T.E e).bind λa=>(cAnd (f :: r)).map λb=>⟨⟨λΦ sc=>bindM (a.m Φ sc) λv=>bindM (truthM v) λd=>if d then b.1.1 Φ sc else retM v,λF c pos=>so_and (a.so F c) (b.1.2 F c pos)⟩,⟨λΦ sc=>bindM (a.t Φ sc) λd=>if d then b.2.1 Φ sc else retM false,λF c=>so_tand (a.sot F c) (b.2.2 F c)⟩⟩
noncomputable def cOr:∀ es,Option (CertB .Or es)
  | []=>none
  | [e]=>(T.E e).map λa=>⟨⟨a.m,λF c pos=>so_one (a.so F c)⟩,⟨λΦ sc=>bindM (a.t Φ sc) λd=>if d then retM true else retM false,λF c=>so_tor (a.sot F c) (so_tnil (op:=.Or))⟩⟩
  | e :: f :: r=>(T.E e).bind λa=>(cOr (f :: r)).map λb=>⟨⟨λΦ sc=>bindM (a.m Φ sc) λv=>bindM (truthM v) λd=>if d then retM v else b.1.1 Φ sc,λF c pos=>so_or (a.so F c) (b.1.2 F c pos)⟩,⟨λΦ sc=>bindM (a.t Φ sc) λd=>if d then retM true else b.2.1 Φ sc,λF c=>so_tor (a.sot F c) (b.2.2 F c)⟩⟩
noncomputable def cChain:∀ ops es,Option (CertC ops es)
  | [op],[e]=>(T.E e).map λa=>⟨λΦ sc u=>bindM (a.m Φ sc) λb=>cmpM op u b,λF c u=>soc_last (a.pl.mark op) (a.so F c)⟩
  | op :: op2 :: ops,e :: e2 :: es=>(T.E e).bind λa=>(cChain (op2 :: ops) (e2 :: es)).map λb=>⟨λΦ sc u=>bindM (a.m Φ sc) λv=>bindM (cmpM op u v) λd=>if d then b.1 Φ sc v else retM false,λF c u=>soc_link (a.so F c) (b.2 F c)⟩
  | _,_=>none
noncomputable def cPlain (t i:Expr):Option (CertS t i):=(T.E i).map λa=>⟨λΦ sc=>bindM (a.m Φ sc) srcM,λF c=>sos_plain (a.so F c)⟩
noncomputable def cSrc (t i:Expr):Option (CertS t i):=match t,i with
  | .Tuple ts w p,.Call (.Name x xp) es [] pos=>if h:x=Str.ofString "enumerate" then (cEach T es).map λa=>⟨λΦ sc=>gd (isGlob sc (Str.ofString "enumerate")) (bindM (a.1 Φ sc) enumM),λF c=>by subst h;exact sos_enum (a.2 F c).1 (a.2 F c).2⟩ else cPlain T _ _
  | t,i=>cPlain T t i
structure Clause (g:Comprehension) where
  two:Bool
  tg:Tgt g.target two
  a:CertA g.target
  f:CertT g.ifs
  s:CertS g.target g.iter
  fold:∀ env x,foldedSetIterable g.iter env x=pure x
  sync:g.is_async=0
noncomputable def cClause (g:Comprehension):Option (Clause g):=
  (T.A g.target).bind λa=>a.tg.bind λt=>(cTests T g.ifs).bind λf=>(T.E g.iter).bind λi=>(cSrc T g.target g.iter).bind λs=>if h:g.is_async=0 then some ⟨a.two,t.down,a,f,s,i.pl.fold,h⟩ else none
structure Emit (mk:List Comprehension->Expr) (inner:Scope) (b:Bool) where
  m:Tab->Scope->Acc->M Acc
  tl:Addr->Env->Sem Fin->Sem Fin
  pos:Pos
  ic:∀ gs,IsComp (mk gs)
  cl:∀ gs,clausesOf (mk gs)=gs
  ev:∀ t i ifs gs env,eval (mk (⟨t,i,ifs,0⟩ :: gs)) env=comprehension (mk (⟨t,i,ifs,0⟩ :: gs)) inner env i.pos (if b then newList [] else newDict) false (eval i env) none
  us:∀ t i ifs gs env u,evalThenUse (mk (⟨t,i,ifs,0⟩ :: gs)) env u=(comprehension (mk (⟨t,i,ifs,0⟩ :: gs)) inner env i.pos (if b then newList [] else newDict) false (eval i env) (some u) >>= λ_=>pure ())
  one:∀ t i ifs D it env,compTurn (mk [⟨t,i,ifs,0⟩]) 0 it (.ref D) env=compBody (tl D env) t i ifs it (onceMore it D env (mk [⟨t,i,ifs,0⟩]) 0) env
  two:∀ t i ifs t2 i2 ifs2 D it env,compTurn (mk [⟨t,i,ifs,0⟩,⟨t2,i2,ifs2,0⟩]) 0 it (.ref D) env=compBody (nestTree (mk [⟨t,i,ifs,0⟩,⟨t2,i2,ifs2,0⟩]) i2 (.ref D) env) t i ifs it (onceMore it D env (mk [⟨t,i,ifs,0⟩,⟨t2,i2,ifs2,0⟩]) 0) env
  twob:∀ t i ifs t2 i2 ifs2 D it env,compTurn (mk [⟨t,i,ifs,0⟩,⟨t2,i2,ifs2,0⟩]) 1 it (.ref D) env=compBody (tl D env) t2 i2 ifs2 it (onceMore it D env (mk [⟨t,i,ifs,0⟩,⟨t2,i2,ifs2,0⟩]) 1) env
  so:∀ {k} (F:Full k) (c:Cx k) D,SoT c b D (tl D c.env) (m k.Φ c.sc)
  pl:∀ gs,Plain (mk gs)
  ist:∀ gs env,isTrue (mk gs) env (eval (mk gs) env)=(do let v ←eval (mk gs) env;standAt (mk gs).pos;holding [v] (truthy v))
  base:∀ gs n env t,attributeBase (mk gs) n env t=t
variable {T}
noncomputable def mkComp {mk:List Comprehension->Expr} {inner:Scope} {b:Bool} (Em:Emit mk inner b) (thaw:Bool) {t i:Expr} {ifs:List Expr} {as:Int} (C:Clause ⟨t,i,ifs,as⟩) (gs:List Comprehension) (tail:Tab->Scope->Acc->M Acc)
    (H:∀ {k} (F:Full k) (c:Cx k),compOk c.sc inner=true->CompH c inner b (mk (⟨t,i,ifs,as⟩ :: gs)) t i ifs gs (C.s.1 k.Φ c.sc) (tail k.Φ inner) (C.a.m k.Φ inner) (C.f.1 k.Φ inner) C.two):Cert (mk (⟨t,i,ifs,as⟩ :: gs)):=
  let m:Part V:=λΦ sc=>gd (compOk sc inner) (compM sc inner b thaw (C.s.1 Φ sc) (tail Φ inner) (C.a.m Φ inner) (C.f.1 Φ inner))
  have hev:∀ env,eval (mk (⟨t,i,ifs,as⟩ :: gs)) env=comprehension (mk (⟨t,i,ifs,as⟩ :: gs)) inner env i.pos (if b then newList [] else newDict) false (eval i env) none:=λenv=>by cases (show as=0 from C.sync);exact Em.ev ..
  have hus:∀ env u,evalThenUse (mk (⟨t,i,ifs,as⟩ :: gs)) env u=(comprehension (mk (⟨t,i,ifs,as⟩ :: gs)) inner env i.pos (if b then newList [] else newDict) false (eval i env) (some u) >>= λ_=>pure ()):=λenv u=>by cases (show as=0 from C.sync);exact Em.us ..
  have so:∀ {k} (F:Full k) (c:Cx k),So c RV (eval (mk (⟨t,i,ifs,as⟩ :: gs)) c.env) (m k.Φ c.sc):=λF c x Q E p=>p.gd λok p=>by
    rw [hev]
    exact so_comp (H F c ok) x Q E p
  { m:=m,t:=λΦ sc=>bindM (m Φ sc) truthM,pl:=Em.pl _,so:=so,sot:=λF c=>so_true (so F c) (Em.ist _ _),base:=some ⟨Em.base _⟩
    kd:=.comp (Em.ic _) λF c use um hu x Q E p=>p.gdB λok p=>by
      rw [hus]
      exact wpAny_bind (comp_use (thaw:=thaw) (H F c ok) hu (Q:=λ_ s=>WP c (pure ()) (λ_ s=>Q () s) E s) (p.mono λ_ _ _ _=>⟨(),trivial,λq=>wpAny_pure q⟩)) }
variable (T)
noncomputable def cComp {mk:List Comprehension->Expr} {inner:Scope} {b:Bool} (Em:Emit mk inner b) (thaw:Bool):∀ gs,Option (Cert (mk gs))
  | [⟨t,i,ifs,as⟩]=>(cClause T ⟨t,i,ifs,as⟩).map λC=>mkComp Em thaw C [] Em.m λ{k} F c ok=>by
    cases (show as=0 from C.sync)
    exact ⟨Em.ic _,Em.cl _,ok,C.fold _,C.tg,C.s.2 F c,λ_=>C.a.so F _,λA=>C.f.2 F (c.within inner A),λA D=>⟨_,λit=>Em.one ..,Em.so F (c.within inner A) D⟩⟩
  | [⟨t,i,ifs,as⟩,⟨t2,i2,ifs2,as2⟩]=>(cClause T ⟨t,i,ifs,as⟩).bind λC=>(cClause T ⟨t2,i2,ifs2,as2⟩).map λC2=>mkComp Em thaw C [⟨t2,i2,ifs2,as2⟩] (λΦ sc=>nestM (C2.s.1 Φ sc) (C2.a.m Φ sc) (C2.f.1 Φ sc) (Em.m Φ sc)) λ{k} F c ok=>by
    cases (show as=0 from C.sync)
    cases (show as2=0 from C2.sync)
    exact ⟨Em.ic _,Em.cl _,ok,C.fold _,C.tg,C.s.2 F c,λ_=>C.a.so F _,λA=>C.f.2 F (c.within inner A),λA D=>⟨_,λit=>Em.two ..,sot_nest (c:=c.within inner A) (Em.ic _) (by rw [Em.cl];rfl) (C2.fold _) (λit=>Em.twob ..) C2.tg (C2.s.2 F _) (C2.a.so F _) (C2.f.2 F (c.within inner A)) (Em.so F (c.within inner A) D)⟩⟩
  | _=>none
end
end
section
set_option genInjectivity false
set_option genSizeOf false
open PySem PySem.W PyProof.Rows
noncomputable def emitList (elt:Expr) (e:Cert elt) (inner:Scope) (pos:Pos):Emit (λgs=>.ListComp elt gs inner pos) inner true where
  m Φ sc acc:=bindM (e.m Φ sc) λv=>emitL v acc
  tl D env:=emitTreeL elt (.ref D) env
  pos:=pos
  ic _:=.list
  cl _:=rfl
  ev _ _ _ _ _:=rfl
  us _ _ _ _ _ _:=rfl
  one _ _ _ _ _ _:=rfl
  two _ _ _ _ _ _ _ _ _:=rfl
  twob _ _ _ _ _ _ _ _ _:=rfl
  so F c D:=sot_list (e.so F c)
  pl _:=⟨rfl,λ_ _=>rfl,λ_ _=>rfl,λ_=>rfl⟩
  ist _ _:=rfl
  base _ _ _ _:=rfl
noncomputable def emitDict (kx vx:Expr) (a:Cert kx) (b:Cert vx) (inner:Scope) (pos:Pos):Emit (λgs=>.DictComp kx vx gs inner pos) inner false where
  m Φ sc acc:=bindM (a.m Φ sc) λx=>bindM (b.m Φ sc) λy=>emitD x y acc
  tl D env:=emitTreeD kx vx D env
  pos:=pos
  ic _:=.dict
  cl _:=rfl
  ev _ _ _ _ _:=rfl
  us _ _ _ _ _ _:=rfl
  one _ _ _ _ _ _:=rfl
  two _ _ _ _ _ _ _ _ _:=rfl
  twob _ _ _ _ _ _ _ _ _:=rfl
  so F c D:=sot_dict (a.so F c) (b.so F c)
  pl _:=⟨rfl,λ_ _=>rfl,λ_ _=>rfl,λ_=>rfl⟩
  ist _ _:=rfl
  base _ _ _ _:=rfl
noncomputable abbrev Whole (e:Expr):Prop:=∀ env,isTrue e env (eval e env)=(do let v ←eval e env;standAt e.pos;holding [v] (truthy v))
noncomputable def val (e:Expr) (m:Part V) (pl:Plain e) (h:Whole e) (sw:∀ t n env,swapsWith e t n env=pure false) (st:∀ ts w p env,swappedStores [.Tuple ts w p] e env=pure none) (base:Option (PLift (∀ n env t,attributeBase e n env t=t))) (so:∀ {k} (F:Full k) (c:Cx k),So c RV (eval e c.env) (m k.Φ c.sc)):Cert e:=
  ⟨m,λΦ sc=>bindM (m Φ sc) truthM,pl,so,λF c=>so_true (so F c) (h _),base,.other sw st⟩
noncomputable def tru (e:Expr) (m:Part V) (t:Part Bool) (pl:Plain e) (sw:∀ t n env,swapsWith e t n env=pure false) (st:∀ ts w p env,swappedStores [.Tuple ts w p] e env=pure none) (so:∀ {k} (F:Full k) (c:Cx k),So c RV (eval e c.env) (m k.Φ c.sc)) (sot:∀ {k} (F:Full k) (c:Cx k),SoT? c e (t k.Φ c.sc)):Cert e:=
  ⟨m,t,pl,so,sot,none,.other sw st⟩
section
variable (T:Tower)
noncomputable def minusOne?:(e:Expr)->Option (Σ' n q1 q2,PLift (e=.UnaryOp .USub (.Constant (.int 1) n q1) q2))
  | .UnaryOp .USub (.Constant (.int j) n q1) q2=>if h:j=1 then some ⟨n,q1,q2,⟨by rw [h]⟩⟩ else none
  | _=>none
noncomputable def cSub (o:Expr) (a:Cert o) (pos:Pos):(i:Expr)->Option (Cert (.Subscript o i pos))
  | .Slice none (some h) none sp=>(T.E h).map λb=>val _ (λΦ sc=>bindM (a.m Φ sc) λu=>bindM (b.m Φ sc) λv=>sliceHi (thawed pos) u v) ⟨rfl,λ_ _=>rfl,λ_ _=>rfl,λ_=>rfl⟩ (λ_=>rfl) (λ_ _ _=>rfl) (λ_ _ _ _=>rfl) (some ⟨λ_ _ _=>rfl⟩) λF c=>so_slice_hi (a.so F c) (b.so F c)
  | .Slice (some l) none none sp=>(T.E l).map λb=>val _ (λΦ sc=>bindM (a.m Φ sc) λu=>bindM (b.m Φ sc) λv=>sliceLo (thawed pos) u v) ⟨rfl,λ_ _=>rfl,λ_ _=>rfl,λ_=>rfl⟩ (λ_=>rfl) (λ_ _ _=>rfl) (λ_ _ _ _=>rfl) (some ⟨λ_ _ _=>rfl⟩) λF c=>so_slice_lo (a.so F c) (b.so F c)
  | .Slice none none (some s) sp=>(minusOne? s).map λh=>val _ (λΦ sc=>bindM (a.m Φ sc) λu=>sliceBack (thawed pos) u) ⟨rfl,λ_ _=>rfl,λ_ _=>rfl,λ_=>rfl⟩ (λ_=>rfl) (λ_ _ _=>rfl) (λ_ _ _ _=>rfl) (some ⟨λ_ _ _=>rfl⟩) λF c=>by
      obtain ⟨n,q1,q2,⟨rfl⟩⟩:=h
      exact so_slice_back (a.so F c)
  | i=>(T.E i).map λb=>val _ (λΦ sc=>bindM (a.m Φ sc) λu=>bindM (b.m Φ sc) λv=>idxM u v) ⟨rfl,λ_ _=>rfl,λ_ _=>rfl,λ_=>rfl⟩ (λ_=>rfl) (λ_ _ _=>rfl) (λ_ _ _ _=>rfl) (some ⟨λ_ _ _=>rfl⟩) λF c=>so_sub b.pl.sub (a.so F c) (b.so F c)
noncomputable def cCall (es:List Expr) (a:CertL es) (pos:Pos):(f:Expr)->Option (Cert (.Call f es [] pos))
  | .Name x xp=>some (val _ (λΦ sc=>bindM (ldM sc x) λf=>bindM (a.1 Φ sc) λvs=>callM Φ (thawed pos) f vs) ⟨rfl,λ_ _=>rfl,λ_ _=>rfl,λ_=>rfl⟩ (λ_=>rfl) (λ_ _ _=>rfl) (λ_ _ _ _=>rfl) none λF c=>so_call F.toCalls (a.2 F c).1 (a.2 F c).2)
  | .Attribute o name ap=>(T.E o).bind λb=>b.base.bind λhb=>if h:(decide (es.length<30)&&ap.endLine==pos.line)=true then some (val _ (λΦ sc=>bindM (b.m Φ sc) λu=>bindM (pickM u name) λme=>bindM (a.1 Φ sc) λvs=>methM Φ u me vs) ⟨rfl,λ_ _=>rfl,λ_ _=>rfl,λ_=>rfl⟩ (λ_=>rfl) (λ_ _ _=>rfl) (λ_ _ _ _=>rfl) none λF c=>
      so_meth F.toCalls (a.2 F c).1 (and_t h).1 (and_t h).2 (hb.down _ _ _) (b.so F c) (a.2 F c).2) else none
  | _=>none
noncomputable def cConst (n:Nat) (pos:Pos):(c:Const)->Option (Cert (.Constant c n pos))
  | .none=>some (val _ (λ_ _=>retM .none) ⟨rfl,λ_ _=>rfl,λ_ _=>rfl,λ_=>rfl⟩ (λ_=>rfl) (λ_ _ _=>rfl) (λ_ _ _ _=>rfl) none λ_ _=>so_none)
  | .bool b=>some (val _ (λ_ _=>retM (.bool b)) ⟨rfl,λ_ _=>rfl,λ_ _=>rfl,λ_=>rfl⟩ (λ_=>rfl) (λ_ _ _=>rfl) (λ_ _ _ _=>rfl) none λ_ _=>so_bool)
  | .int b=>some (val _ (λ_ _=>retM (.int b)) ⟨rfl,λ_ _=>rfl,λ_ _=>rfl,λ_=>rfl⟩ (λ_=>rfl) (λ_ _ _=>rfl) (λ_ _ _ _=>rfl) none λ_ _=>so_int)
  | .str b=>some (val _ (λ_ _=>retM (.str b)) ⟨rfl,λ_ _=>rfl,λ_ _=>rfl,λ_=>rfl⟩ (λ_=>rfl) (λ_ _ _=>rfl) (λ_ _ _ _=>rfl) none λ_ _=>so_str)
  | _=>none
noncomputable def cUn (e:Expr) (a:Cert e) (pos:Pos):(op:UnaryOp)->Option (Cert (.UnaryOp op e pos))
  | .Not=>some (tru _ (λΦ sc=>bindM (bindM (a.m Φ sc) truthM) λb=>retM (.bool (!b))) (λΦ sc=>bindM (a.t Φ sc) λb=>retM (!b)) ⟨rfl,λ_ _=>rfl,λ_ _=>rfl,λ_=>rfl⟩ (λ_ _ _=>rfl) (λ_ _ _ _=>rfl) (λF c=>so_not (a.so F c)) λF c=>so_tnot (a.sot F c))
  | .USub=>some (val _ (λΦ sc=>bindM (a.m Φ sc) λu=>unM .USub u) ⟨rfl,λ_ _=>rfl,λ_ _=>rfl,λ_=>rfl⟩ (λ_=>rfl) (λ_ _ _=>rfl) (λ_ _ _ _=>rfl) none λF c=>so_un (a.so F c))
  | _=>none
noncomputable def stepE:(e:Expr)->Option (Cert e)
  | .Constant c n pos=>cConst n pos c
  | .Name x pos=>some (val _ (λ_ sc=>ldM sc x) ⟨rfl,λ_ _=>rfl,λ_ _=>rfl,λ_=>rfl⟩ (λ_=>rfl) (λ_ _ _=>rfl) (λ_ _ _ _=>rfl) (some ⟨λ_ _ _=>rfl⟩) λ_ _=>so_name)
  | .Tuple es n pos=>(cEach T es).map λa=>⟨λΦ sc=>bindM (a.1 Φ sc) tupM,λΦ sc=>bindM (bindM (a.1 Φ sc) tupM) truthM,⟨rfl,λ_ _=>rfl,λ_ _=>rfl,λ_=>rfl⟩,λF c=>so_tuple (a.2 F c).2,λF c=>so_true (so_tuple (a.2 F c).2) rfl,none,.tup es n pos rfl⟩
  | .List es pos=>(cEach T es).map λa=>val _ (λΦ sc=>bindM (a.1 Φ sc) (lstM (thawed pos))) ⟨rfl,λ_ _=>rfl,λ_ _=>rfl,λ_=>rfl⟩ (λ_=>rfl) (λ_ _ _=>rfl) (λ_ _ _ _=>rfl) none λF c=>so_list (a.2 F c).2
  | .Dict [] [] pos=>some (val _ (λ_ _=>dctM (thawed pos) [] []) ⟨rfl,λ_ _=>rfl,λ_ _=>rfl,λ_=>rfl⟩ (λ_=>rfl) (λ_ _ _=>rfl) (λ_ _ _ _=>rfl) none λ_ _=>so_dict0)
  | .BinOp l op r pos=>(T.E l).bind λa=>(T.E r).map λb=>val _ (λΦ sc=>bindM (a.m Φ sc) λu=>bindM (b.m Φ sc) λv=>binM (thawed pos) op u v) ⟨rfl,λ_ _=>rfl,λ_ _=>rfl,λ_=>rfl⟩ (λ_=>rfl) (λ_ _ _=>rfl) (λ_ _ _ _=>rfl) none λF c=>so_bin (a.so F c) (b.so F c)
  | .UnaryOp op e pos=>(T.E e).bind λa=>cUn e a pos op
  | .IfExp t a b pos=>(T.E t).bind λct=>(T.E a).bind λca=>(T.E b).map λcb=>tru _ (λΦ sc=>bindM (ct.t Φ sc) λd=>if d then ca.m Φ sc else cb.m Φ sc) (λΦ sc=>bindM (ct.t Φ sc) λd=>if d then ca.t Φ sc else cb.t Φ sc) ⟨rfl,λ_ _=>rfl,λ_ _=>rfl,λ_=>rfl⟩ (λ_ _ _=>rfl) (λ_ _ _ _=>rfl)
      (λF c=>so_if (ct.sot F c) (ca.so F c) (cb.so F c)) λF c=>so_tif (ct.sot F c) (ca.sot F c) (cb.sot F c)
  | .Compare l ops es pos=>(T.E l).bind λa=>(cChain T ops es).map λb=>tru _ (λΦ sc=>bindM (a.m Φ sc) λu=>bindM (b.1 Φ sc u) λd=>retM (.bool d)) (λΦ sc=>bindM (a.m Φ sc) λu=>b.1 Φ sc u) ⟨rfl,λ_ _=>rfl,λ_ _=>rfl,λ_=>rfl⟩ (λ_ _ _=>rfl) (λ_ _ _ _=>rfl)
      (λ{k} F c=>so_compare (mr:=b.1 k.Φ c.sc) (a.so F c) (b.2 F c)) λ{k} F c=>so_test (mr:=b.1 k.Φ c.sc) (a.so F c) (b.2 F c)
  | .BoolOp .And es pos=>(cAnd T es).map λa=>tru _ a.1.1 a.2.1 ⟨rfl,λ_ _=>rfl,λ_ _=>rfl,λ_=>rfl⟩ (λ_ _ _=>rfl) (λ_ _ _ _=>rfl) (λF c=>a.1.2 F c pos) λF c=>a.2.2 F c
  | .BoolOp .Or es pos=>(cOr T es).map λa=>tru _ a.1.1 a.2.1 ⟨rfl,λ_ _=>rfl,λ_ _=>rfl,λ_=>rfl⟩ (λ_ _ _=>rfl) (λ_ _ _ _=>rfl) (λF c=>a.1.2 F c pos) λF c=>a.2.2 F c
  | .Subscript o i pos=>(T.E o).bind λa=>cSub T o a pos i
  | .Attribute o name pos=>(T.E o).bind λa=>a.base.bind λhb=>match hf:fdOf name with
    | some f=>some (val _ (λΦ sc=>bindM (a.m Φ sc) λu=>getA f u) ⟨rfl,λ_ _=>rfl,λ_ _=>rfl,λ_=>rfl⟩ (λ_=>rfl) (λ_ _ _=>rfl) (λ_ _ _ _=>rfl) (some ⟨λ_ _ _=>rfl⟩) λF c=>so_attr (hb.down _ _ _) hf (a.so F c))
    | none=>none
  | .Call f es [] pos=>(cEach T es).bind λa=>cCall T es a pos f
  | .ListComp elt gs inner pos=>(T.E elt).bind λe=>cComp T (emitList elt e inner pos) (thawed pos) gs
  | .DictComp kx vx gs inner pos=>(T.E kx).bind λa=>(T.E vx).bind λb=>cComp T (emitDict kx vx a b inner pos) (thawed pos) gs
  | _=>none
end
end
section
set_option genInjectivity false
set_option genSizeOf false
open PySem PySem.W PyProof.Rows
noncomputable def names?:(ts:List Expr)->Option { ns:List Str // AllNames ts ns }
  | []=>some ⟨[],.nil⟩
  | .Name x p :: r=>(names? r).map λn=>⟨x :: n.1,.cons x p n.2⟩
  | _=>none
section
variable (T:Tower)
noncomputable def cAs:(ts:List Expr)->Option { fs:Tab->Scope->List (V->M Unit) // ∀ {k} (F:Full k) (c:Cx k),AsgsOk c ts ts.length (fs k.Φ c.sc) }
  | []=>some ⟨λ_ _=>[],λ_ _=>asgs_nil⟩
  | t :: r=>(T.A t).bind λa=>(cAs r).map λb=>⟨λΦ sc=>a.m Φ sc :: b.1 Φ sc,λF c=>asgs_cons a.each (a.so F c) (b.2 F c)⟩
noncomputable def stepA:(t:Expr)->Option (CertA t)
  | .Name x p=>some ⟨λ_ sc v=>stM sc x v,λ_ _=>asg_name,λ_ _=>rfl,.other (λ_ _=>rfl) (λe ic l env=>by cases ic <;> exact ⟨_,rfl⟩),true,some ⟨.name x p true⟩⟩
  | .Attribute o name pos=>(T.E o).bind λa=>match hf:fdOf name with
    | some f=>some ⟨λΦ sc v=>bindM (a.m Φ sc) λu=>setA f u v,λF c=>asg_attr hf (a.so F c),λ_ _=>rfl,.other (λ_ _=>rfl) (λe ic l env=>by cases ic <;> exact ⟨_,rfl⟩),true,none⟩
    | none=>none
  | .Subscript o i pos=>(T.E o).bind λa=>(T.E i).map λb=>⟨λΦ sc v=>bindM (a.m Φ sc) λu=>bindM (b.m Φ sc) λw=>putM u w v,λF c=>asg_sub (a.so F c) (b.so F c),λ_ _=>rfl,.other (λ_ _=>rfl) (λe ic l env=>by cases ic <;> exact ⟨_,rfl⟩),true,none⟩
  | .Tuple ts n pos=>match names? ts with
    | some ns=>some ⟨λ_ sc=>tupA sc ns.1,λ_ _=>asg_tup ns.2.ok,λ_ _=>rfl,.tup ts n pos ns.1 rfl ns.2 rfl,true,some ⟨.tup ts n pos⟩⟩
    | none=>(cAs T ts).bind λfs=>if h:ts.all nameOf=false then some ⟨λΦ sc v=>asgTup ts.length v (asgs (fs.1 Φ sc)),λF c=>asg_tup (fs.2 F c),λ_ _=>rfl,.mix ts n pos rfl h,true,none⟩ else none
  | _=>none
end
noncomputable def tower:Nat->Tower
  | 0=>⟨λ_=>none,λ_=>none⟩
  | n+1=>⟨stepE (tower n),stepA (tower n)⟩
noncomputable def tw:Tower:=tower 24
noncomputable abbrev CertF (st:Stmt):Type:=Cd λ{_} c m=>SoF c st m
noncomputable abbrev CertFs (l:List Stmt):Type:=Cd λ{_} c m=>SoFs c l m
noncomputable def cStmts (rec:(st:Stmt)->CertF st):(l:List Stmt)->CertFs l
  | []=>⟨λ_ _=>retM .next,λ_ _=>fl_nil⟩
  | s :: r=>⟨λΦ sc=>bindM ((rec s).1 Φ sc) (seqFl ((cStmts rec r).1 Φ sc)),λF c=>fl_cons ((rec s).2 F c) ((cStmts rec r).2 F c)⟩
noncomputable def cAssign {t e:Expr} (a:CertA t) (b:Cert e) (pos:Pos):Option (CertF (.Assign [t] e pos)):=match a.kd,b.kd with
  | .other st sw,.other drop _=>some ⟨λΦ sc=>asgF (b.m Φ sc) (a.m Φ sc),λF c=>fl_assign a.each (drop _ _ _) (st _ _) (b.so F c) (a.so F c)⟩
  | .other st sw,.tup es w p h=>some ⟨λΦ sc=>asgF (b.m Φ sc) (a.m Φ sc),λF c=>fl_assign a.each (by rw [h];rfl) (st _ _) (b.so F c) (a.so F c)⟩
  | .other st sw,.comp ic us=>some ⟨λΦ sc=>asgF (b.m Φ sc) (a.m Φ sc),λF c=>fl_comp (sw e ic _ _) a.each (us F c) (b.so F c) (a.so F c) (st _ _)⟩
  | .tup ts w p ns h hn hm,.other drop st=>some ⟨λΦ sc=>asgF (b.m Φ sc) (tupA sc ns),λF c=>by subst h;exact fl_assign (λ_ _=>rfl) (drop _ _ _) (st _ _ _ _) (b.so F c) (asg_tup hn.ok)⟩
  | .tup ts w p ns h hn hm,.tup es w' p' h'=>if hk:(es.all (constantsAlone 8)=false)/\ns.Nodup then some ⟨λΦ sc=>asgF (b.m Φ sc) (tupA sc ns),λF c=>by
      subst h h'
      exact fl_tup hn hk.2 hk.1 (b.so F c)⟩ else none
  | .mix ts w p h hx,.tup es w' p' h'=>some ⟨λΦ sc=>asgF (b.m Φ sc) (a.m Φ sc),λF c=>fl_assign a.each (by rw [h',h];rfl) (by rw [h',h];exact swap_none hx) (b.so F c) (a.so F c)⟩
  | _,_=>none
structure Const? (e:Expr) where
  v:V
  is:IsConst e v
noncomputable def const?:(e:Expr)->Option (Const? e)
  | .Constant (.bool b) _ _=>some ⟨.bool b,⟨λ{_ _} x {_ _ _} q=>wpAny_Constant_bool (q x.s.toks _ (.bool b))⟩⟩
  | .Constant (.int b) _ _=>some ⟨.int b,⟨λ{_ _} x {_ _ _} q=>wpAny_Constant_int (q _ _ (.int b _))⟩⟩
  | _=>none
noncomputable def cHandler (b:List Stmt) (mb:CertFs b) (pos:Pos):(l:List ExceptHandler)->Option (CertF (.Try b l [] [] pos))
  | [.ExceptHandler (some (.Name x xp)) none [.Return (some e) p2] p3]=>if h:x=Str.ofString "ClientFault" then (const? e).map λv=>⟨λΦ sc=>gd (isGlob sc (Str.ofString "ClientFault")) (tryM (mb.1 Φ sc) (retM (.ret v.v))),λF c=>by subst h;exact fl_try F.fault v.is (mb.2 F c)⟩ else none
  | _=>none
noncomputable def stepS (rec:(st:Stmt)->CertF st):(st:Stmt)->Option (CertF st)
  | .Break pos=>some ⟨λ_ _=>retM .brk,λ_ _=>fl_break⟩
  | .Return none pos=>some ⟨λ_ _=>retM (.ret .none),λ_ _=>fl_return0⟩
  | .Return (some e) pos=>(tw.E e).map λa=>⟨λΦ sc=>bindM (a.m Φ sc) λv=>retM (.ret v),λF c=>fl_return (a.so F c)⟩
  | .Assign [t] e pos=>(tw.A t).bind λa=>(tw.E e).bind λb=>cAssign a b pos
  | .AugAssign (.Name x np) op e pos=>(tw.E e).map λa=>⟨λΦ sc=>bindM (ldM sc x) λu=>bindM (a.m Φ sc) λv=>bindM (augM op u v) λw=>bindM (stM sc x w) λ_=>retM .next,λF c=>fl_aug (a.so F c)⟩
  | .Expr e pos=>(tw.E e).bind λa=>match a.kd with
    | .other drop _=>some ⟨λΦ sc=>bindM (a.m Φ sc) λ_=>retM .next,λF c=>fl_expr (λn=>drop _ _ _) (a.so F c)⟩
    | _=>none
  | .If t b e pos=>(tw.E t).map λa=>⟨λΦ sc=>bindM (a.t Φ sc) λd=>if d then (cStmts rec b).1 Φ sc else (cStmts rec e).1 Φ sc,λF c=>fl_if (a.sot F c) ((cStmts rec b).2 F c) ((cStmts rec e).2 F c)⟩
  | .For t it b [] pos=>(tw.A t).bind λa=>a.tg.bind λtg=>(tw.E it).bind λi=>(cSrc tw t it).map λs=>⟨λΦ sc=>bindM (s.1 Φ sc) λs=>forM (stillM s.1) (λx=>bindM (a.m Φ sc x) λ_=>(cStmts rec b).1 Φ sc) s.2,λF c=>fl_for (i.pl.fold _) tg.down (s.2 F c) (a.so F c) ((cStmts rec b).2 F c)⟩
  | .While t b [] pos=>(tw.E t).map λa=>⟨λΦ sc=>whileM (a.t Φ sc) ((cStmts rec b).1 Φ sc) 1000,λF c=>fl_while (a.sot F c) ((cStmts rec b).2 F c)⟩
  | .Raise (some (.Call (.Name x xp) [a,b] [] p)) none pos=>if h:x=Str.ofString "ClientFault" then (cEach tw [a,b]).bind λl=>(tw.E a).bind λma=>(tw.E b).map λmb=>⟨λΦ sc=>gd (isGlob sc (Str.ofString "ClientFault")) (bindM (ma.m Φ sc) λ_=>bindM (mb.m Φ sc) λ_=>excM),λF c=>by subst h;exact fl_raise F.fault F.made (l.2 F c).1 (ma.so F c) (mb.so F c)⟩ else none
  | .Try b l [] [] pos=>cHandler b (cStmts rec b) pos l
  | _=>none
noncomputable def certS:Nat->(st:Stmt)->CertF st
  | 0,_=>⟨λ_ _=>failM,λ_ _ _ _ _ p=>p.elim⟩
  | n+1,st=>match stepS (certS n) st with
    | some a=>a
    | none=>⟨λ_ _=>failM,λ_ _ _ _ _ p=>p.elim⟩
noncomputable def body (l:List Stmt):CertFs l:=cStmts (certS 12) l
end
section
set_option backward.match.sparseCases true
open PySem PySem.W PyProof.Rows
noncomputable abbrev FnRec:=List Str×List Stmt×Scope
noncomputable def fnsOf (b:List Stmt):List (Str×FnRec):=b.filterMap λs=>match s with
  | .FunctionDef n a body _ _ _ sc _ _ _=>some (n,(a.args.map (·.arg),body,sc))
  | _=>none
noncomputable def clsOf (b:List Stmt):List (Str×List (Str×FnRec)):=b.filterMap λs=>match s with
  | .ClassDef n _ _ body _ _ _ _ _ _ _=>some (n,fnsOf body)
  | _=>none
noncomputable def topB:List Stmt:=PySem.Challenge.pw_pq0940_01.main.body
noncomputable def noRec:FnRec:=([],[],{ kind:=.function,names:=[],isGenerator:=false,isCoroutine:=false })
noncomputable def fnR (m:String):FnRec:=((fnsOf topB).lookup (Str.ofString m)).getD noRec
noncomputable def meR (c m:String):FnRec:=(((clsOf topB).lookup (Str.ofString c)).bind λl=>l.lookup (Str.ofString m)).getD noRec
noncomputable def frameOf (f:FnRec) (args:List V):Option (List (Option V)):=
  if f.1.length=args.length then some ((varsOf f.2.2).map λx=>(f.1.zip args).lookup x.1) else none
noncomputable def Fl.val:Fl->V
  | .ret v=>v
  | _=>.none
noncomputable def runF (Φ:Tab) (f:FnRec) (args:List V) (μ:List O):CR:=match frameOf f args with
  | some ρ=>(match (body f.2.1).1 Φ f.2.2 μ ρ with
    | .ok f μ' _=>.ok f.val μ'
    | .exc μ' _=>.exc μ'
    | .fail=>.fail)
  | none=>.fail
noncomputable abbrev FnT:=Addr->Option FnRec
noncomputable def phiT (T:FnT):Nat->Tab
  | 0=>λ_ _ _=>.fail
  | n+1=>λa args μ=>match T a with
    | some f=>runF (phiT T n) f args μ
    | none=>.fail
inductive FnIs (K:Frag) (a:Addr) (f:FnRec) (ds:List Value):Prop
  | mk (o:Obj) (fd:FuncData) (c:Addr) (oc:Obj) (vs:Array Value) (t:Tok) (h:K.lookup a=some o) (d:o.data=.func fd) (b:fd.body=.stmts f.2.1) (s:fd.scope=f.2.2) (g:fd.globals=mainGlobals) (bl:fd.builtins=builtinsNs) (cl:fd.closure=[])
    (co:fd.code=.ref c) (hc:K.lookup c=some oc) (dc:oc.data=.fields vs) (q:vs[1]?=some (.str fd.qualname t)) (args:∀ (s:Shared) (vals:List Value),K.In s.heap->(vals++ds).length=f.1.length->BindsTo s fd ⟨vals,[]⟩ (f.1.zip (vals++ds)))
structure FnOK (K:Frag) (a:Addr) (f:FnRec) (ds:List Value:=[]):Prop where
  fn:FnIs K a f ds
  keep:keepIn K (.ref a)=true
  kind:f.2.2.kind=.function
  co:f.2.2.isCoroutine=false
  gen:f.2.2.isGenerator=false
  nodup:(f.2.2.names.map (·.1)).Nodup
  pnodup:f.1.Nodup
  pars:∀ x∈f.1,f.2.2.names.lookup x=some .local∨f.2.2.names.lookup x=some .cell
  nofree:∀ y∈f.2.2.names,y.2≠.free
  dbg:f.2.2.names.lookup ("__debug__":Str)=none
  cld:f.2.2.names.lookup ("__classdict__":Str)=none
theorem cells_keys:∀ (l:List (Str×NameKind)) (n:Nat) (acc:List (Str×Addr)),(cellsFrom n l acc).map (·.1)=((l.filter λy=>y.2==.cell).map (·.1)).reverse++acc.map (·.1)
  | [],_,_=>rfl
  | (y,k) :: r,n,acc=>by
    unfold cellsFrom
    rw [List.filter_cons]
    cases h:k==NameKind.cell with
    | true=>rw [if_pos rfl,if_pos rfl,cells_keys r,List.map_cons,List.map_cons,List.reverse_cons,List.append_assoc];rfl
    | false=>exact cells_keys r n acc
theorem lookup_some {α:Type} {l:List (Str×α)} {x:Str} (h:x∈l.map (·.1)):∃ v,l.lookup x=some v:=by
  induction l with
  | nil=>cases h
  | cons y r ih=>
    rw [List.lookup_cons]
    cases e:x==y.1 with
    | true=>exact ⟨_,rfl⟩
    | false=>exact ih ((List.mem_cons.mp h).elim (λq=>absurd (beq_iff_eq.mpr q) (Bool.eq_false_iff.mp e)) id)
theorem cell_some {x:Str} {l:List (Str×NameKind)} {n:Nat} (h:(x,NameKind.cell)∈l):∃ c,(cellsFrom n l []).lookup x=some c:=
  lookup_some (by rw [cells_keys,List.map_nil,List.append_nil];exact List.mem_reverse.mpr (List.mem_map.mpr ⟨(x,.cell),List.mem_filter.mpr ⟨h,rfl⟩,rfl⟩))
theorem cells_nodup {l:List (Str×NameKind)} {n:Nat} (h:(l.map (·.1)).Nodup):((cellsFrom n l []).map (·.1)).Nodup:=by
  rw [cells_keys,List.map_nil,List.append_nil]
  exact List.pairwise_reverse.mpr (List.pairwise_map.mpr (((List.pairwise_map.mp h).imp λe=>Ne.symm e).filter _))
section
variable {κ:Str->Option NameKind} {x:Str} {v:Value} {l:List (Str×Value)} {m:Str->Option Value}
theorem bindL_out (h:x∉l.map (·.1)):bindL κ l m x=m x:=by
  induction l generalizing m with
  | nil=>rfl
  | cons y r ih=>
    refine (ih λw=>h (List.mem_cons_of_mem _ w)).trans ?_
    split
    · exact if_neg λe=>h (List.mem_cons.mpr (.inl e))
    · rfl
theorem bindC_out (h:x∉l.map (·.1)):bindC κ l m x=m x:=by
  induction l generalizing m with
  | nil=>rfl
  | cons y r ih=>
    refine (ih λw=>h (List.mem_cons_of_mem _ w)).trans ?_
    split
    · rfl
    · exact if_neg λe=>h (List.mem_cons.mpr (.inl e))
theorem bindL_in (hk:κ x=some .local) (hn:(l.map (·.1)).Nodup) (e:l.lookup x=some v):bindL κ l m x=some v:=by
  induction l generalizing m with
  | nil=>cases e
  | cons y r ih=>
    obtain ⟨h1,h2⟩:=List.nodup_cons.mp hn
    rw [List.lookup_cons] at e
    cases hx:x==y.1 with
    | true=>
      rw [hx] at e
      cases e
      cases eq_of_beq hx
      refine (bindL_out h1).trans ?_
      rw [if_pos hk];exact if_pos rfl
    | false=>rw [hx] at e;exact ih h2 e
theorem bindC_in (hk:κ x≠some .local) (hn:(l.map (·.1)).Nodup) (e:l.lookup x=some v):bindC κ l m x=some v:=by
  induction l generalizing m with
  | nil=>cases e
  | cons y r ih=>
    obtain ⟨h1,h2⟩:=List.nodup_cons.mp hn
    rw [List.lookup_cons] at e
    cases hx:x==y.1 with
    | true=>
      rw [hx] at e
      cases e
      cases eq_of_beq hx
      refine (bindC_out h1).trans ?_
      rw [if_neg hk];exact if_pos rfl
    | false=>rw [hx] at e;exact ih h2 e
end
theorem zip_at {R:V->Value->Prop} {ps:List Str} {vs:List V} {xs:List Value} (r:All2 R vs xs) {x:Str} {v:V} (e:(ps.zip vs).lookup x=some v):∃ y,(ps.zip xs).lookup x=some y/\R v y:=by
  induction r generalizing ps with
  | nil=>rw [List.zip_nil_right] at e;cases e
  | cons a _ ih=>cases ps with
    | nil=>cases e
    | cons p ps=>
      rw [List.zip_cons_cons,List.lookup_cons] at e ⊢
      cases hx:x==p with
      | true=>rw [hx] at e;cases e;exact ⟨_,rfl,a⟩
      | false=>rw [hx] at e;exact ih e
theorem zip_keys {ps:List Str} {xs:List Value} (h:xs.length=ps.length):(ps.zip xs).map (·.1)=ps:=List.map_fst_zip (Nat.le_of_eq h.symm)
theorem Hp.none {B:Heap} {P:Params} {fs:List Env} {g:Gh} {μ:List O} {h:Heap} {a:Addr} (H:Hp B P fs g μ h) (ha:h.objs.size<=a):a∉feet g.β/\a∉g.φ/\a∉frs fs/\B.get? a=.none:=
  ⟨λm=>let ⟨_,e⟩:=H.here m;old_ne e ha rfl,λm=>let ⟨_,e⟩:=(H.froz a m).2;old_ne e ha rfl,λm=>let ⟨_,_,_,e,_⟩:=(H.frames a m).2;old_ne e ha rfl,by
    cases e:B.get? a with
    | none=>rfl
    | some o=>exact absurd rfl (old_ne (H.stays a o e) ha)⟩
theorem Hp.grow {B:Heap} {P:Params} {fs:List Env} {g:Gh} {μ:List O} {h h':Heap} (H:Hp B P fs g μ h) (q:∀ b o,h.get? b=some o->h'.get? b=some o):Hp B P fs g μ h':=
  { H with
    stays:=λb o e=>q b o (H.stays b o e)
    objs:=λi o e=>let ⟨p,hp,r⟩:=H.objs i o e;⟨p,hp,r.mono (.more q) λ_ _ _ e=>q _ _ e⟩
    froz:=λa m=>⟨(H.froz a m).1,let ⟨o,e⟩:=(H.froz a m).2;⟨o,q a o e⟩⟩
    frames:=λa m=>⟨(H.frames a m).1,(H.frames a m).2.keep λo e=>⟨o.slots,q a o e⟩⟩ }
section
variable {k:Kx} {fs:List Env} {g:Gh} {μ:List O} {s s₁:Shared} {fd:FuncData} {a:Addr} {f:FnRec} {vs:List V} {xs ds:List Value} {A:Around}
noncomputable abbrev callee (k:Kx) (fs:List Env) (fd:FuncData) (n a:Addr) (f:FnRec) (A:Around) (cf:Cfg k.d A (callEnvC fd n a) (callEnvC fd n a :: fs)):Cx k:=⟨callEnvC fd n a :: fs,f.2.2,callEnvC fd n a,A,cf⟩
theorem st_call (cf:Cfg k.d A (callEnvC fd s.heap.objs.size a) (callEnvC fd s.heap.objs.size a :: fs)) (H:Hp k.B k.w.params fs g μ s.heap) (hab:k.B.objs.size<=s.heap.objs.size) (fk:FnOK k.K a f ds) (hsc:fd.scope=f.2.2) (hg:fd.globals=mainGlobals) (hb:fd.builtins=builtinsNs)
    (hlen:f.1.length=vs.length) (rs:RelVs k.w.params g s.heap vs xs)
    (x:InCallC s (callEnvC fd s.heap.objs.size a).locals (bindL (callEnvC fd s.heap.objs.size a).kindOf (f.1.zip xs) λ_=>none) (callEnvC fd s.heap.objs.size a).cells (bindC (callEnvC fd s.heap.objs.size a).kindOf (f.1.zip xs) λ_=>none) s₁) :
    St (callee k fs fd s.heap.objs.size a f A cf) g μ ((varsOf f.2.2).map λy=>(f.1.zip vs).lookup y.1) s₁.heap:=by
  have kk:=x.toInCall.keep
  have M:Stays g g s.heap s₁.heap:=.more kk
  have hkey:((f.1.zip xs).map (·.1)).Nodup:=by rw [zip_keys (rs.len.trans hlen.symm)];exact fk.pnodup
  have N:=H.none (Nat.le_refl _)
  have G:=H.grow kk
  have frsx:∀ b,b∈frs (callEnvC fd s.heap.objs.size a :: fs)->b=s.heap.objs.size∨b∈frs fs:=λb=>List.mem_cons.mp
  have kin:∀ y,(callEnvC fd s.heap.objs.size a).kindOf y=f.2.2.names.lookup y:=λy=>by show fd.scope.names.lookup y=_;rw [hsc]
  have cab:∀ {y},y∈(callEnvC fd s.heap.objs.size a).cells->s.heap.objs.size<y.2:=λ{y}=>x.above y.1 y.2
  have kind:fd.scope.kind=.function:=by rw [hsc];exact fk.kind
  have slot:∀ {n i v},slotOf f.2.2 n=some i->((varsOf f.2.2).map λy=>(f.1.zip vs).lookup y.1)[i]?=some (some v)->∃ u,(f.1.zip xs).lookup n=some u/\RelV k.w.params g s.heap v u:=λ{n i v} hi hv=>by
    obtain ⟨y,hy,_⟩:=slot_at fk.nodup hi
    rw [List.getElem?_map,hy] at hv
    exact zip_at rs (Option.some.inj hv)
  have frame:FrameAt s₁.heap s.heap.objs.size:=.of x.toInCall.ns
  exact {
    hp:={ G with
      off:=λb m=>⟨(G.off b m).1,λq=>(frsx b q).elim (λq=>N.1 (q▸m)) (G.off b m).2.1,(G.off b m).2.2⟩
      froz:=λb m=>⟨λq=>(frsx b q).elim (λq=>N.2.1 (q▸m)) (G.froz b m).1,(G.froz b m).2⟩
      kinds:=λe he=>(List.mem_cons.mp he).elim (λq=>q▸⟨(by show fd.scope.kind≠_;rw [kind];decide),_,rfl⟩) (G.kinds e)
      frames:=λb m=>(frsx b m).elim (λq=>q▸⟨N.2.2.2,frame⟩) (G.frames b) }
    fr:={
      above:=hab
      eok:=⟨hg,hb,kind,λy k hy _=>(kin y).trans hy,λy hy=>absurd rfl (fk.nofree _ (mem_of_lookup hy)),fk.dbg,fk.cld⟩
      rlen:=List.length_map ..
      foff:=λb m=>(List.mem_cons.mp m).elim (λq=>q▸⟨N.1,N.2.1,N.2.2.2⟩) λq=>by
        obtain ⟨y,hy,rfl⟩:=List.mem_map.mp q
        have n:=H.none (Nat.le_of_lt (cab hy))
        exact ⟨n.1,n.2.1,n.2.2.2⟩
      cfrs:=λy hy=>⟨λq=>(frsx _ q).elim (Nat.ne_of_gt (cab hy)) (H.none (Nat.le_of_lt (cab hy))).2.2.1,Nat.ne_of_gt (cab hy)⟩
      apart:=x.apart
      cpres:=λy hy=>⟨_,x.cell y.1 y.2 (lookup_nodup (cells_nodup (by rw [hsc];exact fk.nodup)) hy)⟩
      loc:=⟨_,x.toInCall.ns,λy i v hy hi hv=>let ⟨u,hu,ru⟩:=slot hi hv;⟨u,bindL_in ((kin y).trans hy) hkey hu,ru.mono M⟩⟩
      cel:=λy i hy hi=>by
        have hc:f.2.2.names.lookup y=some .cell:=(isCell_at hy).elim id λh=>absurd rfl (fk.nofree _ (mem_of_lookup h))
        obtain ⟨c,hcc⟩:=cell_some (n:=s.heap.objs.size+1) (show (y,NameKind.cell)∈fd.scope.names by rw [hsc];exact mem_of_lookup hc)
        exact ⟨c,_,hcc,x.cell y c hcc,λv hv=>let ⟨u,hu,ru⟩:=slot hi hv;⟨u,bindC_in (by rw [kin,hc];decide) hkey hu,ru.mono M⟩⟩ } }
theorem par_kinds (fk:FnOK k.K a f ds) (hsc:fd.scope=f.2.2) (hl:xs.length=f.1.length) {n:Nat}:∀ x∈f.1.zip xs,fd.scope.names.lookup x.1=some .local∨(fd.scope.names.lookup x.1=some .cell/\((cellsFrom n fd.scope.names []).lookup x.1).isSome=true):=λx hx=>by
  have hm:x.1∈f.1:=by rw [←zip_keys hl];exact List.mem_map.mpr ⟨x,hx,rfl⟩
  rw [hsc]
  exact (fk.pars _ hm).imp id λq=>⟨q,let ⟨c,h⟩:=cell_some (mem_of_lookup q);h▸rfl⟩
end
theorem call_cells {w:World} {A:Around} {s:Shared} {R:Result->Shared->Prop} {a:Addr} {o:Obj} {fd:FuncData} {b:List Stmt} {vals:List Value} {binds:List (Str×Value)} (hr:A.depth<recursionLimit) (ho:s.heap.get? a=some o) (hd:o.data=.func fd) (hl:s.heap.NoLimit) (hc:s.heap.CodeRec fd.code fd.qualname) (hb:fd.body=.stmts b) (hbind:BindsTo s fd ⟨vals,[]⟩ binds) (hclo:fd.closure=[])
    (hkind:∀ x∈binds,fd.scope.names.lookup x.1=some .local∨(fd.scope.names.lookup x.1=some .cell/\((cellsFrom (s.heap.objs.size+1) fd.scope.names []).lookup x.1).isSome=true))
    (h:∀ s₁,InCallC s (callEnvC fd s.heap.objs.size a).locals (bindL (callEnvC fd s.heap.objs.size a).kindOf binds λ_=>none) (callEnvC fd s.heap.objs.size a).cells (bindC (callEnvC fd s.heap.objs.size a).kindOf binds λ_=>none) s₁ ->
      wpAny (model prog w) (A.deeper (callEnvC fd s.heap.objs.size a)) (execs b (callEnvC fd s.heap.objs.size a)) (λf s'=>R (.ok (.ret (match f with | .ret v=>v | _=>.none))) s') (λe s'=>wpAny (model prog w) (A.deeper (callEnvC fd s.heap.objs.size a)) (leaving (callEnvC fd s.heap.objs.size a) e) (λ_ s''=>R (.error e) s'') (λe' s''=>R (.error e') s'') s') s₁)
    (hco:fd.scope.isCoroutine=false) (hgen:fd.scope.isGenerator=false) (hk:fd.scope.kind=.function):codeAny (model prog w) A (.call (.ref a) ⟨vals,[]⟩) R s:=by
  refine codeAny_call_function hr ho hd hco hgen hb hc ?_
  rw [hclo]
  exact hbind _ _ _ _ (wpAny_newFunctionEnv_cells hk hkind λenv he s' x=>by
    subst he
    exact ⟨hl.keeps x.toInCall.keep,codeAny_func (h s' x)⟩)
end
section
set_option backward.match.sparseCases true
open PySem PySem.W PyProof.Rows
noncomputable abbrev Kx.at (k:Kx) (d:Nat) (Φ:Tab):Kx:=⟨k.w,k.B,k.K,d,Φ,k.base⟩
noncomputable def resM (r:CR) (ρ:List (Option V)):Res V:=match r with
  | .ok v μ'=>.ok v μ' ρ
  | .exc μ'=>.exc μ' ρ
  | .fail=>.fail
noncomputable def resF (r:Res Fl):CR:=match r with
  | .ok f μ' _=>.ok f.val μ'
  | .exc μ' _=>.exc μ'
  | .fail=>.fail
inductive Ran (Φ:Tab) (f:FnRec) (vs:List V) (μ:List O) (r:CR):Prop
  | mk (h:f.1.length=vs.length) (e:r=resF ((body f.2.1).1 Φ f.2.2 μ ((varsOf f.2.2).map λy=>(f.1.zip vs).lookup y.1)))
theorem ran_at {Φ:Tab} {f:FnRec} {vs:List V} {μ:List O} (h:runF Φ f vs μ≠.fail):Ran Φ f vs μ (runF Φ f vs μ):=by
  unfold runF frameOf at *
  by_cases hl:f.1.length=vs.length
  · rw [if_pos hl] at h ⊢
    exact ⟨hl,rfl⟩
  · rw [if_neg hl] at h;exact absurd rfl h
section
variable {k:Kx} {d:Nat} {Φ Φ':Tab} {g:Gh} {μ:List O} {s s₁:Shared} {a:Addr} {f:FnRec} {vs:List V} {xs ds:List Value} {A:Around} {fs:List Env}
theorem enter {R:Result->Shared->Prop} (F:Full (k.at d Φ)) (hh:A.handled=none) (hf:A.frames=some fs) (hd:A.depth+1+10 * d<=900) (hu:A.units+3+100 * d<=7900)
    (H:Hp k.B k.w.params fs g μ s.heap) (hab:k.B.objs.size<=s.heap.objs.size) (fk:FnOK k.K a f ds) (rs:RelVs k.w.params g s.heap vs (xs++ds)) (hl:f.1.length=vs.length)
    (kn:∀ (c:Cx (k.at d Φ)) (y:At c),c.A.frames=some c.fs->c.env.frame=some s.heap.objs.size->c.fs=c.env :: fs->c.env.locals=s.heap.objs.size->(∀ b∈wcells c.sc c.env,s.heap.objs.size<=b)->(∀ b o,s.heap.get? b=some o->y.s.heap.get? b=some o)->(∃ h tk,y.s={ s with heap:=h,toks:=tk })->y.g=g ->
      s.heap.objs.size<=y.s.heap.objs.size->Post [] y RF ((body f.2.1).1 Φ f.2.2 μ ((varsOf f.2.2).map λz=>(f.1.zip vs).lookup z.1)) (λfl s'=>R (.ok (.ret (match fl with | .ret v=>v | _=>.none))) s')
        (λe s'=>wpAny (model prog k.w) c.A (leaving c.env e) (λ_ s''=>R (.error e) s'') (λe' s''=>R (.error e') s'') s')):codeAny (model prog k.w) A (.call (.ref a) ⟨xs,[]⟩) R s:=by
  obtain ⟨o,fd,cd,oc,cvs,t,hK,hdt,hbody,hsc,hg,hbt,hclo,hcode,hcK,hcd,hcq,hbind⟩:=fk.fn
  have Kin:k.K.In s.heap:=k.base.k.keeps H.stays
  have hxl:(xs++ds).length=f.1.length:=rs.len.trans hl.symm
  refine call_cells (show A.depth<1000 by lia) (Kin _ _ hK) hdt (k.base.nolimit.keeps H.stays) ⟨cd,oc,cvs,t,hcode,Kin _ _ hcK,hcd,hcq⟩ hbody (hbind s xs Kin hxl) hclo (par_kinds (k:=k) fk hsc hxl) (λs₁ x=>?_) (by rw [hsc];exact fk.co) (by rw [hsc];exact fk.gen) (by rw [hsc];exact fk.kind)
  let c:Cx (k.at d Φ):=callee (k.at d Φ) fs fd s.heap.objs.size a f (A.deeper (callEnvC fd s.heap.objs.size a)) ⟨hh,congrArg (Option.map _) hf,hd,hu,_,_,rfl,rfl⟩
  let y:At c:=⟨g,μ,_,s₁,st_call (k:=k.at d Φ) c.cfg H hab fk hsc hg hbt hl rs x⟩
  refine (body f.2.1).2 F c y _ _ (kn c y c.cfg.frames rfl rfl rfl (λb m=>?_) x.toInCall.keep x.toInCall.same rfl (Nat.le_of_lt x.toInCall.ns.lt))
  obtain ⟨z,hz,e⟩:=List.mem_filterMap.mp m
  split at e
  · cases e;exact Nat.le_of_lt (x.above z.1 z.2 hz)
  · cases e
theorem own_code {c:Cx (k.at (d+1) Φ')} (x:At c) {R:Result->Shared->Prop} (F:Full (k.at d Φ)) (hh:A.handled=none) (hf:A.frames=some c.fs) (hd:A.depth+1+10 * d<=900) (hu:A.units+3+100 * d<=7900) (fk:FnOK k.K a f ds) (rs:x.are vs (xs++ds))
    (p:Post [] x RV (resM (runF Φ f vs x.μ) x.ρ) (λv s'=>R (.ok (.ret v)) s') λe s'=>R (.error e) s'):codeAny (model prog k.w) A (.call (.ref a) ⟨xs,[]⟩) R x.s:=by
  have hr:runF Φ f vs x.μ≠.fail:=λh=>by rw [h] at p;exact p
  obtain ⟨hl,e⟩:=ran_at hr
  rw [e] at p
  have hab:k.B.objs.size<=x.s.heap.objs.size:=Nat.le_trans x.st.fr.above (Nat.le_of_lt x.st.fr.lt)
  refine enter F hh hf hd hu x.st.hp hab fk rs hl λc' y hf hfr hfs hL hw kk hs hg hz=>?_
  have I:Inn c c' x.s.heap.objs.size:={
    fs:=λe m=>by rw [hfs];exact List.mem_cons_of_mem _ m
    frs:=λb m=>by
      rw [hfs,show frs (c'.env :: c.fs)=x.s.heap.objs.size :: frs c.fs by unfold frs;rw [List.filterMap_cons,hfr]] at m
      exact (List.mem_cons.mp m).elim (λq=>.inr (Nat.le_of_eq q.symm)) .inl
    loc:=Nat.le_of_eq hL.symm
    wc:=hw }
  obtain ⟨h1,tk1,hs1⟩:=hs
  have a0:Aft c' [] x.g x.s y.g y.s:=by rw [hg];exact ⟨hz,λ_ _ e=>e,λ_ m=>m,λ_ m=>.inl m,λ_ m=>.inl m,.same λb o _=>kk b o,by rw [hs1],by rw [hs1]⟩
  have fin:∀ {z:At c'},After [] y z->St c z.g z.μ x.ρ z.s.heap/\Aft c [] x.g x.s z.g z.s:=λ{z} f=>⟨I.back (a0.trans f) (λ_ m=>none_in m) z.st.hp,I.out (a0.trans f)⟩
  cases hr:(body f.2.1).1 Φ f.2.2 x.μ ((varsOf f.2.2).map λz=>(f.1.zip vs).lookup z.1) with
  | ok fl μ' ρ'=>
    rw [hr] at p
    intro z gl fz e1 e2 rg
    obtain ⟨S,aw⟩:=fin fz
    have p:=p ⟨z.g,z.μ,x.ρ,z.s,S⟩
    cases rg with
    | next=>exact p .none aw e1 rfl .none
    | brk=>exact p .none aw e1 rfl .none
    | cont=>exact p .none aw e1 rfl .none
    | ret r=>exact p _ aw e1 rfl r
  | exc μ' ρ'=>
    rw [hr] at p
    refine λz e fz e1 e2 fl=>wpAny_bind (note_frame hf fz fl λz2 s2 f2=>set_flight s2.af f2 λz3 s3 f3=>?_)
    obtain ⟨S,aw⟩:=fin s3.af
    exact p ⟨z3.g,z3.μ,x.ρ,z3.s,S⟩ e aw (s3.μ.trans (s2.μ.trans e1)) rfl (f3.fly.back hz)
  | fail=>rw [hr] at p;exact p.elim
theorem call_own {c:Cx (k.at (d+1) Φ')} (x:At c) {Q:Value->Shared->Prop} {E:Value->Shared->Prop} (F:Full (k.at d Φ)) (fk:FnOK k.K a f) (rs:x.are vs xs) (p:Post [] x RV (resM (runF Φ f vs x.μ) x.ρ) Q E):WP c (call (.ref a) xs) Q E x.s:=
  have dp:c.A.depth+10 * (d+1)<=900:=c.cfg.depth
  have un:c.A.units+100 * (d+1)<=7900:=c.cfg.units
  wpAny_call (own_code x F c.cfg.handled c.cfg.frames (by show c.A.depth+1+10 * d<=900;lia) (by lia) fk (by rw [List.append_nil];exact rs) p)
theorem enter_top {v:V} {μ':List O} {R:Result->Shared->Prop} (F:Full (k.at d Φ)) (hh:A.handled=none) (hf:A.frames=some []) (hd:A.depth+1+10 * d<=900) (hu:A.units+3+100 * d<=7900)
    (H:Hp k.B k.w.params [] g [] s.heap) (hab:k.B.objs.size<=s.heap.objs.size) (fk:FnOK k.K a f) (rs:RelVs k.w.params g s.heap vs xs) (hr:runF Φ f vs []=.ok v μ')
    (q:∀ g' s' y,k.B.StaysIn s'.heap->s'.gens=s.gens->s'.os=s.os->RelV k.w.params g' s'.heap v y->R (.ok (.ret y)) s'):codeAny (model prog k.w) A (.call (.ref a) ⟨xs,[]⟩) R s:=by
  obtain ⟨hl,e⟩:=ran_at (Φ:=Φ) (f:=f) (vs:=vs) (μ:=[]) (by rw [hr];exact λh=>nomatch h)
  rw [hr] at e
  refine enter F hh hf hd hu H hab fk (by rw [List.append_nil];exact rs) hl λc y hf hfr hfs hL hw kk hs hg hz=>?_
  obtain ⟨h1,tk1,hs1⟩:=hs
  cases hb:(body f.2.1).1 Φ f.2.2 [] ((varsOf f.2.2).map λz=>(f.1.zip vs).lookup z.1) with
  | ok fl μ2 ρ2=>
    rw [hb] at e
    cases e
    intro z gl fz e1 e2 rg
    have q:=q z.g z.s
    have S:=z.st.hp.stays
    have g1:z.s.gens=s.gens:=fz.gens.trans (by rw [hs1])
    have g2:z.s.os=s.os:=fz.os.trans (by rw [hs1])
    cases rg with
    | next=>exact q _ S g1 g2 .none
    | brk=>exact q _ S g1 g2 .none
    | cont=>exact q _ S g1 g2 .none
    | ret r=>exact q _ S g1 g2 r
  | exc=>rw [hb] at e;cases e
  | fail=>rw [hb] at e;cases e
end
end
section
open PySem PySem.W PyProof.Rows
structure Ordr {α:Type} (lt:α->α->Bool):Prop where
  trans:∀ a b c,lt b a=false->lt c b=false->lt c a=false
  asym:∀ a b,lt a b=true->lt b a=false
  anti:∀ a b,lt a b=false->lt b a=false->a=b
section
variable {α:Type} {lt:α->α->Bool}
noncomputable abbrev Up (lt:α->α->Bool) (l:List α):Prop:=l.Pairwise λa b=>lt b a=false
theorem insBy_perm (x:α):∀ l:List α,(insBy lt x l).Perm (x :: l)
  | []=>.refl _
  | y :: r=>by
    unfold insBy
    split
    · exact .refl _
    · exact ((insBy_perm x r).cons y).trans (.swap x y r)
theorem sortBy_perm:∀ l:List α,(sortBy lt l).Perm l
  | []=>.refl _
  | x :: r=>(insBy_perm x _).trans ((sortBy_perm r).cons x)
theorem insBy_up (o:Ordr lt) (x:α):∀ l:List α,Up lt l->Up lt (insBy lt x l)
  | [],_=>List.pairwise_cons.mpr ⟨λ_ m=>(nomatch m),.nil⟩
  | y :: r,h=>by
    obtain ⟨h1,h2⟩:=List.pairwise_cons.mp h
    unfold insBy
    split
    · have hx:=o.asym _ _ ‹lt x y=true›
      exact List.pairwise_cons.mpr ⟨λz m=>(List.mem_cons.mp m).elim (λe=>e▸hx) λm=>o.trans _ _ _ hx (h1 z m),h⟩
    · exact List.pairwise_cons.mpr ⟨λz m=>(List.mem_cons.mp ((insBy_perm x r).mem_iff.mp m)).elim (λe=>e▸Bool.eq_false_iff.mpr ‹_›) (h1 z),insBy_up o x r h2⟩
theorem sortBy_up (o:Ordr lt):∀ l:List α,Up lt (sortBy lt l)
  | []=>.nil
  | x :: r=>insBy_up o x _ (sortBy_up o r)
theorem sortBy_eq (o:Ordr lt) {l l':List α} (p:l'.Perm l) (h:Up lt l'):sortBy lt l=l':=
  ((sortBy_perm l).trans p.symm).eq_of_pairwise (λa b _ _ h1 h2=>o.anti a b h2 h1) (sortBy_up o l) h
end
theorem ltI_iff {a b:Int}:ltI b a=false↔a<=b:=decide_eq_false_iff_not.trans Int.not_lt
theorem ord_int:Ordr ltI:=⟨λa b c h1 h2=>ltI_iff.mpr (Int.le_trans (ltI_iff.mp h1) (ltI_iff.mp h2)),λa b h=>ltI_iff.mpr (Int.le_of_lt (of_decide_eq_true h)),λa b h1 h2=>Int.le_antisymm (ltI_iff.mp h2) (ltI_iff.mp h1)⟩
theorem ltNs_eq:∀ a b:List Nat,ltNs a b=decide (a<b)
  | [],[]=>rfl
  | a :: r,[]=>(decide_eq_false (List.not_lt_nil _)).symm
  | [],b :: t=>(decide_eq_true (List.nil_lt_cons ..)).symm
  | a :: r,b :: t=>by
    unfold ltNs
    rw [ltNs_eq r t,decide_eq_decide.mpr List.cons_lt_cons_iff]
    split
    · exact (decide_eq_true (.inl ‹_›)).symm
    · split
      · exact (decide_eq_false λh=>h.elim ‹_› λh=>Nat.ne_of_gt ‹_› h.1).symm
      · exact decide_eq_decide.mpr ⟨λh=>.inr ⟨Nat.le_antisymm (Nat.not_lt.mp ‹¬b<a›) (Nat.not_lt.mp ‹¬a<b›),h⟩,λh=>h.elim (λh=>absurd h ‹_›) (·.2)⟩
theorem ltS_iff {a b:Str}:ltS b a=false↔a.cps.toList<=b.cps.toList:=by
  unfold ltS
  rw [ltNs_eq]
  exact decide_eq_false_iff_not.trans List.not_lt
theorem ord_str:Ordr ltS where
  trans a b c h1 h2:=ltS_iff.mpr (List.le_trans (ltS_iff.mp h1) (ltS_iff.mp h2))
  asym a b h:=by
    unfold ltS at h ⊢
    rw [ltNs_eq] at h ⊢
    exact decide_eq_false (List.lt_asymm (of_decide_eq_true h))
  anti a b h1 h2:=by
    have e:=Array.toList_inj.mp (List.le_antisymm (ltS_iff.mp h2) (ltS_iff.mp h1))
    cases a;cases b;cases e;rfl
theorem ltP_iff {a b:Int×Int}:ltP b a=false↔a.1<b.1∨(a.1=b.1/\a.2<=b.2):=by
  unfold ltP
  rw [Bool.or_eq_false_iff,Bool.and_eq_false_iff,decide_eq_false_iff_not,decide_eq_false_iff_not,decide_eq_false_iff_not]
  lia
theorem ord_pair:Ordr ltP where
  trans a b c h1 h2:=ltP_iff.mpr (by have:=ltP_iff.mp h1;have:=ltP_iff.mp h2;lia)
  asym a b h:=ltP_iff.mpr (by
    unfold ltP at h
    rw [Bool.or_eq_true,Bool.and_eq_true,decide_eq_true_iff,decide_eq_true_iff,decide_eq_true_iff] at h
    lia)
  anti a b h1 h2:=Prod.ext (by have:=ltP_iff.mp h1;have:=ltP_iff.mp h2;lia) (by have:=ltP_iff.mp h1;have:=ltP_iff.mp h2;lia)
section
variable {k:Kx} {c:Cx k} {x y z:At c} {Z:List Addr} {Q:Value->Shared->Prop} {E:Value->Shared->Prop} {v:V} {u:Value} {vs:List V} {us xs:List Value} {thaw:Bool} {P:Params} {g:Gh} {h:Heap}
theorem ints_are {is:List Int} (r:RelVs P g h vs xs):intsOf vs=some is->IntsAre xs is:=by
  induction r generalizing is with
  | nil=>exact λe=>by cases e;exact .nil
  | cons a _ ih=>
    intro e
    obtain ⟨i,hi,e⟩:=Option.bind_eq_some_iff.mp e
    obtain ⟨js,hj,rfl⟩:=Option.map_eq_some_iff.mp e
    exact a.isInt hi λt=>.cons i t (ih hj)
theorem strs_are {is:List Str} (r:RelVs P g h vs xs):strsOf vs=some is->StrsAre xs is:=by
  induction r generalizing is with
  | nil=>exact λe=>by cases e;exact .nil
  | cons a _ ih=>
    intro e
    obtain ⟨i,hi,e⟩:=Option.bind_eq_some_iff.mp e
    obtain ⟨js,hj,rfl⟩:=Option.map_eq_some_iff.mp e
    exact a.isStr hi λt=>.cons i t (ih hj)
theorem ints_rel {is:List Int} (r:IntsAre xs is):RelVs P g h (is.map .int) xs:=by
  induction r with
  | nil=>exact .nil
  | cons n t _ ih=>exact .cons (.int n t) ih
theorem strs_rel {is:List Str} (r:StrsAre xs is):RelVs P g h (is.map .str) xs:=by
  induction r with
  | nil=>exact .nil
  | cons n t _ ih=>exact .cons (.str n t) ih
theorem ints_map:∀ {vs:List V} {is:List Int},intsOf vs=some is->vs=is.map .int
  | [],_,e=>by cases e;rfl
  | v :: vs,_,e=>by
    obtain ⟨i,hi,e⟩:=Option.bind_eq_some_iff.mp e
    obtain ⟨js,hj,rfl⟩:=Option.map_eq_some_iff.mp e
    rw [V.int?_eq hi,ints_map hj];rfl
theorem SeqA.walk {A:Around} {s:Shared} (H:SeqA k.w.params g h vs u) (q:∀ b o,h.get? b=some o->s.heap.get? b=some o) (hh:A.handled=none) (kn:∀ xs l o (T:Nat->Heap->Prop),RelVs k.w.params g h vs xs->l<h.objs.size->T 0 (s.heap.push o)->Walks prog k.w A s.heap.objs.size [s.heap.objs.size,l] [s.heap.objs.size] xs.toArray.size (λi v=>xs.toArray[i]?=some v) T ->
    Q (.ref s.heap.objs.size) { s with heap:=s.heap.push o }):wpAny (model prog k.w) A (pyIter u) Q E s:=by
  cases H with
  | tup a xs e r=>
    have e':=q _ _ e
    exact wpAny_pyIter_tuple (items:=xs.toArray) ⟨_,e',rfl,_,rfl⟩ (kn xs a _ _ r (Heap.lt_size e) ⟨⟨_,Heap.get?_push_size _ rfl,rfl,rfl⟩,⟨_,push_more _ _ _ _ e',rfl,_,rfl⟩⟩ (Walks.tuple hh _ a (Nat.ne_of_lt (Heap.lt_size e')) xs.toArray))
  | lst a l=>
    obtain ⟨xs,n,e,r⟩:=l
    have e':=q _ _ e
    exact wpAny_pyIter_list (items:=xs.toArray) (PySem.IsL.isList e') (kn xs a _ _ r (Heap.lt_size e) ⟨⟨_,Heap.get?_push_size _ rfl,rfl,rfl⟩,⟨_,push_more _ _ _ _ e',rfl,_,rfl⟩⟩ (Walks.list hh _ a (Nat.ne_of_lt (Heap.lt_size e')) xs.toArray))
theorem best_fold {lt:Int->Int->Bool} {f:Int->Int->Int} (hf:∀ a b,f a b=if lt b a then b else a) {n:Int} {is:List Int}:∀ j,j<=is.length->(n :: is).getD (argBest (λi j=>lt ((n :: is).getD i 0) ((n :: is).getD j 0)) j) 0=(is.take j).foldl f n
  | 0,_=>rfl
  | j+1,hj=>by
    have ih:=best_fold (n:=n) hf j (Nat.le_of_succ_le hj)
    rw [List.take_add_one,List.foldl_append,←ih,List.getElem?_eq_getElem hj]
    show _=f _ is[j]
    rw [hf]
    have e:(n :: is).getD (j+1) 0=is[j]:=by rw [List.getD_cons_succ,List.getD_eq_getElem?_getD,List.getElem?_eq_getElem hj];rfl
    rw [←e]
    exact apply_ite (λm=>(n :: is).getD m 0) _ _ _
theorem old_size {a:Addr} {o:Obj} {b:Addr} (e:h.get? b=some o):b∉[h.objs.size]:=λm=>old_ne e (Nat.le_refl _) (List.mem_singleton.mp m)
theorem minmax_walk {is:List Int} {n:Int} {op:CmpOp} {nm:String} (lt:Int->Int->Bool) (f:Int->Int->Int) (hf:∀ a b,f a b=if lt b a then b else a)
    (call_walk:∀ {x:Value} {Q:Value->Shared->Prop} {E:Value->Shared->Prop} {s:Shared},wpAny (model prog k.w) c.A.in1 (pyIter x) (λit s₂=>∃ I fp wr n P St bt,it=.ref I/\Walks prog k.w c.A.in1 I fp wr n P St/\St 0 s₂.heap/\(∀ b∈fp,b<s₂.heap.objs.size)/\0<n/\CmpOf prog k.w c.A.in1 op P bt /\
        ∀ v h' tk,P (argBest bt (n - 1)) v->(∀ b o,b∉wr->s₂.heap.get? b=some o->h'.get? b=some o)->Q v { s₂ with heap:=h',toks:=tk }) E s->wpAny (model prog k.w) c.A (call (.builtin nm) [x]) Q E s)
    (cmp:∀ (P:Nat->Value->Prop) (val:Nat->Int),(∀ i v,P i v->∃ t,v=.int (val i) t)->CmpOf prog k.w c.A.in1 op P (λi j=>lt (val i) (val j)))
    (H:SeqA k.w.params x.g x.s.heap vs u) (hi:intsOf vs=some (n :: is)) (p:Post Z x RV (.ok (.int (is.foldl f n)) x.μ x.ρ) Q E):WP c (call (.builtin nm) [u]) Q E x.s:=by
  refine wpAny_size (call_walk (H.walk (λ_ _ e=>e) c.cfg.handled λxs l o T r hl t0 W=>?_))
  have hv:=ints_map hi
  have hz:xs.toArray.size=is.length+1:=by rw [size_len r,hv,List.length_map];rfl
  have val:∀ (i:Nat) (v:Value),xs.toArray[i]?=some v->∃ t,v=.int ((n :: is).getD i 0) t:=λi v e=>by
    obtain ⟨a,ha,ra⟩:=r.get' ((List.getElem?_toArray ..).symm.trans e)
    rw [hv,List.getElem?_map] at ha
    obtain ⟨j,hj,rfl⟩:=Option.map_eq_some_iff.mp ha
    have hg:(n :: is).getD i 0=j:=by rw [List.getD_eq_getElem?_getD,hj];rfl
    rw [hg]
    cases (show IsInt j v from ra.out) with | mk t=>exact ⟨t,rfl⟩
  refine ⟨_,_,_,_,_,T,_,rfl,W,t0,λb m=>?_,by rw [hz];exact Nat.succ_pos _,cmp _ (λi=>(n :: is).getD i 0) val,λv h' tk hP hk hs=>?_⟩
  · have hb:x.s.heap.objs.size<(x.s.heap.push o).objs.size:=by rw [Heap.size_push];exact Nat.lt_succ_self _
    exact (List.mem_cons.mp m).elim (λe=>e▸hb) λm=>List.mem_singleton.mp m▸Nat.lt_trans hl hb
  · obtain ⟨t,rfl⟩:=val _ _ hP
    rw [hz,Nat.add_sub_cancel,best_fold hf _ (Nat.le_refl _),List.take_length]
    exact p.old (λb o e=>hk b o (old_size (a:=b) e) (push_more _ _ _ _ e)) hs (RelV.int _ t)
end
end
section
open PySem PySem.W PyProof.Rows
theorem collect_sized {prog:Program} {w:World} {A:Around} {E:Value->Shared->Prop} {s:Shared} {Q:List Value->Shared->Prop} (it:Addr) {T:String} {o:Obj} {items:Array Value} {n:Nat} (hT:T = "list"∨T = "tuple") (ho:s.heap.get? it=some o) (hc:o.cls=.type T) (hd:o.data=.seq items n)
    (hQ:∀ h',((∀ b o',s.heap.get? b=some o'->h'.get? b=some o')/\s.heap.objs.size<=h'.objs.size)->Q items.toList { s with heap:=h' }) (hsz:items.size<=sizeLine):wpAny (model prog w) A (collect (.ref it)) Q E s:=
  wpAny_size (wpAny_collect_seq (hsz:=hsz) it hT ho hc hd λh' hk hz=>hQ h' ⟨hk,hz⟩)
theorem meets_tuple_sized (l:Addr) (o:Obj) (items:Array Value) (n:Nat) (hc:o.cls=.type "list") (hd:o.data=.seq items n) (hsz:items.size<=sizeLine) :
    Meets (Builtin.«tuple.__new__» ⟨[.type "tuple",.ref l],[]⟩)
      (λ_ R s=>s.heap.get? l=some o/\∀ h':Heap,((∀ b o',s.heap.get? b=some o'->h'.get? b=some o')/\s.heap.objs.size<=h'.objs.size)->R (.ok (.ret (.ref h'.objs.size))) { s with heap:=h'.push { cls:=.type "tuple",data:=.seq items } }):=
  .of_wp λprog w A R s h=>by
    obtain ⟨hp,g,d,tk,os⟩:=s;obtain ⟨ht,h⟩:=h
    have hsub:=sub_tuple_self
    have hinit:=init_tuple_lookup
    have hmh:=madeHere_tuple
    have hT:Shared.TypeIs ⟨hp,g,d,tk,os⟩ (.ref l) "list":=⟨o,ht,hc⟩
    wp_walk using AutoSeq1.wpAny_loadPart' ht,wpAny_typeOf hT,collect_sized (hsz:=hsz) l (.inl rfl) ht hc hd
    intro h' hk
    show wpAny _ _ (Builtin.Tuple.tupleExact items.toList.toArray >>= λv=>ret v) _ _ _
    rw [Array.toArray_toList]
    exact wpAny_bind (wpAny_newObj_type (wpAny_pure ⟨_,rfl,h h' hk⟩) hsz)
theorem ltS_cps (a b:Str):ltS a b=Spec.ltCps a.cps.toList b.cps.toList:=by unfold ltS;rw [ltNs_eq,ltCps_eq]
theorem rising_up:∀ (l:List Str) (p:Str),risingS p l=true->(∀ y∈l,ltS y p=false)/\Up ltS l
  | [],_,_=>⟨λ_ m=>(nomatch m),.nil⟩
  | x :: r,p,e=>by
    obtain ⟨h1,h2⟩:=rising_up r x (and_t e).2
    have hx:ltS x p=false:=(ltS_cps x p).trans ((Bool.not_eq_true' _).mp (and_t e).1)
    exact ⟨λy m=>(List.mem_cons.mp m).elim (λe=>e▸hx) λm=>ord_str.trans _ _ _ hx (h1 y m),List.pairwise_cons.mpr ⟨h1,h2⟩⟩
theorem sortedS_up {l:List Str} (e:sortedS l=true):Up ltS l:=by
  cases l with
  | nil=>exact .nil
  | cons x r=>exact List.pairwise_cons.mpr (rising_up r x e)
section
variable {k:Kx} {c:Cx k} {x y z:At c} {Z:List Addr} {Q:Value->Shared->Prop} {E:Value->Shared->Prop} {v:V} {u:Value} {vs:List V} {us xs:List Value} {thaw:Bool} {P:Params} {g:Gh} {h:Heap}
theorem bi_len (r:x.are vs us) (p:Post Z x RV (biM thaw .len vs x.μ x.ρ) Q E):WP c (call (.builtin "len") us) Q E x.s:=
  p.one r λv u r p=>p.rdB λvs hs p=>p.gd λhl p=>by
    have h2:((vs.length:Nat):Int)<2 ^ 63:=Int.lt_of_le_of_lt (Int.ofNat_le.mpr (of_decide_eq_true hl)) (by decide)
    cases r.seq hs with
    | tup a xs e rs=>exact PyProof.Rows.len_tuple (items:=xs.toArray) ⟨_,e,rfl,_,rfl⟩ (by rw [size_len rs];exact h2) (by rw [size_len rs];exact p.int)
    | lst a l=>
      obtain ⟨xs,n,e,rs⟩:=l
      exact PySem.Calls.call_len_list (items:=xs.toArray) (PySem.IsL.isList e) (by rw [size_len rs];exact h2) (by rw [size_len rs];exact p.int)
theorem bi_two {f:Int->Int->Int} {nm:String} (two:∀ {a b:Int} {t t':Tok} {Q:Value->Shared->Prop} {E:Value->Shared->Prop},(∀ h' tk v,(∀ d o,x.s.heap.get? d=some o->h'.get? d=some o)->(∃ t,v=.int (f a b) t)->Q v { x.s with heap:=h',toks:=tk })->WP c (call (.builtin nm) [.int a t,.int b t']) Q E x.s)
    (one:∀ {v u vs is n},x.is v u->seqOf x.μ v=some vs->intsOf vs=some (n :: is)->Post Z x RV (.ok (.int (is.foldl f n)) x.μ x.ρ) Q E->WP c (call (.builtin nm) [u]) Q E x.s) (r:x.are vs us) (p:Post Z x RV (mmM f vs x.μ x.ρ) Q E):WP c (call (.builtin nm) us) Q E x.s:=by
  cases r with
  | nil=>exact p.elim
  | cons a r=>cases r with
    | nil=>
      refine Post.rdB (show Post Z x RV (bindM (seqM _) _ x.μ x.ρ) Q E from p) λvs hs p=>p.opt λis hi p=>?_
      cases is with
      | nil=>exact p.elim
      | cons n is=>exact one a hs hi p
    | cons b r=>cases r with
      | cons=>exact p.elim
      | nil=>
        refine Post.int2 (show Post Z x RV (int2 _ _ _ x.μ x.ρ) Q E from p) a b λi j t t' p=>wpAny_size (two λh' tk v q ⟨w,hv⟩ hs=>?_)
        rw [hv]
        exact p.old q hs (.int _ w)
theorem bi_max (r:x.are vs us) (p:Post Z x RV (biM thaw .max vs x.μ x.ρ) Q E):WP c (call (.builtin "max") us) Q E x.s:=
  bi_two (f:=λa b=>if a<b then b else a) (λ{a b t t' Q E} q=>max_two_ints c.cfg.handled λh' tk k=>q h' tk _ k (by
    show ∃ t,(if a<b then _ else _)=_
    by_cases h:a<b
    · rw [if_pos h,if_pos h];exact ⟨_,rfl⟩
    · rw [if_neg h,if_neg h];exact ⟨_,rfl⟩))
    (λr hs hi p=>minmax_walk (λi j=>decide (j<i)) _ (λa b=>by simp) (λh=>call_max_walk h) (λP val hv=>CmpOf.ints_gt val hv) (r.seq hs) hi p) r p
theorem bi_min (r:x.are vs us) (p:Post Z x RV (biM thaw .min vs x.μ x.ρ) Q E):WP c (call (.builtin "min") us) Q E x.s:=
  bi_two (f:=λa b=>if b<a then b else a) (λ{a b t t' Q E} q=>min_two_ints c.cfg.handled λh' tk k=>q h' tk _ k (by
    show ∃ t,(if b<a then _ else _)=_
    by_cases h:b<a
    · rw [if_pos h,if_pos h];exact ⟨_,rfl⟩
    · rw [if_neg h,if_neg h];exact ⟨_,rfl⟩))
    (λr hs hi p=>minmax_walk (λi j=>decide (i<j)) _ (λa b=>by simp) (λh=>call_min_walk h) (λP val hv=>CmpOf.ints_lt val hv) (r.seq hs) hi p) r p
theorem rng_laid {lo hi:Int} {t t' w:Tok} {tk:Nat} (p:Post Z x RV (.ok (.rng lo hi) x.μ x.ρ) Q E):Q (.ref x.s.heap.objs.size) (x.to (x.s.heap.push (rngO lo hi t t' w)) tk):=
  p.frozAt (push_more _ _) (Nat.le_refl _) (Heap.get?_push_size _ rfl) (.rng List.mem_cons_self (Heap.get?_push_size _ rfl))
theorem bi_range (r:x.are vs us) (p:Post Z x RV (biM thaw .tRange vs x.μ x.ρ) Q E):WP c (call (.type "range") us) Q E x.s:=by
  cases r with
  | nil=>exact p.elim
  | cons a r=>cases r with
    | nil=>exact Post.opt (show Post Z x RV (opt _ _ x.μ x.ρ) Q E from p) λhi h p=>p.gd λ_ p=>a.isInt h λt=>call_range_1 (rng_laid p)
    | cons b r=>cases r with
      | cons=>exact p.elim
      | nil=>exact Post.int2 (show Post Z x RV (int2 _ _ _ x.μ x.ρ) Q E from p) a b λi j t t' p=>p.gd λ_ p=>call_range_2 (rng_laid p)
theorem bi_abs (r:x.are vs us) (p:Post Z x RV (biM thaw .abs vs x.μ x.ρ) Q E):WP c (call (.builtin "abs") us) Q E x.s:=
  p.one r λv u r p=>p.opt λi hi p=>r.isInt hi λt=>PyProof.Rows.call_abs_int λw tk=>by
    rw [show (if i<0 then -i else i)=(i.natAbs:Int) by split <;> lia]
    exact p.int
theorem bi_int (r:x.are vs us) (p:Post Z x RV (biM thaw .tInt vs x.μ x.ρ) Q E):WP c (call (.type "int") us) Q E x.s:=
  p.one r λv u r p=>p.opt λi hi p=>r.isInt hi λt=>call_int_int (p.now (.int i t))
theorem bi_tuple (r:x.are vs us) (p:Post Z x RV (biM thaw .tTuple vs x.μ x.ρ) Q E):WP c (call (.type "tuple") us) Q E x.s:=
  p.one r λv u r p=>p.alt (λvs e p=>r.isTup e λl xs m g rs=>call_tuple_same (items:=xs.toArray) ⟨_,g,rfl,_,rfl⟩ (p.now (.tup m g rs))) λ_ p=>p.lseqB r λvs l H p=>p.gd λhl p=>by
    obtain ⟨xs,n,g,rs⟩:=H
    exact callType_new PySem.F.called_tuple (by decide) (PySem.F.typeCall_tuple_1 _) (PySem.F.newCall_tuple_1 _) (λobj=>PySem.F.args_object_init_2 obj _) PySem.F.entry_tuple_new
      (meets_tuple_sized l _ xs.toArray n rfl rfl (by rw [size_len rs];exact big_le hl)) ⟨g,λh' hk=>⟨⟨_,Heap.get?_push_size _ rfl,rfl⟩,
        have q:∀ b o,x.s.heap.get? b=some o->(h'.push (tupO xs)).get? b=some o:=λb o e=>push_more _ _ _ _ (hk.1 b o e)
        p.frozAt (tk:=x.s.toks) q hk.2 (Heap.get?_push_size _ rfl) (.tup List.mem_cons_self (Heap.get?_push_size _ rfl) (RelVs.mono (.froz q) rs))⟩⟩
theorem lst_len {us:List V} (p:Post Z x RV (lstM thaw us x.μ x.ρ) Q E):us.length<=big:=p.gd λh _=>of_decide_eq_true h
theorem list_tup (r:x.is v u) (e:v.tup?=some vs) (p:Post Z x RV (lstM thaw vs x.μ x.ρ) Q E):WP c (call (.type "list") [u]) Q E x.s:=
  r.isTup e λl xs m g rs=>call_list_seq (items:=xs.toArray) l (.inr rfl) g rfl rfl (λh' c' q g'=>p.listAt (tk:=x.s.toks) q (Nat.le_refl _) g' rs) (by rw [size_len rs];exact Nat.le_trans (lst_len p) (Nat.le_of_eq big_eq))
theorem list_rng {q:Int×Int} (r:x.is v u) (e:v.rng?=some q) (ok:rngOk q.1 q.2=true) (p:Post Z x RV (lstM thaw (rngList q.1 q.2) x.μ x.ρ) Q E):WP c (call (.type "list") [u]) Q E x.s:=by
  have h1:=fit62_of (and_t (and_t ok).1).2
  have h2:=fit62_of (and_t ok).2
  have h3:(q.2 - q.1).toNat<=16777216:=of_decide_eq_true (and_t (and_t ok).1).1
  have e':Builtin.Range.rangeSize q.1 q.2 1=((q.2 - q.1).toNat:Int):=by rw [rangeSize_one];split <;> lia
  refine r.isRng e λa t w w' m g=>call_list_range c.cfg.handled g (small_one (by lia) (by lia) (by lia) (by lia)) e' h3 λh' tk acc c' q' g' hacc=>p.listAt q' (Nat.le_refl _) g' (.of ?_ λi v y hv hy=>?_)
  · exact hacc.1.trans ((List.length_map _).trans List.length_range).symm
  · obtain ⟨t,rfl⟩:=hacc.2 i y (by rw [←Array.getElem?_toList];exact hy)
    rw [rngList_get] at hv
    obtain ⟨_,hv⟩:=if_at hv
    cases hv
    rw [Int.mul_one]
    exact .int _ t
theorem sorted_lst {l:Addr} (H:LstAt k.w.params x.g x.s.heap vs l) (p:Post Z x RV (opt (sortV vs) (lstM thaw) x.μ x.ρ) Q E):WP c (call (.builtin "sorted") [.ref l]) Q E x.s:=by
  obtain ⟨xs,n,g,rs⟩:=H
  refine p.opt λus hu p=>?_
  have fin:∀ {out:Array Value},x.are us out.toList->Q (.ref (x.s.heap.objs.size+1)) { x.s with heap:=sortedAll x.s.heap xs out }:=λr=>by
    obtain ⟨e,ge⟩:=sortedAll_at x.s.heap xs _
    exact p.listAt (tk:=x.s.toks) (n:=e) (λb o e=>sortedAll_old e) (Nat.le_succ _) ge r
  unfold sortV at hu
  split at hu
  · cases hu
  · have hlt:xs.length<64:=rs.len▸Nat.not_le.mp ‹_›
    split at hu
    · cases hu
      refine sorted_ints (vs:=xs) (PySem.IsL.isList g) (ints_are rs ‹_›) hlt λout ns ho hp hso=>fin ?_
      rw [sortBy_eq ord_int hp (hso.imp ltI_iff.mpr)]
      exact ints_rel ho
    · obtain ⟨ss,hss,rfl⟩:=Option.map_eq_some_iff.mp hu
      refine sorted_strs (vs:=xs) (PySem.IsL.isList g) (strs_are rs hss) hlt λout ns ho hp hso=>fin ?_
      rw [sortBy_eq ord_str hp (sortedS_up hso)]
      exact strs_rel ho
end
end
section
open PySem PySem.W PyProof.Rows
section
variable {prog:Program} {w:World} {A:Around} {E:Value->Shared->Prop} {s:Shared} {it d:Addr} {i ep n:Nat} {es:List DictEntry}
theorem keys_iter {Q:Value->Shared->Prop} (hd:(d==sysModules)=false) (ho:s.heap.get? d=some (dctO es ep))
    (hQ:Q (.ref s.heap.objs.size) { s with heap:=s.heap.push { cls:=.type "dict_keyiterator",data:=.fields #[.ref d,.int 0 0,.int es.length 0,.int ep 0] } }) :
    wpAny (model prog w) A (pyIter (.ref d)) Q E s:=by
  have hT:s.TypeIs (.ref d) "dict":=⟨_,ho,rfl⟩
  refine wpAny_pyIter_slot hT F.slot_dict_iter (wpAny_call_entry F.slot_dict_iter hT F.entry_dict_iter ?_ (F.args_dict_iter_1 _))
  refine wpAny_bind (m:=Builtin.Dict.dictSlotNone _ _) (wpAny_bind (wpAny_notOrdered_dict hT (wpAny_pure ?_)))
  show wpAny _ _ (Builtin.Dict.showsAll d >>= _) _ _ s
  unfold Builtin.Dict.showsAll
  exact wpAny_bind (wp_f (by rw [hd];exact Bool.false_ne_true) (wpAny_pure (wpAny_bind (wpAny_dictEntries ho rfl (wpAny_bind (wpAny_dictEpoch ho rfl (wpAny_bind (wpAny_newObj_type (wpAny_pure ⟨_,rfl, "dict_keyiterator",_,⟨_,Heap.get?_push_size _ rfl,rfl⟩,F.slot_dict_keyiterator_next.lookup,hQ⟩)))))))))
noncomputable def KIt (h:Heap) (it d:Addr) (i n ep:Nat):Prop:=h.get? it=some { cls:=.type "dict_keyiterator",data:=.fields #[.ref d,.int i 0,.int n 0,.int ep 0] }
theorem keys_next {Q:Option Value->Shared->Prop} (hh:A.handled=none) (ho:KIt s.heap it d i es.length ep) (hod:s.heap.get? d=some (dctO es ep))
    (hQ:∀ e h',es[i]?=some e->KIt h' it d (i+1) es.length ep->Heap.SameBut it s.heap h'->Q (some e.key) { s with heap:=h' })
    (hN:∀ h',es[i]?=none->Heap.ExtBut it s.heap h'->Q none { s with heap:=h' }):wpAny (model prog w) A (pyNext (.ref it)) Q E s:=by
  have hT:s.TypeIs (.ref it) "dict_keyiterator":=⟨_,ho,rfl⟩
  unfold KIt at ho
  refine wpAny_bind (wpAny_attempt (wpAny_callSpecial?_slot (name:=Str.ofString "__next__") hT F.slot_dict_keyiterator_next
    (wpAny_call_entry F.slot_dict_keyiterator_next hT F.entry_dict_keyiterator_next ?_ (F.args_dict_keyiterator_next_1 _))))
  refine wpAny_bind (wpAny_pure ?_)
  refine wpAny_bind ?_
  refine wpAny_bind ?_
  refine wpAny_bind (wpAny_typeNameOfWhole_keyiter hT (wpAny_pure ?_))
  refine wpAny_bind (wpAny_fieldsOf ho rfl ?_)
  refine wp_f Bool.false_ne_true ?_
  refine wpAny_bind (wpAny_pure ?_)
  refine wpAny_bind (wpAny_dictEntries hod rfl ?_)
  refine wp_f (by rw [List.size_toArray];simp) ?_
  refine wpAny_bind (wpAny_pure ?_)
  refine wpAny_bind (wpAny_dictEpoch hod rfl ?_)
  refine wp_f (by simp) ?_
  refine wpAny_pure ?_
  have neg:¬((i:Int)<0):=Int.not_lt.mpr (Int.natCast_nonneg i)
  cases hx:es[i]? with
  | none=>
    have hge:es.toArray[i]?=none:=(List.getElem?_toArray ..).trans hx
    simp only [neg,if_false,Int.toNat_natCast,hge]
    refine wpAny_bind (wpAny_bind (wpAny_typeNameOfWhole_keyiter hT (wpAny_pure ?_)))
    show wpAny _ _ (setField (.ref it) 0 .none >>= _) _ _ s
    refine wpAny_bind (wpAny_setField ho rfl (show 0<4 by decide) ?_)
    show wpAny _ _ (newExc (.type "StopIteration") [] >>= _) _ _ _
    refine wpAny_bind ?_
    simp only [newExc,newTuple]
    refine wpAny_bind (wpAny_newObj_type ?_ (by size_fits))
    refine wpAny_bind (m:=firstArgMember _ _) (wpAny_of_eq (a:=Value.none) (by first | rfl | (simp only [firstArgMember];rfl)) ?_)
    refine wpAny_newObj_type ?_ (by size_fits)
    refine wpAny_raiseNew_none hh ?_
    refine wpAny_bind (wpAny_isInstance (T:="StopIteration") (b:=true) ⟨_,Heap.get?_push_size _ rfl,rfl⟩ isSubtype_stop ?_)
    exact wpAny_pure (hN _ hx (((Heap.SameBut.update ..).extBut.push _).push _))
  | some e=>
    have hge:es.toArray[i]?=some e:=(List.getElem?_toArray ..).trans hx
    simp only [neg,if_false,Int.toNat_natCast,hge]
    refine wpAny_bind (wpAny_bind (wpAny_typeNameOfWhole_keyiter hT (wpAny_pure ?_)))
    refine wpAny_bind (wpAny_isOneOf_keyiter hT ?_)
    show wpAny _ _ (setField (.ref it) 1 (rawInt ((i:Int)+1)) >>= _) _ _ s
    refine wpAny_bind (wpAny_setField ho rfl (show 1<4 by decide) ?_)
    have hit':KIt (s.heap.update it (Obj.mapFields (·.setIfInBounds 1 (rawInt ((i:Int)+1))))) it d (i+1) es.length ep:=Heap.get?_update_self _ ho rfl
    refine wpAny_bind (wpAny_holding (wpAny_bind (wpAny_isOneOf_keyiter (s:={ s with heap:=s.heap.update it (Obj.mapFields (·.setIfInBounds 1 (rawInt ((i:Int)+1)))) }) ⟨_,hit',rfl⟩ ?_)))
    show wpAny _ _ (pure e.key) _ _ _
    exact wpAny_pure (wpAny_pure ⟨_,rfl,wpAny_pure (hQ e _ hx hit' (Heap.SameBut.update ..))⟩)
theorem not_pair {a b e:Addr} (h:b∉[e,a]):b≠e:=λq=>h (q▸List.mem_cons_self)
theorem keys_walks (hh:A.handled=none) (I:Addr) (hne:d≠I) :
    Walks prog w A I [I,d] [I] es.length (λi v=>∃ e,es[i]?=some e/\v=e.key) (λi h=>KIt h I d i es.length ep/\h.get? d=some (dctO es ep)) where
  sub:=λb hb=>List.mem_singleton.mp hb▸List.mem_cons_self
  frame:=λ_ _ _ st hk=>⟨hk I List.mem_cons_self _ st.1,hk d (List.mem_cons_of_mem _ List.mem_cons_self) _ st.2⟩
  item:=λi s Q E hi st hQ=>keys_next hh st.1 st.2 (λe h' hx hit hs=>hQ _ h' s.toks ⟨e,hx,rfl⟩ ⟨hit,(hs.2 _ hne).trans st.2⟩ λb o hb e=>hs.extBut b o (λh=>hb (List.mem_singleton.mpr h)) e)
    λh' hx=>absurd (List.getElem?_eq_none_iff.mp hx) (Nat.not_le.mpr hi)
  done:=λs Q E st hQ=>keys_next hh st.1 st.2 (λe h' hx=>absurd (List.getElem?_eq_some_iff.mp hx).1 (Nat.lt_irrefl _)) λh' _ he'=>hQ h' s.toks λb o hb e=>he' b o (λh=>hb (List.mem_singleton.mpr h)) e
  self:=λ_ _ _ _ st hQ=>wpAny_pyIter_keyiter ⟨_,st.1,rfl,rfl⟩ hQ
theorem keys_src (lo:(d==sysModules)=false):KdlSrc prog w "dict" d d es.length (λi v=>∃ e,es[i]?=some e/\v=e.key) (λh=>h.get? d=some (dctO es ep)) where
  type:=λ_ hm=>⟨_,hm,rfl⟩
  there:=λ_ hm=>⟨Heap.lt_size hm,Heap.lt_size hm⟩
  keep:=λ_ _ hm hk=>hk d (.inl rfl) _ hm
  notList:=by decide
  notTuple:=by decide
  hint:=λ_ _ _ _ hm hq=>kdl_hint_dict ⟨_,hm,rfl⟩ hq
  iter:=λ_ _ hh hm=>⟨_,_,(λ_ _ hq=>keys_iter lo hm hq),keys_walks hh _ (Nat.ne_of_lt (Heap.lt_size hm)),⟨Heap.get?_push_size _ rfl,Heap.get?_push_of_some _ hm⟩⟩
end
section
variable {k:Kx} {c:Cx k} {x:At c} {Z:List Addr} {Q:Value->Shared->Prop} {E:Value->Shared->Prop} {v:V} {u:Value} {vs ks:List V} {thaw:Bool} {P:Params} {g:Gh} {h:Heap} {es:List DictEntry} {xs:List Value}
theorem RelEs.keyList (r:RelEs P g h ks vs es) (hl:xs.length=es.length) (hx:∀ (j:Nat) (v:Value),xs[j]?=some v->∃ e:DictEntry,es[j]?=some e/\v=e.key):RelVs P g h ks xs:=
  .of (hl.trans r.len) λi v y hv hy=>let ⟨e,h1,h2⟩:=hx i y hy;h2▸r.keys i v e hv h1
theorem list_dct {q:List V×List V} (r:x.is v u) (e:v.dct?=some q) (p:Post Z x RV (lstM thaw q.1 x.μ x.ρ) Q E):WP c (call (.type "list") [u]) Q E x.s:=
  r.isDct e λa m H=>by
    obtain ⟨es,n,g,hk,rs⟩:=H
    exact kdl_call (keys_src (x.st.hp.low a (.inl m))) c.cfg.handled g (by rw [rs.len,←big_eq];exact lst_len p) λh' tk acc c k g' hi=>p.listAt (n:=c) k (Nat.le_refl _) g' (rs.keyList hi.1 λj v hv=>hi.2 j v (by rw [←Array.getElem?_toList];exact hv))
theorem sorted_dct {q:List V×List V} (r:x.is v u) (e:v.dct?=some q) (e0:q.1=[]) (p:Post Z x RV (lstM thaw [] x.μ x.ρ) Q E):WP c (call (.builtin "sorted") [u]) Q E x.s:=
  r.isDct e λa m H=>by
    obtain ⟨es,n,g,hk,rs⟩:=H
    cases List.eq_nil_of_length_eq_zero (rs.len.trans (congrArg List.length e0))
    refine Calls.call_function_entry kind_sorted plain_sorted entry_sorted (args_sorted1 _) ?_
    unfold Builtin.«sorted»
    refine wpAny_bind (m:=checkCount "sorted" 1 1 _) (wpAny_pure ?_)
    refine wpAny_bind (wpAny_size (kdu_collect (keys_src (x.st.hp.low a (.inl m))) c.cfg.handled g (Nat.zero_le _) λh1 tk acc k1 hi hs1=>?_))
    obtain rfl:acc=#[]:=Array.eq_empty_of_size_eq_zero hi.1
    refine wpAny_bind (wpAny_newList ?_)
    dsimp only
    have hoL:(h1.push (seqObj "list" (List.toArray []) 0)).get? h1.objs.size=some (seqObj "list" (List.toArray []) 0):=Heap.get?_push_size _ rfl
    refine wpAny_bind (wpAny_holding (wpAny_call_entry slot_list_sort ⟨_,hoL,rfl⟩ entry_list_sort (list_sort_tree (vs:=[]) (ns:=[]) hoL .nil (by decide) λout ns' a1 a2 a3=>⟨_,rfl,?_⟩) (args_list_sort _)))
    refine wpAny_pure ⟨_,rfl,?_⟩
    cases List.perm_nil.mp a2
    have e0:out=#[]:=Array.toList_inj.mp (by generalize out.toList=o at a1;cases a1;rfl)
    obtain ⟨e,ge⟩:=sortedHeap_at (a:=h1.objs.size) (vs:=[]) (out:=out) hoL
    cases e0
    refine p.listAt (tk:=tk) (xs:=[]) (n:=e) (λb o eb=>?_) hs1 ge .nil
    have hlt:=Heap.lt_size (k1 b o eb)
    rw [sortedHeap_old (Nat.ne_of_lt hlt) (by rw [Heap.size_push];exact Nat.lt_succ_of_lt hlt)]
    exact push_more _ _ _ _ (k1 b o eb)
end
end
section
set_option maxRecDepth 8000
open PySem PySem.W
theorem keys_no_list:typeLookup (.type "list") (Str.ofString "keys")=pure none:=am_miss_of_fast (by decide +kernel)
theorem keys_no_tuple:typeLookup (.type "tuple") (Str.ofString "keys")=pure none:=am_miss_of_fast (by decide +kernel)
theorem keys_plain:(["__module__", "__name__", "__qualname__", "__doc__", "__annotations__"]:List Str).contains (Str.ofString "keys")=false:=by decide +kernel
theorem keys_short:(Str.ofString "keys").length+100<=sizeLine:=by rw [sizeLine_eq];decide +kernel
section
variable {prog:Program} {w:World} {A:Around} {E:Value->Shared->Prop} {s:Shared} {a:Addr} {xs:Array Value} {k:Nat} {Q:Option Value->Shared->Prop}
theorem miss_list (hx:s.heap.get? a=some { cls:=.type "list",data:=.seq xs k }) (hA:A.handled=none)
    (h:∀ h' tk,(∀ b ob,s.heap.get? b=some ob->h'.get? b=some ob)->Q none { s with heap:=h',toks:=tk }) :
    wpAny (model prog w) A (getAttr? (.ref a) (Str.ofString "keys")) Q E s:=by
  obtain ⟨hp,g,d,tk,os⟩:=s
  have hT:∀ tk',(⟨hp,g,d,tk',os⟩:Shared).TypeIs (.ref a) "list":=λ_=>⟨_,hx,rfl⟩
  have f1:=sub_AttributeError
  have f3:=F.slot_list_getattribute.lookup
  have f4:=F.slot_list_getattribute.bind (.ref a)
  have f5:=am_list_getattr_none
  unfold getAttr? getAttrBy? getAttrBy
  repeat (any_goals (first | assumption | exact hT _ | ((with_reducible show wpAny _ _ (call (Value.builtin "list.__getattribute__") _ _) _ _ _);refine call_meets F.slot_list_getattribute (hT _) am_entry_list_getattribute (F.args_list_getattribute_2 _ _) (meets_getattribute_miss_list a xs k #[] _ _ keys_no_list keys_plain keys_short) ⟨hx,hA,λh' tk' e hx'=>?_⟩) | wp_step))
  obtain ⟨t',u',he⟩:=hx'.there
  show wpAny _ _ (getattributeRaised _ _ _ _ _ _ _) _ _ _
  unfold getattributeRaised
  repeat (any_goals (first | assumption | wp_step))
  exact h _ _ hx'.keeps
theorem miss_tuple (hx:s.heap.get? a=some { cls:=.type "tuple",data:=.seq xs k }) (hA:A.handled=none)
    (h:∀ h' tk,(∀ b ob,s.heap.get? b=some ob->h'.get? b=some ob)->Q none { s with heap:=h',toks:=tk }) :
    wpAny (model prog w) A (getAttr? (.ref a) (Str.ofString "keys")) Q E s:=by
  obtain ⟨hp,g,d,tk,os⟩:=s
  have hT:∀ tk',(⟨hp,g,d,tk',os⟩:Shared).TypeIs (.ref a) "tuple":=λ_=>⟨_,hx,rfl⟩
  have f1:=sub_AttributeError
  have f3:=F.slot_tuple_getattribute.lookup
  have f4:=F.slot_tuple_getattribute.bind (.ref a)
  have f5:=am_tuple_getattr_none
  unfold getAttr? getAttrBy? getAttrBy
  repeat (any_goals (first | assumption | exact hT _ | ((with_reducible show wpAny _ _ (call (Value.builtin "tuple.__getattribute__") _ _) _ _ _);refine call_meets F.slot_tuple_getattribute (hT _) am_entry_tuple_getattribute (F.args_tuple_getattribute_2 _ _) (meets_getattribute_miss_tuple a xs k #[] _ _ keys_no_tuple keys_plain keys_short) ⟨hx,hA,λh' tk' e hx'=>?_⟩) | wp_step))
  obtain ⟨t',u',he⟩:=hx'.there
  show wpAny _ _ (getattributeRaised _ _ _ _ _ _ _) _ _ _
  unfold getattributeRaised
  repeat (any_goals (first | assumption | wp_step))
  exact h _ _ hx'.keeps
end
theorem entry_dul:entryFor table "dict.update.loop"=some Builtin.«dict.update.loop»:=entryFor_of_tree (by kernel_rfl)
theorem plain_dul:plainId "dict.update.loop"=true:=by decide +kernel
theorem putD_len {x y:V} {ks vs:List V} {p:List V×List V} (e:putD x y ks vs=some p):ks.length<=p.1.length:=by
  obtain ⟨_,h⟩:=put_at e
  obtain ⟨_,_⟩:=p
  cases h with
  | old=>exact Nat.le_refl _
  | new=>exact Nat.le_trans (Nat.le_add_right _ _) (Nat.le_of_eq (List.length_append ..).symm)
theorem putAll_len:∀ {kk vv ks vs:List V} {q:List V×List V},putAll kk vv ks vs=some q->ks.length<=q.1.length
  | [],_,_,_,_,e=>by cases e;exact Nat.le_refl _
  | _ :: _,[],_,_,_,e=>by cases e;exact Nat.le_refl _
  | k :: r,v :: t,ks,vs,q,e=>let ⟨_,h,e⟩:=Option.bind_eq_some_iff.mp e;Nat.le_trans (putD_len h) (putAll_len e)
theorem two_eq {v:V} {p:V×V} (e:v.two?=some p):v.tup?=some [p.1,p.2]:=by
  obtain ⟨vs,h,e⟩:=Option.bind_eq_some_iff.mp e
  rw [h]
  cases vs with
  | nil=>cases e
  | cons a r=>cases r with
    | nil=>cases e
    | cons b r=>cases r with
      | nil=>cases e;rfl
      | cons=>cases e
@[elab_as_elim] theorem RelV.isTwo {P:Params} {g:Gh} {h:Heap} {v:V} {u:Value} {p:V×V} {C:Value->Prop} (r:RelV P g h v u) (e:v.two?=some p) (kn:∀ a y z,a∈g.φ->h.get? a=some (tupO [y,z])->RelV P g h p.1 y->RelV P g h p.2 z->C (.ref a)):C u:=
  r.isTup (two_eq e) λa xs m ga rs=>by
    cases rs with | cons ry rs=>cases rs with | cons rz rs=>cases rs with | nil=>exact kn a _ _ m ga ry rz
section
open PyProof.Rows
variable {k:Kx} {c:Cx k} {x:At c} {Z:List Addr} {A:Around} {Q:Value->Shared->Prop} {E:Value->Shared->Prop} {R:Result->Shared->Prop} {v:V} {u:Value} {vs:List V} {thaw:Bool} {h h':Heap}
theorem At.via (x:At c) (q:∀ b o,x.s.heap.get? b=some o->h.get? b=some o) (q':∀ b o,x.s.heap.get? b=some o->h'.get? b=some o):Stays x.g x.g h h':=
  ⟨λ_ _ e=>e,λ_ m=>m,λa m o e=>by
    obtain ⟨o',e'⟩:=(x.st.hp.froz a m).2
    cases e.symm.trans (q a o' e')
    exact q' a o e'⟩
theorem DctAt.mono {P:Params} {g g':Gh} {ks vs:List V} {D:Addr} (H:DctAt P g h ks vs D) (S:Stays g g' h h') (e:∀ o,h.get? D=some o->h'.get? D=some o):DctAt P g' h' ks vs D:=
  let ⟨es,n,a,hk,r⟩:=H;⟨es,n,e _ a,hk,r.mono S⟩
theorem pairs_loop {I D:Addr} {fp:List Addr} {T:Nat->Heap->Prop} {xs:List Value} {q:List V×List V} {n:Nat} (hu:A.units+1<=8000) (W:Walks prog k.w A.in1 I fp [I] n (λi v=>xs.toArray[i]?=some v) T) (hDf:D∉fp) (hI:x.s.heap.objs.size<=I) (hD:x.s.heap.objs.size<=D) (hl:q.1.length<=big)
    (fin:∀ h' tk,(∀ b o,x.s.heap.get? b=some o->h'.get? b=some o)->DctAt k.w.params x.g h' q.1 q.2 D->R (.ok (.ret .none)) (x.to h' tk)) (us:List V) :
    ∀ (i:Nat) (ks vs:List V) (pq:List V×List V) (h:Heap) (tk:Nat),n=i+us.length->T i h->(∀ b o,x.s.heap.get? b=some o->h.get? b=some o) ->
      DctAt k.w.params x.g h ks vs D->pairUp us=some pq->putAll pq.1 pq.2 ks vs=some q->x.are us (xs.drop i)->codeAny (model prog k.w) A (.builtin "dict.update.loop" ⟨[.ref D,.ref I,rawInt i,.none],[]⟩) R (x.to h tk):=by
  induction us with
  | nil=>
    intro i ks vs pq h tk hn hst hk H hp hq rv
    cases hp
    cases hq
    refine codeAny_builtin entry_dul ?_
    rw [Around.under_plainId plain_dul _]
    refine wpAny_bind (W.done (x.to h tk) _ _ (hn▸hst) λh' tk' hm=>wpAny_bind (wpAny_pure (wpAny_pure ?_)))
    have kk:∀ b o,x.s.heap.get? b=some o->h'.get? b=some o:=λb o e=>hm b o (λq=>old_ne e hI (List.mem_singleton.mp q)) (hk b o e)
    exact fin h' tk' kk (H.mono (x.via hk kk) (hm D · λq=>hDf (W.sub _ q)))
  | cons u us ih=>
    intro i ks vs pq h tk hn hst hk H hp hq rv
    obtain ⟨ab,hab,hp⟩:=Option.bind_eq_some_iff.mp hp
    obtain ⟨pq',hp',rfl⟩:=Option.map_eq_some_iff.mp hp
    obtain ⟨pp,hpp,hq⟩:=Option.bind_eq_some_iff.mp hq
    generalize hy:xs.drop i=ys at rv
    cases rv with
    | @cons _ y _ ys' ru rus=>
    have hxi:xs.toArray[i]?=some y:=(List.getElem?_toArray ..).trans ((congrArg (xs[·]?) (Nat.add_zero i).symm).trans (List.getElem?_drop.symm.trans (congrArg (·[0]?) hy)))
    refine codeAny_builtin entry_dul ?_
    rw [Around.under_plainId plain_dul _]
    refine wpAny_bind (W.item i (x.to h tk) _ _ (by rw [hn];exact Nat.lt_add_of_pos_right (Nat.succ_pos _)) hst λz h1 tk1 hz hst1 hm=>?_)
    cases hxi.symm.trans hz
    have kk:∀ b o,x.s.heap.get? b=some o->h1.get? b=some o:=λb o e=>hm b o (λq=>old_ne e hI (List.mem_singleton.mp q)) (hk b o e)
    have M:=x.via (λ_ _ e=>e) kk
    refine (ru.mono M).isTwo hab λa y z _ ga ry rz=>?_
    refine wpAny_bind (wpAny_holding (wpAny_bind (wpAny_tryCatch ?_)))
    unfold Builtin.Dict.pairItems
    refine wpAny_bind (wpAny_typeOf (T:="tuple") ⟨_,ga,rfl⟩ (wp_t (by decide) (wpAny_bind (wpAny_seqItems ga rfl (wpAny_pure ?_)))))
    show wpAny _ _ (holding [y,z] (dictSet D y z)) _ _ _
    refine wpAny_holding (set_key (s:=x.to h1 tk1) hu (λm=>?_) (H.mono (x.via hk kk) (hm D · λq=>hDf (W.sub _ q))) ry rz hpp (Nat.le_trans (putAll_len hq) hl) λh2 tk2 H2 hs2=>wpAny_pure ⟨plainId_quiet plain_dul _,?_⟩)
    · obtain ⟨_,e⟩:=(x.st.hp.froz D m).2
      exact old_ne e hD rfl
    · exact ih (i+1) pp.1 pp.2 pq' h2 tk2 (by rw [hn,List.length_cons];lia) (W.frame _ _ _ hst1 λb hb o e=>(hs2.2 b (λq=>hDf (q▸hb))).trans e) (λb o e=>(hs2.2 b (old_ne e hD)).trans (kk b o e)) H2 hp' hq
        (by rw [←List.tail_drop,hy];exact rus)
theorem SeqA.is (H:SeqA k.w.params x.g x.s.heap vs u):∃ a T xs n,u=.ref a/\(T = "list"∨T = "tuple")/\x.s.heap.get? a=some { cls:=.type T,data:=.seq xs n }:=by
  cases H with
  | tup a xs e r=>exact ⟨a,_,_,_,rfl,.inr rfl,e⟩
  | lst a l=>
    obtain ⟨xs,n,e,r⟩:=l
    exact ⟨a,_,_,_,rfl,.inl rfl,e⟩
theorem call_pairs {pq q:List V×List V} (H:SeqA k.w.params x.g x.s.heap vs u) (hp:pairUp vs=some pq) (hq:putAll pq.1 pq.2 [] []=some q) (p:Post Z x RV (dctM thaw q.1 q.2 x.μ x.ρ) Q E):WP c (call (.type "dict") [u]) Q E x.s:=by
  obtain ⟨a,T,xs,n,rfl,hT,ga⟩:=H.is
  refine callType_codes (Q₁:=λobj s₁=>obj=.ref x.s.heap.objs.size/\s₁=x.to (x.s.heap.push (dctO [] 0)) x.s.toks) PySem.F.kt_called_dict (PySem.F.kt_typeCall_dict_1 _) PySem.F.entry_dict_init (kt_code_dict_new _ ⟨rfl,rfl⟩) ?_
  rintro obj s₁ ⟨rfl,rfl⟩
  have hD:(x.s.heap.push (dctO [] 0)).get? x.s.heap.objs.size=some (dctO [] 0):=Heap.get?_push_size _ rfl
  have hTD:(x.to (x.s.heap.push (dctO [] 0)) x.s.toks).TypeIs (.ref x.s.heap.objs.size) "dict":=⟨_,hD,rfl⟩
  have ga':=push_more (dctO [] 0) _ _ _ ga
  refine ⟨hTD,PySem.F.args_dict_init_2 _ _,?_⟩
  refine wpAny_bind (m:=Builtin.Dict.selfAndRest _ _) (wpAny_bind (wpAny_notOrdered_dict hTD (wpAny_pure ?_)))
  show wpAny _ _ (Builtin.Dict.updateFrom "dict.__init__" x.s.heap.objs.size (.ref a) [] .none) _ _ _
  refine wpAny_bind (wpAny_typeOf (T:=T) ⟨_,ga',rfl⟩ (wp_t (by rcases hT with rfl | rfl <;> decide) ?_))
  have miss:∀ {Q':Option Value->Shared->Prop} {E':Value->Shared->Prop} {A':Around},A'.handled=none->(∀ h' tk,(∀ b ob,(x.s.heap.push (dctO [] 0)).get? b=some ob->h'.get? b=some ob)->Q' none (x.to h' tk)) ->
      wpAny (model prog k.w) A' (getAttr? (.ref a) (Str.ofString "keys")) Q' E' (x.to (x.s.heap.push (dctO [] 0)) x.s.toks):=λhA q=>by
    rcases hT with rfl | rfl
    · exact miss_list ga' hA q
    · exact miss_tuple ga' hA q
  refine wpAny_bind (miss c.cfg.handled λh1 tk1 k1=>wp_t rfl (wpAny_bind (wpAny_rule (wpAny_bind (H.walk (s:=x.to h1 tk1) (λb o e=>k1 b o (push_more _ _ _ _ e)) c.cfg.handled λxs l o St r hl st0 W=>wpAny_pure ⟨plainId_quiet plain_dul _,?_⟩)))))
  have hD1:=k1 _ _ hD
  refine pairs_loop (x:=x) (D:=x.s.heap.objs.size) (A:=c.A.in1) (T:=St) (q:=q) ?_ W (λm=>?_) (Nat.le_of_lt (Heap.lt_size hD1)) (Nat.le_refl _) (p.gd λh _=>of_decide_eq_true h) (λh' tk kk HD=>⟨rfl,p.dictAt kk (Nat.le_refl _) HD⟩) vs 0 [] [] pq _ tk1
    ((size_len r).trans (Nat.zero_add _).symm) st0 (λb ob e=>push_more _ _ _ _ (k1 b ob (push_more _ _ _ _ e))) ⟨[],0,push_more _ _ _ _ hD1,⟨List.nodup_nil,λ_ m=>nomatch m⟩,.nil⟩ hp hq r
  · exact Nat.le_trans (Nat.add_le_add_right (Nat.le_trans (Nat.le_add_right _ _) c.cfg.units) 2) (by decide)
  · exact (List.mem_cons.mp m).elim (Nat.ne_of_lt (Heap.lt_size hD1)) λm=>Nat.ne_of_gt hl (List.mem_singleton.mp m)
theorem bi_dict {us:List Value} (r:x.are vs us) (p:Post Z x RV (biM thaw .tDict vs x.μ x.ρ) Q E):WP c (call (.type "dict") us) Q E x.s:=
  p.one r λv u r p=>p.rdB λvs hs p=>p.opt λpq hp p=>p.opt λq hq p=>call_pairs (r.seq hs) hp hq p
theorem bi_list {us:List Value} (r:x.are vs us) (p:Post Z x RV (biM thaw .tList vs x.μ x.ρ) Q E):WP c (call (.type "list") us) Q E x.s:=
  p.one r λv u r p=>p.alt (λq e p=>list_dct r e p) λ_ p=>p.alt (λq e p=>p.gd λok p=>list_rng r e ok p) λ_ p=>p.opt λvs e p=>list_tup r e p
theorem bi_sorted {us:List Value} (r:x.are vs us) (p:Post Z x RV (biM thaw .sorted vs x.μ x.ρ) Q E):WP c (call (.builtin "sorted") us) Q E x.s:=
  p.one r λv u r p=>p.alt (λq e p=>by
    cases h:q.1 with
    | nil=>rw [h] at p;exact sorted_dct r e h p
    | cons=>rw [h] at p;exact p.elim) λ_ p=>p.lseqB r λvs l H p=>sorted_lst H p
end
end
section
set_option backward.match.sparseCases true
open PySem PySem.W PyProof.Rows
structure ClsIs (K:Frag) (C fI:Addr):Prop where
  makes:makesIn K C=true
  init:findIn K (.ref C) "__init__"=some (some (.ref fI))
  typ:typeIn K (.ref fI)=some (.type "function")
section
variable {k:Kx} {d:Nat} {Φ Φ':Tab} {a:Addr} {f:FnRec} {ws:List V} {xs ds:List Value} {A:Around} {C:Addr}
theorem callA_res {Φ:Tab} {args:List V} {μ:List O} {ρ:List (Option V)}:callA Φ a args μ ρ=resM (Φ a args μ) ρ:=rfl
theorem call_inst {c:Cx (k.at (d+1) Φ')} (x:At c) {b:Bool} {Q:Value->Shared->Prop} {E:Value->Shared->Prop} (F:Full (k.at d Φ)) (I:ClsIs k.K (clsAt b) a) (fk:FnOK k.K a f ds) (hΦ:Φ' a=runF Φ f) (rd:∀ {g:Gh} {h:Heap},RelVs k.w.params g h ws ds)
    (p:Post [] x RV (bindM (allocM (.inst b [])) (λr=>bindM (callA Φ' a (r :: ws)) λv=>gd v.isNone (retM r)) x.μ x.ρ) Q E):WP c (call (.ref (clsAt b)) []) Q E x.s:=by
  have k2:∀ z o,x.s.heap.get? z=some o->((x.s.heap.push emptyDict).push (instObj (clsAt b) x.s.heap.objs.size)).get? z=some o:=λz o e=>push_more _ _ _ _ (push_more _ _ _ _ e)
  have hx:((x.s.heap.push emptyDict).push (instObj (clsAt b) x.s.heap.objs.size)).get? (x.s.heap.objs.size+1)=some (instO (clsAt b) x.s.heap.objs.size):=by heap_get
  have hd:((x.s.heap.push emptyDict).push (instObj (clsAt b) x.s.heap.objs.size)).get? x.s.heap.objs.size=some (dctO [] 0):=by heap_get
  have ge:∀ a∈feet [((x.s.heap.objs.size+1,some x.s.heap.objs.size):Slot)],x.s.heap.objs.size<=a:=λa m=>(List.mem_cons.mp m).elim (λe=>e▸Nat.le_succ _) one_in
  let y:At c:=⟨⟨x.g.β++[(x.s.heap.objs.size+1,some x.s.heap.objs.size)],x.g.φ⟩,x.μ++[.inst b []],x.ρ,x.to _ x.s.toks,
    (x.st.grow k2).adopt (o:=.inst b []) (λa m=>x.st.new (ge a m)) (List.nodup_cons.mpr ⟨λm=>Nat.succ_ne_self _ (List.mem_singleton.mp m),List.nodup_cons.mpr ⟨List.not_mem_nil,List.nodup_nil⟩⟩) ⟨_,[],0,rfl,hx,hd,.nil _⟩⟩
  have hs:x.s.heap.objs.size<=y.s.heap.objs.size:=Nat.le_of_lt (Heap.lt_size hd)
  have a0:After [] x y:={ (After.grow (Z:=[]) (x:=x) (tk:=x.s.toks) k2 hs) with
      slots:=slots_old _
      newβ:=λa m=>(List.mem_append.mp (feet_append x.g.β [_]▸m)).elim .inl λm=>.inr (ge a m) }
  have n0:y.g.β[x.μ.length]?=some (x.s.heap.objs.size+1,some x.s.heap.objs.size):=x.st.hp.len▸slots_new _ _
  have dp:c.A.depth+10 * (d+1)<=900:=c.cfg.depth
  have un:c.A.units+100 * (d+1)<=7900:=c.cfg.units
  refine wpAny_call (make_core (makes_of x.kin I.makes) (looks_findIn x.kin I.init) (λz=>bind_fn x.kin z I.typ) (.inl rfl) (own_code (vs:=.ref x.μ.length :: ws) y F c.cfg.handled c.cfg.frames ?_ ?_ fk (.cons (.ref n0) rd) ?_))
  · show c.A.depth+1+1+10 * d<=900;lia
  · show c.A.units+1+3+100 * d<=7900;lia
  · have q:=Post.bindB (R:=RV) (y:=y) (m:=callA Φ' a (.ref x.μ.length :: ws)) (Z':=[]) p hs (λz f=>a0.trans f) (Q:=λv s'=>InitBack (x.s.heap.objs.size+1) (λr s'=>match r with | .ok (.ret v)=>Q v s' | .ok _=>False | .error e=>E e s') (.ok (.ret v)) s') λv z u f r p=>p.gd λhv p=>?_
    · rw [callA_res,hΦ] at q
      exact q
    · cases V.isNone_eq hv
      exact r.isNone rfl ⟨rfl,p z (.ref (x.s.heap.objs.size+1)) (a0.trans f) rfl rfl (.ref (f.slots _ _ n0))⟩
end
end
section
set_option backward.match.sparseCases true
open PySem PySem.W PyProof.Rows
noncomputable def slf:Str:=Str.ofString "self"
section
variable {w:World} {K:Frag} {A:Around} {a:Addr} {f:FnRec} {xs:List Value} {s:Shared} {R:Result->Shared->Prop}
structure Raw (f:FnRec) (xs:List Value) (s:Shared) (env:Env) (m:Str->Option Value) (s₁:Shared):Prop where
  sc:env.scope=f.2.2
  glo:env.globals=mainGlobals
  blt:env.builtins=builtinsNs
  loc:env.locals=s.heap.objs.size
  ns:s₁.heap.Ns s.heap.objs.size m
  par:∀ y v,f.2.2.names.lookup y=some .local->(f.1.zip xs).lookup y=some v->m y=some v
  keep:∀ b o,s.heap.get? b=some o->s₁.heap.get? b=some o
  same:∃ h tk,s₁={ s with heap:=h,toks:=tk }
theorem enter_raw (hroom:A.depth<recursionLimit) (X:K.In s.heap) (lim:s.heap.NoLimit) (fk:FnOK K a f) (hl:xs.length=f.1.length)
    (kn:∀ env m s₁ (E:Value->Shared->Prop),Raw f xs s env m s₁->wpAny (model prog w) (A.deeper env) (execs f.2.1 env) (λfl s'=>R (.ok (.ret (match fl with | .ret v=>v | _=>.none))) s') E s₁):codeAny (model prog w) A (.call (.ref a) ⟨xs,[]⟩) R s:=by
  obtain ⟨o,fd,cd,oc,cvs,t,hK,hdt,hbody,hsc,hg,hbt,hclo,hcode,hcK,hcd,hcq,hbind⟩:=fk.fn
  refine call_cells hroom (X _ _ hK) hdt lim ⟨cd,oc,cvs,t,hcode,X _ _ hcK,hcd,hcq⟩ hbody (by have h:=hbind s xs X (by rw [List.append_nil];exact hl);rw [List.append_nil] at h;exact h) hclo (λx hx=>?_) (λs₁ x=>kn _ _ _ _ ⟨hsc,hg,hbt,rfl,x.toInCall.ns,λy v h1 h2=>bindL_in ?_ ?_ h2,x.toInCall.keep,x.toInCall.same⟩) (by rw [hsc];exact fk.co) (by rw [hsc];exact fk.gen) (by rw [hsc];exact fk.kind)
  · have hm:x.1∈f.1:=by rw [←zip_keys hl];exact List.mem_map.mpr ⟨x,hx,rfl⟩
    rw [hsc]
    exact (fk.pars _ hm).imp id λq=>⟨q,let ⟨c,h⟩:=cell_some (mem_of_lookup q);h▸rfl⟩
  · show fd.scope.names.lookup y=_;rw [hsc];exact h1
  · rw [zip_keys hl];exact fk.pnodup
theorem field_stmt {env:Env} {m:Str->Option Value} {l:Addr} {name v:Str} {x y:Value} {p1 p2 p3 pos:Pos} {Q:Flow->Shared->Prop} {E:Value->Shared->Prop} (hk:env.scope.kind=.function) (N:s.heap.Ns env.locals m) (h1:env.kindOf slf=some .local) (h2:m slf=some x) (h3:env.kindOf v=some .local) (h4:m v=some y) (hd:(v==("__debug__":Str))=false)
    (q:wpAny (model prog w) A (setAttr x name y) (λ_ s'=>Q .next s') E s):wpAny (model prog w) A (exec (.Assign [.Attribute (.Name slf p1) name p2] (.Name v p3) pos) env) Q E s:=by
  rw [arm_exec_Assign]
  refine wpAny_bind (wpAny_standAt ?_)
  show wpAny _ _ (pure false >>= _) _ _ _
  refine wpAny_bind (wpAny_pure ?_)
  refine wp_f Bool.false_ne_true (wpAny_bind (wpAny_Name (wpAny_loadName_local hk h3 N h4 (wpAny_bind (wpAny_pure ?_))) hd))
  unfold assignStores
  show wpAny _ _ (assign (.Attribute (.Name slf p1) name p2) env y >>= λ_=>pure Flow.next) _ _ _
  rw [arm_assign_Attribute]
  exact wpAny_bind (wpAny_bind (wpAny_holding (wpAny_Name (wpAny_loadName_local hk h1 N h2 (wpAny_bind (wpAny_standAt (wpAny_bind (wpAny_holding (wpAny_mono q (λ_ s' h=>wpAny_release (wpAny_pure h)) λ_ _ h=>h)))))) (by decide))))
end
theorem atom_body:∃ p1 p2 p3 pos,(meR "Atom" "__init__").2.1=[.Assign [.Attribute (.Name slf p1) sText p2] (.Name sText p3) pos]:=⟨_,_,_,_,rfl⟩
theorem atom_pars:(meR "Atom" "__init__").1=[slf,sText]/\(meR "Atom" "__init__").2.2.names.lookup slf=some .local/\(meR "Atom" "__init__").2.2.names.lookup sText=some .local:=⟨by kernel_rfl,by kernel_rfl,by kernel_rfl⟩
section
variable {k:Kx} {c:Cx k} {x:At c} {Z:List Addr} {Q:Value->Shared->Prop} {E:Value->Shared->Prop} {v:V} {u:Value}
theorem call_atom (I:ClsIs k.K 132 122) (fk:FnOK k.K 122 (meR "Atom" "__init__")) (r:x.is v u) (p:Post Z x RV (.ok (.atom v) x.μ x.ρ) Q E):WP c (call (.ref 132) [u]) Q E x.s:=by
  have k2:∀ z o,x.s.heap.get? z=some o->((x.s.heap.push emptyDict).push (instObj 132 x.s.heap.objs.size)).get? z=some o:=λz o e=>push_more _ _ _ _ (push_more _ _ _ _ e)
  have hx:((x.s.heap.push emptyDict).push (instObj 132 x.s.heap.objs.size)).get? (x.s.heap.objs.size+1)=some (instO 132 x.s.heap.objs.size):=by heap_get
  have hd:((x.s.heap.push emptyDict).push (instObj 132 x.s.heap.objs.size)).get? x.s.heap.objs.size=some (dctO [] 0):=by heap_get
  obtain ⟨hp,hs1,hs2⟩:=atom_pars
  refine wpAny_call (make_core (makes_of x.kin I.makes) (looks_findIn x.kin I.init) (λz=>bind_fn x.kin z I.typ) (.inl rfl) (enter_raw ?_ (x.kin.keeps k2) ((k.base.nolimit.keeps x.st.hp.stays).keeps k2) fk (by rw [hp];rfl) λenv m s₁ E' N=>?_))
  · show c.A.depth+1<1000
    have:=c.cfg.depth;lia
  · obtain ⟨p1,p2,p3,pos,hb⟩:=atom_body
    have hK:∀ y,env.kindOf y=(meR "Atom" "__init__").2.2.names.lookup y:=λy=>by show env.scope.names.lookup y=_;rw [N.sc]
    have par:=N.par
    rw [hp] at par
    have gx:=N.keep _ _ hx
    have gd:=N.keep _ _ hd
    rw [hb]
    refine wpAny_execs_cons (field_stmt (l:=0) (by rw [N.sc];exact fk.kind) (N.loc▸N.ns) ((hK _).trans hs1) (par slf _ hs1 rfl) ((hK _).trans hs2) (par sText _ hs2 rfl) (by decide) (field_set ((x.kin.keeps k2).keeps N.keep) k.base.atom List.mem_cons_self gx gd rfl (Nat.zero_le _) λh' n' tk key D hs=>wpAny_execs_nil ⟨rfl,?_⟩))
    obtain ⟨h1,t1,rfl⟩:=N.same
    have q:∀ b o,x.s.heap.get? b=some o->h'.get? b=some o:=λb o e=>(hs.2 b (old_ne e (Nat.le_refl _))).trans (N.keep _ _ (k2 _ _ e))
    have gx':=(hs.2 _ (Nat.succ_ne_self _)).trans gx
    refine p.froz (as:=[x.s.heap.objs.size+1,x.s.heap.objs.size]) q (Nat.le_of_lt (Heap.lt_size D)) (λa m=>?_) (λa m=>?_) (.atom List.mem_cons_self (List.mem_cons_of_mem _ List.mem_cons_self) gx' D rfl rfl (r.mono (.froz q)))
    · exact (List.mem_cons.mp m).elim (λe=>e▸Nat.le_succ _) one_in
    · exact (List.mem_cons.mp m).elim (λe=>e▸⟨_,gx'⟩) λm=>List.mem_singleton.mp m▸⟨_,D⟩
end
end
section
set_option backward.match.sparseCases true
open PySem PySem.W PyProof.Rows
section
variable {k:Kx} {c:Cx k} {x:At c} {Z:List Addr} {Q:Value->Shared->Prop} {E:Value->Shared->Prop} {vs:List V} {us:List Value} {thaw:Bool} {b:Bi}
theorem bi_call (r:x.are vs us) (p:Post Z x RV (biM thaw b vs x.μ x.ρ) Q E):WP c (call b.val us) Q E x.s:=by
  cases b with
  | len=>exact bi_len r p
  | min=>exact bi_min r p
  | max=>exact bi_max r p
  | sorted=>exact bi_sorted r p
  | abs=>exact bi_abs r p
  | tInt=>exact bi_int r p
  | tList=>exact bi_list r p
  | tTuple=>exact bi_tuple r p
  | tDict=>exact bi_dict r p
  | tRange=>exact bi_range r p
  | _=>exact p.elim
noncomputable def plainBi:Bi->Bool
  | .cHeld | .cCopy | .cAtom | .cFault | .fn _=>false
  | _=>true
theorem bi_keeps {h:Heap} {MM:Model} (hb:plainBi b=true):Keeps1 MM h b.val:=by
  refine ⟨.machine,.inr (.inl rfl),?_⟩
  cases b <;> first | exact .now | cases hb
end
end
section
set_option backward.match.sparseCases true
open PySem PySem.W PyProof.Rows
section
variable {k:Kx} {c:Cx k} {x:At c} {Z:List Addr} {Q:Value->Shared->Prop} {E:Value->Shared->Prop} {o v:V} {u y:Value} {vs us:List V} {ws:List Value} {Φ:Tab} {s:Shared}
@[elab_as_elim] theorem list_do {C:Value->Prop} {i:Nat} {f:List V->Option (V×List V)} (r:x.is o u) (hr:o.ref?=some i) (p:Post Z x RV (listDo i f x.μ x.ρ) Q E)
    (kn:∀ D vs q xs n,f vs=some q->x.s.heap.get? D=some (lstO xs n)->x.are vs xs->D∉x.g.φ->(∀ h' tk ys n' y,(∀ b o,b≠D->x.s.heap.get? b=some o->h'.get? b=some o)->x.s.heap.objs.size<=h'.objs.size->h'.get? D=some (lstO ys n')->x.are q.2 ys->x.is q.1 y->Q y (x.to h' tk))->C (.ref D)):C u:=
  p.wr λa ha p=>by
    obtain ⟨q,hq,rfl⟩:=Option.map_eq_some_iff.mp ha
    obtain ⟨vs,hv,hf⟩:=Option.bind_eq_some_iff.mp hq
    refine r.isRef hr λs hs=>?_
    obtain ⟨h2,xs,n,g,rs⟩:=x.lst hs hv
    exact kn s.1 vs q xs n hf g rs (x.one hs foot).1 λh' tk ys n' y k hz hg ry r=>p.put hs foot k hz ⟨h2,ys,n',hg,ry.mono (x.hold hs foot k)⟩ λz e1 e2=>by
      have:=r.mono (x.hold hs foot k);rw [←e1,←e2] at this;exact this
theorem capped_eq {v:V} {q:V×List V} (e:capped v us=some q):us.length<=big/\q=(v,us):=by
  obtain ⟨h,e⟩:=if_at e
  exact ⟨h,(Option.some.inj e).symm⟩
theorem seq_upd {D:Addr} {xs ys:List Value} {n:Nat} (f:Array Value->Array Value) (g:s.heap.get? D=some (lstO xs n)) (e:f xs.toArray=ys.toArray):∃ c,(s.heap.update D (Obj.mapSeq f)).get? D=some (lstO ys c):=by
  have:=get?_update_seq (h:=s.heap) (a:=D) (c:="list") (xs:=xs.toArray) (n:=n) g f
  rw [e] at this
  exact ⟨_,this⟩
theorem upd_more {h:Heap} {D:Addr} {f:Obj->Obj}:∀ b o,b≠D->h.get? b=some o->(h.update D f).get? b=some o:=λb o n e=>(Heap.get?_update_ne _ _ _ _ n).trans e
theorem upd_size {h:Heap} {D:Addr} {f:Obj->Obj}:h.objs.size<=(h.update D f).objs.size:=Nat.le_of_eq Heap.size_upd.symm
theorem me_append (ro:x.is o u) (r:x.are vs ws) (p:Post Z x RV (methM Φ o .append vs x.μ x.ρ) Q E):WP c (call (.builtin "list.append") (u :: ws)) Q E x.s:=
  Post.opt (show Post Z x RV (opt _ _ x.μ x.ρ) Q E from p) λi hi p=>p.one r λv y ry p=>list_do ro hi p λD vs q xs n hf g rs _ fin=>by
    obtain ⟨hb,rfl⟩:=capped_eq hf
    refine wpAny_list_append_plain (items:=xs.toArray) ⟨n,g⟩ (λh' hp hs=>?_) (by rw [size_len rs,←big_eq];exact Nat.le_of_succ_le (Nat.le_trans (Nat.le_of_eq (List.length_append (as:=vs) (bs:=[v])).symm) hb))
    obtain ⟨n',g'⟩:=hp
    exact fin h' x.s.toks (xs++[y]) n' .none (same_q hs) (same_size hs) (by rw [g',List.push_toArray]) (rs.snoc ry) .none
theorem me_insert (ro:x.is o u) (r:x.are vs ws) (p:Post Z x RV (methM Φ o .insert vs x.μ x.ρ) Q E):WP c (call (.builtin "list.insert") (u :: ws)) Q E x.s:=
  Post.opt (show Post Z x RV (opt _ _ x.μ x.ρ) Q E from p) λi hi p=>p.two r λa v w y ra ry p=>p.opt λj hj p=>p.gd λh0 p=>ra.isInt hj λt=>list_do ro hi p λD vs q xs n hf g rs _ fin=>by
    cases of_decide_eq_true h0
    obtain ⟨hb,rfl⟩:=capped_eq hf
    obtain ⟨m,gm⟩:=seq_upd (λxs=>let k:=if (0:Int)<0 then ((0:Int)+(xs.size:Int)).toNat else min (0:Int).toNat xs.size;(xs.extract 0 k).push y++xs.extract k) (ys:=y :: xs) g (by simp)
    exact call_meets PySem.F.slot_list_insert ⟨_,g,rfl⟩ PySem.F.entry_list_insert (PySem.F.args_list_insert_3 _ _ _) (PySem.AutoSeq1.list_insert_list_int_val_1 D xs.toArray n 0 t y (by decide) (by rw [size_len rs,←big_eq];exact Nat.le_of_succ_le hb)) ⟨g,fin _ x.s.toks (y :: xs) m .none upd_more upd_size gm (.cons ry rs) .none⟩
theorem erase_eq (xs:List Value) (k:Nat) (h:k<xs.length):xs.toArray.eraseIdxIfInBounds k=(xs.take k++xs.drop (k+1)).toArray:=by
  have e:xs=xs.take k++xs[k] :: xs.drop (k+1):=by rw [List.getElem_cons_drop,List.take_append_drop]
  have l:(xs.take k).length=k:=by rw [List.length_take];lia
  have:=kl_erase (xs.take k) (xs.drop (k+1)) xs[k]
  rw [l,←e] at this
  exact this
theorem me_pop (ro:x.is o u) (r:x.are vs ws) (p:Post Z x RV (methM Φ o .pop vs x.μ x.ρ) Q E):WP c (call (.builtin "list.pop") (u :: ws)) Q E x.s:=
  Post.opt (show Post Z x RV (opt _ _ x.μ x.ρ) Q E from p) λi hi p=>p.one r λa w ra p=>p.opt λj hj p=>p.gd λh0 p=>ra.isInt hj λt=>list_do ro hi p λD vs q xs n hf g rs _ fin=>by
    obtain ⟨hb,hf⟩:=if_at hf
    obtain ⟨v,hv,rfl⟩:=Option.map_eq_some_iff.mp hf
    obtain ⟨h1,h2⟩:=and_t h0
    have f:=fits_of h1
    have h2:0<=j:=of_decide_eq_true h2
    obtain ⟨y,hy,ry⟩:=rs.get hv
    have hlt:j.toNat<xs.length:=(List.getElem?_eq_some_iff.mp hy).1
    obtain ⟨m,gm⟩:=seq_upd (λxs=>xs.eraseIdxIfInBounds j.toNat) g (erase_eq xs j.toNat hlt)
    refine call_meets PySem.F.slot_list_pop ⟨_,g,rfl⟩ PySem.F.entry_list_pop (PySem.F.args_list_pop_2 _ _) (PySem.MeetsSeq.list_pop_at D xs.toArray n j t j.toNat y ?_ ?_ ((List.getElem?_toArray ..).trans hy) (by rw [size_len rs,←big_eq];exact hb)) ⟨g,fin _ x.s.toks _ m y upd_more upd_size gm ((rs.take _).append (rs.drop _)) ry⟩
    · exact Bool.and_eq_true_iff.mpr ⟨decide_eq_true (by lia),decide_eq_true (by lia)⟩
    · unfold seqIndex?
      have hneg:¬j<0:=Int.not_lt.mpr h2
      simp only [if_neg hneg]
      rw [if_pos (by rw [List.size_toArray,Bool.and_eq_true,decide_eq_true_eq,decide_eq_true_eq];lia)]
end
end
section
set_option backward.match.sparseCases true
open PySem PySem.W PyProof.Rows
section
variable {prog:Program} {w:World} {A:Around} {E:Value->Shared->Prop} {s:Shared} {I:Addr} {fp wr:List Addr} {n:Nat} {P:Nat->Value->Prop} {St:Nat->Heap->Prop}
theorem shift_walks (W:Walks prog w A I fp wr n P St) (acc:Array Value):Walks prog w A I fp wr (acc.size+n) (λi v=>acc[i]?=some v∨(acc.size<=i/\P (i - acc.size) v)) (λi h=>acc.size<=i/\St (i - acc.size) h) where
  sub:=W.sub
  frame:=λi h h' st hk=>⟨st.1,W.frame _ _ _ st.2 hk⟩
  item:=λi s Q E hi st hQ=>W.item _ s Q E (by have:=st.1;lia) st.2 λv h' tk hp st' hk=>hQ v h' tk (.inr ⟨st.1,hp⟩) ⟨Nat.le_succ_of_le st.1,by have:=st.1;rw [show i+1 - acc.size=i - acc.size+1 from by lia];exact st'⟩ hk
  done:=λs Q E st hQ=>W.done s Q E (by have:=st.2;rw [show acc.size+n - acc.size=n from by lia] at this;exact this) hQ
  self:=λi s Q E st hQ=>W.self _ s Q E st.2 hQ
theorem extend_rng {R:Result->Shared->Prop} {r:Addr} {a b c:Int} {t u v:Tok} {n:Nat} (hh:A.handled=none) (hr:IsRange s.heap r a b c t u v) (hsmall:Builtin.Range.small a b c=true)
    (hn:Builtin.Range.rangeSize a b c=n) (hlen:n<=2 ^ 24) (S:Addr) (res:Value) (c₀:Nat) (acc:Array Value) (hsz:acc.size+n<=sizeLine) (hS:s.heap.get? S=some { cls:=.type "list",data:=.seq acc c₀ })
    (hR:∀ h' tk acc' c',(∀ b o,b≠S->s.heap.get? b=some o->h'.get? b=some o)->h'.get? S=some { cls:=.type "list",dict:=none,data:=.seq acc' c',slots:=#[] } ->
      ItemsOf (λi v=>acc[i]?=some v∨(acc.size<=i/\∃ t,v=.int (a+((i - acc.size:Nat):Int) * c) t)) acc' (acc.size+n)->R (.ok (.ret res)) { s with heap:=h',toks:=tk }) :
    wpAny (model prog w) A.in1 (Builtin.List.listExtendWith (.ref S) (.ref r) res)
      (λfin s'=>match fin with | .done f=>R (.ok f) s' | .again c'=>c'.quiet=true/\codeAny (model prog w) A c' R s') (λe s'=>R (.error e) s') s:=by
  have hSr:S≠r:=λe=>by rw [e,hr] at hS;simp at hS
  have hSlt:S<s.heap.objs.size:=Heap.lt_size hS
  have hSI:S≠s.heap.objs.size:=Nat.ne_of_lt hSlt
  have hSf:S∉[s.heap.objs.size]:=λhm=>hSI (List.mem_singleton.mp hm)
  have W:=(shift_walks (Walks.range (prog:=prog) (w:=w) (A:=A.in1) hh s.heap.objs.size a c n) acc).toS
  have key:∀ (h:Heap) (c₁ tk:Nat),IsRangeIter h s.heap.objs.size (a+((0:Nat):Int) * c) ((n:Int) - ((0:Nat):Int)) c->(∀ b o,b≠S->s.heap.get? b=some o->h.get? b=some o) ->
      h.get? S=some { cls:=.type "list",data:=.seq acc c₁ }->codeAny (model prog w) A (.builtin "list.extend.loop" ⟨[.ref S,.ref s.heap.objs.size,res],[]⟩) R { s with heap:=h,toks:=tk }:=by
    intro h c₁ tk hit hk hS₁
    refine codeAny_extend_loopS W hsz S hSf res n acc.size _ acc c₁ (by lia) (by lia) ⟨Nat.le_refl _,by rw [Nat.sub_self];exact hit⟩ hS₁ ⟨rfl,λj v hj=>.inl hj⟩ λs' acc' c' hm hS' hacc=>?_
    rw [Moved.eq_with hm]
    refine hR s'.heap s'.toks acc' c' (λb o hb e=>hm.heap b o (λhmem=>?_) (hk b o hb e)) hS' hacc
    exact (List.mem_cons.mp hmem).elim hb λhmem=>old_ne e (Nat.le_refl _) (List.mem_singleton.mp hmem)
  unfold Builtin.List.listExtendWith
  refine wpAny_bind (wpAny_typeOf (T:="range") ⟨_,hr,rfl⟩ ?_)
  have h1:Builtin.List.listSameRef (.ref S) (.ref r)=false:=by simp [Builtin.List.listSameRef,hSr]
  have h2:(Value.type "range"==Value.type "list")=false:=by decide
  have h3:(Value.type "range"==Value.type "tuple")=false:=by decide
  simp only [h1,h2,h3,Bool.or_false,Bool.false_eq_true,if_false]
  refine wpAny_bind (wpAny_pyIter_range hr hsmall ?_)
  refine wpAny_bind (wpAny_holding (wpAny_hint_range (n:=n) (Heap.get?_push_of_some _ hr) hn hlen ?_))
  have hit₁:IsRangeIter (s.heap.push { cls:=.type "range_iterator",data:=.fields #[rawInt a,rawInt (Builtin.Range.rangeSize a b c),rawInt c] }) s.heap.objs.size (a+((0:Nat):Int) * c) ((n:Int) - ((0:Nat):Int)) c:=by
    show IsRangeIter _ _ _ _ _;rw [hn];simpa using Heap.get?_push_size _ rfl
  have hS₁:=Heap.get?_push_of_some { cls:=.type "range_iterator",data:=.fields #[rawInt a,rawInt (Builtin.Range.rangeSize a b c),rawInt c] } hS
  refine wpAny_ite_split (λhab=>?_) (λ_=>wpAny_pure ⟨plainId_quiet PySem.F.plain_extend_loop _,key _ c₀ _ hit₁ (λb o _ e=>Heap.get?_push_of_some _ e) hS₁⟩)
  have hn0:acc.size+1<=sizeLine:=Nat.le_trans (Nat.add_le_add_left (Nat.pos_of_ne_zero λhz=>by
    subst hz
    exact absurd hab (by decide)) _) hsz
  refine wpAny_bind (wpAny_rule ?_)
  refine wpAny_bind ?_
  show wpAny _ _ (updateSeq S (·.push .none) >>= λ_=>updateSeq S (·.pop)) _ _ _
  refine wpAny_bind (wpAny_updateSeq hS₁ rfl ?_ (Nat.le_of_succ_le hn0) (by rw [Array.size_push];exact Nat.le_succ_of_le hn0))
  have hS₂:=Heap.get?_update_self (Obj.mapSeq (·.push Value.none)) hS₁ rfl
  refine wpAny_updateSeq hS₂ rfl ?_ (by rw [Array.size_push];exact hn0) (by rw [Array.pop_push];exact Nat.le_succ_of_le (Nat.le_of_succ_le hn0))
  have hS₃:=Heap.get?_update_self (Obj.mapSeq (·.pop)) hS₂ rfl
  refine wpAny_pure ⟨plainId_quiet PySem.F.plain_extend_loop _,key _ _ _ ?_ (λb o hb e=>?_) (by rw [hS₃];simp only [Obj.mapSeq,Array.pop_push];rfl)⟩
  · exact (Heap.get?_update_other _ _ hSI).trans ((Heap.get?_update_other _ _ hSI).trans hit₁)
  · exact (Heap.get?_update_other _ _ (Ne.symm hb)).trans ((Heap.get?_update_other _ _ (Ne.symm hb)).trans (Heap.get?_push_of_some _ e))
end
section
variable {k:Kx} {c:Cx k} {x:At c} {Z:List Addr} {Q:Value->Shared->Prop} {E:Value->Shared->Prop} {o v:V} {u y:Value} {vs us:List V} {ws:List Value} {Φ:Tab} {P:Params} {g:Gh} {h:Heap}
theorem RelVs.ext {xs ys:List Value} {lo hi:Int} (rs:RelVs P g h vs xs) (hl:ys.length=vs.length+(hi - lo).toNat) (k:∀ (i:Nat) y,ys[i]?=some y->xs[i]?=some y∨(xs.length<=i/\∃ t,y=.int (lo+((i - xs.length:Nat):Int) * 1) t)):RelVs P g h (vs++rngList lo hi) ys:=
  .of (by rw [hl,List.length_append];unfold rngList;rw [List.length_map,List.length_range]) λi v y hv hy=>by
    rcases k i y hy with q | ⟨q,t,rfl⟩
    · obtain ⟨u,hu,r⟩:=rs.get' q
      rw [List.getElem?_append_left (List.getElem?_eq_some_iff.mp hu).1,hu] at hv
      cases hv
      exact r
    · rw [rs.len] at q
      rw [List.getElem?_append_right q,rngList_get] at hv
      obtain ⟨_,hv⟩:=if_at hv
      cases hv
      rw [Int.mul_one,rs.len]
      exact .int _ t
theorem me_extend (ro:x.is o u) (r:x.are vs ws) (p:Post Z x RV (methM Φ o .extend vs x.μ x.ρ) Q E):WP c (call (.builtin "list.extend") (u :: ws)) Q E x.s:=
  Post.opt (show Post Z x RV (opt _ _ x.μ x.ρ) Q E from p) λi hi p=>p.one r λa w ra p=>p.opt λj hj p=>p.gd λok p=>ra.isRng hj λD t w w' m gr=>list_do ro hi p λS vs q xs n hf g rs _ fin=>by
    obtain ⟨hb,rfl⟩:=capped_eq hf
    have h1:=fit62_of (and_t (and_t ok).1).2
    have h2:=fit62_of (and_t ok).2
    have h3:(j.2 - j.1).toNat<=16777216:=of_decide_eq_true (and_t (and_t ok).1).1
    have e':Builtin.Range.rangeSize j.1 j.2 1=((j.2 - j.1).toNat:Int):=by rw [rangeSize_one];split <;> lia
    rw [List.length_append,show (rngList j.1 j.2).length=(j.2 - j.1).toNat from (List.length_map _).trans List.length_range] at hb
    refine wpAny_size (wpAny_call (codeAny_call_builtin PySem.F.slot_list_extend.plain PySem.F.entry_list_extend (PySem.F.slot_list_extend.check _ _ _ _ _ _ _ _ ⟨_,g,rfl⟩ (PySem.F.args_list_extend_2 _ _) ?_)))
    refine extend_rng (A:=c.A) (R:=λr s'=>match r with | .ok (.ret v)=>x.s.heap.objs.size<=s'.heap.objs.size->Q v s' | .ok _=>False | .error e=>x.s.heap.objs.size<=s'.heap.objs.size->E e s') c.cfg.handled gr (small_one (by lia) (by lia) (by lia) (by lia)) e' h3 S .none n xs.toArray (by rw [size_len rs,←big_eq];exact hb) g λh' tk acc m k g' hi' hz=>?_
    exact fin h' tk acc.toList m .none k hz g' (rs.ext (hi'.1.trans (congrArg (·+_) (size_len rs))) λi y hy=>(hi'.2 i y (by rw [←Array.getElem?_toList];exact hy)).imp (λe=>(List.getElem?_toArray ..).symm.trans e) id) .none
end
end
section
open PySem PySem.W PyProof.Rows
structure Meths (K:Frag):Prop where
  ga:∀ c,findIn K (.ref (clsAt c)) "__getattr__"=some none
  me:∀ c,∀ p∈instMs c,findIn K (.ref (clsAt c)) p.1=some (some (.ref p.2))/\typeIn K (.ref p.2)=some (.type "function")
theorem meths_apart (c:Bool):∀ p∈instMs c,p.1∉namesOf c:=of_decide_eq_true (by cases c <;> kernel_rfl)
structure ListMe (name:Str) (m:Me) (id:String):Prop where
  val:m.val=.builtin id
  slot:PySem.Slot "list" name id
  typ:typeOf (.builtin id)=pure (.type "method_descriptor")
theorem list_mes:∀ p∈listMs,∃ id,ListMe p.1 p.2 id:=
  List.forall_mem_cons.mpr ⟨⟨_,rfl,PySem.F.slot_list_append,PySem.F.type_list_append⟩,List.forall_mem_cons.mpr ⟨⟨_,rfl,PySem.F.slot_list_pop,PySem.F.type_list_pop⟩,List.forall_mem_cons.mpr ⟨⟨_,rfl,PySem.F.slot_list_insert,PySem.F.type_list_insert⟩,
    List.forall_mem_cons.mpr ⟨⟨_,rfl,PySem.F.slot_list_extend,PySem.F.type_list_extend⟩,List.forall_mem_cons.mpr ⟨⟨_,rfl,PySem.F.slot_list_sort,PySem.F.type_list_sort⟩,λ_ m=>nomatch m⟩⟩⟩⟩⟩
theorem FEs.miss {P:Params} {γ:Type} {R:γ->Value->Prop} {ns:List Str} {vs:List γ} {es:List DictEntry} {n:Str} (r:FEs P R ns vs es) (hn:n∉ns):getL n es=some none:=by
  have h:es.find? (·.key.isStr n)=none:=by
    induction r with
    | nil=>rfl
    | cons t a b c _ ih=>rw [List.find?_cons,key_str a,beq_eq_false_iff_ne.mpr λe=>hn (List.mem_cons.mpr (.inl e.symm))];exact ih λm=>hn (List.mem_cons_of_mem _ m)
  unfold getL
  rw [h,r.noref]
  rfl
section
variable {k:Kx} {c:Cx k} {x:At c} {Z:List Addr} {Q:Value->Shared->Prop} {E:Value->Shared->Prop} {o v:V} {u:Value} {vs:List V} {ws:List Value} {Φ:Tab}
theorem me_get (ro:x.is o u) (r:x.are vs ws) (p:Post Z x RV (methM Φ o .get vs x.μ x.ρ) Q E):WP c (call (.builtin "dict.get") (u :: ws)) Q E x.s:=
  Post.opt (show Post Z x RV (opt _ _ x.μ x.ρ) Q E from p) λq hq p=>p.two r λa b y z ra rb p=>p.opt λj hj p=>ro.isDct hq λD m H=>by
    refine wpAny_call (codeAny_call_builtin PySem.F.slot_dict_get.plain PySem.F.entry_dict_get (PySem.F.slot_dict_get.check _ _ _ _ _ _ _ _ (H.typ (s:=x.s)) (PySem.F.args_dict_get_3 _ _ _) ?_))
    refine show wpAny _ c.A.in1 (dictGet D y >>= _) _ _ x.s from wpAny_bind (get_key c.u1 H ra hj λtk w h1 h2=>?_)
    refine p.alt (λi hi p=>?_) λhn p=>?_
    · obtain ⟨v,z',hv,rfl,rz⟩:=h1 i hi
      exact p.rd λv' hv' p=>by
        cases hv.symm.trans hv'
        exact wpAny_pure (p.tok tk rz)
    · cases h2 hn
      exact show wpAny _ _ (Builtin.Dict.missed D y >>= _) _ _ _ from wpAny_bind (wpAny_missed_other (x.st.hp.low D (.inl m)) (wpAny_pure (p.tok tk rb)))
theorem pick_of (mm:Meths k.K) {name:Str} {m:Me} {pl:Sem Bool} {Q:Value×List Value->Shared->Prop} (r:x.is v u) (e:pickV v name x.μ=some m) (q:Q (m.val,[u]) x.s):WP c (getMethod u name pl) Q E x.s:=by
  unfold pickV at e
  cases hd:v.dct? with
  | some p=>
    rw [hd] at e
    obtain ⟨h,e⟩:=if_at e
    cases eq_of_beq h
    cases e
    revert q
    refine r.isDct hd λa m H q=>?_
    obtain ⟨es,n,g,_⟩:=H
    exact getMethod_builtin ⟨_,g,rfl⟩ PySem.F.plainAttrs_dict PySem.F.slot_dict_get PySem.F.type_dict_get (λa e=>by cases e;exact ⟨_,g,rfl⟩) q
  | none=>
    rw [hd] at e
    obtain ⟨i,hi,e⟩:=Option.bind_eq_some_iff.mp e
    obtain ⟨ob,ho,e⟩:=Option.bind_eq_some_iff.mp e
    revert q
    refine r.isRef hi λs hs q=>?_
    have H:=x.obj hs ho
    cases ob with
    | list vs=>
      obtain ⟨_,xs,n,g,_⟩:=H
      obtain ⟨id,hv,slot,typ⟩:=list_mes _ (mem_of_lookup e)
      rw [hv] at q
      exact getMethod_builtin ⟨_,g,rfl⟩ PySem.F.plainAttrs_list slot typ (λa e=>by cases e;exact ⟨_,g,rfl⟩) q
    | dict=>cases e
    | inst b fs=>
      obtain ⟨f,hf,rfl⟩:=Option.map_eq_some_iff.mp e
      have hm:=mem_of_lookup hf
      obtain ⟨d,es,n,_,g1,g2,rf⟩:=H
      exact method_fn x.kin (⟨g1,rfl,rfl,g2⟩:InstAt x.s.heap s.1 (instO (clsAt b) d) (clsAt b) (some (dctO es n))) (k.base.inst b).ga (mm.ga b) (mm.me b _ hm).1 (mm.me b _ hm).2 (congrArg (Option.map _) (rf.miss (meths_apart b _ hm))) q
end
end
section
open PySem PySem.W PyProof.Rows
noncomputable def Tr' {α:Type} (lt:Nat->Nat->Bool) (n:Nat) (R:α->Prop):KasT α->Prop
  | .ret a=>R a
  | .ask i j k=>i<n/\j<n/\Tr' lt n R (k (lt i j))
section
variable {α β:Type} {lt:Nat->Nat->Bool} {n:Nat} {R:α->Prop} {R':β->Prop}
theorem Tr'.bind {f:α->KasT β} {t:KasT α} (h:Tr' lt n R t) (q:∀ a,R a->Tr' lt n R' (f a)):Tr' lt n R' (t.bind f):=by
  induction t with
  | ret a=>exact q a h
  | ask i j k ih=>exact ⟨h.1,h.2.1,ih _ h.2.2⟩
theorem Tr'.imp {R':α->Prop} {t:KasT α} (h:Tr' lt n R t) (q:∀ a,R a->R' a):Tr' lt n R' t:=by
  induction t with
  | ret a=>exact q a h
  | ask i j k ih=>exact ⟨h.1,h.2.1,ih _ h.2.2⟩
theorem Tr'.ask {i j:Nat} {k:Bool->KasT α} (hi:i<n) (hj:j<n) (h1:lt i j=true->Tr' lt n R (k true)) (h0:lt i j=false->Tr' lt n R (k false)):Tr' lt n R (.ask i j k):=
  ⟨hi,hj,by cases h:lt i j with | true=>exact h1 h | false=>exact h0 h⟩
theorem Tr'.wp {cmp:Nat->Nat->(Bool->Shared->Prop)->Shared->Prop} {Q:α->Shared->Prop} {s:Shared} (hc:∀ i j (R:Bool->Shared->Prop),i<n->j<n->R (lt i j) s->cmp i j R s) {t:KasT α} (h:Tr' lt n R t) (q:∀ a,R a->Q a s):t.kasWp cmp Q s:=by
  induction t with
  | ret a=>exact q a h
  | ask i j k ih=>exact hc i j _ h.1 h.2.1 (ih _ h.2.2)
end
section
variable {α:Type} {blt:α->α->Bool} (o:Ordr blt) {key:Nat->α} {N:Nat} {p:Array Nat}
noncomputable def Pm (N:Nat) (p:Array Nat):Prop:=p.Perm (List.range N).toArray
theorem Pm.size (h:Pm N p):p.size=N:=by rw [Array.Perm.size_eq h,List.size_toArray,List.length_range]
theorem Pm.get (h:Pm N p) (hN:1<=N) (m:Nat):p.getD m 0<N:=by
  rw [Array.getD_eq_getD_getElem?]
  cases e:p[m]? with
  | none=>exact hN
  | some x=>exact List.mem_range.mp (List.mem_toArray.mp ((Array.Perm.mem_iff h).mp (Array.mem_of_getElem? e)))
theorem Pm.rev (h:Pm N p) {i j:Nat}:Pm N (kas_rev p i j):=(mirror_perm _ _ _ _).trans h
noncomputable abbrev K (key:Nat->α) (p:Array Nat) (i:Nat):α:=key (p.getD i 0)
noncomputable abbrev T {γ:Type} (blt:α->α->Bool) (key:Nat->α) (N:Nat) (R:γ->Prop) (t:KasT γ):Prop:=Tr' (λi j=>blt (key i) (key j)) N R t
noncomputable def Srt (blt:α->α->Bool) (key:Nat->α) (p:Array Nat) (n:Nat):Prop:=∀ i j,i<=j->j<n->blt (K key p j) (K key p i)=false
noncomputable def Dsc (blt:α->α->Bool) (key:Nat->α) (p:Array Nat) (n:Nat):Prop:=∀ i j,i<=j->j<n->blt (K key p i) (K key p j)=false
theorem K_congr {p q:Array Nat} {i j:Nat} (h:p[i]?=q[j]?):K key p i=K key q j:=by
  unfold K
  rw [Array.getD_eq_getD_getElem?,Array.getD_eq_getD_getElem?,h]
theorem K_rev {i j:Nat} (hj:j<=p.size) (k:Nat):K key (kas_rev p i j) k=if i<=k/\k<j then K key p (i+j - 1 - k) else K key p k:=by
  have e:=getElem?_mirror_all (xs:=p) (i:=i) hj k
  split
  · rw [if_pos ‹_›] at e;exact K_congr e
  · rw [if_neg ‹_›] at e;exact K_congr e
theorem K_same {i j:Nat} {c:α} (hj:j<=p.size) (heq:∀ k,i<=k->k<j->K key p k=c) (k:Nat):K key (kas_rev p i j) k=K key p k:=by
  rw [K_rev hj]
  split
  · rename_i h
    exact (heq _ (by lia) (by lia)).trans (heq k h.1 h.2).symm
  · rfl
include o
theorem Ordr.irr (a:α):blt a a=false:=by
  cases h:blt a a with
  | false=>rfl
  | true=>exact h.symm.trans (o.asym a a h)
theorem Srt.one:Srt blt key p 1:=λi j a b=>by
  cases Nat.lt_one_iff.mp b
  cases Nat.le_zero.mp a
  exact o.irr _
theorem Srt.next {n:Nat} (hn:1<=n) (h:Srt blt key p n) (hc:blt (K key p n) (K key p (n - 1))=false):Srt blt key p (n+1):=λi j hij hj=>by
  rcases Nat.lt_or_eq_of_le (Nat.le_of_lt_succ hj) with q | rfl
  · exact h i j hij q
  · rcases Nat.lt_or_eq_of_le hij with q | rfl
    · exact o.trans _ _ _ (h i (j - 1) (Nat.le_sub_one_of_lt q) (Nat.sub_one_lt_of_lt q)) hc
    · exact o.irr _
theorem Dsc.next {n:Nat} (hn:1<=n) (h:Dsc blt key p n) (hc:blt (K key p (n - 1)) (K key p n)=false):Dsc blt key p (n+1):=λi j hij hj=>by
  rcases Nat.lt_or_eq_of_le (Nat.le_of_lt_succ hj) with q | rfl
  · exact h i j hij q
  · rcases Nat.lt_or_eq_of_le hij with q | rfl
    · exact o.trans _ _ _ hc (h i (j - 1) (Nat.le_sub_one_of_lt q) (Nat.sub_one_lt_of_lt q))
    · exact o.irr _
theorem asc_t (hN:1<=N) (hp:Pm N p) (f:Nat):∀ n,1<=n->Srt blt key p n->T blt key N (λm=>n<=m/\m<=n+f/\Srt blt key p m/\(m<n+f->blt (K key p m) (K key p (m - 1))=true)) (kas_asc p f n):=by
  induction f with
  | zero=>exact λn hn h=>⟨Nat.le_refl _,Nat.le_refl _,h,λq=>absurd q (Nat.lt_irrefl _)⟩
  | succ f ih=>
    refine λn hn h=>Tr'.ask (hp.get hN _) (hp.get hN _) (λhc=>⟨Nat.le_refl _,Nat.le_add_right _ _,h,λ_=>hc⟩) λhc=>?_
    refine (ih (n+1) (Nat.le_succ_of_le hn) (h.next o hn hc)).imp λm ⟨a,b,c,e⟩=>?_
    rw [Nat.add_right_comm] at b e
    exact ⟨Nat.le_of_succ_le a,b,c,e⟩
omit o in
structure Dn (blt:α->α->Bool) (key:Nat->α) (N:Nat) (p:Array Nat) (n q:Nat):Prop where
  pm:Pm N p
  le:n<=N
  dsc:Dsc blt key p n
  q1:q+1<=n
  eqs:∀ k,n - (q+1)<=k->k<n->K key p k=K key p (n - 1)
omit o in
theorem Dn.same {n q:Nat} (D:Dn blt key N p n q) (k:Nat):K key (kas_rev p (n - (q+1)) n) k=K key p k:=K_same (by rw [D.pm.size];exact D.le) D.eqs k
omit o in
theorem Dn.pos {n q:Nat} (D:Dn blt key N p n q):1<=n:=Nat.le_trans (Nat.le_add_left 1 q) D.q1
omit o in
theorem Dsc.like {n:Nat} {p':Array Nat} (h:Dsc blt key p n) (e:∀ k,K key p' k=K key p k):Dsc blt key p' n:=λi j a b=>by rw [e,e];exact h i j a b
omit o in
theorem Dn.zero {n:Nat} (hp:Pm N p) (hn:n+1<=N) (h:Dsc blt key p (n+1)):Dn blt key N p (n+1) 0:=⟨hp,hn,h,Nat.succ_le_succ (Nat.zero_le _),λk h1 h2=>congrArg _ (Nat.le_antisymm (Nat.le_of_lt_succ h2) h1)⟩
theorem desc_t (hN:1<=N) (f:Nat):∀ p n q,Dn blt key N p n q->n+f<=N->T blt key N (λr:Array Nat×Nat×Nat=>Dn blt key N r.1 r.2.1 r.2.2) (kas_desc f p n q):=by
  induction f with
  | zero=>exact λp n q D _=>D
  | succ f ih=>
    refine λp n q D hf=>Tr'.ask (D.pm.get hN _) (D.pm.get hN _) (λhc=>?_) λhc=>Tr'.ask (D.pm.get hN _) (D.pm.get hN _) (λhd=>D) λhd=>ih _ _ _ ?_ (by lia)
    · have h':=D.dsc.next o D.pos (o.asym _ _ hc)
      show T blt key N _ (if q > 0 then _ else _)
      split
      · exact ih _ _ _ (.zero D.pm.rev (by lia) (h'.like D.same)) (by lia)
      · exact ih _ _ _ (.zero D.pm (by lia) h') (by lia)
    · have e:=o.anti _ _ hc hd
      refine ⟨D.pm,by lia,D.dsc.next o D.pos hd,Nat.succ_le_succ D.q1,λk h1 h2=>?_⟩
      rcases Nat.lt_or_eq_of_le (Nat.le_of_lt_succ h2) with z | rfl
      · exact (D.eqs k (by lia) z).trans e.symm
      · rfl
noncomputable abbrev Cnt (blt:α->α->Bool) (key:Nat->α) (N:Nat) (r:Nat×Array Nat):Prop:=Pm N r.2/\1<=r.1/\r.1<=N/\Srt blt key r.2 r.1
theorem tail3_t {n:Nat} (hN:1<=N) (hp:Pm N p) (hn:1<=n) (hl:n<=N) (h:Dsc blt key p n):T blt key N (Cnt blt key N) (kas_tail3 n N p):=by
  refine Tr'.bind (asc_t o hN hp.rev (N - n) n hn λi j a b=>?_) λm ⟨a,b,c,_⟩=>⟨hp.rev,Nat.le_trans hn a,Nat.le_trans b (Nat.le_of_eq (Nat.add_sub_cancel' hl)),c⟩
  rw [K_rev (by rw [hp.size];exact hl),K_rev (by rw [hp.size];exact hl),if_pos ⟨Nat.zero_le _,b⟩,if_pos ⟨Nat.zero_le _,Nat.lt_of_le_of_lt a b⟩,Nat.zero_add]
  exact h _ _ (Nat.sub_le_sub_left a _) (Nat.lt_of_le_of_lt (Nat.sub_le _ _) (Nat.sub_one_lt_of_lt hn))
theorem descPart_t {n:Nat} (hN:1<=N) (hp:Pm N p) (hn:1<=n) (hl:n<N) (h:Dsc blt key p n) (hc:blt (K key p n) (K key p (n - 1))=true):T blt key N (Cnt blt key N) (kas_descPart n N p):=by
  refine Tr'.bind (desc_t o hN (N - (n+1)) p (n+1) 0 (.zero hp hl (h.next o hn (o.asym _ _ hc))) (by lia)) λr D=>?_
  split
  · exact tail3_t o hN D.pm.rev D.pos D.le (D.dsc.like D.same)
  · exact tail3_t o hN D.pm D.pos D.le D.dsc
theorem count_t (hN:1<=N) (hp:Pm N p):T blt key N (Cnt blt key N) (kas_count N p):=by
  refine Tr'.bind (asc_t o hN hp (N - 1) 1 (Nat.le_refl _) (Srt.one o)) λn ⟨a,b,c,d⟩=>?_
  rw [Nat.add_sub_cancel' hN] at b d
  split
  · exact ⟨hp,a,b,c⟩
  · have hlt:n<N:=Nat.lt_of_le_of_ne b λe=>absurd (beq_iff_eq.mpr e) ‹_›
    split
    · refine Tr'.ask (hp.get hN _) (hp.get hN _) (λ_=>⟨hp,a,b,c⟩) λhc=>?_
      have heq:∀ k,0<=k->k<n->K key p k=K key p 0:=λk _ hk=>o.anti _ _ (c 0 k (Nat.zero_le _) hk) (o.trans _ _ _ (c k (n - 1) (Nat.le_sub_one_of_lt hk) (Nat.sub_one_lt_of_lt hk)) hc)
      have kk:=K_same (key:=key) (p:=p) (i:=0) (j:=n) (by rw [hp.size];exact b) heq
      exact descPart_t o hN hp.rev a hlt (λi j x y=>by rw [kk,kk,heq i (Nat.zero_le _) (Nat.lt_of_le_of_lt x y),heq j (Nat.zero_le _) y];exact o.irr _) (by rw [kk,kk];exact d hlt)
    · obtain rfl:n=1:=Nat.le_antisymm (Nat.not_lt.mp ‹_›) a
      exact descPart_t o hN hp (Nat.le_refl _) hlt (λi j x y=>Srt.one o j i (Nat.le_trans (Nat.le_of_lt_succ y) (Nat.zero_le _)) (Nat.lt_of_le_of_lt x y)) (d hlt)
theorem Ordr.lt_le {a b c:α} (h1:blt a b=true) (h2:blt c b=false):blt a c=true:=by
  cases h:blt a c with
  | true=>rfl
  | false=>exact (o.trans _ _ _ h2 h).symm.trans h1
omit o in
structure Spot (blt:α->α->Bool) (key:Nat->α) (p:Array Nat) (k l r:Nat):Prop where
  low:∀ i,i<l->blt (K key p k) (K key p i)=false
  high:∀ i,r<=i->i<k->blt (K key p k) (K key p i)=true
theorem place_t {k:Nat} (hN:1<=N) (hp:Pm N p) (hs:Srt blt key p k) (f:Nat):∀ l r,l<=r->r<=k->r<=l+f->Spot blt key p k l r->T blt key N (λL=>L<=k/\Spot blt key p k L L) (kas_place p k f l r):=by
  induction f with
  | zero=>
    intro l r h1 h2 h3 S
    cases Nat.le_antisymm h1 h3
    exact ⟨h2,S⟩
  | succ f ih=>
    intro l r h1 h2 h3 S
    unfold kas_place
    split
    · cases Nat.le_antisymm h1 ‹l ≥ r›
      exact ⟨h2,S⟩
    · have hlt:l<r:=Nat.not_le.mp ‹¬l ≥ r›
      have m1:l<=(l+r) / 2:=by lia
      have m2:(l+r) / 2<r:=by lia
      refine Tr'.ask (hp.get hN _) (hp.get hN _) (λhc=>ih _ _ m1 (Nat.le_trans (Nat.le_of_lt m2) h2) (by lia) ⟨S.low,λi a b=>o.lt_le hc (hs _ _ a b)⟩) λhc=>ih _ _ m2 h2 (by lia) ⟨λi a=>o.trans _ _ _ (hs i _ (Nat.le_of_lt_succ a) (Nat.lt_of_lt_of_le m2 h2)) hc,S.high⟩
theorem bin_t (hN:1<=N) (f:Nat):∀ p k,Pm N p->Srt blt key p k->k+f=N->T blt key N (λr=>Pm N r/\Srt blt key r N) (kas_bin f p k):=by
  induction f with
  | zero=>exact λp k hp h e=>by cases e;exact ⟨hp,h⟩
  | succ f ih=>
    intro p k hp h e
    refine Tr'.bind (place_t o hN hp h k 0 k (Nat.zero_le _) (Nat.le_refl _) (Nat.le_of_eq (Nat.zero_add k).symm) ⟨λi q=>absurd q (Nat.not_lt_zero _),λi x y=>absurd x (Nat.not_le.mpr y)⟩) λL ⟨a,S⟩=>ih _ _ ((bubble_perm _ _ _).trans hp) (λi j hij hj=>?_) (by lia)
    have hb:∀ i,K key (bubble p k (k - L)) i=if i=L then K key p k else if L<i/\i<=k then K key p (i - 1) else K key p i:=λi=>by
      have e:=getElem?_bubble (xs:=p) (src:=k) (by rw [hp.size];lia) (k - L) (Nat.sub_le _ _) i
      rw [Nat.sub_sub_self a] at e
      split
      · rw [if_pos ‹_›] at e;exact K_congr e
      · rw [if_neg ‹_›] at e
        split
        · rw [if_pos ‹_›] at e;exact K_congr e
        · rw [if_neg ‹_›] at e;exact K_congr e
    rw [hb i,hb j]
    have hjk:=Nat.le_of_lt_succ hj
    rcases Nat.lt_trichotomy j L with q | rfl | q
    · rw [if_neg (Nat.ne_of_lt q),if_neg (λz=>Nat.lt_asymm q z.1),if_neg (Nat.ne_of_lt (Nat.lt_of_le_of_lt hij q)),if_neg (λz=>Nat.lt_asymm (Nat.lt_of_le_of_lt hij q) z.1)]
      exact h _ _ hij (Nat.lt_of_lt_of_le q a)
    · rw [if_pos rfl]
      rcases Nat.lt_or_eq_of_le hij with q | rfl
      · rw [if_neg (Nat.ne_of_lt q),if_neg (λz=>Nat.lt_asymm q z.1)]
        exact S.low i q
      · rw [if_pos rfl];exact o.irr _
    · rw [if_neg (Nat.ne_of_gt q),if_pos ⟨q,hjk⟩]
      have j1:j - 1<k:=Nat.lt_of_lt_of_le (Nat.sub_one_lt_of_lt q) hjk
      rcases Nat.lt_trichotomy i L with q' | rfl | q'
      · rw [if_neg (Nat.ne_of_lt q'),if_neg (λz=>Nat.lt_asymm q' z.1)]
        exact h _ _ (Nat.le_trans (Nat.le_of_lt q') (Nat.le_sub_one_of_lt q)) j1
      · rw [if_pos rfl]
        exact o.asym _ _ (S.high _ (Nat.le_sub_one_of_lt q) j1)
      · rw [if_neg (Nat.ne_of_gt q'),if_pos ⟨q',Nat.le_trans hij hjk⟩]
        exact h _ _ (Nat.sub_le_sub_right hij 1) j1
theorem sort_t (hN:1<=N):T blt key N (λr=>Pm N r/\Srt blt key r N) (kas_sort N):=by
  refine Tr'.bind (count_t o hN (show Pm N _ from .refl _)) λr ⟨a,b,c,d⟩=>?_
  rw [Nat.max_eq_left b]
  split
  · exact bin_t o hN _ _ _ a d (Nat.add_sub_cancel' c)
  · cases Nat.le_antisymm c (Nat.not_lt.mp ‹_›)
    exact ⟨a,d⟩
end
end
section
open PySem PySem.W PyProof.Rows
noncomputable abbrev pairV (q:Int×Int):V:=.tup [.int q.1,.int q.2]
theorem pair_eq {v:V} {q:Int×Int} (e:v.pair?=some q):v=pairV q:=by
  obtain ⟨p,hp,h⟩:=Option.bind_eq_some_iff.mp e
  obtain ⟨i,hi,h⟩:=Option.bind_eq_some_iff.mp h
  obtain ⟨j,hj,rfl⟩:=Option.map_eq_some_iff.mp h
  rw [V.tup?_eq (two_eq hp),V.int?_eq hi,V.int?_eq hj]
theorem pairs_eq:∀ {vs:List V} {ps:List (Int×Int)},pairsOf vs=some ps->vs=ps.map pairV
  | [],ps,e=>by cases e;rfl
  | v :: vs,ps,e=>by
    obtain ⟨p,hp,h⟩:=Option.bind_eq_some_iff.mp e
    obtain ⟨qs,hq,rfl⟩:=Option.map_eq_some_iff.mp h
    rw [pair_eq hp,pairs_eq hq];rfl
noncomputable abbrev nth (ps:List (Int×Int)) (i:Nat):Int×Int:=ps.getD i (0,0)
theorem nth_at {ps:List (Int×Int)} {i:Nat} (h:i<ps.length):nth ps i=ps[i]:=by
  unfold nth
  rw [List.getD_eq_getElem?_getD,List.getElem?_eq_getElem h];rfl
theorem pairs_sorted {ps:List (Int×Int)} {p:Array Nat} (hp:Pm ps.length p) (hs:Srt ltP (nth ps) p ps.length):sortBy ltP ps=p.toList.map (nth ps):=by
  refine sortBy_eq ord_pair ?_ (List.pairwise_iff_getElem.mpr λi j hi hj hij=>?_)
  · have h1:=(show p.toList.Perm (List.range ps.length) from Array.Perm.toList hp).map (nth ps)
    rw [show (List.range ps.length).map (nth ps)=ps from List.ext_getElem ((List.length_map _).trans List.length_range) λi h1 h2=>by rw [List.getElem_map,List.getElem_range];exact nth_at h2] at h1
    exact h1
  · rw [List.length_map,Array.length_toList] at hi hj
    have:=hs i j (Nat.le_of_lt hij) (by rw [←hp.size];exact hj)
    unfold K at this
    rw [Array.getD_eq_getD_getElem?,Array.getD_eq_getD_getElem?,Array.getElem?_eq_getElem hi,Array.getElem?_eq_getElem hj] at this
    rw [List.getElem_map,List.getElem_map]
    exact this
section
variable {k:Kx} {c:Cx k} {x:At c} {Z:List Addr} {A:Around} {s:Shared} {Q:Value->Shared->Prop} {E:Value->Shared->Prop} {o v:V} {u y:Value} {vs us:List V} {ws xs:List Value} {Φ:Tab} {P:Params} {g:Gh} {h:Heap} {ps:List (Int×Int)}
theorem RelVs.pick (r:RelVs P g h vs xs) (l:List Nat) (hl:∀ i∈l,i<vs.length):RelVs P g h (l.map λi=>vs.getD i .none) (l.map λi=>xs.getD i .none):=by
  induction l with
  | nil=>exact .nil
  | cons i l ih=>
    have hi:=hl i List.mem_cons_self
    obtain ⟨x,hx,rx⟩:=r.get (List.getElem?_eq_getElem hi)
    refine .cons ?_ (ih λj hj=>hl j (List.mem_cons_of_mem _ hj))
    show RelV P g h (vs.getD i V.none) (xs.getD i Value.none)
    rw [List.getD_eq_getElem?_getD,List.getD_eq_getElem?_getD,hx,List.getElem?_eq_getElem hi]
    exact rx
structure PairAt (g:Gh) (h:Heap) (q:Int×Int) (x:Value) (a:Addr) (t u:Tok):Prop where
  is:x=.ref a
  φ:a∈g.φ
  at_:h.get? a=some (tupO [.int q.1 t,.int q.2 u])
theorem pair_at {q:Int×Int} (r:RelV P g h (pairV q) y):∃ a t u,PairAt g h q y a t u:=
  r.isTwo (p:=(.int q.1,.int q.2)) rfl λa y z m ga r1 r2=>by
    revert ga
    exact r1.isInt rfl λt=>r2.isInt rfl λu ga=>⟨a,t,u,rfl,m,ga⟩
theorem ask_pair {a b:Addr} {q r:Int×Int} {t t' u u':Tok} {C:Bool->Shared->Prop} (ha:s.heap.get? a=some (tupO [.int q.1 t,.int q.2 u])) (hb:s.heap.get? b=some (tupO [.int r.1 t',.int r.2 u'])) (h:C (ltP q r) s) :
    wpAny (model prog k.w) A (keyLt' (tuples' true) (.ref a) (.ref b)) C E s:=by
  refine kat_lt ha rfl hb rfl ?_
  show KatLex prog k.w A true false C [(.int q.1 t,.int r.1 t'),(.int q.2 u,.int r.2 u')] 0 s
  refine kat_cons (wpAny_eqBool_int ?_)
  unfold ltP at h
  cases hac:(q.1==r.1) with
  | true=>
    have e:q.1=r.1:=eq_of_beq hac
    rw [e,decide_eq_false (Int.lt_irrefl _),decide_eq_true rfl,Bool.false_or,Bool.true_and] at h
    refine kat_yes (kat_cons (wpAny_eqBool_int ?_))
    cases hbd:(q.2==r.2) with
    | true=>
      rw [eq_of_beq hbd,decide_eq_false (Int.lt_irrefl _)] at h
      exact kat_yes (kat_nil h)
    | false=>exact kat_no (show wpAny _ _ (oneLt' false _ _) _ _ _ from kat_one _ _ (wpAny_lt_int h))
  | false=>
    rw [decide_eq_false (show ¬q.1=r.1 from λe=>by rw [e,beq_self_eq_true] at hac;cases hac),Bool.false_and,Bool.or_false] at h
    exact kat_no (oneLt_int h)
theorem tups_of (r:RelVs P g h (ps.map pairV) xs) {h':Heap} (kk:∀ a∈g.φ,∀ o,h.get? a=some o->h'.get? a=some o):∃ fs,KatTups h' xs fs/\fs.length=ps.length/\∀ v∈fs,∃ i t,v=.int i t:=by
  induction ps generalizing xs with
  | nil=>cases r;exact ⟨[],trivial,rfl,λ_ m=>nomatch m⟩
  | cons q ps ih=>
    cases r with | cons r rs=>
    obtain ⟨fs,h1,h2,h3⟩:=ih rs
    obtain ⟨a,t,u,rfl,m,ga⟩:=pair_at r
    exact ⟨.int q.1 t :: fs,.cons (kk _ m _ ga) rfl rfl rfl h1,congrArg (·+1) h2,λv hv=>(List.mem_cons.mp hv).elim (λe=>⟨_,_,e⟩) (h3 v)⟩
theorem nth_pair (r:RelVs P g h (ps.map pairV) xs) {i:Nat} (hi:i<ps.length):∃ a t u,PairAt g h (nth ps i) (xs.getD i .none) a t u:=by
  obtain ⟨y,hy,ry⟩:=r.get (show (ps.map pairV)[i]?=some (pairV (nth ps i)) by rw [List.getElem?_map,List.getElem?_eq_getElem hi,nth_at hi];rfl)
  rw [List.getD_eq_getElem?_getD,hy]
  exact pair_at ry
theorem sorted_small (h:ps.length<2):sortBy ltP ps=ps:=by
  cases ps with
  | nil=>rfl
  | cons a r=>cases r with
    | nil=>rfl
    | cons=>exact absurd h (Nat.not_lt.mpr (Nat.le_add_left 2 _))
theorem sort_call {D:Addr} {n:Nat} (gD:x.s.heap.get? D=some (lstO xs n)) (hD:D∉x.g.φ) (rs:x.are (ps.map pairV) xs) (h64:xs.length<64)
    (q:∀ h' tk ys n',(∀ b o,b≠D->x.s.heap.get? b=some o->h'.get? b=some o)->x.s.heap.objs.size<=h'.objs.size->h'.get? D=some (lstO ys n')->x.are ((sortBy ltP ps).map pairV) ys->Q .none (x.to h' tk)):WP c (call (.builtin "list.sort") [.ref D]) Q E x.s:=by
  have hlen:xs.length=ps.length:=rs.len.trans (List.length_map _)
  have hsz:xs.length<=sizeLine:=Nat.le_trans (Nat.le_of_lt h64) (by rw [sizeLine_eq];decide)
  refine wpAny_call_entry slot_list_sort ⟨_,gD,rfl⟩ entry_list_sort ?_ (args_list_sort _)
  have s1:=Heap.SameBut.update x.s.heap D (Obj.mapSeq λ_=>(#[]:Array Value))
  obtain ⟨e1,ho1⟩:=seq_upd (s:=x.s) (ys:=[]) (λ_=>(#[]:Array Value)) gD rfl
  rw [list_sort_plain]
  refine wpAny_bind (listItems_at gD rfl (wpAny_bind (listUpdate_at gD rfl (wpAny_bind (seqEpoch_at ho1 rfl (wpAny_bind (wpAny_newTuple (wpAny_bind (wpAny_newList (wpAny_holding ?_) (Nat.zero_le _))) hsz)))) hsz (Nat.zero_le _))))
  have kk:∀ b o,b≠D->x.s.heap.get? b=some o->(((x.s.heap.update D (Obj.mapSeq λ_=>(#[]:Array Value))).push (seqObj "tuple" xs.toArray 0)).push (seqObj "list" #[] 0)).get? b=some o:=λb o hb e=>push_more _ _ _ _ (push_more _ _ _ _ (upd_more b o hb e))
  have hD6:(((x.s.heap.update D (Obj.mapSeq λ_=>(#[]:Array Value))).push (seqObj "tuple" xs.toArray 0)).push (seqObj "list" #[] 0)).get? D=some (seqObj "list" #[] e1):=push_more _ _ _ _ (push_more _ _ _ _ ho1)
  have hz6:x.s.heap.objs.size<=(((x.s.heap.update D (Obj.mapSeq λ_=>(#[]:Array Value))).push (seqObj "tuple" xs.toArray 0)).push (seqObj "list" #[] 0)).objs.size:=Nat.le_trans upd_size (Nat.le_trans (push_size _ _) (push_size _ _))
  show wpAny (model prog k.w) c.A.in1 _ _ _ (x.to (((x.s.heap.update D (Obj.mapSeq λ_=>(#[]:Array Value))).push (seqObj "tuple" xs.toArray 0)).push (seqObj "list" #[] 0)) x.s.toks)
  generalize ((x.s.heap.update D (Obj.mapSeq λ_=>(#[]:Array Value))).push (seqObj "tuple" xs.toArray 0)).push (seqObj "list" #[] 0)=h6 at kk hD6 hz6 ⊢
  dsimp only
  have fin:∀ (out:List Value) (tk c2:Nat),x.are ((sortBy ltP ps).map pairV) out->(h6.update D (Obj.mapSeq λ_=>out.toArray)).get? D=some (seqObj "list" out.toArray c2)->Q .none (x.to (h6.update D (Obj.mapSeq λ_=>out.toArray)) tk):=λout tk c2 ro hc2=>
    q _ tk out c2 (λb o hb eb=>upd_more b o hb (kk b o hb eb)) (Nat.le_trans hz6 upd_size) hc2 ro
  by_cases h2:xs.toArray.size<2
  · rw [if_pos h2,if_pos h2]
    refine wpAny_bind (wpAny_pure ?_)
    rw [StateT.run_pure]
    refine wpAny_bind (wpAny_pure ?_)
    dsimp only
    have e0:Array.map (λx:Keyed=>x.2) (arrOf (SortSt.mk' general' (xs.toArray.zip xs.toArray) #[] 7 none))=xs.toArray:=by
      show Array.map (λx:Keyed=>x.2) (xs.toArray.zip xs.toArray)=xs.toArray
      apply Array.toList_inj.mp
      rw [Array.toList_map,Array.toList_zip,List.map_snd_zip (Nat.le_refl _)]
    refine wpAny_bind (seqEpoch_at hD6 rfl (wpAny_bind (listUpdate_at hD6 rfl ?_ (Nat.zero_le _) (by rw [e0];exact Nat.le_succ_of_le hsz))))
    refine wp_f (by simp) ?_
    rw [e0]
    exact wpAny_pure ⟨_,rfl,fin xs _ _ (by rw [sorted_small (hlen▸h2)];exact rs) (get?_update_seq hD6 λ_=>xs.toArray)⟩
  · rw [if_neg h2,if_neg h2]
    have h2':2<=xs.length:=Nat.not_lt.mp h2
    have k6:∀ a∈x.g.φ,∀ o,x.s.heap.get? a=some o->h6.get? a=some o:=λa m o e=>kk a o (λq=>hD (q▸m)) e
    obtain ⟨fs,ht,hfl,hfi⟩:=tups_of rs k6
    refine wpAny_bind (kat_kind (T:=.type "int") ht (by rw [hfl,←hlen];exact Nat.le_trans (by decide) h2') (λv hv=>?_) rfl ?_)
    · obtain ⟨i,t,rfl⟩:=hfi v hv
      exact Looks.of_pure rfl
    rw [show tuples' (Value.type "int" != Value.type "tuple")=tuples' true from rfl]
    have ask:∀ (s0:Shared),s0.heap=h6->(kas_sort xs.length).kasWp (kas_ask prog k.w c.A.in1 (tuples' true) xs) (λp s''=>(Pm ps.length p/\Srt ltP (nth ps) p ps.length)/\s''=s0) s0:=λs0 hs0=>by
      rw [hlen]
      refine (sort_t ord_pair (key:=nth ps) (hlen▸Nat.le_of_succ_le h2')).wp (λi j R hi hj hR=>?_) λp hp=>⟨hp,rfl⟩
      obtain ⟨a,t,u,pa⟩:=nth_pair rs hi
      obtain ⟨b,t',u',pb⟩:=nth_pair rs hj
      unfold kas_ask
      rw [pa.is,pb.is]
      exact ask_pair (by rw [hs0];exact k6 _ pa.φ _ pa.at_) (by rw [hs0];exact k6 _ pb.φ _ pb.at_) hR
    refine wpAny_bind (wpAny_mono (kat_run (ks:=xs) (vs:=xs) (Q:=λst' s'=>∃ p:Array Nat,arrOf st'=p.map (kas_item (xs.toArray.zip xs.toArray))/\failedOf st'=none/\(Pm ps.length p/\Srt ltP (nth ps) p ps.length)/\s'=_)
      rfl h2' h64 (λp' st' s' a1 a2 a3 a4=>⟨p',a2,a3,a4⟩) (ask _ rfl)) ?_ λ_ _ e=>e)
    rintro ⟨⟨⟩,st'⟩ s' ⟨p,har,hf,⟨hp,hs⟩,rfl⟩
    dsimp only
    have hpl:p.toList.length=xs.length:=by rw [Array.length_toList,hp.size,hlen]
    have hmem:∀ i∈p.toList,i<ps.length:=λi hi=>List.mem_range.mp ((Array.Perm.toList hp).mem_iff.mp hi)
    rw [kat_snds (ks:=xs) (vs:=xs) rfl har]
    refine wpAny_bind (seqEpoch_at hD6 rfl (wpAny_bind (listUpdate_at hD6 rfl ?_ (Nat.zero_le _) (by rw [List.size_toArray,List.length_map,hpl];exact Nat.le_succ_of_le hsz))))
    rw [hf]
    refine wp_f (by simp) (wpAny_pure ⟨_,rfl,fin _ _ _ ?_ (get?_update_seq hD6 λ_=>_)⟩)
    have r:=RelVs.pick rs p.toList λi hi=>by rw [List.length_map];exact hmem i hi
    rw [pairs_sorted hp hs,List.map_map]
    rw [List.map_congr_left (g:=pairV∘nth ps) λi hi=>?_] at r
    · exact r
    · have h1:=hmem i hi
      rw [List.getD_eq_getElem?_getD,List.getElem?_map,List.getElem?_eq_getElem h1]
      exact congrArg pairV (nth_at h1).symm
theorem me_sort (ro:x.is o u) (r:x.are vs ws) (p:Post Z x RV (methM Φ o .sort vs x.μ x.ρ) Q E):WP c (call (.builtin "list.sort") (u :: ws)) Q E x.s:=
  Post.opt (show Post Z x RV (opt _ _ x.μ x.ρ) Q E from p) λi hi p=>p.nil r (list_do ro hi · λD vs q xs n hf g rs hD fin=>by
    obtain ⟨us,hs,rfl⟩:=Option.map_eq_some_iff.mp hf
    unfold sortP at hs
    split at hs
    · cases hs
    · obtain ⟨ps,hps,rfl⟩:=Option.map_eq_some_iff.mp hs
      cases pairs_eq hps
      exact sort_call g hD rs (by rw [rs.len];exact Nat.not_le.mp ‹_›) λh' tk ys n' k hz hg ry=>fin h' tk ys n' .none k hz hg ry .none)
end
end
section
set_option maxRecDepth 100000
open PySem PySem.W
section
variable {w:World} {A:Around} {E:Value->Shared->Prop} {R:Result->Shared->Prop} {h:Heap} {g:Array GenState} {d:Drawn} {t:Nat} {os:OsState} {M:Model} {K:Frag}
variable {nm q:Str} {C N fI:Addr} {bs bm bmB:List Value} {hdct:Bool} {sn:List Str} {sub:List Value} {ab:Bool} {col:Option Bool} {dd:Option Addr} {k0 k1 k2 k3 k5:Option Value} {X newId initId:String}
noncomputable abbrev excO (C t:Addr):Obj:={ cls:=.ref C,data:=.fields #[.ref t,.none,.none,.none,.bool false,.none] }
structure ExcMro (bm:List Value) (X:String):Prop where
  has:(bm.contains (.type X))=true
  noAttr:bm.contains (.type "AttributeError")=false
  noName:bm.contains (.type "NameError")=false
theorem fault_check_new (F:ExcBaseFacts X newId initId bmB) (T:ExcMro bm X) {rest:List Value} {Q:Unit->Shared->Prop} (hC:h.get? C=some (excClassObj nm q C N bs bm hdct sn sub ab col dd k0 k1 k2 k3 k5 newId))
    (hq:Q () ⟨h,g,d,t,os⟩):wpAny M A (checkBuiltinCall newId ⟨.ref C :: rest,[]⟩) Q E ⟨h,g,d,t,os⟩:=by
  have hcont:(Value.ref C :: bm).contains (.type X)=true:=by rw [List.contains_cons,T.has,Bool.or_true]
  have hstar:=F.noStar
  simp only [checkBuiltinCall,F.newKind,F.newSplit,F.newRow]
  repeat (first | refine wpAny_loadPart_at hC ?_ | (refine wpAny_isSubtype_exc hC ?_;rw [hcont]) | refine wpAny_staticBase_exc hC ?_ | refine wpAny_madeBy_exc hC ?_ | simp only [bne_self_eq_false,Bool.false_eq_true,if_false] | wp_step)
  exact hq
theorem fault_new (F:ExcBaseFacts X newId initId bmB) (T:ExcMro bm X) {rest:List Value} (hC:h.get? C=some (excClassObj nm q C N bs bm hdct sn sub ab col dd k0 k1 k2 k3 k5 newId))
    (hq:R (.ok (.ret (.ref (h.objs.size+1)))) ⟨(h.push (tupO rest)).push (excO C h.objs.size),g,d,t,os⟩) (hrest:rest.length<=sizeLine) :
    codeAny (model prog w) A (.builtin newId ⟨.ref C :: rest,[]⟩) R ⟨h,g,d,t,os⟩:=by
  have hends:=F.ends
  have hcB:(Value.ref C :: bm).contains (.type X)=true:=by rw [List.contains_cons,T.has,Bool.or_true]
  have hcA:(Value.ref C :: bm).contains (.type "AttributeError")=false:=by rw [List.contains_cons,T.noAttr];rfl
  have hcN:(Value.ref C :: bm).contains (.type "NameError")=false:=by rw [List.contains_cons,T.noName];rfl
  refine codeAny_builtinAt F.entry ?_
  unfold Builtin.«BaseException.__new__»
  refine wpAt_bind ?_
  show wpAt _ _ _ (stack >>= _) _ _ _
  refine wpAt_bind (wpAt_stack λp below=>wpAt_of_wpAny ?_)
  wp_walk
  refine wpAt_of_wpAny ?_
  rw [F.owner]
  repeat (first | with_reducible refine wpAny_madeHere_exc F.canon hC ?_ | with_reducible refine wpAny_loadPart_at hC ?_ | (with_reducible refine wpAny_isSubtype_exc hC ?_;first | rw [hcB] | rw [hcA] | rw [hcN]) | wp_step)
  show R _ _
  rw [Heap.size_push]
  exact hq
theorem fault_type_call (F:ExcBaseFacts X newId initId bmB) (T:ExcMro bm X) {rest:List Value} {Q:Fin->Shared->Prop} (XK:K.In h)
    (hC:h.get? C=some (excClassObj nm q C N bs bm hdct sn sub ab col dd k0 k1 k2 k3 k5 newId)) (hi:findIn K (.ref C) "__init__"=some (some (.ref fI))) (hf:typeIn K (.ref fI)=some (.type "function"))
    (hq:wpAny (model prog w) A (call (.ref fI) (.ref (h.objs.size+1) :: rest)) (λr s'=>r=.none/\Q (.done (.ret (.ref (h.objs.size+1)))) s') E ⟨(h.push (tupO rest)).push (excO C h.objs.size),g,d,t,os⟩) (hrest:rest.length<=sizeLine) :
    wpAny (model prog w) A (Builtin.«type.__call__» ⟨.ref C :: rest,[]⟩) Q E ⟨h,g,d,t,os⟩:=by
  repeat (first | with_reducible refine wpAny_loadPart_at hC ?_ | with_reducible refine wpAny_madeBy_exc hC ?_ | wp_step)
  refine codeAny_call_builtin_code (Code.quiet_builtin _ F.quiet) (fault_check_new F T hC ?_)
  refine fault_new F T hC ?_ hrest
  show wpAny _ _ _ _ _ _
  have k:∀ b o,h.get? b=some o->((h.push (tupO rest)).push (excO C h.objs.size)).get? b=some o:=λb o e=>Heap.get?_push_of_some _ (Heap.get?_push_of_some _ e)
  have hC₁:=k _ _ hC
  have hget:((h.push (tupO rest)).push (excO C h.objs.size)).get? (h.objs.size+1)=some (excO C h.objs.size):=by heap_get
  have hcC:(Value.ref C :: bm).contains (.ref C)=true:=by simp
  have XK₁:=XK.keeps k
  unfold isInstance
  repeat (first | with_reducible refine wpAny_loadPart_at hget ?_ | (with_reducible refine wpAny_isSubtype_exc hC₁ ?_;rw [hcC]) | wp_step)
  show wpAny _ _ (typeLookup (.ref C) _) _ _ _
  refine (looks_findIn XK₁ hi).here ?_
  refine wpAny_holding (wpAny_bind ?_)
  refine (bind_fn XK₁ _ hf).here ?_
  refine wpAny_bind (wpAny_mono hq (λr s' hr=>?_) λ_ _ x=>x)
  obtain ⟨rfl,hQ⟩:=hr
  wp_walk
  exact hQ
theorem fault_call (F:ExcBaseFacts X newId initId bmB) (T:ExcMro bm X) {rest:List Value} {Q:Value->Shared->Prop} (XK:K.In h)
    (hC:h.get? C=some (excClassObj nm q C N bs bm hdct sn sub ab col dd k0 k1 k2 k3 k5 newId)) (hi:findIn K (.ref C) "__init__"=some (some (.ref fI))) (hf:typeIn K (.ref fI)=some (.type "function"))
    (hq:wpAny (model prog w) (A.under (.builtin "type.__call__" ⟨.ref C :: rest,[]⟩)) (call (.ref fI) (.ref (h.objs.size+1) :: rest)) (λr s'=>r=.none/\Q (.ref (h.objs.size+1)) s') E ⟨(h.push (tupO rest)).push (excO C h.objs.size),g,d,t,os⟩) (hrest:rest.length<=sizeLine) :
    wpAny (model prog w) A (call (.ref C) rest) Q E ⟨h,g,d,t,os⟩:=by
  have f1:=tc_lookup
  have f2:=tc_bind (.ref C)
  have hT:(⟨h,g,d,t,os⟩:Shared).TypeIs (.ref C) "type":=⟨_,hC,rfl⟩
  refine wpAny_call (codeAny_of_tree ?_)
  show wpAny _ _ (callAny (.ref C) _) _ _ _
  repeat (any_goals (first | assumption | with_reducible refine wpAny_loadPart_at hC ?_ | wp_step))
  refine ⟨rfl,?_⟩
  refine codeAny_call_builtin_at (Code.quiet_builtin _ (by decide +kernel)) entry_typeCall (wpAny_check_type_call_sub hC (fault_type_call F T XK hC hi hf ?_ hrest))
  exact hq
end
end
section
open PySem PySem.W PyProof.Rows Builtin Builtin.ObjectAttr
noncomputable abbrev sWhat:Str:=Str.ofString "what"
noncomputable abbrev sAt:Str:=Str.ofString "at"
structure FaultCls (K:Frag):Prop where
  sa:findIn K (.ref 64) "__setattr__"=some (some (.builtin "object.__setattr__"))
  dict:hasDictIn K 64=true
  mro:∃ cd,clsIn K 64=some cd/\cd.mro=[.ref 64,.ref 39,.type "Exception",.type "BaseException",.type "object"]
  names:∀ n∈[sWhat,sAt],findIn K (.ref 64) n=some none
noncomputable abbrev flt (t:Addr) (dd:Option Addr):Obj:={ cls:=.ref 64,dict:=dd,data:=.fields #[.ref t,.none,.none,.none,.bool false,.none] }
theorem putL_refs {name:Str} {hsh:Int} {t:Tok} {z:Value}:∀ {es:List DictEntry},es.any (·.refKey)=false->(putL name hsh (.str name t) z es).any (·.refKey)=false
  | [],_=>rfl
  | e :: r,h=>by
    obtain ⟨h1,h2⟩:=Bool.or_eq_false_iff.mp (List.any_cons.symm.trans h)
    unfold putL
    by_cases c:e.key.isStr name=true
    · rw [if_pos c,List.any_cons,h2,Bool.or_false]
      exact h1
    · rw [if_neg c,List.any_cons,putL_refs h2,Bool.or_false]
      exact h1
structure XI (h0:Heap) (L e:Addr) (m:Str->Option Value) (j:Nat) (h:Heap):Prop where
  ns:h.Ns L m
  keep:∀ b o,h0.get? b=some o->h.get? b=some o
  size:h0.objs.size<=h.objs.size
  obj:∃ t,h.get? e=some (flt t none)∨∃ dx es n,h.get? e=some (flt t (some dx))/\h.get? dx=some (dctO es n)/\es.any (·.refKey)=false/\es.length<=j/\h0.objs.size<=dx/\L≠dx/\e≠dx
section
variable {k:Kx} {A:Around} {s:Shared} {E:Value->Shared->Prop} {L e:Addr} {m:Str->Option Value} {j:Nat} {name:Str} {v:Value} {h0:Heap}
theorem xi_store {h:Heap} {dx t:Addr} {es:List DictEntry} {n:Nat} {tk:Tok} {Q:Fin->Shared->Prop} (hj:j<=900) (ns:h.Ns L m) (ap:L≠e) (keep:∀ b o,h0.get? b=some o->h.get? b=some o) (size:h0.objs.size<=h.objs.size) (ge:h0.objs.size<=e) (hx:h.get? e=some (flt t (some dx))) (hd:h.get? dx=some (dctO es n)) (hr:es.any (·.refKey)=false) (hl:es.length<=j) (dg:h0.objs.size<=dx) (ld:L≠dx) (ed:e≠dx)
    (q:∀ h' tk,XI h0 L e m (j+1) h'->Q (.done (.ret .none)) { s with heap:=h',toks:=tk }):wpAny (model prog k.w) A (storeInDict dx (.str name tk) name v) Q E { s with heap:=h }:=by
  unfold storeInDict newKeyGuard
  exact wpAny_bind (wpAny_pure (wpAny_bind (ns_put (s:={ s with heap:=h }) hd hr λh' n' D hs=>wpAny_bind (wpAny_lookBehind D (pastItsLine_dict (field_size (Nat.le_trans hl hj))) (wpAny_pure (q h' _ ⟨ns.at λo g=>(hs.2 _ ld).trans g,λb o g=>(hs.2 b (λe=>Nat.lt_irrefl _ (Nat.lt_of_lt_of_le (Heap.lt_size g) (e▸dg)))).trans (keep b o g),hs.1▸size,t,.inr ⟨dx,_,n',(hs.2 _ ed).trans hx,D,putL_refs hr,Nat.le_trans (putL_len _) (Nat.succ_le_succ hl),dg,ld,ed⟩⟩))))))
theorem fault_setattr {Q:Unit->Shared->Prop} (X:k.K.In h0) (F:FaultCls k.K) (hn:name∈[sWhat,sAt]) (hj:j<=900) (ge:h0.objs.size<=e) (ap:L≠e) (i:XI h0 L e m j s.heap) (q:∀ h' tk,XI h0 L e m (j+1) h'->Q () { s with heap:=h',toks:=tk }):wpAny (model prog k.w) A (setAttr (.ref e) name v) Q E s:=by
  obtain ⟨t,ho⟩:=i.obj
  have XK:=X.keeps i.keep
  obtain ⟨cd,hc,hmro⟩:=F.mro
  have hcd:cd.hasDict=true:=by
    have:=F.dict
    unfold hasDictIn at this
    rw [hc] at this
    exact this
  have I:∃ dd od,s.heap.get? e=some (flt t dd)/\InstAt s.heap e (flt t dd) 64 od:=ho.elim (λhx=>⟨none,none,hx,hx,rfl,rfl,trivial⟩) λh=>by obtain ⟨dx,es,n,hx,hd,_⟩:=h;exact ⟨some dx,some _,hx,hx,rfl,rfl,hd⟩
  obtain ⟨dd,od,hx,I⟩:=I
  refine set_plain XK I F.sa ?_
  have SF:=PySem.F.store_object
  have sub:Looks (model prog k.w) s.heap (isInstance (.ref e) (.type "object")) true:=I.type.andThen (looks_mroIn XK (by unfold mroIn;rw [hc,Option.bind_some,if_neg (by rw [hmro];decide),hmro];rfl))
  refine codeAny_call_builtin SF.slot.plain SF.entry (@check_slot (model prog k.w) _ _ _ "object.__setattr__" "object" "__setattr__" (.ref e) [.str name s.toks,v] [] _ SF.kind SF.split sub (SF.args (.ref e) (.str name s.toks) v) ?_)
  have hm:Looks (model prog k.w) s.heap (mroOf (.ref 64)) cd.mro:=(looks_clsIn XK hc).andThen .now
  rw [osa_eq,refuse_eq]
  refine wpAny_bind (wpAny_bind (I.type.here (s:={ s with toks:=s.toks+1 }) (wpAny_bind (hm.here (s:={ s with toks:=s.toks+1 }) ?_))))
  rw [hmro,refuseLoop_ref,refuseLoop_ref,PySem.F.store_Exception.passes]
  refine wpAny_pure (wpAny_bind (I.type.here (s:={ s with toks:=s.toks+1 }) (wpAny_bind ((looks_findIn XK (F.names _ hn)).here (s:={ s with toks:=s.toks+1 }) (wpAny_bind (wpAny_pure ?_))))))
  refine wpAny_bind (wpAny_pure (wpAny_bind (wpAny_bind (wpAny_loadPart hx (wpAny_bind ((looks_clsIn XK hc).here (s:={ s with toks:=s.toks+1 }) ?_))))))
  rw [hcd]
  rcases ho with hx' | ⟨dx,es,n,hx',hd,hr,hl,dg,ld,ed⟩
  · cases hx.symm.trans hx'
    have hx1:(s.heap.push emptyDict).get? e=some (flt t none):=Heap.get?_push_of_some _ hx
    have hes:e≠s.heap.objs.size:=Nat.ne_of_lt (Heap.lt_size hx)
    have kk:∀ b o,b≠e->s.heap.get? b=some o->((s.heap.push emptyDict).update e λo=>{ o with dict:=some s.heap.objs.size }).get? b=some o:=λb o hb g=>(Heap.get?_update_ne _ _ _ _ hb).trans (Heap.get?_push_of_some _ g)
    refine wpAny_bind (wpAny_alloc (wpAny_bind (wpAny_update hx1 (wpAny_pure ?_))))
    exact xi_store (s:={ s with toks:=s.toks+1 }) hj (i.ns.at λo g=>kk _ _ ap g) ap (λb o g=>kk b o (λq=>absurd (Heap.lt_size g) (Nat.not_lt.mpr (q▸ge))) (i.keep b o g)) (by rw [Heap.size_update,Heap.size_push];exact Nat.le_succ_of_le i.size) ge (Heap.get?_update_self _ hx1 rfl) ((Heap.get?_update_ne _ _ _ _ hes.symm).trans (Heap.get?_push_at rfl rfl):_=some (dctO [] 0)) rfl (Nat.zero_le _) i.size (Nat.ne_of_lt i.ns.lt) hes λh' tk x=>q h' tk x
  · cases hx.symm.trans hx'
    exact wpAny_pure (a:=some dx) (xi_store (s:={ s with toks:=s.toks+1 }) hj i.ns ap i.keep i.size ge hx hd hr hl dg ld ed λh' tk x=>q h' tk x)
end
end
section
open PySem PySem.W PyProof.Rows
section
variable {w:World} {A:Around} {E:Value->Shared->Prop} {h:Heap} {g:Array GenState} {d:Drawn} {t:Nat} {os:OsState} {M:Model} {K:Frag}
variable {nm q:Str} {C N fI:Addr} {bs bm bmB:List Value} {hdct:Bool} {sn:List Str} {sub:List Value} {ab:Bool} {col:Option Bool} {dd:Option Addr} {k0 k1 k2 k3 k5:Option Value} {X newId initId:String}
theorem fault_check_init (F:ExcBaseFacts X newId initId bmB) (T:ExcMro bm X) {e:Addr} {oe:Obj} {rest:List Value} {Q:Unit->Shared->Prop}
    (hC:h.get? C=some (excClassObj nm q C N bs bm hdct sn sub ab col dd k0 k1 k2 k3 k5 newId)) (he:h.get? e=some oe) (hcls:oe.cls=.ref C) (hq:Q () ⟨h,g,d,t,os⟩) :
    wpAny M A (checkBuiltinCall initId ⟨.ref e :: rest,[]⟩) Q E ⟨h,g,d,t,os⟩:=by
  have hcB:(Value.ref C :: bm).contains (.type X)=true:=by rw [List.contains_cons,T.has,Bool.or_true]
  have hshort:=F.noStar
  simp only [checkBuiltinCall,F.initKind,F.initSplit,F.initRow]
  repeat (first | (with_reducible refine wpAny_loadPart_at he ?_;rw [hcls]) | with_reducible refine wpAny_loadPart_at hC ?_ | (with_reducible refine wpAny_isSubtype_exc hC ?_;rw [hcB]) | wp_step)
  refine wpAny_onRaise ?_
  rw [show ∀ (a b:String) (n:Nat),Bind.check ⟨.positional, "*",X,.self,[⟨"args",.varPos,false⟩]⟩ a b n (List.map (λx=>x.fst) ({ pos:=Value.ref e :: rest }:Args).kw)=pure () from
    λa b n=>check_star_args _ _ _ _ _ _]
  exact wpAny_pure hq
theorem fault_init_call (F:ExcBaseFacts X newId initId bmB) (T:ExcMro bm X) {e tt:Addr} {rest:List Value} {Q:Value->Shared->Prop}
    (hC:h.get? 64=some (excClassObj nm q 64 N bs bm hdct sn sub ab col dd k0 k1 k2 k3 k5 newId)) (he:h.get? e=some (excO 64 tt)) (hrest:rest.length<=sizeLine)
    (hq:Q .none ⟨(h.push (tupO rest)).update e (Obj.mapFields λx=>x.setIfInBounds 0 (.ref h.objs.size)),g,d,t,os⟩) :
    wpAny (model prog w) A (call (.builtin initId) (.ref e :: rest)) Q E ⟨h,g,d,t,os⟩:=by
  refine wpAny_call (codeAny_call_builtin F.init.plain F.initEntry (fault_check_init F T hC he rfl ?_))
  wp_walk
  exact hq
end
noncomputable abbrev sExc:Str:=Str.ofString "Exception"
inductive FObjAt (K:Frag):Prop
  | mk:∀ nm q N bs bm hdct sn sub ab col dd k0 k1 k2 k3 k5,K.lookup 64=some (excClassObj nm q 64 N bs bm hdct sn sub ab col dd k0 k1 k2 k3 k5 "Exception.__new__")->ExcMro bm "Exception"->FObjAt K
structure FaultInit (K:Frag) (B:Heap):Prop where
  cls:FaultCls K
  obj:FObjAt K
  init:findIn K (.ref 64) "__init__"=some (some (.ref 29))
  ityp:typeIn K (.ref 29)=some (.type "function")
  keep:keepIn K (.ref 64)=true
  sup:findCls K (.type "Exception") (.type "type") (Str.ofString "__init__")=some (.val (.builtin "Exception.__init__"))
  exc:∃ mg mb,B.Ns mainGlobals mg/\B.Ns builtinsNs mb/\mg sExc=none/\mb sExc=some (.type "Exception")
  fn:FnOK K 29 (meR "PostError" "__init__")
inductive ErrB (l:List Stmt):Prop
  | mk:∀ p1 ap p2 p3 pos p4 p5 p6 p7 p8 p9 p10 p11 p12,l=[.Expr (.Call (.Attribute (.Name sExc p1) (Str.ofString "__init__") ap) [.Name slf p2,.Name sWhat p3] [] pos) p4,.Assign [.Attribute (.Name slf p5) sWhat p6] (.Name sWhat p7) p8,.Assign [.Attribute (.Name slf p9) sAt p10] (.Name sAt p11) p12]->(ap.endLine==pos.line)=true->ErrB l
theorem err_body:ErrB (meR "PostError" "__init__").2.1:=⟨_,_,_,_,_,_,_,_,_,_,_,_,_,_,rfl,rfl⟩
theorem err_pars:(meR "PostError" "__init__").1=[slf,sWhat,sAt]/\(meR "PostError" "__init__").2.2.names.lookup slf=some .local/\(meR "PostError" "__init__").2.2.names.lookup sWhat=some .local/\(meR "PostError" "__init__").2.2.names.lookup sAt=some .local/\(meR "PostError" "__init__").2.2.names.lookup sExc=some .globalImplicit:=⟨by kernel_rfl,by kernel_rfl,by kernel_rfl,by kernel_rfl,by kernel_rfl⟩
theorem two_args {M:Model} {A:Around} {f:Value} {a b:Sem Value} {Q:Args->Shared->Prop} {E:Value->Shared->Prop} {s:Shared} (q:wpAny M A (spliced [(false,a),(false,b)]) (λvs s₁=>Q ⟨vs,[]⟩ s₁) E s):wpAny M A (evalArgs f true [(false,a),(false,b)] []) Q E s:=by
  unfold evalArgs
  exact wpAny_bind (wpAny_mono q (λvs s₁ h₁=>wpAny_bind (wpAny_pure (wpAny_holding (wpAny_bind (wpAny_pure (wpAny_bind (wpAny_pure (wpAny_pure h₁)))))))) λ_ _ x=>x)
section
variable {k:Kx}
set_option maxHeartbeats 4000000 in
set_option maxRecDepth 100000 in
theorem fault_made (F:FaultInit k.K k.B):FaultCall k:=by
  intro c x u v w w' Q E ru rv q
  refine ⟨keeps_K F.keep _ x.kin,?_⟩
  obtain ⟨nm,qn,N,bs,bm,hdct,sn,sub,ab,col,dd,k0,k1,k2,k3,k5,hobj,T⟩:=F.obj
  have XK:=x.kin
  have FE:=PySem.F.excBase_Exception
  generalize hs:x.s.heap=h at XK
  have hsz:((h.push (tupO [w,w'])).push (excO 64 h.objs.size)).objs.size=h.objs.size+2:=by rw [Heap.size_push,Heap.size_push]
  refine fault_call (h:=x.s.heap) FE T (rest:=[w,w']) (hs▸XK) (hs▸XK _ _ hobj) F.init F.ityp ?_ (by show 2<=sizeLine;rw [sizeLine_eq];lia)
  rw [hs]
  have kp:∀ b o,h.get? b=some o->((h.push (tupO [w,w'])).push (excO 64 h.objs.size)).get? b=some o:=λb o e=>Heap.get?_push_of_some _ (Heap.get?_push_of_some _ e)
  have hget:((h.push (tupO [w,w'])).push (excO 64 h.objs.size)).get? (h.objs.size+1)=some (excO 64 h.objs.size):=by heap_get
  obtain ⟨hp,l1,l2,l3,l4⟩:=err_pars
  refine wpAny_call (enter_raw ?_ (XK.keeps kp) ((k.base.nolimit.keeps (hs▸x.st.hp.stays)).keeps kp) F.fn (by rw [hp];rfl) λenv m s₁ E' N=>?_)
  · show c.A.depth+1<1000
    have:=c.cfg.depth;lia
  have hK:∀ y,env.kindOf y=(meR "PostError" "__init__").2.2.names.lookup y:=λy=>by show env.scope.names.lookup y=_;rw [N.sc]
  have par:=N.par
  rw [hp] at par
  have b1:=par slf _ l1 rfl
  have b2:=par sWhat _ l2 rfl
  have b3:=par sAt _ l3 rfl
  have kf:env.scope.kind=.function:=by rw [N.sc];exact F.fn.kind
  have ns:s₁.heap.Ns env.locals m:=N.loc▸N.ns
  have hL:env.locals=h.objs.size+2:=N.loc.trans hsz
  have keep0:∀ b o,h.get? b=some o->s₁.heap.get? b=some o:=λb o e=>N.keep b o (kp b o e)
  obtain ⟨p1,ap,p2,p3,pos,p4,p5,p6,p7,p8,p9,p10,p11,p12,hb,hap⟩:=err_body
  obtain ⟨mg,mb,hmg,hmb,e1,e2⟩:=F.exc
  have he0:=N.keep _ _ hget
  have St0:k.B.StaysIn s₁.heap:=λb o e=>keep0 b o (hs▸x.st.hp.stays b o e)
  rw [hb]
  refine wpAny_execs_cons ?_
  rw [arm_exec_Expr,show interactive env=false by unfold interactive;rw [kf];rfl]
  refine wpAny_bind (wpAny_standAt (wpAny_bind (wpAny_pure (wpAny_bind ?_))))
  rw [arm_eval_Call]
  refine wpAny_bind (wpAny_Name ?_ (by decide))
  unfold loadName
  rw [hK,l4,show env.blockKind=ScopeKind.function by unfold Env.blockKind;rw [kf];rfl,kf]
  refine wp_f Bool.false_ne_true (Calls.loadGlobal_builtin (N.glo▸hmg.keeps St0) e1 (N.blt▸hmb.keeps St0) e2 ?_)
  dsimp only
  refine wpAny_bind (wpAny_standAt ?_)
  have hz0:h.objs.size<=s₁.heap.objs.size:=Nat.le_of_lt (Nat.lt_of_le_of_lt (Nat.le_add_right _ 2) (hL▸ns.lt))
  unfold methodCall
  rw [show methodCallForm ([Expr.Name slf p2,Expr.Name sWhat p3].length+([]:List Keyword).length) (backTo pos (starEach [.Name slf p2,.Name sWhat p3] env)) (backToKw pos (keywordEach [] env))=true from rfl]
  refine wpAny_bind (wpAny_holding ?_)
  unfold calleeOf
  refine wp_t rfl (method_type (h₀:=h) (L:=h.objs.size+2) (m:=m) (s:=s₁) ⟨hL▸ns,keep0,Nat.le_add_right _ _⟩ XK (by kernel_rfl) (by decide +kernel) F.sup (by kernel_rfl) ?_)
  dsimp only
  rw [show methodCallPos true (.Name sExc p1) env ap pos=pure pos by unfold methodCallPos;rw [hap];rfl]
  refine wpAny_bind (wpAny_pure (callWith_of (P:=λh=>True) rfl (λh _=>⟨.machine,.inr (.inl rfl),.now⟩) (two_args ?_)))
  unfold spliced
  refine wpAny_bind (wpAny_Name (wpAny_loadName_local kf ((hK _).trans l1) ns b1 (wp_f Bool.false_ne_true (wpAny_bind (wpAny_pure (wpAny_bind (wpAny_holding ?_)))))) (by decide))
  unfold spliced
  refine wpAny_bind (wpAny_Name (wpAny_loadName_local kf ((hK _).trans l2) ns b2 (wp_f Bool.false_ne_true (wpAny_bind (wpAny_pure (wpAny_bind (wpAny_holding ?_)))))) (by decide))
  unfold spliced
  refine wpAny_pure (wpAny_pure (wpAny_pure ⟨trivial,fault_init_call (h:=s₁.heap) (g:=s₁.gens) (d:=s₁.drawn) (t:=s₁.toks+1) (os:=s₁.os) FE T (rest:=[w]) (keep0 _ _ (XK _ _ hobj)) he0 (by show 1<=sizeLine;rw [sizeLine_eq];lia) (wpAny_dropValue ?_)⟩))
  have kk:∀ b o,b≠h.objs.size+1->s₁.heap.get? b=some o->((s₁.heap.push (tupO [w])).update (h.objs.size+1) (Obj.mapFields λx=>x.setIfInBounds 0 (.ref s₁.heap.objs.size))).get? b=some o:=λb o hb e=>(Heap.get?_update_ne _ _ _ _ hb).trans (Heap.get?_push_of_some _ e)
  have ne:env.locals≠h.objs.size+1:=hL▸Nat.succ_ne_self _
  have I1:XI h env.locals (h.objs.size+1) m 0 ((s₁.heap.push (tupO [w])).update (h.objs.size+1) (Obj.mapFields λx=>x.setIfInBounds 0 (.ref s₁.heap.objs.size))):=⟨ns.at λo e=>kk _ _ ne e,λb o e=>kk b o (Nat.ne_of_lt (Nat.lt_succ_of_lt (Heap.lt_size e))) (keep0 b o e),by rw [Heap.size_update,Heap.size_push];exact Nat.le_succ_of_le hz0,s₁.heap.objs.size,.inl (Heap.get?_update_self _ (Heap.get?_push_of_some _ he0) rfl)⟩
  refine wpAny_execs_cons (field_stmt (l:=0) kf I1.ns ((hK _).trans l1) b1 ((hK _).trans l2) b2 (by decide) (fault_setattr XK F.cls List.mem_cons_self (by decide) (Nat.le_succ _) ne I1 λh2 t2 I2=>?_))
  refine wpAny_execs_cons (field_stmt (l:=0) kf I2.ns ((hK _).trans l1) b1 ((hK _).trans l3) b3 (by decide) (fault_setattr XK F.cls (List.mem_cons_of_mem _ List.mem_cons_self) (by decide) (Nat.le_succ _) ne I2 λh3 t3 I3=>?_))
  obtain ⟨h1,t1,rfl⟩:=N.same
  obtain ⟨t,ho⟩:=I3.obj
  have ho:∃ dd,h3.get? (h.objs.size+1)=some (flt t dd):=ho.elim (λe=>⟨_,e⟩) λe=>by obtain ⟨_,_,_,e,_⟩:=e;exact ⟨_,e⟩
  obtain ⟨dd,ho⟩:=ho
  subst hs
  exact wpAny_execs_nil ⟨rfl,q _ _ ⟨I3.keep,I3.size,rfl,rfl,_,flt t dd,_,rfl,Nat.le_succ _,ho,rfl,rfl,(by decide:2<=6),rfl⟩⟩
end
end
section
open PySem PySem.W PyProof.Rows
structure Facts (K:Frag) (w:World) (B:Heap) (T:FnT):Prop where
  base:BaseOK K w B
  mm:Meths K
  fault:FaultOK K
  fi:FaultInit K B
  held:ClsIs K 168 151
  copy:ClsIs K 218 186
  atom:ClsIs K 132 122
  keeps:∀ a∈[(168:Addr),218,132],keepIn K (.ref a)=true
  atomI:FnOK K 122 (meR "Atom" "__init__")
  heldI:∃ t t',FnOK K 151 (meR "Held" "__init__") [.int 0 t,.none,.int 0 t']
  heldT:T 151=some (meR "Held" "__init__")
  copyT:T 186=some (meR "Copy" "__init__")
  fns:∀ a f,T a=some f->FnOK K a f
theorem me_keeps {MM:Model} {h:Heap} {m:Me} (hm:∀ a,m≠.fn a):Keeps1 MM h m.val:=by
  refine ⟨.machine,.inr (.inl rfl),?_⟩
  cases m <;> first | exact .now | exact absurd rfl (hm _)
noncomputable def CallOK (k:Kx):Prop:=∀ {c:Cx k} (x:At c) {a:Addr} {vs:List V} {xs:List Value} {Q:Value->Shared->Prop} {E:Value->Shared->Prop},x.are vs xs->Post [] x RV (callA k.Φ a vs x.μ x.ρ) Q E->Keeps1 (model prog k.w) x.s.heap (.ref a)/\WP c (call (.ref a) xs) Q E x.s
noncomputable def MakeOK (k:Kx):Prop:=∀ {c:Cx k} (x:At c) {thaw b:Bool} {Q:Value->Shared->Prop} {E:Value->Shared->Prop},Post [] x RV (callB k.Φ thaw (if b then .cCopy else .cHeld) [] x.μ x.ρ) Q E->WP c (call (.ref (clsAt b)) []) Q E x.s
theorem full_of {k:Kx} {T:FnT} (F:Facts k.K k.w k.B T) (H:CallOK k) (I:MakeOK k):Full k where
  fault:=F.fault
  made:=fault_made F.fi
  pick x _ _ _ _ _ _ _ r e q:=pick_of F.mm r e q
  calls x thaw f vs fx xs Q E r rs p:=p.opt λb hb p=>r.isGlob hb (by
    cases b with
    | fn a=>exact H x rs p
    | cHeld=>exact Post.nil p rs λp=>⟨keeps_K (F.keeps _ (by decide)) _ x.kin,I x (thaw:=thaw) (b:=false) p⟩
    | cCopy=>exact Post.nil p rs λp=>⟨keeps_K (F.keeps _ (by decide)) _ x.kin,I x (thaw:=thaw) (b:=true) p⟩
    | cAtom=>exact Post.one p rs λv u r p=>⟨keeps_K (F.keeps _ (by decide)) _ x.kin,call_atom F.atom F.atomI r p⟩
    | cFault=>exact p.elim
    | _=>exact ⟨bi_keeps rfl,bi_call (thaw:=thaw) rs p⟩)
  meth x v vs u us m Q E r rs p:=by
    cases m with
    | append=>exact ⟨me_keeps nofun,me_append r rs p⟩
    | extend=>exact ⟨me_keeps nofun,me_extend r rs p⟩
    | insert=>exact ⟨me_keeps nofun,me_insert r rs p⟩
    | pop=>exact ⟨me_keeps nofun,me_pop r rs p⟩
    | sort=>exact ⟨me_keeps nofun,me_sort r rs p⟩
    | get=>exact ⟨me_keeps nofun,me_get r rs p⟩
    | fn a=>exact Post.opt (show Post [] x RV (opt _ _ x.μ x.ρ) Q E from p) λi hi p=>H x (.cons (V.ref?_eq hi▸r) rs) p
theorem full_all {k:Kx} {T:FnT} (F:Facts k.K k.w k.B T):∀ d,Full (k.at d (phiT T d))
  | 0=>full_of F (λx _ _ _ _ _ r p=>(show False from p).elim) λx _ b _ _ p=>by cases b <;> exact (show False from p).elim
  | d+1=>full_of F (λx a vs xs Q E r p=>by
      rw [callA_res] at p
      change Post [] x RV (resM (match T a with | some f=>runF (phiT T d) f vs x.μ | none=>.fail) x.ρ) Q E at p
      cases hT:T a with
      | none=>rw [hT] at p;exact (show False from p).elim
      | some f=>
        rw [hT] at p
        have fk:=F.fns a f hT
        exact ⟨keeps_K fk.keep _ x.kin,call_own x (full_all F d) fk r p⟩) λx thaw b Q E p=>by
      have step:∀ a f,T a=some f->phiT T (d+1) a=runF (phiT T d) f:=λa f e=>by
        funext vs μ
        show (match T a with | some f=>runF (phiT T d) f vs μ | none=>.fail)=_
        rw [e]
      cases b with
      | false=>obtain ⟨t,t',fk⟩:=F.heldI;exact call_inst x (b:=false) (ws:=[.int 0,.none,.int 0]) (full_all F d) F.held fk (step _ _ F.heldT) (.cons (.int _ _) (.cons .none (.cons (.int _ _) .nil))) p
      | true=>exact call_inst x (b:=true) (ws:=[]) (full_all F d) F.copy (F.fns _ _ F.copyT) (step _ _ F.copyT) .nil p
end
section
open PySem
noncomputable def sq (s k:M Fl):M Fl:=bindM s (seqFl k)
noncomputable def cl (Φ:Tab) (a:Addr) (m:M (List V)):M V:=bindM m λvs=>callA Φ a vs
noncomputable def bi (t:Bool) (b:Bi) (m:M (List V)):M V:=bindM m (biM t b)
noncomputable def asS (k:Nat) (m:M V):M Fl:=bindM m λv=>bindM (stAt (some k) v) λ_=>retM .next
noncomputable def ld (k:Nat):M V:=ldAt (some k)
noncomputable def st (k:Nat) (v:V):M Unit:=stAt (some k) v
noncomputable def ifM {α:Type} (t:M Bool) (a b:M α):M α:=bindM t λd=>if d then a else b
noncomputable def meth (Φ:Tab) (o:M V) (name:Str) (m:M (List V)):M V:=bindM o λu=>bindM (pickM u name) λme=>bindM m λvs=>methM Φ u me vs
noncomputable def andM (m k:M Bool):M Bool:=ifM m k (retM false)
noncomputable def orM (m k:M Bool):M Bool:=ifM m (retM true) k
noncomputable def notM (m:M Bool):M Bool:=bindM m λb=>retM (!b)
noncomputable def cmp (op:CmpOp) (a b:M V):M Bool:=bindM a λu=>bindM b λv=>cmpM op u v
noncomputable def op2 (t:Bool) (op:Operator) (a b:M V):M V:=bindM a λu=>bindM b λv=>binM t op u v
noncomputable def idx (a b:M V):M V:=bindM a λu=>bindM b λv=>idxM u v
noncomputable def att (f:Fd) (a:M V):M V:=bindM a λu=>getA f u
noncomputable def tup (l:List (M V)):M V:=bindM (each l) tupM
noncomputable def lst (t:Bool) (l:List (M V)):M V:=bindM (each l) (lstM t)
noncomputable def exS (m:M V):M Fl:=bindM m λ_=>retM .next
noncomputable def rtS (m:M V):M Fl:=bindM m λv=>retM (.ret v)
noncomputable def raS (a b:M V):M Fl:=bindM a λ_=>bindM b λ_=>excM
noncomputable def asA (f:Fd) (o m:M V):M Fl:=bindM m λv=>bindM (bindM o λu=>setA f u v) λ_=>retM .next
noncomputable def asI (o i m:M V):M Fl:=bindM m λv=>bindM (bindM o λu=>bindM i λw=>putM u w v) λ_=>retM .next
noncomputable def stT (ks:List Nat) (v:V):M Unit:=asgTup ks.length v (asgs (ks.map st))
noncomputable def asT (ks:List Nat) (m:M V):M Fl:=bindM m λv=>bindM (stT ks v) λ_=>retM .next
noncomputable def aug (op:Operator) (k:Nat) (m:M V):M Fl:=bindM (ld k) λu=>bindM m λv=>bindM (augM op u v) λw=>bindM (st k w) λ_=>retM .next
noncomputable def cmpV (op:CmpOp) (a b:M V):M V:=bindM a λu=>bindM (bindM b λv=>cmpM op u v) λd=>retM (.bool d)
noncomputable def cmp2 (op op2:CmpOp) (a b c:M V):M Bool:=bindM a λu=>bindM b λv=>bindM (cmpM op u v) λd=>if d then bindM c λw=>cmpM op2 v w else retM false
noncomputable def andV (m k:M V):M V:=bindM m λv=>bindM (truthM v) λd=>if d then k else retM v
noncomputable def orV (m k:M V):M V:=bindM m λv=>bindM (truthM v) λd=>if d then retM v else k
noncomputable def trM (m:M V):M Bool:=bindM m truthM
noncomputable def emL (m:M V) (acc:Acc):M Acc:=bindM m λv=>emitL v acc
noncomputable def emD (a b:M V) (acc:Acc):M Acc:=bindM a λx=>bindM b λy=>emitD x y acc
noncomputable def srcE (m:M V):M Src:=bindM m srcM
noncomputable def enu (m:M (List V)):M Src:=bindM m enumM
noncomputable def mk (Φ:Tab) (b:Bi) (m:M (List V)):M V:=bindM m (callB Φ true b)
noncomputable def innerL (l:List (Option Nat)) (ρ:List (Option V)):Option (List (Option V)):=l.mapM λx=>match x with
  | some i=>(ρ[i]?).bind λo=>o.map some
  | none=>some none
noncomputable def inC {α:Type} (l:List (Option Nat)) (m:M α):M α:=λμ ρ=>match innerL l ρ with
  | some ρ'=>(match m μ ρ' with
    | .ok a μ' _=>.ok a μ' ρ
    | _=>.fail)
  | none=>.fail
noncomputable def comp (L:List (Option Nat)) (b t:Bool) (src:M Src) (turn:V->Acc->M Acc):M V:=bindM (keepM src) λs=>bindM (inC L (turnsM (stillM s.1) turn s.2 ([],[]))) (finM b t)
noncomputable def nest (src:M Src) (turn:V->Acc->M Acc) (a:Acc):M Acc:=bindM src λs=>turnsM (stillM s.1) turn s.2 a
noncomputable def loop (src:M Src) (body:V->M Fl):M Fl:=bindM src λs=>forM (stillM s.1) body s.2
noncomputable def W {α:Type} (m:M α) (Q:α->List O->List (Option V)->Prop) (X:List O->Prop) (μ:List O) (ρ:List (Option V)):Prop:=match m μ ρ with
  | .ok a μ' ρ'=>Q a μ' ρ'
  | .exc μ' _=>X μ'
  | .fail=>False
noncomputable def CRw (r:CR) (Q:V->List O->Prop) (X:List O->Prop):Prop:=match r with
  | .ok v μ'=>Q v μ'
  | .exc μ'=>X μ'
  | .fail=>False
section
variable {α β:Type} {Q:α->List O->List (Option V)->Prop} {Qf:Fl->List O->List (Option V)->Prop} {X:List O->Prop} {μ μ':List O} {ρ ρ':List (Option V)}
theorem ok_bind {m:M β} {f:β->M α} {a:β} {r:Res α} (h:m μ ρ=.ok a μ' ρ') (q:f a μ' ρ'=r):bindM m f μ ρ=r:=by
  unfold bindM
  rw [h]
  exact q
theorem W_bind {m:M β} {f:β->M α} (h:W m (λa μ ρ=>W (f a) Q X μ ρ) X μ ρ):W (bindM m f) Q X μ ρ:=by
  unfold W at h
  unfold W bindM
  cases e:m μ ρ <;> rw [e] at h <;> exact h
theorem W_e {m:M α} {a:α} (h:m μ ρ=.ok a μ' ρ') (q:Q a μ' ρ'):W m Q X μ ρ:=by unfold W;rw [h];exact q
theorem W_s {m:M β} {f:β->M α} {a:β} (h:m μ ρ=.ok a μ' ρ') (q:W (f a) Q X μ' ρ'):W (bindM m f) Q X μ ρ:=W_bind (W_e h q)
theorem W_x {m:M α} (h:m μ ρ=.exc μ' ρ') (q:X μ'):W m Q X μ ρ:=by unfold W;rw [h];exact q
theorem W_mono {m:M α} {Q':α->List O->List (Option V)->Prop} {X':List O->Prop} (h:W m Q' X' μ ρ) (hq:∀ a μ' ρ',Q' a μ' ρ'->Q a μ' ρ') (hx:∀ μ',X' μ'->X μ'):W m Q X μ ρ:=by
  unfold W at *
  cases e:m μ ρ <;> rw [e] at h
  · exact hq _ _ _ h
  · exact hx _ h
  · exact h
theorem W_call {Φ:Tab} {a:Addr} {args:List V} {Q:V->List O->List (Option V)->Prop} (h:CRw (Φ a args μ) (λv μ'=>Q v μ' ρ) X):W (callA Φ a args) Q X μ ρ:=by
  unfold CRw at h
  unfold W callA
  cases e:Φ a args μ <;> rw [e] at h <;> exact h
theorem W_cl {Φ:Tab} {a:Addr} {m:M (List V)} {args:List V} {Q:V->List O->List (Option V)->Prop} (e:m μ ρ=.ok args μ' ρ') (h:CRw (Φ a args μ') (λv μ'=>Q v μ' ρ') X):W (cl Φ a m) Q X μ ρ:=W_s e (W_call h)
theorem call_eq {Φ:Tab} {a:Addr} {args:List V} {v:V} (h:Φ a args μ=.ok v μ'):callA Φ a args μ ρ=.ok v μ' ρ:=by unfold callA;rw [h]
theorem W_sq {s k:M Fl} (h:W s (λf μ ρ=>W (seqFl k f) Qf X μ ρ) X μ ρ):W (sq s k) Qf X μ ρ:=W_bind h
theorem W_n {s k:M Fl} (h:s μ ρ=.ok .next μ' ρ') (q:W k Qf X μ' ρ'):W (sq s k) Qf X μ ρ:=W_s h q
theorem W_r {s k:M Fl} {v:V} (h:s μ ρ=.ok (.ret v) μ' ρ') (q:Qf (.ret v) μ' ρ'):W (sq s k) Qf X μ ρ:=W_s h q
theorem W_as {m:M V} {j:Nat} (h:W m (λv μ ρ=>Qf .next μ (ρ.set j (some v))) X μ ρ):W (asS j m) Qf X μ ρ:=W_bind h
theorem ok_as {m:M V} {j:Nat} {v:V} (h:m μ ρ=.ok v μ' ρ'):asS j m μ ρ=.ok .next μ' (ρ'.set j (some v)):=ok_bind h rfl
theorem W_nx {k:M Fl} (h:W k Qf X μ ρ):W (seqFl k .next) Qf X μ ρ:=h
theorem W_an {m:M V} {j:Nat} {k:M Fl} {v:V} (h:m μ ρ=.ok v μ' ρ') (q:W k Qf X μ' (ρ'.set j (some v))):W (sq (asS j m) k) Qf X μ ρ:=W_n (ok_as h) q
theorem W_aw {m:M V} {j:Nat} {k:M Fl} (h:W m (λv μ ρ=>W k Qf X μ (ρ.set j (some v))) X μ ρ):W (sq (asS j m) k) Qf X μ ρ:=W_sq (W_as h)
theorem W_if {t:M Bool} {a b:M α} {c:Bool} (h:t μ ρ=.ok c μ' ρ') (h1:c=true->W a Q X μ' ρ') (h2:c=false->W b Q X μ' ρ'):W (ifM t a b) Q X μ ρ:=W_s h (by cases c;exact h2 rfl;exact h1 rfl)
theorem W_t {t:M Bool} {a b:M α} (h:t μ ρ=.ok true μ' ρ') (h1:W a Q X μ' ρ'):W (ifM t a b) Q X μ ρ:=W_s h h1
theorem W_f {t:M Bool} {a b:M α} (h:t μ ρ=.ok false μ' ρ') (h1:W b Q X μ' ρ'):W (ifM t a b) Q X μ ρ:=W_s h h1
theorem ok_t {t:M Bool} {a b:M α} {r:Res α} (h:t μ ρ=.ok true μ' ρ') (h1:a μ' ρ'=r):ifM t a b μ ρ=r:=ok_bind h h1
theorem ok_f {t:M Bool} {a b:M α} {r:Res α} (h:t μ ρ=.ok false μ' ρ') (h1:b μ' ρ'=r):ifM t a b μ ρ=r:=ok_bind h h1
theorem tst {m:M Bool} {c d:Bool} (h:m μ ρ=.ok c μ' ρ') (e:c=d):m μ ρ=.ok d μ' ρ':=e▸h
theorem W_join {σ:Type} {s k:M Fl} (J:σ->List O->Prop) (P:σ->List (Option V)) (h:∀ Q:Fl->List O->List (Option V)->Prop,(∀ z μ',J z μ'->Q .next μ' (P z))->W s Q X μ ρ) (q:∀ z μ',J z μ'->W k Qf X μ' (P z)):W (sq s k) Qf X μ ρ:=W_sq (h _ λz μ' j=>q z μ' j)
theorem W_try {m h:M α} (hw:W m Q (λμ'=>∀ ρ',W h Q X μ' ρ') μ ρ):W (tryM m h) Q X μ ρ:=by
  unfold W at hw
  unfold W tryM
  cases e:m μ ρ with
  | ok=>rw [e] at hw;exact hw
  | exc=>rw [e] at hw;exact hw _
  | fail=>rw [e] at hw;exact hw
theorem and_ok {m k:M Bool} {a b:Bool} (h:m μ ρ=.ok a μ ρ) (hk:k μ ρ=.ok b μ ρ):andM m k μ ρ=.ok (a&&b) μ ρ:=ok_bind h (by cases a;rfl;exact hk)
theorem or_ok {m k:M Bool} {a b:Bool} (h:m μ ρ=.ok a μ ρ) (hk:k μ ρ=.ok b μ ρ):orM m k μ ρ=.ok (a||b) μ ρ:=ok_bind h (by cases a;exact hk;rfl)
theorem not_ok {m:M Bool} {a:Bool} (h:m μ ρ=.ok a μ' ρ'):notM m μ ρ=.ok (!a) μ' ρ':=ok_bind h rfl
theorem and1 {m:M Bool} {a:Bool} (h:m μ ρ=.ok a μ ρ):andM m (retM true) μ ρ=.ok a μ ρ:=ok_bind h (by cases a <;> rfl)
theorem or1 {m:M Bool} {a:Bool} (h:m μ ρ=.ok a μ ρ):orM m (retM false) μ ρ=.ok a μ ρ:=ok_bind h (by cases a <;> rfl)
theorem keep_ok {m:M α} {a:α} (h:m μ ρ=.ok a μ' ρ):keepM m μ ρ=.ok a μ' ρ:=by unfold keepM;rw [h];exact if_pos rfl
theorem gd_ok {c:Bool} {m:M α} {r:Res α} (hc:c=true) (h:m μ ρ=r):gd c m μ ρ=r:=by cases hc;exact h
theorem opt_ok {o:Option β} {k:β->M α} {a:β} {r:Res α} (h:o=some a) (q:k a μ ρ=r):opt o k μ ρ=r:=by cases h;exact q
theorem rd_ok {f:List O->Option α} {a:α} (h:f μ=some a):rdM f μ ρ=.ok a μ ρ:=by unfold rdM;rw [h]
theorem wr_ok {f:List O->Option (α×List O)} {a:α} (h:f μ=some (a,μ')):wrM f μ ρ=.ok a μ' ρ:=by unfold wrM;rw [h]
theorem ofOpt_ok {o:Option α} {a:α} (h:o=some a):ofOpt o μ ρ=.ok a μ ρ:=rd_ok h
end
section
variable {μ μ1 μ2 μ3:List O} {ρ ρ1 ρ2 ρ3:List (Option V)} {m1 m2 m3:M V} {a b c:V}
theorem each1 (h1:m1 μ ρ=.ok a μ1 ρ1):each [m1] μ ρ=.ok [a] μ1 ρ1:=ok_bind h1 rfl
theorem each2 (h1:m1 μ ρ=.ok a μ1 ρ1) (h2:m2 μ1 ρ1=.ok b μ2 ρ2):each [m1,m2] μ ρ=.ok [a,b] μ2 ρ2:=ok_bind h1 (ok_bind (each1 h2) rfl)
theorem each3 (h1:m1 μ ρ=.ok a μ1 ρ1) (h2:m2 μ1 ρ1=.ok b μ2 ρ2) (h3:m3 μ2 ρ2=.ok c μ3 ρ3):each [m1,m2,m3] μ ρ=.ok [a,b,c] μ3 ρ3:=ok_bind h1 (ok_bind (each2 h2 h3) rfl)
end
section
variable {X:List O->Prop}
theorem W_forB {γ σ:Type} {body:V->M Fl} {Q:Fl->List O->List (Option V)->Prop} {still:M Unit} {l:List γ} (f:γ->V) (J:List γ->σ->List O->Prop) (P:σ->List (Option V)) (B:σ->List O->Prop) (hs:∀ dn z μ ρ,J dn z μ->still μ ρ=.ok () μ ρ)
    (step:∀ dn x r z μ (Q':Fl->List O->List (Option V)->Prop),dn++x :: r=l->J dn z μ->(∀ z' μ',J (dn++[x]) z' μ'->Q' .next μ' (P z'))->(∀ z' μ',B z' μ'->Q' .brk μ' (P z'))->(∀ v z' μ',Q (.ret v) μ' (P z')->Q' (.ret v) μ' (P z'))->W (body (f x)) Q' X μ (P z))
    (brk:∀ z μ,B z μ->Q .next μ (P z)) (done:∀ z μ,J l z μ->Q .next μ (P z)):∀ (r dn:List γ) (z:σ) (μ:List O),dn++r=l->J dn z μ->W (forM still body (r.map f)) Q X μ (P z)
  | [],dn,z,μ,e,h=>W_s (hs _ _ _ _ h) (done z μ (by rw [←e,List.append_nil];exact h))
  | x :: r,dn,z,μ,e,h=>W_s (hs _ _ _ _ h) (W_bind (step dn x r z μ _ e h (λz' μ' j=>W_forB f J P B hs step brk done r (dn++[x]) z' μ' (by rw [List.append_assoc];exact e) j) (λz' μ' j=>brk z' μ' j) λv z' μ' q=>q))
theorem W_for {γ σ:Type} {body:V->M Fl} {Q:Fl->List O->List (Option V)->Prop} {still:M Unit} {l:List γ} (f:γ->V) (J:List γ->σ->List O->Prop) (P:σ->List (Option V)) (hs:∀ dn z μ ρ,J dn z μ->still μ ρ=.ok () μ ρ)
    (step:∀ dn x r z μ (Q':Fl->List O->List (Option V)->Prop),dn++x :: r=l->J dn z μ->(∀ z' μ',J (dn++[x]) z' μ'->Q' .next μ' (P z'))->W (body (f x)) Q' X μ (P z))
    (done:∀ z μ,J l z μ->Q .next μ (P z)) {z:σ} {μ:List O} (h:J [] z μ):W (forM still body (l.map f)) Q X μ (P z):=
  W_forB f J P (λ_ _=>False) hs (λdn x r z μ Q' e j n _ _=>step dn x r z μ Q' e j n) (λ_ _ h=>h.elim) done l [] z μ rfl h
theorem W_turns {γ σ:Type} {turn:V->Acc->M Acc} {Q:Acc->List O->List (Option V)->Prop} {still:M Unit} (f:γ->V) (J:List γ->Acc->List O->Prop) (P:σ->List (Option V)) (hs:∀ r a μ ρ,J r a μ->still μ ρ=.ok () μ ρ)
    (step:∀ x r a z μ (Q':Acc->List O->List (Option V)->Prop),J (x :: r) a μ->(∀ z' a' μ',J r a' μ'->Q' a' μ' (P z'))->W (turn (f x) a) Q' X μ (P z)) :
    ∀ (l:List γ) (a:Acc) (z:σ) (μ:List O),J l a μ->(∀ a z μ,J [] a μ->Q a μ (P z))->W (turnsM still turn (l.map f) a) Q X μ (P z)
  | [],a,z,μ,h,done=>W_s (hs _ _ _ _ h) (done a z μ h)
  | x :: r,a,z,μ,h,done=>W_s (hs _ _ _ _ h) (W_bind (step x r a z μ _ h λz' a' μ' j=>W_turns f J P hs step r a' z' μ' j done))
theorem W_while {σ:Type} {test:M Bool} {body:M Fl} {Q:Fl->List O->List (Option V)->Prop} (J:Nat->σ->List O->Prop) (P:σ->List (Option V))
    (step:∀ k z μ (Q':Bool->List O->List (Option V)->Prop),J k z μ->(∀ z' μ',(∀ Q'':Fl->List O->List (Option V)->Prop,(∀ k' z'' μ'',k'<k->J k' z'' μ''->Q'' .next μ'' (P z''))->W body Q'' X μ' (P z'))->Q' true μ' (P z'))->(∀ z' μ',Q .next μ' (P z')->Q' false μ' (P z'))->W test Q' X μ (P z)) :
    ∀ (fuel k:Nat) (z:σ) (μ:List O),k<fuel->J k z μ->W (whileM test body fuel) Q X μ (P z)
  | 0,k,_,_,h,_=>absurd h (Nat.not_lt_zero k)
  | fuel+1,k,z,μ,h,hi=>W_bind (step k z μ _ hi (λz' μ' hb=>W_bind (hb _ λk' z'' μ'' hk j=>W_while J P step fuel k' z'' μ'' (Nat.lt_of_lt_of_le hk (Nat.le_of_lt_succ h)) j)) λz' μ' q=>q)
theorem W_inC {α:Type} {L:List (Option Nat)} {m:M α} {Q:α->List O->List (Option V)->Prop} {μ:List O} {ρ ρ':List (Option V)} (e:innerL L ρ=some ρ') (h:W m (λa μ' _=>Q a μ' ρ) (λ_=>False) μ ρ'):W (inC L m) Q X μ ρ:=by
  unfold W at h
  unfold W inC
  rw [e]
  dsimp only
  cases e:m μ ρ' <;> rw [e] at h
  · exact h
  · exact h.elim
  · exact h
end
theorem turns_eq {α σ:Type} {turn:V->Acc->M Acc} {μ:List O} {st:M Unit} (hst:∀ ρ,st μ ρ=.ok () μ ρ) (g:α->V) (em:α->List V) (P:σ->List (Option V)):∀ (l:List α) (z:σ) (acc:List V),
    (∀ x∈l,∀ z acc,acc.length+(em x).length<=big->∃ z',turn (g x) (acc,[]) μ (P z)=.ok (acc++em x,[]) μ (P z'))->acc.length+(l.flatMap em).length<=big->∃ z',turnsM st turn (l.map g) (acc,[]) μ (P z)=.ok (acc++l.flatMap em,[]) μ (P z')
  | [],z,acc,_,_=>⟨z,ok_bind (hst _) (by rw [List.flatMap_nil,List.append_nil];rfl)⟩
  | x :: r,z,acc,h,hc=>by
    rw [List.flatMap_cons,List.length_append,←Nat.add_assoc] at hc
    obtain ⟨z1,e1⟩:=h x List.mem_cons_self z acc (Nat.le_trans (Nat.le_add_right _ _) hc)
    obtain ⟨z',e⟩:=turns_eq hst g em P r z1 (acc++em x) (λy m=>h y (List.mem_cons_of_mem _ m)) (by rw [List.length_append];exact hc)
    exact ⟨z',ok_bind (hst _) (ok_bind e1 (by rw [e,List.append_assoc,List.flatMap_cons]))⟩
theorem still_ok {μ:List O} {ρ:List (Option V)} {c:Option (Nat×List V)} (h:isStill μ c=true):stillM c μ ρ=.ok () μ ρ:=rd_ok (if_pos h)
theorem comp_list {α σ:Type} {L:List (Option Nat)} {t:Bool} {src:M Src} {turn:V->Acc->M Acc} {μ:List O} {ρ:List (Option V)} {c:Option (Nat×List V)} {l:List α} (g:α->V) (em:α->List V) (P:σ->List (Option V)) (z:σ) (hs:src μ ρ=.ok (c,l.map g) μ ρ) (hc:isStill μ c=true) (hi:innerL L ρ=some (P z))
    (step:∀ x∈l,∀ z acc,acc.length+(em x).length<=big->∃ z',turn (g x) (acc,[]) μ (P z)=.ok (acc++em x,[]) μ (P z')) (hcap:(l.flatMap em).length<=big):comp L true t src turn μ ρ=lstM t (l.flatMap em) μ ρ:=
  ok_bind (keep_ok hs) (ok_bind (a:=(l.flatMap em,[])) (by
    obtain ⟨z',e⟩:=turns_eq (λ_=>still_ok hc) g em P l z [] step (by rw [List.length_nil,Nat.zero_add];exact hcap)
    unfold inC
    rw [hi]
    dsimp only
    rw [e]
    rfl) rfl)
theorem flat_sing {α β:Type} (f:α->β):∀ l:List α,l.flatMap (λx=>[f x])=l.map f
  | []=>rfl
  | x :: l=>congrArg (f x :: ·) (flat_sing f l)
theorem flat_if {α β:Type} (p:α->Bool) (f:α->β):∀ l:List α,l.flatMap (λx=>if p x then [f x] else [])=(l.filter p).map f
  | []=>rfl
  | x :: l=>by
    rw [List.flatMap_cons,flat_if p f l,List.filter_cons]
    cases p x <;> rfl
theorem comp_map {α σ:Type} {L:List (Option Nat)} {t:Bool} {src:M Src} {turn:V->Acc->M Acc} {μ:List O} {ρ:List (Option V)} {c:Option (Nat×List V)} {l:List α} (g f:α->V) (P:σ->List (Option V)) (z:σ) (hs:src μ ρ=.ok (c,l.map g) μ ρ) (hc:isStill μ c=true) (hi:innerL L ρ=some (P z))
    (step:∀ x∈l,∀ z acc,acc.length+[f x].length<=big->∃ z',turn (g x) (acc,[]) μ (P z)=.ok (acc++[f x],[]) μ (P z')) (hcap:l.length<=big):comp L true t src turn μ ρ=lstM t (l.map f) μ ρ:=
  flat_sing f l▸comp_list g (λx=>[f x]) P z hs hc hi step (by rw [flat_sing,List.length_map];exact hcap)
theorem comp_filter {α σ:Type} {L:List (Option Nat)} {t:Bool} {src:M Src} {turn:V->Acc->M Acc} {μ:List O} {ρ:List (Option V)} {c:Option (Nat×List V)} {l:List α} (g f:α->V) (p:α->Bool) (P:σ->List (Option V)) (z:σ) (hs:src μ ρ=.ok (c,l.map g) μ ρ) (hc:isStill μ c=true) (hi:innerL L ρ=some (P z))
    (step:∀ x∈l,∀ z acc,acc.length+(if p x then [f x] else []).length<=big->∃ z',turn (g x) (acc,[]) μ (P z)=.ok (acc++if p x then [f x] else [],[]) μ (P z')) (hcap:l.length<=big):comp L true t src turn μ ρ=lstM t ((l.filter p).map f) μ ρ:=
  flat_if p f l▸comp_list g (λx=>if p x then [f x] else []) P z hs hc hi step (by rw [flat_if,List.length_map];exact Nat.le_trans (List.length_filter_le ..) hcap)
noncomputable abbrev FnL:=List (Addr×FnRec)
theorem crw_of {T:FnT} {n:Nat} {a:Addr} {f:FnRec} {args:List V} {ρ:List (Option V)} {p:Tab->M Fl} {Q:V->List O->Prop} {X:List O->Prop} {μ:List O} (hT:T a=some f) (e:∀ Φ,(body f.2.1).1 Φ f.2.2=p Φ) (hf:frameOf f args=some ρ)
    (h:W (p (phiT T n)) (λf μ' _=>Q f.val μ') X μ ρ):CRw (phiT T (n+1) a args μ) Q X:=by
  unfold phiT
  rw [hT]
  show CRw (runF _ _ _ _) Q X
  unfold runF
  rw [hf]
  dsimp only
  rw [e]
  unfold W at h
  unfold CRw
  cases hp:p (phiT T n) μ ρ <;> rw [hp] at h <;> exact h
theorem CRw.of_eq {r:CR} {v:V} {μ':List O} {Q:V->List O->Prop} {X:List O->Prop} (h:r=.ok v μ') (q:Q v μ'):CRw r Q X:=by rw [h];exact q
theorem CRw.eq {r:CR} {v:V} {μ':List O} (h:CRw r (λv' μ''=>v'=v/\μ''=μ') (λ_=>False)):r=.ok v μ':=by
  cases r with
  | ok=>exact h.1▸h.2▸rfl
  | exc=>exact h.elim
  | fail=>exact h.elim
theorem CRw_mono {r:CR} {Q Q':V->List O->Prop} {X X':List O->Prop} (h:CRw r Q' X') (hq:∀ a μ',Q' a μ'->Q a μ') (hx:∀ μ',X' μ'->X μ'):CRw r Q X:=by
  cases r
  · exact hq _ _ h
  · exact hx _ h
  · exact h
end
section
set_option maxRecDepth 100000
open PySem PySem.W PyProof.Rows
noncomputable def tabN:List (Addr×FnRec):=[(73,fnR "ends_of"),(80,fnR "plain_set"),(87,fnR "settled"),(94,fnR "has"),(101,fnR "numbers_in"),(108,fnR "size_of"),(227,fnR "take_exists"),(234,fnR "check_uid"),(239,fnR "take_fetch"),(246,fnR "place_gone"),(253,fnR "blur"),(260,fnR "drop_uid"),(267,fnR "uids_of"),(272,fnR "take_vanished"),(279,fnR "code_word"),(307,fnR "take_code"),(314,fnR "known_rows"),(321,fnR "begin_select"),(326,fnR "settle_rows"),(333,fnR "end_select"),(339,fnR "_law_ink"),(346,fnR "_law_digit"),(351,fnR "_law_longer"),(356,fnR "_law_spread"),(361,fnR "_law_behind"),(366,fnR "_law_left"),(371,fnR "_law_pairs"),(376,fnR "_law_told_of"),(381,fnR "_law_true"),(386,fnR "_law_untrue"),(393,fnR "_law_is_taken"),(398,fnR "_law_row_holds"),(403,fnR "_law_knows"),(408,fnR "law"),(165,meR "Held" "told"),(158,meR "Held" "is_whole"),(208,meR "Copy" "told"),(198,meR "Copy" "row"),(215,meR "Copy" "take"),(191,meR "Copy" "uids"),(203,meR "Copy" "missing"),(151,meR "Held" "__init__"),(186,meR "Copy" "__init__")]
noncomputable def tab:FnT:=λa=>tabN.lookup a
noncomputable def p73_0:M Fl:=sq (ifM (cmp .Eq (ld 3) (retM (.int 0))) (sq (asS 3 (ld 1)) (retM .next)) (retM .next)) (sq (rtS (tup [(bi false .min (each [(ld 2),(ld 3)])),(bi false .max (each [(ld 2),(ld 3)]))])) (retM .next))
noncomputable def p73_1:M Fl:=sq (ifM (cmp .Eq (ld 2) (retM (.int 0))) (sq (asS 2 (ld 1)) (retM .next)) (retM .next)) p73_0
noncomputable def p73_2:M Fl:=sq (ifM (andM (cmp .Eq (ld 1) (retM (.int 0))) (andM (orM (cmp .Eq (ld 2) (retM (.int 0))) (orM (cmp .Eq (ld 3) (retM (.int 0))) (retM false))) (retM true))) (sq (rtS (retM .none)) (retM .next)) (retM .next)) p73_1
noncomputable def p73_3:M Fl:=sq (asT [2,3] (ld 0)) p73_2
theorem g73 {n:Nat} {μ:List O} {a b:V} {Q:V->List O->Prop} {X:List O->Prop} (h:W (p73_3) (λf μ' _=>Q f.val μ') X μ [some a,some b,none,none]):CRw (phiT tab (n+1) 73 [a,b] μ) Q X:=crw_of (p:=λ_=>p73_3) rfl (λ_=>by kernel_rfl!) (by rfl) h
noncomputable def p80_0 (Φ:Tab):M Fl:=sq (asS 4 (cl Φ 73 (each [(ld 3),(ld 1)]))) (sq (ifM (cmp .IsNot (ld 4) (retM .none)) (sq (exS (meth Φ (ld 2) (Str.ofString "append") (each [(ld 4)]))) (retM .next)) (retM .next)) (retM .next))
noncomputable def b80_1 (Φ:Tab):V->M Fl:=λx=>bindM (st 3 x) λ_=>(p80_0 Φ)
noncomputable def b80_2 (Φ:Tab):V->M Fl:=λx=>bindM (stT [6,7] x) λ_=>(sq (ifM (andM (cmp .Gt (bi false .len (each [(ld 5)])) (retM (.int 0))) (andM (cmp .LtE (ld 6) (op2 false .Add (idx (idx (ld 5) (bindM (retM (.int 1)) (unM .USub))) (retM (.int 1))) (retM (.int 1)))) (retM true))) (sq (asI (ld 5) (bindM (retM (.int 1)) (unM .USub)) (tup [(idx (idx (ld 5) (bindM (retM (.int 1)) (unM .USub))) (retM (.int 0))),(bi false .max (each [(idx (idx (ld 5) (bindM (retM (.int 1)) (unM .USub))) (retM (.int 1))),(ld 7)]))])) (retM .next)) (sq (exS (meth Φ (ld 5) (Str.ofString "append") (each [(tup [(ld 6),(ld 7)])]))) (retM .next))) (retM .next))
noncomputable def p80_3 (Φ:Tab):M Fl:=sq (loop (srcE (ld 2)) (b80_2 Φ)) (sq (rtS (bi false .tTuple (each [(ld 5)]))) (retM .next))
noncomputable def p80_4 (Φ:Tab):M Fl:=sq (asS 5 (lst true [])) (p80_3 Φ)
noncomputable def p80_5 (Φ:Tab):M Fl:=sq (exS (meth Φ (ld 2) (Str.ofString "sort") (each []))) (p80_4 Φ)
noncomputable def p80_6 (Φ:Tab):M Fl:=sq (loop (srcE (ld 0)) (b80_1 Φ)) (p80_5 Φ)
noncomputable def p80_7 (Φ:Tab):M Fl:=sq (asS 2 (lst true [])) (p80_6 Φ)
theorem g80 {n:Nat} {μ:List O} {a b:V} {Q:V->List O->Prop} {X:List O->Prop} (h:W (p80_7 (phiT tab n)) (λf μ' _=>Q f.val μ') X μ [some a,some b,none,none,none,none,none,none]):CRw (phiT tab (n+1) 80 [a,b] μ) Q X:=crw_of (p:=p80_7) rfl (λ_=>by kernel_rfl!) (by rfl) h
noncomputable def b87_0:V->M Fl:=λx=>bindM (st 1 x) λ_=>(sq (ifM (orM (cmp .Eq (idx (idx (ld 0) (ld 1)) (retM (.int 0))) (retM (.int 0))) (orM (cmp .Eq (idx (idx (ld 0) (ld 1)) (retM (.int 1))) (retM (.int 0))) (retM false))) (sq failM (retM .next)) (retM .next)) (retM .next))
noncomputable def p87_1 (Φ:Tab):M Fl:=sq (loop (srcE (bi false .tRange (each [(bi false .len (each [(ld 0)]))]))) b87_0) (sq (rtS (cl Φ 80 (each [(ld 0),(retM (.int 0))]))) (retM .next))
theorem g87 {n:Nat} {μ:List O} {a:V} {Q:V->List O->Prop} {X:List O->Prop} (h:W (p87_1 (phiT tab n)) (λf μ' _=>Q f.val μ') X μ [some a,none]):CRw (phiT tab (n+1) 87 [a] μ) Q X:=crw_of (p:=p87_1) rfl (λ_=>by kernel_rfl!) (by rfl) h
noncomputable def b101_0 (Φ:Tab):V->M Fl:=λx=>bindM (stT [3,4] x) λ_=>(sq (exS (meth Φ (ld 2) (Str.ofString "extend") (each [(bi false .tRange (each [(ld 3),(op2 false .Add (bi false .min (each [(ld 4),(ld 1)])) (retM (.int 1)))]))]))) (retM .next))
noncomputable def p101_1 (Φ:Tab):M Fl:=sq (loop (srcE (cl Φ 80 (each [(ld 0),(ld 1)]))) (b101_0 Φ)) (sq (rtS (ld 2)) (retM .next))
noncomputable def p101_2 (Φ:Tab):M Fl:=sq (asS 2 (lst true [])) (p101_1 Φ)
theorem g101 {n:Nat} {μ:List O} {a b:V} {Q:V->List O->Prop} {X:List O->Prop} (h:W (p101_2 (phiT tab n)) (λf μ' _=>Q f.val μ') X μ [some a,some b,none,none,none]):CRw (phiT tab (n+1) 101 [a,b] μ) Q X:=crw_of (p:=p101_2) rfl (λ_=>by kernel_rfl!) (by rfl) h
noncomputable def b108_0:V->M Fl:=λx=>bindM (stT [2,3] x) λ_=>(sq (aug .Add 1 (op2 false .Add (op2 false .Sub (ld 3) (ld 2)) (retM (.int 1)))) (retM .next))
noncomputable def p108_1 (Φ:Tab):M Fl:=sq (loop (srcE (cl Φ 87 (each [(ld 0)]))) b108_0) (sq (rtS (ld 1)) (retM .next))
noncomputable def p108_2 (Φ:Tab):M Fl:=sq (asS 1 (retM (.int 0))) (p108_1 Φ)
theorem g108 {n:Nat} {μ:List O} {a:V} {Q:V->List O->Prop} {X:List O->Prop} (h:W (p108_2 (phiT tab n)) (λf μ' _=>Q f.val μ') X μ [some a,none,none,none]):CRw (phiT tab (n+1) 108 [a] μ) Q X:=crw_of (p:=p108_2) rfl (λ_=>by kernel_rfl!) (by rfl) h
noncomputable def c227_0 (Φ:Tab):V->Acc->M Acc:=λx a=>bindM (st 1 x) λ_=>emL (bindM (each []) (callB Φ false .cHeld)) a
noncomputable def p227_1 (Φ:Tab):M Fl:=sq (asA .rows (ld 0) (comp [none,none] true true (srcE (bi false .tRange (each [(ld 1)]))) (c227_0 Φ))) (sq (retM (.ret .none)) (retM .next))
noncomputable def c227_2 (Φ:Tab):V->Acc->M Acc:=λx a=>bindM (st 1 x) λ_=>emL (bindM (each []) (callB Φ false .cHeld)) a
noncomputable def p227_3 (Φ:Tab):M Fl:=sq (ifM (cmp .Lt (ld 1) (bi false .len (each [(att .rows (ld 0))]))) (sq (raS (retM (.str (Str.ofString "letters are gone without a word"))) (ld 1)) (retM .next)) (retM .next)) (sq (asA .rows (ld 0) (op2 true .Add (att .rows (ld 0)) (comp [none,none] true false (srcE (bi false .tRange (each [(op2 false .Sub (ld 1) (bi false .len (each [(att .rows (ld 0))])))]))) (c227_2 Φ)))) (retM .next))
noncomputable def p227_4 (Φ:Tab):M Fl:=sq (ifM (andM (trM (att .is_opening (ld 0))) (andM (cmp .Eq (bi false .len (each [(att .rows (ld 0))])) (retM (.int 0))) (retM true))) (p227_1 Φ) (retM .next)) (p227_3 Φ)
theorem g227 {n:Nat} {μ:List O} {a b:V} {Q:V->List O->Prop} {X:List O->Prop} (h:W (p227_4 (phiT tab n)) (λf μ' _=>Q f.val μ') X μ [some a,some b]):CRw (phiT tab (n+1) 227 [a,b] μ) Q X:=crw_of (p:=p227_4) rfl (λ_=>by kernel_rfl!) (by rfl) h
noncomputable def p234_0:M Fl:=sq (ifM (andM (cmp .Gt (ld 4) (retM (.int 0))) (andM (cmp .Eq (ld 3) (op2 false .Sub (ld 1) (retM (.int 1)))) (andM (cmp .NotEq (ld 4) (ld 2)) (retM true)))) (sq (raS (retM (.str (Str.ofString "another uid for a letter"))) (ld 1)) (retM .next)) (retM .next)) (sq (ifM (orM (andM (cmp .Gt (ld 4) (retM (.int 0))) (andM (cmp .Lt (ld 3) (op2 false .Sub (ld 1) (retM (.int 1)))) (andM (cmp .GtE (ld 4) (ld 2)) (retM true)))) (orM (andM (cmp2 .Lt .LtE (retM (.int 0)) (ld 4) (ld 2)) (andM (cmp .Gt (ld 3) (op2 false .Sub (ld 1) (retM (.int 1)))) (retM true))) (retM false))) (sq (raS (retM (.str (Str.ofString "uids do not ascend"))) (ld 1)) (retM .next)) (retM .next)) (retM .next))
noncomputable def p234_1:M Fl:=sq (asS 4 (att .uid (idx (att .rows (ld 0)) (ld 3)))) p234_0
noncomputable def b234_2:V->M Fl:=λx=>bindM (st 3 x) λ_=>p234_1
noncomputable def p234 (Φ:Tab):M Fl:=(sq (loop (srcE (bi false .tRange (each [(bi false .len (each [(att .rows (ld 0))]))]))) b234_2) (retM .next))
theorem g234 {n:Nat} {μ:List O} {a b c:V} {Q:V->List O->Prop} {X:List O->Prop} (h:W (p234 (phiT tab n)) (λf μ' _=>Q f.val μ') X μ [some a,some b,some c,none,none]):CRw (phiT tab (n+1) 234 [a,b,c] μ) Q X:=crw_of (p:=p234) rfl (λ_=>by kernel_rfl!) (by rfl) h
noncomputable def p239_0 (Φ:Tab):M Fl:=sq (exS (cl Φ 234 (each [(ld 0),(ld 1),(idx (ld 4) (retM (.str (Str.ofString "UID"))))]))) (sq (asA .uid (ld 3) (idx (ld 4) (retM (.str (Str.ofString "UID"))))) (retM .next))
noncomputable def c239_1:V->Acc->M Acc:=λx a=>bindM (st 1 x) λ_=>emL (att .text (ld 1)) a
noncomputable def p239_2:M Fl:=sq (asA .flags (ld 3) (bi false .tTuple (each [(bi false .sorted (each [(comp [none,none] true false (srcE (idx (ld 4) (retM (.str (Str.ofString "FLAGS"))))) c239_1)]))]))) (sq (asA .modseq (ld 3) (retM (.int 0))) (retM .next))
noncomputable def p239_3:M Fl:=sq (ifM (cmp .In (retM (.str (Str.ofString "FLAGS"))) (ld 4)) p239_2 (retM .next)) (sq (ifM (cmp .In (retM (.str (Str.ofString "MODSEQ"))) (ld 4)) (sq (asA .modseq (ld 3) (idx (idx (ld 4) (retM (.str (Str.ofString "MODSEQ")))) (retM (.int 0)))) (retM .next)) (retM .next)) (retM .next))
noncomputable def p239_4 (Φ:Tab):M Fl:=sq (ifM (cmp .In (retM (.str (Str.ofString "UID"))) (ld 4)) (p239_0 Φ) (retM .next)) p239_3
noncomputable def p239_5 (Φ:Tab):M Fl:=sq (asS 4 (bi false .tDict (each [(ld 2)]))) (p239_4 Φ)
noncomputable def p239_6 (Φ:Tab):M Fl:=sq (asS 3 (meth Φ (ld 0) (Str.ofString "row") (each [(ld 1)]))) (p239_5 Φ)
theorem g239 {n:Nat} {μ:List O} {a b c:V} {Q:V->List O->Prop} {X:List O->Prop} (h:W (p239_6 (phiT tab n)) (λf μ' _=>Q f.val μ') X μ [some a,some b,some c,none,none]):CRw (phiT tab (n+1) 239 [a,b,c] μ) Q X:=crw_of (p:=p239_6) rfl (λ_=>by kernel_rfl!) (by rfl) h
noncomputable def p246_0:M Fl:=sq (ifM (cmp .Gt (ld 4) (ld 1)) (sq (retM .brk) (retM .next)) (retM .next)) (sq (asS 2 (ifM (cmp .Eq (ld 4) (retM (.int 0))) (ld 3) (bindM (retM (.int 1)) (unM .USub)))) (retM .next))
noncomputable def p246_1:M Fl:=sq (ifM (cmp .Eq (ld 4) (ld 1)) (sq (rtS (ld 3)) (retM .next)) (retM .next)) p246_0
noncomputable def p246_2:M Fl:=sq (asS 4 (att .uid (idx (att .rows (ld 0)) (ld 3)))) p246_1
noncomputable def b246_3:V->M Fl:=λx=>bindM (st 3 x) λ_=>p246_2
noncomputable def p246_4:M Fl:=sq (ifM (cmp .Lt (ld 2) (retM (.int 0))) (sq (raS (retM (.str (Str.ofString "a letter vanished that is not held"))) (ld 1)) (retM .next)) (retM .next)) (sq (rtS (ld 2)) (retM .next))
noncomputable def p246_5:M Fl:=sq (loop (srcE (bi false .tRange (each [(bi false .len (each [(att .rows (ld 0))]))]))) b246_3) p246_4
noncomputable def p246_6:M Fl:=sq (asS 2 (bindM (retM (.int 1)) (unM .USub))) p246_5
theorem g246 {n:Nat} {μ:List O} {a b:V} {Q:V->List O->Prop} {X:List O->Prop} (h:W (p246_6) (λf μ' _=>Q f.val μ') X μ [some a,some b,none,none,none]):CRw (phiT tab (n+1) 246 [a,b] μ) Q X:=crw_of (p:=λ_=>p246_6) rfl (λ_=>by kernel_rfl!) (by rfl) h
noncomputable def t253_0:M Bool:=(andM (cmp .Gt (ld 2) (retM (.int 0))) (andM (cmp .Eq (att .uid (idx (att .rows (ld 0)) (op2 false .Sub (ld 2) (retM (.int 1))))) (retM (.int 0))) (retM true)))
noncomputable def b253_1:M Fl:=(sq (aug .Sub 2 (retM (.int 1))) (retM .next))
noncomputable def t253_2:M Bool:=(andM (cmp .Lt (ld 2) (bi false .len (each [(att .rows (ld 0))]))) (andM (cmp .Eq (att .uid (idx (att .rows (ld 0)) (ld 2))) (retM (.int 0))) (retM true)))
noncomputable def p253_3 (Φ:Tab):M Fl:=sq (asI (att .rows (ld 0)) (ld 2) (bindM (each []) (callB Φ false .cHeld))) (sq (aug .Add 2 (retM (.int 1))) (retM .next))
noncomputable def b253_4 (Φ:Tab):M Fl:=(p253_3 Φ)
noncomputable def p253_5 (Φ:Tab):M Fl:=sq (whileM t253_0 b253_1 1000) (sq (whileM t253_2 (b253_4 Φ) 1000) (retM .next))
noncomputable def p253_6 (Φ:Tab):M Fl:=sq (asS 2 (ld 1)) (p253_5 Φ)
theorem g253 {n:Nat} {μ:List O} {a b:V} {Q:V->List O->Prop} {X:List O->Prop} (h:W (p253_6 (phiT tab n)) (λf μ' _=>Q f.val μ') X μ [some a,some b,none]):CRw (phiT tab (n+1) 253 [a,b] μ) Q X:=crw_of (p:=p253_6) rfl (λ_=>by kernel_rfl!) (by rfl) h
noncomputable def p260_0 (Φ:Tab):M Fl:=sq (ifM (cmp .Eq (att .uid (idx (att .rows (ld 0)) (ld 2))) (retM (.int 0))) (sq (exS (cl Φ 253 (each [(ld 0),(ld 2)]))) (retM .next)) (retM .next)) (sq (asA .rows (ld 0) (op2 true .Add (bindM (att .rows (ld 0)) λu=>bindM (ld 2) (sliceHi true u)) (bindM (att .rows (ld 0)) λu=>bindM (op2 false .Add (ld 2) (retM (.int 1))) (sliceLo false u)))) (retM .next))
noncomputable def p260_1 (Φ:Tab):M Fl:=sq (asS 2 (cl Φ 246 (each [(ld 0),(ld 1)]))) (p260_0 Φ)
theorem g260 {n:Nat} {μ:List O} {a b:V} {Q:V->List O->Prop} {X:List O->Prop} (h:W (p260_1 (phiT tab n)) (λf μ' _=>Q f.val μ') X μ [some a,some b,none]):CRw (phiT tab (n+1) 260 [a,b] μ) Q X:=crw_of (p:=p260_1) rfl (λ_=>by kernel_rfl!) (by rfl) h
noncomputable def p267_0 (Φ:Tab):M Fl:=sq (ifM (cmp .Eq (bi false .len (each [(ld 1)])) (retM (.int 0))) (sq (rtS (lst false [])) (retM .next)) (retM .next)) (sq (rtS (cl Φ 101 (each [(ld 1),(idx (idx (ld 1) (bindM (retM (.int 1)) (unM .USub))) (retM (.int 1)))]))) (retM .next))
noncomputable def p267_1 (Φ:Tab):M Fl:=sq (asS 1 (cl Φ 80 (each [(ld 0),(retM (.int 0))]))) (p267_0 Φ)
theorem g267 {n:Nat} {μ:List O} {a:V} {Q:V->List O->Prop} {X:List O->Prop} (h:W (p267_1 (phiT tab n)) (λf μ' _=>Q f.val μ') X μ [some a,none]):CRw (phiT tab (n+1) 267 [a] μ) Q X:=crw_of (p:=p267_1) rfl (λ_=>by kernel_rfl!) (by rfl) h
noncomputable def c272_0 (Φ:Tab):V->Acc->M Acc:=λx a=>bindM (st 1 x) λ_=>ifM (andM (notM (trM (cl Φ 94 (each [(ld 3),(ld 1),(retM (.int 0))])))) (retM true)) (emL (tup [(ld 1),(idx (att .kept (ld 2)) (ld 1))]) a) (retM a)
noncomputable def p272_1 (Φ:Tab):M Fl:=sq (asA .kept (ld 0) (bi false .tDict (each [(comp [none,none,some 0,some 1] true false (srcE (att .kept (ld 0))) (c272_0 Φ))]))) (sq (retM (.ret .none)) (retM .next))
noncomputable def b272_2 (Φ:Tab):V->M Fl:=λx=>bindM (st 3 x) λ_=>(sq (exS (cl Φ 260 (each [(ld 0),(ld 3)]))) (retM .next))
noncomputable def p272_3 (Φ:Tab):M Fl:=sq (ifM (cmp .Gt (cl Φ 108 (each [(ld 1)])) (bi false .len (each [(att .rows (ld 0))]))) (sq (raS (retM (.str (Str.ofString "more letters vanished than there are"))) (cl Φ 108 (each [(ld 1)]))) (retM .next)) (retM .next)) (sq (loop (srcE (cl Φ 267 (each [(ld 1)]))) (b272_2 Φ)) (retM .next))
noncomputable def p272_4 (Φ:Tab):M Fl:=sq (ifM (trM (ld 2)) (p272_1 Φ) (retM .next)) (p272_3 Φ)
theorem g272 {n:Nat} {μ:List O} {a b c:V} {Q:V->List O->Prop} {X:List O->Prop} (h:W (p272_4 (phiT tab n)) (λf μ' _=>Q f.val μ') X μ [some a,some b,some c,none]):CRw (phiT tab (n+1) 272 [a,b,c] μ) Q X:=crw_of (p:=p272_4) rfl (λ_=>by kernel_rfl!) (by rfl) h
noncomputable def p279_0:M Fl:=sq (ifM (orM (cmp .Is (ld 0) (retM .none)) (orM (cmp .Eq (bi false .len (each [(ld 0)])) (retM (.int 0))) (orM (notM (trM failM)) (retM false)))) (sq (rtS (retM (.str (Str.ofString "")))) (retM .next)) (retM .next)) (sq (rtS (att .text (idx (ld 0) (retM (.int 0))))) (retM .next))
theorem g279 {n:Nat} {μ:List O} {a:V} {Q:V->List O->Prop} {X:List O->Prop} (h:W (p279_0) (λf μ' _=>Q f.val μ') X μ [some a]):CRw (phiT tab (n+1) 279 [a] μ) Q X:=crw_of (p:=λ_=>p279_0) rfl (λ_=>by kernel_rfl!) (by rfl) h
noncomputable def p307_0 (Φ:Tab):M Fl:=sq (asS 3 (cl Φ 279 (each [(ld 2)]))) (sq (ifM (cmp .Eq (ld 3) (retM (.str (Str.ofString "UIDVALIDITY")))) (sq (exS failM) (retM .next)) (sq (ifM (cmp .Eq (ld 3) (retM (.str (Str.ofString "UIDNEXT")))) (sq (asA .next_uid (ld 0) failM) (retM .next)) (sq (ifM (cmp .Eq (ld 3) (retM (.str (Str.ofString "HIGHESTMODSEQ")))) (sq (exS failM) (retM .next)) (sq (ifM (orM (cmp .Eq (ld 3) (retM (.str (Str.ofString "READ-ONLY")))) (orM (cmp .Eq (ld 3) (retM (.str (Str.ofString "READ-WRITE")))) (retM false))) (sq (asA .is_readonly (ld 0) (cmpV .Eq (ld 3) (retM (.str (Str.ofString "READ-ONLY"))))) (retM .next)) (retM .next)) (retM .next))) (retM .next))) (retM .next))) (retM .next))
theorem g307 {n:Nat} {μ:List O} {a b c:V} {Q:V->List O->Prop} {X:List O->Prop} (h:W (p307_0 (phiT tab n)) (λf μ' _=>Q f.val μ') X μ [some a,some b,some c,none]):CRw (phiT tab (n+1) 307 [a,b,c] μ) Q X:=crw_of (p:=p307_0) rfl (λ_=>by kernel_rfl!) (by rfl) h
noncomputable def b314_0:V->M Fl:=λx=>bindM (st 2 x) λ_=>(sq (asI (ld 1) (ld 2) (idx (att .kept (ld 0)) (ld 2))) (retM .next))
noncomputable def b314_1 (Φ:Tab):V->M Fl:=λx=>bindM (st 3 x) λ_=>(sq (ifM (trM (meth Φ (ld 3) (Str.ofString "is_whole") (each []))) (sq (asI (ld 1) (att .uid (ld 3)) (ld 3)) (retM .next)) (retM .next)) (retM .next))
noncomputable def p314_2 (Φ:Tab):M Fl:=sq (loop (srcE (att .rows (ld 0))) (b314_1 Φ)) (sq (rtS (ld 1)) (retM .next))
noncomputable def p314_3 (Φ:Tab):M Fl:=sq (loop (srcE (att .kept (ld 0))) b314_0) (p314_2 Φ)
noncomputable def p314_4 (Φ:Tab):M Fl:=sq (asS 1 (dctM false [] [])) (p314_3 Φ)
theorem g314 {n:Nat} {μ:List O} {a:V} {Q:V->List O->Prop} {X:List O->Prop} (h:W (p314_4 (phiT tab n)) (λf μ' _=>Q f.val μ') X μ [some a,none,none,none]):CRw (phiT tab (n+1) 314 [a] μ) Q X:=crw_of (p:=p314_4) rfl (λ_=>by kernel_rfl!) (by rfl) h
noncomputable def p321_0:M Fl:=sq (asA .next_uid (ld 0) (retM (.int 0))) (sq (asA .top (ld 0) (retM (.int 0))) (retM .next))
noncomputable def p321_1:M Fl:=sq (asA .validity (ld 0) (retM (.int 0))) p321_0
noncomputable def p321_2:M Fl:=sq (asA .box (ld 0) (ld 1)) p321_1
noncomputable def p321_3:M Fl:=sq (asA .coming_top (ld 0) (retM (.int 0))) (sq (asA .is_opening (ld 0) (retM (.bool true))) (retM .next))
noncomputable def p321_4:M Fl:=sq (asA .rows (ld 0) (lst true [])) p321_3
noncomputable def p321_5:M Fl:=sq (ifM (notM (trM (ld 2))) p321_2 (retM .next)) p321_4
noncomputable def p321_6 (Φ:Tab):M Fl:=sq (asA .kept (ld 0) (ifM (trM (ld 2)) (cl Φ 314 (each [(ld 0)])) (dctM false [] []))) p321_5
theorem g321 {n:Nat} {μ:List O} {a b c:V} {Q:V->List O->Prop} {X:List O->Prop} (h:W (p321_6 (phiT tab n)) (λf μ' _=>Q f.val μ') X μ [some a,some b,some c]):CRw (phiT tab (n+1) 321 [a,b,c] μ) Q X:=crw_of (p:=p321_6) rfl (λ_=>by kernel_rfl!) (by rfl) h
noncomputable def b326_0:V->M Fl:=λx=>bindM (st 3 x) λ_=>(sq (ifM (andM (cmp .Gt (att .uid (idx (att .rows (ld 0)) (ld 3))) (retM (.int 0))) (andM (cmp .NotEq (att .uid (idx (att .rows (ld 0)) (ld 3))) (idx (ld 2) (ld 3))) (retM true))) (sq (raS (retM (.str (Str.ofString "another uid for a letter"))) (op2 false .Add (ld 3) (retM (.int 1)))) (retM .next)) (retM .next)) (retM .next))
noncomputable def c326_1:V->Acc->M Acc:=λx a=>bindM (st 1 x) λ_=>emL (idx (ld 2) (ld 1)) a
noncomputable def p326_2:M Fl:=sq (loop (srcE (bi false .tRange (each [(bi false .len (each [(ld 2)]))]))) b326_0) (sq (asA .rows (ld 0) (comp [none,none,some 1] true true (srcE (ld 2)) c326_1)) (retM .next))
noncomputable def p326_3:M Fl:=sq (ifM (cmp .Lt (bi false .len (each [(ld 2)])) (bi false .len (each [(att .rows (ld 0))]))) (sq (retM (.ret .none)) (retM .next)) (retM .next)) p326_2
noncomputable def p326_4:M Fl:=sq (ifM (cmp .Gt (bi false .len (each [(ld 2)])) (bi false .len (each [(att .rows (ld 0))]))) (sq (raS (retM (.str (Str.ofString "more letters are held than there are"))) (bi false .len (each [(ld 2)]))) (retM .next)) (retM .next)) p326_3
noncomputable def p326_5:M Fl:=sq (asS 2 (bi false .sorted (each [(ld 1)]))) p326_4
noncomputable def p326_6 (Φ:Tab):M Fl:=sq (asS 1 (cl Φ 314 (each [(ld 0)]))) p326_5
theorem g326 {n:Nat} {μ:List O} {a:V} {Q:V->List O->Prop} {X:List O->Prop} (h:W (p326_6 (phiT tab n)) (λf μ' _=>Q f.val μ') X μ [some a,none,none,none]):CRw (phiT tab (n+1) 326 [a] μ) Q X:=crw_of (p:=p326_6) rfl (λ_=>by kernel_rfl!) (by rfl) h
noncomputable def p333_0:M Fl:=sq (asA .is_opening (ld 0) (retM (.bool false))) (sq (retM (.ret .none)) (retM .next))
noncomputable def p333_1 (Φ:Tab):M Fl:=sq (exS (cl Φ 321 (each [(ld 0),(retM (.str (Str.ofString ""))),(retM (.bool false))]))) p333_0
noncomputable def p333_2:M Fl:=sq (asA .kept (ld 0) (dctM false [] [])) (sq (asA .top (ld 0) (att .coming_top (ld 0))) (retM .next))
noncomputable def p333_3 (Φ:Tab):M Fl:=sq (exS (cl Φ 326 (each [(ld 0)]))) p333_2
noncomputable def p333_4 (Φ:Tab):M Fl:=sq (ifM (notM (trM (ld 1))) (p333_1 Φ) (retM .next)) (p333_3 Φ)
noncomputable def p333_5 (Φ:Tab):M Fl:=sq (asA .is_opening (ld 0) (retM (.bool false))) (p333_4 Φ)
theorem g333 {n:Nat} {μ:List O} {a b:V} {Q:V->List O->Prop} {X:List O->Prop} (h:W (p333_5 (phiT tab n)) (λf μ' _=>Q f.val μ') X μ [some a,some b]):CRw (phiT tab (n+1) 333 [a,b] μ) Q X:=crw_of (p:=p333_5) rfl (λ_=>by kernel_rfl!) (by rfl) h
noncomputable def c339_0:V->Acc->M Acc:=λx a=>bindM (st 1 x) λ_=>emL (op2 false .Mod (bi false .abs (each [(bi false .tInt (each [(ld 1)]))])) (op2 false .Pow (retM (.int 10)) (retM (.int 60)))) a
noncomputable def p339 (Φ:Tab):M Fl:=(sq (rtS (lst true [(comp [none,none] true true (srcE (bindM (ld 0) λu=>bindM (retM (.int 36)) (sliceHi false u))) c339_0),(op2 false .Add (retM (.int 1)) (op2 false .Mod (bi false .len (each [(ld 0)])) (retM (.int 1000))))])) (retM .next))
theorem g339 {n:Nat} {μ:List O} {a:V} {Q:V->List O->Prop} {X:List O->Prop} (h:W (p339 (phiT tab n)) (λf μ' _=>Q f.val μ') X μ [some a]):CRw (phiT tab (n+1) 339 [a] μ) Q X:=crw_of (p:=p339) rfl (λ_=>by kernel_rfl!) (by rfl) h
noncomputable def p346_0:M Fl:=sq (asI (ld 0) (retM (.int 1)) (op2 false .Mod (op2 false .Add (op2 false .Mult (idx (ld 0) (retM (.int 1))) (retM (.int 211))) (retM (.int 37))) (retM (.int 30269)))) (sq (rtS (op2 false .Mod (op2 false .FloorDiv (idx (ld 0) (retM (.int 1))) (retM (.int 3))) (ld 1))) (retM .next))
noncomputable def p346_1 (Φ:Tab):M Fl:=sq (ifM (cmp .Lt (ld 2) (ld 1)) (sq (exS (meth Φ (idx (ld 0) (retM (.int 0))) (Str.ofString "pop") (each [(retM (.int 0))]))) (retM .next)) (sq (asI (idx (ld 0) (retM (.int 0))) (retM (.int 0)) (op2 false .FloorDiv (ld 2) (ld 1))) (retM .next))) (sq (rtS (op2 false .Mod (ld 2) (ld 1))) (retM .next))
noncomputable def p346_2 (Φ:Tab):M Fl:=sq (asS 2 (idx (idx (ld 0) (retM (.int 0))) (retM (.int 0)))) (p346_1 Φ)
noncomputable def p346_3 (Φ:Tab):M Fl:=sq (ifM (cmp .Eq (idx (ld 0) (retM (.int 0))) (lst false [])) p346_0 (retM .next)) (p346_2 Φ)
theorem g346 {n:Nat} {μ:List O} {a b:V} {Q:V->List O->Prop} {X:List O->Prop} (h:W (p346_3 (phiT tab n)) (λf μ' _=>Q f.val μ') X μ [some a,some b,none]):CRw (phiT tab (n+1) 346 [a,b] μ) Q X:=crw_of (p:=p346_3) rfl (λ_=>by kernel_rfl!) (by rfl) h
noncomputable def c351_0:V->Acc->M Acc:=λx a=>bindM (st 2 x) λ_=>emL (op2 false .Add (ld 1) (tup [(tup [(ld 2),(retM .none),(retM (.int 0))])])) a
noncomputable def c351_1:V->Acc->M Acc:=λx a=>bindM (st 1 x) λ_=>nest (srcE (bi false .tRange (each [(op2 false .Add (retM (.int 1)) (ifM (cmp .NotEq (ld 1) (tup [])) (idx (idx (ld 1) (bindM (retM (.int 1)) (unM .USub))) (retM (.int 0))) (retM (.int 0)))),(retM (.int 9))]))) c351_0 a
noncomputable def p351 (Φ:Tab):M Fl:=(sq (rtS (comp [none,none,none] true false (srcE (ld 0)) c351_1)) (retM .next))
theorem g351 {n:Nat} {μ:List O} {a:V} {Q:V->List O->Prop} {X:List O->Prop} (h:W (p351 (phiT tab n)) (λf μ' _=>Q f.val μ') X μ [some a]):CRw (phiT tab (n+1) 351 [a] μ) Q X:=crw_of (p:=p351) rfl (λ_=>by kernel_rfl!) (by rfl) h
noncomputable def c356_0:V->Acc->M Acc:=λx a=>bindM (st 2 x) λ_=>emL (ld 2) a
noncomputable def c356_1:V->Acc->M Acc:=λx a=>bindM (st 1 x) λ_=>nest (srcE (bi false .tRange (each [(bi false .min (each [(ld 1)])),(op2 false .Add (bi false .max (each [(ld 1)])) (retM (.int 1)))]))) c356_0 a
noncomputable def p356 (Φ:Tab):M Fl:=(sq (rtS (comp [none,none,none] true false (srcE (ld 0)) c356_1)) (retM .next))
theorem g356 {n:Nat} {μ:List O} {a:V} {Q:V->List O->Prop} {X:List O->Prop} (h:W (p356 (phiT tab n)) (λf μ' _=>Q f.val μ') X μ [some a]):CRw (phiT tab (n+1) 356 [a] μ) Q X:=crw_of (p:=p356) rfl (λ_=>by kernel_rfl!) (by rfl) h
noncomputable def b361_0 (Φ:Tab):V->M Fl:=λx=>bindM (st 4 x) λ_=>(sq (asS 3 (cl Φ 351 (each [(ld 3)]))) (retM .next))
noncomputable def p361_1 (Φ:Tab):M Fl:=sq (loop (srcE (bi false .tRange (each [(op2 false .Sub (idx (ld 1) (retM (.int 1))) (bi false .len (each [(ld 0)])))]))) (b361_0 Φ)) (sq (rtS (ifM (cmp .GtE (idx (ld 1) (retM (.int 1))) (bi false .len (each [(ld 0)]))) (ld 3) (lst false []))) (retM .next))
noncomputable def c361_2:V->Acc->M Acc:=λx a=>bindM (st 1 x) λ_=>emL (idx (ld 1) (retM (.int 0))) a
noncomputable def c361_3:V->Acc->M Acc:=λx a=>bindM (st 1 x) λ_=>ifM (andM (cmp .NotIn (idx (ld 1) (retM (.int 0))) (ld 2)) (retM true)) (emL (ld 1) a) (retM a)
noncomputable def c361_4:V->Acc->M Acc:=λx a=>bindM (st 1 x) λ_=>ifM (andM (cmp .NotIn (ld 1) (ld 2)) (retM true)) (emL (ld 1) a) (retM a)
noncomputable def p361_5:M Fl:=sq (asS 8 (bi false .tTuple (each [(comp [none,none,some 6] true false (srcE (ld 0)) c361_3)]))) (sq (rtS (ifM (cmp .Eq (comp [none,none,some 7] true false (srcE (ld 6)) c361_4) (lst false [])) (lst false [(ld 8)]) (lst false []))) (retM .next))
noncomputable def p361_6 (Φ:Tab):M Fl:=sq (asT [6,7] (tup [(cl Φ 356 (each [(idx (ld 1) (retM (.int 1)))])),(comp [none,none] true false (srcE (ld 0)) c361_2)])) p361_5
noncomputable def c361_7:V->Acc->M Acc:=λx a=>bindM (st 1 x) λ_=>emL (att .text (ld 1)) a
noncomputable def p361_8 (Φ:Tab):M Fl:=sq (ifM (cmp .In (retM (.str (Str.ofString "MODSEQ"))) (ld 10)) (sq (asI (ld 5) (retM (.int 2)) (idx (idx (ld 10) (retM (.str (Str.ofString "MODSEQ")))) (retM (.int 0)))) (retM .next)) (retM .next)) (sq (rtS (ifM (cmp .Eq (meth Φ (ld 10) (Str.ofString "get") (each [(retM (.str (Str.ofString "UID"))),(idx (ld 5) (retM (.int 0)))])) (idx (ld 5) (retM (.int 0)))) (lst false [(op2 false .Add (op2 false .Add (bindM (ld 0) λu=>bindM (ld 9) (sliceHi false u)) (tup [(bi false .tTuple (each [(ld 5)]))])) (bindM (ld 0) λu=>bindM (op2 false .Add (ld 9) (retM (.int 1))) (sliceLo false u)))]) (lst false []))) (retM .next))
noncomputable def p361_9 (Φ:Tab):M Fl:=sq (ifM (cmp .In (retM (.str (Str.ofString "FLAGS"))) (ld 10)) (sq (bindM (tup [(bi false .tTuple (each [(bi false .sorted (each [(comp [none,none] true false (srcE (idx (ld 10) (retM (.str (Str.ofString "FLAGS"))))) c361_7)]))])),(retM (.int 0))]) λv=>bindM ((λv=>asgTup 2 v (asgs [λv=>bindM (ld 5) λu=>bindM (retM (.int 1)) λw=>putM u w v,λv=>bindM (ld 5) λu=>bindM (retM (.int 2)) λw=>putM u w v])) v) λ_=>retM .next) (retM .next)) (retM .next)) (p361_8 Φ)
noncomputable def p361_10 (Φ:Tab):M Fl:=sq (asT [10,5] (tup [(bi false .tDict (each [(idx (ld 1) (retM (.int 2)))])),(bi true .tList (each [(idx (ld 0) (ld 9))]))])) (p361_9 Φ)
noncomputable def p361_11 (Φ:Tab):M Fl:=sq (ifM (cmp .Eq (ld 2) (retM (.str (Str.ofString "expunge")))) (sq (rtS (lst false [(op2 false .Add (bindM (ld 0) λu=>bindM (ld 9) (sliceHi false u)) (bindM (ld 0) λu=>bindM (op2 false .Add (ld 9) (retM (.int 1))) (sliceLo false u)))])) (retM .next)) (retM .next)) (p361_10 Φ)
noncomputable def p361_12 (Φ:Tab):M Fl:=sq (ifM (notM (cmp2 .LtE .Lt (retM (.int 0)) (ld 9) (bi false .len (each [(ld 0)])))) (sq (rtS (lst false [])) (retM .next)) (retM .next)) (p361_11 Φ)
noncomputable def p361_13 (Φ:Tab):M Fl:=sq (asS 9 (op2 false .Sub (idx (ld 1) (retM (.int 1))) (retM (.int 1)))) (p361_12 Φ)
noncomputable def p361_14 (Φ:Tab):M Fl:=sq (ifM (cmp .NotIn (ld 2) (tup [(retM (.str (Str.ofString "expunge"))),(retM (.str (Str.ofString "fetch")))])) (sq (rtS (ld 3)) (retM .next)) (retM .next)) (p361_13 Φ)
noncomputable def p361_15 (Φ:Tab):M Fl:=sq (ifM (andM (cmp .Eq (ld 2) (retM (.str (Str.ofString "vanished")))) (andM (notM (trM (idx (ld 1) (retM (.int 2))))) (retM true))) (p361_6 Φ) (retM .next)) (p361_14 Φ)
noncomputable def p361_16 (Φ:Tab):M Fl:=sq (ifM (cmp .Eq (ld 2) (retM (.str (Str.ofString "exists")))) (p361_1 Φ) (retM .next)) (p361_15 Φ)
noncomputable def p361_17 (Φ:Tab):M Fl:=sq (asT [2,3] (tup [(idx (ld 1) (retM (.int 0))),(lst false [(ld 0)])])) (p361_16 Φ)
theorem g361 {n:Nat} {μ:List O} {a b:V} {Q:V->List O->Prop} {X:List O->Prop} (h:W (p361_17 (phiT tab n)) (λf μ' _=>Q f.val μ') X μ [some a,some b,none,none,none,none,none,none,none,none,none]):CRw (phiT tab (n+1) 361 [a,b] μ) Q X:=crw_of (p:=p361_17) rfl (λ_=>by kernel_rfl!) (by rfl) h
noncomputable def c366_0:V->Acc->M Acc:=λx a=>bindM (st 2 x) λ_=>emD (ld 2) (retM (.bool true)) a
noncomputable def c366_1 (Φ:Tab):V->Acc->M Acc:=λx a=>bindM (st 1 x) λ_=>nest (srcE (cl Φ 361 (each [(ld 1),(ld 3)]))) c366_0 a
noncomputable def p366 (Φ:Tab):M Fl:=(sq (rtS (bi false .tList (each [(comp [none,none,none,some 1] false false (srcE (ld 0)) (c366_1 Φ))]))) (retM .next))
theorem g366 {n:Nat} {μ:List O} {a b:V} {Q:V->List O->Prop} {X:List O->Prop} (h:W (p366 (phiT tab n)) (λf μ' _=>Q f.val μ') X μ [some a,some b]):CRw (phiT tab (n+1) 366 [a,b] μ) Q X:=crw_of (p:=p366) rfl (λ_=>by kernel_rfl!) (by rfl) h
noncomputable def c371_0:V->Acc->M Acc:=λx a=>bindM (st 1 x) λ_=>emL (tup [(ld 1),(ld 1)]) a
noncomputable def c371_1:V->Acc->M Acc:=λx a=>bindM (st 1 x) λ_=>ifM (andM (cmp .In (op2 false .Add (ld 1) (retM (.int 1))) (ld 2)) (retM true)) (emL (ld 1) a) (retM a)
noncomputable def p371_2 (Φ:Tab):M Fl:=sq (asS 2 (idx (ld 4) (cl Φ 346 (each [(ld 0),(bi false .len (each [(ld 4)]))])))) (sq (exS (meth Φ (ld 3) (Str.ofString "insert") (each [(retM (.int 0)),(ifM (cmp .Eq (cl Φ 346 (each [(ld 0),(retM (.int 2))])) (retM (.int 1))) (tup [(op2 false .Add (ld 2) (retM (.int 1))),(ld 2)]) (tup [(ld 2),(op2 false .Add (ld 2) (retM (.int 1)))]))]))) (retM .next))
noncomputable def p371_3 (Φ:Tab):M Fl:=sq (ifM (andM (cmp .NotEq (ld 4) (lst false [])) (andM (cmp .Eq (cl Φ 346 (each [(ld 0),(retM (.int 2))])) (retM (.int 1))) (retM true))) (p371_2 Φ) (retM .next)) (sq (rtS (bi false .tTuple (each [(ld 3)]))) (retM .next))
noncomputable def p371_4 (Φ:Tab):M Fl:=sq (asS 4 (comp [none,none,some 1] true false (srcE (ld 1)) c371_1)) (p371_3 Φ)
noncomputable def p371_5 (Φ:Tab):M Fl:=sq (ifM (cmp .Eq (cl Φ 346 (each [(ld 0),(retM (.int 2))])) (retM (.int 1))) (sq (exS (meth Φ (ld 3) (Str.ofString "append") (each [(idx (ld 3) (cl Φ 346 (each [(ld 0),(bi false .len (each [(ld 3)]))])))]))) (retM .next)) (retM .next)) (p371_4 Φ)
noncomputable def p371_6 (Φ:Tab):M Fl:=sq (ifM (cmp .Eq (cl Φ 346 (each [(ld 0),(retM (.int 2))])) (retM (.int 1))) (sq (asS 3 (bindM (ld 3) (sliceBack true))) (retM .next)) (retM .next)) (p371_5 Φ)
noncomputable def p371_7 (Φ:Tab):M Fl:=sq (asS 3 (comp [none,none] true true (srcE (ld 1)) c371_0)) (p371_6 Φ)
theorem g371 {n:Nat} {μ:List O} {a b:V} {Q:V->List O->Prop} {X:List O->Prop} (h:W (p371_7 (phiT tab n)) (λf μ' _=>Q f.val μ') X μ [some a,some b,none,none,none]):CRw (phiT tab (n+1) 371 [a,b] μ) Q X:=crw_of (p:=p371_7) rfl (λ_=>by kernel_rfl!) (by rfl) h
noncomputable def c376_0:V->Acc->M Acc:=λx a=>bindM (stT [1,2] x) λ_=>ifM (andM (cmp .Eq (op2 false .BitAnd (op2 false .RShift (ld 3) (ld 1)) (retM (.int 1))) (retM (.int 1))) (retM true)) (emL (bindM (each [(ld 2)]) λvs=>one vs λv=>retM (.atom v)) a) (retM a)
noncomputable def p376_1 (Φ:Tab):M Fl:=sq (asI (ld 1) (retM (.int 2)) (op2 false .Add (op2 false .Add (idx (ld 1) (retM (.int 2))) (retM (.int 1))) (cl Φ 346 (each [(ld 0),(retM (.int 5))])))) (sq (exS (meth Φ (ld 5) (Str.ofString "append") (each [(tup [(retM (.str (Str.ofString "MODSEQ"))),(lst false [(idx (ld 1) (retM (.int 2)))])])]))) (retM .next))
noncomputable def p376_2 (Φ:Tab):M Fl:=sq (ifM (cmp .Eq (op2 false .BitAnd (ld 3) (retM (.int 4))) (retM (.int 4))) (p376_1 Φ) (retM .next)) (sq (rtS (tup [(retM (.str (Str.ofString "fetch"))),(op2 false .Add (ld 2) (retM (.int 1))),(bi false .tTuple (each [(ifM (cmp .Eq (cl Φ 346 (each [(ld 0),(retM (.int 2))])) (retM (.int 1))) (bindM (ld 5) (sliceBack false)) (ld 5))]))])) (retM .next))
noncomputable def p376_3 (Φ:Tab):M Fl:=sq (ifM (cmp .Eq (op2 false .BitAnd (ld 3) (retM (.int 2))) (retM (.int 2))) (sq (exS (meth Φ (ld 5) (Str.ofString "append") (each [(tup [(retM (.str (Str.ofString "FLAGS"))),(comp [none,none,none,some 4] true false (enu (each [(retM lawFlags)])) c376_0)])]))) (retM .next)) (retM .next)) (p376_2 Φ)
noncomputable def p376_4 (Φ:Tab):M Fl:=sq (asS 5 (ifM (cmp .Eq (op2 false .BitAnd (ld 3) (retM (.int 1))) (retM (.int 1))) (lst true [(tup [(retM (.str (Str.ofString "UID"))),(idx (idx (ld 1) (retM (.int 0))) (ld 2))])]) (lst true []))) (p376_3 Φ)
noncomputable def p376_5 (Φ:Tab):M Fl:=sq (asT [2,3,4] (tup [(cl Φ 346 (each [(ld 0),(bi false .len (each [(idx (ld 1) (retM (.int 0)))]))])),(op2 false .Add (retM (.int 1)) (cl Φ 346 (each [(ld 0),(retM (.int 7))]))),(cl Φ 346 (each [(ld 0),(retM (.int 8))]))])) (p376_4 Φ)
theorem g376 {n:Nat} {μ:List O} {a b:V} {Q:V->List O->Prop} {X:List O->Prop} (h:W (p376_5 (phiT tab n)) (λf μ' _=>Q f.val μ') X μ [some a,some b,none,none,none,none]):CRw (phiT tab (n+1) 376 [a,b] μ) Q X:=crw_of (p:=p376_5) rfl (λ_=>by kernel_rfl!) (by rfl) h
noncomputable def p381_0 (Φ:Tab):M Fl:=sq (asI (ld 1) (retM (.int 1)) (op2 false .Add (op2 false .Add (idx (ld 1) (retM (.int 1))) (retM (.int 1))) (cl Φ 346 (each [(ld 0),(op2 false .Sub (retM (.int 8)) (idx (ld 1) (retM (.int 1))))])))) (sq (exS (meth Φ (ld 2) (Str.ofString "append") (each [(idx (ld 1) (retM (.int 1)))]))) (retM .next))
noncomputable def p381_1 (Φ:Tab):M Fl:=sq (ifM (andM (cmp .Lt (idx (ld 1) (retM (.int 1))) (retM (.int 8))) (andM (cmp .Eq (cl Φ 346 (each [(ld 0),(retM (.int 2))])) (retM (.int 1))) (retM true))) (p381_0 Φ) (retM .next)) (sq (rtS (tup [(retM (.str (Str.ofString "exists"))),(bi false .len (each [(ld 2)]))])) (retM .next))
noncomputable def p381_2 (Φ:Tab):M Fl:=sq (exS (meth Φ (ld 2) (Str.ofString "pop") (each [(ld 4)]))) (sq (rtS (tup [(retM (.str (Str.ofString "expunge"))),(op2 false .Add (ld 4) (retM (.int 1)))])) (retM .next))
noncomputable def p381_3 (Φ:Tab):M Fl:=sq (asS 4 (cl Φ 346 (each [(ld 0),(bi false .len (each [(ld 2)]))]))) (p381_2 Φ)
noncomputable def c381_4:V->Acc->M Acc:=λx a=>bindM (stT [1,2] x) λ_=>ifM (andM (cmp .Eq (op2 false .BitAnd (op2 false .RShift (ld 3) (ld 1)) (retM (.int 1))) (retM (.int 1))) (retM true)) (emL (ld 2) a) (retM a)
noncomputable def c381_5:V->Acc->M Acc:=λx a=>bindM (st 1 x) λ_=>ifM (andM (cmp .NotIn (ld 1) (ld 2)) (retM true)) (emL (ld 1) a) (retM a)
noncomputable def p381_6 (Φ:Tab):M Fl:=sq (asI (ld 1) (retM (.int 0)) (comp [none,none,some 6] true true (srcE (ld 2)) c381_5)) (sq (rtS (tup [(retM (.str (Str.ofString "vanished"))),(cl Φ 371 (each [(ld 0),(ld 6)])),(retM (.bool false))])) (retM .next))
noncomputable def p381_7 (Φ:Tab):M Fl:=sq (asS 6 (comp [none,none,none,some 5] true false (enu (each [(ld 2)])) c381_4)) (p381_6 Φ)
noncomputable def p381_8 (Φ:Tab):M Fl:=sq (asS 5 (op2 false .Add (retM (.int 1)) (cl Φ 346 (each [(ld 0),(op2 false .Sub (op2 false .Pow (retM (.int 2)) (bi false .len (each [(ld 2)]))) (retM (.int 1)))])))) (p381_7 Φ)
noncomputable def p381_9 (Φ:Tab):M Fl:=sq (ifM (cmp .Gt (ld 3) (retM (.int 3))) (sq (rtS (cl Φ 376 (each [(ld 0),(ld 1)]))) (retM .next)) (retM .next)) (p381_8 Φ)
noncomputable def p381_10 (Φ:Tab):M Fl:=sq (ifM (cmp .Eq (ld 3) (retM (.int 1))) (p381_3 Φ) (retM .next)) (p381_9 Φ)
noncomputable def p381_11 (Φ:Tab):M Fl:=sq (ifM (orM (cmp .Eq (ld 3) (retM (.int 0))) (orM (cmp .Eq (ld 2) (lst false [])) (retM false))) (p381_1 Φ) (retM .next)) (p381_10 Φ)
noncomputable def p381_12 (Φ:Tab):M Fl:=sq (ifM (cmp .Eq (ld 3) (retM (.int 7))) (sq (rtS (idx (tup [(tup [(retM (.str (Str.ofString "search"))),(tup [(retM (.int 1)),(retM (.int 2))]),(retM (.int 0))]),(tup [(retM (.str (Str.ofString "flags"))),(tup [(retM (.str (Str.ofString "k"))),(retM (.str (Str.ofString "\\Seen")))])]),(tup [(retM (.str (Str.ofString "ok"))),(retM (.str (Str.ofString "*"))),(retM .none),(retM (.str (Str.ofString "well")))]),(tup [(retM (.str (Str.ofString "list"))),(tup []),(retM (.str (Str.ofString "b")))])]) (cl Φ 346 (each [(ld 0),(retM (.int 4))])))) (retM .next)) (retM .next)) (p381_11 Φ)
noncomputable def p381_13 (Φ:Tab):M Fl:=sq (ifM (cmp .Eq (ld 3) (retM (.int 6))) (sq (rtS (tup [(retM (.str (Str.ofString "vanished"))),(tup [(tup [(retM (.int 1)),(op2 false .Add (retM (.int 1)) (cl Φ 346 (each [(ld 0),(retM (.int 9))])))]),(tup [(retM (.int 2)),(retM (.int 2))])]),(retM (.bool true))])) (retM .next)) (retM .next)) (p381_12 Φ)
noncomputable def p381_14 (Φ:Tab):M Fl:=sq (asT [2,3] (tup [(idx (ld 1) (retM (.int 0))),(cl Φ 346 (each [(ld 0),(retM (.int 8))]))])) (p381_13 Φ)
theorem g381 {n:Nat} {μ:List O} {a b:V} {Q:V->List O->Prop} {X:List O->Prop} (h:W (p381_14 (phiT tab n)) (λf μ' _=>Q f.val μ') X μ [some a,some b,none,none,none,none,none]):CRw (phiT tab (n+1) 381 [a,b] μ) Q X:=crw_of (p:=p381_14) rfl (λ_=>by kernel_rfl!) (by rfl) h
noncomputable def c386_0:V->Acc->M Acc:=λx a=>bindM (stT [1,2] x) λ_=>ifM (andM (cmp .In (ld 2) (ld 3)) (retM true)) (emL (tup [(ld 1),(ld 2)]) a) (retM a)
noncomputable def p386_1:M Fl:=sq (asS 10 (ifM (cmp .Lt (ld 3) (ld 8)) (op2 false .Add (ld 4) (ld 9)) (ifM (cmp .Gt (ld 3) (ld 8)) (bi false .max (each [(retM (.int 1)),(op2 false .Sub (ld 4) (ld 9))])) (op2 false .Add (op2 false .Add (ld 4) (retM (.int 1))) (ld 9))))) (sq (rtS (tup [(retM (.str (Str.ofString "fetch"))),(op2 false .Add (ld 3) (retM (.int 1))),(tup [(tup [(retM (.str (Str.ofString "UID"))),(ld 10)])])])) (retM .next))
noncomputable def p386_2 (Φ:Tab):M Fl:=sq (asT [3,9] (tup [(cl Φ 346 (each [(ld 0),(ld 7)])),(cl Φ 346 (each [(ld 0),(retM (.int 3))]))])) p386_1
noncomputable def p386_3 (Φ:Tab):M Fl:=sq (asT [8,4] (idx (ld 5) (cl Φ 346 (each [(ld 0),(bi false .len (each [(ld 5)]))])))) (p386_2 Φ)
noncomputable def c386_4:V->Acc->M Acc:=λx a=>bindM (st 1 x) λ_=>emL (idx (ld 1) (retM (.int 0))) a
noncomputable def c386_5:V->Acc->M Acc:=λx a=>bindM (stT [1,2] x) λ_=>ifM (andM (andM (cmp .In (op2 false .Add (ld 1) (retM (.int 1))) (comp [none,none] true false (srcE (ld 3)) c386_4)) (andM (cmp .NotIn (tup [(op2 false .Add (ld 1) (retM (.int 1))),(op2 false .Add (ld 2) (retM (.int 1)))]) (ld 3)) (retM true))) (retM true)) (emL (op2 false .Add (ld 2) (retM (.int 1))) a) (retM a)
noncomputable def p386_6 (Φ:Tab):M Fl:=sq (asS 4 (idx (ld 11) (cl Φ 346 (each [(ld 0),(bi false .len (each [(ld 11)]))])))) (sq (rtS (tup [(retM (.str (Str.ofString "vanished"))),(tup [(tup [(ld 4),(ld 4)])]),(retM (.bool false))])) (retM .next))
noncomputable def p386_7:M Fl:=sq (asT [12,13] (ifM (cmp .NotEq (ld 5) (lst false [])) (tup [(idx (idx (ld 5) (bindM (retM (.int 1)) (unM .USub))) (retM (.int 1))),(op2 false .Sub (op2 false .Sub (ld 7) (retM (.int 1))) (idx (idx (ld 5) (bindM (retM (.int 1)) (unM .USub))) (retM (.int 0))))]) (tup [(retM (.int 0)),(ld 7)]))) (sq (rtS (tup [(retM (.str (Str.ofString "vanished"))),(tup [(tup [(op2 false .Add (op2 false .Add (ld 12) (retM (.int 1))) (ld 13)),(op2 false .Add (ld 12) (retM (.int 1)))])]),(retM (.bool false))])) (retM .next))
noncomputable def p386_8 (Φ:Tab):M Fl:=sq (ifM (andM (cmp .NotEq (ld 11) (lst false [])) (andM (cmp .Eq (cl Φ 346 (each [(ld 0),(retM (.int 2))])) (retM (.int 1))) (retM true))) (p386_6 Φ) (retM .next)) p386_7
noncomputable def p386_9 (Φ:Tab):M Fl:=sq (asS 11 (comp [none,none,none,some 5] true false (srcE (ld 5)) c386_5)) (p386_8 Φ)
noncomputable def p386_10 (Φ:Tab):M Fl:=sq (ifM (cmp .Eq (ld 6) (retM (.int 3))) (sq (rtS (tup [(retM (.str (Str.ofString "fetch"))),(idx (tup [(op2 false .Add (ld 7) (retM (.int 1))),(retM (.int 0))]) (cl Φ 346 (each [(ld 0),(retM (.int 2))]))),(tup [(tup [(retM (.str (Str.ofString "FLAGS"))),(lst false [])])])])) (retM .next)) (retM .next)) (p386_9 Φ)
noncomputable def p386_11 (Φ:Tab):M Fl:=sq (ifM (andM (cmp .Eq (ld 6) (retM (.int 2))) (andM (cmp .NotEq (ld 5) (lst false [])) (retM true))) (p386_3 Φ) (retM .next)) (p386_10 Φ)
noncomputable def p386_12 (Φ:Tab):M Fl:=sq (ifM (andM (cmp .Eq (ld 6) (retM (.int 1))) (andM (cmp .Gt (ld 7) (retM (.int 0))) (retM true))) (sq (rtS (tup [(retM (.str (Str.ofString "exists"))),(cl Φ 346 (each [(ld 0),(ld 7)]))])) (retM .next)) (retM .next)) (p386_11 Φ)
noncomputable def p386_13 (Φ:Tab):M Fl:=sq (ifM (cmp .Eq (ld 6) (retM (.int 0))) (sq (rtS (tup [(retM (.str (Str.ofString "expunge"))),(idx (tup [(op2 false .Add (ld 7) (retM (.int 1))),(retM (.int 0)),(op2 false .Add (ld 7) (retM (.int 2)))]) (cl Φ 346 (each [(ld 0),(retM (.int 3))])))])) (retM .next)) (retM .next)) (p386_12 Φ)
noncomputable def p386_14 (Φ:Tab):M Fl:=sq (asT [6,7] (tup [(cl Φ 346 (each [(ld 0),(retM (.int 5))])),(bi false .len (each [(ld 1)]))])) (p386_13 Φ)
noncomputable def p386_15 (Φ:Tab):M Fl:=sq (asS 5 (comp [none,none,none,some 2] true false (enu (each [(ld 1)])) c386_0)) (p386_14 Φ)
theorem g386 {n:Nat} {μ:List O} {a b c:V} {Q:V->List O->Prop} {X:List O->Prop} (h:W (p386_15 (phiT tab n)) (λf μ' _=>Q f.val μ') X μ [some a,some b,some c,none,none,none,none,none,none,none,none,none,none,none]):CRw (phiT tab (n+1) 386 [a,b,c] μ) Q X:=crw_of (p:=p386_15) rfl (λ_=>by kernel_rfl!) (by rfl) h
noncomputable def p393_0 (Φ:Tab):M Fl:=sq (tryM (sq (exS (meth Φ (ld 0) (Str.ofString "take") (each [(ld 1)]))) (retM .next)) (retM (.ret (.bool false)))) (sq (rtS (retM (.bool true))) (retM .next))
theorem g393 {n:Nat} {μ:List O} {a b:V} {Q:V->List O->Prop} {X:List O->Prop} (h:W (p393_0 (phiT tab n)) (λf μ' _=>Q f.val μ') X μ [some a,some b]):CRw (phiT tab (n+1) 393 [a,b] μ) Q X:=crw_of (p:=p393_0) rfl (λ_=>by kernel_rfl!) (by rfl) h
noncomputable def c398_0:V->Acc->M Acc:=λx a=>bindM (st 1 x) λ_=>emD (idx (ld 1) (retM (.int 0))) (retM (.bool true)) a
noncomputable def c398_1:V->Acc->M Acc:=λx a=>bindM (st 1 x) λ_=>emD (idx (ld 1) (retM (.int 1))) (retM (.bool true)) a
noncomputable def c398_2:V->Acc->M Acc:=λx a=>bindM (st 1 x) λ_=>emD (idx (ld 1) (retM (.int 2))) (retM (.bool true)) a
noncomputable def p398_3:M Fl:=sq (ifM (andM (orM (trM (ld 3)) (orM (cmp .IsNot (idx (ld 0) (retM (.int 1))) (retM .none)) (retM false))) (andM (cmp .NotEq (ld 5) (lst false [(idx (ld 0) (retM (.int 1)))])) (retM true))) (sq (rtS (retM (.bool false))) (retM .next)) (retM .next)) (sq (rtS (orV (bindM (bindM (orV (ld 3) (cmpV .NotEq (idx (ld 0) (retM (.int 2))) (retM (.int 0)))) truthM) λb=>retM (.bool (!b))) (cmpV .Eq (ld 6) (lst false [(idx (ld 0) (retM (.int 2)))])))) (retM .next))
noncomputable def p398_4:M Fl:=sq (ifM (cmp .NotEq (idx (ld 0) (retM (.int 0))) (ifM (andM (cmp .Eq (bi false .len (each [(ld 4)])) (retM (.int 1))) (andM (cmp .In (idx (ld 4) (retM (.int 0))) (ld 2)) (retM true))) (idx (ld 4) (retM (.int 0))) (retM (.int 0)))) (sq (rtS (retM (.bool false))) (retM .next)) (retM .next)) p398_3
noncomputable def p398_5:M Fl:=sq (asS 6 (bi false .tList (each [(comp [none,none] false false (srcE (ld 1)) c398_2)]))) p398_4
noncomputable def p398_6:M Fl:=sq (asT [4,5] (tup [(bi false .tList (each [(comp [none,none] false false (srcE (ld 1)) c398_0)])),(bi false .tList (each [(comp [none,none] false false (srcE (ld 1)) c398_1)]))])) p398_5
theorem g398 {n:Nat} {μ:List O} {a b c d:V} {Q:V->List O->Prop} {X:List O->Prop} (h:W (p398_6) (λf μ' _=>Q f.val μ') X μ [some a,some b,some c,some d,none,none,none]):CRw (phiT tab (n+1) 398 [a,b,c,d] μ) Q X:=crw_of (p:=λ_=>p398_6) rfl (λ_=>by kernel_rfl!) (by rfl) h
noncomputable def c403_0 (Φ:Tab):V->Acc->M Acc:=λx a=>bindM (st 1 x) λ_=>emL (meth Φ (ld 1) (Str.ofString "told") (each [])) a
noncomputable def c403_1:V->Acc->M Acc:=λx a=>bindM (st 1 x) λ_=>ifM (andM (cmp .NotEq (bi false .len (each [(ld 1)])) (bi false .len (each [(ld 2)]))) (retM true)) (emL (ld 1) a) (retM a)
noncomputable def c403_2:V->Acc->M Acc:=λx a=>bindM (st 1 x) λ_=>emL (idx (ld 1) (ld 2)) a
noncomputable def b403_3 (Φ:Tab):V->M Fl:=λx=>bindM (stT [6,4] x) λ_=>(sq (ifM (notM (trM (cl Φ 398 (each [(ld 4),(comp [none,none,some 6] true false (srcE (ld 1)) c403_2),(ld 2),(ld 3)])))) (sq (rtS (retM (.bool false))) (retM .next)) (retM .next)) (retM .next))
noncomputable def c403_4:V->Acc->M Acc:=λx a=>bindM (stT [1,2] x) λ_=>ifM (andM (orM (cmp .Eq (idx (ld 2) (retM (.int 0))) (retM (.int 0))) (orM (cmp .Is (idx (ld 2) (retM (.int 1))) (retM .none)) (retM false))) (retM true)) (emL (op2 false .Add (ld 1) (retM (.int 1))) a) (retM a)
noncomputable def c403_5:V->Acc->M Acc:=λx a=>bindM (st 1 x) λ_=>emL (idx (ld 1) (retM (.int 0))) a
noncomputable def p403_6 (Φ:Tab):M Fl:=sq (asS 7 (comp [none,none,none] true false (enu (each [(ld 5)])) c403_4)) (sq (rtS (andV (cmpV .Eq (meth Φ (ld 0) (Str.ofString "missing") (each [])) (ld 7)) (andV (cmpV .Eq (meth Φ (ld 0) (Str.ofString "uids") (each [])) (comp [none,none] true false (srcE (ld 5)) c403_5)) (cmpV .Eq (meth Φ (ld 0) (Str.ofString "told") (each [])) (tup [(retM (.str (Str.ofString "b"))),(retM (.int 0)),(bi false .tTuple (each [(ld 5)]))]))))) (retM .next))
noncomputable def p403_7 (Φ:Tab):M Fl:=sq (loop (enu (each [(ld 5)])) (b403_3 Φ)) (p403_6 Φ)
noncomputable def p403_8 (Φ:Tab):M Fl:=sq (ifM (orM (cmp .Eq (ld 1) (lst false [])) (orM (cmp .NotEq (comp [none,none,some 5] true false (srcE (ld 1)) c403_1) (lst false [])) (retM false))) (sq (rtS (retM (.bool false))) (retM .next)) (retM .next)) (p403_7 Φ)
noncomputable def p403_9 (Φ:Tab):M Fl:=sq (asS 5 (comp [none,none] true false (srcE (att .rows (ld 0))) (c403_0 Φ))) (p403_8 Φ)
theorem g403 {n:Nat} {μ:List O} {a b c d:V} {Q:V->List O->Prop} {X:List O->Prop} (h:W (p403_9 (phiT tab n)) (λf μ' _=>Q f.val μ') X μ [some a,some b,some c,some d,none,none,none,none]):CRw (phiT tab (n+1) 403 [a,b,c,d] μ) Q X:=crw_of (p:=p403_9) rfl (λ_=>by kernel_rfl!) (by rfl) h
noncomputable def p408_0 (Φ:Tab):M Fl:=sq (asS 3 (cl Φ 351 (each [(ld 3)]))) (sq (asI (ld 7) (retM (.int 0)) (bi true .sorted (each [(op2 false .Add (idx (ld 7) (retM (.int 0))) (lst false [(meth Φ (ld 6) (Str.ofString "pop") (each [(cl Φ 346 (each [(ld 1),(bi false .len (each [(ld 6)]))]))]))]))]))) (retM .next))
noncomputable def b408_1 (Φ:Tab):V->M Fl:=λx=>bindM (st 8 x) λ_=>(p408_0 Φ)
noncomputable def c408_2:V->Acc->M Acc:=λx a=>bindM (st 1 x) λ_=>ifM (andM (andM (cmp .NotIn (ld 1) (idx (ld 2) (retM (.int 0)))) (andM (cmp .NotIn (ld 1) (ld 3)) (retM true))) (retM true)) (emL (ld 1) a) (retM a)
noncomputable def c408_3:V->Acc->M Acc:=λx a=>bindM (st 1 x) λ_=>ifM (andM (cmp .In (ld 1) (ld 2)) (retM true)) (emD (ld 1) (retM (.bool true)) a) (retM a)
noncomputable def p408_4 (Φ:Tab):M Fl:=sq (ifM (andM (cmp .Eq (idx (ld 10) (retM (.int 0))) (retM (.str (Str.ofString "fetch")))) (andM (cmp .In (retM (.str (Str.ofString "UID"))) (bi false .tDict (each [(idx (ld 10) (retM (.int 2)))]))) (retM true))) (sq (asI (ld 4) (idx (idx (ld 7) (retM (.int 0))) (op2 false .Sub (idx (ld 10) (retM (.int 1))) (retM (.int 1)))) (retM (.bool true))) (retM .next)) (retM .next)) (sq (asT [3,4] (tup [(cl Φ 366 (each [(ld 3),(ld 10)])),(comp [none,none,some 4] false true (srcE (idx (ld 7) (retM (.int 0)))) c408_3)])) (retM .next))
noncomputable def p408_5 (Φ:Tab):M Fl:=sq (ifM (andM (cmp .Eq (idx (ld 10) (retM (.int 0))) (retM (.str (Str.ofString "vanished")))) (andM (notM (trM (idx (ld 10) (retM (.int 2))))) (retM true))) (sq (asS 5 (andV (ld 5) (cmpV .Eq (comp [none,none,some 7,some 4] true false (srcE (ld 9)) c408_2) (lst false [])))) (retM .next)) (retM .next)) (p408_4 Φ)
noncomputable def p408_6 (Φ:Tab):M Fl:=sq (ifM (orM (notM (trM (cl Φ 403 (each [(ld 2),(ld 3),(ld 4),(ld 5)])))) (orM (notM (trM (cl Φ 393 (each [(ld 2),(ld 10)])))) (retM false))) (sq (rtS (retM (.bool false))) (retM .next)) (retM .next)) (p408_5 Φ)
noncomputable def p408_7 (Φ:Tab):M Fl:=sq (asS 10 (cl Φ 381 (each [(ld 1),(ld 7)]))) (p408_6 Φ)
noncomputable def p408_8 (Φ:Tab):M Fl:=sq (asS 9 (idx (ld 7) (retM (.int 0)))) (p408_7 Φ)
noncomputable def b408_9 (Φ:Tab):V->M Fl:=λx=>bindM (st 8 x) λ_=>(p408_8 Φ)
noncomputable def p408_10 (Φ:Tab):M Fl:=sq (asS 11 (ifM (cmp .Eq (cl Φ 346 (each [(ld 1),(retM (.int 4))])) (retM (.int 0))) (cl Φ 381 (each [(ld 1),(ld 7)])) (cl Φ 386 (each [(ld 1),(idx (ld 7) (retM (.int 0))),(ld 4)])))) (sq (rtS (cmpV .Eq (cl Φ 393 (each [(ld 2),(ld 11)])) (cmpV .NotEq (cl Φ 366 (each [(ld 3),(ld 11)])) (lst false [])))) (retM .next))
noncomputable def p408_11 (Φ:Tab):M Fl:=sq (ifM (notM (trM (cl Φ 403 (each [(ld 2),(ld 3),(ld 4),(ld 5)])))) (sq (rtS (retM (.bool false))) (retM .next)) (retM .next)) (p408_10 Φ)
noncomputable def p408_12 (Φ:Tab):M Fl:=sq (loop (srcE (bi false .tRange (each [(op2 false .Add (retM (.int 2)) (cl Φ 346 (each [(ld 1),(retM (.int 4))])))]))) (b408_9 Φ)) (p408_11 Φ)
noncomputable def p408_13 (Φ:Tab):M Fl:=sq (exS (cl Φ 333 (each [(ld 2),(retM (.bool true))]))) (p408_12 Φ)
noncomputable def p408_14 (Φ:Tab):M Fl:=sq (ifM (notM (trM (cl Φ 393 (each [(ld 2),(tup [(retM (.str (Str.ofString "exists"))),(bi false .len (each [(idx (ld 7) (retM (.int 0)))]))])])))) (sq (rtS (retM (.bool false))) (retM .next)) (retM .next)) (p408_13 Φ)
noncomputable def p408_15 (Φ:Tab):M Fl:=sq (asI (ld 7) (retM (.int 1)) (bi false .max (each [(op2 false .Add (idx (ld 7) (retM (.int 0))) (lst false [(retM (.int 0))]))]))) (p408_14 Φ)
noncomputable def p408_16 (Φ:Tab):M Fl:=sq (loop (srcE (bi false .tRange (each [(cl Φ 346 (each [(ld 1),(retM (.int 4))]))]))) (b408_1 Φ)) (p408_15 Φ)
noncomputable def p408_17 (Φ:Tab):M Fl:=sq (asT [6,7] (tup [(bi true .tList (each [(bi false .tRange (each [(retM (.int 1)),(retM (.int 9))]))])),(lst true [(lst true []),(retM (.int 0)),(retM (.int 1))])])) (p408_16 Φ)
noncomputable def p408_18 (Φ:Tab):M Fl:=sq (exS (cl Φ 321 (each [(ld 2),(retM (.str (Str.ofString "b"))),(retM (.bool false))]))) (p408_17 Φ)
noncomputable def p408_19 (Φ:Tab):M Fl:=sq (asT [1,2,3,4,5] (tup [(cl Φ 339 (each [(ld 0)])),(bindM (each []) (callB Φ false .cCopy)),(lst false [(tup [])]),(dctM true [] []),(retM (.bool true))])) (p408_18 Φ)
theorem g408 {n:Nat} {μ:List O} {a:V} {Q:V->List O->Prop} {X:List O->Prop} (h:W (p408_19 (phiT tab n)) (λf μ' _=>Q f.val μ') X μ [some a,none,none,none,none,none,none,none,none,none,none,none]):CRw (phiT tab (n+1) 408 [a] μ) Q X:=crw_of (p:=p408_19) rfl (λ_=>by kernel_rfl!) (by rfl) h
noncomputable def p151_0:M Fl:=sq (asA .flags (ld 0) (ld 2)) (sq (asA .modseq (ld 0) (ld 3)) (retM .next))
noncomputable def p151_1:M Fl:=sq (asA .uid (ld 0) (ld 1)) p151_0
theorem g151 {n:Nat} {μ:List O} {a b c d:V} {Q:V->List O->Prop} {X:List O->Prop} (h:W (p151_1) (λf μ' _=>Q f.val μ') X μ [some a,some b,some c,some d]):CRw (phiT tab (n+1) 151 [a,b,c,d] μ) Q X:=crw_of (p:=λ_=>p151_1) rfl (λ_=>by kernel_rfl!) (by rfl) h
noncomputable def p186_0:M Fl:=sq (asA .is_readonly (ld 0) (retM (.bool false))) (sq (asA .flag_names (ld 0) (tup [])) (retM .next))
noncomputable def p186_1:M Fl:=sq (asA .coming_top (ld 0) (retM (.int 0))) p186_0
noncomputable def p186_2:M Fl:=sq (asA .is_opening (ld 0) (retM (.bool false))) p186_1
noncomputable def p186_3:M Fl:=sq (asA .kept (ld 0) (dctM false [] [])) p186_2
noncomputable def p186_4:M Fl:=sq (asA .rows (ld 0) (lst true [])) p186_3
noncomputable def p186_5:M Fl:=sq (asA .top (ld 0) (retM (.int 0))) p186_4
noncomputable def p186_6:M Fl:=sq (asA .next_uid (ld 0) (retM (.int 0))) p186_5
noncomputable def p186_7:M Fl:=sq (asA .validity (ld 0) (retM (.int 0))) p186_6
noncomputable def p186_8:M Fl:=sq (asA .box (ld 0) (retM (.str (Str.ofString "")))) p186_7
theorem g186 {n:Nat} {μ:List O} {a:V} {Q:V->List O->Prop} {X:List O->Prop} (h:W (p186_8) (λf μ' _=>Q f.val μ') X μ [some a]):CRw (phiT tab (n+1) 186 [a] μ) Q X:=crw_of (p:=λ_=>p186_8) rfl (λ_=>by kernel_rfl!) (by rfl) h
noncomputable def p165 (Φ:Tab):M Fl:=(sq (rtS (tup [(att .uid (ld 0)),(att .flags (ld 0)),(att .modseq (ld 0))])) (retM .next))
theorem g165 {n:Nat} {μ:List O} {a:V} {Q:V->List O->Prop} {X:List O->Prop} (h:W (p165 (phiT tab n)) (λf μ' _=>Q f.val μ') X μ [some a]):CRw (phiT tab (n+1) 165 [a] μ) Q X:=crw_of (p:=p165) rfl (λ_=>by kernel_rfl!) (by rfl) h
noncomputable def p158 (Φ:Tab):M Fl:=(sq (rtS (andV (cmpV .Gt (att .uid (ld 0)) (retM (.int 0))) (cmpV .IsNot (att .flags (ld 0)) (retM .none)))) (retM .next))
theorem g158 {n:Nat} {μ:List O} {a:V} {Q:V->List O->Prop} {X:List O->Prop} (h:W (p158 (phiT tab n)) (λf μ' _=>Q f.val μ') X μ [some a]):CRw (phiT tab (n+1) 158 [a] μ) Q X:=crw_of (p:=p158) rfl (λ_=>by kernel_rfl!) (by rfl) h
noncomputable def c208_0 (Φ:Tab):V->Acc->M Acc:=λx a=>bindM (st 1 x) λ_=>emL (meth Φ (ld 1) (Str.ofString "told") (each [])) a
noncomputable def p208 (Φ:Tab):M Fl:=(sq (rtS (tup [(att .box (ld 0)),(att .validity (ld 0)),(bi false .tTuple (each [(comp [none,none] true false (srcE (att .rows (ld 0))) (c208_0 Φ))]))])) (retM .next))
theorem g208 {n:Nat} {μ:List O} {a:V} {Q:V->List O->Prop} {X:List O->Prop} (h:W (p208 (phiT tab n)) (λf μ' _=>Q f.val μ') X μ [some a]):CRw (phiT tab (n+1) 208 [a] μ) Q X:=crw_of (p:=p208) rfl (λ_=>by kernel_rfl!) (by rfl) h
noncomputable def p198_0:M Fl:=sq (ifM (notM (cmp2 .LtE .LtE (retM (.int 1)) (ld 1) (bi false .len (each [(att .rows (ld 0))])))) (sq (raS (retM (.str (Str.ofString "no letter has this number"))) (ld 1)) (retM .next)) (retM .next)) (sq (rtS (idx (att .rows (ld 0)) (op2 false .Sub (ld 1) (retM (.int 1))))) (retM .next))
theorem g198 {n:Nat} {μ:List O} {a b:V} {Q:V->List O->Prop} {X:List O->Prop} (h:W (p198_0) (λf μ' _=>Q f.val μ') X μ [some a,some b]):CRw (phiT tab (n+1) 198 [a,b] μ) Q X:=crw_of (p:=λ_=>p198_0) rfl (λ_=>by kernel_rfl!) (by rfl) h
noncomputable def p215_0 (Φ:Tab):M Fl:=sq (exS (meth Φ (ld 0) (Str.ofString "row") (each [(idx (ld 1) (retM (.int 1)))]))) (sq (asA .rows (ld 0) (op2 true .Add (bindM (att .rows (ld 0)) λu=>bindM (op2 false .Sub (idx (ld 1) (retM (.int 1))) (retM (.int 1))) (sliceHi true u)) (bindM (att .rows (ld 0)) λu=>bindM (idx (ld 1) (retM (.int 1))) (sliceLo false u)))) (retM .next))
noncomputable def p215_1 (Φ:Tab):M Fl:=sq (asS 2 (idx (ld 1) (retM (.int 0)))) (sq (ifM (cmp .Eq (ld 2) (retM (.str (Str.ofString "exists")))) (sq (exS (cl Φ 227 (each [(ld 0),(idx (ld 1) (retM (.int 1)))]))) (retM .next)) (sq (ifM (cmp .Eq (ld 2) (retM (.str (Str.ofString "expunge")))) (p215_0 Φ) (sq (ifM (cmp .Eq (ld 2) (retM (.str (Str.ofString "vanished")))) (sq (exS (cl Φ 272 (each [(ld 0),(idx (ld 1) (retM (.int 1))),(idx (ld 1) (retM (.int 2)))]))) (retM .next)) (sq (ifM (cmp .Eq (ld 2) (retM (.str (Str.ofString "fetch")))) (sq (exS (cl Φ 239 (each [(ld 0),(idx (ld 1) (retM (.int 1))),(idx (ld 1) (retM (.int 2)))]))) (retM .next)) (sq (ifM (cmp .Eq (ld 2) (retM (.str (Str.ofString "flags")))) (sq (asA .flag_names (ld 0) (bi false .tTuple (each [(idx (ld 1) (retM (.int 1)))]))) (retM .next)) (sq (ifM (cmp .Eq (ld 2) (retM (.str (Str.ofString "ok")))) (sq (exS (cl Φ 307 (each [(ld 0),(cmpV .NotEq (idx (ld 1) (retM (.int 1))) (retM (.str (Str.ofString "*")))),(idx (ld 1) (retM (.int 2)))]))) (retM .next)) (retM .next)) (retM .next))) (retM .next))) (retM .next))) (retM .next))) (retM .next))) (retM .next))
theorem g215 {n:Nat} {μ:List O} {a b:V} {Q:V->List O->Prop} {X:List O->Prop} (h:W (p215_1 (phiT tab n)) (λf μ' _=>Q f.val μ') X μ [some a,some b,none]):CRw (phiT tab (n+1) 215 [a,b] μ) Q X:=crw_of (p:=p215_1) rfl (λ_=>by kernel_rfl!) (by rfl) h
noncomputable def c191_0:V->Acc->M Acc:=λx a=>bindM (st 1 x) λ_=>emL (att .uid (ld 1)) a
noncomputable def p191 (Φ:Tab):M Fl:=(sq (rtS (comp [none,none] true false (srcE (att .rows (ld 0))) c191_0)) (retM .next))
theorem g191 {n:Nat} {μ:List O} {a:V} {Q:V->List O->Prop} {X:List O->Prop} (h:W (p191 (phiT tab n)) (λf μ' _=>Q f.val μ') X μ [some a]):CRw (phiT tab (n+1) 191 [a] μ) Q X:=crw_of (p:=p191) rfl (λ_=>by kernel_rfl!) (by rfl) h
noncomputable def c203_0 (Φ:Tab):V->Acc->M Acc:=λx a=>bindM (st 1 x) λ_=>ifM (andM (notM (trM (meth Φ (idx (att .rows (ld 2)) (op2 false .Sub (ld 1) (retM (.int 1)))) (Str.ofString "is_whole") (each [])))) (retM true)) (emL (ld 1) a) (retM a)
noncomputable def p203 (Φ:Tab):M Fl:=(sq (rtS (comp [none,none,some 0] true false (srcE (bi false .tRange (each [(retM (.int 1)),(op2 false .Add (bi false .len (each [(att .rows (ld 0))])) (retM (.int 1)))]))) (c203_0 Φ))) (retM .next))
theorem g203 {n:Nat} {μ:List O} {a:V} {Q:V->List O->Prop} {X:List O->Prop} (h:W (p203 (phiT tab n)) (λf μ' _=>Q f.val μ') X μ [some a]):CRw (phiT tab (n+1) 203 [a] μ) Q X:=crw_of (p:=p203) rfl (λ_=>by kernel_rfl!) (by rfl) h
end
section
open PySem
noncomputable abbrev Cells:=List (Nat×O)
noncomputable def Hp' (F:Cells) (μ:List O):Prop:=(F.map (·.1)).Nodup/\∀ p∈F,μ[p.1]?=some p.2
noncomputable def Asn:=Cells->Prop
noncomputable def H (P:Asn) (μ:List O):Prop:=∃ F,P F/\Hp' F μ
noncomputable def Asn.s (P R:Asn):Asn:=λF=>∃ A B,F=A++B/\P A/\R B
noncomputable def pt (a:Nat) (o:O):Asn:=λF=>F=[(a,o)]
noncomputable def emp:Asn:=λF=>F=[]
section
variable {P A B C R:Asn} {μ:List O} {a:Nat} {o o':O}
theorem at_lt (h:μ[a]?=some o):a<μ.length:=(List.getElem?_eq_some_iff.mp h).1
theorem at_old (l:List O) (h:μ[a]?=some o):(μ++l)[a]?=some o:=(List.getElem?_append_left (at_lt h)).trans h
theorem at_set (h:μ[a]?=some o):(μ.set a o')[a]?=some o':=List.getElem?_set_self (at_lt h)
theorem at_ne {b:Nat} (h:μ[a]?=some o) (n:b≠a):(μ.set b o')[a]?=some o:=(List.getElem?_set_ne n).trans h
theorem at_new:(μ++[o])[μ.length]?=some o:=List.getElem?_concat_length ..
theorem H.mono (h:H A μ) (f:∀ F,A F->B F):H B μ:=let ⟨F,p,q⟩:=h;⟨F,f F p,q⟩
theorem H.perm (h:H A μ) (f:∀ F,A F->∃ G,B G/\G.Perm F):H B μ:=
  let ⟨F,p,n,q⟩:=h;let ⟨G,b,e⟩:=f F p;⟨G,b,((e.map _).nodup_iff).mpr n,λx m=>q x (e.mem_iff.mp m)⟩
theorem H.in2 (h:H (A.s B) μ) (f:∀ F,B F->∃ G,C G/\G.Perm F):H (A.s C) μ:=h.perm λ_ ⟨X,_,e,x,y⟩=>let ⟨G,c,p⟩:=f _ y;⟨X++G,⟨X,G,rfl,x,c⟩,by rw [e];exact p.append_left X⟩
theorem sw_in:∀ F,(A.s (B.s R)) F->∃ G,(B.s (A.s R)) G/\G.Perm F:=by
  intro _ q
  obtain ⟨X,_,e,x,Y,Z,e2,y,z⟩:=q
  exact ⟨Y++(X++Z),⟨Y,_,rfl,y,X,Z,rfl,x,z⟩,by rw [e,e2,←List.append_assoc,←List.append_assoc];exact List.perm_append_comm.append_right Z⟩
theorem H.sw (h:H (A.s (B.s R)) μ):H (B.s (A.s R)) μ:=h.perm sw_in
theorem H.up3 (h:H (A.s (B.s (C.s R))) μ):H (C.s (A.s (B.s R))) μ:=(h.in2 sw_in).sw
theorem H.rot (h:H (C.s (A.s (B.s R))) μ):H (A.s (B.s (C.s R))) μ:=h.sw.in2 sw_in
theorem H.drop (h:H (A.s R) μ):H R μ:=by
  obtain ⟨_,⟨_,Y,e,_,y⟩,n,q⟩:=h
  exact ⟨Y,y,by rw [e,List.map_append] at n;exact (List.nodup_append.mp n).2.1,λp m=>q p (e▸List.mem_append_right _ m)⟩
theorem H.grow (h:H R μ) (l:List O):H R (μ++l):=let ⟨F,p,n,q⟩:=h;⟨F,p,n,λx m=>at_old l (q x m)⟩
theorem H.get (h:H ((pt a o).s R) μ):μ[a]?=some o:=by
  obtain ⟨_,⟨_,_,e,x,_⟩,_,q⟩:=h;exact q (a,o) (by rw [e,x];exact List.mem_cons_self)
theorem H.put (h:H ((pt a o).s R) μ) (o':O):H ((pt a o').s R) (μ.set a o'):=by
  obtain ⟨F,⟨X,Y,e,x,y⟩,n,q⟩:=h
  cases x
  subst e
  refine ⟨(a,o') :: Y,⟨[(a,o')],Y,rfl,rfl,y⟩,n,λp m=>?_⟩
  rcases List.mem_cons.mp m with rfl | m
  · exact at_set (q _ List.mem_cons_self)
  · exact at_ne (q _ (List.mem_cons_of_mem _ m)) λe=>(List.nodup_cons.mp n).1 (List.mem_map.mpr ⟨p,m,e.symm⟩)
theorem H.new (h:H R μ) (o:O):H ((pt μ.length o).s R) (μ++[o]):=by
  obtain ⟨F,p,n,q⟩:=h
  refine ⟨_,⟨[_],F,rfl,rfl,p⟩,List.nodup_cons.mpr ⟨λm=>?_,n⟩,λx m=>?_⟩
  · obtain ⟨x,hx,e⟩:=List.mem_map.mp m
    exact absurd (at_lt (q x hx)) (e▸Nat.lt_irrefl _)
  · rcases List.mem_cons.mp m with rfl | m
    · exact at_new
    · exact at_old _ (q x m)
theorem H.all (μ:List O):H emp μ:=⟨[],rfl,.nil,λ_ m=>nomatch m⟩
end
section
variable {Φ:Tab} {μ:List O} {ρ:List (Option V)} {i r:Nat} {vs us:List V} {v:V} {t:Bool} {a b:Int}
theorem len_le {n:Nat} (h:vs.length<=n) (hn:decide (n<=big)=true):vs.length<=big:=Nat.le_trans h (of_decide_eq_true hn)
theorem listAt_of (h:μ[r]?=some (.list vs)):listAt μ r=some vs:=by unfold listAt;rw [h];rfl
theorem seq_ref (h:μ[r]?=some (.list vs)):seqM (.ref r) μ ρ=.ok vs μ ρ:=rd_ok (listAt_of h)
theorem seq_tup:seqM (.tup vs) μ ρ=.ok vs μ ρ:=rfl
theorem seq_lst:seqM (.lst vs) μ ρ=.ok vs μ ρ:=rfl
theorem lseq_ref (h:μ[r]?=some (.list vs)):lseqM (.ref r) μ ρ=.ok vs μ ρ:=rd_ok (listAt_of h)
theorem pick_list {me:Me} {name:Str} (h:μ[r]?=some (.list vs)) (hn:listMs.lookup name=some me):pickM (.ref r) name μ ρ=.ok me μ ρ:=rd_ok (by
  show (μ[r]?).bind (meAt name)=_
  rw [h];exact hn)
theorem do_list {f:List V->Option (V×List V)} (h:μ[r]?=some (.list vs)) (hf:f vs=some (v,us)):listDo r f μ ρ=.ok v (μ.set r (.list us)) ρ:=wr_ok (by rw [listAt_of h];show ((f vs).map _)=_;rw [hf];rfl)
theorem append_ok {o:M V} {m:M (List V)} (ho:o μ ρ=.ok (.ref r) μ ρ) (hm:m μ ρ=.ok [v] μ ρ) (h:μ[r]?=some (.list vs)) (hb:(vs++[v]).length<=big):meth Φ o (Str.ofString "append") m μ ρ=.ok .none (μ.set r (.list (vs++[v]))) ρ:=
  ok_bind ho (ok_bind (pick_list h rfl) (ok_bind hm (do_list h (if_pos hb))))
theorem append_ok' {o:M V} {m:M (List V)} {μ':List O} (ho:o μ ρ=.ok (.ref r) μ ρ) (hm:m μ ρ=.ok [v] μ' ρ) (h0:μ[r]?=some (.list us)) (h:μ'[r]?=some (.list vs)) (hb:(vs++[v]).length<=big):meth Φ o (Str.ofString "append") m μ ρ=.ok .none (μ'.set r (.list (vs++[v]))) ρ:=
  ok_bind ho (ok_bind (pick_list h0 rfl) (ok_bind hm (do_list h (if_pos hb))))
theorem idx_list {k:Int} (h:μ[r]?=some (.list vs)) (hf:fits k=true) (hv:itemAt vs k=some v):idxM (.ref r) (.int k) μ ρ=.ok v μ ρ:=ok_bind (seq_ref h) (gd_ok hf (ofOpt_ok hv))
theorem idx_tup {k:Int} (hf:fits k=true) (hv:itemAt vs k=some v):idxM (.tup vs) (.int k) μ ρ=.ok v μ ρ:=gd_ok hf (ofOpt_ok hv)
theorem idx_lst {k:Int} (hf:fits k=true) (hv:itemAt vs k=some v):idxM (.lst vs) (.int k) μ ρ=.ok v μ ρ:=gd_ok hf (ofOpt_ok hv)
theorem len_ref (h:μ[r]?=some (.list vs)) (hb:vs.length<=big):biM t .len [.ref r] μ ρ=.ok (.int vs.length) μ ρ:=ok_bind (seq_ref h) (gd_ok (decide_eq_true hb) rfl)
theorem len_tup (hb:vs.length<=big):biM t .len [.tup vs] μ ρ=.ok (.int vs.length) μ ρ:=gd_ok (decide_eq_true hb) rfl
theorem len_lst (hb:vs.length<=big):biM t .len [.lst vs] μ ρ=.ok (.int vs.length) μ ρ:=gd_ok (decide_eq_true hb) rfl
theorem put_list {k:Int} {j:Nat} (h:μ[r]?=some (.list vs)) (hf:fits k=true) (hj:placeAt vs k=some j):putM (.ref r) (.int k) v μ ρ=.ok () (μ.set r (.list (vs.set j v))) ρ:=opt_ok (o:=V.ref? (.ref r)) rfl (opt_ok (o:=V.int? (.int k)) rfl (wr_ok (by
  rw [h]
  show (Option.map _ (if fits k=true then _ else _))=_
  rw [hf,hj];rfl)))
theorem lst_t (hb:vs.length<=big):lstM true vs μ ρ=.ok (.ref μ.length) (μ++[.list vs]) ρ:=gd_ok (decide_eq_true hb) rfl
theorem lst_f (hb:vs.length<=big):lstM false vs μ ρ=.ok (.lst vs) μ ρ:=gd_ok (decide_eq_true hb) rfl
theorem tup_ok (hb:vs.length<=big):tupM vs μ ρ=.ok (.tup vs) μ ρ:=gd_ok (decide_eq_true hb) rfl
theorem src_ref (h:μ[r]?=some (.list vs)):srcM (.ref r) μ ρ=.ok (some (r,vs),vs) μ ρ:=rd_ok (by show (listAt μ r).map _=_;rw [listAt_of h];rfl)
theorem still_at (h:μ[r]?=some (.list vs)):isStill μ (some (r,vs))=true:=decide_eq_true (listAt_of h)
theorem fits_le {k:Int} (h:-1000000<=k) (h':k<=1000000):fits k=true:=Bool.and_eq_true_iff.mpr ⟨decide_eq_true (Int.le_trans (by decide) h),decide_eq_true (Int.lt_of_le_of_lt h' (by decide))⟩
theorem fits_n {k:Nat} (h:k<=1000000):fits (k:Int)=true:=fits_le (Int.le_trans (by decide) (Int.natCast_nonneg k)) (Int.ofNat_le.mpr h)
theorem fit62_le {k:Int} (h:-1000000<=k) (h':k<=1000000):fit62 k=true:=Bool.and_eq_true_iff.mpr ⟨decide_eq_true (Int.le_trans (by decide) h),decide_eq_true (Int.lt_of_le_of_lt h' (by decide))⟩
theorem rng_ok (h1:-1000000<=a) (h2:a<=1000000) (h3:-1000000<=b) (h4:b<=1000000):rngOk a b=true:=by
  unfold rngOk
  rw [fit62_le h1 h2,fit62_le h3 h4,decide_eq_true (Nat.le_trans (Int.toNat_le.mpr (show b - a<=((2000000:Nat):Int) by lia)) (by decide))]
  rfl
theorem src_rng (h1:-1000000<=a) (h2:a<=1000000) (h3:-1000000<=b) (h4:b<=1000000):srcM (.rng a b) μ ρ=.ok (none,rngList a b) μ ρ:=rd_ok (if_pos (rng_ok h1 h2 h3 h4))
theorem if_max:(if a<b then b else a)=max a b:=if h:a<b then (if_pos h).trans (Int.max_eq_right (Int.le_of_lt h)).symm else (if_neg h).trans (Int.max_eq_left (Int.not_lt.mp h)).symm
theorem if_min:(if b<a then b else a)=min a b:=if h:b<a then (if_pos h).trans (Int.min_eq_right (Int.le_of_lt h)).symm else (if_neg h).trans (Int.min_eq_left (Int.not_lt.mp h)).symm
theorem min2:biM t .min [.int a,.int b] μ ρ=.ok (.int (min a b)) μ ρ:=congrArg (λx=>Res.ok (V.int x) μ ρ) if_min
theorem max2:biM t .max [.int a,.int b] μ ρ=.ok (.int (max a b)) μ ρ:=congrArg (λx=>Res.ok (V.int x) μ ρ) if_max
theorem min1:biM t .min [.tup [.int a,.int b]] μ ρ=.ok (.int (min a b)) μ ρ:=congrArg (λx=>Res.ok (V.int x) μ ρ) if_min
theorem max1:biM t .max [.tup [.int a,.int b]] μ ρ=.ok (.int (max a b)) μ ρ:=congrArg (λx=>Res.ok (V.int x) μ ρ) if_max
theorem emit_ok {v:V} {acc:List V} (h:acc.length+[v].length<=big):emitL v (acc,[]) μ ρ=.ok (acc++[v],[]) μ ρ:=gd_ok (decide_eq_true (Nat.le_of_succ_le h)) rfl
theorem range1 (h:fits b=true):biM t .tRange [.int b] μ ρ=.ok (.rng 0 b) μ ρ:=gd_ok h rfl
theorem range2 (h:fits a=true) (h':fits b=true):biM t .tRange [.int a,.int b] μ ρ=.ok (.rng a b) μ ρ:=gd_ok (Bool.and_eq_true_iff.mpr ⟨h,h'⟩) rfl
theorem item_nat {k:Nat} (h:vs[k]?=some v):itemAt vs (k:Int)=some v:=(if_pos (Int.natCast_nonneg k)).trans h
theorem item_int {j:Int} (h:0<=j) (h':vs[j.toNat]?=some v):itemAt vs j=some v:=(if_pos h).trans h'
theorem neg1 (n:Nat):(-1:Int)+((n+1:Nat):Int)=(n:Int):=by lia
theorem itemAt_last (xs:List V) (v:V):itemAt (xs++[v]) (-1)=some v:=by
  unfold itemAt
  rw [if_neg (by decide),List.length_append,List.length_singleton,neg1,if_pos (Int.natCast_nonneg _),Int.toNat_natCast,List.getElem?_concat_length]
theorem placeAt_last (xs:List V) (v:V):placeAt (xs++[v]) (-1)=some xs.length:=by
  unfold placeAt
  rw [if_neg (by decide),List.length_append,List.length_singleton,neg1,if_pos (Int.natCast_nonneg _),Int.toNat_natCast]
theorem eq_int:cmpM .Eq (.int a) (.int b) μ ρ=.ok (decide (a=b)) μ ρ:=rd_ok (f:=λμ=>eqL μ (.int a) (.int b)) (congrArg some (decide_eq_decide.mpr ⟨V.int.inj,congrArg V.int⟩))
theorem ne_int:cmpM .NotEq (.int a) (.int b) μ ρ=.ok (!decide (a=b)) μ ρ:=rd_ok (f:=λμ=>(eqL μ (.int a) (.int b)).map (!·)) (congrArg (λx=>some (!x)) (decide_eq_decide.mpr ⟨V.int.inj,congrArg V.int⟩))
theorem ceq {ma mb:M V} (ha:ma μ ρ=.ok (.int a) μ ρ) (hb:mb μ ρ=.ok (.int b) μ ρ):cmp .Eq ma mb μ ρ=.ok (decide (a=b)) μ ρ:=ok_bind ha (ok_bind hb eq_int)
theorem cne {ma mb:M V} (ha:ma μ ρ=.ok (.int a) μ ρ) (hb:mb μ ρ=.ok (.int b) μ ρ):cmp .NotEq ma mb μ ρ=.ok (!decide (a=b)) μ ρ:=ok_bind ha (ok_bind hb ne_int)
theorem get_at {f:Fd} {o:O} (h:μ[r]?=some o) (hv:getO f o=some v):getA f (.ref r) μ ρ=.ok v μ ρ:=rd_ok (f:=λμ=>(μ[r]?).bind (getO f)) (by rw [h];exact hv)
theorem set_at {f:Fd} {o o':O} (h:μ[r]?=some o) (hv:putO f v o=some o'):setA f (.ref r) v μ ρ=.ok () (μ.set r o') ρ:=wr_ok (f:=λμ=>((μ[r]?).bind (putO f v)).map λo'=>((),μ.set r o')) (by
  rw [h]
  show Option.map _ (putO f v o)=_
  rw [hv];rfl)
end
end
section
open PySem
noncomputable def pv (p:Int×Int):V:=.tup [.int p.1,.int p.2]
noncomputable def endsP (p:Int×Int):Int×Int:=(min p.1 p.2,max p.1 p.2)
noncomputable def mstep (out:List (Int×Int)) (p:Int×Int):List (Int×Int):=match out.getLast? with
  | some q=>if p.1<=q.2+1 then out.dropLast++[(q.1,max q.2 p.2)] else out++[p]
  | none=>[p]
noncomputable def merge (l:List (Int×Int)):List (Int×Int):=l.foldl mstep []
noncomputable def plain (ps:List (Int×Int)):List (Int×Int):=merge (sortBy ltP (ps.map endsP))
section
variable {n:Nat} {μ:List O} {ρ:List (Option V)} {Q:V->List O->Prop} {X:List O->Prop} {R:Asn}
theorem s73 {a b g:Int} (ha:a≠0) (hb:b≠0):phiT tab (n+1) 73 [pv (a,b),.int g] μ=.ok (pv (endsP (a,b))) μ:=
  have na:=decide_eq_false ha
  have nb:=decide_eq_false hb
  CRw.eq (g73 (W_n rfl (W_n (ok_f (tst (and_ok (ceq rfl rfl) (and1 (or_ok (ceq rfl rfl) (or1 (ceq rfl rfl))))) (by rw [na,nb,Bool.or_false,Bool.and_false])) rfl) (W_n (ok_f (tst (ceq rfl rfl) na) rfl) (W_n (ok_f (tst (ceq rfl rfl) nb) rfl)
    (W_r (ok_bind (ok_bind (each2 (ok_bind rfl min2) (ok_bind rfl max2)) (tup_ok (by decide:2<=big))) rfl) ⟨rfl,rfl⟩))))))
theorem lst_nil:lst true [] μ ρ=.ok (.ref μ.length) (μ++[.list []]) ρ:=rfl
theorem nil_or_snoc {α:Type} (l:List α):l=[]∨∃ d x,l=d++[x]:=(List.eq_nil_or_concat l).imp id λ⟨d,x,h⟩=>⟨d,x,h.trans List.concat_eq_append⟩
theorem pairs_map:∀ (l:List (Int×Int)),pairsOf (l.map pv)=some l
  | []=>rfl
  | p :: r=>congrArg (Option.map (p :: ·)) (pairs_map r)
theorem ins_len {α:Type} {lt:α->α->Bool} (x:α):∀ l:List α,(insBy lt x l).length=l.length+1
  | []=>rfl
  | y :: r=>by
    unfold insBy
    cases lt x y
    · exact congrArg Nat.succ (ins_len x r)
    · rfl
theorem sort_len {α:Type} {lt:α->α->Bool}:∀ (l:List α),(sortBy lt l).length=l.length
  | []=>rfl
  | a :: l=>(ins_len a _).trans (congrArg Nat.succ (sort_len l))
theorem mstep_snoc {d:List (Int×Int)} {l q:Int×Int}:mstep (d++[l]) q=if q.1<=l.2+1 then d++[(l.1,max l.2 q.2)] else d++[l]++[q]:=by
  unfold mstep
  rw [List.getLast?_concat,List.dropLast_concat]
theorem mstep_len (out:List (Int×Int)) (p:Int×Int):(mstep out p).length<=out.length+1:=by
  rcases nil_or_snoc out with rfl | ⟨d,l,rfl⟩
  · exact Nat.le_refl _
  · rw [mstep_snoc]
    split
    · rw [List.length_append,List.length_append];exact Nat.le_succ _
    · rw [List.length_append];exact Nat.le_refl _
theorem fold_len:∀ (l o:List (Int×Int)),(l.foldl mstep o).length<=o.length+l.length
  | [],_=>Nat.le_refl _
  | a :: l,o=>Nat.le_trans (fold_len l _) (Nat.le_trans (Nat.add_le_add_right (mstep_len o a) _) (Nat.le_of_eq (Nat.succ_add_eq_add_succ _ _)))
theorem merge_len (l:List (Int×Int)):(merge l).length<=l.length:=Nat.le_trans (fold_len l []) (Nat.le_of_eq (Nat.zero_add _))
theorem plain_len (ps:List (Int×Int)):(plain ps).length<=ps.length:=Nat.le_trans (merge_len _) (Nat.le_of_eq ((sort_len _).trans (List.length_map ..)))
theorem merge_snoc {dn:List (Int×Int)} {q:Int×Int}:merge (dn++[q])=mstep (merge dn) q:=List.foldl_append
theorem pv_snoc {d:List (Int×Int)} {l:Int×Int}:(d++[l]).map pv=d.map pv++[pv l]:=List.map_append
noncomputable abbrev pvs (l:List (Int×Int)):O:=.list (l.map pv)
theorem b80 {Φ:Tab} {Q:Fl->List O->List (Option V)->Prop} {out:List (Int×Int)} {q:Int×Int} {L L2:Nat} {o:O} {v0 v1 v2 v3 v4 v6 v7:Option V} (h:H ((pt L o).s ((pt L2 (pvs out)).s R)) μ) (hb:out.length<64)
    (k:∀ μ',H ((pt L o).s ((pt L2 (pvs (mstep out q))).s R)) μ'->Q .next μ' [v0,v1,v2,v3,v4,some (.ref L2),some (.int q.1),some (.int q.2)]):W (b80_2 Φ (pv q)) Q X μ [v0,v1,v2,v3,v4,some (.ref L2),v6,v7]:=by
  have hbig:(out.map pv).length<=big:=len_le (n:=64) (by rw [List.length_map];exact Nat.le_of_lt hb) rfl
  have app:(out.map pv++[pv q]).length<=big:=len_le (n:=64) (by rw [List.length_append,List.length_map];exact hb) rfl
  have g:=h.sw.get
  have ha:exS (meth Φ (ld 5) (Str.ofString "append") (each [tup [ld 6,ld 7]])) μ [v0,v1,v2,v3,v4,some (.ref L2),some (.int q.1),some (.int q.2)]=.ok .next (μ.set L2 (.list (out.map pv++[pv q]))) [v0,v1,v2,v3,v4,some (.ref L2),some (.int q.1),some (.int q.2)]:=
    ok_bind (append_ok rfl (each1 (ok_bind rfl (tup_ok (by decide:2<=big)))) g app) rfl
  refine W_s rfl (W_sq ?_)
  rcases nil_or_snoc out with rfl | ⟨d,l,rfl⟩
  · exact W_f (ok_f (ok_bind (ok_bind rfl (len_ref g hbig)) rfl) rfl) (W_n ha (W_e rfl (W_e rfl (k _ (h.sw.put _).sw))))
  · rw [mstep_snoc] at k
    rw [show pvs (d++[l])=.list (d.map pv++[pv l]) from congrArg O.list pv_snoc] at h g
    rw [pv_snoc] at ha hbig
    have hidx:∀ ρ,idxM (.ref L2) (.int (-1)) μ ρ=.ok (pv l) μ ρ:=λρ=>idx_list g (by decide) (itemAt_last _ _)
    have i1:∀ ρ,ρ[5]?=some (some (V.ref L2))->idx (ld 5) (bindM (retM (.int 1)) (unM .USub)) μ ρ=.ok (pv l) μ ρ:=λρ e=>ok_bind (a:=.ref L2) (by unfold ld ldAt;show (match ρ[5]? with | some (some v)=>_ | _=>_)=_;rw [e]) (ok_bind rfl (hidx ρ))
    refine W_if (c:=decide (q.1<=l.2+1)) (ok_t (ok_bind (ok_bind rfl (len_ref g hbig)) (congrArg (λb=>Res.ok b μ _) (decide_eq_true (by rw [List.length_append];exact Int.natCast_pos.mpr (Nat.succ_pos _))))) (and1 (ok_bind rfl (ok_bind (ok_bind (ok_bind (i1 _ rfl) rfl) rfl) rfl)))) (λhc=>?_) λhc=>?_
    · rw [if_pos (of_decide_eq_true hc),show pvs (d++[(l.1,max l.2 q.2)])=.list (d.map pv++[pv (l.1,max l.2 q.2)]) from congrArg O.list pv_snoc] at k
      refine W_n (ok_bind (ok_bind (each2 (ok_bind (i1 _ rfl) rfl) (ok_bind (each2 (ok_bind (i1 _ rfl) rfl) rfl) max2)) (tup_ok (by decide:2<=big))) (ok_bind (ok_bind rfl (ok_bind rfl (put_list g (by decide) (placeAt_last _ _)))) rfl)) (W_e rfl (W_e rfl (k _ ?_)))
      rw [List.set_append_right _ _ (Nat.le_refl _),Nat.sub_self]
      exact (h.sw.put _).sw
    · rw [if_neg (of_decide_eq_false hc),show pvs (d++[l]++[q])=.list (d.map pv++[pv l]++[pv q]) from congrArg O.list (by rw [pv_snoc,pv_snoc])] at k
      exact W_n ha (W_e rfl (W_e rfl (k _ (h.sw.put _).sw)))
theorem b80a {Φ:Tab} {Q:Fl->List O->List (Option V)->Prop} {dn:List V} {L:Nat} {p:Int×Int} {g:V} {v0 v3 v4 v5 v6 v7:Option V} (hΦ:Φ 73 [pv p,g] μ=.ok (pv (endsP p)) μ) (h:H ((pt L (.list dn)).s R) μ) (hb:dn.length<64)
    (k:∀ μ',H ((pt L (.list (dn++[pv (endsP p)]))).s R) μ'->Q .next μ' [v0,some g,some (.ref L),some (pv p),some (pv (endsP p)),v5,v6,v7]):W (b80_1 Φ (pv p)) Q X μ [v0,some g,some (.ref L),v3,v4,v5,v6,v7]:=
  W_s rfl (W_an (ok_bind rfl (call_eq hΦ)) (W_n (ok_t rfl (ok_bind (ok_bind (append_ok rfl rfl h.get (len_le (n:=64) (by rw [List.length_append];exact hb) rfl)) rfl) rfl)) (W_e rfl (k _ (h.put _)))))
theorem s80 {g:Int} {ps:List (Int×Int)} (hne:∀ p∈ps,p.1≠0/\p.2≠0) (hl:ps.length<64) (h:H R μ) (k:∀ μ',H R μ'->Q (.tup ((plain ps).map pv)) μ'):CRw (phiT tab (n+2) 80 [.tup (ps.map pv),.int g] μ) Q X:=by
  refine g80 (W_an (lst_nil) (W_sq (W_s rfl (W_for pv (λdn (z:Option V×Option V) μ1=>H ((pt μ.length (.list (dn.map λp=>pv (endsP p)))).s R) μ1) (λz=>[some (.tup (ps.map pv)),some (.int g),some (.ref μ.length),z.1,z.2,none,none,none]) (λ_ _ _ _ _=>rfl) ?_ ?_ (z:=(none,none)) (h.new _)))))
  · intro dn x r z μ1 Q' e j n1
    have hx:=hne x (e▸List.mem_append_right _ List.mem_cons_self)
    refine b80a (s73 hx.1 hx.2) j ?_ λμ' j'=>n1 (_,_) μ' (by rw [List.map_append];exact j')
    rw [List.length_map]
    exact Nat.lt_of_le_of_lt (by rw [←e,List.length_append];exact Nat.le_add_right _ _) hl
  · intro z μ1 j
    have hs:sortP (ps.map λp=>pv (endsP p))=some ((sortBy ltP (ps.map endsP)).map pv):=by
      unfold sortP
      rw [if_neg (by rw [List.length_map];exact Nat.not_le.mpr hl),show (ps.map λp=>pv (endsP p))=(ps.map endsP).map pv from by rw [List.map_map];rfl,pairs_map]
      rfl
    have h2:=((j.put (pvs (sortBy ltP (ps.map endsP)))).new (.list [])).sw
    refine W_n (ok_bind (ok_bind rfl (ok_bind (pick_list j.get rfl) (ok_bind rfl (do_list j.get (by rw [hs];rfl))))) rfl) (W_an (lst_nil) (W_sq (W_s (ok_bind rfl (src_ref h2.get)) (W_for pv (λdn (z':Option V×Option V) μ2=>H ((pt μ.length (pvs (sortBy ltP (ps.map endsP)))).s ((pt _ (pvs (merge dn))).s R)) μ2) (λz'=>[some (.tup (ps.map pv)),some (.int g),some (.ref μ.length),z.1,z.2,some (.ref _),z'.1,z'.2]) (λ_ _ _ _ j=>still_ok (still_at j.get)) ?_ ?_ (z:=(none,none)) h2))))
    · intro dn x r z' μ2 Q' e j n1
      refine b80 j (Nat.lt_of_le_of_lt (Nat.le_trans (merge_len dn) ?_) hl) λμ' j'=>n1 (_,_) μ' (by rw [merge_snoc];exact j')
      have:=congrArg List.length e
      rw [sort_len,List.length_map,List.length_append] at this
      exact this▸Nat.le_add_right _ _
    · intro z' μ2 j
      exact W_r (ok_bind (ok_bind rfl (ok_bind (lseq_ref j.sw.get) (tup_ok (len_le (n:=64) (by rw [List.length_map];exact Nat.le_of_lt (Nat.lt_of_le_of_lt (plain_len ps) hl)) rfl)))) rfl) (k _ j.drop.drop)
end
end
section
open PySem
noncomputable def irange (lo hi:Int):List Int:=(List.range (hi - lo).toNat).map λk:Nat=>lo+(k:Int)
theorem rng_irange (lo hi:Int):rngList lo hi=(irange lo hi).map .int:=by unfold rngList irange;rw [List.map_map];rfl
theorem mem_irange {lo hi x:Int}:x∈irange lo hi↔lo<=x/\x<hi:=by
  unfold irange
  rw [List.mem_map]
  constructor
  · rintro ⟨k,hk,rfl⟩
    exact ⟨Int.le_add_of_nonneg_right (Int.natCast_nonneg k),Int.add_lt_of_lt_sub_left (Int.lt_toNat.mp (List.mem_range.mp hk))⟩
  · exact λh=>⟨(x - lo).toNat,List.mem_range.mpr (Int.lt_toNat.mpr (by rw [Int.toNat_of_nonneg (Int.sub_nonneg_of_le h.1)];exact Int.sub_lt_sub_right h.2 lo)),by rw [Int.toNat_of_nonneg (Int.sub_nonneg_of_le h.1),Int.add_comm,Int.sub_add_cancel]⟩
theorem irange_len (lo hi:Int):(irange lo hi).length=(hi - lo).toNat:=(List.length_map ..).trans List.length_range
noncomputable def numbers (g:Int) (ps:List (Int×Int)):List Int:=(plain ps).flatMap λp=>irange p.1 (min p.2 g+1)
noncomputable def uidsOf (ps:List (Int×Int)):List Int:=match (plain ps).getLast? with
  | some q=>numbers q.2 (plain ps)
  | none=>[]
noncomputable def sizeOfP (ps:List (Int×Int)):Int:=((plain ps).map λp=>p.2 - p.1+1).sum
noncomputable def spread (ps:List (Int×Int)):List Int:=ps.flatMap λp=>irange (min p.1 p.2) (max p.1 p.2+1)
noncomputable def Sm (p:Int×Int):Prop:=1<=p.1/\p.1<=100/\1<=p.2/\p.2<=100
theorem Sm.ne {p:Int×Int} (h:Sm p):p.1≠0/\p.2≠0:=⟨λe=>absurd h.1 (e▸by decide),λe=>absurd h.2.2.1 (e▸by decide)⟩
theorem Sm.max {p:Int×Int} (h:Sm p):max p.1 p.2<=100:=Int.max_le.mpr ⟨h.2.1,h.2.2.2⟩
theorem Sm.min {p:Int×Int} (h:Sm p):1<=min p.1 p.2:=Int.le_min.mpr ⟨h.1,h.2.2.1⟩
theorem mem_ins {α:Type} {lt:α->α->Bool} {x y:α}:∀ {l:List α},y∈insBy lt x l↔y=x∨y∈l
  | []=>List.mem_cons
  | a :: l=>by
    unfold insBy
    cases lt x a
    · exact List.mem_cons.trans ((or_congr_right mem_ins).trans (or_left_comm.trans (or_congr_right List.mem_cons.symm)))
    · exact List.mem_cons
theorem mem_sort {α:Type} {lt:α->α->Bool} {y:α}:∀ {l:List α},y∈sortBy lt l↔y∈l
  | []=>Iff.rfl
  | a :: l=>mem_ins.trans ((or_congr_right mem_sort).trans List.mem_cons.symm)
theorem mstep_sm {o:List (Int×Int)} {p:Int×Int} (ho:∀ q∈o,Sm q) (hp:Sm p):∀ q∈mstep o p,Sm q:=by
  rcases nil_or_snoc o with rfl | ⟨d,l,rfl⟩
  · exact λq m=>List.mem_singleton.mp m▸hp
  · rw [mstep_snoc]
    have hl:=ho l (List.mem_append_right _ List.mem_cons_self)
    split
    · exact λq hq=>(List.mem_append.mp hq).elim (λm=>ho q (List.mem_append_left _ m)) λm=>List.mem_singleton.mp m▸⟨hl.1,hl.2.1,Int.le_trans hl.2.2.1 (Int.le_max_left ..),Int.max_le.mpr ⟨hl.2.2.2,hp.2.2.2⟩⟩
    · exact λq hq=>(List.mem_append.mp hq).elim (ho q) λm=>List.mem_singleton.mp m▸hp
theorem fold_sm:∀ (l o:List (Int×Int)),(∀ q∈o,Sm q)->(∀ q∈l,Sm q)->∀ q∈l.foldl mstep o,Sm q
  | [],_,ho,_=>ho
  | _ :: l,_,ho,hl=>fold_sm l _ (mstep_sm ho (hl _ List.mem_cons_self)) λq hq=>hl q (List.mem_cons_of_mem _ hq)
theorem plain_sm {ps:List (Int×Int)} (h:∀ p∈ps,Sm p):∀ p∈plain ps,Sm p:=fold_sm _ [] (λ_ m=>nomatch m) λq hq=>by
  obtain ⟨p,hp,rfl⟩:=List.mem_map.mp (mem_sort.mp hq)
  have:=h p hp
  exact ⟨this.min,Int.le_trans (Int.min_le_left ..) this.2.1,Int.le_trans this.1 (Int.le_max_left ..),this.max⟩
theorem flat_len {α β:Type} {f:α->List β} {k:Nat}:∀ {l:List α},(∀ p∈l,(f p).length<=k)->(l.flatMap f).length<=l.length * k
  | [],_=>Nat.zero_le _
  | a :: l,h=>by
    rw [List.flatMap_cons,List.length_append,List.length_cons,Nat.succ_mul,Nat.add_comm]
    exact Nat.add_le_add (flat_len λp m=>h p (List.mem_cons_of_mem _ m)) (h a List.mem_cons_self)
theorem len_small {a b:Int} {k:Nat} (h:b<=k+a):(irange a b).length<=k:=by rw [irange_len];exact Int.toNat_le.mpr (Int.sub_right_le_of_le_add h)
section
variable {n:Nat} {μ:List O} {ρ:List (Option V)} {Q:V->List O->Prop} {X:List O->Prop} {R:Asn} {ps:List (Int×Int)}
theorem src_to {m:M V} {b:Int} (hm:m μ ρ=.ok (.int b) μ ρ) (h:0<=b) (h':b<=1000000):srcE (bi false .tRange (each [m])) μ ρ=.ok (none,(irange 0 b).map .int) μ ρ:=
  have h0:-1000000<=b:=Int.le_trans (by decide) h
  ok_bind (ok_bind (each1 hm) (range1 (fits_le h0 h'))) (rng_irange 0 b▸src_rng (by decide) (by decide) h0 h')
theorem src_two {m m':M V} {a b:Int} (hm:m μ ρ=.ok (.int a) μ ρ) (hm':m' μ ρ=.ok (.int b) μ ρ) (h1:-1000000<=a) (h2:a<=1000000) (h3:-1000000<=b) (h4:b<=1000000):srcE (bi false .tRange (each [m,m'])) μ ρ=.ok (none,(irange a b).map .int) μ ρ:=
  ok_bind (ok_bind (each2 hm hm') (range2 (fits_le h1 h2) (fits_le h3 h4))) (rng_irange a b▸src_rng h1 h2 h3 h4)
theorem pvl (h:ps.length<64):(ps.map pv).length<=big:=len_le (n:=64) (by rw [List.length_map];exact Nat.le_of_lt h) rfl
theorem s87 (hs:∀ p∈ps,Sm p) (hl:ps.length<64) (h:H R μ) (k:∀ μ',H R μ'->Q (.tup ((plain ps).map pv)) μ'):CRw (phiT tab (n+3) 87 [.tup (ps.map pv)] μ) Q X:=by
  have hn:((ps.map pv).length:Int)<=64:=by rw [List.length_map];exact Int.ofNat_le.mpr (Nat.le_of_lt hl)
  refine g87 (W_sq (W_s (src_to (ok_bind rfl (len_tup (pvl hl))) (Int.natCast_nonneg _) (Int.le_trans hn (by decide))) (W_for V.int (λ_ (z:Option V) μ1=>H R μ1) (λz=>[some (.tup (ps.map pv)),z]) (λ_ _ _ _ _=>rfl) ?_ ?_ (z:=none) h)))
  · intro dn x r z μ1 Q' e j n1
    obtain ⟨h0,h1⟩:=mem_irange.mp (e▸List.mem_append_right _ List.mem_cons_self)
    rw [List.length_map] at h1 hn
    have hx:x.toNat<ps.length:=(Int.toNat_lt h0).mpr h1
    have hat:∀ ρ,idxM (.tup (ps.map pv)) (.int x) μ1 ρ=.ok (pv ps[x.toNat]) μ1 ρ:=λρ=>idx_tup (fits_le (Int.le_trans (by decide) h0) (Int.le_trans (Int.le_of_lt h1) (Int.le_trans hn (by decide)))) (item_int h0 (by rw [List.getElem?_map,List.getElem?_eq_getElem hx];rfl))
    obtain ⟨n0,n2⟩:=(hs _ (List.getElem_mem hx)).ne
    exact W_s rfl (W_n (ok_f (tst (or_ok (ceq (ok_bind (ok_bind rfl (ok_bind rfl (hat _))) rfl) rfl) (or1 (ceq (ok_bind (ok_bind rfl (ok_bind rfl (hat _))) rfl) rfl))) (by rw [decide_eq_false n0,decide_eq_false n2];rfl)) rfl) (W_e rfl (n1 _ _ j)))
  · intro z μ1 j
    exact W_sq (W_bind (W_cl rfl (s80 (λp m=>(hs p m).ne) hl j λμ' j'=>k μ' j')))
theorem s108 (hs:∀ p∈ps,Sm p) (hl:ps.length<64) (h:H R μ) (k:∀ μ',H R μ'->Q (.int (sizeOfP ps)) μ'):CRw (phiT tab (n+4) 108 [.tup (ps.map pv)] μ) Q X:=
  g108 (W_n rfl (W_sq (W_bind (W_bind (W_cl rfl (s87 hs hl h λμ' j=>W_e rfl (W_for pv (λdn (z:Int×Option V×Option V) μ1=>H R μ1/\z.1=(dn.map λp=>p.2 - p.1+1).sum) (λz=>[some (.tup (ps.map pv)),some (.int z.1),z.2.1,z.2.2]) (λ_ _ _ _ _=>rfl)
    (λdn x r z μ1 Q' e j n1=>W_s rfl (W_n rfl (W_e rfl (n1 (_,_,_) _ ⟨j.1,by
      show z.1+(x.2 - x.1+1)=_
      rw [j.2,List.map_append,List.sum_append,List.map_singleton,List.sum_singleton]⟩)))) (λz μ1 j=>by exact W_nx (W_r rfl (by
        show Q (.int z.1) _
        rw [j.2];exact k _ j.1))) (z:=(0,none,none)) ⟨j,rfl⟩)))))))
theorem rngs {g:Int} {p:Int×Int} (hp:Sm p) (hg:0<=g/\g<=100):-1000000<=p.1/\p.1<=1000000 /\ -1000000<=min p.2 g+1/\min p.2 g+1<=1000000/\min p.2 g+1<=(100:Nat)+p.1:=
  have h:=Int.le_trans (Int.min_le_left p.2 g) hp.2.2.2
  ⟨Int.le_trans (by decide) hp.1,Int.le_trans hp.2.1 (by decide),Int.le_trans (by decide) (Int.add_le_add_right (Int.le_min.mpr ⟨Int.le_trans (by decide) hp.2.2.1,hg.1⟩) 1),Int.le_trans (Int.add_le_add_right h 1) (by decide),Int.add_le_add h hp.1⟩
theorem s101 {g:Int} (hs:∀ p∈ps,Sm p) (hl:ps.length<64) (hg:0<=g/\g<=100) (h:H R μ) (k:∀ L μ',H ((pt L (.list ((numbers g ps).map .int))).s R) μ'->Q (.ref L) μ'):CRw (phiT tab (n+3) 101 [.tup (ps.map pv),.int g] μ) Q X:=by
  refine g101 (W_an lst_nil (W_sq (W_bind (W_bind (W_cl rfl (s80 (λp m=>(hs p m).ne) hl (h.new (.list [])) λμ' j=>W_e rfl (W_for pv (λdn (z:Option V×Option V) μ1=>H ((pt μ.length (.list ((dn.flatMap λp=>irange p.1 (min p.2 g+1)).map .int))).s R) μ1) (λz=>[some (.tup (ps.map pv)),some (.int g),some (.ref μ.length),z.1,z.2]) (λ_ _ _ _ _=>rfl) ?_
    (λz μ1 j=>by exact W_nx (W_r rfl (k _ _ j))) (z:=(none,none)) j)))))))
  intro dn x r z μ1 Q' e j n1
  have hx:=plain_sm hs x (e▸List.mem_append_right _ List.mem_cons_self)
  obtain ⟨r1,r2,r3,r4,_⟩:=rngs hx hg
  have hfl:((dn++[x]).flatMap λp=>irange p.1 (min p.2 g+1)).length<=big:=Nat.le_trans (flat_len (k:=100) λp m=>len_small (rngs (plain_sm hs p (e▸(by
    rw [List.append_cons dn x r];exact List.mem_append_left _ m))) hg).2.2.2.2) (Nat.le_trans (Nat.mul_le_mul_right 100 (m:=64) (Nat.le_trans (by rw [←e,List.append_cons dn x r,List.length_append (as:=dn++[x])];exact Nat.le_add_right _ _) (Nat.le_of_lt (Nat.lt_of_le_of_lt (plain_len ps) hl)))) (by decide))
  have ha:(dn.flatMap λp=>irange p.1 (min p.2 g+1)).map V.int++rngList x.1 (min x.2 g+1)=((dn++[x]).flatMap λp=>irange p.1 (min p.2 g+1)).map .int:=by
    rw [rng_irange,List.flatMap_append,List.map_append,List.flatMap_singleton]
  exact W_s rfl (W_n (ok_bind (ok_bind rfl (ok_bind (pick_list j.get rfl) (ok_bind (each1 (ok_bind (each2 rfl (ok_bind (ok_bind rfl min2) rfl)) (range2 (fits_le r1 r2) (fits_le r3 r4)))) (gd_ok (rng_ok r1 r2 r3 r4) (do_list j.get (if_pos (by rw [ha,List.length_map];exact hfl))))))) rfl) (W_e rfl (n1 (_,_) _ (ha▸j.put _))))
theorem s267 (hs:∀ p∈ps,Sm p) (hl:ps.length<64) (h:H R μ) (k0:∀ μ',uidsOf ps=[]->H R μ'->Q (.lst []) μ') (k1:∀ L μ',H ((pt L (.list ((uidsOf ps).map .int))).s R) μ'->Q (.ref L) μ'):CRw (phiT tab (n+4) 267 [.tup (ps.map pv)] μ) Q X:=by
  refine g267 (W_aw (W_cl rfl (s80 (λp m=>(hs p m).ne) hl h λμ' j=>?_)))
  have hq:=plain_sm hs
  have hp:=Nat.lt_of_le_of_lt (plain_len ps) hl
  revert k1 k0
  unfold uidsOf
  revert hq hp
  generalize plain ps=qs
  intro hq hp k0 k1
  rcases nil_or_snoc qs with rfl | ⟨d,l,rfl⟩
  · exact W_r (ok_t rfl (ok_bind rfl rfl)) (k0 _ rfl j)
  · rw [List.getLast?_concat] at k1
    have hls:=hq l (List.mem_append_right _ List.mem_cons_self)
    refine W_n (ok_f (tst (ceq (ok_bind rfl (len_tup (pvl hp))) rfl) (decide_eq_false (by rw [List.length_map,List.length_append];exact λe=>absurd (Int.natCast_eq_zero.mp e) (Nat.succ_ne_zero _)))) rfl) (W_sq (W_bind (W_cl (each2 rfl (ok_bind (ok_bind rfl (ok_bind rfl (idx_tup (by decide) (by rw [pv_snoc];exact itemAt_last _ _)))) rfl)) (s101 hq hp ⟨Int.le_trans (by decide) hls.2.2.1,hls.2.2.2⟩ j λL μ' j'=>k1 L μ' j'))))
theorem s356 (hs:∀ p∈ps,Sm p) (hl:ps.length<64):phiT tab (n+1) 356 [.tup (ps.map pv)] μ=.ok (.lst ((spread ps).map .int)) μ:=by
  have hb:∀ p∈ps,(irange (min p.1 p.2) (max p.1 p.2+1)).length<=100:=λp m=>len_small (Int.le_trans (Int.add_le_add_right (hs p m).max 1) (Int.add_le_add_left (hs p m).min _))
  have hcap:(spread ps).length<=big:=Nat.le_trans (flat_len hb) (Nat.le_trans (Nat.mul_le_mul_right 100 (Nat.le_of_lt hl)) (by decide))
  have e:ps.flatMap (λp=>(irange (min p.1 p.2) (max p.1 p.2+1)).map V.int)=(spread ps).map .int:=(List.map_flatMap ..).symm
  refine CRw.eq (g356 (W_r (ok_bind ((comp_list (l:=ps) pv (λp=>(irange (min p.1 p.2) (max p.1 p.2+1)).map .int) (λo:Option V×Option V=>[none,o.1,o.2]) (none,none) rfl rfl rfl ?_ ?_).trans (lst_f (by rw [e,List.length_map];exact hcap))) rfl) ⟨congrArg V.lst e,rfl⟩))
  · intro p m z acc hc
    have hp:=hs p m
    obtain ⟨z',e⟩:=turns_eq (st:=stillM none) (turn:=c356_0) (μ:=μ) (λ_=>rfl) V.int (λx=>[V.int x]) (λo=>[none,some (pv p),o]) (irange (min p.1 p.2) (max p.1 p.2+1)) z.2 acc (λx _ z acc h=>⟨_,ok_bind rfl (ok_bind rfl (emit_ok h))⟩) (by rw [flat_sing];exact hc)
    rw [flat_sing] at e
    exact ⟨(_,_),ok_bind rfl (ok_bind (src_two (ok_bind rfl min1) (ok_bind (ok_bind rfl max1) rfl) (Int.le_trans (by decide) hp.min) (Int.le_trans (Int.min_le_left ..) (Int.le_trans hp.2.1 (by decide))) (Int.le_trans (by decide) (Int.add_le_add_right (Int.le_trans hp.1 (Int.le_max_left ..)) 1)) (Int.le_trans (Int.add_le_add_right hp.max 1) (by decide))) e)⟩
  · rw [e,List.length_map];exact hcap
end
end
section
open PySem
structure InkD (ws:List Int) (x:Int):Prop where
  pos:∀ w∈ws,0<=w
  x0:0<=x
  x1:x<=100000
  len:ws.length<=63
noncomputable def Ink (i:Nat):Asn:=λF=>∃ j ws x,InkD ws x/\F=[(i,.list [.ref j,.int x]),(j,.list (ws.map .int))]
section
variable {n:Nat} {μ μ':List O} {ρ:List (Option V)} {Q:V->List O->Prop} {X:List O->Prop} {R:Asn} {i j r:Nat} {vs us:List V} {t:Bool} {a b:Int}
theorem Ink.open {G:Prop} (h:H ((Ink i).s R) μ) (k:∀ j ws x,InkD ws x->H ((pt i (.list [.ref j,.int x])).s ((pt j (.list (ws.map .int))).s R)) μ->G):G:=by
  obtain ⟨_,⟨_,B,e,⟨j,ws,x,d,e2⟩,hB⟩,q⟩:=h
  exact k j ws x d ⟨_,⟨[_],_,rfl,rfl,[_],B,rfl,rfl,hB⟩,by rw [e,e2] at q;exact q⟩
theorem Ink.close {ws:List Int} {x:Int} (d:InkD ws x) (h:H ((pt i (.list [.ref j,.int x])).s ((pt j (.list (ws.map .int))).s R)) μ):H ((Ink i).s R) μ:=by
  obtain ⟨_,⟨_,_,e,e2,_,B,e3,e4,hB⟩,q⟩:=h
  exact ⟨_,⟨_,B,rfl,⟨j,ws,x,d,rfl⟩,hB⟩,by rw [e,e2,e3,e4] at q;exact q⟩
theorem okV_ints (n:Nat):∀ l:List Int,(l.map V.int).all (okV n)=true
  | []=>rfl
  | a :: l=>Bool.and_eq_true_iff.mpr ⟨by cases n <;> rfl,okV_ints n l⟩
theorem eq_data {a b:V} (pa:plainL μ a=some a) (pb:plainL μ b=some b) (ba:a.bool?=none) (ha:okV 8 a=true) (hb:okV 8 b=true):eqL μ a b=some (decide (a=b)):=by
  unfold eqL
  rw [ba]
  show eqD μ a b=_
  unfold eqD
  rw [pa,pb]
  show (if okV 8 a&&okV 8 b then _ else _)=_
  rw [ha,hb];rfl
theorem eq_list (h:μ[j]?=some (.list vs)) (ho:vs.all (okV 7)=true) (hu:us.all (okV 7)=true):cmpM .Eq (.ref j) (.lst us) μ ρ=.ok (decide (V.lst vs=V.lst us)) μ ρ:=rd_ok (f:=λμ=>eqL μ (.ref j) (.lst us)) (by
  show ((listAt μ j).map V.lst).bind _=_
  rw [listAt_of h]
  show (if (vs.all (okV 7))&&(us.all (okV 7)) then _ else _)=_
  rw [ho,hu];rfl)
theorem mul_ok (h:fits a=true) (h':fits b=true):binM t .Mult (.int a) (.int b) μ ρ=.ok (.int (a * b)) μ ρ:=gd_ok (Bool.and_eq_true_iff.mpr ⟨h,h'⟩) rfl
theorem mod_ok (h:0<b):binM t .Mod (.int a) (.int b) μ ρ=.ok (.int (a % b)) μ ρ:=gd_ok (decide_eq_true h) rfl
theorem div_ok (h:0<b) (h':b<=1000000):binM t .FloorDiv (.int a) (.int b) μ ρ=.ok (.int (a / b)) μ ρ:=gd_ok (Bool.and_eq_true_iff.mpr ⟨decide_eq_true h,decide_eq_true (Int.lt_of_le_of_lt h' (by decide))⟩) rfl
theorem do_pop {Φ:Tab} {x:V} {k:Int} (h:μ[r]?=some (.list vs)) (hb:vs.length<=big) (h0:0<=k) (h1:k<=1000000) (hx:vs[k.toNat]?=some x):methM Φ (.ref r) .pop [.int k] μ ρ=.ok x (μ.set r (.list (eraseAt vs k.toNat))) ρ:=
  gd_ok (Bool.and_eq_true_iff.mpr ⟨fits_le (Int.le_trans (by decide) h0) h1,decide_eq_true h0⟩) (do_list h (by rw [if_pos hb,hx];rfl))
theorem emod_le (h:1<=b):0<=a % b/\a % b<b:=⟨Int.emod_nonneg _ (Int.ne_of_gt h),Int.emod_lt_of_pos _ h⟩
theorem s346 {many:Int} (h:H ((Ink i).s R) μ) (hm:1<=many) (hM:many<=1000000) (k:∀ d μ',0<=d->d<many->H ((Ink i).s R) μ'->Q (.int d) μ'):CRw (phiT tab (n+1) 346 [.ref i,.int many] μ) Q X:=by
  refine Ink.open h λj ws x d h=>?_
  have i0:∀ ρ,idxM (.ref i) (.int 0) μ ρ=.ok (.ref j) μ ρ:=λρ=>idx_list h.get (by decide) rfl
  cases ws with
  | nil=>
    have h2:=h.put (.list [.ref j,.int ((x * 211+37) % 30269)])
    have p:=emod_le (a:=x * 211+37) (b:=30269) (by decide)
    exact g346 (W_sq (W_t (ok_bind (ok_bind rfl (i0 _)) (ok_bind rfl (tst (eq_list h.sw.get rfl rfl) (decide_eq_true rfl)))) (W_n (ok_bind (ok_bind (ok_bind (ok_bind (ok_bind rfl (idx_list h.get (by decide) rfl)) (ok_bind rfl (mul_ok (fits_le (Int.le_trans (by decide) d.x0) (Int.le_trans d.x1 (by decide))) (by decide)))) (ok_bind rfl rfl)) (ok_bind rfl (mod_ok (by decide)))) (ok_bind (ok_bind rfl (ok_bind rfl (put_list h.get (by decide) rfl))) rfl))
      (W_r (ok_bind (ok_bind (ok_bind (ok_bind rfl (idx_list h2.get (by decide) rfl)) (ok_bind rfl (div_ok (by decide) (by decide)))) (ok_bind rfl (mod_ok hm))) rfl) (k _ _ (emod_le hm).1 (emod_le hm).2 (Ink.close ⟨d.pos,p.1,Int.le_trans (Int.le_of_lt p.2) (by decide),d.len⟩ h2))))))
  | cons w ws=>
    refine g346 (W_n (ok_f (ok_bind (ok_bind rfl (i0 _)) (ok_bind rfl (tst (eq_list h.sw.get (okV_ints _ _) rfl) (decide_eq_false λe=>nomatch e)))) rfl) (W_an (ok_bind (ok_bind rfl (i0 _)) (idx_list h.sw.get (by decide) rfl)) (W_join (σ:=Unit) (λ_ μ'=>H ((Ink i).s R) μ') (λ_=>[some (.ref i),some (.int many),some (.int w)]) (λQ' k'=>?_) λ_ μ' j'=>?_)))
    · refine W_if (c:=decide (w<many)) rfl (λ_=>?_) λ_=>?_
      · exact W_n (ok_bind (ok_bind (ok_bind rfl (i0 _)) (ok_bind (pick_list h.sw.get rfl) (ok_bind rfl (do_pop h.sw.get (len_le (n:=63) (by rw [List.length_map];exact d.len) rfl) (by decide) (by decide) rfl)))) rfl) (W_e rfl (k' () _ (Ink.close ⟨λv hv=>d.pos v (List.mem_cons_of_mem _ hv),d.x0,d.x1,Nat.le_of_succ_le d.len⟩ (h.sw.put _).sw)))
      · exact W_n (ok_bind (ok_bind rfl (ok_bind rfl (div_ok hm hM))) (ok_bind (ok_bind (ok_bind rfl (i0 _)) (ok_bind rfl (put_list h.sw.get (by decide) rfl))) rfl)) (W_e rfl (k' () _ (Ink.close (ws:=w / many :: ws) ⟨λv hv=>(List.mem_cons.mp hv).elim (λe=>e▸Int.ediv_nonneg (d.pos w List.mem_cons_self) (Int.le_of_lt hm)) λm=>d.pos v (List.mem_cons_of_mem _ m),d.x0,d.x1,d.len⟩ (h.sw.put _).sw)))
    · exact W_r (ok_bind (ok_bind rfl (ok_bind rfl (mod_ok hm))) rfl) (k _ _ (emod_le hm).1 (emod_le hm).2 j')
theorem W_dig {Q:V->List O->List (Option V)->Prop} {m1 m2:M V} {many:Int} (h1:m1 μ ρ=.ok (.ref i) μ ρ) (h2:m2 μ ρ=.ok (.int many) μ ρ) (h:H ((Ink i).s R) μ) (hm:1<=many) (hM:many<=1000000)
    (k:∀ d μ',0<=d->d<many->H ((Ink i).s R) μ'->Q (.int d) μ' ρ):W (cl (phiT tab (n+1)) 346 (each [m1,m2])) Q X μ ρ:=W_cl (each2 h1 h2) (s346 h hm hM k)
theorem slice_lst {h:Int} (hb:vs.length<=big) (hf:fits h=true):sliceHi false (.lst vs) (.int h) μ ρ=.ok (.lst (vs.take (cutAt vs.length h))) μ ρ:=by
  show gd (decide (vs.length<=big)&&fits h) (lstM false (vs.take (cutAt vs.length h))) μ ρ=_
  exact gd_ok (Bool.and_eq_true_iff.mpr ⟨decide_eq_true hb,hf⟩) (lst_f (Nat.le_trans (List.length_take_le' ..) hb))
theorem s339 {vs:List Int} (hl:vs.length<=63) (h:H R μ) (k:∀ i μ',H ((Ink i).s R) μ'->Q (.ref i) μ'):CRw (phiT tab (n+1) 339 [.lst (vs.map .int)] μ) Q X:=by
  have hb:(vs.map V.int).length<=big:=len_le (n:=63) (by rw [List.length_map];exact hl) rfl
  have hc:(vs.take (cutAt (vs.map V.int).length 36)).length<=63:=Nat.le_trans (List.length_take_le' ..) hl
  have hsrc:∀ ρ,ρ[0]?=some (some (V.lst (vs.map .int)))->srcE (bindM (ld 0) λu=>bindM (retM (.int 36)) (sliceHi false u)) μ ρ=.ok (none,(vs.take (cutAt (vs.map V.int).length 36)).map .int) μ ρ:=λρ e=>
    ok_bind (a:=.lst ((vs.take (cutAt (vs.map V.int).length 36)).map .int)) (ok_bind (a:=.lst (vs.map .int)) (by unfold ld ldAt;show (match ρ[0]? with | some (some v)=>_ | _=>_)=_;rw [e]) (ok_bind (a:=.int 36) rfl (by rw [slice_lst hb (by decide),List.map_take]))) rfl
  have h2:=(((h.new (.list (((vs.take (cutAt (vs.map V.int).length 36)).map λv=>(v.natAbs:Int) % 10 ^ 60).map .int))).new (.list [.ref μ.length,.int (1+((vs.map V.int).length:Int) % 1000)])))
  have st:∀ x∈vs.take (cutAt (vs.map V.int).length 36),∀ (z:Option V) (acc:List V),acc.length+[V.int ((x.natAbs:Int) % 10 ^ 60)].length<=big->∃ z',c339_0 (.int x) (acc,[]) μ [none,z]=.ok (acc++[.int ((x.natAbs:Int) % 10 ^ 60)],[]) μ [none,z']:=λx _ z acc hc=>⟨some (.int x),ok_bind (a:=()) rfl (ok_bind (ok_bind (a:=.int x.natAbs) rfl (ok_bind (a:=.int (10 ^ 60)) rfl (mod_ok (by decide)))) (emit_ok hc))⟩
  have hc1:=comp_map (t:=true) V.int (λv=>.int ((v.natAbs:Int) % 10 ^ 60)) (λz=>[none,z]) none (hsrc [some (.lst (vs.map .int))] rfl) rfl (L:=[none,none]) rfl st (Nat.le_trans hc (by decide))
  rw [show (λv:Int=>V.int ((v.natAbs:Int) % 10 ^ 60))=V.int∘λv=>(v.natAbs:Int) % 10 ^ 60 from rfl,←List.map_map] at hc1
  have d:InkD ((vs.take (cutAt (vs.map V.int).length 36)).map λv=>(v.natAbs:Int) % 10 ^ 60) (1+((vs.map V.int).length:Int) % 1000):=⟨λw m=>by obtain ⟨v,_,rfl⟩:=List.mem_map.mp m;exact Int.emod_nonneg _ (by decide),Int.add_nonneg (by decide) (Int.emod_nonneg _ (by decide)),Int.le_trans (Int.add_le_add_left (Int.le_of_lt (Int.emod_lt_of_pos _ (by decide))) 1) (by decide),by rw [List.length_map];exact hc⟩
  refine g339 (W_r (ok_bind (ok_bind (each2 (hc1.trans (lst_t (by rw [List.length_map,List.length_map];exact Nat.le_trans hc (by decide)))) (ok_bind (a:=.int 1) rfl (ok_bind (ok_bind (ok_bind rfl (len_lst hb)) (ok_bind (a:=.int 1000) rfl (mod_ok (by decide)))) rfl))) (lst_t (by decide:2<=big))) rfl)
    (k _ _ (Ink.close d h2)))
end
end
section
open PySem
set_option genSizeOf false in
set_option genInjectivity true in
structure Lt where
  u:Int
  f:V
  m:Int
  deriving DecidableEq
noncomputable def Lt.v (l:Lt):V:=.tup [.int l.u,l.f,.int l.m]
noncomputable def bv (b:List Lt):V:=.tup (b.map Lt.v)
structure FlagOK (f:V):Prop where
  ok:∀ n,okV (n+1) f=true
  key:∀ n,keyV (n+1) f=true
  nostr:isStrV f=false
noncomputable def BoxOK (b:List Lt):Prop:=∀ l∈b,FlagOK l.f
theorem okV_lt {l:Lt} (h:FlagOK l.f) (n:Nat):okV (n+2) l.v=true:=Bool.and_eq_true_iff.mpr ⟨h.ok n,rfl⟩
theorem all_map {α β:Type} {f:α->β} {p:β->Bool} {l:List α} (h:∀ x∈l,p (f x)=true):(l.map f).all p=true:=List.all_eq_true.mpr λy m=>by obtain ⟨x,hx,rfl⟩:=List.mem_map.mp m;exact h x hx
theorem okV_bv {b:List Lt} (h:BoxOK b) (n:Nat):okV (n+3) (bv b)=true:=all_map λl m=>okV_lt (h l m) n
theorem keyV_lt {l:Lt} (h:FlagOK l.f) (n:Nat):keyV (n+2) l.v=true:=Bool.and_eq_true_iff.mpr ⟨h.key n,rfl⟩
theorem keyV_bv {b:List Lt} (h:BoxOK b) (n:Nat):keyV (n+3) (bv b)=true:=all_map λl m=>keyV_lt (h l m) n
theorem Lt.v_inj {a b:Lt} (h:a.v=b.v):a=b:=by
  have h1:=List.cons.inj (V.tup.inj h)
  have h2:=List.cons.inj h1.2
  cases a;cases b
  cases V.int.inj h1.1
  cases h2.1
  cases V.int.inj (List.cons.inj h2.2).1
  rfl
theorem map_inj {α β:Type} {f:α->β} (hf:∀ a b,f a=f b->a=b):∀ {l k:List α},l.map f=k.map f->l=k
  | [],[],_=>rfl
  | _ :: _,[],h=>nomatch h
  | a :: l,b :: k,h=>congr (congrArg List.cons (hf _ _ (List.cons.inj h).1)) (map_inj hf (List.cons.inj h).2)
theorem bv_inj {a b:List Lt} (h:bv a=bv b):a=b:=map_inj (λ_ _=>Lt.v_inj) (V.tup.inj h)
theorem flag_none:FlagOK .none:=⟨λn=>rfl,λn=>rfl,rfl⟩
noncomputable def lastU (b:List Lt):Int:=match b.getLast? with
  | some l=>l.u
  | none=>0
noncomputable def newL (u:Int):Lt:=⟨u,.none,0⟩
noncomputable def longer1 (b:List Lt):List (List Lt):=(irange (1+lastU b) 9).map λu=>b++[newL u]
noncomputable def longer (bs:List (List Lt)):List (List Lt):=bs.flatMap longer1
structure BoxS (b:List Lt):Prop where
  ok:BoxOK b
  len:b.length<=100
  lo:-1<=lastU b
  hi:lastU b<=100
section
variable {n:Nat} {μ:List O} {ρ:List (Option V)} {t:Bool}
theorem cat_ok {x y:List V} (h:(x++y).length<=big):binM t .Add (.tup x) (.tup y) μ ρ=.ok (.tup (x++y)) μ ρ:=tup_ok h
theorem cmp_eq {ma mb:M V} {a b:V} {c:Bool} (ha:ma μ ρ=.ok a μ ρ) (hb:mb μ ρ=.ok b μ ρ) (h:eqL μ a b=some c):cmp .Eq ma mb μ ρ=.ok c μ ρ:=ok_bind ha (ok_bind hb (rd_ok (f:=λμ=>eqL μ a b) h))
theorem cmp_ne {ma mb:M V} {a b:V} {c:Bool} (ha:ma μ ρ=.ok a μ ρ) (hb:mb μ ρ=.ok b μ ρ) (h:eqL μ a b=some c):cmp .NotEq ma mb μ ρ=.ok (!c) μ ρ:=ok_bind ha (ok_bind hb (rd_ok (f:=λμ=>(eqL μ a b).map (!·)) (by rw [h];rfl)))
theorem cmp_in {ma mb:M V} {a b:V} {c:Bool} (ha:ma μ ρ=.ok a μ ρ) (hb:mb μ ρ=.ok b μ ρ) (h:inV μ a b=some c):cmp .In ma mb μ ρ=.ok c μ ρ:=ok_bind ha (ok_bind hb (rd_ok (f:=λμ=>inV μ a b) h))
theorem cmp_nin {ma mb:M V} {a b:V} {c:Bool} (ha:ma μ ρ=.ok a μ ρ) (hb:mb μ ρ=.ok b μ ρ) (h:inV μ a b=some c):cmp .NotIn ma mb μ ρ=.ok (!c) μ ρ:=ok_bind ha (ok_bind hb (rd_ok (f:=λμ=>(inV μ a b).map (!·)) (by rw [h];rfl)))
theorem last_of {q:List Lt} (hq:BoxOK q) {y0 y2:Option V}:ifM (cmp .NotEq (ld 1) (tup [])) (idx (idx (ld 1) (bindM (retM (.int 1)) (unM .USub))) (retM (.int 0))) (retM (.int 0)) μ [y0,some (bv q),y2]=.ok (.int (lastU q)) μ [y0,some (bv q),y2]:=by
  refine ok_bind (a:=!decide (bv q=.tup [])) (cmp_ne rfl rfl (eq_data rfl rfl rfl (okV_bv hq 5) rfl)) ?_
  rcases nil_or_snoc q with rfl | ⟨d,l,rfl⟩
  · rfl
  · have e:bv (d++[l])=.tup (d.map Lt.v++[l.v]):=congrArg V.tup List.map_append
    rw [e,decide_eq_false λh=>by cases d <;> exact nomatch V.tup.inj h]
    unfold lastU
    rw [List.getLast?_concat]
    exact ok_bind (ok_bind rfl (ok_bind rfl (idx_tup (by decide) (itemAt_last _ _)))) rfl
theorem s351 {bs:List (List Lt)} (hb:∀ b∈bs,BoxS b) (hl:(longer bs).length<=big):phiT tab (n+1) 351 [.lst (bs.map bv)] μ=.ok (.lst ((longer bs).map bv)) μ:=by
  have e:bs.flatMap (λb=>(longer1 b).map bv)=(longer bs).map bv:=(List.map_flatMap ..).symm
  have hc:(bs.flatMap λb=>(longer1 b).map bv).length<=big:=by rw [e,List.length_map];exact hl
  refine CRw.eq (g351 (W_r (ok_bind ((comp_list bv (λb=>(longer1 b).map bv) (λo:Option V×Option V=>[none,o.1,o.2]) (none,none) rfl rfl rfl ?_ hc).trans (lst_f hc)) rfl) ⟨congrArg V.lst e,rfl⟩))
  intro q m z acc hc
  have hq:=hb q m
  have e2:(irange (1+lastU q) 9).flatMap (λu=>[bv (q++[newL u])])=(longer1 q).map bv:=by rw [flat_sing];unfold longer1;rw [List.map_map];rfl
  obtain ⟨z',e⟩:=turns_eq (st:=stillM none) (turn:=c351_0) (μ:=μ) (λ_=>rfl) V.int (λu=>[bv (q++[newL u])]) (λo=>[none,some (bv q),o]) (irange (1+lastU q) 9) z.2 acc (λx _ z acc h=>⟨some (.int x),ok_bind (a:=()) rfl (ok_bind (ok_bind (a:=bv q) rfl (ok_bind (ok_bind (each1 (ok_bind (a:=[.int x,.none,.int 0]) rfl (tup_ok (by decide:3<=big)))) (tup_ok (by decide:1<=big))) (cat_ok (len_le (n:=101) (by rw [List.length_append,List.length_map];exact Nat.succ_le_succ hq.len) rfl)))) (by
      rw [show V.tup (q.map Lt.v++[.tup [.int x,.none,.int 0]])=bv (q++[newL x]) from congrArg V.tup (by rw [List.map_append];rfl)]
      exact emit_ok h))⟩) (by rw [e2];exact hc)
  rw [e2] at e
  exact ⟨(_,_),ok_bind (a:=()) rfl (ok_bind (src_two (ok_bind rfl (ok_bind (last_of hq.ok) rfl)) rfl (Int.le_trans (by decide) (Int.add_le_add_left hq.lo 1)) (Int.le_trans (Int.add_le_add_left hq.hi 1) (by decide)) (by decide) (by decide)) e)⟩
end
end
section
open PySem
theorem of_inj {a b:String} (h:Str.ofString a=Str.ofString b):a=b:=by
  rw [Str.ofString_eq_byList] at h
  unfold Str.ofStringByList at h
  injection h with h
  exact String.toList_inj.mp (map_inj (λ_ _ h=>Char.toNat_inj.mp h) (List.toArray_inj h))
theorem of_ok (a:String):PyData.strOk (Str.ofString a)=true:=by
  rw [Str.ofString_eq_byList]
  unfold PyData.strOk Str.ofStringByList
  rw [←Array.all_toList]
  exact all_map λc _=>decide_eq_true (c.valid.elim (λh=>Nat.lt_of_lt_of_le h (by decide)) λh=>h.2)
noncomputable def tx (s:String):V:=.str (Str.ofString s)
theorem okV_tx (n:Nat) (s:String):okV n (tx s)=true:=by cases n <;> exact of_ok s
theorem keyV_tx (n:Nat) (s:String):keyV n (tx s)=true:=by cases n <;> exact of_ok s
theorem tx_inj {a b:String}:tx a=tx b↔a=b:=⟨λe=>of_inj (V.str.inj e),congrArg tx⟩
noncomputable abbrev Al:=List (String×V)
noncomputable def Al.dct (l:Al):V:=.dct (l.map λp=>tx p.1) (l.map (·.2))
noncomputable def Al.tup (l:Al):V:=.tup (l.map λp=>.tup [tx p.1,p.2])
theorem al_mix (l:Al) (a:String):mixOk (tx a) (l.map λp=>tx p.1)=true:=Bool.and_eq_true_iff.mpr ⟨keyV_tx 8 a,all_map (p:=isStrV) λ_ _=>rfl⟩
theorem al_find (a:String):∀ l:Al,(findV (tx a) (l.map λp=>tx p.1)).bind (λi=>(l.map (·.2))[i]?)=l.lookup a/\(findV (tx a) (l.map λp=>tx p.1)).isSome=(l.lookup a).isSome
  | []=>⟨rfl,rfl⟩
  | (b,v) :: r=>by
    obtain ⟨h1,h2⟩:=al_find a r
    rw [List.lookup_cons]
    unfold findV at *
    rw [List.map_cons,List.findIdx?_cons]
    by_cases h:b=a
    · rw [decide_eq_true (tx_inj.mpr h),show (a==b)=true from beq_iff_eq.mpr h.symm]
      exact ⟨rfl,rfl⟩
    · rw [decide_eq_false λe=>h (tx_inj.mp e),show (a==b)=false from beq_eq_false_iff_ne.mpr λe=>h e.symm]
      constructor
      · rw [←h1]
        show (Option.map _ _).bind _=_
        rw [Option.bind_map];rfl
      · rw [←h2];exact Option.isSome_map ..
theorem lookD_al (l:Al) (a:String):lookD (tx a) (l.map λp=>tx p.1)=some (findV (tx a) (l.map λp=>tx p.1)):=if_pos (al_mix l a)
section
variable {n:Nat} {μ:List O} {ρ:List (Option V)} {X:List O->Prop} {Φ:Tab}
theorem eq_tx {a b:String}:eqL μ (tx a) (tx b)=some (decide (a=b)):=(eq_data rfl rfl rfl (okV_tx 8 a) (okV_tx 8 b)).trans (congrArg some (decide_eq_decide.mpr tx_inj))
theorem in_tx {l:Al} {a:String}:inV μ (tx a) l.dct=some (l.lookup a).isSome:=by
  show (lookD (tx a) (l.map λp=>tx p.1)).map Option.isSome=_
  rw [lookD_al,←(al_find a l).2];rfl
theorem idx_tx {l:Al} {a:String} {v:V} (h:l.lookup a=some v):idxM l.dct (tx a) μ ρ=.ok v μ ρ:=by
  show opt (lookD (tx a) (l.map λp=>tx p.1)) (λj=>opt j λj=>ofOpt (l.map (·.2))[j]?) μ ρ=_
  have hl:=(al_find a l).1.trans h
  rw [lookD_al]
  show opt (findV (tx a) (l.map λp=>tx p.1)) (λj=>ofOpt (l.map (·.2))[j]?) μ ρ=_
  cases e:findV (tx a) (l.map λp=>tx p.1) with
  | none=>rw [e] at hl;cases hl
  | some i=>rw [e] at hl;exact ofOpt_ok hl
theorem get_tx {l:Al} {a:String} {d:V}:methM Φ l.dct .get [tx a,d] μ ρ=.ok ((l.lookup a).getD d) μ ρ:=by
  show opt (lookD (tx a) (l.map λp=>tx p.1)) (λj=>alt j (λj=>ofOpt (l.map (·.2))[j]?) (retM d)) μ ρ=_
  have hl:=al_find a l
  rw [lookD_al]
  show alt (findV (tx a) (l.map λp=>tx p.1)) (λj=>ofOpt (l.map (·.2))[j]?) (retM d) μ ρ=_
  cases e:findV (tx a) (l.map λp=>tx p.1) with
  | none=>rw [e] at hl;rw [←hl.1];rfl
  | some i=>
    rw [e] at hl
    cases e2:l.lookup a with
    | none=>rw [e2] at hl;exact nomatch hl.2
    | some v=>exact ofOpt_ok (hl.1.trans e2)
theorem pair_al:∀ l:Al,pairUp (l.map λp=>V.tup [tx p.1,p.2])=some (l.map (λp=>tx p.1),l.map (·.2))
  | []=>rfl
  | p :: r=>congrArg (Option.map λq:List V×List V=>(tx p.1 :: q.1,p.2 :: q.2)) (pair_al r)
theorem put_al:∀ (r d:Al),((d++r).map (·.1)).Nodup->putAll (r.map λp=>tx p.1) (r.map (·.2)) (d.map λp=>tx p.1) (d.map (·.2))=some ((d++r).map (λp=>tx p.1),(d++r).map (·.2))
  | [],d,_=>by rw [List.append_nil];rfl
  | p :: r,d,hn=>by
    rw [List.append_cons] at hn ⊢
    rw [←put_al r (d++[p]) hn]
    have hf:findV (tx p.1) (d.map λp=>tx p.1)=none:=by
      unfold findV
      rw [List.findIdx?_eq_none_iff]
      intro x hx
      obtain ⟨q,hq,rfl⟩:=List.mem_map.mp hx
      refine decide_eq_false λe=>?_
      rw [List.map_append,List.map_append] at hn
      exact (List.nodup_append.mp (List.nodup_append.mp hn).1).2.2 q.1 (List.mem_map_of_mem hq) p.1 List.mem_cons_self (tx_inj.mp e)
    show (putD (tx p.1) p.2 (d.map λp=>tx p.1) (d.map (·.2))).bind _=_
    unfold putD
    rw [lookD_al,hf,List.map_append,List.map_append]
    rfl
theorem dict_al {l:Al} (hn:(l.map (·.1)).Nodup) (hl:l.length<=big):biM false .tDict [l.tup] μ ρ=.ok l.dct μ ρ:=by
  show opt (pairUp (l.map λp=>V.tup [tx p.1,p.2])) (λp=>opt (putAll p.1 p.2 [] []) λq=>dctM false q.1 q.2) μ ρ=_
  rw [pair_al]
  show opt (putAll (l.map λp=>tx p.1) (l.map (·.2)) [] []) (λq=>dctM false q.1 q.2) μ ρ=_
  rw [show putAll (l.map λp=>tx p.1) (l.map (·.2)) [] []=_ from put_al l [] hn]
  exact gd_ok (decide_eq_true (by rw [List.length_map];exact hl)) rfl
theorem strs_map:∀ l:List Str,strsOf (l.map V.str)=some l
  | []=>rfl
  | a :: l=>congrArg (Option.map (a :: ·)) (strs_map l)
theorem sort_strs {ss:List Str} (h:ss.length<64):sortV (ss.map V.str)=some ((sortBy ltS ss).map V.str):=by
  unfold sortV
  rw [if_neg (by rw [List.length_map];exact Nat.not_le.mpr h)]
  cases ss with
  | nil=>rfl
  | cons a l=>
    show (strsOf ((a :: l).map V.str)).map _=_
    rw [strs_map];rfl
theorem sorted_strs {ss:List Str} (h:ss.length<64):biM false .sorted [.lst (ss.map .str)] μ ρ=.ok (.lst ((sortBy ltS ss).map .str)) μ ρ:=by
  show opt (sortV (ss.map V.str)) (λus=>lstM false us) μ ρ=_
  rw [sort_strs h]
  exact lst_f (len_le (n:=64) (by rw [List.length_map,sort_len];exact Nat.le_of_lt h) rfl)
theorem tuple_lst {vs:List V} (h:vs.length<=big):biM false .tTuple [.lst vs] μ ρ=.ok (.tup vs) μ ρ:=tup_ok h
theorem tuple_ref {r:Nat} {vs:List V} (h:μ[r]?=some (.list vs)) (hb:vs.length<=big):biM false .tTuple [.ref r] μ ρ=.ok (.tup vs) μ ρ:=ok_bind (lseq_ref h) (tup_ok hb)
end
noncomputable def flagsV (ss:List Str):V:=.tup ((sortBy ltS ss).map .str)
theorem flags_ok {ss:List Str} (h:∀ s∈ss,PyData.strOk s=true):FlagOK (flagsV ss) where
  ok n:=all_map λs hs=>by cases n <;> exact h s (mem_sort.mp hs)
  key n:=all_map λs hs=>by cases n <;> exact h s (mem_sort.mp hs)
  nostr:=rfl
set_option genSizeOf false in
set_option genInjectivity false in
structure Fe where
  u:Option Int
  f:Option (List Str)
  m:Option Int
  rev:Bool
noncomputable def atoms (ss:List Str):V:=.lst (ss.map λs=>.atom (.str s))
noncomputable def Fe.al0 (e:Fe):Al:=(e.u.elim [] λu=>[("UID",.int u)])++(e.f.elim [] λss=>[("FLAGS",atoms ss)])++(e.m.elim [] λm=>[("MODSEQ",.lst [.int m])])
noncomputable def Fe.al (e:Fe):Al:=if e.rev then e.al0.reverse else e.al0
theorem al_uid (e:Fe):e.al.lookup "UID"=e.u.map .int:=by
  obtain ⟨u,f,m,r⟩:=e
  cases u <;> cases f <;> cases m <;> cases r <;> rfl
theorem al_flags (e:Fe):e.al.lookup "FLAGS"=e.f.map atoms:=by
  obtain ⟨u,f,m,r⟩:=e
  cases u <;> cases f <;> cases m <;> cases r <;> rfl
theorem al_mod (e:Fe):e.al.lookup "MODSEQ"=e.m.map λm=>.lst [.int m]:=by
  obtain ⟨u,f,m,r⟩:=e
  cases u <;> cases f <;> cases m <;> cases r <;> rfl
theorem opt_sub {α:Type} {s:String} {f:α->V}:∀ o:Option α,((o.elim [] λu=>[(s,f u)]:Al).map (·.1)).Sublist [s]
  | none=>.cons _ .slnil
  | some _=>.refl _
theorem al_keys (e:Fe):(e.al.map (·.1)).Nodup/\e.al.length<=3:=by
  have h:(e.al0.map (·.1)).Sublist ["UID", "FLAGS", "MODSEQ"]:=by
    unfold Fe.al0
    rw [List.map_append,List.map_append]
    exact ((opt_sub _).append (opt_sub _)).append (opt_sub _)
  have h1:=h.nodup (by decide)
  have h2:=h.length_le
  rw [List.length_map] at h2
  unfold Fe.al
  cases e.rev
  · exact ⟨h1,h2⟩
  · exact ⟨by rw [if_pos rfl,List.map_reverse];exact List.pairwise_reverse.mpr (h1.imp Ne.symm),by rw [if_pos rfl,List.length_reverse];exact h2⟩
end
section
open PySem
noncomputable def behEx (b:List Lt) (k:Int):List (List Lt):=if k<b.length then [] else if k=b.length then [b] else longer [b]
noncomputable def uidsB (b:List Lt):List Int:=b.map (·.u)
noncomputable def behVa (b:List Lt) (ps:List (Int×Int)):List (List Lt):=if (spread ps).all (λu=>decide (u∈uidsB b)) then [b.filter λl=>!decide (l.u∈spread ps)] else []
noncomputable def Lt.upd (l:Lt) (e:Fe):Lt:=⟨l.u,(match e.f with | some ss=>flagsV ss | none=>l.f),(match e.m with | some m=>m | none=>match e.f with | some _=>0 | none=>l.m)⟩
noncomputable def behXp (b:List Lt) (k:Int):List (List Lt):=if 1<=k/\k<=b.length then [b.take (k - 1).toNat++b.drop k.toNat] else []
noncomputable def behFe (b:List Lt) (k:Int) (e:Fe):List (List Lt):=if 1<=k/\k<=b.length then (match b[(k - 1).toNat]? with
  | some l=>if e.u.getD l.u=l.u then [b.set (k - 1).toNat (l.upd e)] else []
  | none=>[]) else []
noncomputable def r361 (b ans w:V):List (Option V):=[some b,some ans,some w,some (.lst [b]),none,none,none,none,none,none,none]
section
variable {n:Nat} {μ μ':List O} {ρ:List (Option V)} {X:List O->Prop} {Q:Fl->List O->List (Option V)->Prop} {b:List Lt} {k:Int} {ps:List (Int×Int)}
theorem loop0 {src:M Src} {body:V->M Fl} (h:src μ ρ=.ok (none,[]) μ ρ):loop src body μ ρ=.ok .next μ ρ:=ok_bind h rfl
theorem loop1 {src:M Src} {body:V->M Fl} {x:V} {ρ':List (Option V)} (h:src μ ρ=.ok (none,[x]) μ ρ) (hb:body x μ ρ=.ok .next μ' ρ'):loop src body μ ρ=.ok .next μ' ρ':=ok_bind h (ok_bind (m:=stillM none) rfl (ok_bind hb rfl))
theorem len_bv {i:Nat} (hl:b.length<=50) (h:ld i μ ρ=.ok (bv b) μ ρ):bi false .len (each [ld i]) μ ρ=.ok (.int b.length) μ ρ:=(ok_bind (each1 h) (len_tup (len_le (n:=50) (by rw [List.length_map];exact hl) rfl))).trans (by rw [List.length_map])
theorem start361 {Φ:Tab} {w:String} {rest:List V} (h:W (p361_16 Φ) Q X μ (r361 (bv b) (.tup (tx w :: rest)) (tx w))):W (p361_17 Φ) Q X μ [some (bv b),some (.tup (tx w :: rest)),none,none,none,none,none,none,none,none,none]:=
  W_n (ok_bind (ok_bind (each2 (ok_bind rfl rfl) (lst_f (vs:=[bv b]) (by decide:1<=big))) (tup_ok (vs:=[tx w,.lst [bv b]]) (by decide:2<=big))) rfl) h
theorem word {i:Nat} {w a:String} (h:ld i μ ρ=.ok (tx w) μ ρ):cmp .Eq (ld i) (retM (tx a)) μ ρ=.ok (decide (w=a)) μ ρ:=cmp_eq h rfl eq_tx
theorem wordt {i:Nat} {a:String} (h:ld i μ ρ=.ok (tx a) μ ρ):cmp .Eq (ld i) (retM (tx a)) μ ρ=.ok true μ ρ:=tst (word h) (decide_eq_true rfl)
theorem wordf {i:Nat} {w a:String} (h:ld i μ ρ=.ok (tx w) μ ρ) (e:w≠a):cmp .Eq (ld i) (retM (tx a)) μ ρ=.ok false μ ρ:=tst (word h) (decide_eq_false e)
theorem s361_ex (hb:BoxS b) (hl:b.length<=50) (hk:k<=b.length+1) (hk0:0<=k):phiT tab (n+2) 361 [bv b,.tup [tx "exists",.int k]] μ=.ok (.lst ((behEx b k).map bv)) μ:=by
  have hL:∀ ρ,ld 0 μ ρ=.ok (bv b) μ ρ->bi false .len (each [ld 0]) μ ρ=.ok (.int b.length) μ ρ:=λρ h=>len_bv hl h
  have h50:(b.length:Int)<=50:=Int.ofNat_le.mpr hl
  have hb1:k - b.length<=1:=Int.sub_left_le_of_le_add hk
  have hsrc:srcE (bi false .tRange (each [op2 false .Sub (idx (ld 1) (retM (.int 1))) (bi false .len (each [ld 0]))])) μ (r361 (bv b) (.tup [tx "exists",.int k]) (tx "exists"))=.ok (none,rngList 0 (k - b.length)) μ _:=
    have l1:-1000000<=k - b.length:=Int.le_trans (by decide) (Int.sub_le_sub hk0 h50)
    have l2:k - b.length<=1000000:=Int.le_trans hb1 (by decide)
    ok_bind (ok_bind (each1 (ok_bind (ok_bind rfl rfl) (ok_bind (hL _ rfl) rfl))) (range1 (fits_le l1 l2))) (src_rng (by decide) (by decide) l1 l2)
  refine CRw.eq (g361 (start361 (W_sq (W_t (wordt rfl) ?_))))
  unfold behEx
  by_cases h1:k<=b.length
  · rw [show rngList 0 (k - b.length)=[] by unfold rngList;rw [Int.sub_zero,Int.toNat_of_nonpos (Int.sub_nonpos_of_le h1)];rfl] at hsrc
    have hge:cmp .GtE (idx (ld 1) (retM (.int 1))) (bi false .len (each [ld 0])) μ (r361 (bv b) (.tup [tx "exists",.int k]) (tx "exists"))=.ok (decide ((b.length:Int)<=k)) μ (r361 (bv b) (.tup [tx "exists",.int k]) (tx "exists")):=ok_bind (ok_bind rfl rfl) (ok_bind (hL _ rfl) rfl)
    by_cases h:k<b.length
    · exact W_n (loop0 hsrc) (W_r (ok_bind (ok_f (tst hge (decide_eq_false (Int.not_le.mpr h))) rfl) rfl) ⟨by rw [if_pos h];rfl,rfl⟩)
    · exact W_n (loop0 hsrc) (W_r (ok_bind (ok_t (tst hge (decide_eq_true (Int.not_lt.mp h))) rfl) rfl) ⟨by rw [if_neg h,if_pos (Int.le_antisymm h1 (Int.not_lt.mp h))];rfl,rfl⟩)
  · have hk2:=Int.not_le.mp h1
    rw [show rngList 0 (k - b.length)=[.int 0] by unfold rngList;rw [Int.sub_zero,Int.le_antisymm hb1 (Int.le_sub_left_of_add_le hk2)];rfl] at hsrc
    have hlen:(longer [b]).length<=big:=by
      unfold longer longer1
      rw [List.flatMap_singleton,List.length_map]
      exact Nat.le_trans (len_small (k:=10) (Int.le_trans (by decide:(9:Int)<=10+(1 + -1)) (Int.add_le_add_left (Int.add_le_add_left hb.lo 1) 10))) (by decide)
    refine W_n (loop1 hsrc (ok_bind (m:=st 4 (.int 0)) rfl (ok_bind (ok_as (ok_bind (a:=[.lst ([b].map bv)]) rfl (call_eq (s351 (λc m=>List.mem_singleton.mp m▸hb) hlen)))) rfl))) (W_r (ok_bind (ok_t (ok_bind (ok_bind rfl rfl) (ok_bind (hL _ rfl) (congrArg (λc=>Res.ok c μ _) (decide_eq_true (Int.le_of_lt hk2))))) rfl) rfl) ⟨?_,rfl⟩)
    rw [if_neg (Int.not_lt.mpr (Int.le_of_lt hk2)),if_neg (Int.ne_of_gt hk2)]
    rfl
end
end
section
open PySem
section
variable {n:Nat} {μ μ':List O} {ρ:List (Option V)} {Q:V->List O->Prop} {X:List O->Prop} {R:Asn} {b:List Lt} {k:Int} {ps:List (Int×Int)} {Φ:Tab}
theorem in_words {w a c:String}:inV μ (tx w) (.tup [tx a,tx c])=some (decide (w=a∨w=c)):=by
  show (if okV 8 (tx w)&&(okV 8 (tx a)&&(okV 8 (tx c)&&true)) then some (decide (tx w∈[tx a,tx c])) else none)=_
  rw [okV_tx,okV_tx,okV_tx]
  exact congrArg some (decide_eq_decide.mpr (List.mem_cons.trans (or_congr tx_inj (List.mem_singleton.trans tx_inj))))
theorem spots {w:String} {rest:List V}:cmp .NotIn (ld 2) (tup [retM (tx "expunge"),retM (tx "fetch")]) μ (r361 (bv b) (.tup (tx w :: rest)) (tx w))=.ok (!decide (w = "expunge"∨w = "fetch")) μ (r361 (bv b) (.tup (tx w :: rest)) (tx w)):=cmp_nin rfl (ok_bind (each2 rfl rfl) (tup_ok (vs:=[tx "expunge",tx "fetch"]) (by decide:2<=big))) in_words
theorem s361_ot {w:String} {rest:List V} (h1:w ≠ "exists") (h2:w ≠ "vanished") (h3:¬(w = "expunge"∨w = "fetch")):phiT tab (n+1) 361 [bv b,.tup (tx w :: rest)] μ=.ok (.lst [bv b]) μ:=
  CRw.eq (g361 (start361 (W_n (ok_f (wordf rfl h1) rfl) (W_n (ok_f (ok_f (wordf rfl h2) rfl) rfl) (W_sq (W_t (tst spots (by rw [decide_eq_false h3];rfl)) (W_r rfl ⟨rfl,rfl⟩)))))))
theorem s361_ve {v:V}:phiT tab (n+1) 361 [bv b,.tup [tx "vanished",v,.bool true]] μ=.ok (.lst [bv b]) μ:=
  CRw.eq (g361 (start361 (W_n (ok_f (wordf rfl (by decide)) rfl) (W_n (ok_f (ok_t (wordt rfl) rfl) rfl) (W_sq (W_t (tst spots (by decide)) (W_r rfl ⟨rfl,rfl⟩)))))))
theorem mem_int {x:Int} {l:List Int}:V.int x∈l.map V.int↔x∈l:=⟨λm=>by obtain ⟨y,hy,e⟩:=List.mem_map.mp m;exact V.int.inj e▸hy,List.mem_map_of_mem⟩
theorem in_ints {x:Int} {l:List Int}:inV μ (.int x) (.lst (l.map .int))=some (decide (x∈l)):=by
  show (if okV 8 (.int x)&&(l.map V.int).all (okV 8) then some (decide (V.int x∈l.map V.int)) else none)=_
  rw [okV_ints]
  exact congrArg some (decide_eq_decide.mpr mem_int)
theorem emit_if {t:M Bool} {m:M V} {c:Bool} {acc:List V} {v:V} (ht:t μ ρ=.ok c μ ρ) (hm:m μ ρ=.ok v μ ρ) (hc:acc.length+(if c then [v] else []).length<=big):ifM t (emL m (acc,[])) (retM (acc,[])) μ ρ=.ok (acc++if c then [v] else [],[]) μ ρ:=by
  cases c
  · exact ok_f ht (by rw [if_neg (by decide),List.append_nil];rfl)
  · exact ok_t ht (ok_bind hm (emit_ok hc))
theorem none_left {p:Int->Bool} {l:List Int}:decide (V.lst ((l.filter λu=>!p u).map V.int)=V.lst [])=l.all p:=by
  rw [Bool.eq_iff_iff,decide_eq_true_iff,List.all_eq_true]
  refine ⟨λe x m=>?_,λh=>by rw [List.filter_eq_nil_iff.mpr λx m=>by rw [h x m];decide];rfl⟩
  have:=List.filter_eq_nil_iff.mp (List.map_eq_nil_iff.mp (V.lst.inj e)) x m
  rwa [Bool.not_eq_true,Bool.not_eq_false'] at this
theorem s361_va (hb:BoxOK b) (hl:b.length<=50) (hs:∀ p∈ps,Sm p) (hp:ps.length<64):phiT tab (n+2) 361 [bv b,.tup [tx "vanished",.tup (ps.map pv),.bool false]] μ=.ok (.lst ((behVa b ps).map bv)) μ:=by
  have big1:b.length<=big:=Nat.le_trans hl (by decide)
  have hsp:(spread ps).length<=big:=Nat.le_trans (flat_len (λp m=>len_small (k:=100) (Int.le_trans (Int.add_le_add_right (hs p m).max 1) (Int.add_le_add_left (hs p m).min _)))) (Nat.le_trans (Nat.mul_le_mul_right 100 (Nat.le_of_lt hp)) (by decide))
  have c2:=comp_map (μ:=μ) (turn:=c361_2) (L:=[none,none]) (t:=false) Lt.v (λl=>.int l.u) (λz:Option V=>[none,z]) none (src:=srcE (ld 0)) (ρ:=r361 (bv b) (.tup [tx "vanished",.tup (ps.map pv),.bool false]) (tx "vanished")) (l:=b) rfl rfl rfl (λx _ z acc hc=>⟨some x.v,ok_bind (m:=st 1 x.v) rfl (ok_bind (ok_bind rfl rfl) (emit_ok hc))⟩) big1
  have hmap:(b.map λl=>V.int l.u)=(uidsB b).map .int:=by unfold uidsB;rw [List.map_map];rfl
  rw [hmap,lst_f (by rw [List.length_map];unfold uidsB;rw [List.length_map];exact big1)] at c2
  refine CRw.eq (g361 (start361 (W_n (ok_f (wordf rfl (by decide)) rfl) (W_sq (W_t (ok_t (wordt rfl) rfl) (W_n (ok_bind (ok_bind (each2 (ok_bind (a:=[.tup (ps.map pv)]) rfl (call_eq (s356 hs hp))) c2) (tup_ok (by decide:2<=big))) rfl) ?_))))))
  have c3:=comp_filter (μ:=μ) (turn:=c361_3) (L:=[none,none,some 6]) (t:=false) Lt.v Lt.v (λl=>!decide (l.u∈spread ps)) (λz:Option V=>[none,z,some (.lst ((spread ps).map .int))]) none (src:=srcE (ld 0)) (ρ:=((r361 (bv b) (.tup [tx "vanished",.tup (ps.map pv),.bool false]) (tx "vanished")).set 6 (some (.lst ((spread ps).map .int)))).set 7 (some (.lst ((uidsB b).map .int)))) (l:=b) rfl rfl rfl (λx _ z acc hc=>⟨some x.v,ok_bind (m:=st 1 x.v) rfl (emit_if (and1 (cmp_nin (ok_bind rfl rfl) rfl in_ints)) rfl hc)⟩) big1
  have c4:=comp_filter (μ:=μ) (turn:=c361_4) (L:=[none,none,some 7]) (t:=false) V.int V.int (λu=>!decide (u∈uidsB b)) (λz:Option V=>[none,z,some (.lst ((uidsB b).map .int))]) none (src:=srcE (ld 6)) (ρ:=(((r361 (bv b) (.tup [tx "vanished",.tup (ps.map pv),.bool false]) (tx "vanished")).set 6 (some (.lst ((spread ps).map .int)))).set 7 (some (.lst ((uidsB b).map .int)))).set 8 (some (bv (b.filter λl=>!decide (l.u∈spread ps))))) (l:=spread ps) rfl rfl rfl (λx _ z acc hc=>⟨some (.int x),ok_bind (m:=st 1 (.int x)) rfl (emit_if (and1 (cmp_nin rfl rfl in_ints)) rfl hc)⟩) hsp
  have f3:((b.filter λl=>!decide (l.u∈spread ps)).map Lt.v).length<=big:=by rw [List.length_map];exact Nat.le_trans (List.length_filter_le ..) big1
  rw [lst_f f3] at c3
  rw [lst_f (by rw [List.length_map];exact Nat.le_trans (List.length_filter_le ..) hsp)] at c4
  refine W_n (ok_as (ok_bind (each1 c3) (tup_ok f3))) (W_sq (W_bind (W_if (cmp_eq c4 (b:=.lst []) rfl (eq_data rfl rfl rfl (okV_ints 7 _) rfl)) (λh=>?_) λh=>?_)))
  · exact W_e (lst_f (vs:=[_]) (by decide:1<=big)) (W_e rfl ⟨by rw [none_left] at h;unfold behVa;rw [if_pos h];rfl,rfl⟩)
  · exact W_e rfl (W_e rfl ⟨by rw [none_left] at h;unfold behVa;rw [if_neg (Bool.eq_false_iff.mp h)];rfl,rfl⟩)
end
end
section
open PySem
section
variable {n:Nat} {μ μ':List O} {ρ:List (Option V)} {Q:V->List O->Prop} {X:List O->Prop} {R:Asn} {b:List Lt} {k:Int} {e:Fe} {Φ:Tab}
theorem within_ok {lo s N:Int} {m1 m2:M V} (h1:m1 μ ρ=.ok (.int s) μ ρ) (h2:m2 μ ρ=.ok (.int N) μ ρ):cmp2 .LtE .Lt (retM (.int lo)) m1 m2 μ ρ=.ok (decide (lo<=s/\s<N)) μ ρ:=by
  refine ok_bind (m:=retM (V.int lo)) rfl (ok_bind h1 (ok_bind (a:=decide (lo<=s)) rfl ?_))
  by_cases h:lo<=s
  · rw [decide_eq_true h]
    exact ok_bind h2 (congrArg (λc=>Res.ok c μ ρ) (decide_eq_decide.mpr (and_iff_right h).symm))
  · rw [decide_eq_false h,decide_eq_false λq=>h q.1];rfl
theorem bvl (hl:b.length<=50):(b.map Lt.v).length<=big:=len_le (n:=50) (by rw [List.length_map];exact hl) rfl
theorem cut_to {vs:List V} {i:Int} (h0:0<=i) (h1:i<=vs.length) (hb:vs.length<=big):sliceHi false (.tup vs) (.int i) μ ρ=.ok (.tup (vs.take i.toNat)) μ ρ:=by
  show gd (decide (0<=i)&&decide (i<=vs.length)&&decide (vs.length<=big)) (tupM (vs.take i.toNat)) μ ρ=_
  exact gd_ok (by rw [decide_eq_true h0,decide_eq_true h1,decide_eq_true hb];rfl) (tup_ok (Nat.le_trans (List.length_take_le' ..) hb))
theorem cut_from {vs:List V} {i:Int} (h0:1<=i) (h1:i<=vs.length) (hb:vs.length<=big):sliceLo false (.tup vs) (.int i) μ ρ=.ok (.tup (vs.drop i.toNat)) μ ρ:=by
  show gd (decide (1<=i)&&decide (i<=vs.length)&&decide (vs.length<=big)) (tupM (vs.drop i.toNat)) μ ρ=_
  exact gd_ok (by rw [decide_eq_true h0,decide_eq_true h1,decide_eq_true hb];rfl) (tup_ok (by rw [List.length_drop];exact Nat.le_trans (Nat.sub_le ..) hb))
theorem spot361 {Q:Fl->List O->List (Option V)->Prop} {w:String} {rest:List V} (hw:w = "expunge"∨w = "fetch") (hl:b.length<=50) (no:¬(1<=k/\k<=b.length)->Q (.ret (.lst [])) μ ((r361 (bv b) (.tup (tx w :: .int k :: rest)) (tx w)).set 9 (some (.int (k - 1)))))
    (yes:0<=k - 1->k - 1+1<=b.length->W (p361_11 Φ) Q X μ ((r361 (bv b) (.tup (tx w :: .int k :: rest)) (tx w)).set 9 (some (.int (k - 1))))):W (p361_17 Φ) Q X μ [some (bv b),some (.tup (tx w :: .int k :: rest)),none,none,none,none,none,none,none,none,none]:=by
  have hx:w ≠ "exists"/\w ≠ "vanished":=by rcases hw with rfl | rfl <;> decide
  have hin:=within_ok (lo:=0) (s:=k - 1) (N:=b.length) (μ:=μ) (ρ:=(r361 (bv b) (.tup (tx w :: .int k :: rest)) (tx w)).set 9 (some (.int (k - 1)))) (m1:=ld 9) rfl (len_bv (i:=0) hl rfl)
  refine start361 (W_n (ok_f (wordf rfl hx.1) rfl) (W_n (ok_f (ok_f (wordf rfl hx.2) rfl) rfl) (W_n (ok_f (tst spots (by rw [decide_eq_true hw];rfl)) rfl) (W_an (ok_bind (ok_bind rfl rfl) rfl) ?_))))
  by_cases h:0<=k - 1/\k - 1<b.length
  · exact W_n (ok_f (not_ok (tst hin (decide_eq_true h))) rfl) (yes h.1 h.2)
  · exact W_r (ok_t (not_ok (tst hin (decide_eq_false h))) (ok_bind (ok_bind rfl rfl) rfl)) (no λq=>h ⟨Int.sub_nonneg_of_le q.1,Int.lt_of_lt_of_le (Int.sub_lt_self k (by decide)) q.2⟩)
theorem parts_ok {i:Nat} (hb:ld 0 μ ρ=.ok (bv b) μ ρ) (hs:ld 9 μ ρ=.ok (.int (k - 1)) μ ρ) (hl:b.length<=50) (h0:0<=k - 1) (h1:k - 1+1<=b.length):(bindM (ld 0) λu=>bindM (ld 9) (sliceHi false u)) μ ρ=.ok (bv (b.take (k - 1).toNat)) μ ρ/\(bindM (ld 0) λu=>bindM (op2 false .Add (ld 9) (retM (.int 1))) (sliceLo false u)) μ ρ=.ok (bv (b.drop k.toNat)) μ ρ:=by
  have hn:(((b.map Lt.v).length:Nat):Int)=b.length:=by rw [List.length_map]
  refine ⟨ok_bind hb (ok_bind hs ((cut_to h0 (by rw [hn];exact Int.le_of_lt h1) (bvl hl)).trans (by rw [←List.map_take];rfl))),ok_bind hb (ok_bind (ok_bind hs rfl) ((cut_from (Int.add_le_add_right h0 1) (by rw [hn];exact h1) (bvl hl)).trans ?_))⟩
  rw [←List.map_drop,Int.sub_add_cancel];rfl
theorem s361_xp (hl:b.length<=50):phiT tab (n+1) 361 [bv b,.tup [tx "expunge",.int k]] μ=.ok (.lst ((behXp b k).map bv)) μ:=by
  refine CRw.eq (g361 (spot361 (.inl rfl) hl (λh=>⟨by unfold behXp;rw [if_neg h];rfl,rfl⟩) λh0 h1=>?_))
  obtain ⟨p1,p2⟩:=parts_ok (i:=0) (μ:=μ) (ρ:=(r361 (bv b) (.tup [tx "expunge",.int k]) (tx "expunge")).set 9 (some (.int (k - 1)))) rfl rfl hl h0 h1
  refine W_r (ok_t (wordt rfl) (ok_bind (ok_bind (ok_bind (each1 (ok_bind p1 (ok_bind p2 (cat_ok ?_)))) (lst_f (vs:=[_]) (by decide:1<=big))) rfl) rfl)) ⟨?_,rfl⟩
  · rw [List.length_append,List.length_map,List.length_map,List.length_take,List.length_drop]
    exact Nat.le_trans (Nat.add_le_add (Nat.min_le_right ..) (Nat.sub_le ..)) (Nat.le_trans (Nat.add_le_add hl hl) (by decide))
  · unfold behXp
    rw [if_pos ⟨Int.le_of_sub_nonneg h0,by rw [Int.sub_add_cancel] at h1;exact h1⟩]
    exact congrArg (λl=>V.lst [V.tup l]) List.map_append.symm
theorem texts_ok {ss:List Str} {m:M V} {μ:List O} {ρ:List (Option V)} (hs:ss.length<64) (hm:m μ ρ=.ok (atoms ss) μ ρ):bi false .tTuple (each [bi false .sorted (each [comp [none,none] true false (srcE m) c361_7])]) μ ρ=.ok (flagsV ss) μ ρ:=by
  have hl:ss.length<=big:=Nat.le_trans (Nat.le_of_lt hs) (by decide)
  have c:=comp_map (μ:=μ) (ρ:=ρ) (turn:=c361_7) (L:=[none,none]) (t:=false) (λs:Str=>V.atom (.str s)) V.str (λz:Option V=>[none,z]) none (src:=srcE m) (l:=ss) (ok_bind hm rfl) rfl rfl (λx _ z acc hc=>⟨some (.atom (.str x)),ok_bind (m:=st 1 _) rfl (ok_bind (ok_bind rfl rfl) (emit_ok hc))⟩) hl
  rw [lst_f (by rw [List.length_map];exact hl)] at c
  exact ok_bind (each1 (ok_bind (each1 c) (sorted_strs hs))) (tuple_lst (by rw [List.length_map,sort_len];exact hl))
theorem asg2 {a b:V} {f1 f2:V->M Unit} {μ1 μ2:List O} {ρ1 ρ2:List (Option V)} (h1:f1 a μ ρ=.ok () μ1 ρ1) (h2:f2 b μ1 ρ1=.ok () μ2 ρ2):asgTup 2 (.tup [a,b]) (asgs [f1,f2]) μ ρ=.ok () μ2 ρ2:=ok_bind h1 (ok_bind h2 rfl)
noncomputable def updM (e:Fe) (m:Int):Int:=match e.f with | some _=>0 | none=>m
theorem fl361 {Q:Fl->List O->List (Option V)->Prop} {L:Nat} {u f:V} {m:Int} {b0 an w f3:V} {s:Option V} (hf:∀ ss,e.f=some ss->ss.length<64) (h:H ((pt L (.list [u,f,.int m])).s R) μ)
    (k:∀ μ',H ((pt L (.list [u,(match e.f with | some ss=>flagsV ss | none=>f),.int (updM e m)])).s R) μ'->Q .next μ' [some b0,some an,some w,some f3,none,some (.ref L),none,none,none,s,some e.al.dct]) :
    W (ifM (cmp .In (retM (tx "FLAGS")) (ld 10)) (sq (bindM (tup [(bi false .tTuple (each [(bi false .sorted (each [(comp [none,none] true false (srcE (idx (ld 10) (retM (tx "FLAGS")))) c361_7)]))])),(retM (.int 0))]) λv=>bindM ((λv=>asgTup 2 v (asgs [λv=>bindM (ld 5) λu=>bindM (retM (.int 1)) λw=>putM u w v,λv=>bindM (ld 5) λu=>bindM (retM (.int 2)) λw=>putM u w v])) v) λ_=>retM .next) (retM .next)) (retM .next))
      Q X μ [some b0,some an,some w,some f3,none,some (.ref L),none,none,none,s,some e.al.dct]:=by
  have hin:cmp .In (retM (tx "FLAGS")) (ld 10) μ [some b0,some an,some w,some f3,none,some (.ref L),none,none,none,s,some e.al.dct]=.ok (e.f.map atoms).isSome μ _:=al_flags e▸cmp_in rfl rfl in_tx
  have hlk:=al_flags e
  unfold updM at k
  cases hf':e.f with
  | none=>rw [hf'] at hin k;exact W_f hin (W_e rfl (k _ h))
  | some ss=>
    rw [hf'] at hin k hlk
    have t:=texts_ok (μ:=μ) (ρ:=[some b0,some an,some w,some f3,none,some (.ref L),none,none,none,s,some e.al.dct]) (m:=idx (ld 10) (retM (tx "FLAGS"))) (hf ss hf') (ok_bind rfl (ok_bind rfl (idx_tx hlk)))
    have h1:=h.put (.list [u,flagsV ss,.int m])
    exact W_t hin (W_n (ok_bind (ok_bind (each2 t rfl) (tup_ok (vs:=[_,_]) (by decide:2<=big))) (ok_bind (asg2 (ok_bind rfl (ok_bind rfl (put_list h.get (by decide) rfl))) (ok_bind rfl (ok_bind rfl (put_list h1.get (by decide) rfl)))) rfl)) (W_e rfl (k _ (h1.put _))))
theorem ms361 {Q:Fl->List O->List (Option V)->Prop} {L:Nat} {u f:V} {m:Int} {b0 an w f3:V} {s:Option V} (h:H ((pt L (.list [u,f,.int m])).s R) μ)
    (k:∀ μ',H ((pt L (.list [u,f,.int (match e.m with | some m=>m | none=>m)])).s R) μ'->Q .next μ' [some b0,some an,some w,some f3,none,some (.ref L),none,none,none,s,some e.al.dct]) :
    W (ifM (cmp .In (retM (tx "MODSEQ")) (ld 10)) (sq (asI (ld 5) (retM (.int 2)) (idx (idx (ld 10) (retM (tx "MODSEQ"))) (retM (.int 0)))) (retM .next)) (retM .next)) Q X μ [some b0,some an,some w,some f3,none,some (.ref L),none,none,none,s,some e.al.dct]:=by
  have hlk:=al_mod e
  have hin:cmp .In (retM (tx "MODSEQ")) (ld 10) μ [some b0,some an,some w,some f3,none,some (.ref L),none,none,none,s,some e.al.dct]=.ok (e.m.map λm=>V.lst [.int m]).isSome μ _:=hlk▸cmp_in rfl rfl in_tx
  cases hm:e.m with
  | none=>rw [hm] at hin k;exact W_f hin (W_e rfl (k _ h))
  | some q=>
    rw [hm] at hin k hlk
    exact W_t hin (W_n (ok_bind (ok_bind (ok_bind rfl (ok_bind rfl (idx_tx hlk))) (ok_bind rfl (idx_lst (by decide) rfl))) (ok_bind (ok_bind rfl (ok_bind rfl (put_list h.get (by decide) rfl))) rfl)) (W_e rfl (k _ (h.put _))))
theorem s361_fe (hl:b.length<=50) (hf:∀ ss,e.f=some ss->ss.length<64) (h:H R μ) (q:∀ μ',H R μ'->Q (.lst ((behFe b k e).map bv)) μ'):CRw (phiT tab (n+1) 361 [bv b,.tup [tx "fetch",.int k,e.al.tup]] μ) Q X:=by
  refine g361 (spot361 (.inr rfl) hl (λno=>by unfold behFe at q;rw [if_neg no] at q;exact q _ h) λh0 h1=>?_)
  have hlt:(k - 1).toNat<b.length:=(Int.toNat_lt h0).mpr h1
  have hat:=List.getElem?_eq_getElem hlt
  unfold behFe at q
  rw [if_pos ⟨Int.le_of_sub_nonneg h0,by rw [Int.sub_add_cancel] at h1;exact h1⟩,hat] at q
  revert hat q
  generalize b[(k - 1).toNat]=l
  intro q hat
  change ∀ μ',H R μ'->Q (.lst ((if e.u.getD l.u=l.u then [b.set (k - 1).toNat (l.upd e)] else []).map bv)) μ' at q
  have hi:idxM (bv b) (.int (k - 1)) μ ((r361 (bv b) (.tup [tx "fetch",.int k,e.al.tup]) (tx "fetch")).set 9 (some (.int (k - 1))))=.ok l.v μ _:=idx_tup (fits_le (Int.le_trans (by decide) h0) (Int.le_trans (Int.le_of_lt h1) (Int.le_trans (Int.ofNat_le.mpr hl) (by decide)))) (item_int h0 (by rw [List.getElem?_map,hat];rfl))
  refine W_n (ok_f (wordf rfl (by decide)) rfl) (W_n (ok_bind (ok_bind (each2 (ok_bind (each1 (ok_bind rfl (ok_bind (a:=.int 2) rfl rfl))) (dict_al (al_keys e).1 (Nat.le_trans (al_keys e).2 (by decide)))) (ok_bind (each1 (ok_bind rfl (ok_bind rfl hi))) (lst_t (vs:=[.int l.u,l.f,.int l.m]) (by decide:3<=big)))) (tup_ok (vs:=[_,_]) (by decide:2<=big))) rfl) (W_sq (fl361 hf (h.new _) λμ1 j1=>W_sq (ms361 j1 λμ2 j2=>?_))))
  obtain ⟨p1,p2⟩:=parts_ok (i:=0) (μ:=μ2) (ρ:=[some (bv b),some (.tup [tx "fetch",.int k,e.al.tup]),some (tx "fetch"),some (.lst [bv b]),none,some (.ref μ.length),none,none,none,some (.int (k - 1)),some e.al.dct]) rfl rfl hl h0 h1
  have g0:∀ ρ,idxM (.ref μ.length) (.int 0) μ2 ρ=.ok (.int l.u) μ2 ρ:=λρ=>idx_list j2.get (by decide) rfl
  have hu:(e.al.lookup "UID").getD (.int l.u)=.int (e.u.getD l.u):=by rw [al_uid];cases e.u <;> rfl
  refine W_sq (W_bind (W_if (c:=decide (e.u.getD l.u=l.u)) (ceq (ok_bind rfl (ok_bind (rd_ok (f:=pickV e.al.dct (Str.ofString "get")) rfl) (ok_bind (each2 rfl (ok_bind rfl (ok_bind rfl (g0 _)))) (hu▸get_tx)))) (ok_bind rfl (ok_bind rfl (g0 _)))) (λc=>?_) λc=>?_))
  · rw [if_pos (of_decide_eq_true c)] at q
    have e2:b.set (k - 1).toNat (l.upd e)=b.take (k - 1).toNat++[l.upd e]++b.drop k.toNat:=by
      rw [List.set_eq_take_append_cons_drop,if_pos hlt,List.append_assoc,show (k - 1).toNat+1=k.toNat by rw [←Int.toNat_add_nat h0 1];exact congrArg Int.toNat (Int.sub_add_cancel k 1)];rfl
    have hlen:((b.take (k - 1).toNat++[l.upd e]++b.drop k.toNat).map Lt.v).length<=big:=by rw [←e2,List.length_map,List.length_set];exact Nat.le_trans hl (by decide)
    have hlen1:((b.take (k - 1).toNat++[l.upd e]).map Lt.v).length<=big:=Nat.le_trans (by rw [List.map_append (l₁:=b.take (k - 1).toNat++[l.upd e]),List.length_append];exact Nat.le_add_right _ _) hlen
    have q:=q μ2 j2.drop
    rw [e2] at q
    rw [List.map_append] at hlen
    rw [List.map_append] at hlen1
    refine W_e (ok_bind (each1 (ok_bind (ok_bind p1 (ok_bind (ok_bind (each1 (ok_bind rfl (tuple_ref j2.get (by decide:3<=big)))) (tup_ok (vs:=[_]) (by decide:1<=big))) (cat_ok hlen1))) (ok_bind p2 (cat_ok (by rw [List.map_append] at hlen;exact hlen))))) (lst_f (vs:=[_]) (by decide:1<=big))) (W_e rfl ?_)
    show Q (.lst [.tup _]) _
    unfold bv at q
    rw [List.map_singleton,List.map_append,List.map_append] at q
    exact q
  · rw [if_neg (of_decide_eq_false c)] at q
    exact W_e rfl (W_e rfl (q _ j2.drop))
end
end
section
open PySem
section
variable {α:Type} [DecidableEq α]
noncomputable def ddc (ds:List α) (b:α):List α:=if b∈ds then ds else ds++[b]
noncomputable def dd (l:List α):List α:=l.foldl ddc []
theorem mem_ddc {ds:List α} {b x:α}:x∈ddc ds b↔x∈ds∨x=b:=by
  unfold ddc
  by_cases h:b∈ds
  · rw [if_pos h];exact ⟨.inl,λq=>q.elim id λe=>e▸h⟩
  · rw [if_neg h];exact List.mem_append.trans (or_congr_right List.mem_singleton)
theorem mem_foldd {x:α}:∀ {l ds:List α},x∈l.foldl ddc ds↔x∈ds∨x∈l
  | [],_=>⟨.inl,λq=>q.elim id λm=>nomatch m⟩
  | a :: l,_=>(mem_foldd (l:=l)).trans ((or_congr_left mem_ddc).trans (or_assoc.trans (or_congr_right List.mem_cons.symm)))
theorem mem_dd {l:List α} {x:α}:x∈dd l↔x∈l:=mem_foldd.trans ⟨λq=>q.elim (λm=>nomatch m) id,.inr⟩
theorem ddc_len (ds:List α) (b:α):(ddc ds b).length<=ds.length+1:=by
  unfold ddc
  by_cases h:b∈ds
  · rw [if_pos h];exact Nat.le_succ _
  · rw [if_neg h,List.length_append];exact Nat.le_refl _
theorem foldd_len:∀ (l ds:List α),(l.foldl ddc ds).length<=ds.length+l.length
  | [],_=>Nat.le_refl _
  | a :: l,ds=>Nat.le_trans (foldd_len l _) (Nat.le_trans (Nat.add_le_add_right (ddc_len ds a) _) (Nat.le_of_eq (Nat.succ_add_eq_add_succ _ _)))
theorem dd_len (l:List α):(dd l).length<=l.length:=Nat.le_trans (foldd_len l []) (Nat.le_of_eq (Nat.zero_add _))
end
theorem find_not {α:Type} [DecidableEq α] {b:α} {ds:List α} (h:b∉ds):ds.findIdx? (λa=>decide (a=b))=none:=List.findIdx?_eq_none_iff.mpr λa ha=>decide_eq_false λe=>h (e▸ha)
theorem find_some {α:Type} [DecidableEq α] {b:α} {ds:List α} (h:b∈ds):∃ i,ds.findIdx? (λa=>decide (a=b))=some i:=by
  cases hi:ds.findIdx? λa=>decide (a=b) with
  | none=>exact absurd rfl (of_decide_eq_false (List.findIdx?_eq_none_iff.mp hi b h))
  | some i=>exact ⟨i,rfl⟩
section
variable {n:Nat} {μ:List O} {ρ:List (Option V)} {Q:V->List O->Prop} {X:List O->Prop} {R:Asn} {Φ:Tab}
noncomputable def mk1 {β:Type} (g:β->V) (ds:List β):Acc:=(ds.map g,ds.map λ_=>.bool true)
theorem mix_of {k:V} {ks:List V} (hk:keyOk k=true) (hs:isStrV k=false) (hd:∀ a∈ks,isStrV a=false):mixOk k ks=true:=by
  unfold mixOk
  rw [hk,hs]
  exact List.all_eq_true.mpr λa m=>by rw [hd a m];rfl
theorem set_const {α:Type} (v:V):∀ (l:List α) (i:Nat),(l.map λ_=>v).set i v=l.map λ_=>v
  | [],_=>rfl
  | _ :: _,0=>rfl
  | _ :: l,i+1=>congrArg (v :: ·) (set_const v l i)
theorem putD_of {β:Type} [DecidableEq β] {g:β->V} (hg:∀ a b,g a=g b->a=b) {ds:List β} {b:β} (hk:keyOk (g b)=true) (hs:isStrV (g b)=false) (hd:∀ a∈ds,isStrV (g a)=false):putD (g b) (.bool true) (ds.map g) (ds.map λ_=>.bool true)=some (mk1 g (ddc ds b)):=by
  have hm:mixOk (g b) (ds.map g)=true:=mix_of hk hs λa m=>by obtain ⟨x,hx,rfl⟩:=List.mem_map.mp m;exact hd x hx
  have hf:findV (g b) (ds.map g)=ds.findIdx? λa=>decide (a=b):=by
    unfold findV
    rw [List.findIdx?_map]
    exact congrArg (λp=>List.findIdx? p ds) (funext λa=>decide_eq_decide.mpr ⟨hg a b,congrArg g⟩)
  unfold putD lookD
  rw [if_pos hm,hf]
  unfold ddc
  by_cases hb:b∈ds
  · obtain ⟨i,e⟩:=find_some hb
    rw [e,if_pos hb]
    exact congrArg (λl=>some (ds.map g,l)) (set_const _ ds i)
  · rw [find_not hb,if_neg hb]
    unfold mk1
    rw [List.map_append,List.map_append];rfl
theorem emitD_of {β:Type} [DecidableEq β] {g:β->V} (hg:∀ a b,g a=g b->a=b) {ds:List β} {b:β} (hk:keyOk (g b)=true) (hs:isStrV (g b)=false) (hd:∀ a∈ds,isStrV (g a)=false) (hc:(ddc ds b).length<=big):emitD (g b) (.bool true) (mk1 g ds) μ ρ=.ok (mk1 g (ddc ds b)) μ ρ:=by
  show opt (putD (g b) (.bool true) (ds.map g) (ds.map λ_=>.bool true)) (λp=>gd (decide (p.1.length<=big)) (retM p)) μ ρ=_
  rw [putD_of hg hk hs hd]
  exact gd_ok (decide_eq_true (by unfold mk1;rw [List.length_map];exact hc)) rfl
theorem turns_dd {α β σ:Type} [DecidableEq β] {turn:V->Acc->M Acc} {st:M Unit} (hst:∀ ρ,st μ ρ=.ok () μ ρ) (g0:α->V) (f:α->β) (g:β->V) (hg:∀ a b,g a=g b->a=b) (P:σ->List (Option V)):∀ (l:List α) (z:σ) (ds:List β),(∀ a∈ds,isStrV (g a)=false) ->
    (∀ x∈l,(keyOk (g (f x))=true/\isStrV (g (f x))=false)/\∀ z,∃ z',∀ a,turn (g0 x) a μ (P z)=emitD (g (f x)) (.bool true) a μ (P z'))->ds.length+l.length<=big->∃ z',turnsM st turn (l.map g0) (mk1 g ds) μ (P z)=.ok (mk1 g ((l.map f).foldl ddc ds)) μ (P z')
  | [],z,ds,_,_,_=>⟨z,ok_bind (hst _) rfl⟩
  | x :: l,z,ds,hd,h,hc=>by
    obtain ⟨⟨hk,hs⟩,hz⟩:=h x List.mem_cons_self
    obtain ⟨z1,e1⟩:=hz z
    have hlen:(ddc ds (f x)).length+l.length<=big:=Nat.le_trans (Nat.add_le_add_right (ddc_len ds (f x)) _) (Nat.le_trans (Nat.le_of_eq (Nat.succ_add_eq_add_succ _ _)) hc)
    obtain ⟨z',e⟩:=turns_dd hst g0 f g hg P l z1 (ddc ds (f x)) (λa m=>(mem_ddc.mp m).elim (hd a) λq=>q▸hs) (λy m=>h y (List.mem_cons_of_mem _ m)) hlen
    exact ⟨z',ok_bind (hst _) (ok_bind ((e1 _).trans (emitD_of hg hk hs hd (Nat.le_trans (Nat.le_add_right _ _) hlen))) e)⟩
theorem comp_dd {α β σ:Type} [DecidableEq β] {L:List (Option Nat)} {src:M Src} {turn:V->Acc->M Acc} {c:Option (Nat×List V)} {l:List α} (t:Bool) (g0:α->V) (f:α->β) (g:β->V) (hg:∀ a b,g a=g b->a=b) (P:σ->List (Option V)) (z:σ) (hs:src μ ρ=.ok (c,l.map g0) μ ρ) (hc:isStill μ c=true) (hi:innerL L ρ=some (P z))
    (step:∀ x∈l,(keyOk (g (f x))=true/\isStrV (g (f x))=false)/\∀ z,∃ z',∀ a,turn (g0 x) a μ (P z)=emitD (g (f x)) (.bool true) a μ (P z')) (hcap:l.length<=big):comp L false t src turn μ ρ=dctM t ((dd (l.map f)).map g) ((dd (l.map f)).map λ_=>.bool true) μ ρ:=
  ok_bind (keep_ok hs) (ok_bind (a:=mk1 g (dd (l.map f))) (by
    obtain ⟨z',e⟩:=turns_dd (λ_=>still_ok hc) g0 f g hg P l z [] (λ_ m=>nomatch m) step (by rw [List.length_nil,Nat.zero_add];exact hcap)
    unfold inC
    rw [hi]
    dsimp only
    rw [show (([],[]):Acc)=mk1 g [] from rfl,e]
    rfl) rfl)
theorem list_dctM {ks vs:List V} (h:ks.length<=big):biM false .tList [.dct ks vs] μ ρ=.ok (.lst ks) μ ρ:=lst_f h
theorem dct_ok {ks vs:List V} (h:ks.length<=big):dctM false ks vs μ ρ=.ok (.dct ks vs) μ ρ:=gd_ok (decide_eq_true h) rfl
theorem W_turnsA {γ σ:Type} {turn:V->Acc->M Acc} {Q:Acc->List O->List (Option V)->Prop} {still:M Unit} {l:List γ} (f:γ->V) (A:List γ->Acc) (P:σ->List (Option V)) (hs:∀ μ ρ,still μ ρ=.ok () μ ρ)
    (step:∀ dn x r z μ (Q':Acc->List O->List (Option V)->Prop),dn++x :: r=l->H R μ->(∀ z' μ',H R μ'->Q' (A (dn++[x])) μ' (P z'))->W (turn (f x) (A dn)) Q' X μ (P z)) (done:∀ z μ,H R μ->Q (A l) μ (P z)) :
    ∀ (r dn:List γ) (z:σ) (μ:List O),dn++r=l->H R μ->W (turnsM still turn (r.map f) (A dn)) Q X μ (P z)
  | [],dn,z,μ,e,h=>W_s (hs _ _) (done z μ h |> λq=>by rw [←e,List.append_nil] at q;exact q)
  | x :: r,dn,z,μ,e,h=>W_s (hs _ _) (W_bind (step dn x r z μ _ e h λz' μ' j=>W_turnsA f A P hs step done r (dn++[x]) z' μ' (by rw [List.append_assoc];exact e) j))
theorem s366 {k:Nat} {bs:List (List Lt)} {ans:V} {beh:List Lt->List (List Lt)} (hb:∀ b∈bs,∀ {μ:List O} {Q:V->List O->Prop},H R μ->(∀ μ',H R μ'->Q (.lst ((beh b).map bv)) μ')->CRw (phiT tab k 361 [bv b,ans] μ) Q λ_=>False)
    (hok:∀ b∈bs,∀ c∈beh b,BoxOK c) (hl:(bs.flatMap beh).length<=big) (h:H R μ) (q:∀ μ',H R μ'->Q (.lst ((dd (bs.flatMap beh)).map bv)) μ'):CRw (phiT tab (k+1) 366 [.lst (bs.map bv),ans] μ) Q X:=by
  have hd:((dd (bs.flatMap beh)).map bv).length<=big:=by rw [List.length_map];exact Nat.le_trans (dd_len _) hl
  refine g366 (W_sq (W_bind (W_bind (W_bind (W_s (keep_ok (a:=(none,bs.map bv)) rfl) (W_bind (W_inC rfl (W_turnsA (l:=bs) (σ:=Option V×Option V) bv (λdn=>mk1 bv (dd (dn.flatMap beh))) (λz=>[none,z.1,z.2,some ans]) (λ_ _=>rfl) ?_ ?_ bs [] (none,none) μ rfl h))))))))
  · intro dn b r z μ1 Q' e j n
    have mb:b∈bs:=e▸List.mem_append_right _ List.mem_cons_self
    refine W_s rfl (W_bind (W_bind (W_cl rfl (CRw_mono (hb b mb j λμ2 j2=>?_) (λ_ _ q=>q) λ_ q=>q.elim))))
    have hc:(dd (dn.flatMap beh)).length+(beh b).length<=big:=by
      rw [←e,List.flatMap_append,List.flatMap_cons,List.length_append,List.length_append,←Nat.add_assoc] at hl
      exact Nat.le_trans (Nat.add_le_add_right (dd_len _) _) (Nat.le_trans (Nat.le_add_right _ _) hl)
    obtain ⟨z',e2⟩:=turns_dd (μ:=μ2) (turn:=c366_0) (st:=stillM none) (λ_=>rfl) bv id bv (λ_ _=>bv_inj) (λo=>[none,some (bv b),o,some ans]) (beh b) z.2 (dd (dn.flatMap beh)) (λ_ _=>rfl) (λc m=>⟨⟨keyV_bv (hok b mb c m) 5,rfl⟩,λz=>⟨some (bv c),λa=>ok_bind (m:=st 2 (bv c)) rfl rfl⟩⟩) hc
    refine W_e rfl (W_e e2 ?_)
    have q:=n (some (bv b),z') μ2 j2
    rw [List.flatMap_append,List.flatMap_singleton] at q
    unfold dd at q ⊢
    rw [List.foldl_append] at q
    rw [List.map_id]
    exact q
  · intro z μ1 j
    exact W_e (dct_ok hd) (W_e rfl (W_e (list_dctM hd) (W_e rfl (q _ j))))
end
end
section
open PySem
noncomputable def heldO (r:Lt):O:=.inst false [.int r.u,r.f,.int r.m]
noncomputable def blank:Lt:=⟨0,.none,0⟩
noncomputable abbrev V5:=V×V×V×V×V
noncomputable def copyO (rs:Nat) (op:Bool) (x:V5):O:=.inst true [tx "b",.int 0,x.1,x.2.1,.ref rs,.dct [] [],.bool op,x.2.2.1,x.2.2.2.1,x.2.2.2.2]
structure CpAt (μ:List O) (c:Nat) (op:Bool) (x:V5) (rows:List Lt) (rs:Nat) (hs:List Nat):Prop where
  top:μ[c]?=some (copyO rs op x)
  list:μ[rs]?=some (.list (hs.map .ref))
  len:hs.length=rows.length
  held:∀ (i a:Nat) (r:Lt),hs[i]?=some a->rows[i]?=some r->μ[a]?=some (heldO r)
  few:rows.length<=50
section
variable {n:Nat} {μ μ':List O} {ρ:List (Option V)} {Q:V->List O->Prop} {X:List O->Prop} {R:Asn} {Φ:Tab} {c rs a:Nat} {hs:List Nat} {rows:List Lt} {op:Bool} {x:V5} {r:Lt}
theorem CpAt.getR (h:CpAt μ c op x rows rs hs) {m:M V} (hm:m μ ρ=.ok (.ref c) μ ρ):att .rows m μ ρ=.ok (.ref rs) μ ρ:=ok_bind hm (get_at h.top rfl)
theorem CpAt.hb (h:CpAt μ c op x rows rs hs):(hs.map V.ref).length<=big:=len_le (n:=50) (by rw [List.length_map,h.len];exact h.few) rfl
theorem CpAt.n50 (h:CpAt μ c op x rows rs hs):(rows.length:Int)<=50:=Int.ofNat_le.mpr h.few
theorem CpAt.lenRows (h:CpAt μ c op x rows rs hs) {m:M V} (hm:m μ ρ=.ok (.ref c) μ ρ):bi false .len (each [att .rows m]) μ ρ=.ok (.int rows.length) μ ρ:=(ok_bind (each1 (h.getR hm)) (len_ref h.list h.hb)).trans (by rw [List.length_map,h.len])
theorem CpAt.at (h:CpAt μ c op x rows rs hs) {j:Int} (h0:0<=j) (hr:rows[j.toNat]?=some r):∃ a,hs[j.toNat]?=some a/\μ[a]?=some (heldO r)/\∀ {m m':M V} {ρ:List (Option V)},m μ ρ=.ok (.ref c) μ ρ->m' μ ρ=.ok (.int j) μ ρ->idx (att .rows m) m' μ ρ=.ok (.ref a) μ ρ:=by
  have hj:=(List.getElem?_eq_some_iff.mp hr).1
  have ha:=List.getElem?_eq_getElem (h.len.symm▸hj)
  exact ⟨_,ha,h.held _ _ _ ha hr,λhm hm'=>ok_bind (h.getR hm) (ok_bind hm' (idx_list h.list (fits_le (Int.le_trans (by decide) h0) (Int.le_trans (Int.le_of_lt ((Int.toNat_lt h0).mp hj)) (Int.le_trans h.n50 (by decide)))) (item_int h0 (by rw [List.getElem?_map,ha];rfl))))⟩
theorem CpAt.uidAt (h:CpAt μ c op x rows rs hs) {j:Int} (h0:0<=j) (hr:rows[j.toNat]?=some r) {m m':M V} (hm:m μ ρ=.ok (.ref c) μ ρ) (hm':m' μ ρ=.ok (.int j) μ ρ):att .uid (idx (att .rows m) m') μ ρ=.ok (.int r.u) μ ρ:=
  by obtain ⟨_,_,g,i⟩:=h.at h0 hr;exact ok_bind (i hm hm') (get_at g rfl)
noncomputable def Lt.whole (r:Lt):Bool:=decide (0<r.u)&&!decide (r.f=.none)
theorem isNone_dec (v:V):v.isNone=decide (v=.none):=by
  cases h:v.isNone
  · exact (decide_eq_false λe=>Bool.noConfusion (h.symm.trans (congrArg V.isNone e))).symm
  · exact (decide_eq_true (V.isNone_eq h)).symm
theorem s158 (h:μ[a]?=some (heldO r)):phiT tab (n+1) 158 [.ref a] μ=.ok (.bool r.whole) μ:=by
  refine CRw.eq (g158 (W_r (ρ':=[some (.ref a)]) (ok_bind (a:=.bool r.whole) (ok_bind (a:=.bool (decide (0<r.u))) (ok_bind (ok_bind rfl (get_at h rfl)) rfl) ?_) rfl) ⟨rfl,rfl⟩))
  unfold Lt.whole
  cases decide (0<r.u)
  · rfl
  · exact ok_bind (a:=true) rfl (ok_bind (ok_bind rfl (get_at h rfl)) (congrArg (λb=>Res.ok (V.bool !b) μ _) (isNone_dec r.f)))
theorem s165 (h:μ[a]?=some (heldO r)):phiT tab (n+1) 165 [.ref a] μ=.ok r.v μ:=
  CRw.eq (g165 (W_r (ok_bind (ok_bind (each3 (ok_bind rfl (get_at h rfl)) (ok_bind rfl (get_at h rfl)) (ok_bind rfl (get_at h rfl))) (tup_ok (vs:=[_,_,_]) (by decide:3<=big))) rfl) ⟨rfl,rfl⟩))
theorem meth_at {o:O} {m:M V} {name:Str} {f:Addr} {args:List V} {ms:M (List V)} {v:V} (ho:μ[a]?=some o) (hf:meAt name o=some (.fn f)) (hm:m μ ρ=.ok (.ref a) μ ρ) (hms:ms μ ρ=.ok args μ ρ) (h:Φ f (.ref a :: args) μ=.ok v μ):meth Φ m name ms μ ρ=.ok v μ ρ:=
  ok_bind hm (ok_bind (a:=.fn f) (rd_ok (f:=pickV (.ref a) name) (by show (μ[a]?).bind _=_;rw [ho];exact hf)) (ok_bind hms (show methM Φ (.ref a) (.fn f) args μ ρ=_ from call_eq h)))
theorem W_meth {Q:V->List O->List (Option V)->Prop} {o:O} {m:M V} {name:Str} {f:Addr} {args:List V} {ms:M (List V)} (ho:μ[a]?=some o) (hf:meAt name o=some (.fn f)) (hm:m μ ρ=.ok (.ref a) μ ρ) (hms:ms μ ρ=.ok args μ ρ) (h:CRw (Φ f (.ref a :: args) μ) (λv μ'=>Q v μ' ρ) X):W (meth Φ m name ms) Q X μ ρ:=
  W_s hm (W_s (a:=.fn f) (rd_ok (f:=pickV (.ref a) name) (by show (μ[a]?).bind _=_;rw [ho];exact hf)) (W_s hms (W_call h)))
theorem s198 {k:Int} (h:CpAt μ c op x rows rs hs) (no:¬(1<=k/\k<=rows.length)->X μ) (yes:1<=k->k<=rows.length->∀ a r,hs[(k - 1).toNat]?=some a->rows[(k - 1).toNat]?=some r->Q (.ref a) μ):CRw (phiT tab (n+1) 198 [.ref c,.int k] μ) Q X:=by
  have hin:cmp2 .LtE .LtE (retM (.int 1)) (ld 1) (bi false .len (each [att .rows (ld 0)])) μ [some (.ref c),some (.int k)]=.ok (decide (1<=k/\k<=rows.length)) μ [some (.ref c),some (.int k)]:=by
    refine ok_bind (m:=retM (V.int 1)) rfl (ok_bind (a:=.int k) rfl (ok_bind (a:=decide (1<=k)) rfl ?_))
    by_cases h1:1<=k
    · rw [decide_eq_true h1]
      exact ok_bind (h.lenRows rfl) (congrArg (λc=>Res.ok c μ _) (decide_eq_decide.mpr (and_iff_right h1).symm))
    · rw [decide_eq_false h1,decide_eq_false λq=>h1 q.1];rfl
  by_cases hk:1<=k/\k<=rows.length
  · have hlt:(k - 1).toNat<rows.length:=(Int.toNat_lt (Int.sub_nonneg_of_le hk.1)).mpr (Int.lt_of_lt_of_le (Int.sub_lt_self k (by decide)) hk.2)
    obtain ⟨a,ha,_,i⟩:=h.at (Int.sub_nonneg_of_le hk.1) (List.getElem?_eq_getElem hlt)
    exact g198 (W_n (ok_f (not_ok (tst hin (decide_eq_true hk))) rfl) (W_r (ok_bind (i rfl (ok_bind rfl rfl)) rfl) (yes hk.1 hk.2 a _ ha (List.getElem?_eq_getElem hlt))))
  · exact g198 (W_sq (W_t (not_ok (tst hin (decide_eq_false hk))) (W_sq (W_x rfl (no hk)))))
theorem zip_fst:∀ {hs:List Nat} {rows:List Lt},hs.length=rows.length->(hs.zip rows).map (λp=>V.ref p.1)=hs.map .ref
  | [],[],_=>rfl
  | a :: hs,b :: rows,h=>congrArg (V.ref a :: ·) (zip_fst (Nat.succ.inj h))
theorem zip_snd {α:Type} (f:Lt->α):∀ {hs:List Nat} {rows:List Lt},hs.length=rows.length->(hs.zip rows).map (λp=>f p.2)=rows.map f
  | [],[],_=>rfl
  | a :: hs,b :: rows,h=>congrArg (f b :: ·) (zip_snd f (Nat.succ.inj h))
theorem CpAt.pair (h:CpAt μ c op x rows rs hs) {p:Nat×Lt} (hp:p∈hs.zip rows):μ[p.1]?=some (heldO p.2):=by
  obtain ⟨i,hi⟩:=List.getElem?_of_mem hp
  obtain ⟨h1,h2⟩:=List.getElem?_zip_eq_some.mp hi
  exact h.held i _ _ h1 h2
theorem CpAt.comp (h:CpAt μ c op x rows rs hs) {m:M V} {t:V->Acc->M Acc} (f:Lt->V) (hm:m μ ρ=.ok (.ref c) μ ρ) (step:∀ a r,μ[a]?=some (heldO r)->∀ (z:Option V) acc,acc.length+[f r].length<=big->t (.ref a) (acc,[]) μ [none,z]=.ok (acc++[f r],[]) μ [none,some (.ref a)]):comp [none,none] true false (srcE (att .rows m)) t μ ρ=.ok (.lst (rows.map f)) μ ρ:=by
  have e:=comp_map (μ:=μ) (ρ:=ρ) (t:=false) (λp:Nat×Lt=>V.ref p.1) (λp=>f p.2) (λz:Option V=>[none,z]) none (src:=srcE (att .rows m)) (turn:=t) (l:=hs.zip rows) (ok_bind (h.getR hm) (by rw [zip_fst h.len];exact src_ref h.list)) (still_at h.list) (L:=[none,none]) rfl (λp hp z acc hc=>⟨_,step p.1 p.2 (h.pair hp) z acc hc⟩) (by rw [List.length_zip];exact Nat.le_trans (Nat.min_le_right ..) (Nat.le_trans h.few (by decide)))
  rw [zip_snd f h.len] at e
  exact e.trans (lst_f (by rw [List.length_map];exact Nat.le_trans h.few (by decide)))
theorem s191 (h:CpAt μ c op x rows rs hs):phiT tab (n+1) 191 [.ref c] μ=.ok (.lst ((rows.map (·.u)).map .int)) μ:=
  CRw.eq (g191 (W_r (ok_bind (h.comp (λr=>.int r.u) rfl λa r g z acc hc=>ok_bind (m:=st 1 (.ref a)) rfl (ok_bind (ok_bind rfl (get_at g rfl)) (emit_ok hc))) rfl) ⟨by rw [List.map_map];rfl,rfl⟩))
theorem s208 (h:CpAt μ c op x rows rs hs):phiT tab (n+2) 208 [.ref c] μ=.ok (.tup [tx "b",.int 0,.tup (rows.map Lt.v)]) μ:=
  CRw.eq (g208 (W_r (ok_bind (ok_bind (each3 (ok_bind rfl (get_at h.top rfl)) (ok_bind rfl (get_at h.top rfl)) (ok_bind (each1 (h.comp Lt.v rfl λa r g z acc hc=>ok_bind (m:=st 1 (.ref a)) rfl (ok_bind (meth_at g rfl rfl rfl (s165 g)) (emit_ok hc)))) (tuple_lst (by rw [List.length_map];exact Nat.le_trans h.few (by decide))))) (tup_ok (vs:=[_,_,_]) (by decide:3<=big))) rfl) ⟨rfl,rfl⟩))
theorem s203 (h:CpAt μ c op x rows rs hs):phiT tab (n+2) 203 [.ref c] μ=.ok (.lst (((irange 1 (rows.length+1)).filter λi=>!(rows[(i - 1).toNat]?.any Lt.whole)).map .int)) μ:=by
  have hN:(rows.length:Int)+1<=51:=Int.add_le_add_right h.n50 1
  have e:=comp_filter (μ:=μ) (ρ:=[some (V.ref c)]) (t:=false) (turn:=c203_0 (phiT tab (n+1))) V.int V.int (λi=>!(rows[(i - 1).toNat]?.any Lt.whole)) (λz:Option V=>[none,z,some (.ref c)]) none (L:=[none,none,some 0]) (l:=irange 1 (rows.length+1)) (src_two (m:=retM (.int 1)) (m':=op2 false .Add (bi false .len (each [att .rows (ld 0)])) (retM (.int 1))) rfl (ok_bind (h.lenRows rfl) rfl) (by decide) (by decide) (Int.le_trans (by decide) (Int.add_le_add_right (Int.natCast_nonneg _) 1)) (Int.le_trans hN (by decide))) rfl rfl (λi m z acc hc=>⟨some (.int i),by
    obtain ⟨h1,h2⟩:=mem_irange.mp m
    have h0:=Int.sub_nonneg_of_le h1
    have hlt:(i - 1).toNat<rows.length:=(Int.toNat_lt h0).mpr (Int.sub_right_lt_of_lt_add h2)
    obtain ⟨a,_,g,ix⟩:=h.at h0 (List.getElem?_eq_getElem hlt)
    rw [List.getElem?_eq_getElem hlt] at hc ⊢
    exact ok_bind (m:=st 1 (.int i)) rfl (emit_if (and1 (not_ok (ok_bind (meth_at g rfl (ix rfl (ok_bind rfl rfl)) rfl (s158 g)) rfl))) rfl hc)⟩) (Nat.le_trans (len_small (k:=50) (Int.le_trans hN (by decide))) (by decide))
  exact CRw.eq (g203 (W_r (ok_bind (e.trans (lst_f (by rw [List.length_map];exact Nat.le_trans (List.length_filter_le ..) (Nat.le_trans (len_small (k:=50) (Int.le_trans hN (by decide))) (by decide))))) rfl) ⟨rfl,rfl⟩))
end
end
section
open PySem
noncomputable def idxs:List Lt->Int->List V
  | [],_=>[]
  | _ :: l,p=>.int p :: idxs l (p+1)
theorem idxs_eq (l:List Lt) (p:Int):(irange p (p+l.length)).map V.int=idxs l p:=by
  unfold irange
  rw [List.map_map,Int.add_comm,Int.add_sub_cancel,Int.toNat_natCast]
  induction l generalizing p with
  | nil=>rfl
  | cons r l ih=>
    rw [List.length_cons,List.range_succ_eq_map,List.map_cons,List.map_map,idxs,←ih]
    refine congr (congrArg List.cons (congrArg V.int (Int.add_zero p))) (List.map_congr_left λk _=>congrArg V.int ?_)
    show p+((k+1:Nat):Int)=p+1+k
    rw [Int.natCast_add,Int.add_assoc,Int.add_comm (k:Int)];rfl
theorem idxs0 (l:List Lt):(irange 0 l.length).map V.int=idxs l 0:=(congrArg (λn=>(irange 0 n).map V.int) (Int.zero_add _).symm).trans (idxs_eq l 0)
noncomputable def BadUid (k u j:Int) (r:Lt):Bool:=(decide (0<r.u)&&(decide (j=k - 1)&&!decide (r.u=u)))||((decide (0<r.u)&&(decide (j<k - 1)&&decide (u<=r.u)))||((decide (0<r.u)&&decide (r.u<=u))&&decide (k - 1<j)))
noncomputable def goneL:List Lt->Int->Int->Int->Option Int
  | [],_,unk,_=>if unk<0 then none else some unk
  | r :: l,p,unk,u=>if r.u=u then some p else if u<r.u then (if unk<0 then none else some unk) else goneL l (p+1) (if r.u=0 then p else -1) u
section
variable {n:Nat} {μ μ':List O} {ρ:List (Option V)} {X:List O->Prop} {R:Asn} {Φ:Tab} {c rs a:Nat} {hs:List Nat} {rows:List Lt} {op:Bool} {x:V5} {r:Lt} {k u:Int}
theorem cmp2_ok {o1 o2:CmpOp} {m1 m2 m3:M V} {v w:V} {b d:Bool} (h1:m1 μ ρ=.ok v μ ρ) (h2:m2 μ ρ=.ok w μ ρ) (h3:cmpM o1 v w μ ρ=.ok b μ ρ) (h4:bindM m3 (λz=>cmpM o2 w z) μ ρ=.ok d μ ρ):cmp2 o1 o2 m1 m2 m3 μ ρ=.ok (b&&d) μ ρ:=ok_bind h1 (ok_bind h2 (ok_bind h3 (by
  cases b
  · rfl
  · exact h4)))
theorem CpAt.rng (h:CpAt μ c op x rows rs hs) {m:M V} (hm:m μ ρ=.ok (.ref c) μ ρ):srcE (bi false .tRange (each [bi false .len (each [att .rows m])])) μ ρ=.ok (none,idxs rows 0) μ ρ:=idxs0 rows▸src_to (h.lenRows hm) (Int.natCast_nonneg _) (Int.le_trans h.n50 (by decide))
noncomputable def Tl (rows l:List Lt) (p:Int):Prop:=0<=p/\∀ j:Nat,l[j]?=rows[p.toNat+j]?
theorem Tl.hd {l:List Lt} {p:Int} (h:Tl rows (r :: l) p):rows[p.toNat]?=some r:=(h.2 0).symm
theorem Tl.tl {l:List Lt} {p:Int} (h:Tl rows (r :: l) p):Tl rows l (p+1):=⟨Int.add_nonneg h.1 (by decide),λj=>by rw [show (p+1).toNat=p.toNat+1 from Int.toNat_add_nat h.1 1,Nat.add_assoc,Nat.add_comm 1 j];exact h.2 (j+1)⟩
theorem Tl.all (rows:List Lt):Tl rows rows 0:=⟨Int.le_refl 0,λj=>by rw [show (0:Int).toNat=0 from rfl,Nat.zero_add]⟩
theorem b234 {Q:Fl->List O->List (Option V)->Prop} (h:CpAt μ c op x rows rs hs) (l:List Lt):∀ (p:Int) (y z:Option V),Tl rows l p->(∀ (j:Int) r,0<=j->rows[j.toNat]?=some r->BadUid k u j r=true->X μ)->(∀ (j:Int) r,0<=j->j<p->rows[j.toNat]?=some r->BadUid k u j r=false)->((∀ (j:Int) r,0<=j->rows[j.toNat]?=some r->BadUid k u j r=false)->∀ y z,Q .next μ [some (.ref c),some (.int k),some (.int u),y,z]) ->
    W (forM (stillM none) b234_2 (idxs l p)) Q X μ [some (.ref c),some (.int k),some (.int u),y,z]:=by
  induction l with
  | nil=>exact λp y z ht bad sofar q=>W_s (m:=stillM none) rfl (q (λj r h0 hr=>if hlt:j<p then sofar j r h0 hlt hr else by
      have:=ht.2 (j - p).toNat
      rw [←Int.toNat_add ht.1 (Int.sub_nonneg_of_le (Int.not_lt.mp hlt)),Int.add_comm p,Int.sub_add_cancel,hr] at this
      exact nomatch this) y z)
  | cons r l ih=>exact λp y z ht bad sofar q=>W_s (m:=stillM none) rfl (W_bind (W_s rfl (by
      have c1:andM (cmp .Gt (ld 4) (retM (.int 0))) (andM (cmp .Eq (ld 3) (op2 false .Sub (ld 1) (retM (.int 1)))) (andM (cmp .NotEq (ld 4) (ld 2)) (retM true))) μ [some (.ref c),some (.int k),some (.int u),some (.int p),some (.int r.u)]=.ok (decide (0<r.u)&&(decide (p=k - 1)&&!decide (r.u=u))) μ [some (.ref c),some (.int k),some (.int u),some (.int p),some (.int r.u)]:=
        and_ok (ok_bind rfl rfl) (and_ok (ceq rfl (ok_bind rfl rfl)) (and1 (cne rfl rfl)))
      have c2:orM (andM (cmp .Gt (ld 4) (retM (.int 0))) (andM (cmp .Lt (ld 3) (op2 false .Sub (ld 1) (retM (.int 1)))) (andM (cmp .GtE (ld 4) (ld 2)) (retM true)))) (orM (andM (cmp2 .Lt .LtE (retM (.int 0)) (ld 4) (ld 2)) (andM (cmp .Gt (ld 3) (op2 false .Sub (ld 1) (retM (.int 1)))) (retM true))) (retM false)) μ [some (.ref c),some (.int k),some (.int u),some (.int p),some (.int r.u)]=.ok ((decide (0<r.u)&&(decide (p<k - 1)&&decide (u<=r.u)))||((decide (0<r.u)&&decide (r.u<=u))&&decide (k - 1<p))) μ [some (.ref c),some (.int k),some (.int u),some (.int p),some (.int r.u)]:=
        or_ok (and_ok (ok_bind rfl rfl) (and_ok (ok_bind rfl (ok_bind rfl rfl)) (and1 (ok_bind rfl rfl)))) (or1 (and_ok (cmp2_ok rfl rfl rfl (ok_bind rfl rfl)) (and1 (ok_bind rfl (ok_bind rfl rfl)))))
      refine W_an (h.uidAt ht.1 ht.hd rfl rfl) (W_sq (W_if c1 (λb=>W_sq (W_x rfl (bad p r ht.1 ht.hd (Bool.or_eq_true_iff.mpr (.inl b))))) λb1=>W_e rfl (W_sq (W_if c2 (λb=>W_sq (W_x rfl (bad p r ht.1 ht.hd (Bool.or_eq_true_iff.mpr (.inr b))))) λb2=>W_e rfl (W_e rfl (ih (p+1) _ _ ht.tl bad (λj r' h0 hj hr=>?_) q))))))
      by_cases e:j=p
      · subst e;rw [ht.hd] at hr;cases hr;unfold BadUid;rw [b1,b2];rfl
      · exact sofar j r' h0 (Int.lt_iff_le_and_ne.mpr ⟨Int.le_of_lt_add_one hj,e⟩) hr)))
theorem s234 {Q:V->List O->Prop} (h:CpAt μ c op x rows rs hs) (bad:∀ (j:Int) r,0<=j->rows[j.toNat]?=some r->BadUid k u j r=true->X μ) (q:(∀ (j:Int) r,0<=j->rows[j.toNat]?=some r->BadUid k u j r=false)->Q .none μ):CRw (phiT tab (n+1) 234 [.ref c,.int k,.int u] μ) Q X:=
  g234 (W_sq (W_s (h.rng rfl) (b234 h rows 0 none none (Tl.all rows) bad (λj r h0 h1=>absurd h0 (Int.not_le.mpr h1)) λg y z=>q g)))
theorem b246 {Q:Fl->List O->List (Option V)->Prop} (h:CpAt μ c op x rows rs hs) (l:List Lt):∀ (p unk:Int) (y z:Option V),Tl rows l p->(∀ p' ρ',goneL l p unk u=some p'->Q (.ret (.int p')) μ ρ')->(∀ (unk':Int) y z,goneL l p unk u=(if unk'<0 then none else some unk')->Q .next μ [some (.ref c),some (.int u),some (.int unk'),y,z]) ->
    W (forM (stillM none) b246_3 (idxs l p)) Q X μ [some (.ref c),some (.int u),some (.int unk),y,z]:=by
  induction l with
  | nil=>exact λp unk y z ht _ ends=>W_s (m:=stillM none) rfl (ends unk y z rfl)
  | cons r l ih=>exact λp unk y z ht found ends=>W_s (m:=stillM none) rfl (W_bind (W_s rfl (W_an (h.uidAt ht.1 ht.hd rfl rfl) (W_sq (W_if (ceq rfl rfl) (λb1=>W_r rfl (found _ _ (if_pos (of_decide_eq_true b1)))) λb1=>by
      have n1:=of_decide_eq_false b1
      refine W_sq (W_if (c:=decide (u<r.u)) (ok_bind rfl rfl) (λb2=>ends unk _ _ ((if_neg n1).trans (if_pos (of_decide_eq_true b2)))) λb2=>?_)
      have n2:=of_decide_eq_false b2
      refine W_an (v:=.int (if r.u=0 then p else -1)) (ρ':=[some (.ref c),some (.int u),some (.int unk),some (.int p),some (.int r.u)]) (ok_bind (ceq rfl rfl) ?_) (ih (p+1) (if r.u=0 then p else -1) _ _ ht.tl (λp' ρ' e=>found p' ρ' ((if_neg n1).trans ((if_neg n2).trans e))) λunk' y z e=>ends unk' y z ((if_neg n1).trans ((if_neg n2).trans e)))
      by_cases e:r.u=0
      · rw [decide_eq_true e,if_pos e];rfl
      · rw [decide_eq_false e,if_neg e];rfl)))))
theorem s246 {Q:V->List O->Prop} (h:CpAt μ c op x rows rs hs) (none_:goneL rows 0 (-1) u=none->X μ) (q:∀ p,goneL rows 0 (-1) u=some p->Q (.int p) μ):CRw (phiT tab (n+1) 246 [.ref c,.int u] μ) Q X:=
  g246 (W_n rfl (W_sq (W_s (h.rng rfl) (b246 h rows 0 (-1) none none (Tl.all rows) (λp ρ e=>q p e) λunk y z e=>W_sq (W_if (c:=decide (unk<0)) (ok_bind rfl rfl) (λb=>none_ (e.trans (if_pos (of_decide_eq_true b)))) λb=>q unk (e.trans (if_neg (of_decide_eq_false b))))))))
end
end
section
open PySem
noncomputable def Rw (hs:List Nat) (rows:List Lt):Asn:=λF=>F=hs.zip (rows.map heldO)
noncomputable def Cp (c:Nat) (op:Bool) (rows:List Lt):Asn:=λF=>∃ (x:V5) (rs:Nat) (hs:List Nat),hs.length=rows.length/\rows.length<=50/\F=(c,copyO rs op x) :: (rs,.list (hs.map .ref)) :: hs.zip (rows.map heldO)
structure CpH (c:Nat) (op:Bool) (x:V5) (rs:Nat) (hs:List Nat) (rows:List Lt) (R:Asn) (μ:List O):Prop where
  own:H ((pt c (copyO rs op x)).s ((pt rs (.list (hs.map .ref))).s ((Rw hs rows).s R))) μ
  len:hs.length=rows.length
  few:rows.length<=50
theorem nodup_set {x:Nat}:∀ {l:List Nat} {i:Nat},l.Nodup->x∉l->(l.set i x).Nodup
  | [],_,h,_=>h
  | a :: l,0,h,hx=>List.nodup_cons.mpr ⟨λm=>hx (List.mem_cons_of_mem _ m),(List.nodup_cons.mp h).2⟩
  | a :: l,i+1,h,hx=>List.nodup_cons.mpr ⟨λm=>(List.mem_or_eq_of_mem_set m).elim (List.nodup_cons.mp h).1 λe=>hx (e▸List.mem_cons_self),nodup_set (List.nodup_cons.mp h).2 λm=>hx (List.mem_cons_of_mem _ m)⟩
section
variable {n:Nat} {μ μ':List O} {ρ:List (Option V)} {X:List O->Prop} {A B R:Asn} {Φ:Tab} {c rs a i L:Nat} {hs hs':List Nat} {rows rows':List Lt} {op:Bool} {x:V5} {r:Lt}
theorem H.sub (h:H A μ) (f:∀ F,A F->(F.map (·.1)).Nodup->∃ G,B G/\(G.map (·.1)).Nodup/\∀ p∈G,p∈F):H B μ:=
  let ⟨F,p,n,q⟩:=h;let ⟨G,b,m,s⟩:=f F p n;⟨G,b,m,λx hx=>q x (s x hx)⟩
theorem zip_keys2 {hs:List Nat} {rows:List Lt} (h:hs.length=rows.length):(hs.zip (rows.map heldO)).map (·.1)=hs:=List.map_fst_zip (by rw [List.length_map];exact Nat.le_of_eq h)
theorem zip_mem {p:Nat×O} (m:p∈hs.zip (rows.map heldO)):∃ (i:Nat) (r:Lt),hs[i]?=some p.1/\rows[i]?=some r/\p.2=heldO r:=by
  obtain ⟨i,hi⟩:=List.getElem?_of_mem m
  obtain ⟨h1,h2⟩:=List.getElem?_zip_eq_some.mp hi
  rw [List.getElem?_map] at h2
  cases hr:rows[i]? with
  | none=>rw [hr] at h2;cases h2
  | some r=>rw [hr] at h2;exact ⟨i,r,h1,hr,(Option.some.inj h2).symm⟩
theorem mem_zip {i:Nat} {r:Lt} (ha:hs[i]?=some a) (hr:rows[i]?=some r):(a,heldO r)∈hs.zip (rows.map heldO):=List.mem_of_getElem? (List.getElem?_zip_eq_some.mpr ⟨ha,by rw [List.getElem?_map,hr];rfl⟩)
theorem CpH.cells (h:CpH c op x rs hs rows R μ):∃ BR,R BR/\Hp' ((c,copyO rs op x) :: (rs,.list (hs.map .ref)) :: (hs.zip (rows.map heldO)++BR)) μ:=by
  obtain ⟨_,⟨_,_,e,e1,_,_,e2,e3,_,BR,e4,e5,b⟩,q⟩:=h.own
  rw [e,e1,e2,e3,e4,e5] at q
  exact ⟨BR,b,q⟩
theorem CpH.of_cells {BR:Cells} (b:R BR) (q:Hp' ((c,copyO rs op x) :: (rs,.list (hs.map .ref)) :: (hs.zip (rows.map heldO)++BR)) μ) (hl:hs.length=rows.length) (hf:rows.length<=50):CpH c op x rs hs rows R μ:=
  ⟨⟨_,⟨[_],_,rfl,rfl,[_],_,rfl,rfl,_,BR,rfl,rfl,b⟩,q⟩,hl,hf⟩
theorem Cp.open {G:Prop} (h:H ((Cp c op rows).s R) μ) (k:∀ x rs hs,CpH c op x rs hs rows R μ->G):G:=by
  obtain ⟨_,⟨_,BR,e,⟨x,rs,hs,hl,hf,e2⟩,b⟩,q⟩:=h
  rw [e,e2] at q
  exact k x rs hs (.of_cells b q hl hf)
theorem CpH.close (h:CpH c op x rs hs rows R μ):H ((Cp c op rows).s R) μ:=
  let ⟨BR,b,q⟩:=h.cells;⟨_,⟨_,BR,rfl,⟨x,rs,hs,h.len,h.few,rfl⟩,b⟩,q⟩
theorem CpH.view (h:CpH c op x rs hs rows R μ):CpAt μ c op x rows rs hs:=
  let ⟨_,_,q⟩:=h.cells
  ⟨h.own.get,h.own.sw.get,h.len,λ_ _ _ ha hr=>q.2 _ (List.mem_cons_of_mem _ (List.mem_cons_of_mem _ (List.mem_append_left _ (mem_zip ha hr)))),h.few⟩
theorem CpH.setRow (h:CpH c op x rs hs rows R μ) (ha:hs[i]?=some a) (r:Lt):CpH c op x rs hs (rows.set i r) R (μ.set a (heldO r)):=by
  obtain ⟨BR,b,n,q⟩:=h.cells
  have hl:hs.length=(rows.set i r).length:=h.len.trans List.length_set.symm
  have hlt:=(List.getElem?_eq_some_iff.mp ha).1
  have hr:=List.getElem?_eq_getElem (h.len▸hlt:i<rows.length)
  have n':=n
  rw [List.map_cons,List.map_cons,List.map_append,zip_keys2 h.len] at n'
  have nc:=List.nodup_cons.mp n'
  have nr:=List.nodup_cons.mp nc.2
  have na:=List.nodup_append.mp nr.2
  have ma:a∈hs:=List.mem_of_getElem? ha
  have other:∀ p:Nat×O,p∈(c,copyO rs op x) :: (rs,O.list (hs.map .ref)) :: (hs.zip (rows.map heldO)++BR)->a≠p.1->(μ.set a (heldO r))[p.1]?=some p.2:=λp m e=>at_ne (q p m) e
  refine .of_cells b ⟨by rw [List.map_cons,List.map_cons,List.map_append,zip_keys2 hl];exact n',λp m=>?_⟩ hl (by rw [List.length_set];exact h.few)
  rcases List.mem_cons.mp m with rfl | m
  · exact other _ List.mem_cons_self λe=>nc.1 (List.mem_cons_of_mem _ (List.mem_append_left _ (e▸ma)))
  · rcases List.mem_cons.mp m with rfl | m
    · exact other _ (List.mem_cons_of_mem _ List.mem_cons_self) λe=>nr.1 (List.mem_append_left _ (e▸ma))
    · rcases List.mem_append.mp m with m | m
      · obtain ⟨j,r',h1,h2,e⟩:=zip_mem m
        by_cases hj:i=j
        · subst hj
          rw [List.getElem?_set_self (h.len▸hlt)] at h2
          rw [e,←Option.some.inj h2,←Option.some.inj (ha.symm.trans h1)]
          exact at_set (h.view.held i a _ ha hr)
        · rw [List.getElem?_set_ne hj] at h2
          have hm:=mem_zip h1 h2
          rw [←e] at hm
          exact other _ (List.mem_cons_of_mem _ (List.mem_cons_of_mem _ (List.mem_append_left _ hm))) λe=>hj ((List.getElem?_inj hlt na.1).mp (ha.trans ((congrArg some e).trans h1.symm)))
      · exact other _ (List.mem_cons_of_mem _ (List.mem_cons_of_mem _ (List.mem_append_right _ m))) λe=>na.2.2 a ma p.1 (List.mem_map.mpr ⟨p,m,rfl⟩) e
end
end
section
open PySem
noncomputable def dropAt (rows:List Lt) (p:Nat):List Lt:=rows.take p++rows.drop (p+1)
noncomputable def news:Nat->Nat->List Nat
  | _,0=>[]
  | L,m+1=>L :: news (L+1) m
section
variable {n:Nat} {μ μ':List O} {ρ:List (Option V)} {X:List O->Prop} {A B T R:Asn} {Φ:Tab} {c rs a i L:Nat} {hs hs':List Nat} {rows rows':List Lt} {op:Bool} {x:V5} {r:Lt}
theorem W_lay {Q:Fl->List O->List (Option V)->Prop} {f:Fd} {m:M V} {k:M Fl} {v:V} {o o':O} (h:H ((pt a o).s R) μ) (ho:ld 0 μ ρ=.ok (.ref a) μ ρ) (hm:m μ ρ=.ok v μ ρ) (hv:putO f v o=some o') (q:∀ μ',H ((pt a o').s R) μ'->W k Q X μ' ρ):W (sq (asA f (ld 0) m) k) Q X μ ρ:=
  W_n (ok_bind hm (ok_bind (ok_bind ho (set_at h.get hv)) rfl)) (q _ (h.put o'))
theorem set_new {o o':O}:(μ++[o]).set μ.length o'=μ++[o']:=by rw [List.set_append_right _ _ (Nat.le_refl _),Nat.sub_self];rfl
theorem asA_new {f:Fd} {m:M V} {v:V} {o o':O} (ho:ld 0 (μ++[o]) ρ=.ok (.ref μ.length) (μ++[o]) ρ) (hm:m (μ++[o]) ρ=.ok v (μ++[o]) ρ) (hv:putO f v o=some o'):asA f (ld 0) m (μ++[o]) ρ=.ok .next (μ++[o']) ρ:=(ok_bind hm (ok_bind (ok_bind (f:=λu=>setA f u v) ho (set_at at_new hv)) rfl)).trans (congrArg (λμ=>Res.ok Fl.next μ ρ) (set_new (o:=o)))
theorem s151:phiT tab (n+1) 151 [.ref μ.length,.int 0,.none,.int 0] (μ++[.inst false []])=.ok .none (μ++[heldO blank]):=
  CRw.eq (g151 (W_n (asA_new rfl rfl rfl) (W_n (asA_new rfl rfl rfl) (W_n (asA_new rfl rfl rfl) ⟨rfl,rfl⟩))))
theorem held_new {t:Bool}:bindM (each []) (callB (phiT tab (n+1)) t .cHeld) μ ρ=.ok (.ref μ.length) (μ++[heldO blank]) ρ:=ok_bind (a:=[]) rfl (show bindM (allocM (.inst false [])) (λr=>bindM (callA (phiT tab (n+1)) 151 [r,.int 0,.none,.int 0]) λv=>gd v.isNone (retM r)) μ ρ=_ from ok_bind rfl (ok_bind (call_eq s151) rfl))
theorem W_copy {Q:V->List O->List (Option V)->Prop} {t:Bool} (h:H R μ) (q:∀ c rs μ',H ((pt c (.inst true [tx "",.int 0,.int 0,.int 0,.ref rs,.dct [] [],.bool false,.int 0,.bool false,.tup []])).s ((pt rs (.list [])).s R)) μ'->Q (.ref c) μ' ρ):W (bindM (each []) (callB (phiT tab (n+1)) t .cCopy)) Q X μ ρ:=
  W_s (a:=[]) rfl (show W (bindM (allocM (.inst true [])) λr=>bindM (callA (phiT tab (n+1)) 186 [r]) λv=>gd v.isNone (retM r)) Q X μ ρ from W_s rfl (W_bind (W_call (g186 (W_lay (h.new _) rfl rfl rfl λ_ h=>W_lay h rfl rfl rfl λ_ h=>W_lay h rfl rfl rfl λ_ h=>W_lay h rfl rfl rfl λμ1 h=>W_n (ok_bind lst_nil (ok_bind (ok_bind rfl (set_at (h.new (.list [])).sw.get rfl)) rfl)) (W_lay ((h.new (.list [])).sw.put _) rfl rfl rfl λ_ h=>W_lay h rfl rfl rfl λ_ h=>W_lay h rfl rfl rfl λ_ h=>W_lay h rfl rfl rfl λ_ h=>W_lay h rfl rfl rfl λ_ h=>W_e (a:=.next) rfl (W_e (a:=V.ref μ.length) rfl (q _ _ _ h))))))))
theorem CpH.setNew (h:CpH c op x rs hs rows R μ) (hi:i<rows.length) (r:Lt):CpH c op x rs (hs.set i μ.length) (rows.set i r) R ((μ++[heldO r]).set rs (.list ((hs.map .ref).set i (.ref μ.length)))):=by
  have hl:(hs.set i μ.length).length=(rows.set i r).length:=by rw [List.length_set,List.length_set];exact h.len
  refine ⟨((h.own.new (heldO r)).up3.put (.list ((hs.map .ref).set i (.ref μ.length)))).sub λF m nd=>?_,hl,by rw [List.length_set];exact h.few⟩
  obtain ⟨_,_,e,e1,_,_,e2,e3,_,_,e4,e5,_,BR,e6,e7,b⟩:=m
  rw [show F=(rs,.list ((hs.map .ref).set i (.ref μ.length))) :: (μ.length,heldO r) :: (c,copyO rs op x) :: (hs.zip (rows.map heldO)++BR) by rw [e,e1,e2,e3,e4,e5,e6,e7];rfl] at nd ⊢
  refine ⟨(c,copyO rs op x) :: (rs,.list ((hs.set i μ.length).map .ref)) :: ((hs.set i μ.length).zip ((rows.set i r).map heldO)++BR),⟨[_],_,rfl,rfl,[_],_,rfl,rfl,_,BR,rfl,rfl,b⟩,?_,λp m=>?_⟩
  · rw [List.map_cons,List.map_cons,List.map_cons,List.map_append,zip_keys2 h.len] at nd
    rw [List.map_cons,List.map_cons,List.map_append,zip_keys2 hl]
    obtain ⟨n1,n2⟩:=List.nodup_cons.mp nd
    obtain ⟨n3,n4⟩:=List.nodup_cons.mp n2
    obtain ⟨n5,n6⟩:=List.nodup_cons.mp n4
    have key:=nodup_set (i:=i+2) (x:=μ.length) (l:=c :: rs :: (hs++BR.map (·.1))) (List.nodup_cons.mpr ⟨λm=>(List.mem_cons.mp m).elim (λe=>n1 (e▸List.mem_cons_of_mem _ List.mem_cons_self)) n5,List.nodup_cons.mpr ⟨λm=>n1 (List.mem_cons_of_mem _ (List.mem_cons_of_mem _ m)),n6⟩⟩) λm=>(List.mem_cons.mp m).elim (λe=>n3 (e▸List.mem_cons_self)) λm=>(List.mem_cons.mp m).elim (λe=>n1 (e▸List.mem_cons_self)) λm=>n3 (List.mem_cons_of_mem _ m)
    rw [List.set_cons_succ,List.set_cons_succ,List.set_append_left _ _ (h.len▸hi)] at key
    exact key
  · rcases List.mem_cons.mp m with rfl | m
    · exact List.mem_cons_of_mem _ (List.mem_cons_of_mem _ List.mem_cons_self)
    · rcases List.mem_cons.mp m with rfl | m
      · rw [List.map_set];exact List.mem_cons_self
      · rcases List.mem_append.mp m with m | m
        · obtain ⟨j,r',h1,h2,e⟩:=zip_mem m
          by_cases hj:i=j
          · subst hj
            rw [List.getElem?_set_self (h.len▸hi)] at h1
            rw [List.getElem?_set_self hi] at h2
            exact List.mem_cons_of_mem _ (List.mem_cons.mpr (.inl (Prod.ext (Option.some.inj h1).symm (e.trans (congrArg heldO (Option.some.inj h2).symm)))))
          · rw [List.getElem?_set_ne hj] at h1 h2
            have hm:=mem_zip h1 h2
            rw [←e] at hm
            exact List.mem_cons_of_mem _ (List.mem_cons_of_mem _ (List.mem_cons_of_mem _ (List.mem_append_left _ hm)))
        · exact List.mem_cons_of_mem _ (List.mem_cons_of_mem _ (List.mem_cons_of_mem _ (List.mem_append_right _ m)))
theorem CpH.newRows (h:H ((pt L (.list (hs'.map .ref))).s ((pt c (copyO rs op x)).s T)) μ) (hl:hs'.length=rows'.length) (hf:rows'.length<=50) (f:∀ F,T F->(F.map (·.1)).Nodup->∃ BR,R BR/\(hs'++BR.map (·.1)).Nodup/\∀ p∈hs'.zip (rows'.map heldO)++BR,p∈F):CpH c op x L hs' rows' R (μ.set c (copyO L op x)):=
  ⟨(h.sw.put (copyO L op x)).sub λF m nd=>by
    obtain ⟨_,_,e,e1,_,TF,e2,e3,t⟩:=m
    rw [show F=(c,copyO L op x) :: (L,.list (hs'.map .ref)) :: TF by rw [e,e1,e2,e3];rfl] at nd ⊢
    obtain ⟨n1,n2⟩:=List.nodup_cons.mp nd
    obtain ⟨n3,n4⟩:=List.nodup_cons.mp n2
    obtain ⟨BR,b,n5,s⟩:=f TF t n4
    have hk:∀ y∈hs'++BR.map (·.1),y∈TF.map (·.1):=λy m=>by
      rw [←zip_keys2 hl,←List.map_append] at m
      obtain ⟨p,hp,rfl⟩:=List.mem_map.mp m
      exact List.mem_map_of_mem (s p hp)
    refine ⟨(c,copyO L op x) :: (L,.list (hs'.map .ref)) :: (hs'.zip (rows'.map heldO)++BR),⟨[_],_,rfl,rfl,[_],_,rfl,rfl,_,BR,rfl,rfl,b⟩,?_,λp m=>?_⟩
    · rw [List.map_cons,List.map_cons,List.map_append,zip_keys2 hl]
      exact List.nodup_cons.mpr ⟨λm=>(List.mem_cons.mp m).elim (λe=>n1 (List.mem_cons.mpr (.inl e))) λm=>n1 (List.mem_cons_of_mem _ (hk _ m)),List.nodup_cons.mpr ⟨λm=>n3 (hk _ m),n5⟩⟩
    · rcases List.mem_cons.mp m with rfl | m
      · exact List.mem_cons_self
      · rcases List.mem_cons.mp m with rfl | m
        · exact List.mem_cons_of_mem _ List.mem_cons_self
        · exact List.mem_cons_of_mem _ (List.mem_cons_of_mem _ (s p m)),hl,hf⟩
end
end
section
open PySem
noncomputable def Blur (rows:List Lt) (p:Nat) (rows':List Lt):Prop:=rows'.length=rows.length/\∀ i r,rows[i]?=some r->∃ r',rows'[i]?=some r'/\r'.u=r.u/\(r'=r∨r'=blank)/\((∀ j q,min i p<=j->j<=max i p->rows[j]?=some q->q.u=0)->r'=blank)
structure Low (rows:List Lt) (p lo:Nat):Prop where
  le:lo<=p
  zr:∀ j r,lo<=j->j<=p->rows[j]?=some r->r.u=0
structure Bl (rows:List Lt) (lo hi:Nat) (rows':List Lt):Prop where
  len:rows'.length=rows.length
  le:lo<=hi
  at_:∀ (i:Nat) (r:Lt),rows[i]?=some r->rows'[i]?=some (if lo<=i/\i<hi then blank else r)
  zr:∀ (i:Nat) (r:Lt),lo<=i->i<hi->rows[i]?=some r->r.u=0
theorem blur_of {rows rows':List Lt} {p lo hi:Nat} {r0:Lt} (hp:rows[p]?=some r0) (h:Low rows p lo) (e:lo=0∨∃ r,rows[lo - 1]?=some r/\r.u≠0) (b:Bl rows lo hi rows') (f:∀ r,rows[hi]?=some r->r.u≠0) (hh:hi<=rows.length):Blur rows p rows':=by
  have hph:p<hi:=Nat.lt_of_not_le λq=>by
    have:=List.getElem?_eq_getElem (Nat.lt_of_le_of_lt q (List.getElem?_eq_some_iff.mp hp).1)
    exact f _ this (h.zr hi _ b.le q this)
  refine ⟨b.len,λi r hr=>⟨_,b.at_ i r hr,?_,?_,λz=>?_⟩⟩
  · by_cases c:lo<=i/\i<hi
    · rw [if_pos c];exact (b.zr i r c.1 c.2 hr).symm
    · rw [if_neg c]
  · by_cases c:lo<=i/\i<hi
    · rw [if_pos c];exact .inr rfl
    · rw [if_neg c];exact .inl rfl
  · refine if_pos ⟨Nat.le_of_not_lt λq=>?_,Nat.lt_of_not_le λq=>?_⟩
    · rcases e with rfl | ⟨r1,h1,h2⟩
      · exact absurd q (Nat.not_lt_zero i)
      · exact h2 (z (lo - 1) r1 (Nat.le_trans (Nat.min_le_left ..) (Nat.le_sub_one_of_lt q)) (Nat.le_trans (Nat.le_trans (Nat.sub_le ..) h.le) (Nat.le_max_right ..)) h1)
    · have:=List.getElem?_eq_getElem (Nat.lt_of_le_of_lt q (List.getElem?_eq_some_iff.mp hr).1)
      exact f _ this (z hi _ (Nat.le_trans (Nat.min_le_right ..) (Nat.le_of_lt hph)) (Nat.le_trans q (Nat.le_max_left ..)) this)
theorem Bl.next {rows rows':List Lt} {lo hi:Nat} {r:Lt} (b:Bl rows lo hi rows') (hr:rows[hi]?=some r) (hz:r.u=0):Bl rows lo (hi+1) (rows'.set hi blank) where
  len:=List.length_set.trans b.len
  le:=Nat.le_succ_of_le b.le
  at_ i q hq:=by
    by_cases e:hi=i
    · subst e
      rw [List.getElem?_set_self (b.len▸(List.getElem?_eq_some_iff.mp hr).1),if_pos ⟨b.le,Nat.lt_succ_self _⟩]
    · rw [List.getElem?_set_ne e,b.at_ i q hq]
      by_cases c:lo<=i/\i<hi
      · rw [if_pos c,if_pos ⟨c.1,Nat.lt_succ_of_lt c.2⟩]
      · rw [if_neg c,if_neg λd=>c ⟨d.1,Nat.lt_of_le_of_ne (Nat.le_of_lt_succ d.2) (Ne.symm e)⟩]
  zr i q h1 h2 hq:=(Nat.lt_succ_iff_lt_or_eq.mp h2).elim (λh=>b.zr i q h1 h hq) λe=>by subst e;rw [hr] at hq;cases hq;exact hz
section
variable {n:Nat} {μ μ':List O} {ρ:List (Option V)} {X:List O->Prop} {R:Asn} {c rs:Nat} {hs:List Nat} {rows rows':List Lt} {op:Bool} {x:V5} {p lo:Nat} {r0:Lt}
noncomputable abbrev r253 (c p lo:Nat):List (Option V):=[some (.ref c),some (.int p),some (.int lo)]
theorem p253b {Q:Fl->List O->List (Option V)->Prop} (q:∀ hi hs' rows' μ',CpH c op x rs hs' rows' R μ'->Bl rows lo hi rows'->hi<=rows.length->(∀ r,rows[hi]?=some r->r.u≠0)->Q .next μ' (r253 c p hi)) (hl:lo<=rows.length) (h:CpH c op x rs hs rows R μ):W (whileM t253_2 (b253_4 (phiT tab (n+1))) 1000) Q X μ (r253 c p lo):=by
  refine W_while (σ:=Nat×List Nat×List Lt) (λk z μ=>CpH c op x rs z.2.1 z.2.2 R μ/\Bl rows lo z.1 z.2.2/\z.1<=rows.length/\k=rows.length - z.1) (λz=>r253 c p z.1) (λk z μ Q' j kt kf=>?_) 1000 (rows.length - lo) (lo,hs,rows) μ (Nat.lt_of_le_of_lt (Nat.le_trans (Nat.sub_le ..) h.few) (by decide)) ⟨h,⟨rfl,Nat.le_refl _,λi r hr=>by rw [if_neg λc=>absurd c.1 (Nat.not_le.mpr c.2)];exact hr,λi r h1 h2 _=>absurd h1 (Nat.not_le.mpr h2)⟩,hl,rfl⟩
  obtain ⟨h,b,hle,hk⟩:=j
  have v:=h.view
  have hlen:bi false .len (each [att .rows (ld 0)]) μ (r253 c p z.1)=.ok (.int rows.length) μ (r253 c p z.1):=(v.lenRows rfl).trans (by rw [b.len])
  by_cases hlt:z.1<rows.length
  · have hr:=List.getElem?_eq_getElem hlt
    revert hr
    generalize rows[z.1]=r
    intro hr
    have hr':=b.at_ z.1 r hr
    rw [if_neg λc=>absurd c.2 (Nat.lt_irrefl _)] at hr'
    have ht:t253_2 μ (r253 c p z.1)=.ok (decide (r.u=0)) μ (r253 c p z.1):=ok_t (ok_bind rfl (ok_bind hlen (congrArg (λc=>Res.ok c μ _) (decide_eq_true (Int.ofNat_lt.mpr hlt))))) (and1 (ceq (v.uidAt (Int.natCast_nonneg z.1) (by rw [Int.toNat_natCast];exact hr') rfl rfl) rfl))
    by_cases hz:r.u=0
    · refine W_e (ht.trans (by rw [decide_eq_true hz])) (kt z μ λQ'' kn=>?_)
      have s:=h.setNew (by rw [b.len];exact hlt) blank
      exact W_n (ok_bind held_new (ok_bind (ok_bind (ok_bind rfl (get_at (at_old _ v.top) rfl)) (ok_bind rfl (put_list (j:=z.1) (at_old _ v.list) (fits_n (Nat.le_trans hle (Nat.le_trans (b.len▸h.few) (by decide)))) (by
        show (if 0<=(z.1:Int) then _ else _)=_
        rw [if_pos (Int.natCast_nonneg _),Int.toNat_natCast,List.length_map,v.len,b.len,if_pos hlt])))) rfl)) (kn (rows.length - (z.1+1)) (z.1+1,_,_) _ (hk▸Nat.sub_lt_sub_left hlt (Nat.lt_succ_self _)) ⟨s,b.next hr hz,hlt,rfl⟩)
    · exact W_e (ht.trans (by rw [decide_eq_false hz])) (kf z μ (q z.1 z.2.1 z.2.2 μ h b hle λr' hr''=>by rw [hr] at hr'';cases hr'';exact hz))
  · exact W_e (ok_f (ok_bind rfl (ok_bind hlen (congrArg (λc=>Res.ok c μ _) (decide_eq_false λe=>hlt (Int.ofNat_lt.mp e))))) rfl) (kf z μ (q z.1 z.2.1 z.2.2 μ h b hle λr hr=>absurd (List.getElem?_eq_some_iff.mp hr).1 hlt))
theorem s253 {Q:V->List O->Prop} (h:H ((Cp c op rows).s R) μ) (hp:rows[p]?=some r0) (hz:r0.u=0) (q:∀ rows' μ',Blur rows p rows'->H ((Cp c op rows').s R) μ'->Q .none μ'):CRw (phiT tab (n+2) 253 [.ref c,.int p] μ) Q X:=by
  refine Cp.open h λx rs hs h=>g253 (W_n rfl (W_sq (W_while (σ:=Nat) (λk lo μ=>CpH c op x rs hs rows R μ/\Low rows p lo/\k=lo) (λlo=>r253 c p lo) (λk lo μ Q' j kt kf=>?_) 1000 p p μ (Nat.lt_of_lt_of_le (List.getElem?_eq_some_iff.mp hp).1 (Nat.le_trans h.few (by decide))) ⟨h,⟨Nat.le_refl _,λj r h1 h2 hr=>by rw [Nat.le_antisymm h2 h1,hp] at hr;cases hr;exact hz⟩,rfl⟩)))
  obtain ⟨h,l,hk⟩:=j
  have hpl:=(List.getElem?_eq_some_iff.mp hp).1
  have fin:(lo=0∨∃ r,rows[lo - 1]?=some r/\r.u≠0)->W (sq (whileM t253_2 (b253_4 (phiT tab (n+1))) 1000) (retM .next)) (λf μ' _=>Q f.val μ') X μ (r253 c p lo):=λe=>W_sq (p253b (λhi hs' rows' μ' h b hh f=>q rows' μ' (blur_of hp l e b f hh) h.close) (Nat.le_trans l.le (Nat.le_of_lt hpl)) h)
  cases lo with
  | zero=>exact kf 0 μ (fin (.inl rfl))
  | succ m=>
    obtain ⟨r,hm⟩:∃ r,rows[m]?=some r:=⟨_,List.getElem?_eq_getElem (Nat.lt_of_le_of_lt (Nat.le_trans (Nat.le_succ m) l.le) hpl)⟩
    have hs1:(((m+1:Nat):Int) - 1)=(m:Int):=by rw [Int.natCast_add];exact Int.add_sub_cancel ..
    have ht:t253_0 μ (r253 c p (m+1))=.ok (decide (r.u=0)) μ (r253 c p (m+1)):=ok_t (ok_bind rfl (ok_bind rfl (congrArg (λc=>Res.ok c μ _) (decide_eq_true (Int.natCast_pos.mpr (Nat.succ_pos m)))))) (and1 (ceq (h.view.uidAt (Int.natCast_nonneg m) (by rw [Int.toNat_natCast];exact hm) rfl (ok_bind rfl (ok_bind rfl (congrArg (λi=>Res.ok (V.int i) μ _) hs1)))) rfl))
    by_cases hz:r.u=0
    · exact W_e (ht.trans (by rw [decide_eq_true hz])) (kt (m+1) μ λQ'' kn=>W_n (ρ':=r253 c p m) (ok_bind rfl (ok_bind rfl (ok_bind rfl (by rw [hs1];rfl)))) (kn m m μ (hk▸Nat.lt_succ_self m) ⟨h,⟨Nat.le_trans (Nat.le_succ m) l.le,λj r' h1 h2 hr=>(Nat.eq_or_lt_of_le h1).elim (λe=>by rw [←e,hm] at hr;cases hr;exact hz) λh1=>l.zr j r' h1 h2 hr⟩,rfl⟩))
    · exact W_e (ht.trans (by rw [decide_eq_false hz])) (kf (m+1) μ (fin (.inr ⟨r,hm,hz⟩)))
end
end
section
open PySem
theorem gone_range {u p:Int} {l:List Lt}:∀ {q unk:Int},unk<q->0<=q->goneL l q unk u=some p->0<=p/\p<q+l.length:=by
  induction l with
  | nil=>
    intro q unk h1 h2 h
    unfold goneL at h
    by_cases c:unk<0
    · rw [if_pos c] at h;cases h
    · rw [if_neg c] at h;cases h;exact ⟨Int.not_lt.mp c,by show _<q+0;rw [Int.add_zero];exact h1⟩
  | cons r l ih=>
    intro q unk h1 h2 h
    unfold goneL at h
    rw [List.length_cons]
    have hq:q<q+((l.length+1:Nat):Int):=Int.lt_add_of_pos_right _ (Int.natCast_pos.mpr (Nat.succ_pos _))
    by_cases c1:r.u=u
    · rw [if_pos c1] at h;cases h;exact ⟨h2,hq⟩
    · rw [if_neg c1] at h
      by_cases c2:u<r.u
      · rw [if_pos c2] at h
        by_cases c:unk<0
        · rw [if_pos c] at h;cases h
        · rw [if_neg c] at h;cases h;exact ⟨Int.not_lt.mp c,Int.lt_trans h1 hq⟩
      · rw [if_neg c2] at h
        have:=ih (q:=q+1) (unk:=if r.u=0 then q else -1) (by
          by_cases c:r.u=0
          · rw [if_pos c];exact Int.lt_succ q
          · rw [if_neg c];exact Int.lt_of_lt_of_le (by decide) (Int.add_le_add_right h2 1)) (Int.add_nonneg h2 (by decide)) h
        exact ⟨this.1,by rw [Int.natCast_add,Int.add_comm (l.length:Int),←Int.add_assoc];exact this.2⟩
noncomputable def StepD (rows:List Lt) (u:Int) (rows2:List Lt):Prop:=∃ (p:Int) (r:Lt) (rows1:List Lt),goneL rows 0 (-1) u=some p/\rows[p.toNat]?=some r/\0<=p/\(if r.u=0 then Blur rows p.toNat rows1 else rows1=rows)/\rows2=dropAt rows1 p.toNat
inductive Drops:List Lt->List Int->List Lt->Prop
  | nil {rows:List Lt}:Drops rows [] rows
  | snoc {rows rows1 rows2:List Lt} {us:List Int} {u:Int}:Drops rows us rows1->StepD rows1 u rows2->Drops rows (us++[u]) rows2
noncomputable def Refuse (rows:List Lt) (ps:List (Int×Int)):Prop:=(rows.length:Int)<sizeOfP ps∨∃ dn u rst rows1,uidsOf ps=dn++u :: rst/\Drops rows dn rows1/\goneL rows1 0 (-1) u=none
section
variable {n:Nat} {μ μ':List O} {ρ:List (Option V)} {X:List O->Prop} {R:Asn} {c rs:Nat} {hs:List Nat} {rows rows':List Lt} {op:Bool} {x:V5} {p:Nat} {r:Lt} {u:Int}
theorem cutAt_nat {n i:Nat} (h:i<=n):cutAt n (i:Int)=i:=(if_pos (Int.natCast_nonneg i)).trans (by rw [Int.toNat_natCast];exact Nat.min_eq_left h)
theorem sliceR_to {t:Bool} {a i:Nat} {vs:List V} (h:μ[a]?=some (.list vs)) (hi:i<=vs.length) (hb:vs.length<=50):sliceHi t (.ref a) (.int i) μ ρ=lstM t (vs.take i) μ ρ:=by
  show bindM (lseqM (.ref a)) (λvs=>gd (decide (vs.length<=big)&&fits i) (lstM t (vs.take (cutAt vs.length i)))) μ ρ=_
  exact ok_bind (lseq_ref h) (gd_ok (Bool.and_eq_true_iff.mpr ⟨decide_eq_true (Nat.le_trans hb (by decide)),fits_n (Nat.le_trans hi (Nat.le_trans hb (by decide)))⟩) (by rw [cutAt_nat hi]))
theorem sliceR_from {t:Bool} {a i:Nat} {vs:List V} (h:μ[a]?=some (.list vs)) (hi:i<=vs.length) (hb:vs.length<=50):sliceLo t (.ref a) (.int i) μ ρ=lstM t (vs.drop i) μ ρ:=by
  show bindM (lseqM (.ref a)) (λvs=>gd (decide (vs.length<=big)&&fits i) (lstM t (vs.drop (cutAt vs.length i)))) μ ρ=_
  exact ok_bind (lseq_ref h) (gd_ok (Bool.and_eq_true_iff.mpr ⟨decide_eq_true (Nat.le_trans hb (by decide)),fits_n (Nat.le_trans hi (Nat.le_trans hb (by decide)))⟩) (by rw [cutAt_nat hi]))
theorem addR {t:Bool} {a:Nat} {xs ys:List V} (h:μ[a]?=some (.list xs)):binM t .Add (.ref a) (.lst ys) μ ρ=lstM t (xs++ys) μ ρ:=ok_bind (m:=lseqM (.ref a)) (f:=λx=>bindM (lseqM (.lst ys)) λy=>lstM t (x++y)) (lseq_ref h) rfl
theorem W_drop {Q:Fl->List O->List (Option V)->Prop} {m m':M V} {k:M Fl} (h:CpH c op x rs hs rows R μ) (hp:p<rows.length) (ho:∀ μ,ld 0 μ ρ=.ok (.ref c) μ ρ) (hm:∀ μ,m μ ρ=.ok (.int p) μ ρ) (hm':∀ μ,m' μ ρ=.ok (.int (p+1:Nat)) μ ρ) (q:∀ μ',H ((Cp c op (dropAt rows p)).s R) μ'->W k Q X μ' ρ) :
    W (sq (asA .rows (ld 0) (op2 true .Add (bindM (att .rows (ld 0)) λu=>bindM m (sliceHi true u)) (bindM (att .rows (ld 0)) λu=>bindM m' (sliceLo false u)))) k) Q X μ ρ:=by
  have v:=h.view
  have hl:(hs.map V.ref).length=rows.length:=by rw [List.length_map,v.len]
  have hb:(hs.map V.ref).length<=50:=hl▸h.few
  have e1:((hs.map V.ref).take p).length<=big:=Nat.le_trans (List.length_take_le' ..) (Nat.le_trans hb (by decide))
  have e2:((hs.map V.ref).drop (p+1)).length<=big:=by rw [List.length_drop];exact Nat.le_trans (Nat.sub_le ..) (Nat.le_trans hb (by decide))
  have e3:(hs.map V.ref).take p++(hs.map V.ref).drop (p+1)=(hs.eraseIdx p).map .ref:=by rw [List.eraseIdx_eq_take_drop_succ,List.map_append,List.map_take,List.map_drop]
  have hk:(hs.eraseIdx p).length=(dropAt rows p).length:=by unfold dropAt;rw [←List.eraseIdx_eq_take_drop_succ,List.length_eraseIdx,List.length_eraseIdx,h.len]
  have e4:((hs.eraseIdx p).map V.ref).length<=big:=by rw [List.length_map];exact Nat.le_trans (List.length_eraseIdx_le ..) (Nat.le_trans (h.len▸h.few) (by decide))
  have hf:(dropAt rows p).length<=50:=hk▸Nat.le_trans (List.length_eraseIdx_le ..) (h.len▸h.few)
  have g:=h.own.grow [.list ((hs.map V.ref).take p)]
  have nw:=(g.new (.list ((hs.eraseIdx p).map .ref)))
  refine W_n (ok_bind (ok_bind (ok_bind (v.getR (ho _)) (ok_bind (hm _) ((sliceR_to v.list (hl▸Nat.le_of_lt hp) hb).trans (lst_t e1)))) (ok_bind (ok_bind (ok_bind (ho _) (get_at (at_old _ v.top) rfl)) (ok_bind (hm' _) ((sliceR_from (at_old _ v.list) (hl▸hp) hb).trans (lst_f e2)))) ((addR at_new).trans (by rw [e3];exact lst_t e4)))) (ok_bind (ok_bind (ho _) (set_at nw.sw.get rfl)) rfl)) (q _ (CpH.close (CpH.newRows nw hk hf λF t nd=>?_)))
  obtain ⟨_,_,e5,e6,_,BR,e7,e8,b⟩:=t
  rw [show F=(rs,.list (hs.map .ref)) :: (hs.zip (rows.map heldO)++BR) by rw [e5,e6,e7,e8];rfl] at nd ⊢
  rw [List.map_cons,List.map_append,zip_keys2 h.len] at nd
  refine ⟨BR,b,(((List.eraseIdx_sublist ..).append (.refl _)).nodup (List.nodup_cons.mp nd).2),λy m=>?_⟩
  rcases List.mem_append.mp m with m | m
  · obtain ⟨j,r,h1,h2,e⟩:=zip_mem m
    unfold dropAt at h2
    rw [←List.eraseIdx_eq_take_drop_succ,List.getElem?_eraseIdx] at h2
    rw [List.getElem?_eraseIdx] at h1
    have hm:(y.1,heldO r)∈hs.zip (rows.map heldO):=by
      by_cases c:j<p
      · rw [if_pos c] at h1 h2;exact mem_zip h1 h2
      · rw [if_neg c] at h1 h2;exact mem_zip h1 h2
    rw [←e] at hm
    exact List.mem_cons_of_mem _ (List.mem_append_left _ hm)
  · exact List.mem_cons_of_mem _ (List.mem_append_right _ m)
theorem s260 {Q:V->List O->Prop} (h:H ((Cp c op rows).s R) μ) (no:goneL rows 0 (-1) u=none->X μ) (q:∀ rows' μ',StepD rows u rows'->H ((Cp c op rows').s R) μ'->Q .none μ'):CRw (phiT tab (n+3) 260 [.ref c,.int u] μ) Q X:=by
  refine Cp.open h λx rs hs o=>g260 (W_aw (W_cl rfl (s246 o.view no λp hp=>?_)))
  obtain ⟨p0,p1⟩:=gone_range (by decide) (by decide) hp
  rw [Int.zero_add] at p1
  obtain ⟨P,rfl⟩:=Int.eq_ofNat_of_zero_le p0
  have hP:P<rows.length:=Int.ofNat_lt.mp p1
  obtain ⟨r,hr⟩:∃ r,rows[P]?=some r:=⟨_,List.getElem?_eq_getElem hP⟩
  have hu:=o.view.uidAt (ρ:=[some (.ref c),some (.int u),some (.int P)]) (m:=ld 0) (m':=ld 2) p0 hr rfl rfl
  refine W_sq (W_if (ceq hu rfl) (λb=>?_) λb=>?_)
  · have hz:=of_decide_eq_true b
    refine W_sq (W_bind (W_cl rfl (s253 h hr hz λrows1 μ1 bl h1=>?_)))
    exact Cp.open h1 λx rs hs o1=>W_drop o1 (bl.1▸hP) (λ_=>rfl) (λ_=>rfl) (λ_=>rfl) λμ' j=>q _ μ' ⟨P,r,rows1,hp,hr,p0,by rw [if_pos hz];exact bl,rfl⟩ j
  · have hz:=of_decide_eq_false b
    exact W_drop o hP (λ_=>rfl) (λ_=>rfl) (λ_=>rfl) λμ' j=>q _ μ' ⟨P,r,rows,hp,hr,p0,by rw [if_neg hz],rfl⟩ j
theorem s272_t {Q:V->List O->Prop} {v0:V} (h:H ((Cp c op rows).s R) μ) (q:∀ μ',H ((Cp c op rows).s R) μ'->Q .none μ'):CRw (phiT tab (n+1) 272 [.ref c,v0,.bool true] μ) Q X:=by
  refine Cp.open h λx rs hs o=>g272 (W_sq (W_t rfl ?_))
  have gk:∀ ρ,getA .kept (.ref c) μ ρ=.ok (.dct [] []) μ ρ:=λρ=>get_at o.view.top rfl
  refine W_n (ok_bind (a:=.dct [] []) (ok_bind (a:=[.lst []]) (ok_bind (a:=.lst []) (ok_bind (a:=((none,[]):Src)) (keep_ok (ok_bind (ok_bind rfl (gk _)) rfl)) rfl) rfl) rfl) (ok_bind (ok_bind rfl (set_at o.view.top rfl)) rfl)) (q _ ?_)
  exact CpH.close ⟨o.own.put (copyO rs op x),o.len,o.few⟩
theorem b272 {Q:Fl->List O->List (Option V)->Prop} {v:V} {w:Option V} (h:H ((Cp c op rows).s R) μ) (no:goneL rows 0 (-1) u=none->X μ) (q:∀ rows' μ',StepD rows u rows'->H ((Cp c op rows').s R) μ'->Q .next μ' [some (.ref c),some v,some (.bool false),some (.int u)]):W (b272_2 (phiT tab (n+3)) (.int u)) Q X μ [some (.ref c),some v,some (.bool false),w]:=
  W_s rfl (W_sq (W_bind (W_cl rfl (s260 h no λrows' μ' s j=>q rows' μ' s j))))
theorem s272_f {Q:V->List O->Prop} {ps:List (Int×Int)} (h:H ((Cp c op rows).s R) μ) (hs:∀ p∈ps,Sm p) (hl:ps.length<64) (bad:Refuse rows ps->∀ μ',X μ') (q:∀ rows' μ',sizeOfP ps<=rows.length->Drops rows (uidsOf ps) rows'->H ((Cp c op rows').s R) μ'->Q .none μ'):CRw (phiT tab (n+5) 272 [.ref c,.tup (ps.map pv),.bool false] μ) Q X:=by
  refine g272 (W_n (ok_f rfl rfl) (W_sq (W_bind (W_bind (W_cl rfl (s108 hs hl h λμ1 h1=>?_))))))
  refine Cp.open h1 λx rs hs' o=>W_s (o.view.lenRows rfl) ?_
  refine W_e (a:=decide ((rows.length:Int)<sizeOfP ps)) rfl ?_
  by_cases b:(rows.length:Int)<sizeOfP ps
  · rw [decide_eq_true b]
    exact W_sq (W_s rfl (W_bind (W_cl rfl (s108 hs hl (H.all _) λμ2 _=>bad (.inl b) μ2))))
  · rw [decide_eq_false b]
    have fin:∀ rows' μ' ρ',Drops rows (uidsOf ps) rows'->H ((Cp c op rows').s R) μ'->W (seqFl (retM .next) .next) (λf μ' _=>Q f.val μ') X μ' ρ':=λrows' μ' ρ' d j=>q rows' μ' (Int.not_lt.mp b) d j
    refine W_sq (W_bind (W_bind (W_cl rfl (s267 hs hl h1 (λμ2 e j=>fin rows μ2 [some (.ref c),some (.tup (ps.map pv)),some (.bool false),none] (e▸.nil) j) λL μ2 j=>W_e (src_ref j.get) (W_for V.int (λdn (z:List Lt×Option V) μ=>Drops rows dn z.1/\H ((pt L (.list ((uidsOf ps).map .int))).s ((Cp c op z.1).s R)) μ) (λz=>[some (.ref c),some (.tup (ps.map pv)),some (.bool false),z.2]) (λ_ _ _ _ j=>still_ok (still_at j.2.get)) (λdn u r z μ3 Q' e j k=>?_) (λz μ3 j=>fin _ μ3 _ j.1 j.2.drop) (z:=(rows,none)) ⟨.nil,j⟩)))))
    exact b272 j.2.sw (λg=>bad (.inr ⟨dn,u,r,z.1,e.symm,j.1,g⟩) _) λrows' μ' s j'=>k (rows',_) μ' ⟨.snoc j.1 s,j'.sw⟩
end
end
section
open PySem
noncomputable def updR (r:Lt) (e:Fe):Lt:={ r.upd e with u:=e.u.getD r.u }
section
variable {n:Nat} {μ μ':List O} {ρ:List (Option V)} {X:List O->Prop} {A R:Asn} {c rs a i L:Nat} {hs:List Nat} {rows rows':List Lt} {op:Bool} {x:V5} {r:Lt} {k u:Int} {e:Fe}
theorem news_len:∀ (L m:Nat),(news L m).length=m
  | _,0=>rfl
  | L,m+1=>congrArg Nat.succ (news_len (L+1) m)
theorem rw_cons:H ((Rw hs rows).s ((pt a (heldO r)).s R)) μ->H ((Rw (a :: hs) (r :: rows)).s R) μ:=λh=>h.sw.mono λF q=>by
  obtain ⟨_,_,e,e1,_,B,e2,e3,b⟩:=q
  exact ⟨_,B,(by rw [e,e1,e2,e3];rfl:F=(a :: hs).zip ((r :: rows).map heldO)++B),rfl,b⟩
theorem H.news:∀ {m:Nat} {μ:List O} {R:Asn},H R μ->H ((Rw (news μ.length m) (List.replicate m r)).s R) (μ++List.replicate m (heldO r))
  | 0,μ,R,h=>by show H _ (μ++[]);rw [List.append_nil];exact h.mono λF f=>⟨[],F,rfl,rfl,f⟩
  | m+1,μ,R,h=>by
    have g:=(h.new (heldO r)).news (m:=m)
    rw [List.length_append,List.append_assoc] at g
    exact rw_cons g
theorem turns_held:∀ (m:Nat) (l:List V) (μ:List O) (z:Option V) (acc:List V),l.length=m->acc.length+m<=big->∃ z',turnsM (stillM none) (c227_0 (phiT tab (n+1))) l (acc,[]) μ [none,z]=.ok (acc++(news μ.length m).map .ref,[]) (μ++List.replicate m (heldO blank)) [none,z']
  | 0,[],μ,z,acc,_,_=>⟨z,ok_bind (m:=stillM none) rfl (by rw [List.replicate_zero,List.append_nil];exact congrArg (λl=>Res.ok (l,[]) μ [none,z]) (List.append_nil acc).symm)⟩
  | m+1,v :: l,μ,z,acc,hl,hc=>by
    have hc':(acc++[V.ref μ.length]).length+m<=big:=by rw [List.length_append,Nat.add_assoc,Nat.add_comm [V.ref μ.length].length];exact hc
    obtain ⟨z',e⟩:=turns_held m l (μ++[heldO blank]) (some v) (acc++[.ref μ.length]) (Nat.succ.inj hl) hc'
    rw [List.length_append,List.append_assoc,List.append_assoc] at e
    exact ⟨z',ok_bind (m:=stillM none) rfl (ok_bind (ok_bind (m:=st 1 v) rfl (ok_bind held_new (emit_ok (Nat.le_trans (Nat.add_le_add_left (Nat.succ_le_succ (Nat.zero_le m)) _) hc)))) e)⟩
theorem comp_held {src:M Src} {l:List V} {t:Bool} (hs:src μ ρ=.ok (none,l) μ ρ) (hl:l.length<=big):comp [none,none] true t src (c227_0 (phiT tab (n+1))) μ ρ=lstM t ((news μ.length l.length).map .ref) (μ++List.replicate l.length (heldO blank)) ρ:=
  ok_bind (keep_ok hs) (ok_bind (a:=((news μ.length l.length).map V.ref,[])) (by
    obtain ⟨z',e⟩:=turns_held (n:=n) l.length l μ none [] rfl (by rw [List.length_nil,Nat.zero_add];exact hl)
    unfold inC
    rw [show innerL [none,none] ρ=some [none,none] from rfl]
    dsimp only
    rw [e]
    rfl) rfl)
theorem s227_f {Q:V->List O->Prop} (h:H ((Cp c false rows).s R) μ) (h0:0<=k) (h1:k<=50) (bad:k<rows.length->X μ) (q:∀ μ',rows.length<=k->H ((Cp c false (rows++List.replicate (k - rows.length).toNat blank)).s R) μ'->Q .none μ'):CRw (phiT tab (n+2) 227 [.ref c,.int k] μ) Q X:=by
  refine Cp.open h λx rs hs o=>g227 (W_n (ok_f (ok_f (ok_bind (ok_bind rfl (get_at o.view.top rfl)) rfl) rfl) rfl) (W_sq (W_if (c:=decide (k<rows.length)) (ok_bind rfl (ok_bind (o.view.lenRows rfl) rfl)) (λb=>W_sq (W_x rfl (bad (of_decide_eq_true b)))) λb=>?_)))
  have hk:=Int.not_lt.mp (of_decide_eq_false b)
  have n0:0<=k - rows.length:=Int.sub_nonneg_of_le hk
  have hm:(irange 0 (k - rows.length)).length=(k - rows.length).toNat:=by rw [irange_len,Int.sub_zero]
  have hs1:=src_to (μ:=μ) (ρ:=[some (.ref c),some (.int k)]) (m:=op2 false .Sub (ld 1) (bi false .len (each [att .rows (ld 0)]))) (b:=k - rows.length) (ok_bind rfl (ok_bind (o.view.lenRows rfl) rfl)) n0 (Int.le_trans (Int.sub_le_self k (Int.natCast_nonneg _)) (Int.le_trans h1 (by decide)))
  have hc:=comp_held (n:=n) (t:=false) hs1 (by rw [List.length_map,hm];exact Nat.le_trans (Int.toNat_le.mpr (Int.le_trans (Int.sub_le_self k (Int.natCast_nonneg _)) h1):_<=50) (by decide))
  rw [List.length_map,hm] at hc
  generalize hM:(k - rows.length).toNat=m at hc q
  have hlen:rows.length+m<=50:=Int.ofNat_le.mp (by rw [Int.natCast_add,←hM,Int.toNat_of_nonneg n0,Int.add_comm,Int.sub_add_cancel];exact h1)
  have hl:(hs++news μ.length m).length=(rows++List.replicate m blank).length:=by rw [List.length_append,List.length_append,o.len,news_len,List.length_replicate]
  have hf:(rows++List.replicate m blank).length<=50:=by rw [List.length_append,List.length_replicate];exact hlen
  have hb:((hs++news μ.length m).map V.ref).length<=big:=by rw [List.length_map,hl];exact Nat.le_trans hf (by decide)
  have nb:((news μ.length m).map V.ref).length<=big:=by rw [List.length_map,news_len];exact Nat.le_trans (Nat.le_trans (Nat.le_add_left ..) hlen) (by decide)
  have g:=(o.own.news (m:=m) (r:=blank)).new (.list ((hs++news μ.length m).map .ref))
  have j:=CpH.newRows (g.in2 sw_in) hl hf λF t nd=>by
    obtain ⟨_,_,e,e1,_,_,e2,e3,_,BR,e4,e5,b⟩:=t
    rw [show F=(news μ.length m).zip ((List.replicate m blank).map heldO)++(rs,.list (hs.map .ref)) :: (hs.zip (rows.map heldO)++BR) by rw [e,e1,e2,e3,e4,e5];rfl] at nd ⊢
    rw [List.map_append,List.map_cons,List.map_append,zip_keys2 o.len,zip_keys2 (by rw [news_len,List.length_replicate])] at nd
    refine ⟨BR,b,((List.perm_append_comm.append_right _).nodup_iff).mp ?_,λp m=>?_⟩
    · rw [List.append_assoc]
      exact (List.Sublist.append (.refl _) (List.sublist_cons_self ..)).nodup nd
    · rw [List.map_append,List.zip_append (by rw [List.length_map,o.len])] at m
      rcases List.mem_append.mp m with m | m
      · exact (List.mem_append.mp m).elim (λm=>List.mem_append_right _ (List.mem_cons_of_mem _ (List.mem_append_left _ m))) λm=>List.mem_append_left _ m
      · exact List.mem_append_right _ (List.mem_cons_of_mem _ (List.mem_append_right _ m))
  exact W_n (ok_bind (ok_bind (o.view.getR rfl) (ok_bind (hc.trans (lst_f nb)) ((addR (at_old _ o.view.list)).trans (by rw [←List.map_append];exact lst_t hb)))) (ok_bind (ok_bind rfl (set_at (g.in2 sw_in).sw.get rfl)) rfl)) (q _ hk j.close)
theorem s227_t {Q:V->List O->Prop} (h:H ((Cp c true []).s R) μ) (h0:0<=k) (h1:k<=50) (q:∀ μ',H ((Cp c true (List.replicate k.toNat blank)).s R) μ'->Q .none μ'):CRw (phiT tab (n+2) 227 [.ref c,.int k] μ) Q X:=by
  refine Cp.open h λx rs hs o=>g227 (W_sq (W_t (ok_t (ok_bind (ok_bind rfl (get_at o.view.top rfl)) rfl) (and1 (tst (ceq (o.view.lenRows rfl) rfl) (decide_eq_true rfl)))) ?_))
  have hm:(irange 0 k).length=k.toNat:=by rw [irange_len,Int.sub_zero]
  have hs1:=src_to (μ:=μ) (ρ:=[some (.ref c),some (.int k)]) (m:=ld 1) (b:=k) rfl h0 (Int.le_trans h1 (by decide))
  have hm50:k.toNat<=50:=Int.toNat_le.mpr h1
  have hc:=comp_held (n:=n) (t:=true) hs1 (by rw [List.length_map,hm];exact Nat.le_trans hm50 (by decide))
  rw [List.length_map,hm] at hc
  have nb:((news μ.length k.toNat).map V.ref).length<=big:=by rw [List.length_map,news_len];exact Nat.le_trans hm50 (by decide)
  have g:=(o.own.news (m:=k.toNat) (r:=blank)).new (.list ((news μ.length k.toNat).map .ref))
  have j:=CpH.newRows (rows':=List.replicate k.toNat blank) (g.in2 sw_in) (by rw [news_len,List.length_replicate]) (by rw [List.length_replicate];exact hm50) λF t nd=>by
    obtain ⟨_,_,e,e1,_,_,e2,e3,_,BR,e4,e5,b⟩:=t
    rw [show F=(news μ.length k.toNat).zip ((List.replicate k.toNat blank).map heldO)++(rs,.list (hs.map .ref)) :: (hs.zip ([].map heldO)++BR) by rw [e,e1,e2,e3,e4,e5];rfl] at nd ⊢
    rw [List.map_append,zip_keys2 (by rw [news_len,List.length_replicate]),List.map_cons,List.map_append] at nd
    exact ⟨BR,b,(List.Sublist.append (.refl _) ((List.sublist_append_right ..).trans (List.sublist_cons_self ..))).nodup nd,λp m=>(List.mem_append.mp m).elim (λm=>List.mem_append_left _ m) λm=>List.mem_append_right _ (List.mem_cons_of_mem _ (List.mem_append_right _ m))⟩
  exact W_n (ok_bind (hc.trans (lst_t nb)) (ok_bind (ok_bind rfl (set_at (g.in2 sw_in).sw.get rfl)) rfl)) (q _ j.close)
end
end
section
open PySem
section
variable {n:Nat} {μ μ':List O} {ρ:List (Option V)} {X:List O->Prop} {A R:Asn} {c rs a i L:Nat} {hs:List Nat} {rows rows':List Lt} {op:Bool} {x:V5} {r r1 r2:Lt} {k u:Int} {e:Fe}
theorem W_fld {Q:Fl->List O->List (Option V)->Prop} {f:Fd} {m:M V} {v:V} {k:M Fl} (h:CpH c op x rs hs (rows.set i r1) R μ) (ha:hs[i]?=some a) (hi:i<rows.length) (ho:ld 3 μ ρ=.ok (.ref a) μ ρ) (hm:m μ ρ=.ok v μ ρ) (hv:putO f v (heldO r1)=some (heldO r2)) (q:∀ μ',CpH c op x rs hs (rows.set i r2) R μ'->W k Q X μ' ρ):W (sq (asA f (ld 3) m) k) Q X μ ρ:=
  W_n (ok_bind hm (ok_bind (ok_bind ho (set_at (h.view.held i a r1 ha (List.getElem?_set_self hi)) hv)) rfl)) (q _ (by have:=h.setRow ha r2;rwa [List.set_set] at this))
noncomputable abbrev r239 (c a:Nat) (k:Int) (e:Fe):List (Option V):=[some (.ref c),some (.int k),some e.al.tup,some (.ref a),some e.al.dct]
theorem has239 {w:String}:cmp .In (retM (tx w)) (ld 4) μ (r239 c a k e)=.ok (e.al.lookup w).isSome μ (r239 c a k e):=cmp_in rfl rfl in_tx
theorem get239 {w:String} {v:V} (h:e.al.lookup w=some v):idx (ld 4) (retM (tx w)) μ (r239 c a k e)=.ok v μ (r239 c a k e):=ok_bind rfl (ok_bind rfl (idx_tx h))
theorem s239 {Q:V->List O->Prop} (h:H ((Cp c op rows).s R) μ) (hf:∀ ss,e.f=some ss->ss.length<64) (no:¬(1<=k/\k<=rows.length)->X μ) (bad:∀ (u j:Int) r,e.u=some u->0<=j->rows[j.toNat]?=some r->BadUid k u j r=true->X μ)
    (q:∀ r μ',1<=k->k<=rows.length->(∀ u,e.u=some u->∀ (j:Int) r,0<=j->rows[j.toNat]?=some r->BadUid k u j r=false)->rows[(k - 1).toNat]?=some r->H ((Cp c op (rows.set (k - 1).toNat (updR r e))).s R) μ'->Q .none μ'):CRw (phiT tab (n+2) 239 [.ref c,.int k,e.al.tup] μ) Q X:=by
  refine Cp.open h λx rs hs o=>g239 (W_aw (W_meth o.view.top rfl rfl rfl (s198 o.view no λk1 k2 a r ha hr=>?_)))
  have hi:=(List.getElem?_eq_some_iff.mp hr).1
  have o1:CpH c op x rs hs (rows.set (k - 1).toNat r) R μ:=by
    rw [show rows.set (k - 1).toNat r=rows by rw [←(List.getElem?_eq_some_iff.mp hr).2];exact List.set_getElem_self hi];exact o
  -- MODSEQ
  have fM:(∀ u,e.u=some u->∀ (j:Int) r,0<=j->rows[j.toNat]?=some r->BadUid k u j r=false)->∀ μ1,CpH c op x rs hs (rows.set (k - 1).toNat { updR r e with m:=updM e r.m }) R μ1->W (sq (ifM (cmp .In (retM (tx "MODSEQ")) (ld 4)) (sq (asA .modseq (ld 3) (idx (idx (ld 4) (retM (tx "MODSEQ"))) (retM (.int 0)))) (retM .next)) (retM .next)) (retM .next)) (λf μ' _=>Q f.val μ') X μ1 (r239 c a k e):=λg μ1 o3=>by
    have hm:=has239 (μ:=μ1) (c:=c) (a:=a) (k:=k) (e:=e) (w:="MODSEQ")
    have hlk:=al_mod e
    cases hM:e.m with
    | none=>
      rw [hM] at hlk
      refine W_n (ok_f (tst hm (by rw [hlk];rfl)) rfl) (q r μ1 k1 k2 g hr ?_)
      rw [show updR r e={ updR r e with m:=updM e r.m } by unfold updR Lt.upd updM;rw [hM] <;> rfl]
      exact o3.close
    | some m=>
      rw [hM] at hlk
      refine W_sq (W_t (tst hm (by rw [hlk];rfl)) (W_fld (r2:=updR r e) o3 ha hi rfl (ok_bind (get239 hlk) (ok_bind rfl (idx_lst (by decide) rfl))) ?_ λμ2 o4=>q r μ2 k1 k2 g hr o4.close))
      unfold updR Lt.upd
      rw [hM];rfl
  -- FLAGS
  have fF:(∀ u,e.u=some u->∀ (j:Int) r,0<=j->rows[j.toNat]?=some r->BadUid k u j r=false)->∀ μ1,CpH c op x rs hs (rows.set (k - 1).toNat { r with u:=e.u.getD r.u }) R μ1->W p239_3 (λf μ' _=>Q f.val μ') X μ1 (r239 c a k e):=λg μ1 o2=>by
    have hF:=has239 (μ:=μ1) (c:=c) (a:=a) (k:=k) (e:=e) (w:="FLAGS")
    have hlk:=al_flags e
    cases hF':e.f with
    | none=>
      rw [hF'] at hlk
      refine W_n (ok_f (tst hF (by rw [hlk];rfl)) rfl) (fM g μ1 ?_)
      rw [show ({ updR r e with m:=updM e r.m }:Lt)={ r with u:=e.u.getD r.u } by unfold updR Lt.upd updM;rw [hF']]
      exact o2
    | some ss=>
      rw [hF'] at hlk
      refine W_sq (W_t (tst hF (by rw [hlk];rfl)) (W_fld (r2:=⟨e.u.getD r.u,flagsV ss,r.m⟩) o2 ha hi rfl (texts_ok (hf ss hF') (get239 hlk)) rfl λμ2 o3=>W_fld (r2:=⟨e.u.getD r.u,flagsV ss,0⟩) o3 ha hi rfl (m:=retM (.int 0)) rfl rfl λμ3 o4=>fM g μ3 ?_))
      rw [show ({ updR r e with m:=updM e r.m }:Lt)=⟨e.u.getD r.u,flagsV ss,0⟩ by unfold updR Lt.upd updM;rw [hF']]
      exact o4
  refine W_an (ok_bind rfl (dict_al (al_keys e).1 (Nat.le_trans (al_keys e).2 (by decide)))) ?_
  have hU:=has239 (μ:=μ) (c:=c) (a:=a) (k:=k) (e:=e) (w:="UID")
  have hlk:=al_uid e
  cases hu:e.u with
  | none=>
    rw [hu] at hlk fF
    exact W_n (ok_f (tst hU (by rw [hlk];rfl)) rfl) (fF (λ_ e=>nomatch e) μ o1)
  | some u=>
    rw [hu] at hlk fF
    refine W_sq (W_t (tst hU (by rw [hlk];rfl)) (W_sq (W_bind (W_cl (each3 rfl rfl (get239 hlk)) (s234 o.view (bad u · · hu) λg=>W_fld (r2:={ r with u:=u }) o1 ha hi rfl (get239 hlk) rfl λμ1 o2=>fF (λu' e=>by cases e;exact g) μ1 o2)))))
theorem s279:phiT tab (n+1) 279 [.none] μ=.ok (tx "") μ:=CRw.eq (g279 (W_r (ok_t (ok_bind (a:=true) rfl rfl) rfl) ⟨rfl,rfl⟩))
theorem s307 {b:V} {Q:V->List O->Prop} (q:Q .none μ):CRw (phiT tab (n+2) 307 [.ref c,b,.none] μ) Q X:=
  g307 (W_an (ok_bind rfl (call_eq s279)) (W_sq (W_f (wordf rfl (by decide)) (W_sq (W_f (wordf rfl (by decide)) (W_sq (W_f (wordf rfl (by decide)) (W_sq (W_f (or_ok (wordf rfl (by decide)) (or1 (wordf rfl (by decide)))) q)))))))))
set_option genSizeOf false in
set_option genInjectivity false in
inductive Ans where
  | exists_ (k:Int)
  | expunge (k:Int)
  | vanished (ps:List (Int×Int)) (early:Bool)
  | fetch (k:Int) (e:Fe)
  | other (i:Nat)
noncomputable def others:List V:=[.tup [tx "search",.tup [.int 1,.int 2],.int 0],.tup [tx "flags",.tup [tx "k",tx "\\Seen"]],.tup [tx "ok",tx "*",.none,tx "well"],.tup [tx "list",.tup [],tx "b"]]
noncomputable def Ans.v:Ans->V
  | .exists_ k=>.tup [tx "exists",.int k]
  | .expunge k=>.tup [tx "expunge",.int k]
  | .vanished ps e=>.tup [tx "vanished",.tup (ps.map pv),.bool e]
  | .fetch k e=>.tup [tx "fetch",.int k,e.al.tup]
  | .other i=>others.getD i .none
noncomputable def Ans.OK:Ans->Prop
  | .exists_ k=>0<=k/\k<=50
  | .expunge k=>-1000<=k/\k<=1000
  | .vanished ps _=>(∀ p∈ps,Sm p)/\ps.length<64
  | .fetch k e=>(-1000<=k/\k<=1000)/\∀ ss,e.f=some ss->ss.length<64/\∀ s∈ss,PyData.strOk s=true
  | .other i=>i<4
noncomputable def Took (rows:List Lt):Ans->List Lt->Prop
  | .exists_ k,rows'=>rows.length<=k/\rows'=rows++List.replicate (k - rows.length).toNat blank
  | .expunge k,rows'=>1<=k/\k<=rows.length/\rows'=dropAt rows (k - 1).toNat
  | .vanished ps e,rows'=>if e then rows'=rows else Drops rows (uidsOf ps) rows'
  | .fetch k e,rows'=>1<=k/\k<=rows.length/\(∀ u,e.u=some u->∀ (j:Int) (r:Lt),0<=j->rows[j.toNat]?=some r->BadUid k u j r=false)/\∃ r,rows[(k - 1).toNat]?=some r/\rows'=rows.set (k - 1).toNat (updR r e)
  | .other _,rows'=>rows'=rows
noncomputable def Refused (rows:List Lt):Ans->Prop
  | .exists_ k=>k<rows.length
  | .expunge k=>¬(1<=k/\k<=rows.length)
  | .vanished ps e=>e=false/\Refuse rows ps
  | .fetch k e=>¬(1<=k/\k<=rows.length)∨∃ (u:Int) (j:Int) (r:Lt),e.u=some u/\0<=j/\rows[j.toNat]?=some r/\BadUid k u j r=true
  | .other _=>False
theorem wd {w a:String} {rest:List V} {v:V}:cmp .Eq (ld 2) (retM (tx a)) μ [some (.ref c),some v,some (tx w)]=.ok (decide (w=a)) μ [some (.ref c),some v,some (tx w)]:=word rfl
theorem s215 {A:Ans} {Q:V->List O->Prop} (h:H ((Cp c false rows).s R) μ) (ha:A.OK) (no:Refused rows A->∀ μ',X μ') (q:∀ rows' μ',Took rows A rows'->H ((Cp c false rows').s R) μ'->Q .none μ'):CRw (phiT tab (n+6) 215 [.ref c,A.v] μ) Q X:=by
  cases A with
  | exists_ k=>exact g215 (W_an rfl (W_sq (W_t (wordt rfl) (W_sq (W_bind (W_cl (each2 rfl rfl) (s227_f h ha.1 ha.2 (λb=>no b _) λμ' hk j=>q _ μ' ⟨hk,rfl⟩ j)))))))
  | expunge k=>
    refine Cp.open h λx rs hs o=>g215 (W_an rfl (W_sq (W_f (wordf rfl (by decide)) (W_sq (W_t (wordt rfl) (W_sq (W_bind (W_meth o.view.top rfl rfl (each1 rfl) (s198 o.view (λb=>no b _) λk1 k2 a r _ hr=>?_)))))))))
    have h0:=Int.sub_nonneg_of_le k1
    exact W_drop (p:=(k - 1).toNat) o (List.getElem?_eq_some_iff.mp hr).1 (λ_=>rfl) (λμ=>by rw [Int.toNat_of_nonneg h0];rfl) (λμ=>by rw [Int.natCast_add,Int.toNat_of_nonneg h0];exact (congrArg (λi=>Res.ok (V.int i) μ _) (Int.sub_add_cancel k 1).symm)) λμ' j=>q _ μ' ⟨k1,k2,rfl⟩ j
  | vanished ps e=>
    refine g215 (W_an rfl (W_sq (W_f (wordf rfl (by decide)) (W_sq (W_f (wordf rfl (by decide)) (W_sq (W_t (wordt rfl) (W_sq (W_bind (W_cl (each3 rfl rfl rfl) ?_))))))))))
    cases e with
    | true=>exact s272_t h λμ' j=>q rows μ' rfl j
    | false=>exact s272_f h ha.1 ha.2 (λb=>no ⟨rfl,b⟩) λrows' μ' _ d j=>q rows' μ' d j
  | fetch k e=>exact g215 (W_an rfl (W_sq (W_f (wordf rfl (by decide)) (W_sq (W_f (wordf rfl (by decide)) (W_sq (W_f (wordf rfl (by decide)) (W_sq (W_t (wordt rfl) (W_sq (W_bind (W_cl (each3 rfl rfl rfl) (s239 h (λss e=>(ha.2 ss e).1) (λb=>no (.inl b) _) (λu j r h1 h2 h3 h4=>no (.inr ⟨u,j,r,h1,h2,h3,h4⟩) _) λr μ' k1 k2 g hr j=>q _ μ' ⟨k1,k2,g,r,hr,rfl⟩ j)))))))))))))
  | other i=>
    have wf:∀ {w a:String} {v:V},w≠a->cmp .Eq (ld 2) (retM (tx a)) μ [some (.ref c),some v,some (tx w)]=.ok false μ [some (.ref c),some v,some (tx w)]:=λe=>wordf rfl e
    refine Cp.open h λx rs hs o=>?_
    rcases i with _ | _ | _ | _ | i
    · exact g215 (W_an (v:=tx "search") rfl (W_sq (W_f (wf (by decide)) (W_sq (W_f (wf (by decide)) (W_sq (W_f (wf (by decide)) (W_sq (W_f (wf (by decide)) (W_sq (W_f (wf (by decide)) (W_sq (W_f (wf (by decide)) (q rows μ rfl h))))))))))))))
    · exact g215 (W_an (v:=tx "flags") rfl (W_sq (W_f (wf (by decide)) (W_sq (W_f (wf (by decide)) (W_sq (W_f (wf (by decide)) (W_sq (W_f (wf (by decide)) (W_sq (W_t (wordt rfl) (W_n (ok_bind (a:=.tup [tx "k",tx "\\Seen"]) rfl (ok_bind (ok_bind rfl (set_at o.view.top rfl)) rfl)) (q rows _ rfl (CpH.close (x:=(x.1,x.2.1,x.2.2.1,x.2.2.2.1,.tup [tx "k",tx "\\Seen"])) ⟨o.own.put _,o.len,o.few⟩))))))))))))))
    · exact g215 (W_an (v:=tx "ok") rfl (W_sq (W_f (wf (by decide)) (W_sq (W_f (wf (by decide)) (W_sq (W_f (wf (by decide)) (W_sq (W_f (wf (by decide)) (W_sq (W_f (wf (by decide)) (W_sq (W_t (wordt rfl) (W_sq (W_bind (W_cl (args:=[.ref c,.bool false,.none]) (each3 rfl (ok_bind (a:=tx "*") rfl (ok_bind (cmp_ne (a:=tx "*") (b:=tx "*") rfl rfl (eq_tx.trans (congrArg some (decide_eq_true rfl)))) rfl)) rfl) (s307 (q rows μ rfl h))))))))))))))))))
    · exact g215 (W_an (v:=tx "list") rfl (W_sq (W_f (wf (by decide)) (W_sq (W_f (wf (by decide)) (W_sq (W_f (wf (by decide)) (W_sq (W_f (wf (by decide)) (W_sq (W_f (wf (by decide)) (W_sq (W_f (wf (by decide)) (q rows μ rfl h))))))))))))))
    · exact absurd (show i+4<4 from ha) (Nat.not_lt.mpr (Nat.le_add_left 4 i))
theorem s393 {A:Ans} {Q:V->List O->Prop} (h:H ((Cp c false rows).s R) μ) (ha:A.OK) (no:Refused rows A->∀ μ',Q (.bool false) μ') (q:∀ rows' μ',Took rows A rows'->H ((Cp c false rows').s R) μ'->Q (.bool true) μ'):CRw (phiT tab (n+7) 393 [.ref c,A.v] μ) Q X:=
  Cp.open h λx rs hs o=>g393 (W_sq (W_try (W_sq (W_bind (W_meth o.view.top rfl rfl rfl (s215 h ha (λb μ' ρ'=>no b μ') λrows' μ' t j=>q rows' μ' t j))))))
end
end
section
open PySem
noncomputable def toldO (ts:List Int):O:=.dict (ts.map .int) (ts.map λ_=>.bool true)
noncomputable def want (us ts:List Int):Int:=match us with
  | [u]=>if u∈ts then u else 0
  | _=>0
structure Holds1 (r:Lt) (ls:List Lt) (ts:List Int) (sure:Bool):Prop where
  uid:r.u=want (dd (ls.map (·.u))) ts
  flags:sure=true∨r.f≠.none->dd (ls.map (·.f))=[r.f]
  mods:sure=true∨r.m≠0->dd (ls.map (·.m))=[r.m]
section
variable {n:Nat} {μ μ':List O} {ρ:List (Option V)} {R:Asn} {t:Nat} {ts:List Int} {r:Lt} {ls:List Lt} {sure:Bool}
theorem cmpV_ok {o:CmpOp} {a b:M V} {u v:V} {d:Bool} (ha:a μ ρ=.ok u μ ρ) (hb:b μ ρ=.ok v μ ρ) (hc:cmpM o u v μ ρ=.ok d μ ρ):cmpV o a b μ ρ=.ok (.bool d) μ ρ:=ok_bind ha (ok_bind (ok_bind hb hc) rfl)
theorem find_int {u:Int} {ts:List Int}:(findV (.int u) (ts.map .int)).isSome=decide (u∈ts):=by
  have e:findV (.int u) (ts.map .int)=ts.findIdx? λa=>decide (a=u):=by
    unfold findV
    rw [List.findIdx?_map]
    exact congrArg (λp=>List.findIdx? p ts) (funext λa=>decide_eq_decide.mpr ⟨V.int.inj,congrArg V.int⟩)
  rw [e]
  by_cases h:u∈ts
  · obtain ⟨i,e⟩:=find_some h
    rw [e,decide_eq_true h];rfl
  · rw [find_not h,decide_eq_false h];rfl
theorem told_mix {u:Int}:lookD (.int u) (ts.map .int)=some (findV (.int u) (ts.map .int)):=if_pos (mix_of rfl rfl λa m=>by obtain ⟨x,_,rfl⟩:=List.mem_map.mp m;rfl)
theorem in_told {u:Int} (h:μ[t]?=some (toldO ts)):inV μ (.int u) (.ref t)=some (decide (u∈ts)):=by
  unfold inV
  rw [show dictOf μ (.ref t)=some (ts.map .int,ts.map λ_=>.bool true) by show (μ[t]?).bind O.dict?=_;rw [h];rfl]
  show (lookD (.int u) (ts.map .int)).map Option.isSome=_
  rw [told_mix]
  exact congrArg some find_int
theorem uniq {β:Type} [DecidableEq β] {f:Lt->β} {g:β->V} {c:V->Acc->M Acc} (hg:∀ a b,g a=g b->a=b) (hk:∀ l∈ls,keyOk (g (f l))=true/\isStrV (g (f l))=false) (i:∀ (l:Lt) (z:Option V) a,c l.v a μ [none,z]=emitD (g (f l)) (.bool true) a μ [none,some l.v]) (h1:ld 1 μ ρ=.ok (.lst (ls.map Lt.v)) μ ρ) (hl:ls.length<=big) :
    bi false .tList (each [comp [none,none] false false (srcE (ld 1)) c]) μ ρ=.ok (.lst ((dd (ls.map f)).map g)) μ ρ:=
  have hb:((dd (ls.map f)).map g).length<=big:=by rw [List.length_map];exact Nat.le_trans (dd_len _) (by rw [List.length_map];exact hl)
  ok_bind (each1 ((comp_dd false Lt.v f g hg (λz:Option V=>[none,z]) none (ok_bind h1 rfl) rfl (L:=[none,none]) rfl (λl m=>⟨hk l m,λz=>⟨some l.v,i l z⟩⟩) hl).trans (dct_ok hb))) (list_dctM hb)
theorem okV_lst {l:List V} (h:l.all (okV 7)=true):okV 8 (.lst l)=true:=h
noncomputable def r398 (r:Lt) (ls:List Lt) (t:Nat) (sure:Bool) (us:List Int) (fs:List V) (ms:List Int):List (Option V):=[some r.v,some (.lst (ls.map Lt.v)),some (.ref t),some (.bool sure),some (.lst (us.map .int)),some (.lst fs),some (.lst (ms.map .int))]
theorem s398 (hr:FlagOK r.f) (hls:∀ l∈ls,FlagOK l.f) (hlen:ls.length<=big) (ht:μ[t]?=some (toldO ts)) (h:Holds1 r ls ts sure):phiT tab (n+1) 398 [r.v,.lst (ls.map Lt.v),.ref t,.bool sure] μ=.ok (.bool true) μ:=by
  have bU:((dd (ls.map (·.u))).map V.int).length<=big:=by rw [List.length_map];exact Nat.le_trans (dd_len _) (by rw [List.length_map];exact hlen)
  have cF:=λρ h1=>uniq (μ:=μ) (ρ:=ρ) (f:=(·.f)) (g:=id) (c:=c398_1) (λ_ _ e=>e) (λl m=>⟨(hls l m).key 7,(hls l m).nostr⟩) (λl z a=>ok_bind (m:=st 1 l.v) rfl (ok_bind (ok_bind rfl rfl) rfl)) h1 hlen
  have cU:=λρ h1=>uniq (μ:=μ) (ρ:=ρ) (ls:=ls) (f:=(·.u)) (g:=V.int) (c:=c398_0) (λ_ _=>V.int.inj) (λl m=>⟨rfl,rfl⟩) (λl z a=>ok_bind (m:=st 1 l.v) rfl (ok_bind (ok_bind rfl rfl) rfl)) h1 hlen
  have cM:=λρ h1=>uniq (μ:=μ) (ρ:=ρ) (ls:=ls) (f:=(·.m)) (g:=V.int) (c:=c398_2) (λ_ _=>V.int.inj) (λl m=>⟨rfl,rfl⟩) (λl z a=>ok_bind (m:=st 1 l.v) rfl (ok_bind (ok_bind rfl rfl) rfl)) h1 hlen
  have okF:(dd (ls.map (·.f))).all (okV 7)=true:=List.all_eq_true.mpr λf hf=>by obtain ⟨l,hl,rfl⟩:=List.mem_map.mp (mem_dd.mp hf);exact (hls l hl).ok 6
  have ok1:[r.f].all (okV 7)=true:=Bool.and_eq_true_iff.mpr ⟨hr.ok 6,rfl⟩
  have h1:=h.uid
  have h2:=h.flags
  have h3:=h.mods
  revert cF cU cM okF h1 h2 h3 bU
  generalize dd (ls.map (·.u))=us
  generalize dd (ls.map (·.f))=fs
  generalize dd (ls.map (·.m))=ms
  intro bU cF cU cM okF h1 h2 h3
  refine CRw.eq (g398 (W_n (ok_bind (ok_bind (each2 (cU _ rfl) (cF _ rfl)) (tup_ok (vs:=[_,_]) (by decide:2<=big))) rfl) (W_an (cM _ rfl) ?_)))
  rw [List.map_id]
  have hw:ifM (andM (cmp .Eq (bi false .len (each [ld 4])) (retM (.int 1))) (andM (cmp .In (idx (ld 4) (retM (.int 0))) (ld 2)) (retM true))) (idx (ld 4) (retM (.int 0))) (retM (.int 0)) μ (r398 r ls t sure us fs ms)=.ok (.int r.u) μ (r398 r ls t sure us fs ms):=by
    rw [h1]
    have hl4:=λρ h4=>ceq (μ:=μ) (ρ:=ρ) (ma:=bi false .len (each [ld 4])) (mb:=retM (.int 1)) (ok_bind (each1 h4) (len_lst bU)) rfl
    match us with
    | []=>exact ok_f (ok_f (tst (hl4 _ rfl) (decide_eq_false (by decide))) rfl) rfl
    | [u]=>
      have hi:=ok_t (a:=andM (cmp .In (idx (ld 4) (retM (.int 0))) (ld 2)) (retM true)) (b:=retM false) (tst (hl4 (r398 r ls t sure [u] fs ms) rfl) (decide_eq_true rfl)) (and1 (cmp_in (ok_bind rfl rfl) rfl (in_told (u:=u) ht)))
      by_cases hu:u∈ts
      · rw [show want [u] ts=u from if_pos hu]
        exact ok_t (tst hi (decide_eq_true hu)) (ok_bind rfl rfl)
      · rw [show want [u] ts=0 from if_neg hu]
        exact ok_f (tst hi (decide_eq_false hu)) rfl
    | u :: v :: us=>exact ok_f (ok_f (tst (hl4 _ rfl) (decide_eq_false (by rw [List.length_map,List.length_cons,List.length_cons];exact λe=>absurd (Int.ofNat.inj e) (by exact λe=>Nat.succ_ne_zero _ (Nat.succ.inj e))))) rfl) rfl
  refine W_n (ok_f (tst (cne (ok_bind rfl rfl) hw) (by rw [decide_eq_true rfl];rfl)) rfl) (W_n (ok_f (tst (and_ok (or_ok (ok_bind rfl rfl) (or1 (ok_bind (ok_bind rfl rfl) rfl))) (and1 (cmp_ne rfl (b:=.lst [r.f]) rfl (eq_data rfl rfl rfl (okV_lst okF) (okV_lst ok1))))) ?_) rfl) ?_)
  · cases hc:sure||!r.f.isNone with
    | false=>rfl
    | true=>
      rw [h2 ((Bool.or_eq_true_iff.mp hc).imp id λe q=>by rw [q] at e;exact nomatch e),decide_eq_true rfl];rfl
  · have e1:orV (ld 3) (cmpV .NotEq (idx (ld 0) (retM (.int 2))) (retM (.int 0))) μ (r398 r ls t sure us fs ms)=.ok (.bool (sure||!decide (r.m=0))) μ (r398 r ls t sure us fs ms):=by
      refine ok_bind (a:=.bool sure) rfl (ok_bind (a:=sure) rfl ?_)
      cases sure
      · exact cmpV_ok (u:=.int r.m) rfl rfl ne_int
      · rfl
    refine W_r (ρ':=r398 r ls t sure us fs ms) (ok_bind (a:=.bool true) (ok_bind (ok_bind (ok_bind e1 rfl) rfl) (ok_bind (a:=!(sure||!decide (r.m=0))) rfl ?_)) rfl) ⟨rfl,rfl⟩
    cases hc:sure||!decide (r.m=0) with
    | false=>rfl
    | true=>
      rw [h3 ((Bool.or_eq_true_iff.mp hc).imp id λe q=>by rw [q] at e;exact nomatch e)]
      exact cmpV_ok (u:=.lst ([r.m].map V.int)) (v:=.lst [.int r.m]) (d:=true) rfl rfl (rd_ok (f:=λμ=>eqL μ (.lst [.int r.m]) (.lst [.int r.m])) ((eq_data (a:=.lst [.int r.m]) (b:=.lst [.int r.m]) rfl rfl rfl (okV_ints 7 [r.m]) (okV_ints 7 [r.m])).trans (by rw [decide_eq_true rfl])))
end
end
section
open PySem
structure Knows (rows:List Lt) (bs:List (List Lt)) (ts:List Int) (sure:Bool):Prop where
  some_:bs≠[]
  lens:∀ b∈bs,b.length=rows.length
  boxes:∀ b∈bs,BoxOK b
  flags:∀ r∈rows,FlagOK r.f
  pos:∀ r∈rows,0<=r.u
  rows1:∀ (i:Nat) (r:Lt),rows[i]?=some r->Holds1 r (bs.filterMap λb=>b[i]?) ts sure
  few:bs.length<=big
theorem enum_map {α:Type} (g:α->V):∀ (l:List α) (k:Nat),enumFrom k (l.map g)=(l.zipIdx k).map λp=>V.tup [.int (p.2:Nat),g p.1]
  | [],_=>rfl
  | a :: l,k=>congrArg (V.tup [.int k,g a] :: ·) (enum_map g l (k+1))
theorem idxs_zip:∀ (l:List Lt) (k:Nat),idxs l ((k:Int)+1)=(l.zipIdx k).map λq=>V.int ((q.2:Nat)+1)
  | [],_=>rfl
  | r :: l,k=>congrArg (V.int ((k:Int)+1) :: ·) (idxs_zip l (k+1))
theorem irange_zip (rows:List Lt):irange 1 (rows.length+1)=rows.zipIdx.map λq=>((q.2:Nat):Int)+1:=map_inj (λ_ _=>V.int.inj) (by
  rw [Int.add_comm,idxs_eq,List.map_map]
  exact idxs_zip rows 0)
section
variable {n:Nat} {μ μ':List O} {ρ:List (Option V)} {c rs t:Nat} {hs:List Nat} {rows:List Lt} {op:Bool} {x:V5} {ts:List Int} {sure:Bool} {bs:List (List Lt)}
theorem for_eq {γ σ:Type} {body:V->M Fl} {st:M Unit} (hst:∀ ρ,st μ ρ=.ok () μ ρ) (f:γ->V) (P:σ->List (Option V)):∀ (l:List γ) (z:σ),(∀ x∈l,∀ z,∃ z',body (f x) μ (P z)=.ok .next μ (P z'))->∃ z',forM st body (l.map f) μ (P z)=.ok .next μ (P z')
  | [],z,_=>⟨z,ok_bind (hst _) rfl⟩
  | x :: l,z,h=>by
    obtain ⟨z1,e1⟩:=h x List.mem_cons_self z
    obtain ⟨z',e⟩:=for_eq hst f P l z1 λy m=>h y (List.mem_cons_of_mem _ m)
    exact ⟨z',ok_bind (hst _) (ok_bind e1 e)⟩
theorem whole_not {r:Lt} (h:0<=r.u):(decide (r.u=0)||r.f.isNone)=!r.whole:=by
  unfold Lt.whole
  rw [isNone_dec]
  by_cases h1:r.u=0
  · rw [h1];rfl
  · rw [decide_eq_false h1,decide_eq_true (Int.lt_iff_le_and_ne.mpr ⟨h,Ne.symm h1⟩)]
    cases decide (r.f=.none) <;> rfl
theorem andV_ok {m k:M V} {r:Res V} (h:m μ ρ=.ok (.bool true) μ ρ) (hk:k μ ρ=r):andV m k μ ρ=r:=ok_bind h hk
noncomputable def r403 (c:Nat) (bs:List (List Lt)) (t:Nat) (sure:Bool) (rows:List Lt) (z:Option V×Option V):List (Option V):=[some (.ref c),some (.lst (bs.map bv)),some (.ref t),some (.bool sure),z.1,some (.lst (rows.map Lt.v)),z.2,none]
set_option maxHeartbeats 4000000 in
theorem s403 (h:CpAt μ c op x rows rs hs) (ht:μ[t]?=some (toldO ts)) (k:Knows rows bs ts sure):phiT tab (n+3) 403 [.ref c,.lst (bs.map bv),.ref t,.bool sure] μ=.ok (.bool true) μ:=by
  have hr50:=h.few
  have hrb:(rows.map Lt.v).length<=big:=by rw [List.length_map];exact Nat.le_trans hr50 (by decide)
  have okB:(bs.map bv).all (okV 7)=true:=all_map λb m=>okV_bv (k.boxes b m) 4
  have lenB:∀ {ρ:List (Option V)} {b:List Lt},b∈bs->ld 1 μ ρ=.ok (bv b) μ ρ->bi false .len (each [ld 1]) μ ρ=.ok (.int rows.length) μ ρ:=λ{ρ b} hb hm=>by
    have:=len_bv (b:=b) (i:=1) (by rw [k.lens b hb];exact hr50) hm
    rw [k.lens b hb] at this
    exact this
  have c2:=λ(ρ:List (Option V)) (h1:ld 1 μ ρ=.ok (.lst (bs.map bv)) μ ρ) (h5:innerL [none,none,some 5] ρ=some [none,none,some (.lst (rows.map Lt.v))])=>comp_filter (μ:=μ) (ρ:=ρ) (t:=false) (turn:=c403_1) bv bv (λ_=>false) (λz:Option V=>[none,z,some (.lst (rows.map Lt.v))]) none (L:=[none,none,some 5]) (src:=srcE (ld 1)) (l:=bs) (c:=none) (ok_bind h1 rfl) rfl h5 (λb hb z acc hc=>⟨some (bv b),ok_bind (m:=st 1 (bv b)) rfl (emit_if (c:=false) (and1 (tst (cne (lenB hb rfl) ((ok_bind (each1 rfl) (len_lst hrb)).trans (by rw [List.length_map]))) (by rw [decide_eq_true rfl];rfl))) rfl hc)⟩) k.few
  rw [List.filter_eq_nil_iff.mpr λ_ _=>Bool.false_ne_true] at c2
  refine CRw.eq (g403 (W_an (h.comp Lt.v rfl λa r g z acc hc=>ok_bind (m:=st 1 (.ref a)) rfl (ok_bind (meth_at g rfl rfl rfl (s165 g)) (emit_ok hc))) (W_n (ok_f (tst (or_ok (cmp_eq (a:=.lst (bs.map bv)) (b:=.lst []) rfl rfl (eq_data rfl rfl rfl (okV_lst okB) rfl)) (or1 (cmp_ne (c2 _ rfl rfl) (b:=.lst []) rfl (eq_data rfl rfl rfl rfl rfl)))) ?_) rfl) (W_sq ?_))))
  · rw [decide_eq_false λe=>k.some_ (List.map_eq_nil_iff.mp (V.lst.inj e))];rfl
  obtain ⟨z,ez⟩:=for_eq (μ:=μ) (st:=stillM none) (body:=b403_3 (phiT tab (n+2))) (λ_=>rfl) (λp:Lt×Nat=>V.tup [.int (p.2:Nat),p.1.v]) (r403 c bs t sure rows) rows.zipIdx (none,none) λp hp z=>by
    have hpi:=List.mem_zipIdx_iff_getElem?.mp hp
    have hil:=(List.getElem?_eq_some_iff.mp hpi).1
    have hlet:∀ l∈bs.filterMap (λb=>b[p.2]?),FlagOK l.f:=λl hl=>by
      obtain ⟨b,hb,hbi⟩:=List.mem_filterMap.mp hl
      exact k.boxes b hb l (List.mem_of_getElem? hbi)
    have hfl:(bs.filterMap λb=>b[p.2]?).length<=big:=Nat.le_trans (List.length_filterMap_le ..) k.few
    have hgen:∀ l:List (List Lt),(∀ b∈l,b.length=rows.length)->l.flatMap (λb=>((b[p.2]?).map Lt.v).toList)=(l.filterMap λb=>b[p.2]?).map Lt.v:=λl=>by
      induction l with
      | nil=>exact λ_=>rfl
      | cons b l ih=>
        intro hb
        rw [List.flatMap_cons,ih λb' hb'=>hb b' (List.mem_cons_of_mem _ hb'),List.filterMap_cons]
        cases b[p.2]? <;> rfl
    have e:=hgen bs k.lens
    have hv:∀ (b:List Lt) (l:Lt) (ρ:List (Option V)),b[p.2]?=some l->p.2<=1000000->idxM (bv b) (.int (p.2:Nat)) μ ρ=.ok l.v μ ρ:=λb l ρ hl h=>idx_tup (fits_n h) (item_nat (by rw [List.getElem?_map,hl];rfl))
    revert hv
    generalize V.int ((p.2:Nat):Int)=vi
    intro hv
    have c3:=comp_list (μ:=μ) (t:=false) (turn:=c403_2) bv (λb=>((b[p.2]?).map Lt.v).toList) (λz:Option V=>[none,z,some vi]) none (L:=[none,none,some 6]) (src:=srcE (ld 1)) (ρ:=r403 c bs t sure rows (some p.1.v,some vi)) (l:=bs) (c:=none) (ok_bind rfl rfl) rfl rfl (λb hb z acc hc=>⟨some (bv b),by
      obtain ⟨l,hl⟩:∃ l,b[p.2]?=some l:=⟨_,List.getElem?_eq_getElem (k.lens b hb▸hil)⟩
      have:=λρ=>hv b l ρ hl (Nat.le_trans (Nat.le_of_lt hil) (Nat.le_trans hr50 (by decide)))
      rw [hl] at hc ⊢
      exact ok_bind (m:=st 1 (bv b)) rfl (ok_bind (ok_bind (a:=bv b) rfl (ok_bind (a:=vi) rfl (this _))) (emit_ok hc))⟩) (by rw [e,List.length_map];exact hfl)
    rw [e,lst_f (by rw [List.length_map];exact hfl)] at c3
    have e4:each [ld 4,comp [none,none,some 6] true false (srcE (ld 1)) c403_2,ld 2,ld 3] μ (r403 c bs t sure rows (some p.1.v,some vi))=.ok [p.1.v,.lst ((bs.filterMap λb=>b[p.2]?).map Lt.v),.ref t,.bool sure] μ (r403 c bs t sure rows (some p.1.v,some vi)):=ok_bind (a:=p.1.v) rfl (ok_bind (each3 c3 rfl rfl) rfl)
    exact ⟨(some p.1.v,some vi),ok_bind (m:=stT [6,4] _) rfl (ok_bind (a:=.next) (ok_f (not_ok (a:=true) (ok_bind (ok_bind e4 (call_eq (s398 (n:=n+1) (k.flags p.1 (List.mem_of_getElem? hpi)) hlet hfl ht (k.rows1 p.2 p.1 hpi)))) rfl)) rfl) rfl)⟩
  refine W_e (ok_bind (a:=(none,rows.zipIdx.map λp=>V.tup [.int (p.2:Nat),p.1.v])) (ok_bind rfl (congrArg (λl=>Res.ok ((none,l):Src) μ _) (enum_map Lt.v rows 0))) ez) ?_
  have hzl:rows.zipIdx.length<=big:=by rw [List.length_zipIdx];exact Nat.le_trans hr50 (by decide)
  have c4:=comp_filter (μ:=μ) (t:=false) (turn:=c403_4) (λp:Lt×Nat=>V.tup [.int (p.2:Nat),p.1.v]) (λp=>V.int ((p.2:Nat)+1)) (λp=>decide (p.1.u=0)||p.1.f.isNone) (λz:Option V×Option V=>[none,z.1,z.2]) (none,none) (L:=[none,none,none]) (src:=enu (each [ld 5])) (ρ:=r403 c bs t sure rows z) (l:=rows.zipIdx) (c:=none) (ok_bind rfl (congrArg (λl=>Res.ok ((none,l):Src) μ _) (enum_map Lt.v rows 0))) rfl rfl (λp hp z acc hc=>⟨(some (.int (p.2:Nat)),some p.1.v),ok_bind (m:=stT [1,2] _) rfl (emit_if (and1 (or_ok (ceq (ok_bind rfl rfl) rfl) (or1 (ok_bind (ok_bind rfl rfl) rfl)))) (ok_bind rfl rfl) hc)⟩) hzl
  have hl:((rows.zipIdx.filter λp=>decide (p.1.u=0)||p.1.f.isNone).map λp=>V.int ((p.2:Nat)+1))=((irange 1 (rows.length+1)).filter λi=>!(rows[(i - 1).toNat]?.any Lt.whole)).map .int:=by
    rw [irange_zip,List.filter_map,List.map_map]
    refine congrArg (List.map _) (List.filter_congr λp hp=>?_)
    have hpi:=List.mem_zipIdx_iff_getElem?.mp hp
    show _=!(rows[(((p.2:Nat):Int)+1 - 1).toNat]?.any Lt.whole)
    rw [whole_not (k.pos p.1 (List.mem_of_getElem? hpi)),Int.add_sub_cancel,Int.toNat_natCast,hpi];rfl
  rw [hl,lst_f (by rw [←hl,List.length_map];exact Nat.le_trans (List.length_filter_le ..) hzl)] at c4
  have top:=h.top
  have hm:∀ {ρ:List (Option V)} {w:String} {f:Addr} {v:V},ld 0 μ ρ=.ok (.ref c) μ ρ->(instMs true).lookup (Str.ofString w)=some f->phiT tab (n+2) f [.ref c] μ=.ok v μ->meth (phiT tab (n+2)) (ld 0) (Str.ofString w) (each []) μ ρ=.ok v μ ρ:=λh0 hw e=>meth_at top (by show ((instMs true).lookup _).map Me.fn=_;rw [hw];rfl) h0 rfl e
  have eqT:∀ {ρ:List (Option V)} {a b:M V} {v:V},a μ ρ=.ok v μ ρ->b μ ρ=.ok v μ ρ->eqL μ v v=some true->cmpV .Eq a b μ ρ=.ok (.bool true) μ ρ:=λha hb e=>cmpV_ok ha hb (rd_ok (f:=λμ=>eqL μ _ _) e)
  have c5:=comp_map (μ:=μ) (t:=false) (turn:=c403_5) Lt.v (λr=>V.int r.u) (λz:Option V=>[none,z]) none (L:=[none,none]) (src:=srcE (ld 5)) (ρ:=(r403 c bs t sure rows z).set 7 (some (.lst (((irange 1 (rows.length+1)).filter λi=>!(rows[(i - 1).toNat]?.any Lt.whole)).map .int)))) (l:=rows) (ok_bind rfl rfl) rfl rfl (λr m z acc hc=>⟨some r.v,ok_bind (m:=st 1 r.v) rfl (ok_bind (ok_bind rfl rfl) (emit_ok hc))⟩) (Nat.le_trans hr50 (by decide))
  rw [show (rows.map λr=>V.int r.u)=(rows.map (·.u)).map .int by rw [List.map_map];rfl,lst_f (by rw [List.length_map,List.length_map];exact Nat.le_trans hr50 (by decide))] at c5
  have self:∀ {v:V},plainL μ v=some v->v.bool?=none->okV 8 v=true->eqL μ v v=some true:=λp b o=>(eq_data p p b o o).trans (congrArg some (decide_eq_true rfl))
  have e8:tup [retM (tx "b"),retM (.int 0),bi false .tTuple (each [ld 5])] μ ((r403 c bs t sure rows z).set 7 (some (.lst (((irange 1 (rows.length+1)).filter λi=>!(rows[(i - 1).toNat]?.any Lt.whole)).map .int))))=.ok (.tup [tx "b",.int 0,.tup (rows.map Lt.v)]) μ _:=ok_bind (each3 rfl rfl (ok_bind (a:=[.lst (rows.map Lt.v)]) rfl (tuple_lst hrb))) (tup_ok (vs:=[_,_,_]) (by decide:3<=big))
  have ok8:okV 8 (.tup [tx "b",.int 0,.tup (rows.map Lt.v)])=true:=Bool.and_eq_true_iff.mpr ⟨okV_tx 7 "b",Bool.and_eq_true_iff.mpr ⟨rfl,Bool.and_eq_true_iff.mpr ⟨all_map λr m=>okV_lt (k.flags r m) 4,rfl⟩⟩⟩
  exact W_nx (W_an c4 (W_r (ok_bind (andV_ok (eqT (hm rfl rfl (s203 h)) rfl (self rfl rfl (okV_ints 7 _))) (andV_ok (eqT (hm rfl rfl (s191 h)) c5 (self rfl rfl (okV_ints 7 _))) (eqT (hm rfl rfl (s208 h)) e8 (self rfl rfl ok8)))) rfl) ⟨rfl,rfl⟩))
end
end
section
open PySem
theorem mem_spread {ps:List (Int×Int)} {x:Int}:x∈spread ps↔∃ p∈ps,min p.1 p.2<=x/\x<=max p.1 p.2:=List.mem_flatMap.trans (exists_congr λp=>and_congr_right λ_=>mem_irange.trans (and_congr_right λ_=>Int.lt_add_one_iff))
structure PO (us:List Int) (ps:List (Int×Int)) (k:Nat):Prop where
  sm:∀ p∈ps,Sm p
  len:ps.length<=k
  ne:ps≠[]
  mem:∀ x,x∈spread ps↔x∈us
section
variable {us:List Int} {ps qs:List (Int×Int)} {k l:Nat}
theorem PO.of (h:∀ u∈us,1<=u/\u<=50) (hne:us≠[]):PO us (us.map λu=>(u,u)) us.length where
  sm p hp:=by obtain ⟨u,hu,rfl⟩:=List.mem_map.mp hp;exact ⟨(h u hu).1,Int.le_trans (h u hu).2 (by decide),(h u hu).1,Int.le_trans (h u hu).2 (by decide)⟩
  len:=Nat.le_of_eq (List.length_map ..)
  ne:=λe=>hne (List.map_eq_nil_iff.mp e)
  mem x:=mem_spread.trans ⟨λ⟨p,hp,h1,h2⟩=>by obtain ⟨u,hu,rfl⟩:=List.mem_map.mp hp;rw [Int.min_self] at h1;rw [Int.max_self] at h2;exact Int.le_antisymm h1 h2▸hu,λhx=>⟨(x,x),List.mem_map_of_mem hx,Int.min_le_left ..,Int.le_max_left ..⟩⟩
theorem PO.perm (h:PO us ps k) (hm:∀ p,p∈qs↔p∈ps) (hl:qs.length<=l):PO us qs l where
  sm p hp:=h.sm p ((hm p).mp hp)
  len:=hl
  ne:=λe=>by
    obtain ⟨p,r,hp⟩:=List.exists_cons_of_ne_nil h.ne
    exact nomatch e▸(hm p).mpr (hp▸List.mem_cons_self)
  mem x:=mem_spread.trans ((exists_congr λp=>and_congr_left λ_=>hm p).trans (mem_spread.symm.trans (h.mem x)))
theorem PO.more (h:PO us ps k) (hl:k<=l):PO us ps l:=h.perm (λ_=>Iff.rfl) (Nat.le_trans h.len hl)
theorem PO.add (h:PO us ps k) {p:Int×Int} (hs:Sm p) (hu:∀ x,min p.1 p.2<=x->x<=max p.1 p.2->x∈us):PO us (p :: ps) (k+1) where
  sm q hq:=(List.mem_cons.mp hq).elim (λe=>e▸hs) (h.sm q)
  len:=Nat.succ_le_succ h.len
  ne:=λe=>nomatch e
  mem x:=mem_spread.trans ⟨λ⟨q,hq,h1,h2⟩=>(List.mem_cons.mp hq).elim (λe=>hu x (e▸h1) (e▸h2)) λm=>(h.mem x).mp (mem_spread.mpr ⟨q,m,h1,h2⟩),λhx=>let ⟨q,m,hx⟩:=mem_spread.mp ((h.mem x).mpr hx);⟨q,List.mem_cons_of_mem _ m,hx⟩⟩
end
section
variable {α:Type} {n:Nat} {μ μ':List O} {ρ:List (Option V)} {X:List O->Prop} {R:Asn} {Q:α->List O->List (Option V)->Prop} {i L:Nat} {us:List Int} {a b:M α}
theorem W_coin (h:H ((Ink i).s R) μ) (ho:∀ μ,ld 0 μ ρ=.ok (.ref i) μ ρ) (h1:∀ μ',H ((Ink i).s R) μ'->W a Q X μ' ρ) (h2:∀ μ',H ((Ink i).s R) μ'->W b Q X μ' ρ):W (ifM (cmp .Eq (cl (phiT tab (n+1)) 346 (each [ld 0,retM (.int 2)])) (retM (.int 1))) a b) Q X μ ρ:=
  W_bind (W_bind (W_dig (ho μ) rfl h (by decide) (by decide) λd μ' _ _ j=>W_s (m:=retM (V.int 1)) rfl (W_e eq_int (by
    cases decide (d=1)
    · exact h2 μ' j
    · exact h1 μ' j))))
theorem W_andcoin {m:M Bool} {c:Bool} (hm:m μ ρ=.ok c μ ρ) (h:H ((Ink i).s R) μ) (ho:∀ μ,ld 0 μ ρ=.ok (.ref i) μ ρ) (h1:c=true->∀ μ',H ((Ink i).s R) μ'->W a Q X μ' ρ) (h2:∀ μ',H ((Ink i).s R) μ'->W b Q X μ' ρ):W (ifM (andM m (andM (cmp .Eq (cl (phiT tab (n+1)) 346 (each [ld 0,retM (.int 2)])) (retM (.int 1))) (retM true))) a b) Q X μ ρ:=
  W_bind (W_if hm (λe=>W_coin h ho (λμ' j=>h1 e μ' j) λμ' j=>h2 μ' j) λe=>h2 μ h)
theorem back_ref {t:Bool} {vs:List V} (h:μ[L]?=some (.list vs)) (hb:vs.length<=big):sliceBack t (.ref L) μ ρ=lstM t vs.reverse μ ρ:=ok_bind (lseq_ref h) (gd_ok (decide_eq_true hb) rfl)
theorem len_pos {β:Type} {l:List β} (h:l≠[]):1<=(l.length:Int):=Int.natCast_pos.mpr (List.length_pos_iff.mpr h)
theorem do_insert {Φ:Tab} {v:V} {vs:List V} (h:μ[L]?=some (.list vs)) (hb:(v :: vs).length<=big):methM Φ (.ref L) .insert [.int 0,v] μ ρ=.ok .none (μ.set L (.list (v :: vs))) ρ:=by
  show gd (decide ((0:Int)=0)) (listDo L λvs=>capped .none (v :: vs)) μ ρ=_
  exact gd_ok rfl (do_list h (if_pos hb))
theorem at_dig {β:Type} {l:List β} {g:β->V} {d:Int} (h0:0<=d) (h1:d<((l.map g).length:Int)):∃ x,l[d.toNat]?=some x/\itemAt (l.map g) d=some (g x):=by
  rw [List.length_map] at h1
  have:=List.getElem?_eq_getElem ((Int.toNat_lt h0).mpr h1)
  exact ⟨_,this,item_int h0 (by rw [List.getElem?_map,this];rfl)⟩
noncomputable abbrev r371 (i:Nat) (us:List Int) (L:Nat) (y z:Option V):List (Option V):=[some (.ref i),some (.lst (us.map .int)),y,some (.ref L),z]
theorem s371 {Q:V->List O->Prop} (h:H ((Ink i).s R) μ) (hu:∀ u∈us,1<=u/\u<=49) (hne:us≠[]) (hl:us.length<=20) (k:∀ ps μ',PO us ps 50->H ((Ink i).s R) μ'->Q (.tup (ps.map pv)) μ'):CRw (phiT tab (n+2) 371 [.ref i,.lst (us.map .int)] μ) Q X:=by
  have hul:us.length<=big:=Nat.le_trans hl (by decide)
  have c1:=comp_map (μ:=μ) (t:=true) (turn:=c371_0) V.int (λu=>pv (u,u)) (λz:Option V=>[none,z]) none (L:=[none,none]) (src:=srcE (ld 1)) (ρ:=[some (.ref i),some (.lst (us.map .int)),none,none,none]) (l:=us) (c:=none) (ok_bind rfl rfl) rfl rfl (λu m z acc hc=>⟨some (.int u),ok_bind (m:=st 1 _) rfl (ok_bind (ok_bind rfl (tup_ok (vs:=[_,_]) (by decide:2<=big))) (emit_ok hc))⟩) hul
  rw [show (us.map λu=>pv (u,u))=(us.map λu=>(u,u)).map pv by rw [List.map_map];rfl,lst_t (by rw [List.length_map,List.length_map];exact hul)] at c1
  refine g371 (W_an c1 (W_join (σ:=Nat×List (Int×Int)) (λz μ=>PO us z.2 20/\H ((pt z.1 (pvs z.2)).s ((Ink i).s R)) μ) (λz=>r371 i us z.1 none none) (λQ' q=>?_) λz μ1 j=>?_))
  · have p0:=(PO.of (λu m=>⟨(hu u m).1,Int.le_trans (hu u m).2 (by decide)⟩) hne).more hl
    exact W_coin (h.new _).sw (λ_=>rfl) (λμ1 j=>W_n (ok_as (ok_bind rfl ((back_ref j.sw.get (len_le (n:=20) (by rw [List.length_map];exact p0.len) rfl)).trans (lst_t (by rw [List.length_reverse,List.length_map];exact Nat.le_trans p0.len (by decide)))))) (q (_,(us.map λu=>(u,u)).reverse) _ ⟨p0.perm (λp=>List.mem_reverse) (by rw [List.length_reverse];exact p0.len),by
      rw [show pvs (us.map λu=>(u,u)).reverse=.list ((us.map λu=>(u,u)).map pv).reverse from congrArg O.list List.map_reverse]
      exact j.sw.drop.new _⟩)) λμ1 j=>q (_,_) μ1 ⟨p0,j.sw⟩
  obtain ⟨L,ps⟩:=z
  obtain ⟨po,j⟩:=j
  refine W_join (σ:=List (Int×Int)) (λz μ=>PO us z 40/\H ((Ink i).s ((pt L (pvs z)).s R)) μ) (λz=>r371 i us L none none) (λQ' q=>?_) λps μ2 j=>?_
  · have hb:(ps.map pv).length<=20:=by rw [List.length_map];exact po.len
    refine W_coin j.sw (λ_=>rfl) (λμ2 j=>?_) λμ2 j=>q ps μ2 ⟨po.more (by decide),j⟩
    refine W_sq (W_bind (W_s (a:=.ref L) rfl (W_s (pick_list j.sw.get rfl) (W_bind (W_bind (W_s (a:=.ref L) rfl (W_bind (W_dig (many:=((ps.map pv).length:Nat)) rfl (ok_bind rfl (len_ref j.sw.get (len_le hb rfl))) j (len_pos λe=>po.ne (List.map_eq_nil_iff.mp e)) (Int.le_trans (Int.ofNat_le.mpr hb) (by decide)) λd μ3 d0 d1 j3=>?_))))))))
    obtain ⟨p,hp,hi⟩:=at_dig d0 d1
    have mp:=List.mem_of_getElem? hp
    refine W_e (idx_list j3.sw.get (fits_le (Int.le_trans (by decide) d0) (Int.le_trans (Int.le_of_lt d1) (Int.le_trans (Int.ofNat_le.mpr hb) (by decide)))) hi) (W_e (a:=[pv p]) rfl (W_e (do_list j3.sw.get (if_pos (len_le (n:=21) (by rw [List.length_append];exact Nat.succ_le_succ hb) rfl))) (q (ps++[p]) _ ⟨po.perm (λx=>List.mem_append.trans ⟨λh=>h.elim id λm=>List.mem_singleton.mp m▸mp,.inl⟩) (by rw [List.length_append];exact Nat.le_trans (Nat.succ_le_succ po.len) (by decide)),?_⟩)))
    rw [show pvs (ps++[p])=.list (ps.map pv++[pv p]) from congrArg O.list pv_snoc]
    exact (j3.sw.put _).sw
  obtain ⟨po,j⟩:=j
  have hb:(ps.map pv).length<=40:=by rw [List.length_map];exact po.len
  have c2:=comp_filter (μ:=μ2) (t:=false) (turn:=c371_1) V.int V.int (λu=>decide (u+1∈us)) (λz:Option V=>[none,z,some (.lst (us.map .int))]) none (L:=[none,none,some 1]) (src:=srcE (ld 1)) (ρ:=r371 i us L none none) (l:=us) (c:=none) (ok_bind rfl rfl) rfl rfl (λu m z acc hc=>⟨some (.int u),ok_bind (m:=st 1 _) rfl (emit_if (and1 (cmp_in (ok_bind rfl (ok_bind rfl rfl)) rfl in_ints)) rfl hc)⟩) hul
  have hbm:∀ u∈us.filter (λu=>decide (u+1∈us)),u∈us/\u+1∈us:=λu h=>⟨(List.mem_filter.mp h).1,of_decide_eq_true (List.mem_filter.mp h).2⟩
  have hbl:(us.filter λu=>decide (u+1∈us)).length<=20:=Nat.le_trans (List.length_filter_le ..) hl
  revert c2 hbm hbl
  generalize us.filter (λu=>decide (u+1∈us))=be
  intro c2 hbm hbl
  have hbl':(be.map V.int).length<=20:=by rw [List.length_map];exact hbl
  have fin:∀ ps y μ,PO us ps 41->H ((Ink i).s ((pt L (pvs ps)).s R)) μ->W (sq (rtS (bi false .tTuple (each [ld 3]))) (retM .next)) (λf μ' _=>Q f.val μ') X μ (r371 i us L y (some (.lst (be.map .int)))):=λps y μ po j=>W_r (ok_bind (ok_bind rfl (tuple_ref j.sw.get (len_le (n:=41) (by rw [List.length_map];exact po.len) rfl))) rfl) (k ps μ (po.more (by decide)) (j.sw.drop))
  refine W_an (c2.trans (lst_f (len_le hbl' rfl))) (W_sq (W_andcoin (cmp_ne (a:=.lst (be.map .int)) (b:=.lst []) rfl rfl (eq_data rfl rfl rfl (okV_ints 7 _) rfl)) j (λ_=>rfl) (λhc μ3 j=>?_) λμ3 j=>fin ps none μ3 (po.more (by decide)) j))
  have hbe:be≠[]:=λe=>by subst e;exact Bool.noConfusion (show false=true from hc)
  refine W_aw (W_s (a:=.lst (be.map .int)) rfl (W_bind (W_dig (many:=((be.map V.int).length:Nat)) rfl (ok_bind rfl (len_lst (len_le hbl' rfl))) j (len_pos λe=>hbe (List.map_eq_nil_iff.mp e)) (Int.le_trans (Int.ofNat_le.mpr hbl') (by decide)) λd μ4 d0 d1 j4=>?_)))
  obtain ⟨u,hu',hi⟩:=at_dig d0 d1
  obtain ⟨m1,m2⟩:=hbm u (List.mem_of_getElem? hu')
  obtain ⟨u1,u2⟩:=hu u m1
  have s1:Sm (u,u+1):=⟨u1,Int.le_trans u2 (by decide),Int.le_add_one u1,Int.le_trans (Int.add_le_add_right u2 1) (by decide)⟩
  have hmem:∀ x,u<=x->x<=u+1->x∈us:=λx h1 h2=>(Int.le_iff_eq_or_lt.mp h1).elim (λe=>e▸m1) λh=>Int.le_antisymm h2 h▸m2
  have hins:∀ p:Int×Int,Sm p->(∀ x,min p.1 p.2<=x->x<=max p.1 p.2->x∈us)->∀ μ5,H ((Ink i).s ((pt L (pvs ps)).s R)) μ5->methM (phiT tab (n+1)) (.ref L) .insert [.int 0,pv p] μ5 (r371 i us L (some (.int u)) (some (.lst (be.map .int))))=.ok .none (μ5.set L (pvs (p :: ps))) (r371 i us L (some (.int u)) (some (.lst (be.map .int))))/\W (sq (rtS (bi false .tTuple (each [ld 3]))) (retM .next)) (λf μ' _=>Q f.val μ') X (μ5.set L (pvs (p :: ps))) (r371 i us L (some (.int u)) (some (.lst (be.map .int)))):=λp hs hx μ5 j5=>
    ⟨do_insert j5.sw.get (len_le (n:=41) (Nat.succ_le_succ hb) rfl),fin _ _ _ (po.add hs hx) (j5.sw.put (pvs (p :: ps))).sw⟩
  refine W_e (idx_lst (fits_le (Int.le_trans (by decide) d0) (Int.le_trans (Int.le_of_lt d1) (Int.le_trans (Int.ofNat_le.mpr hbl') (by decide)))) hi) (W_sq (W_bind (W_s (a:=.ref L) rfl (W_s (pick_list j4.sw.get rfl) (W_bind (W_s (a:=.int 0) rfl (W_bind (W_bind (W_coin j4 (λ_=>rfl) (λμ5 j5=>W_e (ok_bind (a:=[.int (u+1),.int u]) rfl (tup_ok (by decide:2<=big))) (W_e (a:=[pv (u+1,u)]) rfl (W_e rfl (W_e (hins (u+1,u) ⟨s1.2.2.1,s1.2.2.2,s1.1,s1.2.1⟩ (λx h1 h2=>hmem x (Int.min_eq_right (Int.le_add_one (Int.le_refl u))▸h1) (Int.max_eq_left (Int.le_add_one (Int.le_refl u))▸h2)) μ5 j5).1 (hins (u+1,u) ⟨s1.2.2.1,s1.2.2.2,s1.1,s1.2.1⟩ (λx h1 h2=>hmem x (Int.min_eq_right (Int.le_add_one (Int.le_refl u))▸h1) (Int.max_eq_left (Int.le_add_one (Int.le_refl u))▸h2)) μ5 j5).2)))) λμ5 j5=>?_)))))))))
  exact W_e (ok_bind (a:=[.int u,.int (u+1)]) rfl (tup_ok (by decide:2<=big))) (W_e (a:=[pv (u,u+1)]) rfl (W_e rfl (W_e (hins (u,u+1) s1 (λx h1 h2=>hmem x (Int.min_eq_left (Int.le_add_one (Int.le_refl u))▸h1) (Int.max_eq_right (Int.le_add_one (Int.le_refl u))▸h2)) μ5 j5).1 (hins (u,u+1) s1 (λx h1 h2=>hmem x (Int.min_eq_left (Int.le_add_one (Int.le_refl u))▸h1) (Int.max_eq_right (Int.le_add_one (Int.le_refl u))▸h2)) μ5 j5).2)))
end
end
section
open PySem
noncomputable def intsO (us:List Int):O:=.list (us.map .int)
noncomputable def drO (d0:Nat) (a b:Int):O:=.list [.ref d0,.int a,.int b]
noncomputable def flags3:List (Str×Int):=[(Str.ofString "\\Seen",0),(Str.ofString "k",1),(Str.ofString "\\Deleted",2)]
noncomputable def bitAt (bits:Int) (k:Nat):Bool:=decide ((((bits / 2 ^ k).toNat &&& 1:Nat):Int)=1)
noncomputable def flagsOf (mask:Int):List Str:=(flags3.filter λp=>bitAt mask p.2.toNat).map (·.1)
theorem flagsOf_ok (mask:Int):(flagsOf mask).length<64/\∀ s∈flagsOf mask,PyData.strOk s=true:=
  ⟨Nat.lt_of_le_of_lt (by unfold flagsOf;rw [List.length_map];exact List.length_filter_le ..) (by decide:3<64),λs hs=>by
    obtain ⟨p,hp,rfl⟩:=List.mem_map.mp hs
    have:=(List.mem_filter.mp hp).1
    rcases List.mem_cons.mp this with rfl | this
    · exact of_ok "\\Seen"
    · rcases List.mem_cons.mp this with rfl | this
      · exact of_ok "k"
      · rw [List.mem_singleton.mp this];exact of_ok "\\Deleted"⟩
noncomputable def feL (e:Fe):List V:=e.al.map λp=>.tup [tx p.1,p.2]
structure FeOK (us:List Int) (spot:Int) (e:Fe):Prop where
  u:∀ u,e.u=some u->us[spot.toNat]?=some u
  f:∀ ss,e.f=some ss->ss.length<64/\∀ s∈ss,PyData.strOk s=true
  m:∀ m,e.m=some m->0<m
section
variable {n:Nat} {μ μ':List O} {ρ:List (Option V)} {X:List O->Prop} {R:Asn} {i dr d0 L:Nat} {us:List Int} {a b:Int} {t:Bool}
theorem band {x y z:Int} {m:M V} (hm:m μ ρ=.ok (.int x) μ ρ) (h0:0<=x) (h1:x<=1000) (h2:0<=y) (h3:y<=1000):cmp .Eq (op2 false .BitAnd m (retM (.int y))) (retM (.int z)) μ ρ=.ok (decide (((x.toNat &&& y.toNat:Nat):Int)=z)) μ ρ:=
  ceq (ok_bind hm (ok_bind rfl (gd_ok (by rw [decide_eq_true h0,decide_eq_true h2,fits_le (Int.le_trans (by decide) h0) (Int.le_trans h1 (by decide)),fits_le (Int.le_trans (by decide) h2) (Int.le_trans h3 (by decide))];rfl) rfl))) rfl
theorem shr {x:Int} {y:Nat} {m m':M V} (hm:m μ ρ=.ok (.int x) μ ρ) (hm':m' μ ρ=.ok (.int (y:Int)) μ ρ) (h0:0<=x) (h1:x<=1000) (h3:y<=1000):op2 t .RShift m m' μ ρ=.ok (.int (x / 2 ^ y)) μ ρ:=
  ok_bind hm (ok_bind hm' (gd_ok (by rw [decide_eq_true (Int.natCast_nonneg y),decide_eq_true (show (y:Int)<=1000 from Int.ofNat_le.mpr h3),decide_eq_true h0,fits_le (Int.le_trans (by decide) h0) (Int.le_trans h1 (by decide))];rfl) (by rw [Int.toNat_natCast];rfl)))
theorem half_le {x:Int} {y:Nat} (h0:0<=x) (h1:x<=1000):0<=x / 2 ^ y/\x / 2 ^ y<=1000:=⟨Int.ediv_nonneg h0 (Int.le_of_lt (Int.pow_pos (by decide))),Int.le_trans (Int.ediv_le_self _ h0) h1⟩
theorem bit_ok {x:Int} {y:Nat} {m m':M V} (hm:m μ ρ=.ok (.int x) μ ρ) (hm':m' μ ρ=.ok (.int (y:Int)) μ ρ) (h0:0<=x) (h1:x<=1000) (h3:y<=1000):cmp .Eq (op2 false .BitAnd (op2 false .RShift m m') (retM (.int 1))) (retM (.int 1)) μ ρ=.ok (bitAt x y) μ ρ:=band (shr hm hm' h0 h1 h3) (half_le h0 h1).1 (half_le h0 h1).2 (by decide) (by decide)
noncomputable def r376 (i dr:Nat) (s b m:Int) (z:Option V):List (Option V):=[some (.ref i),some (.ref dr),some (.int s),some (.int b),some (.int m),z]
theorem flags_comp {spot bits mask:Int} {z:Option V} (h0:0<=mask) (h1:mask<=1000):comp [none,none,none,some 4] true false (enu (each [retM lawFlags])) c376_0 μ (r376 i dr spot bits mask z)=.ok (atoms (flagsOf mask)) μ (r376 i dr spot bits mask z):=by
  have e:=comp_filter (μ:=μ) (t:=false) (turn:=c376_0) (λp:Str×Int=>V.tup [.int p.2,.str p.1]) (λp=>.atom (.str p.1)) (λp=>bitAt mask p.2.toNat) (λz:Option V×Option V=>[none,z.1,z.2,some (.int mask)]) (none,none) (L:=[none,none,none,some 4]) (src:=enu (each [retM lawFlags])) (ρ:=r376 i dr spot bits mask z) (l:=flags3) (c:=none) (ok_bind rfl rfl) rfl rfl (λp hp z acc hc=>⟨(some (.int p.2),some (.str p.1)),by
    have hp2:0<=p.2/\p.2.toNat<=2:=by
      rcases List.mem_cons.mp hp with rfl | hp
      · exact ⟨by decide,by decide⟩
      · rcases List.mem_cons.mp hp with rfl | hp
        · exact ⟨by decide,by decide⟩
        · rw [List.mem_singleton.mp hp];exact ⟨by decide,by decide⟩
    exact ok_bind (m:=stT [1,2] _) rfl (emit_if (and1 (bit_ok rfl (congrArg (λi=>Res.ok (V.int i) μ _) (Int.toNat_of_nonneg hp2.1).symm) h0 h1 (Nat.le_trans hp2.2 (by decide)))) rfl hc)⟩) (by decide:3<=big)
  rw [show ((flags3.filter λp=>bitAt mask p.2.toNat).map λp=>V.atom (.str p.1))=(flagsOf mask).map λs=>.atom (.str s) by unfold flagsOf;rw [List.map_map];rfl,lst_f (by rw [List.length_map];exact Nat.le_trans (Nat.le_of_lt (flagsOf_ok mask).1) (by decide))] at e
  exact e
theorem feL_len (e:Fe):(feL e).length<=3:=by unfold feL;rw [List.length_map];exact (al_keys e).2
theorem s376 {Q:V->List O->Prop} (h:H ((Ink i).s ((pt dr (drO d0 a b)).s ((pt d0 (intsO us)).s R))) μ) (hne:us≠[]) (hl:us.length<=20) (hb0:0<=b) (k:∀ (spot:Int) e b' μ',0<=spot->spot<us.length->FeOK us spot e->b<=b'->b'<=b+5->H ((Ink i).s ((pt dr (drO d0 a b')).s ((pt d0 (intsO us)).s R))) μ'->Q (Ans.fetch (spot+1) e).v μ'):CRw (phiT tab (n+2) 376 [.ref i,.ref dr] μ) Q X:=by
  have hul:(us.map V.int).length<=20:=by rw [List.length_map];exact hl
  refine g376 (W_sq (W_bind (W_bind (W_bind (W_dig (many:=((us.map V.int).length:Nat)) rfl (ok_bind (ok_bind (ok_bind rfl (idx_list h.sw.get (by decide) rfl)) rfl) (len_ref h.up3.get (len_le hul rfl))) h (len_pos λe=>hne (List.map_eq_nil_iff.mp e)) (Int.le_trans (Int.ofNat_le.mpr hul) (by decide)) λspot μ1 p0 p1 h1=>W_bind (W_bind (W_s (a:=.int 1) rfl (W_bind (W_dig rfl rfl h1 (by decide) (by decide) λbits μ2 q0 q1 h2=>W_e (a:=.int (1+bits)) rfl (W_bind (W_bind (W_dig rfl rfl h2 (by decide) (by decide) λmask μ3 r0 r1 h3=>?_))))))))))))
  have rest:W (p376_4 (phiT tab (n+1))) (λf μ' _=>Q f.val μ') X μ3 (r376 i dr spot (1+bits) mask none):=by
    have b0:0<=1+bits:=Int.add_nonneg (by decide) q0
    have b1:1+bits<=1000:=Int.le_trans (Int.add_le_add_left (Int.le_of_lt q1) 1) (by decide)
    have m1:mask<=1000:=Int.le_trans (Int.le_of_lt r1) (by decide)
    rw [List.length_map] at p1
    obtain ⟨u,hu⟩:∃ u,us[spot.toNat]?=some u:=⟨_,List.getElem?_eq_getElem ((Int.toNat_lt p0).mpr p1)⟩
    have hs1:spot<=1000000:=Int.le_trans (Int.le_of_lt p1) (Int.le_trans (Int.ofNat_le.mpr hl) (by decide))
    refine W_join (σ:=Option Int) (λuo μ=>(∀ u,uo=some u->us[spot.toNat]?=some u)/\H ((Ink i).s ((pt μ3.length (.list (feL ⟨uo,none,none,false⟩))).s ((pt dr (drO d0 a b)).s ((pt d0 (intsO us)).s R)))) μ) (λ_=>r376 i dr spot (1+bits) mask (some (.ref μ3.length))) (λQ' q=>W_as (W_if (band rfl b0 b1 (by decide) (by decide)) (λ_=>W_e (ok_bind (each1 (ok_bind (each2 rfl (ok_bind (ok_bind rfl (ok_bind rfl (idx_list h3.sw.get (by decide) rfl))) (ok_bind rfl (idx_list h3.up3.get (fits_le (Int.le_trans (by decide) p0) hs1) (item_int p0 (by rw [List.getElem?_map,hu];rfl)))))) (tup_ok (vs:=[_,_]) (by decide:2<=big)))) (lst_t (vs:=[_]) (by decide:1<=big))) (q (some u) _ ⟨λv e=>by cases e;exact hu,(h3.new _).sw⟩)) λ_=>W_e (lst_nil) (q none _ ⟨λv e=>(nomatch e),(h3.new _).sw⟩))) λuo μ4 j=>?_
    obtain ⟨ju,j⟩:=j
    refine W_join (σ:=Option (List Str)) (λfo μ=>(∀ ss,fo=some ss->ss.length<64/\∀ s∈ss,PyData.strOk s=true)/\H ((Ink i).s ((pt μ3.length (.list (feL ⟨uo,fo,none,false⟩))).s ((pt dr (drO d0 a b)).s ((pt d0 (intsO us)).s R)))) μ) (λ_=>r376 i dr spot (1+bits) mask (some (.ref μ3.length))) (λQ' q=>W_if (band rfl b0 b1 (by decide) (by decide)) (λ_=>W_n (ok_bind (append_ok (v:=.tup [tx "FLAGS",atoms (flagsOf mask)]) rfl (each1 (ok_bind (each2 rfl (flags_comp r0 m1)) (tup_ok (vs:=[_,_]) (by decide:2<=big)))) j.sw.get (len_le (n:=4) (by rw [List.length_append];exact Nat.succ_le_succ (feL_len _)) rfl)) rfl) (q (some (flagsOf mask)) _ ⟨λv e=>by cases e;exact flagsOf_ok mask,?_⟩)) λ_=>q none _ ⟨λv e=>(nomatch e),j⟩) λfo μ5 j=>?_
    · have:=(j.sw.put (.list (feL ⟨uo,some (flagsOf mask),none,false⟩))).sw
      rw [show feL ⟨uo,none,none,false⟩++[.tup [tx "FLAGS",atoms (flagsOf mask)]]=feL ⟨uo,some (flagsOf mask),none,false⟩ by cases uo <;> rfl]
      exact this
    obtain ⟨jf,j⟩:=j
    refine W_join (σ:=Option Int×Int) (λz μ=>((∀ m,z.1=some m->0<m)/\b<=z.2/\z.2<=b+5)/\H ((Ink i).s ((pt μ3.length (.list (feL ⟨uo,fo,z.1,false⟩))).s ((pt dr (drO d0 a z.2)).s ((pt d0 (intsO us)).s R)))) μ) (λ_=>r376 i dr spot (1+bits) mask (some (.ref μ3.length))) (λQ' q=>W_if (band rfl b0 b1 (by decide) (by decide)) (λ_=>?_) λ_=>q (none,b) _ ⟨⟨λv e=>(nomatch e),Int.le_refl b,Int.le_add_of_nonneg_right (by decide)⟩,j⟩) λz μ6 j=>?_
    · refine W_sq (W_bind (W_s (a:=.int (b+1)) (ok_bind (ok_bind rfl (ok_bind rfl (idx_list j.up3.get (by decide) rfl))) rfl) (W_bind (W_dig rfl rfl j (by decide) (by decide) λd μ6 d0' d1 j6=>?_))))
      have j7:=(j6.up3.put (drO d0 a (b+1+d))).rot
      refine W_e (a:=.int (b+1+d)) rfl (W_s (ok_bind rfl (ok_bind rfl (put_list j6.up3.get (by decide) rfl))) (W_n (ok_bind (append_ok (v:=.tup [tx "MODSEQ",.lst [.int (b+1+d)]]) rfl (each1 (ok_bind (each2 rfl (ok_bind (each1 (ok_bind rfl (ok_bind rfl (idx_list j7.up3.get (by decide) rfl)))) (lst_f (vs:=[_]) (by decide:1<=big)))) (tup_ok (vs:=[_,_]) (by decide:2<=big)))) j7.sw.get (len_le (n:=4) (by rw [List.length_append];exact Nat.succ_le_succ (feL_len _)) rfl)) rfl) (q (some (b+1+d),b+1+d) _ ⟨⟨λv e=>by cases e;exact Int.add_pos_of_pos_of_nonneg (Int.add_pos_of_nonneg_of_pos hb0 (by decide)) d0',by rw [Int.add_assoc];exact Int.le_add_of_nonneg_right (Int.add_nonneg (by decide) d0'),by rw [Int.add_assoc];exact Int.add_le_add_left (Int.add_le_add_left (Int.le_of_lt_add_one d1:d<=4) 1) b⟩,?_⟩)))
      have:=(j7.sw.put (.list (feL ⟨uo,fo,some (b+1+d),false⟩))).sw
      rw [show feL ⟨uo,fo,none,false⟩++[.tup [tx "MODSEQ",.lst [.int (b+1+d)]]]=feL ⟨uo,fo,some (b+1+d),false⟩ by cases uo <;> cases fo <;> rfl]
      exact this
    obtain ⟨⟨jm,z1,z2⟩,j⟩:=j
    have hL:=len_le (feL_len ⟨uo,fo,z.1,false⟩) rfl
    have fin:∀ r μ,H ((Ink i).s ((pt μ3.length (.list (feL ⟨uo,fo,z.1,false⟩))).s ((pt dr (drO d0 a z.2)).s ((pt d0 (intsO us)).s R)))) μ->Q (Ans.fetch (spot+1) ⟨uo,fo,z.1,r⟩).v μ:=λr μ j=>k spot ⟨uo,fo,z.1,r⟩ z.2 μ p0 p1 ⟨ju,jf,jm⟩ z1 z2 j.sw.drop
    refine W_sq (W_bind (W_bind (W_s (a:=tx "fetch") rfl (W_bind (W_s (a:=.int (spot+1)) rfl (W_bind (W_bind (W_bind (W_bind (W_coin j (λ_=>rfl) (λμ7 j=>W_e (ok_bind rfl ((back_ref j.sw.get hL).trans (lst_f (by rw [List.length_reverse];exact hL)))) (W_e (a:=[.lst (feL ⟨uo,fo,z.1,false⟩).reverse]) rfl (W_e (tuple_lst (by rw [List.length_reverse];exact hL)) ?_))) λμ7 j=>W_e (a:=.ref μ3.length) rfl (W_e (a:=[.ref μ3.length]) rfl (W_e (tuple_ref j.sw.get hL) (fin false μ7 j)))))))))))))
    rw [show (feL ⟨uo,fo,z.1,false⟩).reverse=feL ⟨uo,fo,z.1,true⟩ from List.map_reverse.symm]
    exact fin true μ7 j
  exact rest
end
end
section
open PySem
theorem some_bitAt {n:Nat} {m:Int} (h0:0<m) (h1:m<2 ^ n):∃ k,k<n/\bitAt m k=true:=by
  obtain ⟨q,rfl⟩:=Int.eq_ofNat_of_zero_le (Int.le_of_lt h0)
  obtain ⟨k,hk⟩:=Nat.exists_testBit_of_ne_zero (Nat.pos_iff_ne_zero.mp (Int.ofNat_lt.mp h0))
  have h1':q<2 ^ n:=Int.ofNat_lt.mp (by rw [Int.natCast_pow];exact h1)
  have hk2:=hk
  rw [Nat.testBit_eq_decide_div_mod_eq] at hk2
  refine ⟨k,(Nat.pow_lt_pow_iff_right (by decide)).mp (Nat.lt_of_le_of_lt (Nat.ge_two_pow_of_testBit hk) h1'),decide_eq_true ?_⟩
  rw [show (q:Int) / 2 ^ k=((q / 2 ^ k:Nat):Int) by rw [Int.natCast_ediv,Int.natCast_pow];rfl,Int.toNat_natCast,Nat.and_one_is_mod,of_decide_eq_true hk2]
  rfl
noncomputable def goneOf (us:List Int) (bits:Int):List Int:=(us.zipIdx.filter λp=>bitAt bits p.2).map (·.1)
theorem goneOf_mem {us:List Int} {bits u:Int} (h:u∈goneOf us bits):u∈us:=by
  obtain ⟨p,hp,rfl⟩:=List.mem_map.mp h
  exact List.mem_of_getElem? (List.mem_zipIdx_iff_getElem?.mp (List.mem_filter.mp hp).1)
theorem goneOf_ne {us:List Int} {bits:Int} (h0:0<bits) (h1:bits<2 ^ us.length):goneOf us bits≠[]:=by
  obtain ⟨k,hk,e⟩:=some_bitAt h0 h1
  exact List.ne_nil_of_mem (List.mem_map.mpr ⟨(us[k],k),List.mem_filter.mpr ⟨List.mem_zipIdx_iff_getElem?.mpr (List.getElem?_eq_getElem hk),e⟩,rfl⟩)
theorem goneOf_len {us:List Int} {bits:Int}:(goneOf us bits).length<=us.length:=by
  unfold goneOf
  rw [List.length_map]
  exact Nat.le_trans (List.length_filter_le ..) (Nat.le_of_eq List.length_zipIdx)
noncomputable def Deed (us:List Int) (a:Int):Ans->List Int->Int->Prop
  | .exists_ k,us',a'=>k=us'.length/\((us'=us/\a'=a)∨(us'=us++[a']/\a<a'/\a'<=8))
  | .expunge k,us',a'=>1<=k/\k<=us.length/\us'=us.take (k - 1).toNat++us.drop ((k - 1).toNat+1)/\a'=a
  | .vanished ps true,us',a'=>us'=us/\a'=a/\(∀ p∈ps,Sm p)/\ps.length<64
  | .vanished ps false,us',a'=>a'=a/\∃ gone,gone≠[]/\(∀ u∈gone,u∈us)/\us'=us.filter (λu=>!decide (u∈gone))/\PO gone ps 50
  | .fetch k e,us',a'=>us'=us/\a'=a/\1<=k/\k<=us.length/\(∀ u,e.u=some u->us[(k - 1).toNat]?=some u)/\(∀ ss,e.f=some ss->ss.length<64/\∀ s∈ss,PyData.strOk s=true)/\(∀ m,e.m=some m->0<m)
  | .other i,us',a'=>i<4/\us'=us/\a'=a
noncomputable def Old (d0:Nat) (us:List Int):Ans->Asn
  | .vanished _ false=>pt d0 (intsO us)
  | _=>emp
section
variable {n:Nat} {μ μ':List O} {ρ:List (Option V)} {X:List O->Prop} {A B R:Asn} {i dr d0 L:Nat} {us:List Int} {a b:Int} {t:Bool}
theorem H.emp4 {C:Asn} (h:H (A.s (B.s (C.s R))) μ):H (A.s (B.s (C.s (emp.s R)))) μ:=h.mono λF f=>by
  obtain ⟨X,_,e,x,Y,_,e2,y,Z,W,e3,z,w⟩:=f
  exact ⟨X,_,e,x,Y,_,e2,y,Z,_,e3,z,[],W,rfl,rfl,w⟩
theorem enum_ref {l:Nat} {vs:List V} {m:M V} (h:μ[l]?=some (.list vs)) (hm:m μ ρ=.ok (.ref l) μ ρ):enu (each [m]) μ ρ=.ok (some (l,vs),enumFrom 0 vs) μ ρ:=ok_bind (each1 hm) (by
  show rdM (λμ=>(eseqOf μ (.ref l)).map λs:Src=>((s.1,enumFrom 0 s.2):Src)) μ ρ=_
  exact rd_ok (by
    show ((listAt μ l).map λvs=>((some (l,vs),vs):Src)).map _=_
    rw [listAt_of h];rfl))
noncomputable def r381 (i dr d0:Nat) (d:Int) (x y z:Option V):List (Option V):=[some (.ref i),some (.ref dr),some (.ref d0),some (.int d),x,y,z]
theorem pow_le {n:Nat} (h:n<=8):(2:Int) ^ n<=256:=by
  have:2 ^ n<=256:=Nat.pow_le_pow_right (by decide) h
  have:=Int.ofNat_le.mpr this
  rwa [Int.natCast_pow] at this
theorem pow_ge {n:Nat} (h:1<=n):(2:Int)<=2 ^ n:=by
  have:2 ^ 1<=2 ^ n:=Nat.pow_le_pow_right (by decide) h
  have:=Int.ofNat_le.mpr this
  rwa [Int.natCast_pow] at this
theorem pow_ok {y:Nat} (h:y<=100):binM t .Pow (.int 2) (.int (y:Int)) μ ρ=.ok (.int (2 ^ y)) μ ρ:=gd_ok (by rw [decide_eq_true (Int.natCast_nonneg y),decide_eq_true (show (y:Int)<=100 from Int.ofNat_le.mpr h)];rfl) (by rw [Int.toNat_natCast];rfl)
theorem oth381 {Q:V->List O->List (Option V)->Prop} (h:H ((Ink i).s R) μ) (ho:∀ μ,ld 0 μ ρ=.ok (.ref i) μ ρ) (k:∀ j μ',j<4->H ((Ink i).s R) μ'->Q (Ans.other j).v μ' ρ):W (idx (tup [(tup [(retM (.str (Str.ofString "search"))),(tup [(retM (.int 1)),(retM (.int 2))]),(retM (.int 0))]),(tup [(retM (.str (Str.ofString "flags"))),(tup [(retM (.str (Str.ofString "k"))),(retM (.str (Str.ofString "\\Seen")))])]),(tup [(retM (.str (Str.ofString "ok"))),(retM (.str (Str.ofString "*"))),(retM .none),(retM (.str (Str.ofString "well")))]),(tup [(retM (.str (Str.ofString "list"))),(tup []),(retM (.str (Str.ofString "b")))])]) (cl (phiT tab (n+1)) 346 (each [(ld 0),(retM (.int 4))]))) Q X μ ρ:=by
  refine W_s (a:=.tup others) rfl (W_bind (W_dig (ho μ) rfl h (by decide) (by decide) λd μ2 q0 q1 h2=>?_))
  have hj:d.toNat<4:=(Int.toNat_lt q0).mpr q1
  have q:=k d.toNat μ2 hj h2
  have ho:=List.getElem?_eq_getElem (l:=others) hj
  have e:(Ans.other d.toNat).v=others[d.toNat]:=congrArg (λo=>Option.getD o V.none) ho
  rw [e] at q
  exact W_e (idx_tup (vs:=others) (fits_le (Int.le_trans (by decide) q0) (Int.le_trans (Int.le_of_lt q1) (by decide))) (item_int q0 ho)) q
theorem s381 {Q:V->List O->Prop} (h:H ((Ink i).s ((pt dr (drO d0 a b)).s ((pt d0 (intsO us)).s R))) μ) (hu:∀ u∈us,1<=u/\u<=8) (hl:us.length<=8) (ha:0<=a) (ha8:a<=8) (hb0:0<=b) (k:∀ A us' a' b' d0' μ',Deed us a A us' a'->b<=b'->b'<=b+5->H ((Ink i).s ((pt dr (drO d0' a' b')).s ((pt d0' (intsO us')).s ((Old d0 us A).s R)))) μ'->Q A.v μ'):CRw (phiT tab (n+3) 381 [.ref i,.ref dr] μ) Q X:=by
  have hul:(us.map V.int).length<=8:=by rw [List.length_map];exact hl
  have k0:∀ A us' a' b' μ',Old d0 us A=emp->Deed us a A us' a'->b<=b'->b'<=b+5->H ((Ink i).s ((pt dr (drO d0 a' b')).s ((pt d0 (intsO us')).s R))) μ'->Q A.v μ':=λA us' a' b' μ' e d h1 h2 j=>k A us' a' b' d0 μ' d h1 h2 (by rw [e];exact j.emp4)
  have b5:b<=b+5:=Int.le_add_of_nonneg_right (by decide)
  refine g381 (W_sq (W_bind (W_bind (W_s (ok_bind rfl (ok_bind rfl (idx_list h.sw.get (by decide) rfl))) (W_bind (W_bind (W_dig rfl rfl h (by decide) (by decide) λdeed μ1 p0 p1 h1=>?_)))))))
  have uidx:∀ μ ρ,H ((Ink i).s ((pt dr (drO d0 a b)).s ((pt d0 (intsO us)).s R))) μ->ld 1 μ ρ=.ok (.ref dr) μ ρ->idx (ld 1) (retM (.int 1)) μ ρ=.ok (.int a) μ ρ:=λμ ρ j e=>ok_bind e (ok_bind rfl (idx_list j.sw.get (by decide) rfl))
  have ulen:∀ (μ:List O) ρ,H ((Ink i).s ((pt dr (drO d0 a b)).s ((pt d0 (intsO us)).s R))) μ->ld 2 μ ρ=.ok (.ref d0) μ ρ->bi false .len (each [ld 2]) μ ρ=.ok (.int (us.map V.int).length) μ ρ:=λμ ρ j e=>ok_bind (each1 e) (len_ref j.up3.get (len_le hul rfl))
  -- some uids vanish
  have s8:us≠[]->W (p381_8 (phiT tab (n+2))) (λf μ' _=>Q f.val μ') X μ1 (r381 i dr d0 deed none none none):=λhne=>by
    have n1:1<=us.length:=List.length_pos_iff.mpr hne
    have p1:=pow_ge n1
    have p2:=pow_le hl
    refine W_aw (W_s (a:=.int 1) rfl (W_bind (W_dig (many:=2 ^ us.length - 1) rfl (ok_bind (ok_bind rfl (ok_bind (ulen _ _ h1 rfl) (by rw [List.length_map];exact pow_ok (Nat.le_trans hl (by decide))))) rfl) h1 (Int.le_sub_right_of_add_le (show (1:Int)+1<=2 ^ us.length from p1)) (Int.le_trans (Int.sub_le_self _ (by decide)) (Int.le_trans p2 (by decide))) λd μ2 q0 q1 h2=>?_)))
    have b0:0<1+d:=Int.add_pos_of_pos_of_nonneg (by decide) q0
    have b1:1+d<2 ^ us.length:=Int.add_lt_of_lt_sub_left q1
    have hz:us.zipIdx.length<=big:=by rw [List.length_zipIdx];exact Nat.le_trans hl (by decide)
    have c4:=comp_filter (μ:=μ2) (t:=false) (turn:=c381_4) (λp:Int×Nat=>V.tup [.int (p.2:Nat),.int p.1]) (λp=>V.int p.1) (λp=>bitAt (1+d) p.2) (λz:Option V×Option V=>[none,z.1,z.2,some (.int (1+d))]) (none,none) (L:=[none,none,none,some 5]) (src:=enu (each [ld 2])) (ρ:=r381 i dr d0 deed none (some (.int (1+d))) none) (l:=us.zipIdx) ((enum_ref h2.up3.get rfl).trans (congrArg (λl=>Res.ok ((some (d0,us.map V.int),l):Src) μ2 _) (enum_map V.int us 0))) (still_at h2.up3.get) rfl (λp hp z acc hc=>⟨(some (.int (p.2:Nat)),some (.int p.1)),ok_bind (m:=stT [1,2] _) rfl (emit_if (and1 (bit_ok rfl rfl (Int.le_of_lt b0) (Int.le_trans (Int.le_of_lt b1) (Int.le_trans p2 (by decide))) (Nat.le_trans (Nat.le_of_lt (List.getElem?_eq_some_iff.mp (List.mem_zipIdx_iff_getElem?.mp hp)).1) (Nat.le_trans hl (by decide))))) rfl hc)⟩) hz
    rw [show ((us.zipIdx.filter λp=>bitAt (1+d) p.2).map λp=>V.int p.1)=(goneOf us (1+d)).map .int by unfold goneOf;rw [List.map_map];rfl,lst_f (by rw [List.length_map];exact Nat.le_trans goneOf_len (Nat.le_trans hl (by decide)))] at c4
    have gm:∀ u∈goneOf us (1+d),u∈us:=λu m=>goneOf_mem m
    have gn:=goneOf_ne b0 b1
    have gl:(goneOf us (1+d)).length<=us.length:=goneOf_len
    revert c4 gm gn gl
    generalize goneOf us (1+d)=gone
    intro c4 gm gn gl
    have c5:=comp_filter (μ:=μ2) (t:=true) (turn:=c381_5) V.int V.int (λu=>!decide (u∈gone)) (λz:Option V=>[none,z,some (.lst (gone.map .int))]) none (L:=[none,none,some 6]) (src:=srcE (ld 2)) (ρ:=r381 i dr d0 deed none (some (.int (1+d))) (some (.lst (gone.map .int)))) (l:=us) (ok_bind rfl (src_ref h2.up3.get)) (still_at h2.up3.get) rfl (λu m z acc hc=>⟨some (.int u),ok_bind (m:=st 1 _) rfl (emit_if (and1 (cmp_nin rfl rfl in_ints)) rfl hc)⟩) (Nat.le_trans hl (by decide))
    have j:=((h2.new (intsO (us.filter λu=>!decide (u∈gone)))).up3.put (drO μ2.length a b)).up3
    refine W_an c4 (W_n (ok_bind (c5.trans (lst_t (by rw [List.length_map];exact Nat.le_trans (List.length_filter_le ..) (Nat.le_trans hl (by decide))))) (ok_bind (ok_bind rfl (ok_bind rfl (put_list (h2.new (intsO (us.filter λu=>!decide (u∈gone)))).up3.get (by decide) rfl))) rfl)) (W_sq (W_bind (W_bind (W_s (a:=tx "vanished") rfl (W_bind (W_bind (W_cl rfl (s371 j (λu m=>⟨(hu u (gm u m)).1,Int.le_trans (hu u (gm u m)).2 (by decide)⟩) gn (Nat.le_trans gl (Nat.le_trans hl (by decide))) λps μ3 po j3=>?_)))))))))
    exact k (.vanished ps false) _ a b _ μ3 ⟨rfl,gone,gn,gm,rfl,po⟩ (Int.le_refl b) b5 j3
  -- a letter goes
  have s10:us≠[]->W (p381_10 (phiT tab (n+2))) (λf μ' _=>Q f.val μ') X μ1 (r381 i dr d0 deed none none none):=λhne=>by
    refine W_sq (W_if (ceq rfl rfl) (λ_=>W_aw (W_dig (many:=((us.map V.int).length:Nat)) rfl (ulen _ _ h1 rfl) h1 (len_pos λe=>hne (List.map_eq_nil_iff.mp e)) (Int.le_trans (Int.ofNat_le.mpr hul) (by decide)) λspot μ2 q0 q1 h2=>?_)) λ_=>W_sq (W_if (c:=decide (3<deed)) rfl (λ_=>W_sq (W_bind (W_cl rfl (s376 h1 hne (Nat.le_trans hl (by decide)) hb0 λspot e b' μ2 q0 q1 fe e1 e2 j=>?_)))) λ_=>s8 hne))
    · obtain ⟨u,hu1,hi⟩:=at_dig q0 q1
      rw [List.length_map] at q1
      have sp:spot+1<=us.length:=q1
      refine W_n (ok_bind (ok_bind rfl (ok_bind (pick_list h2.up3.get rfl) (ok_bind rfl (do_pop h2.up3.get (len_le hul rfl) q0 (Int.le_trans (Int.le_of_lt q1) (Int.le_trans (Int.ofNat_le.mpr hl) (by decide))) (by rw [List.getElem?_map,hu1];rfl))))) rfl) (W_r (ok_bind (ok_bind (each2 rfl rfl) (tup_ok (vs:=[tx "expunge",.int (spot+1)]) (by decide:2<=big))) rfl) (k0 (.expunge (spot+1)) (us.take spot.toNat++us.drop (spot.toNat+1)) a b _ rfl ⟨Int.le_add_of_nonneg_left q0,sp,by rw [Int.add_sub_cancel],rfl⟩ (Int.le_refl b) b5 ?_))
      rw [show intsO (us.take spot.toNat++us.drop (spot.toNat+1))=.list (eraseAt (us.map V.int) spot.toNat) by unfold eraseAt intsO;rw [List.map_append,List.map_take,List.map_drop]]
      exact (h2.up3.put _).rot
    · exact k0 (.fetch (spot+1) e) us a b' μ2 rfl ⟨rfl,rfl,Int.le_add_of_nonneg_left q0,q1,by rw [Int.add_sub_cancel];exact fe.u,fe.f,fe.m⟩ e1 e2 j
  -- letters come
  have s1:W (p381_1 (phiT tab (n+2))) (λf μ ρ=>W (seqFl (p381_10 (phiT tab (n+2))) f) (λf μ' _=>Q f.val μ') X μ ρ) X μ1 (r381 i dr d0 deed none none none):=by
    have fin:∀ us' a' μ',us'.length<=9->Deed us a (.exists_ us'.length) us' a'->H ((Ink i).s ((pt dr (drO d0 a' b)).s ((pt d0 (intsO us')).s R))) μ'->W (sq (rtS (tup [retM (tx "exists"),bi false .len (each [ld 2])])) (retM .next)) (λf μ ρ=>W (seqFl (p381_10 (phiT tab (n+2))) f) (λf μ' _=>Q f.val μ') X μ ρ) X μ' (r381 i dr d0 deed none none none):=λus' a' μ' hl' d j=>W_r (ok_bind (ok_bind (each2 rfl (ok_bind rfl (len_ref j.up3.get (len_le (n:=9) (by rw [List.length_map];exact hl') rfl)))) (tup_ok (vs:=[tx "exists",.int (us'.map V.int).length]) (by decide:2<=big))) rfl) (by
      rw [List.length_map]
      exact k0 (.exists_ us'.length) us' a' b μ' rfl d (Int.le_refl b) b5 j)
    refine W_sq (W_andcoin (c:=decide (a<8)) (ok_bind (uidx _ _ h1 rfl) rfl) h1 (λ_=>rfl) (λc μ2 h2=>?_) λμ2 h2=>fin us a μ2 (Nat.le_succ_of_le hl) ⟨rfl,.inl ⟨rfl,rfl⟩⟩ h2)
    have c:=of_decide_eq_true c
    refine W_sq (W_bind (W_s (a:=.int (a+1)) (ok_bind (uidx _ _ h2 rfl) rfl) (W_bind (W_dig (many:=8 - a) rfl (ok_bind rfl (ok_bind (uidx _ _ h2 rfl) rfl)) h2 (Int.le_sub_left_of_add_le c) (Int.le_trans (Int.sub_le_self 8 ha) (by decide)) λd μ3 q0 q1 h3=>?_))))
    have j1:=(h3.sw.put (drO d0 (a+1+d) b)).sw
    have j2:=(j1.up3.put (.list (us.map V.int++[.int (a+1+d)]))).rot
    refine W_e (a:=.int (a+1+d)) rfl (W_s (ok_bind rfl (ok_bind rfl (put_list h3.sw.get (by decide) rfl))) (W_n (ok_bind (append_ok rfl (each1 (ok_bind rfl (ok_bind rfl (idx_list j1.sw.get (by decide) rfl)))) j1.up3.get (len_le (n:=9) (by rw [List.length_append];exact Nat.succ_le_succ hul) rfl)) rfl) (fin (us++[a+1+d]) (a+1+d) _ (by rw [List.length_append];exact Nat.succ_le_succ hl) ⟨rfl,.inr ⟨rfl,?_,?_⟩⟩ ?_)))
    · rw [Int.add_assoc];exact Int.lt_add_of_pos_right a (Int.add_pos_of_pos_of_nonneg (by decide) q0)
    · rw [Int.add_right_comm];exact Int.add_comm d a▸Int.add_lt_of_lt_sub_right q1
    · unfold intsO
      rw [List.map_append]
      exact j2
  -- the other ways
  have s13:W (p381_13 (phiT tab (n+2))) (λf μ' _=>Q f.val μ') X μ1 (r381 i dr d0 deed none none none):=by
    refine W_sq (W_if (ceq rfl rfl) (λ_=>?_) λ_=>W_sq (W_if (ceq rfl rfl) (λ_=>?_) λ_=>W_sq (W_if (or_ok (ceq rfl rfl) (or1 (ok_bind rfl (ok_bind (a:=.lst []) rfl (eq_list h1.up3.get (okV_ints 7 us) rfl))))) (λ_=>s1) λc=>s10 λe=>?_)))
    · refine W_sq (W_bind (W_bind (W_s (a:=tx "vanished") rfl (W_bind (W_bind (W_bind (W_bind (W_bind (W_s (a:=.int 1) rfl (W_bind (W_bind (W_s (a:=.int 1) rfl (W_bind (W_dig rfl rfl h1 (by decide) (by decide) λd μ2 q0 q1 h2=>?_))))))))))))))
      have d1:1+d<=100:=Int.le_trans (Int.add_le_add_left (Int.le_of_lt q1) 1) (by decide)
      exact k0 (.vanished [(1,1+d),(2,2)] true) us a b μ2 rfl ⟨rfl,rfl,λp m=>(List.mem_cons.mp m).elim (λe=>e▸⟨(by decide:(1:Int)<=1),(by decide:(1:Int)<=100),Int.le_add_of_nonneg_right q0,d1⟩) λm=>List.mem_singleton.mp m▸⟨by decide,by decide,by decide,by decide⟩,(by decide:2<64)⟩ (Int.le_refl b) b5 h2
    · exact W_sq (W_bind (oth381 h1 (λ_=>rfl) λj μ2 hj h2=>k0 (.other j) us a b μ2 rfl ⟨hj,rfl,rfl⟩ (Int.le_refl b) b5 h2))
    · exact of_decide_eq_false (Bool.or_eq_false_iff.mp c).2 (by rw [e];rfl)
  exact s13
end
end
section
open PySem
noncomputable def kn (us ts:List Int):List (Int×Int):=(us.zipIdx.filter λp=>decide (p.1∈ts)).map λp=>(((p.2:Nat):Int),p.1)
theorem kn_mem {us ts:List Int} {p u:Int}:(p,u)∈kn us ts↔0<=p/\us[p.toNat]?=some u/\u∈ts:=by
  unfold kn
  rw [List.mem_map]
  constructor
  · rintro ⟨q,h,e⟩
    obtain ⟨h1,h2⟩:=List.mem_filter.mp h
    obtain ⟨rfl,rfl⟩:=Prod.mk.inj e
    exact ⟨Int.natCast_nonneg _,by rw [Int.toNat_natCast];exact List.mem_zipIdx_iff_getElem?.mp h1,of_decide_eq_true h2⟩
  · exact λ⟨h0,h1,h2⟩=>⟨(u,p.toNat),List.mem_filter.mpr ⟨List.mem_zipIdx_iff_getElem?.mpr h1,decide_eq_true h2⟩,Prod.ext (Int.toNat_of_nonneg h0) rfl⟩
theorem zip_pw {α:Type}:∀ (l:List α) (k:Nat),(l.zipIdx k).Pairwise (λa b=>a.2<b.2)
  | [],_=>.nil
  | a :: l,k=>.cons (λp hp=>List.le_snd_of_mem_zipIdx hp) (zip_pw l (k+1))
theorem kn_last {us ts:List Int} {l:List (Int×Int)} {q:Int×Int} (h:kn us ts=l++[q]) (p u:Int) (hm:(p,u)∈kn us ts):p<=q.1:=by
  have pw:(kn us ts).Pairwise (λa b=>a.1<b.1):=by
    unfold kn
    rw [List.pairwise_map]
    exact ((zip_pw us 0).filter _).imp Int.ofNat_lt.mpr
  rw [h] at pw hm
  exact (List.mem_append.mp hm).elim (λhm=>Int.le_of_lt ((List.pairwise_append.mp pw).2.2 _ hm q List.mem_cons_self)) λhm=>List.mem_singleton.mp hm▸Int.le_refl _
theorem kn_len (us ts:List Int):(kn us ts).length<=us.length:=by
  unfold kn
  rw [List.length_map]
  exact Nat.le_trans (List.length_filter_le ..) (Nat.le_of_eq List.length_zipIdx)
noncomputable def UnA (m:Int) (ks:List (Int×Int)):Ans->Prop
  | .expunge k=>k=m+1∨k=0∨k=m+2
  | .exists_ k=>0<=k/\k<m
  | .fetch k e=>(e=⟨none,some [],none,false⟩/\(k=m+1∨k=0))∨∃ p u o,e=⟨some o,none,none,false⟩/\(p,u)∈ks/\1<=k/\k<=m/\1<=o/\o<=20/\((k - 1<p/\u<=o)∨(p<k - 1/\o<=u)∨(k - 1=p/\u<o))
  | .vanished ps e=>e=false/\((∃ p u v,ps=[(u+1,u+1)]/\(p,u)∈ks/\(p+1,v)∈ks/\(p+1,u+1)∉ks) ∨
      (∃ last behind,ps=[(last+1+behind,last+1)]/\0<=last/\last<=8/\0<=behind/\behind<=8/\((ks=[]/\last=0/\behind=m)∨∃ p,(p,last)∈ks/\behind=m - 1 - p/\∀ q v,(q,v)∈ks->q<=p)))
  | .other _=>False
noncomputable def Untrue (us ts:List Int):Ans->Prop:=UnA us.length (kn us ts)
theorem pv_inj {a b:Int×Int} (h:pv a=pv b):a=b:=by
  have h1:=List.cons.inj (V.tup.inj h)
  exact Prod.ext (V.int.inj h1.1) (V.int.inj (List.cons.inj h1.2).1)
section
variable {n:Nat} {μ μ':List O} {ρ:List (Option V)} {X:List O->Prop} {R:Asn} {i d0 t:Nat} {us ts:List Int}
theorem in_pv {p:Int×Int} {l:List (Int×Int)}:inV μ (pv p) (.lst (l.map pv))=some (decide (p∈l)):=by
  show (if okV 8 (pv p)&&(l.map pv).all (okV 8) then some (decide (pv p∈l.map pv)) else none)=_
  rw [all_map (p:=okV 8) (f:=pv) (l:=l) λ_ _=>rfl]
  exact congrArg some (decide_eq_decide.mpr ⟨λm=>by obtain ⟨q,hq,e⟩:=List.mem_map.mp m;exact pv_inj e▸hq,List.mem_map_of_mem⟩)
noncomputable def r386 (i d0 t:Nat) (ks:List (Int×Int)) (d m:Int):List (Option V):=[some (.ref i),some (.ref d0),some (.ref t),none,none,some (.lst (ks.map pv)),some (.int d),some (.int m),none,none,none,none,none,none]
theorem tri {d:Int} (h0:0<=d) (h1:d<3):d=0∨d=1∨d=2:=by lia
theorem u386 {Q:V->List O->Prop} {d m:Int} {ks:List (Int×Int)} (h:H ((Ink i).s R) μ) (hm0:0<=m) (hm8:m<=8) (hku:∀ p u,(p,u)∈ks->0<=p/\p<m/\1<=u/\u<=8) (hlast:∀ l q,ks=l++[q]->∀ p u,(p,u)∈ks->p<=q.1) (hkl:ks.length<=8) (k:∀ A μ',UnA m ks A->H ((Ink i).s R) μ'->Q A.v μ'):W (p386_13 (phiT tab (n+1))) (λf μ' _=>Q f.val μ') X μ (r386 i d0 t ks d m):=by
  have hkb:(ks.map pv).length<=8:=by rw [List.length_map];exact hkl
  have okn:(ks.map pv).all (okV 7)=true:=all_map λ_ _=>rfl
  have hne:∀ {μ:List O} {ρ:List (Option V)},ld 5 μ ρ=.ok (.lst (ks.map pv)) μ ρ->cmp .NotEq (ld 5) (lst false []) μ ρ=.ok (!decide (V.lst (ks.map pv)=V.lst [])) μ ρ:=λe=>cmp_ne e (b:=.lst []) rfl (eq_data rfl rfl rfl (okV_lst okn) rfl)
  have nn:(!decide (V.lst (ks.map pv)=V.lst []))=true->ks≠[]:=λh e=>by rw [e] at h;exact Bool.noConfusion (show false=true from h)
  have m1:m+2<=1000000:=Int.le_trans (Int.add_le_add_right hm8 2) (by decide)
  -- beside what is known
  have w9:W (p386_9 (phiT tab (n+1))) (λf μ' _=>Q f.val μ') X μ (r386 i d0 t ks d m):=by
    have c4:=λρ (h3:ld 3 μ ρ=.ok (.lst (ks.map pv)) μ ρ)=>comp_map (μ:=μ) (t:=false) (turn:=c386_4) pv (λp=>V.int p.1) (λz:Option V=>[none,z]) none (L:=[none,none]) (src:=srcE (ld 3)) (ρ:=ρ) (l:=ks) (c:=none) (ok_bind h3 rfl) rfl rfl (λp hp z acc hc=>⟨some (pv p),ok_bind (m:=st 1 _) rfl (ok_bind (ok_bind rfl rfl) (emit_ok hc))⟩) (Nat.le_trans hkl (by decide))
    rw [show (ks.map λp=>V.int p.1)=(ks.map (·.1)).map .int by rw [List.map_map];rfl,] at c4
    have c5:=comp_filter (μ:=μ) (t:=false) (turn:=c386_5) pv (λp=>V.int (p.2+1)) (λp=>decide (p.1+1∈ks.map (·.1))&&!decide ((p.1+1,p.2+1)∈ks)) (λz:Option V×Option V=>[none,z.1,z.2,some (.lst (ks.map pv))]) (none,none) (L:=[none,none,none,some 5]) (src:=srcE (ld 5)) (ρ:=r386 i d0 t ks d m) (l:=ks) (c:=none) (ok_bind rfl rfl) rfl rfl (λp hp z acc hc=>⟨(some (.int p.1),some (.int p.2)),ok_bind (m:=stT [1,2] _) rfl (emit_if (and1 (and_ok (cmp_in (ok_bind rfl rfl) ((c4 _ rfl).trans (lst_f (by rw [List.length_map,List.length_map];exact Nat.le_trans hkl (by decide)))) in_ints) (and1 (cmp_nin (a:=pv (p.1+1,p.2+1)) (ok_bind (each2 (ok_bind rfl rfl) (ok_bind rfl rfl)) (tup_ok (vs:=[_,_]) (by decide:2<=big))) rfl in_pv)))) (ok_bind rfl rfl) hc)⟩) (Nat.le_trans hkl (by decide))
    rw [show ((ks.filter λp=>decide (p.1+1∈ks.map (·.1))&&!decide ((p.1+1,p.2+1)∈ks)).map λp=>V.int (p.2+1))=((ks.filter λp=>decide (p.1+1∈ks.map (·.1))&&!decide ((p.1+1,p.2+1)∈ks)).map (·.2+1)).map .int by rw [List.map_map];rfl] at c5
    have hbt:∀ x∈(ks.filter λp=>decide (p.1+1∈ks.map (·.1))&&!decide ((p.1+1,p.2+1)∈ks)).map (·.2+1),∃ p u v,x=u+1/\(p,u)∈ks/\(p+1,v)∈ks/\(p+1,u+1)∉ks:=λx hx=>by
      obtain ⟨q,hq,rfl⟩:=List.mem_map.mp hx
      obtain ⟨h1,h2⟩:=List.mem_filter.mp hq
      obtain ⟨h3,h4⟩:=Bool.and_eq_true_iff.mp h2
      obtain ⟨w,hw,e⟩:=List.mem_map.mp (of_decide_eq_true h3)
      exact ⟨q.1,q.2,w.2,rfl,h1,e▸hw,of_decide_eq_false (Bool.not_eq_true' _▸h4)⟩
    have hbl:((ks.filter λp=>decide (p.1+1∈ks.map (·.1))&&!decide ((p.1+1,p.2+1)∈ks)).map (·.2+1)).length<=8:=by rw [List.length_map];exact Nat.le_trans (List.length_filter_le ..) hkl
    revert c5 hbt hbl
    generalize (ks.filter λp=>decide (p.1+1∈ks.map (·.1))&&!decide ((p.1+1,p.2+1)∈ks)).map (·.2+1)=be
    intro c5 hbt hbl
    have hbl':(be.map V.int).length<=8:=by rw [List.length_map];exact hbl
    have w7:∀ μ',H ((Ink i).s R) μ'->W p386_7 (λf μ' _=>Q f.val μ') X μ' ((r386 i d0 t ks d m).set 11 (some (.lst (be.map .int)))):=λμ' j=>by
      have fin:∀ last behind,0<=last->last<=8->0<=behind->behind<=8->((ks=[]/\last=0/\behind=m)∨∃ p,(p,last)∈ks/\behind=m - 1 - p/\∀ q v,(q,v)∈ks->q<=p)->Q (Ans.vanished [(last+1+behind,last+1)] false).v μ':=λlast behind l0 l8 b0 b8 c=>k _ μ' ⟨rfl,.inr ⟨last,behind,rfl,l0,l8,b0,b8,c⟩⟩ j
      rcases nil_or_snoc ks with rfl | ⟨l,q,rfl⟩
      · exact W_n (ok_bind (ok_f (tst (hne rfl) rfl) (ok_bind (each2 rfl rfl) (tup_ok (vs:=[_,_]) (by decide:2<=big)))) rfl) (fin 0 m (by decide) (by decide) hm0 hm8 (.inl ⟨rfl,rfl,rfl⟩))
      · obtain ⟨p0,pm,u1,u8⟩:=hku q.1 q.2 (List.mem_append_right _ List.mem_cons_self)
        have hi:∀ ρ,ld 5 μ' ρ=.ok (.lst ((l++[q]).map pv)) μ' ρ->idx (ld 5) (bindM (retM (.int 1)) (unM .USub)) μ' ρ=.ok (pv q) μ' ρ:=λρ e=>ok_bind e (ok_bind rfl (idx_lst (by decide) (by rw [pv_snoc];exact itemAt_last _ _)))
        refine W_n (ok_bind (ok_t (tst (hne rfl) (by rw [decide_eq_false λe=>by cases l <;> exact nomatch V.lst.inj e];rfl)) (ok_bind (each2 (ok_bind (hi _ rfl) rfl) (ok_bind (ok_bind rfl rfl) (ok_bind (ok_bind (hi _ rfl) rfl) rfl))) (tup_ok (vs:=[.int q.2,.int (m - 1 - q.1)]) (by decide:2<=big)))) rfl) (fin q.2 (m - 1 - q.1) (Int.le_trans (by decide) u1) u8 (Int.sub_nonneg_of_le (Int.le_sub_one_of_lt pm)) (Int.le_trans (Int.sub_le_self _ p0) (Int.le_trans (Int.sub_le_self m (by decide)) hm8)) (.inr ⟨q.1,List.mem_append_right _ List.mem_cons_self,rfl,λp v hm=>hlast l q rfl p v hm⟩))
    refine W_an (c5.trans (lst_f (len_le hbl' rfl))) (W_sq (W_andcoin (cmp_ne (a:=.lst (be.map .int)) (b:=.lst []) rfl rfl (eq_data rfl rfl rfl (okV_ints 7 _) rfl)) h (λ_=>rfl) (λhc μ3 j=>?_) λμ3 j=>w7 μ3 j))
    have hbe:be≠[]:=λe=>by subst e;exact Bool.noConfusion (show false=true from hc)
    refine W_aw (W_s (a:=.lst (be.map .int)) rfl (W_bind (W_dig (many:=((be.map V.int).length:Nat)) rfl (ok_bind rfl (len_lst (len_le hbl' rfl))) j (len_pos λe=>hbe (List.map_eq_nil_iff.mp e)) (Int.le_trans (Int.ofNat_le.mpr hbl') (by decide)) λe μ4 d0 d1 j4=>?_)))
    obtain ⟨x,hx,hi⟩:=at_dig d0 d1
    obtain ⟨p,u,v,rfl,g1,g2,g3⟩:=hbt x (List.mem_of_getElem? hx)
    exact W_e (idx_lst (fits_le (Int.le_trans (by decide) d0) (Int.le_trans (Int.le_of_lt d1) (Int.le_trans (Int.ofNat_le.mpr hbl') (by decide)))) hi) (k (.vanished [(u+1,u+1)] false) μ4 ⟨rfl,.inl ⟨p,u,v,rfl,g1,g2,g3⟩⟩ j4)
  refine W_sq (W_if (ceq rfl rfl) (λ_=>?_) λ_=>W_sq (W_if (and_ok (ceq rfl rfl) (and1 (a:=decide (0<m)) (ok_bind rfl rfl))) (λc=>?_) λ_=>W_sq (W_if (and_ok (ceq rfl rfl) (and1 (hne rfl))) (λc=>?_) λ_=>W_sq (W_if (ceq rfl rfl) (λ_=>?_) λ_=>w9))))
  · refine W_sq (W_bind (W_bind (W_s (a:=tx "expunge") rfl (W_bind (W_bind (W_s (a:=.tup [.int (m+1),.int 0,.int (m+2)]) (ok_bind (each3 (ok_bind rfl rfl) rfl (ok_bind rfl rfl)) (tup_ok (vs:=[_,_,_]) (by decide:3<=big))) (W_bind (W_dig rfl rfl h (by decide) (by decide) λd μ2 q0 q1 h2=>?_))))))))
    rcases tri q0 q1 with rfl | rfl | rfl
    · exact W_e (idx_tup (v:=.int (m+1)) (by decide) rfl) (k (.expunge (m+1)) μ2 (.inl rfl) h2)
    · exact W_e (idx_tup (v:=.int 0) (by decide) rfl) (k (.expunge 0) μ2 (.inr (.inl rfl)) h2)
    · exact W_e (idx_tup (v:=.int (m+2)) (by decide) rfl) (k (.expunge (m+2)) μ2 (.inr (.inr rfl)) h2)
  · exact W_sq (W_bind (W_bind (W_s (a:=tx "exists") rfl (W_bind (W_bind (W_dig rfl rfl h (of_decide_eq_true (Bool.and_eq_true_iff.mp c).2) (Int.le_trans hm8 (by decide)) λd μ2 q0 q1 h2=>k (.exists_ d) μ2 ⟨q0,q1⟩ h2))))))
  · have hks:=nn (Bool.and_eq_true_iff.mp c).2
    refine W_sq (W_bind (W_s (a:=.lst (ks.map pv)) rfl (W_bind (W_dig (many:=((ks.map pv).length:Nat)) rfl (ok_bind rfl (len_lst (len_le hkb rfl))) h (len_pos λe=>hks (List.map_eq_nil_iff.mp e)) (Int.le_trans (Int.ofNat_le.mpr hkb) (by decide)) λd μ2 q0 q1 h2=>?_))))
    obtain ⟨⟨p,u⟩,hp,hi⟩:=at_dig q0 q1
    have mp:=List.mem_of_getElem? hp
    obtain ⟨p0,pm,u1,u8⟩:=hku p u mp
    refine W_e (idx_lst (fits_le (Int.le_trans (by decide) q0) (Int.le_trans (Int.le_of_lt q1) (Int.le_trans (Int.ofNat_le.mpr hkb) (by decide)))) hi) (W_s (m:=stT [8,4] (pv (p,u))) rfl (W_sq (W_bind (W_bind (W_bind (W_dig rfl rfl h2 (Int.lt_of_le_of_lt p0 pm) (Int.le_trans hm8 (by decide)) λs μ3 s0 s1 h3=>W_bind (W_bind (W_dig rfl rfl h3 (by decide) (by decide) λa μ4 a0 a1 h4=>?_))))))))
    have fin:∀ o,1<=o->o<=20->((s<p/\u<=o)∨(p<s/\o<=u)∨(s=p/\u<o))->Q (Ans.fetch (s+1) ⟨some o,none,none,false⟩).v μ4:=λo o1 o2 c=>k _ μ4 (.inr ⟨p,u,o,rfl,mp,Int.le_add_of_nonneg_left s0,s1,o1,o2,by rw [Int.add_sub_cancel];exact c⟩) h4
    refine W_sq (W_as (W_if (c:=decide (s<p)) (ok_bind rfl rfl) (λc=>?_) λc=>W_if (c:=decide (p<s)) (ok_bind rfl rfl) (λc2=>?_) λc2=>?_))
    · exact fin (u+a) (Int.le_trans u1 (Int.le_add_of_nonneg_right a0)) (Int.le_trans (Int.add_le_add u8 (Int.le_of_lt a1)) (by decide)) (.inl ⟨of_decide_eq_true c,Int.le_add_of_nonneg_right a0⟩)
    · refine W_e (ok_bind (each2 rfl (ok_bind rfl rfl)) max2) (fin (max 1 (u - a)) (Int.le_max_left ..) (Int.max_le.mpr ⟨by decide,Int.le_trans (Int.sub_le_self u a0) (Int.le_trans u8 (by decide))⟩) (.inr (.inl ⟨of_decide_eq_true c2,Int.max_le.mpr ⟨u1,Int.sub_le_self u a0⟩⟩)))
    · exact fin (u+1+a) (Int.le_trans (Int.le_trans u1 (Int.le_add_of_nonneg_right (by decide))) (Int.le_add_of_nonneg_right a0)) (Int.le_trans (Int.add_le_add (Int.add_le_add_right u8 1) (Int.le_of_lt a1)) (by decide)) (.inr (.inr ⟨Int.le_antisymm (Int.not_lt.mp (of_decide_eq_false c2)) (Int.not_lt.mp (of_decide_eq_false c)),Int.lt_of_lt_of_le (Int.lt_succ u) (Int.le_add_of_nonneg_right a0)⟩))
  · refine W_sq (W_bind (W_bind (W_s (a:=tx "fetch") rfl (W_bind (W_bind (W_s (a:=.tup [.int (m+1),.int 0]) (ok_bind (each2 (ok_bind rfl rfl) rfl) (tup_ok (vs:=[_,_]) (by decide:2<=big))) (W_bind (W_dig rfl rfl h (by decide) (by decide) λd μ2 q0 q1 h2=>?_))))))))
    rcases tri q0 (Int.lt_trans q1 (by decide)) with rfl | rfl | rfl
    · exact W_e (idx_tup (v:=.int (m+1)) (by decide) rfl) (k (.fetch (m+1) ⟨none,some [],none,false⟩) μ2 (.inl ⟨rfl,.inl rfl⟩) h2)
    · exact W_e (idx_tup (v:=.int 0) (by decide) rfl) (k (.fetch 0 ⟨none,some [],none,false⟩) μ2 (.inl ⟨rfl,.inr rfl⟩) h2)
    · exact absurd q1 (by decide)
theorem s386 {Q:V->List O->Prop} (h:H ((Ink i).s ((pt d0 (intsO us)).s ((pt t (toldO ts)).s R))) μ) (hu:∀ u∈us,1<=u/\u<=8) (hl:us.length<=8) (k:∀ A μ',Untrue us ts A->H ((Ink i).s ((pt d0 (intsO us)).s ((pt t (toldO ts)).s R))) μ'->Q A.v μ'):CRw (phiT tab (n+2) 386 [.ref i,.ref d0,.ref t] μ) Q X:=by
  have hul:(us.map V.int).length<=8:=by rw [List.length_map];exact hl
  have hkl:=Nat.le_trans (kn_len us ts) hl
  have c1:=comp_filter (μ:=μ) (t:=false) (turn:=c386_0) (λp:Int×Nat=>V.tup [.int (p.2:Nat),.int p.1]) (λp=>pv (((p.2:Nat):Int),p.1)) (λp=>decide (p.1∈ts)) (λz:Option V×Option V=>[none,z.1,z.2,some (.ref t)]) (none,none) (L:=[none,none,none,some 2]) (src:=enu (each [ld 1])) (ρ:=[some (.ref i),some (.ref d0),some (.ref t),none,none,none,none,none,none,none,none,none,none,none]) (l:=us.zipIdx) ((enum_ref h.sw.get rfl).trans (congrArg (λl=>Res.ok ((some (d0,us.map V.int),l):Src) μ _) (enum_map V.int us 0))) (still_at h.sw.get) rfl (λp hp z acc hc=>⟨(some (.int (p.2:Nat)),some (.int p.1)),ok_bind (m:=stT [1,2] _) rfl (emit_if (and1 (cmp_in rfl rfl (in_told h.up3.get))) (ok_bind (each2 rfl rfl) (tup_ok (vs:=[_,_]) (by decide:2<=big))) hc)⟩) (by rw [List.length_zipIdx];exact Nat.le_trans hl (by decide))
  rw [show ((us.zipIdx.filter λp=>decide (p.1∈ts)).map λp=>pv (((p.2:Nat):Int),p.1))=(kn us ts).map pv by unfold kn;rw [List.map_map];rfl,lst_f (by rw [List.length_map];exact Nat.le_trans hkl (by decide))] at c1
  refine g386 (W_an c1 (W_sq (W_bind (W_bind (W_bind (W_dig rfl rfl h (by decide) (by decide) λdeed μ1 p0 p1 h1=>W_bind (W_bind (W_e (ok_bind rfl (len_ref h1.sw.get (len_le hul rfl))) ?_))))))))
  rw [List.length_map]
  exact u386 h1 (Int.natCast_nonneg _) (Int.ofNat_le.mpr hl) (λp u h=>by
    obtain ⟨h0,h1,h2⟩:=kn_mem.mp h
    exact ⟨h0,(Int.toNat_lt h0).mp (List.getElem?_eq_some_iff.mp h1).1,hu u (List.mem_of_getElem? h1)⟩) (λl q e=>kn_last e) hkl k
end
end
section
open PySem
section
variable {n:Nat} {μ μ':List O} {ρ:List (Option V)} {X:List O->Prop} {A B R:Asn} {c rs k:Nat} {hs:List Nat} {rows:List Lt} {op:Bool} {x:V5} {Q:V->List O->Prop}
theorem H.rw_nil (h:H (A.s (B.s R)) μ):H (A.s (B.s ((Rw [] []).s R))) μ:=h.mono λF f=>by
  obtain ⟨X,_,e,x,Y,Z,e2,y,z⟩:=f
  exact ⟨X,_,e,x,Y,_,e2,y,[],Z,rfl,rfl,z⟩
theorem s321 {a b d e f g h' i j k:V} (h:H ((pt c (.inst true [a,b,d,e,f,g,h',i,j,k])).s R) μ) (q:∀ μ',H ((Cp c true []).s R) μ'->Q .none μ'):CRw (phiT tab (n+1) 321 [.ref c,tx "b",.bool false] μ) Q X:=
  g321 (W_lay h rfl rfl rfl λ_ h=>W_sq (W_t rfl (W_lay h rfl rfl rfl λ_ h=>W_lay h rfl rfl rfl λ_ h=>W_lay h rfl rfl rfl λ_ h=>W_lay h rfl rfl rfl λμ1 h=>
    W_nx (W_n (ok_bind lst_nil (ok_bind (ok_bind rfl (set_at (h.new (.list [])).sw.get rfl)) rfl)) (W_lay ((h.new (.list [])).sw.put _) rfl rfl rfl λ_ h=>W_lay h rfl rfl rfl λμ2 h=>q μ2 (CpH.close (x:=(.int 0,.int 0,.int 0,j,k)) (hs:=[]) ⟨h.rw_nil,rfl,by decide⟩))))))
theorem s314 (h:CpAt μ c op x (List.replicate k blank) rs hs):phiT tab (n+2) 314 [.ref c] μ=.ok (.dct [] []) μ:=by
  have gk:∀ ρ,getA .kept (.ref c) μ ρ=.ok (.dct [] []) μ ρ:=λρ=>get_at h.top rfl
  have hh:∀ a∈hs,μ[a]?=some (heldO blank):=λa m=>by
    obtain ⟨i,hi⟩:=List.getElem?_of_mem m
    have hlt:=h.len▸(List.getElem?_eq_some_iff.mp hi).1
    exact h.held i a blank hi ((List.getElem?_eq_getElem hlt).trans (congrArg some (List.eq_of_mem_replicate (List.getElem_mem hlt))))
  obtain ⟨z,e⟩:=for_eq (μ:=μ) (st:=stillM (some (rs,hs.map .ref))) (body:=b314_1 (phiT tab (n+1))) (λ_=>still_ok (still_at h.list)) V.ref (λz:Option V=>[some (.ref c),some (.dct [] []),none,z]) hs none λa m z=>⟨some (.ref a),ok_bind (m:=st 3 (.ref a)) rfl (ok_bind (a:=.next) (ok_f (ok_bind (meth_at (hh a m) rfl rfl rfl (s158 (hh a m))) rfl) rfl) rfl)⟩
  exact CRw.eq (g314 (W_an rfl (W_n (loop0 (ok_bind (ok_bind rfl (gk _)) rfl)) (W_n (ok_bind (ok_bind (h.getR rfl) (src_ref h.list)) e) (W_r rfl ⟨rfl,rfl⟩)))))
theorem s326 (h:H ((Cp c op (List.replicate k blank)).s R) μ) (q:∀ μ',H ((Cp c op (List.replicate k blank)).s R) μ'->Q .none μ'):CRw (phiT tab (n+3) 326 [.ref c] μ) Q X:=by
  refine Cp.open h λx rs hs o=>g326 (W_an (ok_bind rfl (call_eq (s314 o.view))) (W_an (v:=.lst []) rfl ?_))
  have hl:=λρ h0=>o.view.lenRows (μ:=μ) (ρ:=ρ) (m:=ld 0) h0
  rw [List.length_replicate] at hl
  refine W_n (ok_f (tst (d:=false) (ok_bind (a:=.int 0) rfl (ok_bind (hl _ rfl) rfl)) (decide_eq_false (Int.not_lt.mpr (Int.natCast_nonneg k)))) rfl) ?_
  cases k with
  | zero=>
    have g:=o.own.new (.list [])
    refine W_n (ok_f (tst (d:=false) (ok_bind (a:=.int 0) rfl (ok_bind (hl _ rfl) rfl)) rfl) rfl) (W_n (loop0 rfl) (W_n (ok_bind (comp_map (α:=V) (σ:=Unit) (l:=[]) id id (λ_=>[none,none,some (.dct [] [])]) () (c:=none) rfl rfl rfl (λ_ m=>(nomatch m)) (by decide)) (ok_bind (ok_bind rfl (set_at g.sw.get rfl)) rfl)) (q _ (CpH.close (CpH.newRows (hs':=[]) (rows':=[]) g rfl (by decide) λF t nd=>?_)))))
    obtain ⟨_,_,e,e1,_,BR,e2,e3,b⟩:=t
    rw [e,e1,e2,List.map_append,List.map_append] at nd
    exact ⟨BR,b,(List.nodup_append.mp (List.nodup_append.mp nd).2.1).2.1,λp m=>by rw [e,e2];exact List.mem_append_right _ (List.mem_append_right _ m)⟩
  | succ k=>exact W_r (ok_t (tst (d:=true) (ok_bind (a:=.int 0) rfl (ok_bind (hl _ rfl) rfl)) (decide_eq_true (Int.natCast_pos.mpr (Nat.succ_pos k)))) rfl) (q _ h)
theorem s333 (h:H ((Cp c true (List.replicate k blank)).s R) μ) (q:∀ μ',H ((Cp c false (List.replicate k blank)).s R) μ'->Q .none μ'):CRw (phiT tab (n+4) 333 [.ref c,.bool true] μ) Q X:=by
  refine Cp.open h λx rs hs o=>g333 (W_lay (o':=copyO rs false x) o.own rfl rfl rfl λμ1 g=>W_n (ok_f rfl rfl) (W_sq (W_bind (W_cl rfl (s326 (CpH.close ⟨g,o.len,o.few⟩) λμ2 h2=>?_)))))
  refine Cp.open h2 λx rs hs o=>W_lay (o':=copyO rs false x) o.own rfl rfl rfl λμ3 g=>W_lay (o':=copyO rs false (x.1,x.2.2.1,x.2.2.1,x.2.2.2.1,x.2.2.2.2)) g rfl (ok_bind rfl (get_at g.get rfl)) rfl λμ4 g=>q μ4 (CpH.close ⟨g,o.len,o.few⟩)
theorem s393o {j:Int} (h:H ((Cp c true []).s R) μ) (h0:0<=j) (h1:j<=50) (q:∀ μ',H ((Cp c true (List.replicate j.toNat blank)).s R) μ'->Q (.bool true) μ'):CRw (phiT tab (n+4) 393 [.ref c,.tup [tx "exists",.int j]] μ) Q X:=
  Cp.open h λx rs hs o=>g393 (W_sq (W_try (W_sq (W_bind (W_meth o.view.top rfl rfl rfl (g215 (W_an rfl (W_sq (W_t (wordt rfl) (W_sq (W_bind (W_cl (each2 rfl rfl) (s227_t h h0 h1 λμ' j=>q μ' j)))))))))))))
end
end
section
open PySem
theorem ins_pw {α:Type} {lt:α->α->Bool} {R:α->α->Prop} (h1:∀ x y,lt x y=true->R x y) (h2:∀ x y,lt x y=false->R y x) (ht:∀ x y z,R x y->R y z->R x z) (x:α):∀ l:List α,l.Pairwise R->(insBy lt x l).Pairwise R
  | [],_=>.cons (λ_ h=>nomatch h) .nil
  | y :: r,h=>by
    obtain ⟨hy,hr⟩:=List.pairwise_cons.mp h
    unfold insBy
    split
    · rename_i hc
      refine .cons (λz hz=>?_) h
      rcases List.mem_cons.mp hz with rfl | hz
      · exact h1 _ _ hc
      · exact ht _ _ _ (h1 _ _ hc) (hy z hz)
    · rename_i hc
      refine .cons (λz hz=>?_) (ins_pw h1 h2 ht x r hr)
      rcases mem_ins.mp hz with rfl | hz
      · exact h2 _ _ (by simpa using hc)
      · exact hy z hz
theorem sort_pw {α:Type} {lt:α->α->Bool} {R:α->α->Prop} (h1:∀ x y,lt x y=true->R x y) (h2:∀ x y,lt x y=false->R y x) (ht:∀ x y z,R x y->R y z->R x z):∀ l:List α,(sortBy lt l).Pairwise R
  | []=>.nil
  | x :: l=>ins_pw h1 h2 ht x _ (sort_pw h1 h2 ht l)
noncomputable def inP (x:Int) (l:List (Int×Int)):Prop:=∃ p∈l,p.1<=x/\x<=p.2
structure Sepd (l:List (Int×Int)):Prop where
  pw:l.Pairwise λa b=>a.2+1<b.1
  le:∀ a∈l,a.1<=a.2
theorem step_sep {out:List (Int×Int)} {p:Int×Int} (h:Sepd out) (hp:p.1<=p.2) (hq:∀ q∈out,q.1<=p.1):Sepd (mstep out p)/\(∀ x,inP x (mstep out p)↔inP x out∨(p.1<=x/\x<=p.2))/\∀ q∈mstep out p,q.1<=p.1:=by
  unfold mstep
  rcases hl:out.getLast? with _ | q
  · have:out=[]:=List.getLast?_eq_none_iff.mp hl
    subst this
    refine ⟨⟨.cons (λ_ h=>nomatch h) .nil,by simpa using hp⟩,λx=>?_,by simp⟩
    unfold inP;simp
  · obtain ⟨d,rfl⟩:=List.getLast?_eq_some_iff.mp hl
    obtain ⟨pw1,pw2,pw3⟩:=List.pairwise_append.mp h.pw
    have hqp:=hq q (by simp)
    have hqq:=h.le q (by simp)
    dsimp only
    split
    · rename_i hc
      rw [List.dropLast_concat]
      refine ⟨⟨List.pairwise_append.mpr ⟨pw1,.cons (λ_ h=>nomatch h) .nil,λa ha b hb=>?_⟩,λa ha=>?_⟩,λx=>?_,λr hr=>?_⟩
      · rw [List.mem_singleton.mp hb];exact pw3 a ha q (by simp)
      · rcases List.mem_append.mp ha with m | m
        · exact h.le a (by simp [m])
        · rw [List.mem_singleton.mp m];dsimp only;lia
      · unfold inP
        constructor
        · rintro ⟨r,hr,h1,h2⟩
          rcases List.mem_append.mp hr with m | m
          · exact .inl ⟨r,by simp [m],h1,h2⟩
          · rw [List.mem_singleton.mp m] at h1 h2
            dsimp only at h1 h2
            by_cases hx:x<=q.2
            · exact .inl ⟨q,by simp,h1,hx⟩
            · exact .inr ⟨by lia,by lia⟩
        · rintro (⟨r,hr,h1,h2⟩ | ⟨h1,h2⟩)
          · rcases List.mem_append.mp hr with m | m
            · exact ⟨r,by simp [m],h1,h2⟩
            · rw [List.mem_singleton.mp m] at h1 h2
              exact ⟨(q.1,max q.2 p.2),by simp,h1,by dsimp only;lia⟩
          · exact ⟨_,List.mem_append_right _ (List.mem_singleton.mpr rfl),by dsimp only;lia,by dsimp only;lia⟩
      · rcases List.mem_append.mp hr with m | m
        · exact hq r (by simp [m])
        · rw [List.mem_singleton.mp m];exact hqp
    · rename_i hc
      refine ⟨⟨List.pairwise_append.mpr ⟨h.pw,.cons (λ_ h=>nomatch h) .nil,λa ha b hb=>?_⟩,λa ha=>?_⟩,λx=>?_,λr hr=>?_⟩
      · rw [List.mem_singleton.mp hb]
        rcases List.mem_append.mp ha with m | m
        · have:=pw3 a m q (by simp);lia
        · rw [List.mem_singleton.mp m];lia
      · rcases List.mem_append.mp ha with m | m
        · exact h.le a m
        · rw [List.mem_singleton.mp m];exact hp
      · unfold inP
        constructor
        · rintro ⟨r,hr,h1,h2⟩
          rcases List.mem_append.mp hr with m | m
          · exact .inl ⟨r,m,h1,h2⟩
          · rw [List.mem_singleton.mp m] at h1 h2
            exact .inr ⟨h1,h2⟩
        · rintro (⟨r,hr,h1,h2⟩ | ⟨h1,h2⟩)
          · exact ⟨r,List.mem_append_left _ hr,h1,h2⟩
          · exact ⟨p,by simp,h1,h2⟩
      · rcases List.mem_append.mp hr with m | m
        · exact hq r m
        · rw [List.mem_singleton.mp m];exact Int.le_refl _
theorem fold_sep:∀ (l out:List (Int×Int)),Sepd out->(∀ p∈l,p.1<=p.2)->l.Pairwise (λa b=>a.1<=b.1)->(∀ q∈out,∀ p∈l,q.1<=p.1)->Sepd (l.foldl mstep out)/\∀ x,inP x (l.foldl mstep out)↔inP x out∨inP x l
  | [],out,h,_,_,_=>⟨h,λx=>by unfold inP;simp⟩
  | p :: l,out,h,hl,hs,hq=>by
    obtain ⟨s1,s2⟩:=List.pairwise_cons.mp hs
    obtain ⟨g1,g2,g3⟩:=step_sep h (hl p (by simp)) λq m=>hq q m p (by simp)
    obtain ⟨f1,f2⟩:=fold_sep l (mstep out p) g1 (λq m=>hl q (by simp [m])) s2 λq m r mr=>Int.le_trans (g3 q m) (s1 r mr)
    refine ⟨f1,λx=>?_⟩
    rw [List.foldl_cons,f2,g2]
    unfold inP
    simp only [List.mem_cons,exists_eq_or_imp]
    rw [or_assoc]
theorem plain_sep (ps:List (Int×Int)):Sepd (plain ps)/\∀ x,inP x (plain ps)↔x∈spread ps:=by
  have hs:(sortBy ltP (ps.map endsP)).Pairwise (λa b=>a.1<=b.1):=sort_pw (lt:=ltP) (R:=λa b=>a.1<=b.1) (λx y h=>by unfold ltP at h;simp at h;lia) (λx y h=>by unfold ltP at h;simp at h;lia) (λ_ _ _=>Int.le_trans) _
  obtain ⟨h1,h2⟩:=fold_sep (sortBy ltP (ps.map endsP)) [] ⟨.nil,by simp⟩ (λp hp=>by
    obtain ⟨q,_,rfl⟩:=List.mem_map.mp (mem_sort.mp hp)
    unfold endsP;dsimp only;lia) hs (by simp)
  refine ⟨h1,λx=>(h2 x).trans ?_⟩
  rw [mem_spread]
  unfold inP
  simp only [List.not_mem_nil,false_and,exists_false,false_or]
  constructor
  · rintro ⟨p,hp,h⟩
    obtain ⟨q,hq,rfl⟩:=List.mem_map.mp (mem_sort.mp hp)
    exact ⟨q,hq,h⟩
  · rintro ⟨q,hq,h⟩
    exact ⟨endsP q,mem_sort.mpr (List.mem_map_of_mem hq),h⟩
theorem irange_pw (lo hi:Int):(irange lo hi).Pairwise (·<·):=by
  unfold irange
  rw [List.pairwise_map]
  exact List.pairwise_lt_range.imp λh=>by lia
theorem flat_pw:∀ {l:List (Int×Int)},Sepd l->(l.flatMap λp=>irange p.1 (p.2+1)).Pairwise (·<·)
  | [],_=>.nil
  | p :: l,h=>by
    obtain ⟨h1,h2⟩:=List.pairwise_cons.mp h.pw
    rw [List.flatMap_cons]
    refine List.pairwise_append.mpr ⟨irange_pw _ _,flat_pw ⟨h2,λa m=>h.le a (by simp [m])⟩,λa ha b hb=>?_⟩
    obtain ⟨q,hq,hb⟩:=List.mem_flatMap.mp hb
    have:=mem_irange.mp ha
    have:=mem_irange.mp hb
    have:=h1 q hq
    lia
theorem pw_ext {l:List Int}:∀ {k:List Int},l.Pairwise (·<·)->k.Pairwise (·<·)->(∀ x,x∈l↔x∈k)->l=k:=by
  induction l with
  | nil=>
    intro k _ _ h
    cases k with
    | nil=>rfl
    | cons b k=>exact absurd ((h b).mpr (by simp)) (by simp)
  | cons a l ih=>
    intro k h1 h2 h
    cases k with
    | nil=>exact absurd ((h a).mp (by simp)) (by simp)
    | cons b k=>
      obtain ⟨a1,a2⟩:=List.pairwise_cons.mp h1
      obtain ⟨b1,b2⟩:=List.pairwise_cons.mp h2
      have hab:a=b:=by
        have x1:=(h a).mp (by simp)
        have x2:=(h b).mpr (by simp)
        rcases List.mem_cons.mp x1 with e | m
        · exact e
        · rcases List.mem_cons.mp x2 with e | m2
          · exact e.symm
          · have:=b1 a m;have:=a1 b m2;lia
      subst hab
      rw [ih a2 b2 λx=>?_]
      have:=h x
      simp only [List.mem_cons] at this
      constructor
      · intro m
        have:=a1 x m
        rcases (h x).mp (by simp [m]) with _ | ⟨_,m2⟩
        · lia
        · assumption
      · intro m
        have:=b1 x m
        rcases (h x).mpr (by simp [m]) with _ | ⟨_,m2⟩
        · lia
        · assumption
noncomputable def flat (l:List (Int×Int)):List Int:=l.flatMap λp=>irange p.1 (p.2+1)
theorem mem_flat {l:List (Int×Int)} {x:Int}:x∈flat l↔inP x l:=by
  unfold flat inP
  rw [List.mem_flatMap]
  constructor
  · rintro ⟨p,hp,hx⟩;have:=mem_irange.mp hx;exact ⟨p,hp,by lia,by lia⟩
  · rintro ⟨p,hp,h1,h2⟩;exact ⟨p,hp,mem_irange.mpr ⟨h1,by lia⟩⟩
theorem inP_spread {l:List (Int×Int)} (h:Sepd l) {x:Int}:x∈spread l↔inP x l:=by
  rw [mem_spread]
  unfold inP
  constructor
  · rintro ⟨p,hp,h1,h2⟩;have:=h.le p hp;exact ⟨p,hp,by lia,by lia⟩
  · rintro ⟨p,hp,h1,h2⟩;have:=h.le p hp;exact ⟨p,hp,by lia,by lia⟩
theorem uidsOf_flat (ps:List (Int×Int)):uidsOf ps=flat (plain ps):=by
  obtain ⟨h,_⟩:=plain_sep ps
  obtain ⟨h2,m2⟩:=plain_sep (plain ps)
  unfold uidsOf
  rcases hl:(plain ps).getLast? with _ | q
  · rw [List.getLast?_eq_none_iff.mp hl];rfl
  · dsimp only
    obtain ⟨d,hd⟩:=List.getLast?_eq_some_iff.mp hl
    have top:∀ x,inP x (plain ps)->x<=q.2:=λx ⟨p,hp,h3,h4⟩=>by
      rw [hd] at h hp
      rcases List.mem_append.mp hp with m | m
      · have:=(List.pairwise_append.mp h.pw).2.2 p m q (by simp);have:=h.le q (by simp);lia
      · rw [List.mem_singleton.mp m] at h4;exact h4
    have:∀ p∈plain (plain ps),irange p.1 (min p.2 q.2+1)=irange p.1 (p.2+1):=λp hp=>by
      have:=h2.le p hp
      have:=top p.2 ((inP_spread h).mp ((m2 p.2).mp ⟨p,hp,by lia,by lia⟩))
      rw [show min p.2 q.2=p.2 by lia]
    have e:numbers q.2 (plain ps)=flat (plain (plain ps)):=by
      unfold numbers flat
      rw [List.flatMap_def,List.flatMap_def,List.map_congr_left this]
    rw [e]
    exact pw_ext (flat_pw h2) (flat_pw h) λx=>by rw [mem_flat,mem_flat,m2,inP_spread h]
theorem mem_uidsOf {ps:List (Int×Int)} {x:Int}:x∈uidsOf ps↔x∈spread ps:=by
  rw [uidsOf_flat,←(plain_sep ps).2,mem_flat]
theorem uidsOf_pw (ps:List (Int×Int)):(uidsOf ps).Pairwise (·<·):=by rw [uidsOf_flat];exact flat_pw (plain_sep ps).1
theorem size_uids (ps:List (Int×Int)):sizeOfP ps=(uidsOf ps).length:=by
  rw [uidsOf_flat]
  unfold sizeOfP flat
  have h:=(plain_sep ps).1.le
  generalize plain ps=l at h
  induction l with
  | nil=>rfl
  | cons p l ih=>
    rw [List.map_cons,List.sum_cons,List.flatMap_cons,List.length_append,ih λa m=>h a (by simp [m]),irange_len]
    have:=h p (by simp)
    lia
end
section
open PySem
theorem goneL_spec (u:Int) (l:List Lt):∀ (p:Nat) (unk:Int),∃ k,(∀ (i:Nat) (r:Lt),i<k->l[i]?=some r->r.u≠u/\r.u<=u)/\k<=l.length /\
    ((∃ r,l[k]?=some r/\r.u=u/\goneL l p unk u=some ((p:Int)+k)) ∨
     ((∀ r,l[k]?=some r->u<r.u)/\((k=0/\goneL l p unk u=if unk<0 then none else some unk) ∨
       ∃ m y,k=m+1/\l[m]?=some y/\goneL l p unk u=if y.u=0 then some ((p:Int)+m) else none))):=by
  induction l with
  | nil=>exact λp unk=>⟨0,λ_ _ h _=>absurd h (Nat.not_lt_zero _),Nat.le_refl _,.inr ⟨λ_ h=>(nomatch h),.inl ⟨rfl,rfl⟩⟩⟩
  | cons r l ih=>
    intro p unk
    by_cases h1:r.u=u
    · exact ⟨0,λ_ _ h _=>absurd h (Nat.not_lt_zero _),Nat.zero_le _,.inl ⟨r,rfl,h1,by unfold goneL;rw [if_pos h1];simp⟩⟩
    · by_cases h2:u<r.u
      · exact ⟨0,λ_ _ h _=>absurd h (Nat.not_lt_zero _),Nat.zero_le _,.inr ⟨λx hx=>by cases hx;exact h2,.inl ⟨rfl,by unfold goneL;rw [if_neg h1,if_pos h2]⟩⟩⟩
      · obtain ⟨k,g1,g0,g2⟩:=ih (p+1) (if r.u=0 then p else -1)
        have e:goneL (r :: l) p unk u=goneL l ((p+1:Nat):Int) (if r.u=0 then p else -1) u:=by
          rw [goneL,if_neg h1,if_neg h2];rfl
        refine ⟨k+1,λi x hi hx=>?_,by simp;lia,?_⟩
        · cases i with
          | zero=>cases hx;exact ⟨h1,by lia⟩
          | succ i=>exact g1 i x (by lia) hx
        · rw [e]
          rcases g2 with ⟨x,hx,hu,g⟩ | ⟨gt,⟨rfl,g⟩ | ⟨m,y,rfl,hy,g⟩⟩
          · exact .inl ⟨x,hx,hu,g.trans (by rw [show ((p+1:Nat):Int)+k=(p:Int)+((k+1:Nat):Int) by lia])⟩
          · refine .inr ⟨gt,.inr ⟨0,r,rfl,rfl,g.trans ?_⟩⟩
            by_cases h3:r.u=0
            · rw [if_pos h3,if_pos h3,if_neg (by lia)];congr 1
            · rw [if_neg h3,if_neg h3];rfl
          · refine .inr ⟨gt,.inr ⟨m+1,y,rfl,hy,g.trans ?_⟩⟩
            by_cases h3:y.u=0
            · rw [if_pos h3,if_pos h3];congr 1;lia
            · rw [if_neg h3,if_neg h3]
theorem asc_lt {l:List Int} (h:l.Pairwise (·<·)) {i j:Nat} {x y:Int} (hx:l[i]?=some x) (hy:l[j]?=some y) (hij:i<j):x<y:=by
  obtain ⟨h1,rfl⟩:=List.getElem?_eq_some_iff.mp hx
  obtain ⟨h2,rfl⟩:=List.getElem?_eq_some_iff.mp hy
  exact List.pairwise_iff_getElem.mp h i j h1 h2 hij
theorem asc_idx {l:List Int} (h:l.Pairwise (·<·)) {i j:Nat} {x y:Int} (hx:l[i]?=some x) (hy:l[j]?=some y) (hxy:x<y):i<j:=by
  rcases Nat.lt_trichotomy i j with h1 | h1 | h1
  · exact h1
  · subst h1;rw [hx] at hy;injection hy;lia
  · have:=asc_lt h hy hx h1;lia
theorem asc_eq {l:List Int} (h:l.Pairwise (·<·)) {i j:Nat} {x:Int} (hx:l[i]?=some x) (hy:l[j]?=some x):i=j:=by
  rcases Nat.lt_trichotomy i j with h1 | h1 | h1
  · have:=asc_lt h hx hy h1;lia
  · exact h1
  · have:=asc_lt h hy hx h1;lia
theorem uidsB_at {b:List Lt} {i:Nat} {l:Lt} (h:b[i]?=some l):(uidsB b)[i]?=some l.u:=by unfold uidsB;rw [List.getElem?_map,h];rfl
theorem atB {b:List Lt} {i:Nat} {u:Int} (h:(uidsB b)[i]?=some u):∃ l,b[i]?=some l/\l.u=u:=by
  unfold uidsB at h
  rw [List.getElem?_map] at h
  rcases hb:b[i]? with _ | l <;> rw [hb] at h
  · cases h
  · exact ⟨l,rfl,Option.some.inj h⟩
theorem lt_of_at {α:Type} {l:List α} {i:Nat} {x:α} (h:l[i]?=some x):i<l.length:=(List.getElem?_eq_some_iff.mp h).1
theorem at_of_lt {α:Type} {l:List α} {i:Nat} (h:i<l.length):∃ x,l[i]?=some x:=⟨_,List.getElem?_eq_getElem h⟩
structure BoxIn (b:List Lt) (n:Nat):Prop where
  len:b.length=n
  asc:(uidsB b).Pairwise (·<·)
  rng:∀ u∈uidsB b,1<=u/\u<=8
  ok:BoxOK b
structure Inv (rows:List Lt) (bs:List (List Lt)) (us ts:List Int) (sure:Bool):Prop where
  asc:us.Pairwise (·<·)
  rng:∀ u∈us,1<=u/\u<=8
  lenR:rows.length=us.length
  drawn:∃ b∈bs,uidsB b=us
  box:∀ b∈bs,BoxIn b us.length
  told:∀ b∈bs,∀ (i:Nat) (u:Int),us[i]?=some u->u∈ts->(uidsB b)[i]?=some u
  uid:∀ (i:Nat) (r:Lt) (u:Int),rows[i]?=some r->us[i]?=some u->r.u=if u∈ts then u else 0
  fl:∀ r∈rows,FlagOK r.f
  same:∀ (i:Nat) (r l:Lt) (b:List Lt),rows[i]?=some r->b∈bs->b[i]?=some l->(sure=true∨r.f≠.none->l.f=r.f)/\(sure=true∨r.m≠0->l.m=r.m)
theorem foldd_const {α:Type} [DecidableEq α] (x:α):∀ l:List α,(∀ y∈l,y=x)->l.foldl ddc [x]=[x]
  | [],_=>rfl
  | y :: l,h=>by
    rw [List.foldl_cons,h y (by simp),show ddc [x] x=[x] by unfold ddc;rw [if_pos (by simp)]]
    exact foldd_const x l λz hz=>h z (by simp [hz])
theorem dd_const {α:Type} [DecidableEq α] {x:α} {l:List α} (h:∀ y∈l,y=x) (hn:l≠[]):dd l=[x]:=by
  cases l with
  | nil=>exact absurd rfl hn
  | cons y l=>
    have hy:=h y (by simp)
    subst hy
    unfold dd
    rw [List.foldl_cons,show ddc [] y=[y] by unfold ddc;rw [if_neg (by simp)];rfl]
    exact foldd_const y l λz hz=>h z (by simp [hz])
section
variable {rows rows':List Lt} {bs bs':List (List Lt)} {us us' ts ts':List Int} {sure sure':Bool}
theorem Inv.knows (h:Inv rows bs us ts sure) (hf:bs.length<=big):Knows rows bs ts sure where
  some_:=by obtain ⟨b,hb,_⟩:=h.drawn;exact List.ne_nil_of_mem hb
  lens b hb:=(h.box b hb).len.trans h.lenR.symm
  boxes b hb:=(h.box b hb).ok
  flags:=h.fl
  pos r hr:=by
    obtain ⟨i,hi,e⟩:=List.getElem_of_mem hr
    obtain ⟨u,hu⟩:=at_of_lt (l:=us) (i:=i) (by rw [←h.lenR];exact hi)
    have:=h.uid i r u (by rw [List.getElem?_eq_getElem hi,e]) hu
    have:=h.rng u (List.mem_of_getElem? hu)
    split at * <;> lia
  rows1 i r hr:=by
    obtain ⟨u,hu⟩:=at_of_lt (l:=us) (i:=i) (by rw [←h.lenR];exact lt_of_at hr)
    obtain ⟨b0,hb0,e0⟩:=h.drawn
    obtain ⟨l0,hl0,hu0⟩:=atB (by rw [e0];exact hu)
    have mem:∀ l,l∈bs.filterMap (λb=>b[i]?)↔∃ b∈bs,b[i]?=some l:=λl=>List.mem_filterMap
    have ne:∀ {β:Type} (f:Lt->β),(bs.filterMap λb=>b[i]?).map f≠[]:=λf e=>by
      have:=(mem l0).mpr ⟨b0,hb0,hl0⟩
      rw [List.map_eq_nil_iff.mp e] at this
      cases this
    refine ⟨?_,λhs=>?_,λhs=>?_⟩
    · rw [h.uid i r u hr hu]
      by_cases ht:u∈ts
      · rw [if_pos ht,dd_const (x:=u) (λy hy=>?_) (ne _)]
        · show u=if u∈ts then u else 0
          rw [if_pos ht]
        · obtain ⟨l,hl,rfl⟩:=List.mem_map.mp hy
          obtain ⟨b,hb,hl⟩:=(mem l).mp hl
          have:=h.told b hb i u hu ht
          rw [uidsB_at hl] at this
          exact Option.some.inj this
      · rw [if_neg ht]
        have hm:u∈dd ((bs.filterMap λb=>b[i]?).map (·.u)):=mem_dd.mpr (List.mem_map.mpr ⟨l0,(mem l0).mpr ⟨b0,hb0,hl0⟩,hu0⟩)
        revert hm
        generalize dd ((bs.filterMap λb=>b[i]?).map (·.u))=d
        intro hm
        match d,hm with
        | [x],hm=>rw [←List.mem_singleton.mp hm];show 0=if u∈ts then u else 0;rw [if_neg ht]
        | x :: y :: d,_=>rfl
    · exact dd_const (λy hy=>by
        obtain ⟨l,hl,rfl⟩:=List.mem_map.mp hy
        obtain ⟨b,hb,hl⟩:=(mem l).mp hl
        exact (h.same i r l b hr hb hl).1 hs) (ne _)
    · exact dd_const (λy hy=>by
        obtain ⟨l,hl,rfl⟩:=List.mem_map.mp hy
        obtain ⟨b,hb,hl⟩:=(mem l).mp hl
        exact (h.same i r l b hr hb hl).2 hs) (ne _)
  few:=hf
theorem Inv.boxes (h:Inv rows bs us ts sure) (hb:∀ b,b∈bs'↔b∈bs):Inv rows bs' us ts sure where
  asc:=h.asc
  rng:=h.rng
  lenR:=h.lenR
  drawn:=by obtain ⟨b,h1,h2⟩:=h.drawn;exact ⟨b,(hb b).mpr h1,h2⟩
  box b m:=h.box b ((hb b).mp m)
  told b m:=h.told b ((hb b).mp m)
  uid:=h.uid
  fl:=h.fl
  same i r l b h1 h2:=h.same i r l b h1 ((hb b).mp h2)
theorem Inv.tells (h:Inv rows bs us ts sure) (ht:∀ u∈us,u∈ts'↔u∈ts):Inv rows bs us ts' sure where
  asc:=h.asc
  rng:=h.rng
  lenR:=h.lenR
  drawn:=h.drawn
  box:=h.box
  told b m i u hu hm:=h.told b m i u hu ((ht u (List.mem_of_getElem? hu)).mp hm)
  uid i r u hr hu:=by rw [h.uid i r u hr hu];simp only [ht u (List.mem_of_getElem? hu)]
  fl:=h.fl
  same:=h.same
theorem Inv.doubt (h:Inv rows bs us ts sure) (hs:sure'=true->sure=true):Inv rows bs us ts sure' where
  asc:=h.asc
  rng:=h.rng
  lenR:=h.lenR
  drawn:=h.drawn
  box:=h.box
  told:=h.told
  uid:=h.uid
  fl:=h.fl
  same i r l b h1 h2 h3:=⟨λq=>(h.same i r l b h1 h2 h3).1 (q.imp hs id),λq=>(h.same i r l b h1 h2 h3).2 (q.imp hs id)⟩
end
end
section
open PySem
theorem uidsB_erase (b:List Lt) (q:Nat):uidsB (b.eraseIdx q)=(uidsB b).eraseIdx q:=by
  unfold uidsB
  rw [List.eraseIdx_eq_take_drop_succ,List.eraseIdx_eq_take_drop_succ,List.map_append,List.map_take,List.map_drop]
theorem er_at {α:Type} (l:List α) (q i:Nat):(l.eraseIdx q)[i]?=if i<q then l[i]? else l[i+1]?:=List.getElem?_eraseIdx
theorem dropAt_er (rows:List Lt) (p:Nat):dropAt rows p=rows.eraseIdx p:=(List.eraseIdx_eq_take_drop_succ rows p).symm
theorem er_len {α:Type} {l:List α} {q:Nat} (h:q<l.length):(l.eraseIdx q).length=l.length - 1:=List.length_eraseIdx_of_lt h
noncomputable def May (us ts:List Int) (rows1:List Lt) (sure':Bool) (m q:Nat):Prop:=q<=m/\(q<m->sure'=false/\∀ i,q<=i->i<=m->(∀ x,us[i]?=some x->x∉ts)/\∀ r,i<m->rows1[i]?=some r->r=blank)
section
variable {rows rows' rows1:List Lt} {bs bs':List (List Lt)} {us us' ts ts':List Int} {sure sure':Bool}
theorem Inv.cut (h:Inv rows bs us ts sure) {m q0:Nat} (hm:m<us.length) (hlen:rows1.length=rows.length)
    (hr:∀ (i:Nat) (r:Lt),rows1[i]?=some r->∃ r0,rows[i]?=some r0/\r.u=r0.u/\(r=r0∨r=blank)) (hs:sure'=true->sure=true) (hb1:sure'=true->rows1=rows)
    (h0:May us ts rows1 sure' m q0) (hb:∀ b'∈bs',∃ b∈bs,∃ q,May us ts rows1 sure' m q/\b'=b.eraseIdx q) (hd:∃ b'∈bs',uidsB b'=us.eraseIdx q0):Inv (rows1.eraseIdx m) bs' (us.eraseIdx q0) ts sure':=by
  have hq0:q0<us.length:=Nat.lt_of_le_of_lt h0.1 hm
  have tl:∀ {q i:Nat} {u:Int},May us ts rows1 sure' m q->(if i<q0 then us[i]? else us[i+1]?)=some u->u∈ts->(if i<q then us[i]? else us[i+1]?)=some u/\(if i<m then us[i]? else us[i+1]?)=some u:=by
    intro q i u hq hu ht
    have a1:∀ p,May us ts rows1 sure' m p->p<m->∀ j,p<=j->j<=m->us[j]?=some u->False:=λp hp h1 j h2 h3 h4=>((hp.2 h1).2 j h2 h3).1 u h4 ht
    have b1:=h0.1
    have b2:=hq.1
    by_cases c0:i<q0
    · rw [if_pos c0] at hu
      by_cases c1:i<q
      · exact ⟨by rw [if_pos c1];exact hu,by rw [if_pos (by lia)];exact hu⟩
      · have:m<=q->False:=λ_=>by lia
        exact (a1 q hq (by lia) i (by lia) (by lia) hu).elim
    · rw [if_neg c0] at hu
      by_cases c1:i<m
      · exact (a1 q0 h0 (by lia) (i+1) (by lia) (by lia) hu).elim
      · exact ⟨by rw [if_neg (by lia)];exact hu,by rw [if_neg c1];exact hu⟩
  have le0:(us.eraseIdx q0).length=us.length - 1:=er_len hq0
  constructor
  · exact h.asc.sublist (List.eraseIdx_sublist _ _)
  · exact λu hu=>h.rng u ((List.eraseIdx_sublist _ _).subset hu)
  · rw [er_len (by rw [hlen,h.lenR];exact hm),le0,hlen,h.lenR]
  · exact hd
  · intro b' hb'
    obtain ⟨b,hb,q,hq,rfl⟩:=hb b' hb'
    have B:=h.box b hb
    refine ⟨?_,?_,λu hu=>?_,λl hl=>B.ok l ((List.eraseIdx_sublist _ _).subset hl)⟩
    · rw [er_len (by rw [B.len];exact Nat.lt_of_le_of_lt hq.1 hm),le0,B.len]
    · rw [uidsB_erase];exact B.asc.sublist (List.eraseIdx_sublist _ _)
    · rw [uidsB_erase] at hu;exact B.rng u ((List.eraseIdx_sublist _ _).subset hu)
  · intro b' hb' i u hu ht
    obtain ⟨b,hb,q,hq,rfl⟩:=hb b' hb'
    rw [er_at] at hu
    have h1:=(tl hq hu ht).1
    rw [uidsB_erase,er_at]
    split at h1
    · rename_i c;rw [if_pos c];exact h.told b hb _ _ h1 ht
    · rename_i c;rw [if_neg c];exact h.told b hb _ _ h1 ht
  · intro i r u hr' hu
    rw [er_at] at hr' hu
    by_cases ht:u∈ts
    · have h1:=(tl h0 hu ht).2
      split at h1
      · rename_i c
        rw [if_pos c] at hr'
        obtain ⟨r0,e0,e1,_⟩:=hr _ _ hr'
        rw [e1];exact h.uid _ _ _ e0 h1
      · rename_i c
        rw [if_neg c] at hr'
        obtain ⟨r0,e0,e1,_⟩:=hr _ _ hr'
        rw [e1];exact h.uid _ _ _ e0 h1
    · rw [if_neg ht]
      have go:∀ j,rows1[j]?=some r->(∀ x,us[j]?=some x->x∉ts)->r.u=0:=λj hj hx=>by
        obtain ⟨r0,e0,e1,_⟩:=hr _ _ hj
        obtain ⟨x,hx'⟩:=at_of_lt (l:=us) (i:=j) (by rw [←h.lenR];exact lt_of_at e0)
        rw [e1,h.uid _ _ _ e0 hx',if_neg (hx x hx')]
      have b1:=h0.1
      by_cases c0:i<q0
      · rw [if_pos c0] at hu
        rw [if_pos (by lia)] at hr'
        exact go i hr' λx hx=>by rw [hu] at hx;injection hx with e;rw [←e];exact ht
      · rw [if_neg c0] at hu
        by_cases c1:i<m
        · rw [if_pos c1] at hr'
          exact go i hr' ((h0.2 (by lia)).2 i (by lia) (by lia)).1
        · rw [if_neg c1] at hr'
          exact go (i+1) hr' λx hx=>by rw [hu] at hx;injection hx with e;rw [←e];exact ht
  · intro r hr'
    obtain ⟨i,hi,e⟩:=List.getElem_of_mem ((List.eraseIdx_sublist _ _).subset hr')
    obtain ⟨r0,e0,_,e2⟩:=hr i r (by rw [List.getElem?_eq_getElem hi,e])
    rcases e2 with rfl | rfl
    · exact h.fl _ (List.mem_of_getElem? e0)
    · exact flag_none
  · intro i r l b' hr' hb' hl
    obtain ⟨b,hb,q,hq,rfl⟩:=hb b' hb'
    rw [er_at] at hr' hl
    have same1:∀ j,rows1[j]?=some r->b[j]?=some l->(sure'=true∨r.f≠.none->l.f=r.f)/\(sure'=true∨r.m≠0->l.m=r.m):=λj hj hl=>by
      obtain ⟨r0,e0,_,e2⟩:=hr j r hj
      have:=h.same j r0 l b e0 hb hl
      rcases e2 with rfl | rfl
      · exact ⟨λp=>this.1 (p.imp hs id),λp=>this.2 (p.imp hs id)⟩
      · refine ⟨λp=>?_,λp=>?_⟩
        · rcases p with p | p
          · rw [hb1 p,e0] at hj
            injection hj with hj;subst hj
            exact this.1 (.inl (hs p))
          · exact absurd rfl p
        · rcases p with p | p
          · rw [hb1 p,e0] at hj
            injection hj with hj;subst hj
            exact this.2 (.inl (hs p))
          · exact absurd rfl p
    have b1:=hq.1
    by_cases c0:i<q
    · rw [if_pos c0] at hl
      rw [if_pos (by lia)] at hr'
      exact same1 i hr' hl
    · rw [if_neg c0] at hl
      by_cases c1:i<m
      · rw [if_pos c1] at hr'
        obtain ⟨s1,s2⟩:=hq.2 (by lia)
        rw [(s2 i (by lia) (by lia)).2 r c1 hr',s1]
        exact ⟨λp=>absurd p (by rintro (p | p);exact absurd p (by decide);exact p rfl),λp=>absurd p (by rintro (p | p);exact absurd p (by decide);exact p rfl)⟩
      · rw [if_neg c1] at hr'
        exact same1 _ hr' hl
theorem Inv.spot (h:Inv rows bs us ts sure) {u:Int} (hu:u∈us):∃ m:Nat,goneL rows 0 (-1) u=some (m:Int)/\m<us.length/\∀ b∈bs,∀ q,(uidsB b)[q]?=some u->q<=m/\((u∈ts/\q=m/\(∀ r,rows[m]?=some r->r.u=u))∨(u∉ts/\∀ i,q<=i->i<=m->∀ r,rows[i]?=some r->r.u=0)):=by
  obtain ⟨b0,hb0,e0⟩:=h.drawn
  obtain ⟨q0,hq0⟩:=List.getElem?_of_mem hu
  have u1:=h.rng u hu
  have rowU:∀ (i:Nat) (r:Lt),rows[i]?=some r->r.u≠0->us[i]?=some r.u/\r.u∈ts:=λi r hr hn=>by
    obtain ⟨x,hx⟩:=at_of_lt (l:=us) (i:=i) (by rw [←h.lenR];exact lt_of_at hr)
    have:=h.uid i r x hr hx
    by_cases ht:x∈ts
    · rw [if_pos ht] at this;rw [this];exact ⟨hx,ht⟩
    · rw [if_neg ht] at this;exact absurd this hn
  have told:u∈ts->∀ r,rows[q0]?=some r->r.u=u:=λht r hr=>by rw [h.uid q0 r u hr hq0,if_pos ht]
  obtain ⟨r0,hr0⟩:=at_of_lt (l:=rows) (i:=q0) (by rw [h.lenR];exact lt_of_at hq0)
  obtain ⟨k,g1,gl,⟨r,hr,ru,g⟩ | ⟨gt,g⟩⟩:=goneL_spec u rows 0 (-1)
  · obtain ⟨a1,a2⟩:=rowU k r hr (by lia)
    rw [ru] at a1 a2
    refine ⟨k,g.trans (by simp),lt_of_at a1,λb hb q hq=>?_⟩
    have:=asc_eq (h.box b hb).asc hq (h.told b hb k u a1 a2)
    subst this
    exact ⟨Nat.le_refl _,.inl ⟨a2,rfl,λr' hr'=>by rw [hr] at hr';injection hr' with e;rw [←e,ru]⟩⟩
  · have lt:∀ b∈bs,∀ q,(uidsB b)[q]?=some u->q<k:=λb hb q hq=>by
      have hql:q<us.length:=by rw [←(h.box b hb).len];have:=lt_of_at hq;unfold uidsB at this;simpa using this
      rcases Nat.lt_or_ge k rows.length with hk | hk
      · obtain ⟨r,hr⟩:=at_of_lt hk
        have:=gt r hr
        obtain ⟨a1,a2⟩:=rowU k r hr (by lia)
        exact asc_idx (h.box b hb).asc hq (h.told b hb k _ a1 a2) this
      · rw [h.lenR] at hk;lia
    have hk0:=lt b0 hb0 q0 (by rw [e0];exact hq0)
    have ht:u∉ts:=λht=>(g1 q0 r0 hk0 hr0).1 (told ht r0 hr0)
    rcases g with ⟨rfl,_⟩ | ⟨m,y,rfl,hy,g⟩
    · exact absurd hk0 (Nat.not_lt_zero _)
    · have zero:∀ b∈bs,∀ q,(uidsB b)[q]?=some u->∀ i,q<=i->i<=m->∀ r,rows[i]?=some r->r.u=0:=λb hb q hq i h1 h2 r hr=>by
        by_cases hz:r.u=0
        · exact hz
        · obtain ⟨a1,a2⟩:=rowU i r hr hz
          have c1:=h.told b hb i _ a1 a2
          have c2:=g1 i r (by lia) hr
          have:=asc_idx (h.box b hb).asc c1 hq (by lia)
          lia
      have hy0:=zero b0 hb0 q0 (by rw [e0];exact hq0) m (by lia) (Nat.le_refl _) y hy
      rw [if_pos hy0] at g
      refine ⟨m,g.trans (by simp),by rw [←h.lenR];exact lt_of_at hy,λb hb q hq=>⟨by have:=lt b hb q hq;lia,.inr ⟨ht,zero b hb q hq⟩⟩⟩
end
end
section
open PySem
theorem filter_er:∀ {l:List Int} {q:Nat} {u:Int},l.Pairwise (·<·)->l[q]?=some u->l.filter (λx=>!decide (x=u))=l.eraseIdx q
  | [],q,u,_,h=>by simp at h
  | a :: l,0,u,h,hq=>by
    injection hq with hq;subst hq
    rw [List.filter_cons_of_neg (by simp),List.eraseIdx_cons_zero]
    refine List.filter_eq_self.mpr λx hx=>?_
    have:=(List.pairwise_cons.mp h).1 x hx
    simp;lia
  | a :: l,q+1,u,h,hq=>by
    obtain ⟨h1,h2⟩:=List.pairwise_cons.mp h
    have hq':l[q]?=some u:=hq
    have:=h1 u (List.mem_of_getElem? hq')
    rw [List.filter_cons_of_pos (by simp;lia),List.eraseIdx_cons_succ,filter_er h2 hq']
theorem filterB_er:∀ {b:List Lt} {q:Nat} {u:Int},(uidsB b).Pairwise (·<·)->(uidsB b)[q]?=some u->b.filter (λl=>!decide (l.u=u))=b.eraseIdx q
  | [],q,u,_,h=>by simp [uidsB] at h
  | a :: l,0,u,h,hq=>by
    injection hq with hq;subst hq
    rw [List.filter_cons_of_neg (by simp),List.eraseIdx_cons_zero]
    refine List.filter_eq_self.mpr λx hx=>?_
    have:a.u<x.u:=(List.pairwise_cons.mp h).1 x.u (List.mem_map_of_mem (f:=(·.u)) hx)
    simp;lia
  | a :: l,q+1,u,h,hq=>by
    obtain ⟨h1,h2⟩:=List.pairwise_cons.mp h
    have hq':(uidsB l)[q]?=some u:=hq
    have:a.u<u:=h1 u (List.mem_of_getElem? hq')
    rw [List.filter_cons_of_pos (by simp;lia),List.eraseIdx_cons_succ,filterB_er (show (uidsB l).Pairwise _ from h2) hq']
theorem filter_filter_not {α:Type} (l:List α) (p q:α->Bool):(l.filter p).filter q=l.filter λx=>p x&&q x:=by
  rw [List.filter_filter]
  exact List.filter_congr λx _=>Bool.and_comm _ _
noncomputable def bsV (bs:List (List Lt)) (vs:List Int):List (List Lt):=(bs.filter λb=>vs.all λv=>decide (v∈uidsB b)).map λb=>b.filter λl=>!decide (l.u∈vs)
theorem mem_bsV {bs:List (List Lt)} {vs:List Int} {b':List Lt}:b'∈bsV bs vs↔∃ b∈bs,(∀ v∈vs,v∈uidsB b)/\b'=b.filter λl=>!decide (l.u∈vs):=by
  unfold bsV
  rw [List.mem_map]
  constructor
  · rintro ⟨b,hb,rfl⟩
    obtain ⟨h1,h2⟩:=List.mem_filter.mp hb
    exact ⟨b,h1,λv hv=>of_decide_eq_true (List.all_eq_true.mp h2 v hv),rfl⟩
  · rintro ⟨b,hb,h,rfl⟩
    exact ⟨b,List.mem_filter.mpr ⟨hb,List.all_eq_true.mpr λv hv=>decide_eq_true (h v hv)⟩,rfl⟩
theorem mem_uidsB_filter {b:List Lt} {p:Int->Bool}:uidsB (b.filter λl=>p l.u)=(uidsB b).filter p:=by
  unfold uidsB
  rw [List.filter_map];rfl
section
variable {rows rows' rows1:List Lt} {bs bs':List (List Lt)} {us us' ts ts':List Int} {sure sure':Bool}
theorem Inv.van (h:Inv rows bs us ts sure) {u:Int} (hu:u∈us) (hd:StepD rows u rows'):Inv rows' (bsV bs [u]) (us.filter λx=>!decide (x∈[u])) ts (sure&&decide (u∈ts)):=by
  obtain ⟨m,g,hm,hb⟩:=h.spot hu
  obtain ⟨p,r,rows1,g',hr,hp,hB,rfl⟩:=hd
  rw [g] at g'
  obtain rfl:=Option.some.inj g'
  rw [Int.toNat_natCast] at hr hB
  rw [Int.toNat_natCast,dropAt_er]
  obtain ⟨b0,hb0,e0⟩:=h.drawn
  obtain ⟨q0,hq0⟩:=List.getElem?_of_mem hu
  have u1:=h.rng u hu
  have eU:(us.filter λx=>!decide (x∈[u]))=us.eraseIdx q0:=by
    rw [←filter_er h.asc hq0]
    exact List.filter_congr λx _=>by simp
  have eB:∀ (b:List Lt),(b.filter λl=>!decide (l.u∈[u]))=b.filter λl=>!decide (l.u=u):=λb=>List.filter_congr λx _=>by simp
  have at0:∀ x∈us,x≠0:=λx hx=>by have:=h.rng x hx;lia
  by_cases ht:u∈ts
  · have t0:∀ b∈bs,∀ q,(uidsB b)[q]?=some u->q=m/\r.u=u:=λb hb' q hq=>by
      obtain ⟨_,⟨_,e,f⟩ | ⟨n,_⟩⟩:=hb b hb' q hq
      · exact ⟨e,f r hr⟩
      · exact absurd ht n
    have hr0:=(t0 b0 hb0 q0 (by rw [e0];exact hq0)).2
    rw [if_neg (by lia)] at hB
    subst hB
    have may:∀ b∈bs,∀ q,(uidsB b)[q]?=some u->May us ts rows1 (sure&&decide (u∈ts)) m q:=λb hb' q hq=>by
      have:=(t0 b hb' q hq).1
      exact ⟨by lia,λc=>absurd c (by lia)⟩
    rw [eU]
    refine h.cut hm rfl (λi r hr=>⟨r,hr,rfl,.inl rfl⟩) (λe=>by simp at e;exact e.1) (λ_=>rfl) (may b0 hb0 q0 (by rw [e0];exact hq0)) (λb' hb'=>?_) ?_
    · obtain ⟨b,hb1,hb2,rfl⟩:=mem_bsV.mp hb'
      obtain ⟨q,hq⟩:=List.getElem?_of_mem (hb2 u (by simp))
      exact ⟨b,hb1,q,may b hb1 q hq,by rw [eB,filterB_er (h.box b hb1).asc hq]⟩
    · refine ⟨_,mem_bsV.mpr ⟨b0,hb0,λv hv=>?_,rfl⟩,?_⟩
      · rw [List.mem_singleton.mp hv,e0];exact hu
      · rw [←eU,←e0];exact mem_uidsB_filter (p:=λx=>!decide (x∈[u]))
  · have t0:∀ b∈bs,∀ q,(uidsB b)[q]?=some u->q<=m/\∀ i,q<=i->i<=m->∀ r,rows[i]?=some r->r.u=0:=λb hb' q hq=>by
      obtain ⟨c,⟨n,_⟩ | ⟨_,f⟩⟩:=hb b hb' q hq
      · exact absurd n ht
      · exact ⟨c,f⟩
    have z0:=t0 b0 hb0 q0 (by rw [e0];exact hq0)
    have hr0:=z0.2 m z0.1 (Nat.le_refl _) r hr
    rw [if_pos hr0] at hB
    have may:∀ b∈bs,∀ q,(uidsB b)[q]?=some u->May us ts rows1 (sure&&decide (u∈ts)) m q:=λb hb' q hq=>by
      obtain ⟨c,z⟩:=t0 b hb' q hq
      refine ⟨c,λ_=>⟨by simp [ht],λi h1 h2=>⟨λx hx hxt=>?_,λr' h3 hr'=>?_⟩⟩⟩
      · obtain ⟨y,hy⟩:=at_of_lt (l:=rows) (i:=i) (by rw [h.lenR];lia)
        have a1:=h.uid i y x hy hx
        rw [if_pos hxt,z i h1 h2 y hy] at a1
        exact at0 x (List.mem_of_getElem? hx) a1.symm
      · obtain ⟨y,hy⟩:=at_of_lt (l:=rows) (i:=i) (by rw [h.lenR];lia)
        obtain ⟨y',b1,_,_,b4⟩:=hB.2 i y hy
        rw [b1] at hr'
        injection hr' with e
        rw [←e]
        exact b4 λj w j1 j2 hw=>z j (by lia) (by lia) w hw
    rw [eU]
    refine h.cut hm hB.1 (λi r' hr'=>?_) (λe=>by simp at e;exact e.1) (λe=>by simp [ht] at e) (may b0 hb0 q0 (by rw [e0];exact hq0)) (λb' hb'=>?_) ?_
    · obtain ⟨y,hy⟩:=at_of_lt (l:=rows) (i:=i) (by rw [←hB.1];exact lt_of_at hr')
      obtain ⟨y',b1,b2,b3,_⟩:=hB.2 i y hy
      rw [b1] at hr'
      injection hr' with e
      exact ⟨y,hy,by rw [←e];exact b2,by rw [←e];exact b3⟩
    · obtain ⟨b,hb1,hb2,rfl⟩:=mem_bsV.mp hb'
      obtain ⟨q,hq⟩:=List.getElem?_of_mem (hb2 u (by simp))
      exact ⟨b,hb1,q,may b hb1 q hq,by rw [eB,filterB_er (h.box b hb1).asc hq]⟩
    · refine ⟨_,mem_bsV.mpr ⟨b0,hb0,λv hv=>?_,rfl⟩,?_⟩
      · rw [List.mem_singleton.mp hv,e0];exact hu
      · rw [←eU,←e0];exact mem_uidsB_filter (p:=λx=>!decide (x∈[u]))
theorem bsV_snoc {vs:List Int} {u:Int} (hu:u∉vs) (b:List Lt):b∈bsV bs (vs++[u])↔b∈bsV (bsV bs vs) [u]:=by
  have fl:∀ b:List Lt,(b.filter λl=>!decide (l.u∈vs)).filter (λl=>!decide (l.u∈[u]))=b.filter λl=>!decide (l.u∈vs++[u]):=λb=>by
    rw [filter_filter_not]
    exact List.filter_congr λx _=>by simp
  have me:∀ b:List Lt,u∈uidsB (b.filter λl=>!decide (l.u∈vs))↔u∈uidsB b:=λb=>by
    rw [mem_uidsB_filter (p:=λx=>!decide (x∈vs)),List.mem_filter]
    simp [hu]
  rw [mem_bsV,mem_bsV]
  constructor
  · rintro ⟨c,h1,h2,rfl⟩
    refine ⟨_,mem_bsV.mpr ⟨c,h1,λv hv=>h2 v (by simp [hv]),rfl⟩,λv hv=>?_,(fl c).symm⟩
    rw [List.mem_singleton.mp hv,me]
    exact h2 u (by simp)
  · rintro ⟨c',h1,h2,rfl⟩
    obtain ⟨c,h3,h4,rfl⟩:=mem_bsV.mp h1
    refine ⟨c,h3,λv hv=>?_,fl c⟩
    rcases List.mem_append.mp hv with m | m
    · exact h4 v m
    · rw [List.mem_singleton.mp m]
      exact (me c).mp (h2 u (by simp))
theorem filter_snoc {vs:List Int} {u:Int}:(us.filter λx=>!decide (x∈vs++[u]))=(us.filter λx=>!decide (x∈vs)).filter λx=>!decide (x∈[u]):=by
  rw [filter_filter_not]
  exact List.filter_congr λx _=>by simp
theorem Inv.drops (h:Inv rows bs us ts sure) {vs:List Int} (hd:Drops rows vs rows') (hv:∀ v∈vs,v∈us) (hn:vs.Nodup):Inv rows' (bsV bs vs) (us.filter λx=>!decide (x∈vs)) ts (sure&&vs.all λv=>decide (v∈ts)):=by
  induction hd with
  | nil=>
    have e1:(us.filter λx=>!decide (x∈([]:List Int)))=us:=List.filter_eq_self.mpr λ_ _=>rfl
    have e2:∀ b:List Lt,(b.filter λl=>!decide (l.u∈([]:List Int)))=b:=λb=>List.filter_eq_self.mpr λ_ _=>rfl
    rw [e1]
    refine (h.doubt (λe=>by simp at e;exact e)).boxes λb=>?_
    rw [mem_bsV]
    constructor
    · rintro ⟨c,h1,_,rfl⟩;rw [e2];exact h1
    · intro hb;exact ⟨b,hb,λ_ h=>(nomatch h),(e2 b).symm⟩
  | @snoc rows1 rows2 vs u h1 h2 ih=>
    obtain ⟨n1,_,n3⟩:=List.nodup_append.mp hn
    have hu:u∉vs:=λm=>n3 u m u (by simp) rfl
    have i1:=ih (λv m=>hv v (by simp [m])) n1
    have i2:=i1.van (u:=u) (List.mem_filter.mpr ⟨hv u (by simp),by simp [hu]⟩) h2
    rw [filter_snoc]
    refine (i2.doubt λe=>?_).boxes (bsV_snoc hu)
    rw [List.all_append] at e
    simp at e
    simp
    exact ⟨⟨e.1,e.2.1⟩,e.2.2⟩
theorem Inv.accepts (h:Inv rows bs us ts sure) {ps:List (Int×Int)} (hps:∀ x∈spread ps,x∈us):¬Refuse rows ps:=by
  have sub:∀ x∈uidsOf ps,x∈us:=λx hx=>hps x (mem_uidsOf.mp hx)
  have nd:(uidsOf ps).Nodup:=(uidsOf_pw ps).imp (λh=>by lia)
  rintro (hs | ⟨dn,u,rst,rows1,e,hd,hg⟩)
  · rw [size_uids,h.lenR] at hs
    have e:uidsOf ps=us.filter (λx=>decide (x∈uidsOf ps)):=pw_ext (uidsOf_pw ps) (h.asc.filter _) λx=>by
      rw [List.mem_filter,decide_eq_true_iff]
      exact ⟨λm=>⟨sub x m,m⟩,λm=>m.2⟩
    have l:=List.length_filter_le (λx=>decide (x∈uidsOf ps)) us
    rw [←e] at l
    lia
  · rw [e] at nd sub
    obtain ⟨n1,n2,n3⟩:=List.nodup_append.mp nd
    have i1:=h.drops hd (λv m=>sub v (by simp [m])) n1
    obtain ⟨m,g,_⟩:=i1.spot (u:=u) (List.mem_filter.mpr ⟨sub u (by simp),by
      have:u∉dn:=λm=>n3 u m u (by simp) rfl
      simp [this]⟩)
    rw [g] at hg
    cases hg
end
end
section
open PySem
theorem lastU_ge {b:List Lt} (h:(uidsB b).Pairwise (·<·)):∀ y∈uidsB b,y<=lastU b:=by
  intro y hy
  unfold lastU
  rcases hl:b.getLast? with _ | l
  · rw [List.getLast?_eq_none_iff.mp hl] at hy;cases hy
  · obtain ⟨d,rfl⟩:=List.getLast?_eq_some_iff.mp hl
    unfold uidsB at h hy
    rw [List.map_append] at h hy
    rcases List.mem_append.mp hy with m | m
    · exact Int.le_of_lt ((List.pairwise_append.mp h).2.2 y m l.u (by simp))
    · rw [List.mem_singleton.mp m];exact Int.le_refl _
theorem lastU_in (b:List Lt):lastU b=0∨lastU b∈uidsB b:=by
  unfold lastU
  rcases hl:b.getLast? with _ | l
  · exact .inl rfl
  · exact .inr (List.mem_map_of_mem (f:=(·.u)) (List.mem_of_getLast? hl))
theorem mem_longer1 {b b':List Lt}:b'∈longer1 b↔∃ x,1+lastU b<=x/\x<=8/\b'=b++[newL x]:=by
  unfold longer1
  rw [List.mem_map]
  constructor
  · rintro ⟨x,hx,rfl⟩;have:=mem_irange.mp hx;exact ⟨x,by lia,by lia,rfl⟩
  · rintro ⟨x,h1,h2,rfl⟩;exact ⟨x,mem_irange.mpr (by lia),rfl⟩
theorem BoxIn.longer {b b':List Lt} {n:Nat} (h:BoxIn b n) (hb:b'∈longer1 b):BoxIn b' (n+1):=by
  obtain ⟨x,h1,h2,rfl⟩:=mem_longer1.mp hb
  have eu:uidsB (b++[newL x])=uidsB b++[x]:=by unfold uidsB;rw [List.map_append];rfl
  have ge:=lastU_ge h.asc
  refine ⟨by rw [List.length_append,h.len];rfl,?_,λu hu=>?_,λl hl=>?_⟩
  · rw [eu]
    exact List.pairwise_append.mpr ⟨h.asc,.cons (λ_ h=>nomatch h) .nil,λy hy z hz=>by rw [List.mem_singleton.mp hz];have:=ge y hy;lia⟩
  · rw [eu] at hu
    rcases List.mem_append.mp hu with m | m
    · exact h.rng u m
    · rw [List.mem_singleton.mp m]
      rcases lastU_in b with e | e
      · lia
      · have:=h.rng _ e;lia
  · rcases List.mem_append.mp hl with m | m
    · exact h.ok l m
    · rw [List.mem_singleton.mp m];exact flag_none
theorem snoc_at {α:Type} {l:List α} {x y:α} {i:Nat} (h:(l++[x])[i]?=some y):(i<l.length/\l[i]?=some y)∨(i=l.length/\y=x):=by
  rcases Nat.lt_trichotomy i l.length with c | c | c
  · rw [List.getElem?_append_left c] at h;exact .inl ⟨c,h⟩
  · subst c;rw [List.getElem?_concat_length] at h;exact .inr ⟨rfl,(Option.some.inj h).symm⟩
  · rw [List.getElem?_append_right (by lia),List.getElem?_eq_none (by simp;lia)] at h;cases h
theorem snoc_l {α:Type} {l:List α} {x:α} {i:Nat} (h:i<l.length):(l++[x])[i]?=l[i]?:=List.getElem?_append_left h
theorem put_is {α:Type} {l:List α} {p i:Nat} {x y:α} (h:(l.set p x)[i]?=some y):(i=p/\y=x)∨(i≠p/\l[i]?=some y):=by
  rw [List.getElem?_set] at h
  split at h
  · rename_i c
    split at h
    · exact .inl ⟨c.symm,(Option.some.inj h).symm⟩
    · cases h
  · rename_i c;exact .inr ⟨λe=>c e.symm,h⟩
theorem uidsB_upd {b:List Lt} {p:Nat} {l:Lt} {e:Fe} (h:b[p]?=some l):uidsB (b.set p (l.upd e))=uidsB b:=by
  apply List.ext_getElem?
  intro i
  unfold uidsB
  rw [List.getElem?_map,List.getElem?_map,List.getElem?_set]
  split
  · rename_i c;subst c
    rw [if_pos (lt_of_at h),h];rfl
  · rfl
section
variable {rows rows' rows1:List Lt} {bs bs':List (List Lt)} {us us' ts ts':List Int} {sure sure':Bool} {k a:Int} {e:Fe}
theorem Inv.expunge (h:Inv rows bs us ts sure) (h1:1<=k) (h2:k<=us.length) (hb:∀ b',b'∈bs'↔∃ b∈bs,b'∈behXp b k):Inv (dropAt rows (k - 1).toNat) bs' (us.eraseIdx (k - 1).toNat) ts sure:=by
  rw [dropAt_er]
  have hx:∀ b∈bs,behXp b k=[b.eraseIdx (k - 1).toNat]:=λb hb=>by
    unfold behXp
    rw [if_pos ⟨h1,by rw [(h.box b hb).len];exact h2⟩,List.eraseIdx_eq_take_drop_succ,show k.toNat=(k - 1).toNat+1 by lia]
  have may:May us ts rows sure (k - 1).toNat (k - 1).toNat:=⟨Nat.le_refl _,λc=>absurd c (Nat.lt_irrefl _)⟩
  refine h.cut (by lia) rfl (λi r hr=>⟨r,hr,rfl,.inl rfl⟩) id (λ_=>rfl) may (λb' hb'=>?_) ?_
  · obtain ⟨b,m,hb2⟩:=(hb b').mp hb'
    rw [hx b m] at hb2
    exact ⟨b,m,_,may,List.mem_singleton.mp hb2⟩
  · obtain ⟨b0,m0,e0⟩:=h.drawn
    exact ⟨b0.eraseIdx (k - 1).toNat,(hb _).mpr ⟨b0,m0,by rw [hx b0 m0];exact List.mem_singleton.mpr rfl⟩,by rw [uidsB_erase,e0]⟩
theorem Inv.grow (h:Inv rows bs us ts sure) {x:Int} (hu:∀ u∈us,u<x) (h0:1<=x) (h8:x<=8) (ht:x∉ts) (hb:∀ b',b'∈bs'↔∃ b∈bs,b'∈longer1 b):Inv (rows++[blank]) bs' (us++[x]) ts sure where
  asc:=List.pairwise_append.mpr ⟨h.asc,.cons (λ_ h=>nomatch h) .nil,λy hy z hz=>by rw [List.mem_singleton.mp hz];exact hu y hy⟩
  rng u m:=by
    rcases List.mem_append.mp m with m | m
    · exact h.rng u m
    · rw [List.mem_singleton.mp m];exact ⟨h0,h8⟩
  lenR:=by rw [List.length_append,List.length_append,h.lenR];rfl
  drawn:=by
    obtain ⟨b0,m0,e0⟩:=h.drawn
    refine ⟨b0++[newL x],(hb _).mpr ⟨b0,m0,mem_longer1.mpr ⟨x,?_,h8,rfl⟩⟩,?_⟩
    · rcases lastU_in b0 with e | e
      · lia
      · rw [e0] at e;have:=hu _ e;lia
    · rw [←e0];unfold uidsB;rw [List.map_append];rfl
  box b' hb':=by
    obtain ⟨b,m,hl⟩:=(hb b').mp hb'
    rw [List.length_append]
    exact (h.box b m).longer hl
  told b' hb' i u hi hm:=by
    obtain ⟨b,m,hl⟩:=(hb b').mp hb'
    obtain ⟨y,_,_,rfl⟩:=mem_longer1.mp hl
    rcases snoc_at hi with ⟨c,hi⟩ | ⟨_,rfl⟩
    · have:=h.told b m i u hi hm
      unfold uidsB at this ⊢
      rw [List.map_append,List.getElem?_append_left (lt_of_at this)]
      exact this
    · exact absurd hm ht
  uid i r u hr hu:=by
    rcases snoc_at hr with ⟨c,hr⟩ | ⟨c,rfl⟩
    · rw [snoc_l (by rw [←h.lenR];exact c)] at hu
      exact h.uid i r u hr hu
    · rcases snoc_at hu with ⟨c2,_⟩ | ⟨_,rfl⟩
      · rw [h.lenR] at c;lia
      · rw [if_neg ht];rfl
  fl r hr:=by
    rcases List.mem_append.mp hr with m | m
    · exact h.fl r m
    · rw [List.mem_singleton.mp m];exact flag_none
  same i r l b' hr hb' hl:=by
    obtain ⟨b,m,hl2⟩:=(hb b').mp hb'
    obtain ⟨y,_,_,rfl⟩:=mem_longer1.mp hl2
    rcases snoc_at hr with ⟨c,hr⟩ | ⟨c,rfl⟩
    · rw [snoc_l (by rw [(h.box b m).len,←h.lenR];exact c)] at hl
      exact h.same i r l b hr m hl
    · rcases snoc_at hl with ⟨c2,_⟩ | ⟨_,rfl⟩
      · rw [(h.box b m).len,←h.lenR] at c2;lia
      · exact ⟨λ_=>rfl,λ_=>rfl⟩
theorem Inv.fetch (h:Inv rows bs us ts sure) {p:Nat} {up:Int} {rp:Lt} (hp:us[p]?=some up) (he:∀ u,e.u=some u->u=up) (hf:∀ ss,e.f=some ss->∀ s∈ss,PyData.strOk s=true) (hr:rows[p]?=some rp)
    (hb:∀ b',b'∈bs'↔∃ b∈bs,∃ l,b[p]?=some l/\e.u.getD l.u=l.u/\b'=b.set p (l.upd e)) (ht:∀ x,x∈ts'↔x∈ts∨e.u=some x):Inv (rows.set p (updR rp e)) bs' us ts' sure where
  asc:=h.asc
  rng:=h.rng
  lenR:=by rw [List.length_set,h.lenR]
  drawn:=by
    obtain ⟨b0,m0,e0⟩:=h.drawn
    obtain ⟨l,hl,hlu⟩:=atB (by rw [e0];exact hp)
    refine ⟨_,(hb _).mpr ⟨b0,m0,l,hl,?_,rfl⟩,by rw [uidsB_upd hl,e0]⟩
    rcases e1:e.u with _ | u
    · rfl
    · rw [hlu,←he u e1];rfl
  box b' hb':=by
    obtain ⟨b,m,l,hl,hu,rfl⟩:=(hb b').mp hb'
    have B:=h.box b m
    refine ⟨by rw [List.length_set,B.len],by rw [uidsB_upd hl];exact B.asc,by rw [uidsB_upd hl];exact B.rng,λq hq=>?_⟩
    rcases List.mem_or_eq_of_mem_set hq with hq | rfl
    · exact B.ok q hq
    · show FlagOK (match e.f with | some ss=>flagsV ss | none=>l.f)
      rcases e2:e.f with _ | ss
      · exact B.ok l (List.mem_of_getElem? hl)
      · exact flags_ok (hf ss e2)
  told b' hb' i u hi hm:=by
    obtain ⟨b,m,l,hl,hu,rfl⟩:=(hb b').mp hb'
    rw [uidsB_upd hl]
    rcases (ht u).mp hm with c | c
    · exact h.told b m i u hi c
    · have:=he u c
      subst this
      have:=asc_eq h.asc hi hp
      subst this
      rw [c] at hu
      rw [uidsB_at hl,←hu]
      rfl
  uid i r u hr' hu:=by
    rcases put_is hr' with ⟨rfl,rfl⟩ | ⟨hn,hr'⟩
    · rw [hu] at hp
      injection hp with hp
      subst hp
      have h0:=h.uid i rp u hr hu
      show e.u.getD rp.u=_
      rcases e1:e.u with _ | x
      · show rp.u=_
        rw [h0]
        simp only [ht u,e1]
        simp
      · have:=he x e1
        subst this
        rw [if_pos ((ht x).mpr (.inr e1))]
        rfl
    · rw [h.uid i r u hr' hu]
      have:u∈ts'↔u∈ts:=by
        rw [ht u]
        constructor
        · rintro (c | c)
          · exact c
          · have:=he u c
            subst this
            exact absurd (asc_eq h.asc hu hp) hn
        · exact .inl
      simp only [this]
  fl r hr':=by
    rcases List.mem_or_eq_of_mem_set hr' with hq | rfl
    · exact h.fl r hq
    · show FlagOK (match e.f with | some ss=>flagsV ss | none=>rp.f)
      rcases e2:e.f with _ | ss
      · exact h.fl rp (List.mem_of_getElem? hr)
      · exact flags_ok (hf ss e2)
  same i r l b' hr' hb' hl':=by
    obtain ⟨b,m,l0,hl,hu,rfl⟩:=(hb b').mp hb'
    rcases put_is hr' with ⟨rfl,rfl⟩ | ⟨hn,hr'⟩
    · rcases put_is hl' with ⟨_,rfl⟩ | ⟨hn,_⟩
      · obtain ⟨s1,s2⟩:=h.same i rp l0 b hr m hl
        unfold updR Lt.upd
        dsimp only
        rcases e2:e.f with _ | ss <;> rcases e3:e.m with _ | mm <;> dsimp only
        · exact ⟨s1,s2⟩
        · exact ⟨s1,λ_=>rfl⟩
        · exact ⟨λ_=>rfl,λ_=>rfl⟩
        · exact ⟨λ_=>rfl,λ_=>rfl⟩
      · exact absurd rfl hn
    · rcases put_is hl' with ⟨rfl,_⟩ | ⟨_,hl'⟩
      · exact absurd rfl hn
      · exact h.same i r l b hr' m hl'
end
end
section
open PySem
noncomputable def behA:Ans->List Lt->List (List Lt)
  | .exists_ k,b=>behEx b k
  | .expunge k,b=>behXp b k
  | .vanished ps e,b=>if e then [b] else behVa b ps
  | .fetch k e,b=>behFe b k e
  | .other _,b=>[b]
noncomputable def tellsA (us:List Int):Ans->Int->Prop
  | .fetch k e,x=>e.u.isSome=true/\us[(k - 1).toNat]?=some x
  | _,_=>False
noncomputable def sureA (us us' ts:List Int):Ans->Prop
  | .vanished _ false=>∀ u∈us,u∉us'->u∈ts
  | _=>True
structure Stt (rows:List Lt) (bs:List (List Lt)) (us ts:List Int) (sure:Bool) (a:Int):Prop where
  inv:Inv rows bs us ts sure
  sub:∀ t∈ts,t∈us
  top:∀ u∈us,u<=a
  a0:0<=a
  a8:a<=8
theorem mem_behVa {b b':List Lt} {ps:List (Int×Int)}:b'∈behVa b ps↔(∀ v∈uidsOf ps,v∈uidsB b)/\b'=b.filter λl=>!decide (l.u∈uidsOf ps):=by
  have e:(b.filter λl=>!decide (l.u∈uidsOf ps))=b.filter λl=>!decide (l.u∈spread ps):=List.filter_congr λl _=>by simp only [mem_uidsOf]
  rw [e]
  unfold behVa
  split
  · rename_i c
    rw [List.mem_singleton]
    exact ⟨λh=>⟨λv hv=>of_decide_eq_true (List.all_eq_true.mp c v (mem_uidsOf.mp hv)),h⟩,λh=>h.2⟩
  · rename_i c
    exact ⟨λh=>(nomatch h),λh=>absurd (List.all_eq_true.mpr λv hv=>decide_eq_true (h.1 v (mem_uidsOf.mpr hv))) c⟩
section
variable {rows rows' rows1:List Lt} {bs bs':List (List Lt)} {us us' ts ts' ts1:List Int} {sure sure':Bool} {a a':Int} {A:Ans}
theorem bad_no (h:Inv rows bs us ts sure) {k u j:Int} {r:Lt} (hu:us[(k - 1).toNat]?=some u) (hk:1<=k) (hj:0<=j) (hr:rows[j.toNat]?=some r):BadUid k u j r=false:=by
  obtain ⟨x,hx⟩:=at_of_lt (l:=us) (i:=j.toNat) (by rw [←h.lenR];exact lt_of_at hr)
  have e:=h.uid _ _ _ hr hx
  unfold BadUid
  by_cases hz:0<r.u
  · have hxr:r.u=x:=by
      split at e
      · exact e
      · lia
    rw [hxr]
    rcases Int.lt_trichotomy j (k - 1) with c | c | c
    · have:=asc_lt h.asc hx hu (by lia)
      simp;lia
    · rw [c,hu] at hx
      injection hx with hx
      subst hx
      simp;lia
    · have:=asc_lt h.asc hu hx (by lia)
      simp;lia
  · simp;lia
theorem filter_ts (hs:∀ t∈ts,t∈us):∀ u∈us,u∈(us.filter λx=>decide (x∈ts))↔u∈ts:=λu hu=>by simp [hu]
theorem Stt.step (h:Stt rows bs us ts sure a) (hd:Deed us a A us' a'):¬Refused rows A/\(Took rows A rows'->(∀ x,x∈ts1↔x∈ts∨tellsA us A x)->(sure'=true->sure=true/\sureA us us' ts A)->(∀ b',b'∈bs'↔∃ b∈bs,b'∈behA A b)->Stt rows' bs' us' (us'.filter λx=>decide (x∈ts1)) sure' a'):=by
  have fin:∀ {rows':List Lt} {bs'':List (List Lt)} {us':List Int} {a'},Inv rows' bs'' us' ts1 sure'->(∀ u∈us',u<=a')->0<=a'->a'<=8->Stt rows' bs'' us' (us'.filter λx=>decide (x∈ts1)) sure' a':=λi t a0 a8=>
    ⟨i.tells λu hu=>by simp [hu],λt ht=>(List.mem_filter.mp ht).1,t,a0,a8⟩
  have tsE:∀ {us'':List Int},(∀ x,x∈ts1↔x∈ts∨False)->∀ u∈us'',u∈ts1↔u∈ts:=λe u _=>by rw [e u];simp
  have idb:(∀ b',b'∈bs'↔∃ b∈bs,b'∈[b])->∀ b',b'∈bs'↔b'∈bs:=λhb b'=>by rw [hb b'];simp
  cases A with
  | exists_ k=>
    obtain ⟨rfl,hd⟩:=hd
    have hk:(rows.length:Int)<=us'.length:=by
      rw [h.inv.lenR]
      rcases hd with ⟨rfl,_⟩ | ⟨rfl,_⟩
      · lia
      · simp only [List.length_append,List.length_singleton];lia
    refine ⟨λhr=>by unfold Refused at hr;lia,λht hts hs hb=>?_⟩
    obtain ⟨_,rfl⟩:=ht
    rcases hd with ⟨rfl,rfl⟩ | ⟨rfl,h1,h2⟩
    · rw [h.inv.lenR,show (us'.length:Int) - us'.length=0 by lia]
      rw [show rows++List.replicate (0:Int).toNat blank=rows by simp]
      refine fin (((h.inv.doubt λe=>(hs e).1).boxes (idb λb'=>?_)).tells (tsE hts)) h.top h.a0 h.a8
      rw [hb b']
      constructor <;> rintro ⟨b,m,hm⟩ <;> refine ⟨b,m,?_⟩
      · have hl:=(h.inv.box b m).len
        change b'∈behEx b us'.length at hm
        unfold behEx at hm
        rw [hl,if_neg (by lia),if_pos rfl] at hm
        exact hm
      · have hl:=(h.inv.box b m).len
        change b'∈behEx b us'.length
        unfold behEx
        rw [hl,if_neg (by lia),if_pos rfl]
        exact hm
    · rw [h.inv.lenR,show ((us++[a']).length:Int) - us.length=1 by simp;lia]
      refine fin (((h.inv.doubt λe=>(hs e).1).grow (x:=a') (bs':=bs') (λu hu=>by have:=h.top u hu;lia) (by have:=h.a0;lia) h2 (λm=>by have:=h.top a' (h.sub a' m);lia) λb'=>?_).tells (tsE hts)) (λu hu=>?_) (by have:=h.a0;lia) h2
      · rw [hb b']
        have e:∀ b∈bs,behA (.exists_ ((us++[a']).length:Int)) b=longer1 b:=λb m=>by
          have hl:=(h.inv.box b m).len
          change behEx b ((us++[a']).length:Int)=_
          unfold behEx
          have l1:(us++[a']).length=us.length+1:=by simp
          rw [hl,l1,if_neg (by lia),if_neg (by lia)]
          unfold longer
          simp
        constructor <;> rintro ⟨b,m,hm⟩ <;> refine ⟨b,m,?_⟩
        · rw [←e b m];exact hm
        · rw [e b m];exact hm
      · rcases List.mem_append.mp hu with m | m
        · have:=h.top u m;lia
        · rw [List.mem_singleton.mp m];exact Int.le_refl _
  | expunge k=>
    obtain ⟨h1,h2,rfl,rfl⟩:=hd
    refine ⟨λhr=>hr ⟨h1,by rw [h.inv.lenR];exact h2⟩,λht hts hs hb=>?_⟩
    obtain ⟨_,_,rfl⟩:=ht
    rw [show us.take (k - 1).toNat++us.drop ((k - 1).toNat+1)=us.eraseIdx (k - 1).toNat from (List.eraseIdx_eq_take_drop_succ _ _).symm]
    exact fin (((h.inv.doubt λe=>(hs e).1).expunge h1 h2 hb).tells (tsE hts)) (λu hu=>h.top u ((List.eraseIdx_sublist _ _).subset hu)) h.a0 h.a8
  | vanished ps e=>
    cases e with
    | true=>
      obtain ⟨rfl,rfl,_⟩:=hd
      refine ⟨λhr=>(by cases hr.1),λht hts hs hb=>?_⟩
      obtain rfl:rows'=rows:=ht
      exact fin (((h.inv.doubt λe=>(hs e).1).boxes (idb hb)).tells (tsE hts)) h.top h.a0 h.a8
    | false=>
      obtain ⟨rfl,gone,hne,hsub,rfl,po⟩:=hd
      have sub:∀ x∈uidsOf ps,x∈us:=λx hx=>hsub x ((po.mem x).mp (mem_uidsOf.mp hx))
      refine ⟨λhr=>h.inv.accepts (λx hx=>hsub x ((po.mem x).mp hx)) hr.2,λht hts hs hb=>?_⟩
      have hD:Drops rows (uidsOf ps) rows':=ht
      have i:=h.inv.drops hD sub ((uidsOf_pw ps).imp (λh=>by lia))
      have eU:(us.filter λx=>!decide (x∈uidsOf ps))=us.filter λx=>!decide (x∈gone):=List.filter_congr λx _=>by simp only [mem_uidsOf,po.mem x]
      rw [eU] at i
      refine fin (((i.doubt λe=>?_).boxes λb'=>?_).tells (tsE hts)) (λu hu=>h.top u (List.mem_filter.mp hu).1) h.a0 h.a8
      · obtain ⟨s1,s2⟩:=hs e
        rw [s1,Bool.true_and,List.all_eq_true]
        refine λv hv=>decide_eq_true (s2 v (sub v hv) λm=>?_)
        have:=(List.mem_filter.mp m).2
        rw [decide_eq_true ((po.mem v).mp (mem_uidsOf.mp hv))] at this
        cases this
      · rw [hb b',mem_bsV]
        constructor
        · rintro ⟨b,m,hm⟩;exact ⟨b,m,mem_behVa.mp hm⟩
        · rintro ⟨b,m,hm⟩;exact ⟨b,m,mem_behVa.mpr hm⟩
  | fetch k e=>
    obtain ⟨rfl,rfl,h1,h2,hu,hf,_⟩:=hd
    obtain ⟨up,hup⟩:=at_of_lt (l:=us') (i:=(k - 1).toNat) (by lia)
    have eu:∀ u,e.u=some u->u=up:=λu eu=>by have:=hu u eu;rw [hup] at this;exact (Option.some.inj this).symm
    refine ⟨?_,λht hts hs hb=>?_⟩
    · rintro (hr | ⟨u,j,r,e1,e2,e3,e4⟩)
      · exact hr ⟨h1,by rw [h.inv.lenR];exact h2⟩
      · rw [bad_no h.inv (hu u e1) h1 e2 e3] at e4;cases e4
    · obtain ⟨_,_,_,r,hr,rfl⟩:=ht
      refine fin ((h.inv.doubt λe=>(hs e).1).fetch hup eu (λss hss=>(hf ss hss).2) hr (λb'=>?_) λx=>?_) h.top h.a0 h.a8
      · rw [hb b']
        constructor
        · rintro ⟨b,m,hm⟩
          change b'∈behFe b k e at hm
          unfold behFe at hm
          rw [if_pos ⟨h1,by rw [(h.inv.box b m).len];exact h2⟩] at hm
          rcases hl:b[(k - 1).toNat]? with _ | l <;> rw [hl] at hm
          · cases hm
          · dsimp only at hm
            split at hm
            · rename_i c;exact ⟨b,m,l,hl,c,List.mem_singleton.mp hm⟩
            · cases hm
        · rintro ⟨b,m,l,hl,c,rfl⟩
          refine ⟨b,m,?_⟩
          show _∈behFe b k e
          unfold behFe
          rw [if_pos ⟨h1,by rw [(h.inv.box b m).len];exact h2⟩,hl]
          dsimp only
          rw [if_pos c]
          simp
      · rw [hts x]
        show _∨(_/\_)↔_
        rw [hup]
        rcases e1:e.u with _ | u
        · simp
        · have:=eu u e1
          subst this
          simp
  | other i=>
    obtain ⟨_,rfl,rfl⟩:=hd
    refine ⟨λhr=>hr,λht hts hs hb=>?_⟩
    obtain rfl:rows'=rows:=ht
    exact fin (((h.inv.doubt λe=>(hs e).1).boxes (idb hb)).tells (tsE hts)) h.top h.a0 h.a8
theorem Stt.len8 (h:Stt rows bs us ts sure a):us.length<=8:=by
  have:∀ (l:List Int) (lo:Int),l.Pairwise (·<·)->(∀ u∈l,lo<u/\u<=8)->lo<=8->(l.length:Int)<=8 - lo:=by
    intro l
    induction l with
    | nil=>intro lo _ _ h;simp;lia
    | cons x l ih=>
      intro lo h1 h2 h3
      obtain ⟨p1,p2⟩:=List.pairwise_cons.mp h1
      have hx:=h2 x (by simp)
      have:=ih x p2 (λu hu=>⟨p1 u hu,(h2 u (by simp [hu])).2⟩) hx.2
      simp;lia
  have:=this us 0 h.inv.asc (λu hu=>by have:=h.inv.rng u hu;lia) (by lia)
  lia
theorem Deed.ok (h:Deed us a A us' a') (hl:us.length<=8):A.OK:=by
  cases A with
  | exists_ k=>
    obtain ⟨rfl,hd⟩:=h
    show 0<=(us'.length:Int)/\_
    rcases hd with ⟨rfl,_⟩ | ⟨rfl,_⟩
    · lia
    · simp;lia
  | expunge k=>obtain ⟨h1,h2,_⟩:=h;exact ⟨by lia,by lia⟩
  | vanished ps e=>
    cases e with
    | true=>exact h.2.2
    | false=>obtain ⟨_,g,_,_,_,po⟩:=h;exact ⟨po.sm,by have:=po.len;lia⟩
  | fetch k e=>obtain ⟨_,_,h1,h2,_,hf,_⟩:=h;exact ⟨⟨by lia,by lia⟩,hf⟩
  | other i=>exact h.1
end
end
section
open PySem
theorem Drops.none {rows vs rows'} (h:Drops rows vs rows'):vs=[]->rows'=rows:=by
  cases h with
  | nil=>exact λ_=>rfl
  | snoc h1 h2=>exact λe=>absurd e (by simp)
theorem Drops.one {rows vs rows'} {x:Int} (h:Drops rows vs rows'):vs=[x]->StepD rows x rows':=by
  cases h with
  | nil=>exact λe=>absurd e (by simp)
  | @snoc rows1 rows2 us u h1 h2=>
    intro e
    cases us with
    | nil=>obtain rfl:=h1.none rfl;injection e with e;subst e;exact h2
    | cons y us=>simp at e
structure Tail (rows:List Lt) (d:Nat) (last:Int):Prop where
  le:∀ r∈rows,r.u<=last
  len:d<=rows.length
  edge:∀ r,0<d->rows[d - 1]?=some r->r.u≠0
theorem Tail.step {rows rows2:List Lt} {d:Nat} {last u:Int} (h:Tail rows d last) (hu:last<u) (hs:StepD rows u rows2):Tail rows2 d last/\rows2.length+1=rows.length:=by
  obtain ⟨p,r,rows1,g,hr,hp,hB,rfl⟩:=hs
  obtain ⟨k,g1,gl,⟨x,hx,xu,_⟩ | ⟨gt,g2⟩⟩:=goneL_spec u rows 0 (-1)
  · have:=h.le x (List.mem_of_getElem? hx);lia
  · have hk:k=rows.length:=by
      rcases Nat.lt_or_ge k rows.length with c | c
      · obtain ⟨x,hx⟩:=at_of_lt c
        have:=gt x hx
        have:=h.le x (List.mem_of_getElem? hx)
        lia
      · lia
    rcases g2 with ⟨rfl,g2⟩ | ⟨m,y,rfl,hy,g2⟩
    · replace g2:=g.symm.trans g2
      rw [if_pos (by lia)] at g2
      cases g2
    · replace g2:=g.symm.trans g2
      by_cases y0:y.u=0
      · rw [if_pos y0] at g2
        have:=Option.some.inj g2
        obtain rfl:p=(m:Int):=by lia
        rw [Int.toNat_natCast] at hr hB
        rw [Int.toNat_natCast,dropAt_er]
        rw [hy] at hr
        obtain rfl:=Option.some.inj hr
        rw [if_pos y0] at hB
        have hl1:rows1.length=m+1:=hB.1.trans hk.symm
        have dm:d<=m:=by
          rcases Nat.lt_or_ge m d with c | c
          · have:=h.len
            have:d=m+1:=by lia
            subst this
            exact absurd y0 (h.edge y (by lia) hy)
          · exact c
        have back:∀ (i:Nat) (q:Lt),rows1[i]?=some q->∃ q0,rows[i]?=some q0/\q.u=q0.u:=λi q hq=>by
          obtain ⟨q0,hq0⟩:=at_of_lt (l:=rows) (i:=i) (by rw [←hB.1];exact lt_of_at hq)
          obtain ⟨q1,b1,b2,_⟩:=hB.2 i q0 hq0
          rw [b1] at hq
          exact ⟨q0,hq0,by rw [←Option.some.inj hq];exact b2⟩
        have hl2:(rows1.eraseIdx m).length=m:=by rw [er_len (by lia),hl1];rfl
        refine ⟨⟨λq hq=>?_,by lia,λq hd hq=>?_⟩,by lia⟩
        · obtain ⟨i,hi⟩:=List.getElem?_of_mem ((List.eraseIdx_sublist _ _).subset hq)
          obtain ⟨q0,hq0,e⟩:=back i q hi
          rw [e];exact h.le q0 (List.mem_of_getElem? hq0)
        · rw [er_at,if_pos (by lia)] at hq
          obtain ⟨q0,hq0,e⟩:=back _ q hq
          rw [e];exact h.edge q0 hd hq0
      · rw [if_neg y0] at g2;cases g2
theorem Tail.drops {rows rows':List Lt} {d:Nat} {last:Int} {vs:List Int} (hd:Drops rows vs rows') (h:Tail rows d last) (hv:∀ v∈vs,last<v):Tail rows' d last/\rows'.length+vs.length=rows.length:=by
  induction hd with
  | nil=>exact ⟨h,rfl⟩
  | @snoc rows1 rows2 vs u h1 h2 ih=>
    obtain ⟨i1,i2⟩:=ih λv m=>hv v (by simp [m])
    obtain ⟨j1,j2⟩:=i1.step (hv u (by simp)) h2
    exact ⟨j1,by rw [List.length_append];simp;lia⟩
theorem uidsOf_one {p:Int×Int}:uidsOf [p]=irange (min p.1 p.2) (max p.1 p.2+1):=pw_ext (uidsOf_pw _) (irange_pw _ _) λx=>by
  rw [mem_uidsOf]
  unfold spread
  simp
section
variable {rows rows' rows1:List Lt} {bs bs':List (List Lt)} {us us' ts ts' ts1:List Int} {sure sure':Bool} {a a':Int} {A:Ans}
theorem Inv.row_of (h:Inv rows bs us ts sure) {i:Nat} {u:Int} (hu:us[i]?=some u) (ht:u∈ts):∃ r,rows[i]?=some r/\r.u=u:=by
  obtain ⟨r,hr⟩:=at_of_lt (l:=rows) (i:=i) (by rw [h.lenR];exact lt_of_at hu)
  exact ⟨r,hr,by rw [h.uid i r u hr hu,if_pos ht]⟩
theorem Inv.behind (h:Inv rows bs us ts sure) {d:Nat} {last:Int} {ps:List (Int×Int)} (hps:ps=[(last+1+((us.length:Int) - d),last+1)]) (hd:d<=us.length) (hT:Tail rows d last) (hB:∀ b∈bs,∀ v∈uidsB b,last<v->v∈(uidsB b).drop d) :
    (∀ rows',¬Took rows (.vanished ps false) rows')/\∀ b∈bs,behVa b ps=[]:=by
  have e:uidsOf ps=irange (last+1) (last+1+((us.length:Int) - d)+1):=by
    rw [hps,uidsOf_one]
    dsimp only
    congr 1 <;> lia
  have el:(uidsOf ps).length=us.length - d+1:=by
    rw [e,irange_len];lia
  have gt:∀ v∈uidsOf ps,last<v:=λv hv=>by rw [e] at hv;have:=mem_irange.mp hv;lia
  refine ⟨λrows' ht=>?_,λb hb=>?_⟩
  · have hD:Drops rows (uidsOf ps) rows':=ht
    obtain ⟨t,tl⟩:=hT.drops hD gt
    have:=t.len
    have:=h.lenR
    lia
  · rcases hx:behVa b ps with _ | ⟨b',l⟩
    · rfl
    · obtain ⟨c,_⟩:=mem_behVa.mp (by rw [hx];simp:b'∈behVa b ps)
      have e2:uidsOf ps=((uidsB b).drop d).filter λx=>decide (x∈uidsOf ps):=pw_ext (uidsOf_pw ps) (((h.box b hb).asc.sublist (List.drop_sublist _ _)).filter _) λx=>by
        rw [List.mem_filter,decide_eq_true_iff]
        exact ⟨λm=>⟨hB b hb x (c x m) (gt x m),m⟩,λm=>m.2⟩
      have l1:=List.length_filter_le (λx=>decide (x∈uidsOf ps)) ((uidsB b).drop d)
      have l2:(uidsB b).length=us.length:=by rw [←(h.box b hb).len];unfold uidsB;simp
      rw [←e2,List.length_drop,l2] at l1
      lia
theorem Inv.untrue (h:Inv rows bs us ts sure) (hu:Untrue us ts A):(∀ rows',¬Took rows A rows')/\∀ b∈bs,behA A b=[]:=by
  cases A with
  | exists_ k=>
    obtain ⟨h0,h1⟩:=hu
    refine ⟨λrows' ht=>?_,λb hb=>?_⟩
    · have:=ht.1;rw [h.lenR] at this;lia
    · show behEx b k=[]
      unfold behEx
      rw [(h.box b hb).len,if_pos h1]
  | expunge k=>
    have hk:¬(1<=k/\k<=(us.length:Int)):=by
      rcases hu with e | e | e <;> lia
    refine ⟨λrows' ht=>hk ⟨ht.1,by have:=ht.2.1;rw [h.lenR] at this;exact this⟩,λb hb=>?_⟩
    show behXp b k=[]
    unfold behXp
    rw [(h.box b hb).len,if_neg hk]
  | fetch k e=>
    rcases hu with ⟨_,hk⟩ | ⟨p,u,o,rfl,hkn,k1,k2,o1,_,hc⟩
    · have hk:¬(1<=k/\k<=(us.length:Int)):=by lia
      refine ⟨λrows' ht=>hk ⟨ht.1,by have:=ht.2.1;rw [h.lenR] at this;exact this⟩,λb hb=>?_⟩
      show behFe b k e=[]
      unfold behFe
      rw [(h.box b hb).len,if_neg hk]
    · obtain ⟨p0,hp,ht⟩:=kn_mem.mp hkn
      obtain ⟨r,hr,ru⟩:=h.row_of hp ht
      have u1:=h.rng u (List.mem_of_getElem? hp)
      refine ⟨λrows' htk=>?_,λb hb=>?_⟩
      · have:=htk.2.2.1 o rfl p r p0 hr
        unfold BadUid at this
        rw [ru] at this
        simp at this
        lia
      · show behFe b k _=[]
        unfold behFe
        split
        · rcases hl:b[(k - 1).toNat]? with _ | l
          · rfl
          · dsimp only
            rw [if_neg]
            intro e
            change o=l.u at e
            have hbp:=h.told b hb p.toNat u hp ht
            have hbl:=uidsB_at hl
            rw [←e] at hbl
            have asc:=(h.box b hb).asc
            rcases hc with ⟨c1,c2⟩ | ⟨c1,c2⟩ | ⟨c1,c2⟩
            · have:=asc_lt asc hbl hbp (by lia);lia
            · have:=asc_lt asc hbp hbl (by lia);lia
            · rw [c1,hbp] at hbl;injection hbl;lia
        · rfl
  | vanished ps e=>
    obtain ⟨rfl,⟨p,u,v,rfl,k1,k2,k3⟩ | ⟨last,behind,rfl,l0,l8,b0,b8,hc⟩⟩:=hu
    · obtain ⟨p0,hp,hpt⟩:=kn_mem.mp k1
      obtain ⟨_,hq,hqt⟩:=kn_mem.mp k2
      rw [show (p+1).toNat=p.toNat+1 by lia] at hq
      have uv:=asc_lt h.asc hp hq (by lia)
      have hv:v≠u+1:=λe=>k3 (e▸k2)
      have e1:uidsOf [(u+1,u+1)]=[u+1]:=by
        rw [uidsOf_one]
        unfold irange
        dsimp only
        rw [show max (u+1) (u+1)+1 - min (u+1) (u+1)=1 by lia,show min (u+1) (u+1)=u+1 by lia]
        simp
      have between:∀ l:List Int,l.Pairwise (·<·)->∀ i j w,l[i]?=some u->l[i+1]?=some v->l[j]?=some w->u<w->w<v->False:=λl hl i j w a1 a2 a3 a4 a5=>by
        have:=asc_idx hl a1 a3 a4
        have:=asc_idx hl a3 a2 a5
        lia
      refine ⟨λrows' ht=>?_,λb hb=>?_⟩
      · have hD:Drops rows (uidsOf [(u+1,u+1)]) rows':=ht
        obtain ⟨s,_,_,g,_⟩:=hD.one e1
        obtain ⟨r,hr,ru⟩:=h.row_of hp hpt
        obtain ⟨r2,hr2,ru2⟩:=h.row_of hq hqt
        have u1:=h.rng u (List.mem_of_getElem? hp)
        have rowU:∀ (i:Nat) (r:Lt),rows[i]?=some r->r.u≠0->us[i]?=some r.u:=λi r hr hn=>by
          obtain ⟨x,hx⟩:=at_of_lt (l:=us) (i:=i) (by rw [←h.lenR];exact lt_of_at hr)
          have:=h.uid i r x hr hx
          split at this
          · rw [this];exact hx
          · exact absurd this hn
        obtain ⟨k,g1,gl,⟨x,hx,xu,_⟩ | ⟨gt,g2⟩⟩:=goneL_spec (u+1) rows 0 (-1)
        · have:=rowU k x hx (by lia)
          exact between us h.asc _ k _ hp hq this (by lia) (by lia)
        · have c1:k<=p.toNat+1:=by
            rcases Nat.lt_or_ge (p.toNat+1) k with c | c
            · have:=g1 _ r2 c hr2;lia
            · exact c
          have c2:p.toNat<k:=by
            rcases Nat.lt_or_ge p.toNat k with c | c
            · exact c
            · obtain ⟨x,hx⟩:=at_of_lt (l:=rows) (i:=k) (by have:=lt_of_at hr;lia)
              have:=gt x hx
              have hx2:=rowU k x hx (by lia)
              have:=asc_idx h.asc hp hx2 (by lia)
              lia
          rcases g2 with ⟨rfl,_⟩ | ⟨m,y,rfl,hy,g2⟩
          · lia
          · obtain rfl:m=p.toNat:=by lia
            rw [hr] at hy
            obtain rfl:=Option.some.inj hy
            rw [if_neg (by lia)] at g2
            replace g2:=g.symm.trans g2
            cases g2
      · show behVa b _=[]
        rcases hx:behVa b [(u+1,u+1)] with _ | ⟨b',l⟩
        · rfl
        · obtain ⟨c,_⟩:=mem_behVa.mp (by rw [hx];simp:b'∈behVa b [(u+1,u+1)])
          obtain ⟨j,hj⟩:=List.getElem?_of_mem (c (u+1) (by rw [e1];simp))
          exact (between _ (h.box b hb).asc _ j _ (h.told b hb _ _ hp hpt) (h.told b hb _ _ hq hqt) hj (by lia) (by lia)).elim
    · rcases hc with ⟨hk,rfl,rfl⟩ | ⟨p,hkn,rfl,hlast⟩
      · refine h.behind (d:=0) (last:=0) (by simp) (Nat.zero_le _) ⟨λr hr=>?_,Nat.zero_le _,λr c=>absurd c (by lia)⟩ (λb hb v hv _=>by rw [List.drop_zero];exact hv)
        obtain ⟨i,hi⟩:=List.getElem?_of_mem hr
        obtain ⟨x,hx⟩:=at_of_lt (l:=us) (i:=i) (by rw [←h.lenR];exact lt_of_at hi)
        rw [h.uid i r x hi hx]
        split
        · rename_i ht
          have:((i:Int),x)∈kn us ts:=kn_mem.mpr ⟨by lia,by rw [Int.toNat_natCast];exact hx,ht⟩
          rw [hk] at this;cases this
        · exact Int.le_refl _
      · obtain ⟨p0,hp,hpt⟩:=kn_mem.mp hkn
        have hpl:=lt_of_at hp
        refine h.behind (d:=p.toNat+1) (last:=last) (by congr 2;congr 1;lia) (by lia) ⟨λr hr=>?_,by rw [h.lenR];lia,λr _ hr=>?_⟩ (λb hb v hv hlt=>?_)
        · obtain ⟨i,hi⟩:=List.getElem?_of_mem hr
          obtain ⟨x,hx⟩:=at_of_lt (l:=us) (i:=i) (by rw [←h.lenR];exact lt_of_at hi)
          rw [h.uid i r x hi hx]
          split
          · rename_i ht
            have:=hlast i x (kn_mem.mpr ⟨by lia,by rw [Int.toNat_natCast];exact hx,ht⟩)
            rcases Nat.lt_or_ge i p.toNat with c | c
            · exact Int.le_of_lt (asc_lt h.asc hx hp c)
            · obtain rfl:i=p.toNat:=by lia
              rw [hx] at hp;injection hp;lia
          · exact l0
        · obtain ⟨x,hx,xu⟩:=h.row_of hp hpt
          rw [Nat.add_sub_cancel,hx] at hr
          rw [←Option.some.inj hr,xu]
          have:=h.rng last (List.mem_of_getElem? hp)
          lia
        · obtain ⟨j,hj⟩:=List.getElem?_of_mem hv
          have:=asc_idx (h.box b hb).asc (h.told b hb _ _ hp hpt) hj hlt
          refine List.mem_of_getElem? (i:=j - (p.toNat+1)) ?_
          rw [List.getElem?_drop,show p.toNat+1+(j - (p.toNat+1))=j by lia]
          exact hj
  | other i=>exact hu.elim
end
end
section
set_option maxRecDepth 100000
open PySem
structure Bx0 (bs:List (List Lt)) (j:Nat):Prop where
  box:∀ b∈bs,BoxIn b j
  pln:∀ b∈bs,∀ l∈b,l.f=.none/\l.m=0
  all:∀ us:List Int,us.Pairwise (·<·)->(∀ u∈us,1<=u/\u<=8)->us.length=j->∃ b∈bs,uidsB b=us
theorem Bx0.zero:Bx0 [[]] 0 where
  box b hb:=by rw [List.mem_singleton.mp hb];exact ⟨rfl,.nil,λ_ h=>(nomatch h),λ_ h=>(nomatch h)⟩
  pln b hb:=by rw [List.mem_singleton.mp hb];exact λ_ h=>(nomatch h)
  all us _ _ h:=⟨[],by simp,(List.length_eq_zero_iff.mp h).symm⟩
theorem mem_longer {bs:List (List Lt)} {b':List Lt}:b'∈longer bs↔∃ b∈bs,b'∈longer1 b:=List.mem_flatMap
theorem Bx0.more {bs:List (List Lt)} {j:Nat} (h:Bx0 bs j):Bx0 (longer bs) (j+1) where
  box b' hb:=by obtain ⟨b,m,hl⟩:=mem_longer.mp hb;exact (h.box b m).longer hl
  pln b' hb l hl:=by
    obtain ⟨b,m,hm⟩:=mem_longer.mp hb
    obtain ⟨x,_,_,rfl⟩:=mem_longer1.mp hm
    rcases List.mem_append.mp hl with c | c
    · exact h.pln b m l c
    · rw [List.mem_singleton.mp c];exact ⟨rfl,rfl⟩
  all us ha hr hl:=by
    rcases List.eq_nil_or_concat us with rfl | ⟨d,x,e⟩
    · simp at hl
    · rw [List.concat_eq_append] at e
      subst e
      obtain ⟨p1,_,p3⟩:=List.pairwise_append.mp ha
      obtain ⟨b,m,e⟩:=h.all d p1 (λu hu=>hr u (by simp [hu])) (by simpa using hl)
      refine ⟨b++[newL x],mem_longer.mpr ⟨b,m,mem_longer1.mpr ⟨x,?_,(hr x (by simp)).2,rfl⟩⟩,?_⟩
      · rcases lastU_in b with e2 | e2
        · have:=(hr x (by simp)).1;lia
        · rw [e] at e2;have:=p3 _ e2 x (by simp);lia
      · unfold uidsB at e ⊢;rw [List.map_append,e];rfl
theorem Bx0.st {bs:List (List Lt)} {j:Nat} {us:List Int} {a:Int} (h:Bx0 bs j) (ha:us.Pairwise (·<·)) (hr:∀ u∈us,1<=u/\u<=8) (hl:us.length=j) (ht:∀ u∈us,u<=a) (a0:0<=a) (a8:a<=8):Stt (List.replicate j blank) bs us [] true a where
  inv:={
    asc:=ha
    rng:=hr
    lenR:=by rw [List.length_replicate,hl]
    drawn:=h.all us ha hr hl
    box:=by rw [hl];exact h.box
    told:=λ_ _ _ _ _ m=>(nomatch m)
    uid:=λi r u hr' _=>by rw [List.eq_of_mem_replicate (List.mem_of_getElem? hr')];rfl
    fl:=λr hr'=>by rw [List.eq_of_mem_replicate hr'];exact flag_none
    same:=λi r l b hr' hb hl'=>by
      rw [List.eq_of_mem_replicate (List.mem_of_getElem? hr')]
      have:=h.pln b hb l (List.mem_of_getElem? hl')
      exact ⟨λ_=>this.1,λ_=>this.2⟩ }
  sub _ m:=(nomatch m)
  top:=ht
  a0:=a0
  a8:=a8
noncomputable def opened:Nat->List (List Lt)
  | 0=>[[]]
  | k+1=>longer (opened k)
theorem opened_bx:∀ k,Bx0 (opened k) k
  | 0=>Bx0.zero
  | k+1=>(opened_bx k).more
theorem opened_len (k:Nat) (h:k<=3):(opened k).length<=56:=by
  rcases k with _ | _ | _ | _ | k
  · decide
  · decide +kernel
  · decide +kernel
  · decide +kernel
  · lia
theorem BoxIn.ok1 {b:List Lt} {n:Nat} (h:BoxIn b n) (hn:n<=50):BoxS b/\0<=lastU b:=by
  have p:0<=lastU b/\lastU b<=8:=(lastU_in b).elim (λe=>by rw [e];exact ⟨by decide,by decide⟩) λm=>⟨Int.le_trans (by decide) (h.rng _ m).1,(h.rng _ m).2⟩
  exact ⟨⟨h.ok,h.len▸Nat.le_trans hn (by decide),Int.le_trans (by decide) p.1,Int.le_trans p.2 (by decide)⟩,p.1⟩
theorem longer1_len {b:List Lt} {n:Nat} (h:BoxIn b n) (hn:n<=50):(longer1 b).length<=8:=by
  unfold longer1
  rw [List.length_map,irange_len]
  exact Int.toNat_le.mpr (Int.sub_right_le_of_le_add (Int.le_trans (by decide:(9:Int)<=8+(1+0)) (Int.add_le_add_left (Int.add_le_add_left (h.ok1 hn).2 1) 8)))
theorem beh_len {b:List Lt} {n:Nat} {A:Ans} (h:BoxIn b n) (hn:n<=50):(behA A b).length<=8:=by
  cases A with
  | exists_ k=>
    show (behEx b k).length<=8
    unfold behEx
    split
    · simp
    · split
      · simp
      · unfold longer;simp;exact longer1_len h hn
  | expunge k=>show (behXp b k).length<=8;unfold behXp;split <;> simp
  | vanished ps e=>
    cases e with
    | true=>show 1<=8;decide
    | false=>show (behVa b ps).length<=8;unfold behVa;split <;> simp
  | fetch k e=>
    show (behFe b k e).length<=8
    unfold behFe
    split
    · split
      · split <;> simp
      · simp
    · simp
  | other i=>show 1<=8;decide
theorem flatm_len {α β:Type} {f:α->List β} {m:Nat}:∀ {l:List α},(∀ x∈l,(f x).length<=m)->(l.flatMap f).length<=m * l.length
  | [],_=>by simp
  | x :: l,h=>by
    rw [List.flatMap_cons,List.length_append,List.length_cons,Nat.mul_succ]
    have:=h x (by simp)
    have:=flatm_len (l:=l) λy hy=>h y (by simp [hy])
    lia
noncomputable def Ans.Fit (n:Nat):Ans->Prop
  | .exists_ k=>k<=n+1
  | _=>True
section
variable {n k:Nat} {μ:List O} {X:List O->Prop} {R:Asn} {Q:V->List O->Prop} {A:Ans} {us us' ts:List Int} {a a':Int}
theorem s361A {b:List Lt} (hb:BoxIn b k) (hk:k<=50) (hA:A.OK) (hF:A.Fit k) (h:H R μ) (q:∀ μ',H R μ'->Q (.lst ((behA A b).map bv)) μ'):CRw (phiT tab (n+2) 361 [bv b,A.v] μ) Q X:=by
  obtain ⟨o,_⟩:=hb.ok1 hk
  have hl:b.length<=50:=by rw [hb.len];exact hk
  cases A with
  | exists_ j=>exact .of_eq (s361_ex o hl (by rw [hb.len];exact hF) hA.1) (q μ h)
  | expunge j=>exact .of_eq (s361_xp hl) (q μ h)
  | vanished ps e=>
    cases e with
    | true=>exact .of_eq s361_ve (q μ h)
    | false=>exact .of_eq (s361_va o.ok hl hA.1 hA.2) (q μ h)
  | fetch j e=>exact s361_fe hl (λss hss=>(hA.2 ss hss).1) h q
  | other i=>
    rcases i with _ | _ | _ | _ | i
    · exact .of_eq (s361_ot (w:="search") (by decide) (by decide) (by decide)) (q μ h)
    · exact .of_eq (s361_ot (w:="flags") (by decide) (by decide) (by decide)) (q μ h)
    · exact .of_eq (s361_ot (w:="ok") (by decide) (by decide) (by decide)) (q μ h)
    · exact .of_eq (s361_ot (w:="list") (by decide) (by decide) (by decide)) (q μ h)
    · exact absurd (show i+4<4 from hA) (Nat.not_lt.mpr (Nat.le_add_left 4 i))
theorem s366A {bs:List (List Lt)} (hb:∀ b∈bs,BoxIn b k) (hk:k<=50) (hA:A.OK) (hF:A.Fit k) (hok:∀ b∈bs,∀ c∈behA A b,BoxOK c) (hl:8 * bs.length<=big) (h:H R μ) (q:∀ μ',H R μ'->Q (.lst ((dd (bs.flatMap (behA A))).map bv)) μ'):CRw (phiT tab (n+3) 366 [.lst (bs.map bv),A.v] μ) Q X:=
  s366 (λb m _ _ h q=>s361A (hb b m) hk hA hF h q) hok (Nat.le_trans (flatm_len λb m=>beh_len (hb b m) hk) hl) h q
theorem Deed.fit (h:Deed us a A us' a'):A.Fit us.length:=by
  cases A with
  | exists_ k=>
    obtain ⟨rfl,hd⟩:=h
    show (us'.length:Int)<=us.length+1
    rcases hd with ⟨rfl,_⟩ | ⟨rfl,_⟩
    · lia
    · simp
  | _=>trivial
theorem Untrue.fit (h:Untrue us ts A):A.Fit us.length:=by
  cases A with
  | exists_ k=>have:=h.2;show k<=(us.length:Int)+1;lia
  | _=>trivial
theorem Untrue.ok (h:Untrue us ts A) (hu:∀ u∈us,1<=u/\u<=8) (hl:us.length<=8):A.OK:=by
  cases A with
  | exists_ k=>exact ⟨h.1,by have:=h.2;lia⟩
  | expunge k=>rcases h with h | h | h <;> exact ⟨by lia,by lia⟩
  | fetch k e=>
    rcases h with ⟨rfl,hk⟩ | ⟨p,u,o,rfl,_,k1,k2,_⟩
    · refine ⟨⟨by lia,by lia⟩,λss hss=>?_⟩
      injection hss with hss
      subst hss
      exact ⟨by decide,λ_ h=>(nomatch h)⟩
    · exact ⟨⟨by lia,by lia⟩,λss hss=>(nomatch hss)⟩
  | vanished ps e=>
    obtain ⟨rfl,⟨p,u,v,rfl,k1,_⟩ | ⟨last,behind,rfl,l0,l8,b0,b8,_⟩⟩:=h
    · have:=hu u (List.mem_of_getElem? (kn_mem.mp k1).2.1)
      refine ⟨λq hq=>?_,by simp⟩
      rw [List.mem_singleton.mp hq]
      exact ⟨by dsimp only;lia,by dsimp only;lia,by dsimp only;lia,by dsimp only;lia⟩
    · refine ⟨λq hq=>?_,by simp⟩
      rw [List.mem_singleton.mp hq]
      exact ⟨by dsimp only;lia,by dsimp only;lia,by dsimp only;lia,by dsimp only;lia⟩
  | other i=>exact h.elim
end
end
section
open PySem
theorem ints_of_map:∀ l:List Int,intsOf (l.map .int)=some l
  | []=>rfl
  | x :: l=>congrArg (Option.map (x :: ·)) (ints_of_map l)
noncomputable def addS (us:List Int) (x:Int):List Int:=sortBy ltI (us++[x])
theorem ins_perm {α:Type} {lt:α->α->Bool} (x:α):∀ l:List α,(insBy lt x l).Perm (x :: l)
  | []=>.refl _
  | y :: r=>by
    unfold insBy
    cases lt x y
    · exact ((ins_perm x r).cons y).trans (.swap x y r)
    · exact .refl _
theorem sort_perm {α:Type} {lt:α->α->Bool}:∀ l:List α,(sortBy lt l).Perm l
  | []=>.refl _
  | x :: l=>(ins_perm x _).trans ((sort_perm l).cons x)
theorem addS_asc {us:List Int} {x:Int} (h:us.Nodup) (hx:x∉us):(addS us x).Pairwise (·<·):=by
  have p:(addS us x).Pairwise (·<=·):=sort_pw (lt:=ltI) (R:=(·<=·)) (λa b h=>Int.le_of_lt (of_decide_eq_true h)) (λa b h=>Int.not_lt.mp (of_decide_eq_false h)) (λ_ _ _=>Int.le_trans) _
  have n:(addS us x).Nodup:=(sort_perm _).nodup_iff.mpr (List.nodup_append.mpr ⟨h,List.nodup_cons.mpr ⟨λm=>(nomatch m),.nil⟩,λa ha b hb e=>hx (List.mem_singleton.mp hb▸e▸ha)⟩)
  exact (p.and n).imp λh=>Int.lt_iff_le_and_ne.mpr h
structure OpOK (q:Nat) (us rest:List Int):Prop where
  asc:us.Pairwise (·<·)
  rng:∀ u∈us,1<=u/\u<=8
  len:us.length=q
  nd:rest.Nodup
  rs:∀ x∈rest,1<=x/\x<=8/\x∉us
  ln:rest.length+q=8
section
variable {n:Nat} {μ μ':List O} {ρ:List (Option V)} {X:List O->Prop} {R:Asn} {i dr d0 r q:Nat} {us rest:List Int}
theorem OpOK.more {x:Int} {k:Nat} (o:OpOK q us rest) (hx:rest[k]?=some x):OpOK (q+1) (addS us x) (rest.eraseIdx k):=by
  have m:=List.mem_of_getElem? hx
  obtain ⟨x1,x8,xn⟩:=o.rs x m
  have hk:=(List.getElem?_eq_some_iff.mp hx).1
  have hm:∀ y,y∈addS us x↔y∈us∨y=x:=λy=>(sort_perm _).mem_iff.trans (List.mem_append.trans (or_congr_right List.mem_singleton))
  refine ⟨addS_asc (o.asc.imp Int.ne_of_lt) xn,λu hu=>((hm u).mp hu).elim (o.rng u) λe=>e▸⟨x1,x8⟩,?_,o.nd.sublist (List.eraseIdx_sublist ..),λy hy=>?_,?_⟩
  · rw [show (addS us x).length=us.length+1 from (sort_perm _).length_eq.trans List.length_append,o.len]
  · have hy':=(List.eraseIdx_sublist ..).subset hy
    obtain ⟨y1,y8,yn⟩:=o.rs y hy'
    refine ⟨y1,y8,λh=>((hm y).mp h).elim yn λe=>?_⟩
    obtain ⟨j,hj⟩:=List.getElem?_of_mem hy
    rw [List.getElem?_eraseIdx] at hj
    by_cases c:j<k
    · rw [if_pos c] at hj
      exact Nat.ne_of_lt c ((List.getElem?_inj (List.getElem?_eq_some_iff.mp hj).1 o.nd).mp (hj.trans (e▸hx.symm)))
    · rw [if_neg c] at hj
      exact Nat.ne_of_gt (Nat.lt_succ_of_le (Nat.not_lt.mp c)) ((List.getElem?_inj (List.getElem?_eq_some_iff.mp hj).1 o.nd).mp (hj.trans (e▸hx.symm)))
  · rw [List.length_eraseIdx,if_pos hk,←Nat.add_assoc,Nat.add_right_comm,Nat.sub_add_cancel (Nat.lt_of_le_of_lt (Nat.zero_le _) hk)]
    exact o.ln
theorem opened_bxs (k:Nat) (h:k<=3):∀ b∈opened k,BoxS b:=λb m=>((opened_bx k).box b m).ok1 (Nat.le_trans h (by decide)) |>.1
noncomputable def r408 (s:V) (i c t r dr:Nat) (bs:List (List Lt)) (sure:Bool) (v8 v9 v10 v11:Option V):List (Option V):=[some s,some (.ref i),some (.ref c),some (.lst (bs.map bv)),some (.ref t),some (.bool sure),some (.ref r),some (.ref dr),v8,v9,v10,v11]
theorem in_in {A B C:Asn} (f:∀ F,B F->∃ G,C G/\G.Perm F):∀ F,(A.s B) F->∃ G,(A.s C) G/\G.Perm F:=λ_ h=>by
  obtain ⟨X,_,e,x,y⟩:=h
  obtain ⟨G,c,p⟩:=f _ y
  exact ⟨X++G,⟨X,G,rfl,x,c⟩,by rw [e];exact p.append_left X⟩
theorem H.up4 {A B C D:Asn} (h:H (A.s (B.s (C.s (D.s R)))) μ):H (D.s (A.s (B.s (C.s R)))) μ:=((h.in2 (in_in sw_in)).in2 sw_in).sw
theorem open_turn {Q:Fl->List O->List (Option V)->Prop} {s x:V} {c t:Nat} {z:Option V} (h:H ((Ink i).s ((pt dr (drO d0 0 1)).s ((pt r (intsO rest)).s ((pt d0 (intsO us)).s R)))) μ) (o:OpOK q us rest) (hq:q<3) (k:∀ d0' us' rest' μ',OpOK (q+1) us' rest'->H ((Ink i).s ((pt dr (drO d0' 0 1)).s ((pt r (intsO rest')).s ((pt d0' (intsO us')).s R)))) μ'->Q .next μ' (r408 s i c t r dr (opened (q+1)) true (some x) none none none)):W (b408_1 (phiT tab (n+2)) x) Q X μ (r408 s i c t r dr (opened q) true z none none none):=by
  have hol:(longer (opened q)).length<=big:=Nat.le_trans (opened_len (q+1) hq) (by decide)
  have hrl:(rest.map V.int).length<=8:=by rw [List.length_map];exact Nat.le_trans (Nat.le_add_right _ _) (Nat.le_of_eq o.ln)
  have hne:rest≠[]:=λe=>by have:=o.ln;rw [e,List.length_nil,Nat.zero_add] at this;exact absurd (this▸hq) (by decide)
  have hul:us.length<=2:=o.len▸Nat.le_of_lt_succ hq
  refine W_s (m:=st 8 x) rfl (W_an (ok_bind rfl (call_eq (s351 (opened_bxs q (Nat.le_of_lt hq)) hol))) (W_sq (W_bind (W_bind (W_bind (W_s (a:=.ref d0) (ok_bind rfl (ok_bind rfl (idx_list h.sw.get (by decide) rfl))) (W_bind (W_bind (W_bind (W_s (a:=.ref r) rfl (W_s (pick_list h.up3.get rfl) (W_bind (W_bind (W_dig (many:=((rest.map V.int).length:Nat)) rfl (ok_bind rfl (len_ref h.up3.get (len_le hrl rfl))) h (len_pos λe=>hne (List.map_eq_nil_iff.mp e)) (Int.le_trans (Int.ofNat_le.mpr hrl) (by decide)) λd μ1 q0 q1 h1=>?_))))))))))))))
  obtain ⟨y,hy,_⟩:=at_dig q0 q1
  have q2:d<=1000000:=Int.le_trans (Int.le_of_lt q1) (Int.le_trans (Int.ofNat_le.mpr hrl) (by decide))
  have j1:=(h1.up3.put (intsO (rest.eraseIdx d.toNat))).rot
  have e1:intsO (rest.eraseIdx d.toNat)=.list (eraseAt (rest.map V.int) d.toNat):=by unfold eraseAt intsO;rw [List.eraseIdx_eq_take_drop_succ,List.map_append,List.map_take,List.map_drop]
  have hs:sortV (us.map V.int++[.int y])=some ((addS us y).map .int):=by
    unfold sortV
    rw [if_neg (by rw [List.length_append,List.length_map];exact Nat.not_le.mpr (Nat.lt_of_le_of_lt (Nat.succ_le_succ hul) (by decide))),show us.map V.int++[.int y]=(us++[y]).map .int by rw [List.map_append];rfl,ints_of_map]
    rfl
  have hl2:((addS us y).map V.int).length<=big:=by rw [List.length_map,show (addS us y).length=us.length+1 from (sort_perm _).length_eq.trans List.length_append];exact Nat.le_trans (Nat.succ_le_succ hul) (by decide)
  have j2:=((j1.up4.drop.new (intsO (addS us y))).up3.put (drO (μ1.set r (intsO (rest.eraseIdx d.toNat))).length 0 1)).up3.in2 (in_in sw_in)
  refine W_e (a:=[.int d]) rfl (W_e (do_pop h1.up3.get (len_le hrl rfl) q0 q2 (by rw [List.getElem?_map,hy];rfl)) ?_)
  rw [←e1]
  refine W_e (a:=[V.int y]) rfl (W_e (lst_f (vs:=[V.int y]) (by decide:1<=big)) (W_e ((addR j1.up4.get).trans (lst_f (len_le (n:=3) (by rw [List.length_append,List.length_map];exact Nat.succ_le_succ hul) rfl))) (W_e (a:=[.lst (us.map V.int++[.int y])]) rfl (W_e (m:=biM true .sorted [.lst (us.map V.int++[.int y])]) (opt_ok hs (lst_t hl2)) (W_s (ok_bind rfl (ok_bind rfl (put_list (j1.up4.drop.new (intsO (addS us y))).up3.get (by decide) rfl))) ?_)))))
  exact k _ _ _ _ (o.more hy) j2
end
end
section
open PySem
noncomputable def Ans.word:Ans->String
  | .exists_ _=>"exists"
  | .expunge _=>"expunge"
  | .vanished _ _=>"vanished"
  | .fetch _ _=>"fetch"
  | .other i=>["search", "flags", "ok", "list"].getD i ""
theorem Ans.other_word {i:Nat} (h:i<4):(Ans.other i).word ≠ "vanished"/\(Ans.other i).word ≠ "fetch":=by
  rcases i with _ | _ | _ | _ | i
  · decide
  · decide
  · decide
  · decide
  · exact absurd h (Nat.not_lt.mpr (Nat.le_add_left 4 i))
noncomputable def sureB (us us' ts:List Int) (s:Bool):Ans->Bool
  | .vanished _ false=>s&&us.all λu=>decide (u∈us')||decide (u∈ts)
  | _=>s
theorem sure_of {us us' ts:List Int} {sure:Bool} {A:Ans} (h:sureB us us' ts sure A=true):sure=true/\sureA us us' ts A:=by
  cases A with
  | vanished ps e=>
    cases e with
    | true=>exact ⟨h,trivial⟩
    | false=>
      obtain ⟨h1,h2⟩:=Bool.and_eq_true_iff.mp h
      exact ⟨h1,λu hu hn=>(Bool.or_eq_true_iff.mp (List.all_eq_true.mp h2 u hu)).elim (λe=>absurd (of_decide_eq_true e) hn) of_decide_eq_true⟩
  | _=>exact ⟨h,trivial⟩
theorem foldd_nodup:∀ (l ds:List Int),(ds++l).Nodup->l.foldl ddc ds=ds++l
  | [],ds,_=>(List.append_nil ds).symm
  | x :: l,ds,h=>by
    have hx:x∉ds:=λm=>(List.nodup_append.mp h).2.2 x m x List.mem_cons_self rfl
    rw [List.foldl_cons,show ddc ds x=ds++[x] from if_neg hx,foldd_nodup l (ds++[x]) (by rw [←List.append_cons];exact h),←List.append_cons]
section
variable {n:Nat} {μ μ':List O} {ρ:List (Option V)} {X:List O->Prop} {A B P Y Z R:Asn} {s:V} {i c t r dr d0 d9:Nat} {rows:List Lt} {bs:List (List Lt)} {us us' ts:List Int} {sure:Bool} {a b:Int} {W0:Ans} {v8:Option V}
theorem up_in (f:∀ F,Y F->∃ G,(P.s Z) G/\G.Perm F):∀ F,(A.s Y) F->∃ G,(P.s (A.s Z)) G/\G.Perm F:=λF h=>by
  obtain ⟨G,g,p⟩:=in_in f F h
  obtain ⟨G',g',p'⟩:=sw_in G g
  exact ⟨G',g',p'.trans p⟩
theorem Ans.first {A:Ans} (h:A.OK):idxM A.v (.int 0) μ ρ=.ok (tx A.word) μ ρ:=by
  cases A with
  | other i=>
    rcases i with _ | _ | _ | _ | i
    · exact idx_tup (by decide) rfl
    · exact idx_tup (by decide) rfl
    · exact idx_tup (by decide) rfl
    · exact idx_tup (by decide) rfl
    · exact absurd (show i+4<4 from h) (Nat.not_lt.mpr (Nat.le_add_left 4 i))
  | _=>exact idx_tup (by decide) rfl
theorem Ans.is {A:Ans} (h:A.OK) {w:String} (h10:ld 10 μ ρ=.ok A.v μ ρ):cmp .Eq (idx (ld 10) (retM (.int 0))) (retM (tx w)) μ ρ=.ok (decide (A.word=w)) μ ρ:=cmp_eq (ok_bind h10 (ok_bind rfl (Ans.first h))) rfl eq_tx
theorem in_list {r:Nat} {l:List Int} {x:Int} (h:μ[r]?=some (intsO l)):inV μ (.int x) (.ref r)=some (decide (x∈l)):=by
  unfold inV
  rw [show dictOf μ (.ref r)=none by show (μ[r]?).bind O.dict?=_;rw [h];rfl,show seqOf μ (.ref r)=some (l.map .int) from listAt_of h]
  exact in_ints (μ:=μ)
theorem not_or {p q:Bool}:(!p&&!q)=!(p||q):=by cases p <;> cases q <;> rfl
theorem sure_ok {A:Ans} (hA:A.OK) (hd:μ[dr]?=some (drO d0 a b)) (hl:μ[d0]?=some (intsO us')) (ho:∀ ps,A=.vanished ps false->μ[d9]?=some (intsO us)) (ht:μ[t]?=some (toldO ts)) (h8:us.length<=8) :
    ifM (andM (cmp .Eq (idx (ld 10) (retM (.int 0))) (retM (tx "vanished"))) (andM (notM (trM (idx (ld 10) (retM (.int 2))))) (retM true))) (sq (asS 5 (andV (ld 5) (cmpV .Eq (comp [none,none,some 7,some 4] true false (srcE (ld 9)) c408_2) (lst false [])))) (retM .next)) (retM .next) μ (r408 s i c t r dr bs sure v8 (some (.ref d9)) (some A.v) none)
      = .ok .next μ (r408 s i c t r dr bs (sureB us us' ts sure A) v8 (some (.ref d9)) (some A.v) none):=by
  have other:A.word ≠ "vanished"->sureB us us' ts sure A=sure->ifM (andM (cmp .Eq (idx (ld 10) (retM (.int 0))) (retM (tx "vanished"))) (andM (notM (trM (idx (ld 10) (retM (.int 2))))) (retM true))) (sq (asS 5 (andV (ld 5) (cmpV .Eq (comp [none,none,some 7,some 4] true false (srcE (ld 9)) c408_2) (lst false [])))) (retM .next)) (retM .next) μ (r408 s i c t r dr bs sure v8 (some (.ref d9)) (some A.v) none)
      = .ok .next μ (r408 s i c t r dr bs (sureB us us' ts sure A) v8 (some (.ref d9)) (some A.v) none):=λhw e=>by
    rw [e]
    exact ok_f (ok_f (tst (Ans.is hA rfl) (decide_eq_false hw)) rfl) rfl
  cases A with
  | exists_ k=>exact other (show "exists" ≠ "vanished" by decide) rfl
  | expunge k=>exact other (show "expunge" ≠ "vanished" by decide) rfl
  | fetch k e=>exact other (show "fetch" ≠ "vanished" by decide) rfl
  | other i=>exact other (Ans.other_word hA).1 rfl
  | vanished ps e=>
    have hv:=tst (Ans.is (A:=.vanished ps e) (μ:=μ) (ρ:=r408 s i c t r dr bs sure v8 (some (.ref d9)) (some (Ans.vanished ps e).v) none) hA rfl) (decide_eq_true rfl:decide ("vanished" = "vanished")=true)
    have h2:idxM (Ans.vanished ps e).v (.int 2) μ (r408 s i c t r dr bs sure v8 (some (.ref d9)) (some (Ans.vanished ps e).v) none)=.ok (.bool e) μ _:=idx_tup (by decide) rfl
    have hc:=ok_t (a:=andM (notM (trM (idx (ld 10) (retM (.int 2))))) (retM true)) (b:=retM false) hv (and1 (not_ok (ok_bind (ok_bind rfl (ok_bind rfl h2)) (rfl:truthM (.bool e) μ _=.ok e μ _))))
    cases e with
    | true=>exact ok_f hc rfl
    | false=>
      have h9:=ho ps rfl
      refine ok_t hc ?_
      have c2:=comp_filter (μ:=μ) (t:=false) (turn:=c408_2) V.int V.int (λu=>!decide (u∈us')&&!decide (u∈ts)) (λz:Option V=>[none,z,some (.ref dr),some (.ref t)]) none (L:=[none,none,some 7,some 4]) (src:=srcE (ld 9)) (ρ:=r408 s i c t r dr bs sure v8 (some (.ref d9)) (some (Ans.vanished ps false).v) none) (l:=us) (ok_bind rfl (src_ref h9)) (still_at h9) rfl (λu m z acc hc=>⟨some (.int u),ok_bind (m:=st 1 _) rfl (emit_if (and1 (and_ok (cmp_nin rfl (ok_bind rfl (ok_bind rfl (idx_list hd (by decide) rfl))) (in_list hl)) (and1 (cmp_nin rfl rfl (in_told ht))))) rfl hc)⟩) (Nat.le_trans h8 (by decide))
      rw [show (λu=>!decide (u∈us')&&!decide (u∈ts))=(λu=>!(decide (u∈us')||decide (u∈ts))) from funext λu=>not_or,lst_f (by rw [List.length_map];exact Nat.le_trans (List.length_filter_le ..) (Nat.le_trans h8 (by decide)))] at c2
      have hq:=cmpV_ok (o:=.Eq) c2 (b:=lst false []) (v:=.lst []) rfl (rd_ok (f:=λμ=>eqL μ _ _) (eq_data rfl rfl rfl (okV_ints 7 _) rfl))
      rw [none_left] at hq
      cases sure with
      | false=>rfl
      | true=>exact ok_bind (ok_as (andV_ok rfl hq)) rfl
theorem tell_ok {u:Int} (h:μ[t]?=some (toldO ts)) (h8:ts.length<=8):putM (.ref t) (.int u) (.bool true) μ ρ=.ok () (μ.set t (toldO (ddc ts u))) ρ:=opt_ok (o:=V.ref? (.ref t)) rfl (opt_ok (o:=V.int? (.int u)) rfl (wr_ok (by
  rw [h]
  show Option.map _ ((putD (.int u) (.bool true) (ts.map .int) (ts.map λ_=>.bool true)).bind _)=_
  rw [putD_of (g:=V.int) (λ_ _=>V.int.inj) rfl rfl λ_ _=>rfl]
  show Option.map _ (if ((ddc ts u).map V.int).length<=big then _ else _)=_
  rw [if_pos (by rw [List.length_map];exact Nat.le_trans (ddc_len ts u) (Nat.le_trans (Nat.succ_le_succ h8) (by decide)))]
  rfl)))
theorem W_tell {A:Ans} {Q:Fl->List O->List (Option V)->Prop} {k:M Fl} (hA:A.OK) (h:H ((pt t (toldO ts)).s R) μ) (hd:μ[dr]?=some (drO d0 a b)) (hl:μ[d0]?=some (intsO us')) (hk:∀ k e,A=.fetch k e->1<=k/\k<=us'.length) (h8:us'.length<=8) (ht8:ts.length<=8)
    (q:∀ ts1 μ',(∀ x,x∈ts1↔x∈ts∨tellsA us' A x)->H ((pt t (toldO ts1)).s R) μ'->W k Q X μ' (r408 s i c t r dr bs sure v8 (some (.ref d9)) (some A.v) none)) :
    W (sq (ifM (andM (cmp .Eq (idx (ld 10) (retM (.int 0))) (retM (tx "fetch"))) (andM (cmp .In (retM (tx "UID")) (bi false .tDict (each [(idx (ld 10) (retM (.int 2)))]))) (retM true))) (sq (asI (ld 4) (idx (idx (ld 7) (retM (.int 0))) (op2 false .Sub (idx (ld 10) (retM (.int 1))) (retM (.int 1)))) (retM (.bool true))) (retM .next)) (retM .next)) k) Q X μ (r408 s i c t r dr bs sure v8 (some (.ref d9)) (some A.v) none):=by
  have other:A.word ≠ "fetch"->(∀ x,¬tellsA us' A x)->W (sq (ifM (andM (cmp .Eq (idx (ld 10) (retM (.int 0))) (retM (tx "fetch"))) (andM (cmp .In (retM (tx "UID")) (bi false .tDict (each [(idx (ld 10) (retM (.int 2)))]))) (retM true))) (sq (asI (ld 4) (idx (idx (ld 7) (retM (.int 0))) (op2 false .Sub (idx (ld 10) (retM (.int 1))) (retM (.int 1)))) (retM (.bool true))) (retM .next)) (retM .next)) k) Q X μ (r408 s i c t r dr bs sure v8 (some (.ref d9)) (some A.v) none):=λhw e=>
    W_n (ok_f (ok_f (tst (Ans.is hA rfl) (decide_eq_false hw)) rfl) rfl) (q ts μ (λx=>⟨.inl,λh=>h.elim id λh=>(e x h).elim⟩) h)
  cases A with
  | exists_ k=>exact other (show "exists" ≠ "fetch" by decide) λ_ h=>h
  | expunge k=>exact other (show "expunge" ≠ "fetch" by decide) λ_ h=>h
  | vanished ps e=>exact other (show "vanished" ≠ "fetch" by decide) λ_ h=>h
  | other i=>exact other (Ans.other_word hA).2 λ_ h=>h
  | fetch k e=>
    obtain ⟨k1,k2⟩:=hk k e rfl
    have i2:∀ ρ,idxM (Ans.fetch k e).v (.int 2) μ ρ=.ok e.al.tup μ ρ:=λρ=>idx_tup (by decide) rfl
    have i1:∀ ρ,idxM (Ans.fetch k e).v (.int 1) μ ρ=.ok (.int k) μ ρ:=λρ=>idx_tup (by decide) rfl
    have hc:=ok_t (a:=andM (cmp .In (retM (tx "UID")) (bi false .tDict (each [(idx (ld 10) (retM (.int 2)))]))) (retM true)) (b:=retM false) (tst (Ans.is (A:=.fetch k e) (μ:=μ) (ρ:=r408 s i c t r dr bs sure v8 (some (.ref d9)) (some (Ans.fetch k e).v) none) hA rfl) (decide_eq_true rfl:decide ("fetch" = "fetch")=true)) (and1 (cmp_in (a:=tx "UID") rfl (ok_bind (each1 (ok_bind rfl (ok_bind rfl (i2 _)))) (dict_al (al_keys e).1 (Nat.le_trans (al_keys e).2 (by decide)))) in_tx))
    rw [al_uid] at hc
    have k0:=Int.sub_nonneg_of_le k1
    obtain ⟨u,hu⟩:∃ u,us'[(k - 1).toNat]?=some u:=⟨_,List.getElem?_eq_getElem ((Int.toNat_lt k0).mpr (Int.lt_of_lt_of_le (Int.sub_lt_self k (by decide)) k2))⟩
    cases he:e.u with
    | none=>
      rw [he] at hc
      exact W_n (ok_f hc rfl) (q ts μ (λx=>⟨.inl,λh=>h.elim id λh=>absurd h.1 (by rw [he];decide)⟩) h)
    | some w=>
      rw [he] at hc
      have hx:idx (idx (ld 7) (retM (.int 0))) (op2 false .Sub (idx (ld 10) (retM (.int 1))) (retM (.int 1))) μ (r408 s i c t r dr bs sure v8 (some (.ref d9)) (some (Ans.fetch k e).v) none)=.ok (.int u) μ _:=ok_bind (a:=.ref d0) (ok_bind rfl (ok_bind rfl (idx_list hd (by decide) rfl))) (ok_bind (a:=.int (k - 1)) (ok_bind (ok_bind rfl (ok_bind rfl (i1 _))) rfl) (idx_list hl (fits_le (Int.le_trans (by decide) k0) (Int.le_trans (Int.sub_le_self k (by decide)) (Int.le_trans k2 (Int.le_trans (Int.ofNat_le.mpr h8) (by decide))))) (item_int k0 (by rw [List.getElem?_map,hu];rfl))))
      exact W_n (ok_t hc (ok_bind (ok_bind (a:=.bool true) rfl (ok_bind (ok_bind (a:=.ref t) rfl (ok_bind hx (tell_ok h.get ht8))) rfl)) rfl)) (q (ddc ts u) _ (λx=>mem_ddc.trans (or_congr_right ⟨λe=>⟨by rw [he];rfl,e▸hu⟩,λh=>Option.some.inj (h.2.symm.trans hu)⟩)) (h.put _))
end
end
section
open PySem
theorem pow8:∀ {m:Nat},m<=5->8 * (56 * 8 ^ m)<=big:=λ{m} h=>Nat.le_trans (Nat.mul_le_mul_left 8 (Nat.mul_le_mul_left 56 (Nat.pow_le_pow_right (by decide) h))) (by decide)
theorem Deed.tells {us us':List Int} {a a':Int} {A:Ans} (h:Deed us a A us' a') (x:Int):tellsA us' A x↔tellsA us A x:=by
  cases A with
  | fetch k e=>rw [h.1]
  | _=>exact Iff.rfl
theorem asc8:∀ (l:List Int) (lo:Int),l.Pairwise (·<·)->(∀ u∈l,lo<u/\u<=8)->lo<=8->lo+l.length<=8
  | [],lo,_,_,h3=>by rw [List.length_nil];exact (Int.add_zero lo).symm▸h3
  | x :: l,lo,h1,h2,h3=>by
    obtain ⟨p1,p2⟩:=List.pairwise_cons.mp h1
    have hx:=h2 x List.mem_cons_self
    have:=asc8 l x p2 (λu hu=>⟨p1 u hu,(h2 u (List.mem_cons_of_mem _ hu)).2⟩) hx.2
    rw [List.length_cons,Int.natCast_add,Int.add_comm (l.length:Int),←Int.add_assoc]
    exact Int.le_trans (Int.add_le_add_right hx.1 _) this
section
variable {rows rows':List Lt} {bs:List (List Lt)} {us us' ts:List Int} {sure:Bool} {a a' b:Int} {m:Nat} {A:Ans}
theorem Stt.next8 (h:Stt rows bs us ts sure a) (hd:Deed us a A us' a'):us'.length<=8:=by
  have l8:=h.len8
  have sub:us'.Sublist us->us'.length<=8:=λq=>Nat.le_trans q.length_le l8
  cases A with
  | exists_ k=>
    obtain ⟨_,hd⟩:=hd
    refine hd.elim (λe=>e.1▸l8) λ⟨e,h1,h2⟩=>?_
    have:=asc8 us' 0 (e▸List.pairwise_append.mpr ⟨h.inv.asc,List.pairwise_singleton ..,λy hy z hz=>List.mem_singleton.mp hz▸Int.lt_of_le_of_lt (h.top y hy) h1⟩) (λu hu=>(List.mem_append.mp (e▸hu)).elim (λm=>h.inv.rng u m) λm=>List.mem_singleton.mp m▸⟨Int.lt_of_le_of_lt h.a0 h1,h2⟩) (by decide)
    rw [Int.zero_add] at this
    exact Int.ofNat_le.mp this
  | expunge k=>
    obtain ⟨_,_,e,_⟩:=hd
    exact sub (e▸List.eraseIdx_eq_take_drop_succ us (k - 1).toNat▸List.eraseIdx_sublist ..)
  | vanished ps e=>
    cases e with
    | true=>rw [hd.1];exact l8
    | false=>obtain ⟨_,g,_,_,e,_⟩:=hd;exact sub (e▸List.filter_sublist)
  | fetch k e=>rw [hd.1];exact l8
  | other q=>rw [hd.2.1];exact l8
structure Tn (rows:List Lt) (bs:List (List Lt)) (us ts:List Int) (sure:Bool) (a b:Int) (m:Nat):Prop where
  st:Stt rows bs us ts sure a
  b0:0<=b
  few:bs.length<=56 * 8 ^ m
  tsl:ts.length<=8
theorem Tn.b8 (T:Tn rows bs us ts sure a b m) (h:m<=5):8 * bs.length<=big:=Nat.le_trans (Nat.mul_le_mul_left 8 T.few) (pow8 h)
theorem Tn.b1 (T:Tn rows bs us ts sure a b m) (h:m<=5):bs.length<=big:=Nat.le_trans (Nat.le_mul_of_pos_left _ (by decide)) (T.b8 h)
end
noncomputable def LH (i dr d0:Nat) (a b:Int) (us:List Int) (c:Nat) (rows:List Lt) (t:Nat) (ts:List Int) (R:Asn):Asn:=(Ink i).s ((pt dr (drO d0 a b)).s ((pt d0 (intsO us)).s ((Cp c false rows).s ((pt t (toldO ts)).s R))))
section
variable {n:Nat} {μ μ':List O} {ρ:List (Option V)} {X:List O->Prop} {R:Asn} {s x:V} {i c t r dr d0:Nat} {rows:List Lt} {bs:List (List Lt)} {us us' ts:List Int} {sure:Bool} {a b:Int} {m:Nat} {v8 v9 v10 v11:Option V}
theorem comp_told {ρ:List (Option V)} {src:M Src} (hs:src μ ρ=.ok (some (d0,us.map .int),us.map .int) μ ρ) (hc:μ[d0]?=some (intsO us)) (hi:innerL [none,none,some 4] ρ=some [none,none,some (.ref t)]) (ht:μ[t]?=some (toldO ts)) (hn:us.Nodup) (h8:us.length<=8) :
    comp [none,none,some 4] false true src c408_3 μ ρ=.ok (.ref μ.length) (μ++[toldO (us.filter λu=>decide (u∈ts))]) ρ:=by
  have go:∀ (l:List Int) (z:Option V) (ds:List Int),ds.length+l.length<=big->∃ z',turnsM (stillM (some (d0,us.map .int))) c408_3 (l.map V.int) (mk1 V.int ds) μ [none,z,some (.ref t)]=.ok (mk1 V.int ((l.filter λu=>decide (u∈ts)).foldl ddc ds)) μ [none,z',some (.ref t)]:=λl=>by
    induction l with
    | nil=>exact λz ds _=>⟨z,ok_bind (still_ok (still_at hc)) rfl⟩
    | cons u l ih=>
      intro z ds hl
      rw [List.length_cons,←Nat.add_assoc] at hl
      have ht:=and1 (cmp_in (ma:=ld 1) (mb:=ld 2) (μ:=μ) (ρ:=[none,some (.int u),some (.ref t)]) rfl rfl (in_told (u:=u) ht))
      by_cases h:u∈ts
      · have hl':(ddc ds u).length+l.length<=big:=Nat.le_trans (Nat.add_le_add_right (ddc_len ds u) _) (by rw [Nat.add_right_comm];exact hl)
        obtain ⟨z',e⟩:=ih (some (.int u)) (ddc ds u) hl'
        exact ⟨z',ok_bind (still_ok (still_at hc)) (ok_bind (ok_bind (m:=st 1 (.int u)) rfl (ok_t (tst ht (decide_eq_true h)) (ok_bind rfl (ok_bind rfl (emitD_of (g:=V.int) (λ_ _=>V.int.inj) rfl rfl (λ_ _=>rfl) (Nat.le_trans (Nat.le_add_right _ _) hl')))))) (by rw [List.filter_cons_of_pos (p:=λu=>decide (u∈ts)) (decide_eq_true h)];exact e))⟩
      · obtain ⟨z',e⟩:=ih (some (.int u)) ds (Nat.le_of_succ_le hl)
        exact ⟨z',ok_bind (still_ok (still_at hc)) (ok_bind (ok_bind (m:=st 1 (.int u)) rfl (ok_f (tst ht (decide_eq_false h)) rfl)) (by rw [List.filter_cons_of_neg (p:=λu=>decide (u∈ts)) (by rw [decide_eq_false h];decide)];exact e))⟩
  obtain ⟨z',e⟩:=go us none [] (by rw [List.length_nil,Nat.zero_add];exact Nat.le_trans h8 (by decide))
  rw [foldd_nodup _ [] (hn.filter _),List.nil_append] at e
  refine ok_bind (keep_ok hs) (ok_bind (a:=mk1 V.int (us.filter λu=>decide (u∈ts))) ?_ (gd_ok (decide_eq_true (by unfold mk1;rw [List.length_map];exact Nat.le_trans (List.length_filter_le ..) (Nat.le_trans h8 (by decide)))) rfl))
  unfold inC
  rw [hi]
  dsimp only
  rw [show (([],[]):Acc)=mk1 V.int [] from rfl,e]
theorem H.up5 {A B C D E:Asn} (h:H (A.s (B.s (C.s (D.s (E.s R))))) μ):H (E.s (A.s (B.s (C.s (D.s R))))) μ:=h.perm (up_in (up_in (up_in sw_in)))
theorem knows_ok (cp:H ((Cp c false rows).s ((pt t (toldO ts)).s R)) μ) (T:Tn rows bs us ts sure a b m) (hm:m<=5):trM (cl (phiT tab (n+7)) 403 (each [ld 2,ld 3,ld 4,ld 5])) μ (r408 s i c t r dr bs sure v8 v9 v10 v11)=.ok true μ (r408 s i c t r dr bs sure v8 v9 v10 v11):=Cp.open cp λx rs hs o=>ok_bind (ok_bind (a:=[.ref c,.lst (bs.map bv),.ref t,.bool sure]) rfl (call_eq (s403 (n:=n+4) o.view cp.drop.get (T.st.inv.knows (T.b1 hm))))) rfl
theorem turn {Q:Fl->List O->List (Option V)->Prop} (h:H (LH i dr d0 a b us c rows t ts R) μ) (T:Tn rows bs us ts sure a b m) (hm:m<5) (k:∀ d0' t' rows' bs' us' ts' sure' a' b' v9 v10 μ',H (LH i dr d0' a' b' us' c rows' t' ts' R) μ'->Tn rows' bs' us' ts' sure' a' b' (m+1)->Q .next μ' (r408 s i c t' r dr bs' sure' (some x) v9 v10 none)):W (b408_9 (phiT tab (n+7)) x) Q X μ (r408 s i c t r dr bs sure v8 v9 v10 none):=by
  have l8:=T.st.len8
  refine W_s (m:=st 8 x) rfl (W_an (ok_bind rfl (ok_bind rfl (idx_list (H.sw h).get (by decide) rfl))) (W_aw (W_cl rfl (s381 (n:=n+4) h T.st.inv.rng l8 T.st.a0 T.st.a8 T.b0 λA us' a' b' d0' μ1 hD b1 b2 j=>?_))))
  have hA:=hD.ok l8
  have cp:H ((Cp c false rows).s ((pt t (toldO ts)).s R)) μ1:=j.drop.drop.drop.drop
  obtain ⟨nref,_⟩:=T.st.step (rows':=rows) (ts1:=ts) (sure':=false) (bs':=bs) hD
  refine W_sq (W_bind (W_f (not_ok (knows_ok cp T (Nat.le_of_lt hm))) (W_bind (W_bind (W_bind (W_cl rfl (s393 (n:=n) (j.perm (up_in (up_in (up_in sw_in)))) hA (λb=>absurd b nref) λrows' μ2 took j2=>?_)))))))
  have gdr:μ2[dr]?=some (drO d0' a' b'):=j2.drop.drop.get
  have gd0:μ2[d0']?=some (intsO us'):=j2.drop.drop.drop.get
  have l8':=T.st.next8 hD
  have go:∀ ps,A=.vanished ps false->μ2[d0]?=some (intsO us):=λps e=>by
    have:=j2.drop.drop.drop.drop
    rw [e] at this
    exact this.get
  have gt:=j2.drop.drop.drop.drop.drop.get
  have jt:=j2.perm (up_in (up_in (up_in (up_in sw_in))))
  refine W_n (sure_ok hA gdr gd0 go gt l8) (W_tell hA jt gdr gd0 (λk e hk=>by subst hk;rw [hD.1];exact ⟨hD.2.2.1,hD.2.2.2.1⟩) l8' T.tsl λts1 μ3 hts1 j3=>?_)
  obtain ⟨_,step⟩:=T.st.step (rows':=rows') (ts1:=ts1) (sure':=sureB us us' ts sure A) (bs':=dd (bs.flatMap (behA A))) hD
  have st':=step took (λx=>(hts1 x).trans (or_congr_right (hD.tells x))) sure_of (λb'=>mem_dd.trans List.mem_flatMap)
  refine W_sq (W_bind (W_bind (W_bind (W_cl (each2 rfl rfl) (s366A (n:=n+4) T.st.inv.box (Nat.le_trans l8 (by decide)) hA hD.fit (λb m c' mc=>(st'.inv.box c' (mem_dd.mpr (List.mem_flatMap.mpr ⟨b,m,mc⟩))).ok) (T.b8 (Nat.le_of_lt hm)) j3 λμ4 j4=>?_)))))
  have j5:=j4.drop.up5.drop
  have gc:=comp_told (ρ:=r408 s i c t r dr bs (sureB us us' ts sure A) (some x) (some (.ref d0)) (some A.v) none) (src:=srcE (idx (ld 7) (retM (.int 0)))) (ok_bind (ok_bind rfl (ok_bind rfl (idx_list j5.up3.get (by decide) rfl))) (src_ref j5.up4.get)) j5.up4.get rfl j4.get (st'.inv.asc.imp Int.ne_of_lt) l8'
  have j6:=(j5.new (toldO (us'.filter λu=>decide (u∈ts1)))).sw.up5.up5.up5
  refine W_s (each1 gc) (W_e rfl (W_e (tup_ok (vs:=[_,_]) (by decide:2<=big)) (W_s (ρ':=r408 s i c μ4.length r dr (dd (bs.flatMap (behA A))) (sureB us us' ts sure A) (some x) (some (.ref d0)) (some A.v) none) rfl ?_)))
  exact k d0' _ rows' _ us' _ _ a' b' _ _ _ j6 ⟨st',Int.le_trans T.b0 b1,Nat.le_trans (dd_len _) (Nat.le_trans (flatm_len λb m=>beh_len (T.st.inv.box b m) (Nat.le_trans l8 (by decide))) (Nat.le_trans (Nat.mul_le_mul_left 8 T.few) (Nat.le_of_eq ((Nat.mul_comm 8 _).trans (Nat.mul_assoc 56 _ 8))))),Nat.le_trans (List.length_filter_le ..) l8'⟩
end
end
section
open PySem
noncomputable abbrev mxI (l:List Int) (x:Int):Int:=l.foldl (λa b=>if a<b then b else a) x
theorem mx_ok:∀ (l:List Int) (x:Int),(∀ y∈x :: l,y<=mxI l x)/\∀ b,(∀ y∈x :: l,y<=b)->mxI l x<=b
  | [],x=>⟨λy h=>List.mem_singleton.mp h▸Int.le_refl _,λb h=>h x List.mem_cons_self⟩
  | z :: l,x=>by
    show (∀ y∈x :: z :: l,y<=mxI l (if x<z then z else x))/\∀ b,_->mxI l (if x<z then z else x)<=b
    by_cases c:x<z
    · rw [if_pos c]
      obtain ⟨h1,h2⟩:=mx_ok l z
      exact ⟨λy h=>(List.mem_cons.mp h).elim (λe=>e▸Int.le_trans (Int.le_of_lt c) (h1 z List.mem_cons_self)) (h1 y),λb h=>h2 b λy m=>h y (List.mem_cons_of_mem _ m)⟩
    · rw [if_neg c]
      obtain ⟨h1,h2⟩:=mx_ok l x
      exact ⟨λy h=>(List.mem_cons.mp h).elim (λe=>e▸h1 x List.mem_cons_self) λh=>(List.mem_cons.mp h).elim (λe=>e▸Int.le_trans (Int.not_lt.mp c) (h1 x List.mem_cons_self)) λm=>h1 y (List.mem_cons_of_mem _ m),λb h=>h2 b λy m=>(List.mem_cons.mp m).elim (λe=>h y (e▸List.mem_cons_self)) λm=>h y (List.mem_cons_of_mem _ (List.mem_cons_of_mem _ m))⟩
theorem mm1 {f:Int->Int->Int} {v:V} {vs:List V} {x:Int} {r:List Int} {μ:List O} {ρ:List (Option V)} (h:seqM v μ ρ=.ok vs μ ρ) (hi:intsOf vs=some (x :: r)):mmM f [v] μ ρ=.ok (.int (r.foldl f x)) μ ρ:=ok_bind h (opt_ok hi rfl)
theorem max_ok {us:List Int} (h0:∀ u∈us,1<=u/\u<=8):∃ a:Int,(∀ (μ:List O) ρ,biM false .max [.lst ((us++[0]).map V.int)] μ ρ=.ok (.int a) μ ρ)/\(∀ u∈us,u<=a)/\0<=a/\a<=8:=by
  have hb:∀ y∈us++[0],y<=8:=λy m=>(List.mem_append.mp m).elim (λm=>(h0 y m).2) λm=>List.mem_singleton.mp m▸(by decide)
  have hi:∀ u∈us,u∈us++[0]:=λu=>List.mem_append_left _
  have hz:(0:Int)∈us++[0]:=List.mem_append_right _ (List.mem_singleton.mpr rfl)
  generalize us++[0]=l at *
  cases l with
  | nil=>exact nomatch hz
  | cons x r=>
    obtain ⟨h1,h2⟩:=mx_ok r x
    refine ⟨mxI r x,λμ ρ=>?_,λu m=>h1 u (hi u m),h1 0 hz,h2 8 hb⟩
    exact mm1 (v:=.lst ((x :: r).map V.int)) (μ:=μ) (ρ:=ρ) rfl (ints_of_map (x :: r))
section
variable {n:Nat} {μ μ':List O} {ρ:List (Option V)} {X:List O->Prop} {R:Asn}
theorem law_start {vs:List Int} {Q:Fl->List O->List (Option V)->Prop} (hl:vs.length<=63) (k:∀ s i c t r dr d0 q us a v8 μ,H (LH i dr d0 a 1 us c (List.replicate q blank) t [] emp) μ->Tn (List.replicate q blank) (opened q) us [] true a 1 0->W (p408_12 (phiT tab (n+7))) Q X μ (r408 s i c t r dr (opened q) true v8 none none none)):W (p408_19 (phiT tab (n+7))) Q X [] [some (.lst (vs.map .int)),none,none,none,none,none,none,none,none,none,none,none]:=by
  have h339:=λQ k=>s339 (n:=n+6) (Q:=Q) (X:=X) hl (H.all []) k
  generalize hs:V.lst (vs.map .int)=s at *
  refine W_sq (W_bind (W_bind (W_bind (W_cl (each1 rfl) (h339 _ λi μ1 h1=>W_bind (W_bind (W_copy h1 λc rs μ2 h2=>?_)))))))
  refine W_s (each3 (a:=.lst [.tup []]) (b:=.ref μ2.length) (c:=.bool true) (μ3:=μ2++[toldO []]) rfl rfl rfl) (W_e rfl (W_e rfl (W_e rfl (W_s (ρ':=[some s,some (.ref i),some (.ref c),some (.lst ((opened 0).map bv)),some (.ref μ2.length),some (.bool true),none,none,none,none,none,none]) rfl ?_))))
  refine W_sq (W_bind (W_cl (each3 rfl rfl rfl) (s321 (n:=n+6) (h2.sw.drop.new (toldO [])).sw λμ3 h3=>?_)))
  generalize μ2.length=t at *
  show W (p408_17 (phiT tab (n+7))) Q X μ3 [some s,some (.ref i),some (.ref c),some (.lst ((opened 0).map bv)),some (.ref t),some (.bool true),none,none,none,none,none,none]
  have e1:∀ ρ,bi true .tList (each [bi false .tRange (each [retM (.int 1),retM (.int 9)])]) μ3 ρ=.ok (.ref μ3.length) (μ3++[intsO [1,2,3,4,5,6,7,8]]) ρ:=λ_=>rfl
  have h4:=h3.new (intsO [1,2,3,4,5,6,7,8])
  generalize μ3++[intsO [1,2,3,4,5,6,7,8]]=μ4 at *
  have h5:=(((h4.new (intsO [])).new (drO μ4.length 0 1)).perm (up_in (up_in (up_in (up_in sw_in))))).in2 (in_in sw_in)
  have e2:∀ ρ,lst true [lst true [],retM (.int 0),retM (.int 1)] μ4 ρ=.ok (.ref (μ4++[intsO []]).length) (μ4++[intsO []]++[drO μ4.length 0 1]) ρ:=λ_=>rfl
  generalize μ4++[intsO []]++[drO μ4.length 0 1]=μ5 at *
  generalize (μ4++[intsO []]).length=dr at *
  generalize μ4.length=d0 at *
  generalize μ3.length=r at *
  refine W_n (ρ':=r408 s i c t r dr (opened 0) true none none none none) (ok_bind (ok_bind (each2 (e1 _) (e2 _)) (tup_ok (vs:=[_,_]) (by decide:2<=big))) rfl) (W_sq (W_bind (W_bind (W_bind (W_bind (W_dig rfl rfl h5 (by decide) (by decide) λd μ6 q0 q1 h6=>W_e (a:=[.int d]) rfl (W_e (range1 (fits_le ?_ ?_)) (W_e (src_rng ?_ ?_ ?_ ?_) ?_))))))))
  any_goals omega
  rw [rng_irange]
  have hd:(irange 0 d).length<=3:=by rw [irange_len];omega
  refine W_for (σ:=Nat×Option V) V.int (λdn z μ=>z.1=dn.length/\∃ d0 us rest,OpOK z.1 us rest/\H ((Ink i).s ((pt dr (drO d0 0 1)).s ((pt r (intsO rest)).s ((pt d0 (intsO us)).s ((Cp c true []).s ((pt t (toldO [])).s emp)))))) μ) (λz=>r408 s i c t r dr (opened z.1) true z.2 none none none) (λ_ _ _ _ _=>rfl) (λdn x l z μ Q' e j n=>?_) (λz μ j=>?_) (z:=(0,none)) ⟨rfl,d0,[],[1,2,3,4,5,6,7,8],⟨.nil,λ_ m=>(nomatch m),rfl,by decide,by decide,rfl⟩,h6⟩
  · obtain ⟨hq,d0,us,rest,o,h⟩:=j
    rw [←e,List.length_append,←hq] at hd
    exact open_turn h o (Nat.lt_of_lt_of_le (Nat.lt_add_of_pos_right (Nat.succ_pos _)) hd) λd0' us' rest' μ' o' h'=>n (z.1+1,some (.int x)) μ' ⟨by rw [List.length_append,hq];rfl,d0',us',rest',o',h'⟩
  · obtain ⟨hq,d0,us,rest,o,h⟩:=j
    rw [←hq] at hd
    show W (p408_15 (phiT tab (n+7))) Q X μ (r408 s i c t r dr (opened z.1) true z.2 none none none)
    obtain ⟨a,ea,a1,a2,a3⟩:=max_ok o.rng
    have hul:us.length<=3:=o.len▸hd
    have g0:=h.up4.get
    have h7:=(h.up3.drop.sw.put (drO d0 a 1)).sw
    have hv:bi false .max (each [op2 false .Add (idx (ld 7) (retM (.int 0))) (lst false [retM (.int 0)])]) μ (r408 s i c t r dr (opened z.1) true z.2 none none none)=.ok (.int a) μ (r408 s i c t r dr (opened z.1) true z.2 none none none):=ok_bind (a:=[.lst ((us++[0]).map .int)]) (each1 (ok_bind (a:=.ref d0) (ok_bind rfl (ok_bind rfl (idx_list h.sw.get (by decide) rfl))) (ok_bind (a:=.lst [.int 0]) rfl ((addR g0).trans (List.map_append (f:=V.int) (l₁:=us) (l₂:=[0])▸lst_f (len_le (n:=4) (by rw [List.length_map,List.length_append];exact Nat.succ_le_succ hul) rfl)))))) (ea _ _)
    refine W_n (ok_bind hv (ok_bind (ok_bind rfl (ok_bind rfl (put_list h.sw.get (by decide) rfl))) rfl)) ?_
    have hlen:=λ{ρ}=>len_ref (t:=false) (ρ:=ρ) h7.up3.get (len_le (n:=3) (by rw [List.length_map];exact hul) rfl)
    rw [List.length_map,o.len] at hlen
    refine W_sq (W_bind (W_bind (W_bind (W_cl (each2 rfl (ok_bind (each2 rfl (ok_bind (each1 (ok_bind rfl (ok_bind rfl (idx_list h7.sw.get (by decide) rfl)))) hlen)) (tup_ok (vs:=[_,_]) (by decide:2<=big)))) (s393o (n:=n+3) h7.up4 (Int.natCast_nonneg _) (Int.ofNat_le.mpr (Nat.le_trans hd (by decide)):_<=((50:Nat):Int)) λμ8 h8=>?_)))))
    show W (p408_13 (phiT tab (n+7))) Q X μ8 (r408 s i c t r dr (opened z.1) true z.2 none none none)
    exact W_sq (W_bind (W_cl (each2 rfl rfl) (s333 (n:=n+3) h8 λμ9 h9=>k s i c t r dr d0 z.1 us a z.2 μ9 h9.up4.up4.up4 ⟨(opened_bx z.1).st o.asc o.rng o.len a1 a2 a3,by decide,opened_len z.1 hd,Nat.zero_le _⟩)))
end
end
section
open PySem
section
variable {n:Nat} {μ μ':List O} {ρ:List (Option V)} {X:List O->Prop} {R:Asn} {s x:V} {i c t r dr d0:Nat} {rows:List Lt} {bs:List (List Lt)} {us ts:List Int} {sure:Bool} {a b:Int} {m:Nat} {v8 v9 v10 v11:Option V} {A:Ans}
theorem tells_in {y:Int} (h:tellsA us A y):y∈us:=by
  cases A with
  | fetch k e=>exact List.mem_of_getElem? h.2
  | _=>exact h.elim
theorem last_word (st:Stt rows bs us ts sure a) (hA:(∃ us' a',Deed us a A us' a')∨Untrue us ts A):(Refused rows A->dd (bs.flatMap (behA A))=[])/\∀ rows',Took rows A rows'->dd (bs.flatMap (behA A))≠[]/\∀ b∈bs,∀ c∈behA A b,BoxOK c:=by
  refine hA.elim (λh=>?_) λhu=>?_
  · obtain ⟨us',a',hd⟩:=h
    haveI:=λy=>Classical.propDecidable (tellsA us A y)
    have step:=λrows'=>st.step (rows':=rows') (ts1:=ts++us.filter λy=>decide (tellsA us A y)) (sure':=false) (bs':=dd (bs.flatMap (behA A))) hd
    refine ⟨λhr=>((step rows).1 hr).elim,λrows' took=>?_⟩
    have st':=(step rows').2 took (λy=>List.mem_append.trans (or_congr_right (List.mem_filter.trans ⟨λh=>of_decide_eq_true h.2,λh=>⟨tells_in h,decide_eq_true h⟩⟩))) (λe=>(nomatch e)) λb'=>mem_dd.trans List.mem_flatMap
    obtain ⟨d,md,_⟩:=st'.inv.drawn
    exact ⟨λe=>(nomatch (e▸md)),λb mb c' mc=>(st'.inv.box c' (mem_dd.mpr (List.mem_flatMap.mpr ⟨b,mb,mc⟩))).ok⟩
  · obtain ⟨h1,h2⟩:=st.inv.untrue hu
    exact ⟨λ_=>by rw [List.flatMap_eq_nil_iff.mpr h2];rfl,λrows' took=>(h1 rows' took).elim⟩
theorem fin_ok {Q:V->List O->List (Option V)->Prop} {x:Bool} (T:Tn rows bs us ts sure a b m) (hm:m<=5) (hA:A.OK) (hF:A.Fit us.length) (hok:∀ b∈bs,∀ c∈behA A b,BoxOK c) (hx:dd (bs.flatMap (behA A))=[]↔x=false) (q:∀ μ,Q (.bool true) μ (r408 s i c t r dr bs sure v8 v9 v10 (some A.v))) :
    W (bindM (bindM (cmpV .NotEq (cl (phiT tab (n+7)) 366 (each [ld 3,ld 11])) (lst false [])) λv=>cmpM .Eq (.bool x) v) λd=>retM (.bool d)) Q X μ (r408 s i c t r dr bs sure v8 v9 v10 (some A.v)):=by
  refine W_bind (W_bind (W_bind (W_cl (each2 rfl rfl) (s366A (n:=n+4) T.st.inv.box (Nat.le_trans T.st.len8 (by decide)) hA hF hok (T.b8 hm) (H.all μ) λμ1 _=>?_))))
  have okd:((dd (bs.flatMap (behA A))).map bv).all (okV 7)=true:=all_map λb' mb=>by
    obtain ⟨b,mb,mc⟩:=List.mem_flatMap.mp (mem_dd.mp mb)
    exact okV_bv (hok b mb b' mc) 4
  have e:eqL μ1 (.lst ((dd (bs.flatMap (behA A))).map bv)) (.lst [])=some (!x):=(eq_data rfl rfl rfl (okV_lst okd) rfl).trans (congrArg some (by
    generalize dd (bs.flatMap (behA A))=D at *
    cases x with
    | false=>rw [hx.mpr rfl];rfl
    | true=>exact decide_eq_false λe=>(nomatch hx.mp (List.map_eq_nil_iff.mp (V.lst.inj e)))))
  refine W_s (ok_bind (a:=.lst []) rfl (rd_ok (f:=λμ=>(eqL μ _ _).map (!·)) (by rw [e];rfl))) ?_
  cases x <;> exact q μ1
theorem law_end {Q:Fl->List O->List (Option V)->Prop} (h:H (LH i dr d0 a b us c rows t ts R) μ) (T:Tn rows bs us ts sure a b m) (hm:m<=5) (q:∀ μ ρ,Q (.ret (.bool true)) μ ρ):W (p408_11 (phiT tab (n+7))) Q X μ (r408 s i c t r dr bs sure v8 v9 v10 none):=by
  have l8:=T.st.len8
  have tail:∀ (R2:Asn) A μ2,A.OK->A.Fit us.length->((∃ us' a',Deed us a A us' a')∨Untrue us ts A)->H ((Cp c false rows).s R2) μ2->W (sq (rtS (cmpV .Eq (cl (phiT tab (n+7)) 393 (each [ld 2,ld 11])) (cmpV .NotEq (cl (phiT tab (n+7)) 366 (each [ld 3,ld 11])) (lst false [])))) (retM .next)) Q X μ2 (r408 s i c t r dr bs sure v8 v9 v10 (some A.v)):=λR2 A μ2 hA hF hD j=>by
    obtain ⟨k1,k2⟩:=last_word T.st hD
    exact W_sq (W_bind (W_bind (W_cl (each2 rfl rfl) (s393 (n:=n) j hA (λhr μ3=>fin_ok (x:=false) T hm hA hF (λb mb c mc=>(nomatch (k1 hr▸mem_dd.mpr (List.mem_flatMap.mpr ⟨b,mb,mc⟩):c∈[]))) ⟨λ_=>rfl,λ_=>k1 hr⟩ λμ=>q μ _) λrows' μ3 took _=>fin_ok (x:=true) T hm hA hF (k2 rows' took).2 ⟨λe=>((k2 rows' took).1 e).elim,λe=>(nomatch e)⟩ λμ=>q μ _))))
  refine W_n (ok_f (not_ok (knows_ok h.drop.drop.drop T hm)) rfl) (W_aw (W_bind (W_bind (W_dig rfl rfl h (by decide) (by decide) λd μ1 q0 q1 h1=>W_e (ok_bind (a:=.int 0) rfl eq_int) ?_))))
  generalize decide (d=0)=e
  cases e with
  | true=>exact W_cl rfl (s381 (n:=n+4) h1 T.st.inv.rng l8 T.st.a0 T.st.a8 T.b0 λA us' a' b' d0' μ2 hD _ _ j=>tail _ A μ2 (hD.ok l8) hD.fit (.inl ⟨us',a',hD⟩) j.drop.drop.drop.drop)
  | false=>exact W_cl (each3 rfl (ok_bind rfl (ok_bind rfl (idx_list h1.sw.get (by decide) rfl))) rfl) (s386 (n:=n+5) (h1.sw.drop.in2 (in_in sw_in)) T.st.inv.rng l8 λA μ2 hu j=>tail _ A μ2 (hu.ok T.st.inv.rng l8) hu.fit (.inr hu) j.drop.drop.drop)
end
end
section
open PySem
theorem law_rest {n:Nat} {μ:List O} {X:List O->Prop} {Q:Fl->List O->List (Option V)->Prop} {s:V} {i c t r dr d0 q:Nat} {us:List Int} {a:Int} {v8:Option V} (h:H (LH i dr d0 a 1 us c (List.replicate q blank) t [] emp) μ) (T:Tn (List.replicate q blank) (opened q) us [] true a 1 0) (k:∀ μ ρ,Q (.ret (.bool true)) μ ρ):W (p408_12 (phiT tab (n+7))) Q X μ (r408 s i c t r dr (opened q) true v8 none none none):=by
  refine W_sq (W_bind (W_bind (W_bind (W_bind (W_s (a:=.int 2) rfl (W_bind (W_dig rfl rfl h (by decide) (by decide) λd μ6 q0 q1 h6=>W_e (a:=.int (2+d)) rfl (W_e (a:=[.int (2+d)]) rfl (W_e (range1 (fits_le ?_ ?_)) (W_e (src_rng ?_ ?_ ?_ ?_) ?_))))))))))
  any_goals omega
  rw [rng_irange]
  have hd:(irange 0 (2+d)).length<=5:=by rw [irange_len];omega
  refine W_for (σ:=Nat×List (List Lt)×Bool×Option V×Option V×Option V) V.int (λdn z μ=>∃ d0 rows us ts a b,H (LH i dr d0 a b us c rows z.1 ts emp) μ/\Tn rows z.2.1 us ts z.2.2.1 a b dn.length) (λz=>r408 s i c z.1 r dr z.2.1 z.2.2.1 z.2.2.2.1 z.2.2.2.2.1 z.2.2.2.2.2 none) (λ_ _ _ _ _=>rfl) (λdn x l z μ Q' e j n=>?_) (λz μ j=>?_) (z:=(t,opened q,true,v8,none,none)) ⟨d0,_,us,[],a,1,h6,T⟩
  · obtain ⟨d0,rows,us,ts,a,b,h,T⟩:=j
    rw [←e,List.length_append] at hd
    exact turn h T (Nat.lt_of_lt_of_le (Nat.lt_add_of_pos_right (Nat.succ_pos _)) hd) λd0' t' rows' bs' us' ts' sure' a' b' v9 v10 μ' h' T'=>n (t',bs',sure',some (.int x),v9,v10) μ' ⟨d0',rows',us',ts',a',b',h',by rw [List.length_append];exact T'⟩
  · obtain ⟨d0,rows,us,ts,a,b,h,T⟩:=j
    exact law_end h T hd k
theorem law_holds {vs:List Int} {n:Nat} {X:List O->Prop} (hl:vs.length<=63):CRw (phiT tab (n+8) 408 [.lst (vs.map .int)] []) (λv _=>v=.bool true) X:=
  g408 (law_start hl λs i c t r dr d0 q us a v8 μ h T=>law_rest h T λ_ _=>rfl)
theorem law_true_all (vs:List Int) (hl:vs.length<=63):∃ μ',phiT tab 50 408 [.lst (vs.map .int)] []=.ok (.bool true) μ':=by
  have h:=law_holds (n:=42) (X:=λ_=>False) hl
  change CRw (phiT tab 50 408 [.lst (vs.map .int)] []) _ _ at h
  unfold CRw at h
  cases e:phiT tab 50 408 [.lst (vs.map .int)] [] <;> rw [e] at h
  · exact ⟨_,by rw [h]⟩
  · exact h.elim
  · exact h.elim
end
section
set_option maxRecDepth 100000
open PySem PySem.W PyProof.Rows
noncomputable def sv (x:String) (t:Nat):Value:=.str (Str.ofString x) t
noncomputable def iv (n:Nat):Value:=.int n 0
noncomputable def argsOf (b:List Stmt):List (Str×Arguments):=b.filterMap λs=>match s with
  | .FunctionDef n a _ _ _ _ _ _ _ _=>some (n,a)
  | _=>none
noncomputable def noArgs:Arguments:=⟨[],[],none,[],[],none,[]⟩
noncomputable def fnA (m:String):Arguments:=((argsOf topB).lookup (Str.ofString m)).getD noArgs
noncomputable def meA (c m:String):Arguments:=(((topB.filterMap λs=>match s with
  | .ClassDef n _ _ body _ _ _ _ _ _ _=>some (n,argsOf body)
  | _=>none:List (Str×List (Str×Arguments))).lookup (Str.ofString c)).bind λl=>l.lookup (Str.ofString m)).getD noArgs
structure Row where
  a:Nat
  nm:String
  qn:String
  ps:Arguments
  f:FnRec
  dv:Value
  md:String
  mt:Nat
  t:Nat
  ln:Nat
  ac:Nat
  b:Nat
  m:Bool
  n:Nat
noncomputable def Row.fd (r:Row):FuncData:={ name:=Str.ofString r.nm,qualname:=Str.ofString r.qn,params:=r.ps,body:=.stmts r.f.2.1,scope:=r.f.2.2,globals:=3,closure:=[],defaults:=r.dv,kwdefaults:=.none,pyModule:=.str (Str.ofString r.md) r.mt,code:=.ref r.a.pred }
noncomputable def Row.fo (r:Row):Obj:={ cls:=.type "function",data:=.func r.fd }
noncomputable def Row.co (r:Row):Obj:={ cls:=.type "code",data:=.fields #[sv r.nm r.t,sv r.qn (r.t+1),sv "/claim/cut.py" (r.t+2),iv r.ln,iv r.ac,iv 0,iv 0,iv 3,.ref r.b,.bool true,iv 181,.ref (r.b+1),.none,if r.m then .ref (r.b+2) else .none,if r.m then .ref (r.b+3) else .none,.ref (if r.m then r.b+4 else r.b+2),iv r.n,iv r.ln,sv "/claim/cut.py" (r.n+1)] }
noncomputable def rows0:List Row:=[⟨29, "__init__", "PostError.__init__",meA "PostError" "__init__",meR "PostError" "__init__",.ref 22, "postkeep.errors",187,203,4,3,23,true,209⟩,⟨151, "__init__", "Held.__init__",meA "Held" "__init__",meR "Held" "__init__",.ref 144, "postkeep.client",365,381,71,4,145,true,388⟩]
noncomputable def rows1:List Row:=[⟨87, "settled", "settled",fnA "settled",fnR "settled",.none, "postkeep.sets",261,287,39,1,81,true,292⟩,⟨108, "size_of", "size_of",fnA "size_of",fnR "size_of",.none, "postkeep.sets",261,317,55,1,102,true,324⟩,⟨158, "is_whole", "Held.is_whole",meA "Held" "is_whole",meR "Held" "is_whole",.none, "postkeep.client",365,391,76,1,152,true,395⟩,⟨165, "told", "Held.told",meA "Held" "told",meR "Held" "told",.none, "postkeep.client",365,398,79,1,159,true,402⟩,⟨186, "__init__", "Copy.__init__",meA "Copy" "__init__",meR "Copy" "__init__",.none, "postkeep.client",365,428,83,1,180,true,432⟩,⟨191, "uids", "Copy.uids",meA "Copy" "uids",meR "Copy" "uids",.none, "postkeep.client",365,435,95,1,187,false,438⟩,⟨203, "missing", "Copy.missing",meA "Copy" "missing",meR "Copy" "missing",.none, "postkeep.client",365,449,103,1,199,false,452⟩,⟨208, "told", "Copy.told",meA "Copy" "told",meR "Copy" "told",.none, "postkeep.client",365,455,106,1,204,false,458⟩,⟨267, "uids_of", "uids_of",fnA "uids_of",fnR "uids_of",.none, "postkeep.client",365,540,173,1,261,true,545⟩,⟨279, "code_word", "code_word",fnA "code_word",fnR "code_word",.none, "postkeep.client",365,554,186,1,273,true,558⟩,⟨314, "known_rows", "known_rows",fnA "known_rows",fnR "known_rows",.none, "postkeep.client",365,595,219,1,308,true,602⟩,⟨326, "settle_rows", "settle_rows",fnA "settle_rows",fnR "settle_rows",.none, "postkeep.client",365,614,237,1,322,false,617⟩,⟨339, "_law_ink", "_law_ink",fnA "_law_ink",fnR "_law_ink",.none, "law_pq0940_01",628,634,259,1,335,false,637⟩,⟨351, "_law_longer", "_law_longer",fnA "_law_longer",fnR "_law_longer",.none, "law_pq0940_01",628,649,271,1,347,false,652⟩,⟨356, "_law_spread", "_law_spread",fnA "_law_spread",fnR "_law_spread",.none, "law_pq0940_01",628,655,273,1,352,false,658⟩,⟨408, "law", "law",fnA "law",fnR "law",.none, "law_pq0940_01",628,717,384,1,404,false,720⟩]
noncomputable def rows2:List Row:=[⟨73, "ends_of", "ends_of",fnA "ends_of",fnR "ends_of",.none, "postkeep.sets",261,263,16,2,67,true,270⟩,⟨80, "plain_set", "plain_set",fnA "plain_set",fnR "plain_set",.none, "postkeep.sets",261,273,25,2,74,true,284⟩,⟨101, "numbers_in", "numbers_in",fnA "numbers_in",fnR "numbers_in",.none, "postkeep.sets",261,306,50,2,95,true,314⟩,⟨122, "__init__", "Atom.__init__",meA "Atom" "__init__",meR "Atom" "__init__",.none, "postkeep.wire",327,341,63,2,116,true,346⟩,⟨198, "row", "Copy.row",meA "Copy" "row",meR "Copy" "row",.none, "postkeep.client",365,441,98,2,192,true,446⟩,⟨215, "take", "Copy.take",meA "Copy" "take",meR "Copy" "take",.none, "postkeep.client",365,461,109,2,209,true,467⟩,⟨227, "take_exists", "take_exists",fnA "take_exists",fnR "take_exists",.none, "postkeep.client",365,488,124,2,223,false,491⟩,⟨246, "place_gone", "place_gone",fnA "place_gone",fnR "place_gone",.none, "postkeep.client",365,511,149,2,240,true,519⟩,⟨253, "blur", "blur",fnA "blur",fnR "blur",.none, "postkeep.client",365,522,161,2,247,true,528⟩,⟨260, "drop_uid", "drop_uid",fnA "drop_uid",fnR "drop_uid",.none, "postkeep.client",365,531,168,2,254,true,537⟩,⟨333, "end_select", "end_select",fnA "end_select",fnR "end_select",.none, "postkeep.client",365,620,248,2,327,true,625⟩,⟨346, "_law_digit", "_law_digit",fnA "_law_digit",fnR "_law_digit",.none, "law_pq0940_01",628,640,261,2,340,true,646⟩,⟨361, "_law_behind", "_law_behind",fnA "_law_behind",fnR "_law_behind",.none, "law_pq0940_01",628,661,275,2,357,false,664⟩,⟨366, "_law_left", "_law_left",fnA "_law_left",fnR "_law_left",.none, "law_pq0940_01",628,667,298,2,362,false,670⟩,⟨371, "_law_pairs", "_law_pairs",fnA "_law_pairs",fnR "_law_pairs",.none, "law_pq0940_01",628,673,300,2,367,false,676⟩,⟨376, "_law_told_of", "_law_told_of",fnA "_law_told_of",fnR "_law_told_of",.none, "law_pq0940_01",628,679,311,2,372,false,682⟩,⟨381, "_law_true", "_law_true",fnA "_law_true",fnR "_law_true",.none, "law_pq0940_01",628,685,320,2,377,false,688⟩,⟨393, "_law_is_taken", "_law_is_taken",fnA "_law_is_taken",fnR "_law_is_taken",.none, "law_pq0940_01",628,697,361,2,387,true,702⟩]
noncomputable def rows3:List Row:=[⟨94, "has", "has",fnA "has",fnR "has",.none, "postkeep.sets",261,295,44,3,88,true,303⟩,⟨234, "check_uid", "check_uid",fnA "check_uid",fnR "check_uid",.none, "postkeep.client",365,494,131,3,228,true,502⟩,⟨239, "take_fetch", "take_fetch",fnA "take_fetch",fnR "take_fetch",.none, "postkeep.client",365,505,138,3,235,false,508⟩,⟨272, "take_vanished", "take_vanished",fnA "take_vanished",fnR "take_vanished",.none, "postkeep.client",365,548,178,3,268,false,551⟩,⟨307, "take_code", "take_code",fnA "take_code",fnR "take_code",.none, "postkeep.client",365,585,209,3,301,true,592⟩,⟨321, "begin_select", "begin_select",fnA "begin_select",fnR "begin_select",.none, "postkeep.client",365,605,227,3,315,true,611⟩,⟨386, "_law_untrue", "_law_untrue",fnA "_law_untrue",fnR "_law_untrue",.none, "law_pq0940_01",628,691,341,3,382,false,694⟩]
noncomputable def rows4:List Row:=[⟨398, "_law_row_holds", "_law_row_holds",fnA "_law_row_holds",fnR "_law_row_holds",.none, "law_pq0940_01",628,705,367,4,394,false,708⟩,⟨403, "_law_knows", "_law_knows",fnA "_law_knows",fnR "_law_knows",.none, "law_pq0940_01",628,711,375,4,399,false,714⟩]
noncomputable def rowsAll:List Row:=rows0++(rows1++(rows2++(rows3++(rows4))))
noncomputable def ixs:List Nat:=[18,19,2,36,20,3,24,37,38,25,26,27,10,39,11,40,12,41,13,28,14,29,15,16,30,31,32,33,34,42,35,43,44,17,5,4,9,22,23,7,8,1,6]
noncomputable def en (P:Params) (x:String) (t:Nat) (v:Value):DictEntry:=⟨PyData.keyHash P (Str.ofString x),.str (Str.ofString x) t,v⟩
noncomputable def KO (P:Params):Frag:=[(3,{ cls:=.type "dict",data:=.dict #[en P "__name__" 165 (sv "law_pq0940_01" 628),en P "__doc__" 166 (.none),en P "__package__" 167 (.none),en P "__loader__" 168 (.builtin "__main__.__loader__#opaque"),en P "__spec__" 169 (.none),en P "__annotations__" 170 (.ref 6),en P "__builtins__" 171 (.ref 4),en P "__file__" 173 (sv "/claim/cut.py" 172),en P "__cached__" 174 (.none),en P "PostError" 228 (.ref 39),en P "SetFault" 244 (.ref 52),en P "ClientFault" 260 (.ref 64),en P "ends_of" 272 (.ref 73),en P "plain_set" 286 (.ref 80),en P "settled" 294 (.ref 87),en P "has" 305 (.ref 94),en P "numbers_in" 316 (.ref 101),en P "size_of" 326 (.ref 108),en P "Atom" 364 (.ref 132),en P "Held" 415 (.ref 168),en P "Copy" 487 (.ref 218),en P "take_exists" 493 (.ref 227),en P "check_uid" 504 (.ref 234),en P "take_fetch" 510 (.ref 239),en P "place_gone" 521 (.ref 246),en P "blur" 530 (.ref 253),en P "drop_uid" 539 (.ref 260),en P "uids_of" 547 (.ref 267),en P "take_vanished" 553 (.ref 272),en P "code_word" 560 (.ref 279),en P "code_number" 567 (.ref 286),en P "take_validity" 575 (.ref 293),en P "take_top" 584 (.ref 300),en P "take_code" 594 (.ref 307),en P "known_rows" 604 (.ref 314),en P "begin_select" 613 (.ref 321),en P "settle_rows" 619 (.ref 326),en P "end_select" 627 (.ref 333),en P "_law_flags" 633 (.ref 334),en P "_law_ink" 639 (.ref 339),en P "_law_digit" 648 (.ref 346),en P "_law_longer" 654 (.ref 351),en P "_law_spread" 660 (.ref 356),en P "_law_behind" 666 (.ref 361),en P "_law_left" 672 (.ref 366),en P "_law_pairs" 678 (.ref 371),en P "_law_told_of" 684 (.ref 376),en P "_law_true" 690 (.ref 381),en P "_law_untrue" 696 (.ref 386),en P "_law_is_taken" 704 (.ref 393),en P "_law_row_holds" 710 (.ref 398),en P "_law_knows" 716 (.ref 403),en P "law" 722 (.ref 408)] 53 }),(22,{ cls:=.type "tuple",data:=.seq #[.int (-1) 202] }),(144,{ cls:=.type "tuple",data:=.seq #[.int (0) 379,.none,.int (0) 380] }),(334,{ cls:=.type "tuple",data:=.seq #[sv "\\Seen" 630,sv "k" 631,sv "\\Deleted" 632] }),(39,{ cls:=.type "type",data:=.cls { name:=Str.ofString "PostError",bases:=[.type "Exception"],mro:=[.ref 39,.type "Exception",.type "BaseException",.type "object"],ns:=38,qualname:=Str.ofString "PostError",subclasses:=[.ref 52,.ref 64] },slots:=#[some (.ref 15),none,some (sv "PostError" 189),some (sv "PostError" 197),some (.builtin "Exception.__new__"),some (.bool true)] }),(52,{ cls:=.type "type",data:=.cls { name:=Str.ofString "SetFault",bases:=[.ref 39],mro:=[.ref 52,.ref 39,.type "Exception",.type "BaseException",.type "object"],ns:=51,qualname:=Str.ofString "SetFault",subclasses:=[] },slots:=#[some (.ref 43),none,some (sv "SetFault" 229),some (sv "SetFault" 237),some (.builtin "Exception.__new__"),some (.bool true)] }),(64,{ cls:=.type "type",data:=.cls { name:=Str.ofString "ClientFault",bases:=[.ref 39],mro:=[.ref 64,.ref 39,.type "Exception",.type "BaseException",.type "object"],ns:=63,qualname:=Str.ofString "ClientFault",subclasses:=[] },slots:=#[some (.ref 55),none,some (sv "ClientFault" 245),some (sv "ClientFault" 253),some (.builtin "Exception.__new__"),some (.bool true)] }),(132,{ cls:=.type "type",data:=.cls { name:=Str.ofString "Atom",bases:=[.type "object"],mro:=[.ref 132,.type "object"],ns:=131,qualname:=Str.ofString "Atom",subclasses:=[] },slots:=#[none,none,some (sv "Atom" 329),some (sv "Atom" 337),some (.builtin "object.__new__"),some (.bool true)] }),(168,{ cls:=.type "type",data:=.cls { name:=Str.ofString "Held",bases:=[.type "object"],mro:=[.ref 168,.type "object"],ns:=167,qualname:=Str.ofString "Held",subclasses:=[] },slots:=#[none,none,some (sv "Held" 367),some (sv "Held" 375),some (.builtin "object.__new__"),some (.bool true)] }),(218,{ cls:=.type "type",data:=.cls { name:=Str.ofString "Copy",bases:=[.type "object"],mro:=[.ref 218,.type "object"],ns:=217,qualname:=Str.ofString "Copy",subclasses:=[] },slots:=#[none,none,some (sv "Copy" 416),some (sv "Copy" 424),some (.builtin "object.__new__"),some (.bool true)] }),(38,{ cls:=.type "dict",data:=.dict #[en P "__module__" 196 (sv "postkeep.errors" 187),en P "__firstlineno__" 200 (.int (2) 199),en P "__init__" 211 (.ref 29),en P "told" 218 (.ref 36),en P "__static_attributes__" 221 (.ref 37),en P "__weakref__" 223 (.ref 40),en P "__doc__" 224 (.none)] 3 }),(51,{ cls:=.type "dict",data:=.dict #[en P "__module__" 236 (sv "postkeep.errors" 187),en P "__firstlineno__" 240 (.int (11) 239),en P "__static_attributes__" 241 (.ref 50),en P "__doc__" 242 (.none)] 2 }),(63,{ cls:=.type "dict",data:=.dict #[en P "__module__" 252 (sv "postkeep.errors" 187),en P "__firstlineno__" 256 (.int (13) 255),en P "__static_attributes__" 257 (.ref 62),en P "__doc__" 258 (.none)] 2 }),(131,{ cls:=.type "dict",data:=.dict #[en P "__module__" 336 (sv "postkeep.wire" 327),en P "__firstlineno__" 340 (.int (61) 339),en P "__init__" 348 (.ref 122),en P "told" 355 (.ref 129),en P "__static_attributes__" 357 (.ref 130),en P "__dict__" 359 (.ref 133),en P "__weakref__" 361 (.ref 134),en P "__doc__" 362 (.none)] 4 }),(167,{ cls:=.type "dict",data:=.dict #[en P "__module__" 374 (sv "postkeep.client" 365),en P "__firstlineno__" 378 (.int (69) 377),en P "__init__" 390 (.ref 151),en P "is_whole" 397 (.ref 158),en P "told" 404 (.ref 165),en P "__static_attributes__" 408 (.ref 166),en P "__dict__" 410 (.ref 169),en P "__weakref__" 412 (.ref 170),en P "__doc__" 413 (.none)] 4 }),(217,{ cls:=.type "dict",data:=.dict #[en P "__module__" 423 (sv "postkeep.client" 365),en P "__firstlineno__" 427 (.int (81) 426),en P "__init__" 434 (.ref 186),en P "uids" 440 (.ref 191),en P "row" 448 (.ref 198),en P "missing" 454 (.ref 203),en P "told" 460 (.ref 208),en P "take" 469 (.ref 215),en P "__static_attributes__" 480 (.ref 216),en P "__dict__" 482 (.ref 219),en P "__weakref__" 484 (.ref 220),en P "__doc__" 485 (.none)] 4 })]
noncomputable def KF (P:Params):Frag:=rowsAll.foldr (λr k=>(r.a.pred,r.co) :: (r.a,r.fo) :: k) (KO P)
noncomputable def asF:List Addr:=rowsAll.foldr (λr k=>r.a.pred :: r.a :: k) [3,22,144,334,39,52,64,132,168,218,38,51,63,131,167,217]
end
section
set_option maxRecDepth 100000
open PySem PySem.W PyProof.Rows
section
variable {P:Params}
theorem map_at {α β:Type} {l:List α} {f g:α->β} (h:l.map f=l.map g) {a:α} (m:a∈l):f a=g a:=List.map_inj_left.mp h a m
theorem rows_at:rowsAll.map (λr=>((KF P).lookup r.a,(KF P).lookup r.a.pred))=rowsAll.map λr=>(some r.fo,some r.co):=by kernel_rfl
noncomputable def saneB (f:FnRec):Bool:=decide (f.2.2.kind=.function)&&(decide (f.2.2.isCoroutine=false)&&(decide (f.2.2.isGenerator=false)&&(decide (f.2.2.names.map (·.1)).Nodup&&(decide f.1.Nodup&&(decide (∀ x∈f.1,f.2.2.names.lookup x=some .local∨f.2.2.names.lookup x=some .cell)&&(decide (∀ y∈f.2.2.names,y.2≠.free)&&(decide (f.2.2.names.lookup ("__debug__":Str)=none)&&decide (f.2.2.names.lookup ("__classdict__":Str)=none))))))))
theorem rows_sane:rowsAll.all (λr=>saneB r.f)=true:=by kernel_rfl
theorem fn_ok {r:Row} (h:r∈rowsAll) {ds:List Value} (args:∀ (s:Shared) (vals:List Value),(KF P).In s.heap->(vals++ds).length=r.f.1.length->BindsTo s r.fd ⟨vals,[]⟩ (r.f.1.zip (vals++ds))):FnOK (KF P) r.a r.f ds:=by
  obtain ⟨e1,e2⟩:=Prod.mk.inj (map_at (rows_at (P:=P)) h)
  obtain ⟨h1,h⟩:=and_t (List.all_eq_true.mp rows_sane r h)
  obtain ⟨h2,h⟩:=and_t h
  obtain ⟨h3,h⟩:=and_t h
  obtain ⟨h4,h⟩:=and_t h
  obtain ⟨h5,h⟩:=and_t h
  obtain ⟨h6,h⟩:=and_t h
  obtain ⟨h7,h⟩:=and_t h
  obtain ⟨h8,h9⟩:=and_t h
  exact ⟨⟨_,r.fd,r.a.pred,_,_,r.t+1,e1,rfl,rfl,rfl,rfl,rfl,rfl,rfl,e2,rfl,rfl,args⟩,by unfold keepIn;dsimp only;rw [e1];rfl,of_decide_eq_true h1,of_decide_eq_true h2,of_decide_eq_true h3,of_decide_eq_true h4,of_decide_eq_true h5,of_decide_eq_true h6,of_decide_eq_true h7,of_decide_eq_true h8,of_decide_eq_true h9⟩
theorem len2 {α:Type}:∀ {l:List α},l.length=2->∃ a b,l=[a,b]
  | [a,b],_=>⟨a,b,rfl⟩
theorem len3 {α:Type}:∀ {l:List α},l.length=3->∃ a b c,l=[a,b,c]
  | [a,b,c],_=>⟨a,b,c,rfl⟩
noncomputable def Bd (r:Row):Prop:=∀ vals:List Value,vals.length=r.f.1.length->bindArgs r.fd ⟨vals,[]⟩=pure (r.f.1.zip vals)
theorem len_all {l:List Row} {n:Nat} (h:l.all (λr=>r.f.1.length==n)=true) {r:Row} (m:r∈l) {vals:List Value} (e:vals.length=r.f.1.length):vals.length=n:=e.trans (beq_iff_eq.mp (List.all_eq_true.mp h r m))
theorem bd1:∀ r∈rows1,Bd r:=λr m vals e=>by
  obtain ⟨a,rfl⟩:=List.length_eq_one_iff.mp (len_all (n:=1) (l:=rows1) (by kernel_rfl) m e)
  exact congrFun (map_at (l:=rows1) (f:=λr a=>bindArgs r.fd ⟨[a],[]⟩) (g:=λr a=>pure (r.f.1.zip [a])) (by kernel_rfl) m) a
theorem bd2:∀ r∈rows2,Bd r:=λr m vals e=>by
  obtain ⟨a,b,rfl⟩:=len2 (len_all (n:=2) (l:=rows2) (by kernel_rfl) m e)
  exact congrFun (congrFun (map_at (l:=rows2) (f:=λr a b=>bindArgs r.fd ⟨[a,b],[]⟩) (g:=λr a b=>pure (r.f.1.zip [a,b])) (by kernel_rfl) m) a) b
theorem bd3:∀ r∈rows3,Bd r:=λr m vals e=>by
  obtain ⟨a,b,c,rfl⟩:=len3 (len_all (n:=3) (l:=rows3) (by kernel_rfl) m e)
  exact congrFun (congrFun (congrFun (map_at (l:=rows3) (f:=λr a b c=>bindArgs r.fd ⟨[a,b,c],[]⟩) (g:=λr a b c=>pure (r.f.1.zip [a,b,c])) (by kernel_rfl) m) a) b) c
theorem len4 {α:Type}:∀ {l:List α},l.length=4->∃ a b c d,l=[a,b,c,d]
  | [a,b,c,d],_=>⟨a,b,c,d,rfl⟩
theorem bd4:∀ r∈rows4,Bd r:=λr m vals e=>by
  obtain ⟨a,b,c,d,rfl⟩:=len4 (len_all (n:=4) (l:=rows4) (by kernel_rfl) m e)
  exact congrFun (congrFun (congrFun (congrFun (map_at (l:=rows4) (f:=λr a b c d=>bindArgs r.fd ⟨[a,b,c,d],[]⟩) (g:=λr a b c d=>pure (r.f.1.zip [a,b,c,d])) (by kernel_rfl) m) a) b) c) d
noncomputable def row29:Row:=rows0.head (by decide)
noncomputable def row151:Row:=rows0.getLast (by decide)
theorem in29:row29∈rowsAll:=List.mem_append_left _ (List.head_mem _)
theorem in151:row151∈rowsAll:=List.mem_append_left _ (List.getLast_mem _)
theorem ok29:FnOK (KF P) 29 (meR "PostError" "__init__"):=fn_ok in29 λs vals X e=>by
  rw [List.append_nil] at e ⊢
  obtain ⟨a,b,c,rfl⟩:=len3 (e.trans (by kernel_rfl:row29.f.1.length=3))
  exact binds_K X rfl rfl rfl rfl rfl
theorem ok151:FnOK (KF P) 151 (meR "Held" "__init__"):=fn_ok in151 λs vals X e=>by
  rw [List.append_nil] at e ⊢
  obtain ⟨a,b,c,d,rfl⟩:=len4 (e.trans (by kernel_rfl:row151.f.1.length=4))
  exact binds_K X rfl rfl rfl rfl rfl
theorem ok151d:FnOK (KF P) 151 (meR "Held" "__init__") [.int 0 379,.none,.int 0 380]:=fn_ok in151 λs vals X e=>by
  obtain ⟨a,rfl⟩:=List.length_eq_one_iff.mp (Nat.succ.inj (Nat.succ.inj (Nat.succ.inj (List.length_append.symm.trans (e.trans (by kernel_rfl:row151.f.1.length=4))))))
  exact binds_K X rfl rfl rfl rfl rfl
theorem rows_fn {r:Row} (h:r∈rowsAll):FnOK (KF P) r.a r.f:=by
  have go:Bd r->FnOK (KF P) r.a r.f:=λb=>fn_ok h λs vals X e=>by
    rw [List.append_nil] at e ⊢
    exact .of_eq (b vals e)
  rcases List.mem_append.mp h with m | m
  · rcases List.mem_cons.mp m with e | m
    · exact e▸ok29
    · exact List.mem_singleton.mp m▸ok151
  rcases List.mem_append.mp m with m | m
  · exact go (bd1 r m)
  rcases List.mem_append.mp m with m | m
  · exact go (bd2 r m)
  rcases List.mem_append.mp m with m | m
  · exact go (bd3 r m)
  · exact go (bd4 r m)
theorem tab_rows:tabN.map some=ixs.map λi=>(rowsAll[i]?).map λr=>(r.a,r.f):=by kernel_rfl
theorem mem_lk {β:Type} {a:Nat} {b:β}:∀ {l:List (Nat×β)},l.lookup a=some b->(a,b)∈l
  | (c,d) :: r,h=>by
    rw [List.lookup_cons] at h
    cases e:a==c with
    | true=>rw [e] at h;cases h;cases beq_iff_eq.mp e;exact List.mem_cons_self
    | false=>rw [e] at h;exact List.mem_cons_of_mem _ (mem_lk h)
theorem tab_fn {a:Addr} {f:FnRec} (h:tab a=some f):FnOK (KF P) a f:=by
  have h:tabN.lookup a=some f:=h
  have m:=List.mem_map_of_mem (f:=some) (mem_lk h)
  rw [tab_rows] at m
  obtain ⟨i,_,e⟩:=List.mem_map.mp m
  obtain ⟨r,hr,e⟩:=Option.map_eq_some_iff.mp e
  obtain ⟨rfl,rfl⟩:=Prod.mk.inj e
  exact rows_fn (List.mem_of_getElem? hr)
end
end
section
set_option maxRecDepth 100000
open PySem PySem.W PyProof.Rows
section
variable {P:Params}
theorem cls_of {K:Frag} {C:Addr} {ns:List Str} (h1:findIn K (.ref C) "__getattribute__"=some (some (.builtin "object.__getattribute__"))) (h2:findIn K (.ref C) "__setattr__"=some (some (.builtin "object.__setattr__"))) (h3:hasDictIn K C=true) (h4:plainOver K C=true) (h5:ns.map (findIn K (.ref C))=ns.map λ_=>some none):ClsOK K C ns:=⟨h1,h2,h3,h4,λn m=>map_at (f:=findIn K (.ref C)) (g:=λ_=>some none) h5 m⟩
theorem c168:ClsOK (KF P) 168 (namesOf false):=cls_of (by kernel_rfl) (by kernel_rfl) (by kernel_rfl) (by kernel_rfl) (by kernel_rfl)
theorem c218:ClsOK (KF P) 218 (namesOf true):=cls_of (by kernel_rfl) (by kernel_rfl) (by kernel_rfl) (by kernel_rfl) (by kernel_rfl)
theorem c132:ClsOK (KF P) 132 [sText]:=cls_of (by kernel_rfl) (by kernel_rfl) (by kernel_rfl) (by kernel_rfl) (by kernel_rfl)
theorem meths:Meths (KF P):=⟨λc=>by cases c <;> kernel_rfl,λc p m=>Prod.mk.inj (map_at (l:=instMs c) (f:=λp=>(findIn (KF P) (.ref (clsAt c)) p.1,typeIn (KF P) (.ref p.2))) (g:=λp=>(some (some (.ref p.2)),some (.type "function"))) (by cases c <;> kernel_rfl) m)⟩
theorem faultOK:FaultOK (KF P):=⟨⟨_,_,_,_,rfl⟩,by kernel_rfl,by kernel_rfl,by kernel_rfl,by kernel_rfl⟩
theorem faultCls:FaultCls (KF P):=⟨by kernel_rfl,by kernel_rfl,⟨_,rfl,by kernel_rfl⟩,λn m=>map_at (l:=[sWhat,sAt]) (f:=findIn (KF P) (.ref 64)) (g:=λ_=>some none) (by kernel_rfl) m⟩
theorem faultInit {B:Heap} (hx:∃ mg mb,B.Ns mainGlobals mg/\B.Ns builtinsNs mb/\mg sExc=none/\mb sExc=some (.type "Exception")):FaultInit (KF P) B where
  cls:=faultCls
  obj:=⟨_,_,_,_,_,_,_,_,_,_,_,_,_,_,_,_,rfl,⟨by kernel_rfl,by kernel_rfl,by kernel_rfl⟩⟩
  init:=by kernel_rfl
  ityp:=by kernel_rfl
  keep:=by kernel_rfl
  sup:=by kernel_rfl
  exc:=hx
  fn:=ok29
theorem i168:ClsIs (KF P) 168 151:=⟨by kernel_rfl,by kernel_rfl,by kernel_rfl⟩
theorem i218:ClsIs (KF P) 218 186:=⟨by kernel_rfl,by kernel_rfl,by kernel_rfl⟩
theorem i132:ClsIs (KF P) 132 122:=⟨by kernel_rfl,by kernel_rfl,by kernel_rfl⟩
noncomputable def mainO (P:Params):Array DictEntry:=match (KO P).head? with
  | some (_,⟨_,_,.dict es _,_⟩)=>es
  | _=>#[]
theorem main_of {w:World} {B:Heap} {mg:Str->Option Value} (X:(KF w.params).In B) (g:B.Ns mainGlobals mg) (x:Str):mg x=nsFind (mainO w.params) x:=by
  obtain ⟨o,es,ep,h1,h2,_,h3⟩:=g
  have h:(KF w.params).lookup mainGlobals=some { cls:=.type "dict",data:=.dict (mainO w.params) 53 }:=by kernel_rfl
  cases h1.symm.trans (X _ _ h)
  cases h2
  exact (h3 x).symm
theorem names_of {w:World} {B:Heap} {mg mb:Str->Option Value} (X:(KF w.params).In B) (g:B.Ns mainGlobals mg) (hb:∀ x:Str,x ≠ "__name__"->mb x=bootBuiltins x) (x:Str) (v:V) (h:gtab x=some v) :
    ∃ y,(mg x=some y∨(mg x=none/\mb x=some y))/\RelV w.params ⟨[],[334]⟩ B v y:=by
  have N:=main_of X g x
  unfold gtab at h
  split at h
  · rename_i a e
    cases h
    exact ⟨_,.inl (N.trans (map_at (l:=defsAt) (f:=λp=>nsFind (mainO w.params) p.1) (g:=λp=>some (.ref p.2)) (by kernel_rfl) (PySem.mem_of_lookup e))),.glob (.fn a)⟩
  split at h
  · rename_i b e
    cases h
    obtain ⟨e1,e2⟩:=Prod.mk.inj (map_at (l:=builtinsAt) (f:=λp=>(nsFind (mainO w.params) p.1,bootBuiltins p.1,p.1==("__name__":Str))) (g:=λp=>(none,some p.2.val,false)) (by kernel_rfl) (PySem.mem_of_lookup e))
    obtain ⟨e2,e3⟩:=Prod.mk.inj e2
    exact ⟨_,.inr ⟨N.trans e1,(hb x (beq_eq_false_iff_ne.mp e3)).trans e2⟩,.glob b⟩
  split at h
  · rename_i b e
    cases h
    exact ⟨_,.inl (N.trans (map_at (l:=bisAt) (f:=λp=>nsFind (mainO w.params) p.1) (g:=λp=>some p.2.val) (by kernel_rfl) (PySem.mem_of_lookup e))),.glob b⟩
  split at h
  · rename_i e
    cases h
    cases beq_iff_eq.mp e
    have h334:(KF w.params).lookup 334=some (tupO [sv "\\Seen" 630,sv "k" 631,sv "\\Deleted" 632]):=by kernel_rfl
    exact ⟨.ref 334,.inl (N.trans (by kernel_rfl)),RelV.tup (List.mem_singleton.mpr rfl) (X 334 _ h334) (.cons (.str _ _) (.cons (.str _ _) (.cons (.str _ _) .nil)))⟩
  · cases h
theorem facts_of {w:World} {B:Heap} {mg mb:Str->Option Value} (X:(KF w.params).In B) (g:B.Ns mainGlobals mg) (gb:B.Ns builtinsNs mb) (hb:∀ x:Str,x ≠ "__name__"->mb x=bootBuiltins x) (lim:B.NoLimit):Facts (KF w.params) w B tab where
  base:=⟨X,λc=>by cases c;exact c168;exact c218,c132,⟨mg,mb,g,gb,names_of X g hb⟩,lim⟩
  mm:=meths
  fault:=faultOK
  fi:=faultInit ⟨mg,mb,g,gb,(main_of X g _).trans (by kernel_rfl),(hb _ (by decide)).trans (by kernel_rfl)⟩
  held:=i168
  copy:=i218
  atom:=i132
  keeps:=λa m=>map_at (l:=[(168:Addr),218,132]) (f:=λa=>keepIn (KF w.params) (.ref a)) (g:=λ_=>true) (by kernel_rfl) m
  atomI:=let ⟨r,m,e1,e2⟩:=(⟨_,List.mem_of_getElem? (i:=21) rfl,rfl,rfl⟩:∃ r∈rowsAll,r.a=122/\r.f=meR "Atom" "__init__");e1▸e2▸rows_fn m
  heldI:=⟨379,380,ok151d⟩
  heldT:=by kernel_rfl
  copyT:=by kernel_rfl
  fns:=λa f h=>tab_fn h
end
end
section
set_option maxRecDepth 100000
set_option maxHeartbeats 8000000
open PySem PySem.W PyProof.Rows
noncomputable def keepIx:List Nat:=PySem.Challenge.pw_pq0940_01.main.body.zipIdx.filterMap λx=>match x.1 with | .Assign [.Name n _] (.Constant _ _ _) _=>if n==Str.ofString "__name__" then none else some x.2 | _=>some x.2
noncomputable def vw:Program:=view PySem.Challenge.pw_pq0940_01 keepIx
noncomputable def lse:List Str:=[Str.ofString "PostError"]
noncomputable abbrev pw:=PySem.Challenge.pw_pq0940_01
theorem boot:∀ w:World,(fencedOpening treeTable pw w 5626).map (λs=>(s.heap,s.gens,s.drawn,s.toks))=some (boot_heap w.params,Array.mk [],boot_drawn,boot_toks):=boot_open (by rfl) (by decide +kernel) (λs=>by rfl)
noncomputable def topF (w:World) (os:OsState):Option Shared:=Fast.tw14082659384304107361 Fast.tw14364793385576792824 pw w (boot_heap w.params).objs.size ((boot_heap w.params).nsMap mainGlobals "__annotations__") 3000 ⟨boot_heap w.params,Array.mk [],boot_drawn,boot_toks,os⟩ (topStub pw)
theorem looks:∀ w:World,(λos=>(topF w os).map (λs=>((staticsOk (importedModules pw.main.body) (boot_heap w.params) s.heap&&namesBound pw s.heap&&gensDone s&&laidKept (boot_heap w.params) s.heap,asF.map s.heap.get?),Fast.tw4187177175401517315 vw lse (importedModules pw.main.body) (λs=>xlAt vw [] s&&recOk (RowW.records PySem.Challenge.rw_pq0940_01.row.toRowW) s) true s)))=λos=>some ((true,(KF w.params).map λp=>some p.2),openGood vw lse):=λw=>by kernel_rfl
theorem said:PySem.Challenge.rw_pq0940_01.wellSaid=true:=by kernel_rfl
theorem as_keys (P:Params):asF=(KF P).map (·.1):=by kernel_rfl
theorem left:LeftO pw vw lse (λs=>xlAt vw [] s&&recOk (RowW.records PySem.Challenge.rw_pq0940_01.row.toRowW) s) (kHook KF asF as_keys).obs (kHook KF asF as_keys).val 5626:=λw=>by
  obtain ⟨⟨h,gs,d,k,os⟩,e,e'⟩:=Option.map_eq_some_iff.mp (boot w)
  obtain ⟨e1,e'⟩:=Prod.mk.inj e'
  obtain ⟨e2,e'⟩:=Prod.mk.inj e'
  obtain ⟨e3,e4⟩:=Prod.mk.inj e'
  subst e1 e2 e3 e4
  obtain ⟨s₁,t1,c⟩:=Option.map_eq_some_iff.mp (congrFun (looks w) os)
  obtain ⟨c,c3⟩:=Prod.mk.inj c
  obtain ⟨c1,c2⟩:=Prod.mk.inj c
  have r:topRun treeTable pw w (boot_heap w.params).objs.size ((boot_heap w.params).nsMap mainGlobals "__annotations__") 3000 ⟨boot_heap w.params,Array.mk [],boot_drawn,boot_toks,os⟩ (topStub pw)=some s₁:=by
    rw [Fast.te14082659384304107361,Fast.te14364793385576792824]
    exact t1
  have r:topRun treeTable pw w (boot_heap w.params).objs.size ((boot_heap w.params).nsMap mainGlobals "__annotations__") 5626 ⟨boot_heap w.params,Array.mk [],boot_drawn,boot_toks,os⟩ (topStub pw)=some s₁:=topRun_mono 2626 3000 _ _ _ r
  have z:((boot_heap w.params).isNs mainGlobals&&(Array.mk ([]:List GenState)).size==0)=true:=by kernel_rfl
  have t:topFrom treeTable pw w 5626 ⟨boot_heap w.params,Array.mk [],boot_drawn,boot_toks,os⟩=some s₁:=by
    unfold topFrom
    dsimp only
    rw [z,r]
    show (match staticsOk (importedModules pw.main.body) (boot_heap w.params) s₁.heap&&namesBound pw s₁.heap&&gensDone s₁&&laidKept (boot_heap w.params) s₁.heap with | true=>some s₁ | false=>none)=_
    rw [c1]
  unfold openEnds
  rw [e]
  show (topFrom treeTable pw w 5626 _).map _=_
  rw [t,Fast.te4187177175401517315]
  exact congrArg some (Prod.ext c3 c2)
noncomputable def isI:WData->Value->Prop
  | .int i,x=>∃ t,x=.int i t
  | _,_=>True
theorem isI.of {P:Params} {B:Heap} {x:Value} {d:WData} (r:Well P B x d):isI d x:=by
  cases r <;> first | exact trivial | exact ⟨_,rfl⟩
theorem wells_ints {P:Params} {B:Heap} {g:Gh} {h:Heap} {vs:List Int}:∀ {xs:List Value},WellAll P B xs (ofPys (vs.map PyData.int))->RelVs P g h (vs.map .int) xs:=by
  induction vs with
  | nil=>intro xs x;cases x;exact .nil
  | cons v vs ih=>
    intro xs x
    cases x with
    | cons a b=>
      obtain ⟨t,rfl⟩:=isI.of a
      exact .cons (.int _ _) (ih b)
theorem hp_top {w:World} {B:Heap} {L:Addr} (X:(KF w.params).In B) (hL:∃ o,B.get? L=some o) (hl:(L==sysModules)=false):Hp B w.params [] ⟨[],[334,L]⟩ [] B where
  stays:=λ_ _ e=>e
  flags:=List.mem_cons_self
  len:=rfl
  objs:=λi o e=>(nomatch e)
  nodup:=List.nodup_nil
  off:=λa m=>(nomatch m)
  froz:=λa m=>⟨λq=>(nomatch q),(List.mem_cons.mp m).elim (λe=>e▸⟨_,X 334 (tupO [sv "\\Seen" 630,sv "k" 631,sv "\\Deleted" 632]) (by kernel_rfl)⟩) λm=>List.mem_singleton.mp m▸hL⟩
  low:=λa m=>m.elim (λm=>(List.mem_cons.mp m).elim (λe=>e▸(by decide)) λm=>List.mem_singleton.mp m▸hl) λm=>(nomatch m)
  kinds:=λe m=>(nomatch m)
  frames:=λa m=>(nomatch m)
noncomputable abbrev lawDef:=defOf vw PySem.Challenge.rw_pq0940_01.row.name
theorem defIs:lawDef.isSome=true:=by kernel_rfl
theorem wl_inv {P:Params} {B:Heap} {a:Addr} {ds:List WData} (x:Well P B (.ref a) (.list ds)):∃ xs:List Value,B.get? a=some { cls:=.type "list",data:=.seq xs.toArray }/\WellAll P B xs ds:=by
  cases x;exact ⟨_,‹_›,‹_›⟩
theorem rd_inv {h:Heap} {a:Addr} {xs:List PyData} {as:List Addr} (x:Reads h (.ref a) (.list xs) as):a∈as:=by
  cases x;exact List.mem_cons_self
theorem holds:PySem.Challenge.rw_pq0940_01.Holds:=by
  refine holds_law said λsaid=>?_
  refine holds_open (q:=vw) (loose:=lse) (Xt:=λs=>xlAt vw [] s&&recOk (RowW.records PySem.Challenge.rw_pq0940_01.row.toRowW) s) (XP:=XL vw []) (Yf:=Hook.obs (kHook KF asF as_keys)) (Ya:=Hook.val (kHook KF asF as_keys)) (YP:=Hook.says (kHook KF asF as_keys)) (N:=5626) left (Hook.of (kHook KF asF as_keys)) (Hook.keeps (kHook KF asF as_keys)) (λs e=>xl_of s (Bool.and_eq_true_iff.mp e).1) XL.keeps (d:=(lawDef.get defIs).1) (kwd:=(lawDef.get defIs).2) ?h1 ?h2 ?h3 (λs e=>recFacts_of (Bool.and_eq_true_iff.mp e).2) ?h4 said ?h5 ?h6 ?h7 ?h8
  case h1=>exact (Option.some_get defIs).symm
  case h2=>kernel_rfl
  case h3=>kernel_rfl
  case h4=>rfl
  case h5=>decide +kernel
  case h6=>exact ⟨rfl,rfl,rfl,rfl,rfl,by decide +kernel⟩
  case h7=>w_witness2
  intro w s₀ s₁ mg mb G Y fa o pm cd doc dV kV ho hd hcd hD hmg hg args vals as hpre hlay hrd hwl hlo
  have KX:(KF w.params).In s₁.heap:=kIn_of Y
  refine Ground.open G ?_
  intro T B D TE TW
  have hlo':=hlo
  have hrd':=hrd
  have hfa:fa=408:=by
    have e:=(main_of KX T.g _).symm.trans hmg
    have e2:nsFind (mainO w.params) (Str.ofString "law")=some (.ref 408):=by kernel_rfl
    exact Value.ref.inj (Option.some.inj (e2.symm.trans e)) |>.symm
  subst hfa
  clear ho hd hcd hD hmg
  wrow_args hpre hlay hrd hwl hlo
  refine enter_call ?_
  refine codeAny_mono ?_ (λ_ _ g=>GoodW.toG g)
  rename_i vs _ _ _ _ _ la lb L xs lc hL ra w1 r0 hI _ hc1 _
  have hLm:(L==sysModules)=false:=hlo' _ (by simp [rd_inv r0])
  have F:=facts_of KX T.g T.b T.builtins T.nolimit
  obtain ⟨xs,hobj,hall⟩:=wl_inv w1
  obtain ⟨μ',hlaw⟩:=law_true_all vs (by omega)
  have hun:phiT tab 50 408 [.lst (vs.map .int)] []=runF (phiT tab 49) (fnR "law") [.lst (vs.map .int)] []:=rfl
  rw [hun] at hlaw
  refine enter_top (k:=⟨w,s₁.heap,KF w.params,0,λ_ _ _=>CR.fail,F.base⟩) (A:=callerA) (full_all F 49) rfl rfl (by decide) (by decide) (hp_top (L:=L) KX ⟨_,hobj⟩ hLm) (Nat.le_refl _) (F.fns 408 _ (by kernel_rfl)) (.cons (.lst (List.mem_cons_of_mem _ List.mem_cons_self) ⟨_,_,hobj,wells_ints hall⟩) .nil) hlaw λg' s' y hs hge hos ry=>?_
  exact ry.isBool rfl ⟨.inl ⟨.bool true,.bool true,[],rfl,λ_=>rfl,.bool true,by kernel_rfl!,unshared_nil⟩,hs,hos,hge.trans hg⟩
end
end Mine
end
theorem PySem.Challenge.cw_pq0940_01_holds : PySem.Challenge.rw_pq0940_01.Holds := by
  exact Mine.holds
