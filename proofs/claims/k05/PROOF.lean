import PyProof.Rows.All
import Wide.All
import OpenK.AllK
import Wide.FinOn
import KE.KStateDown
import HandS.ForMost
import HandS.Exc
import HandS.WordsExc
import HandS.IsInst
import HandS.FStr
import HandS.TupAny
import HandS.Defaults
import HandS.Lambda
import HandS.HeadHook1
import KE.KDictKeyed
import KE.KDictDisplayH
import HandS.Style
import HandS.Deep
import HandS.RaiseMore
import HandS.SetFor
import KE.IntTextLaws
import KE.KSuper
import HandS.Nested
import HandS.ClsMeth
import HandS.Ends
import HandS.HeadEnd
import KE.KCallOwn
import HandS.Property
import HandS.Head0
import HandS.Head1
import HandS.Head2
import HandS.HeadHook2
import HandS.Words
import HandS.MakeKwOnly
import HandS.CallLocal
import KE.GoesEnum
import HandS.Star
import HandS.DictComp
import HandS.WordsDict
import KE.KDictWalk
import PyProof.DictFindH
import HandS.More
import KE.KFromBytes
import HandS.ExcInit
import KE.KExcInit
import HandS.ExcField
import HandS.ExcIs
import HandS.TryOnly
import KE.KExcIs
import KE.KDictCopyH
import PyProof.P3In
import HandS.ExcValue
import KE.SortData
import KE.DataCmp
import KE.KDictSum
import KE.KDictPairs
import KE.KEqDict
import HandS.SetTxt0
import OpenK.KMeth
import HandS.Conv
import HandS.TupMul
import KE.SortKeyHeap
import HandS.SortKw
import PyProof.FString3
import PyProof.Rows.StrIntSpec
import PyProof.DictStraight
import KE.KxField
import HandS.HeadHook3
import HandS.EndTab
import HandS.Iter
import PySem.Challenge.RW_forkpolls_k05_books_made
import HandS.OwnEq
set_option Elab.async false
set_option linter.all false
set_option maxRecDepth 100000
set_option maxHeartbeats 8000000
namespace Mir
inductive W where
 | non | bl (b:Bool) | int (i:Int) | str (x:List Nat) | tup (xs:List W) | lst (xs:List W)
 | obj (c:Nat) (fs:List (Nat×W)) | ref (n:Nat) | cls (c:Nat)
 | lsr (xs:List W)
inductive SO where
 | lst (xs:List W) | dct (kvs:List (W×W)) | ins (c:Nat) (fs:List (Nat×W))
 | dcx (kvs:List (W×W))
structure Store where
 next:Nat
 objs:List (Nat×SO)
inductive Out (α:Type) where
 | ok (a:α) (S:Store) | err (c:Nat) (fs:List (Nat×W)) (S:Store) | bad
def Out.bind {α β:Type} (x:Out α) (f:α->Store->Out β):Out β:=match x with
 | .ok a S=>f a S
 | .err c fs S=>.err c fs S
 | .bad=>.bad
def look:List (Nat×SO)->Nat->Option SO
 | [],_=>none
 | (m,o)::r,n=>if Nat.beq m n then some o else look r n
def Qj7:List (Nat×SO)->Nat->List (Nat×SO)
 | [],_=>[]
 | (m,o)::r,n=>if Nat.beq m n then r else (m,o)::Qj7 r n
def Store.get (S:Store) (n:Nat):Option SO:=look S.objs n
def Store.new (S:Store) (o:SO):Store:=⟨Nat.succ S.next,(S.next,o)::S.objs⟩
def Store.drop (S:Store) (n:Nat):Store:=⟨S.next,Qj7 S.objs n⟩
abbrev Jo:=List (Option W)
def Jm:Jo->Nat->Option W
 | [],_=>none
 | x::_,0=>x
 | _::r,n+1=>Jm r n
def Jz:Jo->Nat->Option W->Jo
 | [],_,_=>[]
 | _::r,0,w=>w::r
 | x::r,n+1,w=>x::Jz r n w
abbrev ME:=Jo->Store->Out W
abbrev MT:=Jo->Store->Out Bool
abbrev MA:=Jo->Store->Out (List W)
inductive Fl where
 | nx (d:Jo) | rt (w:W) | br (d:Jo) | ct (d:Jo)
abbrev MS:=Jo->Store->Out Fl
abbrev MF:=List W->Store->Out W
def Jy:Nat:=100000
def JH:List Nat->List Nat->Bool
 | [],[]=>true
 | a::r,b::s=>if Nat.beq a b then JH r s else false
 | _,_=>false
def okS (z:List Nat):Bool:=z.all (λc=>Nat.blt c 128)&&Nat.ble z.length Jy
def b2i (b:Bool):Int:=if b then 1 else 0
def sIx (n d:Nat):Option Int->Nat
 | none=>d
 | some v=>if v<0 then (v+(n:Int)).toNat else min v.toNat n
def cut {α:Type} (xs:List α) (lo hi:Option Int):List α:=(xs.drop (sIx xs.length 0 lo)).take (sIx xs.length xs.length hi-sIx xs.length 0 lo)
def Kw {α:Type} (o:Option α) (S:Store):Out α:=match o with
 | some a=>.ok a S
 | none=>.bad
mutual
def Yx:W->W->Option Bool
 | .non,b=>match b with
  | .non=>some true
  | .bl _ | .int _ | .str _ | .tup _ | .lst _=>some false
  | _=>none
 | .bl a,b=>match b with
  | .bl c=>some (a == c)
  | .int j=>some (decide (b2i a=j))
  | .non | .str _ | .tup _ | .lst _=>some false
  | _=>none
 | .int i,b=>match b with
  | .int j=>some (decide (i=j))
  | .bl c=>some (decide (i=b2i c))
  | .non | .str _ | .tup _ | .lst _=>some false
  | _=>none
 | .str a,b=>match b with
  | .str c=>some (JH a c)
  | .non | .bl _ | .int _ | .tup _ | .lst _=>some false
  | _=>none
 | .tup a,b=>match b with
  | .tup c=>eqWs a c
  | .non | .bl _ | .int _ | .str _ | .lst _=>some false
  | _=>none
 | .lst a,b=>match b with
  | .lst c=>eqWs a c
  | .non | .bl _ | .int _ | .str _ | .tup _=>some false
  | _=>none
 | _,_=>none
def eqWs:List W->List W->Option Bool
 | [],b=>match b with
  | []=>some true
  | _::_=>some false
 | x::r,b=>match b with
  | []=>some false
  | y::s=>match Yx x y with
   | some true=>eqWs r s
   | some false=>some false
   | none=>none
end
def rd (S:Store) (w:W):W:=match w with
 | .ref n=>match S.get n with
  | some (.lst xs)=>.lst xs
  | _=>w
 | _=>w
def KJ (S:Store) (w:W):Option (List W):=match w with
 | .tup xs=>some xs
 | .lst xs=>some xs
 | .lsr xs=>some xs
 | .ref n=>match S.get n with
  | some (.lst xs)=>some xs
  | _=>none
 | _=>none
mutual
def Kz:Nat->W->Bool
 | _,.non=>true
 | _,.bl _=>true
 | _,.int _=>true
 | _,.str _=>true
 | n,.tup xs=>match n with
  | 0=>false
  | n+1=>J5 n xs
 | n,.lst xs=>match n with
  | 0=>false
  | n+1=>J5 n xs
 | _,_=>false
def J5:Nat->List W->Bool
 | _,[]=>true
 | n,x::r=>Kz n x&&J5 n r
end
def Qh2 (ms:List (Nat×W)) (k:Nat):Option W:=match ms with
 | []=>none
 | (m,w)::r=>if Nat.beq m k then some w else Qh2 r k
def fld (k:Nat) (x:W) (S:Store):Out W:=match x with
 | .obj _ fs=>Kw (Qh2 fs k) S
 | .ref n=>match S.get n with
  | some (.ins _ fs)=>Kw (Qh2 fs k) S
  | _=>.bad
 | _=>.bad
def sl (x:W) (l h:Option Int) (S:Store):Out W:=match x with
 | .str z=>.ok (.str (cut z l h)) S
 | .tup xs=>.ok (.tup (cut xs l h)) S
 | .lsr xs=>.ok (.lst (cut xs l h)) S
 | _=>match rd S x with
  | .lst xs=>.ok (.lst (cut xs l h)) S
  | _=>.bad
inductive Ty where
 | int | bool | str | list | tuple | own (c:Nat)
inductive Tg where
 | nm (i:Nat) | tp (ts:List Tg)
mutual
def JG:Tg->W->Jo->Option Jo
 | .nm i,w,d=>some (Jz d i (some w))
 | .tp ts,w,d=>match w with
  | .tup ws=>Xa ts ws d
  | _=>none
def Xa:List Tg->List W->Jo->Option Jo
 | [],ws,d=>match ws with
  | []=>some d
  | _::_=>none
 | t::ts,ws,d=>match ws with
  | []=>none
  | w::ws=>match JG t w d with
   | some d1=>Xa ts ws d1
   | none=>none
end
mutual
def Qfa:W->W->Bool
 | .non,b=>match b with
  | .non=>true
  | _=>false
 | .bl a,b=>match b with
  | .bl c=>a == c
  | _=>false
 | .int i,b=>match b with
  | .int j=>decide (i=j)
  | _=>false
 | .str x,b=>match b with
  | .str y=>JH x y
  | _=>false
 | .tup xs,b=>match b with
  | .tup ys=>JC xs ys
  | _=>false
 | .lst xs,b=>match b with
  | .lst ys=>JC xs ys
  | _=>false
 | .ref n,b=>match b with
  | .ref m=>Nat.beq n m
  | _=>false
 | .obj c fs,b=>match b with
  | .obj k gs=>if Nat.beq c k then YF fs gs else false
  | _=>false
 | .cls c,b=>match b with
  | .cls k=>Nat.beq c k
  | _=>false
 | .lsr _,_=>false
def YF:List (Nat×W)->List (Nat×W)->Bool
 | [],b=>match b with
  | []=>true
  | _::_=>false
 | (i,x)::r,b=>match b with
   | []=>false
   | (j,y)::s=>if Nat.beq i j then (if Qfa x y then YF r s else false) else false
def JC:List W->List W->Bool
 | [],b=>match b with
  | []=>true
  | _::_=>false
 | x::r,b=>match b with
  | []=>false
  | y::s=>if Qfa x y then JC r s else false
end
inductive GE where
 | l (n:Nat) (xs:List W) | k (n:Nat) (xs:List W)
abbrev Gd:=List GE
def Qru (S:Store):GE->Bool
 | .l n xs=>match S.get n with
  | some (.lst ys)=>JC ys xs
  | _=>false
 | .k n xs=>match S.get n with
  | some (.dcx kvs)=>JC (kvs.map (·.1)) xs
  | _=>false
def Ky (S:Store):Gd->Bool
 | []=>true
 | e::r=>if Qru S e then Ky S r else false
abbrev MI:=Jo->Store->Out (List W×Gd)
def fnOf (np n:Nat) (b:MS):MF:=λxs S=>if !Nat.beq xs.length np then .bad else (b (xs.map some++List.replicate (n-xs.length) none) S).bind λf S1=>match f with
 | .nx _=>.ok .non S1
 | .rt w=>.ok w S1
 | _=>.bad
def Qdh (S:Store) (w:W):Option Nat:=match w with
 | .obj c _=>some c
 | .ref n=>match S.get n with
  | some (.ins c _)=>some c
  | _=>none
 | _=>none
end Mir
namespace MW
open PySem L2 Mir
abbrev Frag:=PySem.W.Frag
abbrev V:=L2.V
structure Nm where
 cn:List Str
 an:List Str
 nd:an.Nodup
 wd:World
structure Tab where
 K:Frag
 mg:Str->Option Value
 nm:Nm
def Tab.cls (T:Tab) (c:Nat):Option Addr:=match T.nm.cn[c]? with
 | some x=>match T.mg x with
  | some (.ref C)=>some C
  | _=>none
 | none=>none
mutual
inductive RelW (T:Tab) (r:Nat->Option Addr) (G:Hp):Mir.W->V->Prop where
 | non:RelW T r G .non .non
 | bl (b:Bool):RelW T r G (.bl b) (.bl b)
 | int (i:Int):RelW T r G (.int i) (.int i)
 | str {x:Str} {z:List Nat} (e:TL.tl x=z) (h:okS z=true):RelW T r G (.str z) (.str x)
 | tup {a:Addr} {ws:List Mir.W} {vs:List V} (h:SqT T.K G a vs) (q:RelWs T r G ws vs):RelW T r G (.tup ws) (.ref a)
 | lst {a:Addr} {ws:List Mir.W} {vs:List V} (h:G a=some (.lst vs)) (q:RelWs T r G ws vs):RelW T r G (.lst ws) (.ref a)
 | lsr {a:Addr} {ws:List Mir.W} {vs:List V} (h:SqL T.K G a vs) (q:RelWs T r G ws vs):RelW T r G (.lsr ws) (.ref a)
 | obj {a C dx:Addr} {c:Nat} {ws:List (Nat×Mir.W)} {fs:List (Str×V)} (h:G a=some (.ins C dx fs)) (hc:T.cls c=some C) (q:RelFs T r G ws fs):RelW T r G (.obj c ws) (.ref a)
 | ref {n:Nat} {a:Addr} (h:r n=some a):RelW T r G (.ref n) (.ref a)
 | cls {c:Nat} {C:Addr} (hc:T.cls c=some C):RelW T r G (.cls c) (.ref C)
inductive RelWs (T:Tab) (r:Nat->Option Addr) (G:Hp):List Mir.W->List V->Prop where
 | nil:RelWs T r G [] []
 | cons {w:Mir.W} {v:V} {ws:List Mir.W} {vs:List V} (h:RelW T r G w v) (q:RelWs T r G ws vs):RelWs T r G (w::ws) (v::vs)
inductive RelFs (T:Tab) (r:Nat->Option Addr) (G:Hp):List (Nat×Mir.W)->List (Str×V)->Prop where
 | nil:RelFs T r G [] []
 | cons {k:Nat} {x:Str} {w:Mir.W} {v:V} {ws:List (Nat×Mir.W)} {fs:List (Str×V)} (e:T.nm.an[k]?=some x) (h:RelW T r G w v) (q:RelFs T r G ws fs):RelFs T r G ((k,w)::ws) ((x,v)::fs)
end
inductive RelK:Mir.W->Key->Prop where
 | int (i:Int):RelK (.int i) (.inl i)
 | str {x:Str} {z:List Nat} (e:TL.tl x=z) (h:okS z=true):RelK (.str z) (.inr x)
inductive RelKs (T:Tab) (r:Nat->Option Addr) (G:Hp):List (Mir.W×Mir.W)->List (Key×V)->Prop where
 | nil:RelKs T r G [] []
 | cons {k w:Mir.W} {x:Key} {v:V} {ws:List (Mir.W×Mir.W)} {fs:List (Key×V)} (e:RelK k x) (h:RelW T r G w v) (q:RelKs T r G ws fs):RelKs T r G ((k,w)::ws) ((x,v)::fs)
abbrev Ex (H H':Hp):Prop:=Same H H'
def Yp (r r':Nat->Option Addr):Prop:=∀ n a,r n=some a->r' n=some a
theorem Yp.refl (r:Nat->Option Addr):Yp r r:=λ_ _ h=>h
theorem Yp.trans {r r1 r2:Nat->Option Addr} (a:Yp r r1) (b:Yp r1 r2):Yp r r2:=λn x h=>b n x (a n x h)
theorem QAr {H H':Hp} {a:Addr} {u:HO} (e:Ex H H') (h:Rd H a u):Rd H' a u:=by
 rcases h with h | ⟨o,h⟩
 ·exact .inl (e a _ h)
 ·exact .inr ⟨o,e a _ h⟩
theorem Qm6 {K:Frag} {H H':Hp} {a:Addr} {xs:List V} (e:Ex H H') (h:SqL K H a xs):SqL K H' a xs:=by
 rcases h with h | h
 ·exact .inl (QAr e h)
 ·exact .inr h
theorem Qer {K:Frag} {H H':Hp} {a:Addr} {xs:List V} (e:Ex H H') (h:SqT K H a xs):SqT K H' a xs:=by
 rcases h with h | h
 ·exact .inl (QAr e h)
 ·exact .inr h
section
variable {T:Tab} {r r':Nat->Option Addr} {G G':Hp}
mutual
theorem RelW.mono (l:Yp r r') (e:Ex G G'):∀ {w:Mir.W} {v:V},RelW T r G w v->RelW T r' G' w v
 | _,_,.non=>.non
 | _,_,.bl b=>.bl b
 | _,_,.int i=>.int i
 | _,_,.str e h=>.str e h
 | _,_,.tup h q=>.tup (Qer e h) (RelWs.mono l e q)
 | _,_,.lst h q=>.lst (e _ _ h) (RelWs.mono l e q)
 | _,_,.lsr h q=>.lsr (Qm6 e h) (RelWs.mono l e q)
 | _,_,.obj h hc q=>.obj (e _ _ h) hc (RelFs.mono l e q)
 | _,_,.ref h=>.ref (l _ _ h)
 | _,_,.cls h=>.cls h
theorem RelWs.mono (l:Yp r r') (e:Ex G G'):∀ {w:List Mir.W} {v:List V},RelWs T r G w v->RelWs T r' G' w v
 | _,_,.nil=>.nil
 | _,_,.cons h q=>.cons (RelW.mono l e h) (RelWs.mono l e q)
theorem RelFs.mono (l:Yp r r') (e:Ex G G'):∀ {w:List (Nat×Mir.W)} {v:List (Str×V)},RelFs T r G w v->RelFs T r' G' w v
 | _,_,.nil=>.nil
 | _,_,.cons k h q=>.cons k (RelW.mono l e h) (RelFs.mono l e q)
end
theorem RelKs.mono (l:Yp r r') (e:Ex G G') {w:List (Mir.W×Mir.W)} {v:List (Key×V)} (h:RelKs T r G w v):RelKs T r' G' w v:=by
 induction h with
 | nil=>exact .nil
 | cons k h _ ih=>exact .cons k (h.mono l e) ih
theorem RelWs.length {ws:List Mir.W} {vs:List V} (h:RelWs T r G ws vs):ws.length=vs.length:=by
 induction ws generalizing vs with
 | nil=>cases h; rfl
 | cons w ws ih=>cases h with | cons h q=>rw [List.length_cons,List.length_cons,ih q]
theorem RelWs.drop {ws:List Mir.W} {vs:List V} (h:RelWs T r G ws vs) (n:Nat):RelWs T r G (ws.drop n) (vs.drop n):=by
 induction n generalizing ws vs with
 | zero=>exact h
 | succ n ih=>cases h with
  | nil=>exact .nil
  | cons h q=>exact ih q
theorem RelWs.take {ws:List Mir.W} {vs:List V} (h:RelWs T r G ws vs) (n:Nat):RelWs T r G (ws.take n) (vs.take n):=by
 induction n generalizing ws vs with
 | zero=>exact .nil
 | succ n ih=>cases h with
  | nil=>exact .nil
  | cons h q=>exact .cons h (ih q)
theorem RelWs.get {ws:List Mir.W} {vs:List V} (h:RelWs T r G ws vs) {i:Nat} {w:Mir.W} (e:ws[i]?=some w):∃ v,vs[i]?=some v/\RelW T r G w v:=by
 induction i generalizing ws vs with
 | zero=>cases h with
  | nil=>cases e
  | cons h q=>cases e; exact ⟨_,rfl,h⟩
 | succ i ih=>cases h with
  | nil=>cases e
  | cons h q=>exact ih q e
theorem RelWs.set {ws:List Mir.W} {vs:List V} (h:RelWs T r G ws vs) (i:Nat) {w:Mir.W} {v:V} (k:RelW T r G w v):RelWs T r G (ws.set i w) (vs.set i v):=by
 induction i generalizing ws vs with
 | zero=>cases h with
  | nil=>exact .nil
  | cons h q=>exact .cons k q
 | succ i ih=>cases h with
  | nil=>exact .nil
  | cons h q=>exact .cons h (ih q)
end
def nkL:Mir.W->Option NestedKey
 | .str z=>some (.text ⟨z.toArray⟩)
 | .bl b=>some (.num (if b then 1 else 0))
 | .int i=>some (.num i)
 | .non=>some .none
 | _=>none
def nkLs:List Mir.W->Option (List NestedKey)
 | []=>some []
 | x::r=>match nkL x,nkLs r with
  | some a,some b=>some (a::b)
  | _,_=>none
def nkW:Mir.W->Option NestedKey
 | .tup xs=>(nkLs xs).map NestedKey.tup
 | _=>none
def dX (w:World) (a:Addr) (ps:List (NestedKey×Addr×V)):HO:=.ext λh=>(a == sysModules)=false/\ps.length<=100000/\(ps.map (·.1)).Nodup/\∃ us:List Value,Vals (ps.map (·.2.2)) us /\
 ∃ o es,h.get? a=some o/\o.ExactDict/\o.data=.dict es ps.length/\es.toList=List.zipWith (λ(p:NestedKey×Addr×V) u=>(⟨p.1.hash w,.ref p.2.1,u⟩:DictEntry)) ps us
inductive RelXs (T:Tab) (r:Nat->Option Addr) (G:Hp):List (Mir.W×Mir.W)->List (NestedKey×Addr×V)->Prop where
 | nil:RelXs T r G [] []
 | cons {k w:Mir.W} {nk:NestedKey} {ka:Addr} {v:V} {ws:List (Mir.W×Mir.W)} {ps:List (NestedKey×Addr×V)} (e:nkW k=some nk) (hk:RelW T r G k (.ref ka)) (h:RelW T r G w v) (q:RelXs T r G ws ps):RelXs T r G ((k,w)::ws) ((nk,ka,v)::ps)
theorem RelXs.mono {T:Tab} {r r':Nat->Option Addr} {G G':Hp} (l:Yp r r') (e:Ex G G') {w:List (Mir.W×Mir.W)} {v:List (NestedKey×Addr×V)} (h:RelXs T r G w v):RelXs T r' G' w v:=by
 induction h with
 | nil=>exact .nil
 | cons k hk h _ ih=>exact .cons k (hk.mono l e) (h.mono l e) ih
structure Wd where
 r:Nat->Option Addr
 G:Hp
 S:Store
 H:Hp
def RelO (T:Tab) (r:Nat->Option Addr) (G:Hp) (o:SO) (h:Option HO):Prop:=match o with
 | .lst ws=>∃ vs,h=some (.lst vs)/\RelWs T r G ws vs
 | .ins c ws=>∃ C dx fs,h=some (.ins C dx fs)/\T.cls c=some C/\RelFs T r G ws fs
 | .dct ws=>∃ fs,h=some (.dK fs)/\RelKs T r G ws fs
 | .dcx ws=>∃ a ps,h=some (dX T.nm.wd a ps)/\RelXs T r G ws ps
theorem RelO.mono {T:Tab} {r r':Nat->Option Addr} {G G':Hp} (l:Yp r r') (e:Ex G G') {o:SO} {h:Option HO} (q:RelO T r G o h):RelO T r' G' o h:=by
 cases o with
 | lst ws=>obtain ⟨vs,h1,h2⟩:=q; exact ⟨vs,h1,h2.mono l e⟩
 | ins c ws=>obtain ⟨C,dx,fs,h1,h2,h3⟩:=q; exact ⟨C,dx,fs,h1,h2,h3.mono l e⟩
 | dct ws=>obtain ⟨fs,h1,h2⟩:=q; exact ⟨fs,h1,h2.mono l e⟩
 | dcx ws=>obtain ⟨a,ps,h1,h2⟩:=q; exact ⟨a,ps,h1,h2.mono l e⟩
theorem RelO.some {T:Tab} {r:Nat->Option Addr} {G:Hp} {o:SO} {h:Option HO} (q:RelO T r G o h):∃ u,h=some u:=by
 cases o with
 | lst ws=>obtain ⟨vs,h1,h2⟩:=q; exact ⟨_,h1⟩
 | ins c ws=>obtain ⟨C,dx,fs,h1,h2,h3⟩:=q; exact ⟨_,h1⟩
 | dct ws=>obtain ⟨fs,h1,h2⟩:=q; exact ⟨_,h1⟩
 | dcx ws=>obtain ⟨a,ps,h1,h2⟩:=q; exact ⟨_,h1⟩
def qLam:Str:= "Poll.judge.<locals>.<lambda>"
def YH (K:Frag):Option (Addr×Addr):=match K.lookup (He.fAd K ("Poll",some "judge")) with
 | some ⟨_,_,.func fd,_⟩=>(match fd.code with
  | .ref c=>(match K.lookup c with
   | some ⟨_,_,.fields vs,_⟩=>(match (vs[11]?:Option Value) with
    | some (Value.ref P)=>some (c,P)
    | _=>none)
   | _=>none)
  | _=>none)
 | _=>none
def At (w:Wd) (n:Nat) (a:Addr):Prop:=(∃ o,w.S.get n=some o)/\w.r n=some a
structure TbOk (w:Wd) (P:Addr):Prop where
 at_:∃ ps:Array Value,w.H P=some (.tbl ps)/\TriplesOk ps.toList/\∀ (pos:Pos) (cv:Value),codeAmong pos ps.toList=some cv->∃ c,cv=.ref c/\w.G c=some (LamX.CodeO c qLam)
 gn:w.G P=none
 no:∀ n,¬ At w n P
theorem TbOk.ne {w:Wd} {P p:Addr} (h:TbOk w P) (np:∀ ps,w.H p≠some (.tbl ps)):P≠p:=λz=>by
 obtain ⟨ps,h1,_⟩:=h.at_
 exact np ps (by rw [<- z]; exact h1)
theorem RelO.nt {T:Tab} {r:Nat->Option Addr} {G:Hp} {o:SO} {u:HO} (q:RelO T r G o (Option.some u)):∀ ps,u≠.tbl ps:=by
 cases o with
 | lst ws=>obtain ⟨vs,h1,h2⟩:=q; cases h1; intro ps z; cases z
 | ins c ws=>obtain ⟨C,dx,fs,h1,h2,h3⟩:=q; cases h1; intro ps z; cases z
 | dct ws=>obtain ⟨fs,h1,h2⟩:=q; cases h1; intro ps z; cases z
 | dcx ws=>obtain ⟨a,ps,h1,h2⟩:=q; cases h1; intro ps z; cases z
structure Ok (T:Tab) (w:Wd):Prop where
 ex:Ex w.G w.H
 tb:∀ c P,YH T.K=some (c,P)->TbOk w P
 own:∀ n o,w.S.get n=some o->∃ a,w.r n=some a/\w.G a=none/\RelO T w.r w.G o (w.H a)
 inj:∀ n m a,At w n a->At w m a->n=m
 dom:∀ n a,w.r n=some a->n<w.S.next/\∃ o,w.H a=some o
 nd:(w.S.objs.map (·.1)).Nodup
structure Ext (w w':Wd):Prop where
 le:Yp w.r w'.r
 ex:Ex w.G w'.G
 fr:∀ a o,w.H a=some o->(∀ ps,o≠.tbl ps)->(∀ n,¬ At w n a)->w'.H a=some o
 sub:∀ n a,At w' n a->At w n a\/w.H a=none
 al:∀ a o,w.H a=some o->∃ o',w'.H a=some o'
 gn:∀ a o,w.H a=some o->(∀ ps,o≠.tbl ps)->w.G a=none->(∀ n,¬ At w n a)->w'.G a=none
structure ExtG (w w':Wd):Prop where
 le:Yp w.r w'.r
 ex:Ex w.G w'.G
theorem Ext.g {w w':Wd} (e:Ext w w'):ExtG w w':=⟨e.le,e.ex⟩
theorem ExtG.trans {w w1 w2:Wd} (a:ExtG w w1) (b:ExtG w1 w2):ExtG w w2:=⟨a.le.trans b.le,Same.trans a.ex b.ex⟩
theorem Ext.refl (w:Wd):Ext w w:=⟨Yp.refl _,Same.refl _,λ_ _ h _ _=>h,λ_ _ h=>.inl h,λ_ o h=>⟨o,h⟩,λ_ _ _ _ h _=>h⟩
theorem Ext.trans {w w1 w2:Wd} (a:Ext w w1) (b:Ext w1 w2):Ext w w2 where
 le:=a.le.trans b.le
 ex:=Same.trans a.ex b.ex
 fr:=λx o h nt hn=>b.fr x o (a.fr x o h nt hn) nt λn q=>(a.sub n x q).elim (hn n) λz=>by rw [h] at z; cases z
 sub:=λn x h=>(b.sub n x h).elim (a.sub n x) λz=>.inr (by
  cases q:w.H x with
  | none=>rfl
  | some o =>
   obtain ⟨o',e⟩:=a.al x o q
   rw [e] at z
   cases z)
 al:=λx o h=>by
  obtain ⟨o1,h1⟩:=a.al x o h
  exact b.al x o1 h1
 gn:=λx o h nt hG hn=>b.gn x o (a.fr x o h nt hn) nt (a.gn x o h nt hG hn) λn q=>(a.sub n x q).elim (hn n) λz=>by rw [h] at z; cases z
def excL:List Str:=(["PollError", "InvalidRow", "InvalidBook", "InvalidText", "InvalidEvent", "InvalidFault", "InvalidCommand", "Refused", "NoRow", "NoMark"]:List String).map Str.ofString
def Tab.exc (T:Tab) (c:Nat):Option Addr:=match excL[c]? with
 | some x=>match T.mg x with
  | some (.ref C)=>some C
  | _=>none
 | none=>none
def XD (T:Tab) (w:Wd) (fs:List (Nat×Mir.W)):Option Addr->Prop
 | some d=>∃ vs,w.H d=some (.xd vs)/\RelFs T w.r w.G fs vs
 | none=>fs=[]
def Jl {α:Type} (T:Tab) (w:Wd) (r:Out α) (Q:α->Wd->Prop) (E:XK):Prop:=match r with
 | .ok x S'=>∀ w',Ok T w'->Ext w w'->w'.S=S'->Q x w'
 | .err c fs S'=>∀ w',Ok T w'->Ext w w'->w'.S=S'->∀ C dd,T.exc c=some C->XD T w' fs dd->E (.ref C) dd w'.H
 | .bad=>False
section
variable {α β:Type} {T:Tab} {w w1:Wd} {E:XK} {r:Out α} {Q Q':α->Wd->Prop}
theorem Jl.mono (h:Jl T w r Q E) (e:Ext w w1):Jl T w1 r Q E:=by
 cases r with
 | ok x S'=>exact λw' o x' hs=>h w' o (e.trans x') hs
 | err c fs S'=>exact λw' o x' hs=>h w' o (e.trans x') hs
 | bad=>exact h
theorem Jl.bind {k:α->Store->Out β} {R:β->Wd->Prop} (h:Jl T w (r.bind k) R E):Jl T w r (λx w1=>Jl T w1 (k x w1.S) R E) E:=by
 cases r with
 | ok x S1 =>
  intro w1 o1 x1 hs
  subst hs
  exact Jl.mono (show Jl T w (k x w1.S) R E from h) x1
 | err c fs S1=>exact h
 | bad=>exact h
theorem Jl.here {x:α} {S:Store} (o:Ok T w) (hs:w.S=S) (h:Jl T w (.ok x S) Q E):Q x w:=h w o (Ext.refl w) hs
end
abbrev QW (T:Tab) (Q:VK):Mir.W->Wd->Prop:=λx w=>∀ v,RelW T w.r w.G x v->Q v w.H
inductive RelEnv (T:Tab) (r:Nat->Option Addr) (G:Hp):Jo->St->Prop where
 | nil:RelEnv T r G [] []
 | none {o:Option V} {d:Jo} {s:St} (q:RelEnv T r G d s):RelEnv T r G (none::d) (o::s)
 | some {x:Mir.W} {v:V} {d:Jo} {s:St} (h:RelW T r G x v) (q:RelEnv T r G d s):RelEnv T r G (some x::d) (some v::s)
section
variable {T:Tab} {r r':Nat->Option Addr} {G G':Hp}
theorem RelEnv.mono (l:Yp r r') (e:Ex G G') {d:Jo} {s:St} (h:RelEnv T r G d s):RelEnv T r' G' d s:=by
 induction h with
 | nil=>exact .nil
 | none _ ih=>exact .none ih
 | some h _ ih=>exact .some (h.mono l e) ih
theorem RelEnv.get {d:Jo} {s:St} (h:RelEnv T r G d s) {i:Nat} {x:Mir.W} (e:Jm d i=Option.some x):∃ v,s[i]?=Option.some (Option.some v)/\RelW T r G x v:=by
 induction h generalizing i with
 | nil=>cases i <;> cases e
 | none _ ih=>cases i with
  | zero=>cases e
  | succ i=>exact ih e
 | some h _ ih=>cases i with
  | zero=>cases e; exact ⟨_,rfl,h⟩
  | succ i=>exact ih e
theorem RelEnv.set {d:Jo} {s:St} (h:RelEnv T r G d s) (i:Nat) {x:Mir.W} {v:V} (k:RelW T r G x v):RelEnv T r G (Jz d i (Option.some x)) (s.set i (Option.some v)):=by
 induction h generalizing i with
 | nil=>cases i <;> exact .nil
 | none q ih=>cases i with
  | zero=>exact .some k q
  | succ i=>exact .none (ih i)
 | some h q ih=>cases i with
  | zero=>exact .some k q
  | succ i=>exact .some h (ih i)
end
abbrev Wd.env (T:Tab) (w:Wd) (d:Jo) (σ:St):Prop:=RelEnv T w.r w.G d σ
abbrev Wd.rel (T:Tab) (w:Wd) (x:Mir.W) (v:V):Prop:=RelW T w.r w.G x v
abbrev Wd.rels (T:Tab) (w:Wd) (x:List Mir.W) (v:List V):Prop:=RelWs T w.r w.G x v
def lE (T:Tab) (m:ME) (E:XK):TE:=fun σ H Q=>∃ w d,w.H=H/\Ok T w/\w.env T d σ/\Jl T w (m d w.S) (QW T Q) E
abbrev tb (X:Cx) (nm:Nm):Tab:=⟨X.K,X.mg,nm⟩
abbrev WE (X:Cx) (nm:Nm) (E:XK) (e:Expr) (m:ME):Prop:=PE X e (lE (tb X nm) m E)
section
variable {T:Tab} {w:Wd}
theorem Ok.free (k:Ok T w) {p:Addr} (h:w.H p=none):w.G p=none:=Same.free k.ex h
theorem At.there (k:Ok T w) {n:Nat} {a:Addr} (h:At w n a):∃ o,w.H a=some o:=(k.dom n a h.2).2
def Out_ (w:Wd) (p:Addr):Prop:=w.G p=none/\∀ n,¬ At w n p
theorem Out_.ext {w1:Wd} {p:Addr} {o:HO} (h:Out_ w p) (hp:w.H p=some o) (e:Ext w w1) (nt:∀ ps,o≠.tbl ps:=by intro ps z; cases z):Out_ w1 p/\w1.H p=some o :=
 ⟨⟨e.gn p o hp nt h.1 h.2,λn a=>(e.sub n p a).elim (h.2 n) λz=>by rw [hp] at z; cases z⟩,e.fr p o hp nt h.2⟩
end
section
variable {T:Tab} {r:Nat->Option Addr} {G:Hp} {v:V}
theorem RelW.non_inv (h:RelW T r G .non v):v=.non:=by cases h; rfl
theorem RelW.bl_inv {b:Bool} (h:RelW T r G (.bl b) v):v=.bl b:=by cases h; rfl
theorem RelW.int_inv {i:Int} (h:RelW T r G (.int i) v):v=.int i:=by cases h; rfl
theorem RelW.str_inv {z:List Nat} (h:RelW T r G (.str z) v):∃ x,v=.str x/\TL.tl x=z/\okS z=true:=by cases h with | str e q=>exact ⟨_,rfl,e,q⟩
theorem RelW.tup_inv {ws:List Mir.W} (h:RelW T r G (.tup ws) v):∃ a vs,v=.ref a/\SqT T.K G a vs/\RelWs T r G ws vs:=by cases h with | tup e q=>exact ⟨_,_,rfl,e,q⟩
theorem RelW.lst_inv {ws:List Mir.W} (h:RelW T r G (.lst ws) v):∃ a vs,v=.ref a/\G a=some (.lst vs)/\RelWs T r G ws vs:=by cases h with | lst e q=>exact ⟨_,_,rfl,e,q⟩
theorem RelW.lsr_inv {ws:List Mir.W} (h:RelW T r G (.lsr ws) v):∃ a vs,v=.ref a/\SqL T.K G a vs/\RelWs T r G ws vs:=by cases h with | lsr e q=>exact ⟨_,_,rfl,e,q⟩
theorem RelW.obj_inv {c:Nat} {ws:List (Nat×Mir.W)} (h:RelW T r G (.obj c ws) v):∃ a C dx fs,v=.ref a/\G a=some (.ins C dx fs)/\T.cls c=some C/\RelFs T r G ws fs:=by cases h with | obj e k q=>exact ⟨_,_,_,_,rfl,e,k,q⟩
theorem RelW.ref_inv {n:Nat} (h:RelW T r G (.ref n) v):∃ a,v=.ref a/\r n=some a:=by cases h with | ref e=>exact ⟨_,rfl,e⟩
end
section
variable {T:Tab} {w:Wd} {E:XK}
theorem Jl.val {x:Mir.W} {Q:VK} (o:Ok T w) (h:Jl T w (.ok x w.S) (QW T Q) E) {v:V} (rv:w.rel T x v):Q v w.H:=h w o (Ext.refl w) rfl v rv
theorem Ok.lstAt (o:Ok T w) {n:Nat} {xs:List Mir.W} {v:V} (g:w.S.get n=some (.lst xs)) (rv:w.rel T (.ref n) v):∃ a vs,v=.ref a/\At w n a/\w.G a=none/\w.H a=some (.lst vs)/\w.rels T xs vs:=by
 obtain ⟨a,rfl,e⟩:=rv.ref_inv
 obtain ⟨a',e1,e2,vs,e3,e4⟩:=o.own n _ g
 rw [e] at e1
 cases e1
 exact ⟨a,vs,rfl,⟨⟨_,g⟩,e⟩,e2,e3,e4⟩
theorem Ok.insAt (o:Ok T w) {n c:Nat} {ws:List (Nat×Mir.W)} {v:V} (g:w.S.get n=some (.ins c ws)) (rv:w.rel T (.ref n) v):∃ a C dx fs,v=.ref a/\At w n a/\w.G a=none/\w.H a=some (.ins C dx fs)/\T.cls c=some C/\RelFs T w.r w.G ws fs:=by
 obtain ⟨a,rfl,e⟩:=rv.ref_inv
 obtain ⟨a',e1,e2,C,dx,fs,e3,e4,e5⟩:=o.own n _ g
 rw [e] at e1
 cases e1
 exact ⟨a,C,dx,fs,rfl,⟨⟨_,g⟩,e⟩,e2,e3,e4,e5⟩
theorem Ok.seq (o:Ok T w) {x:Mir.W} {xs:List Mir.W} {v:V} (g:KJ w.S x=some xs) (rv:w.rel T x v):∃ a vs,v=.ref a/\(SqL T.K w.H a vs\/SqT T.K w.H a vs)/\w.rels T xs vs:=by
 cases x with
 | tup ys =>
  cases g
  obtain ⟨a,vs,e,h,q⟩:=rv.tup_inv
  exact ⟨a,vs,e,.inr (Qer o.ex h),q⟩
 | lst ys =>
  cases g
  obtain ⟨a,vs,e,h,q⟩:=rv.lst_inv
  exact ⟨a,vs,e,.inl (SqL.of (o.ex _ _ h)),q⟩
 | lsr ys =>
  cases g
  obtain ⟨a,vs,e,h,q⟩:=rv.lsr_inv
  exact ⟨a,vs,e,.inl (Qm6 o.ex h),q⟩
 | ref n =>
  have g2:(match w.S.get n with | some (.lst xs)=>some xs | _=>none)=some xs:=g
  cases q:w.S.get n with
  | none=>rw [q] at g2; cases g2
  | some so =>
   rw [q] at g2
   cases so with
   | lst ys =>
    cases g2
    obtain ⟨a,vs,e,h1,h2,h3,h4⟩:=o.lstAt q rv
    exact ⟨a,vs,e,.inl (SqL.of h3),h4⟩
   | dct _=>cases g2
   | dcx _=>cases g2
   | ins _ _=>cases g2
 | _=>cases g
theorem Ok.lst (o:Ok T w) {x:Mir.W} {xs:List Mir.W} {v:V} (g:rd w.S x=.lst xs) (rv:w.rel T x v):∃ a vs,v=.ref a/\w.H a=some (.lst vs)/\w.rels T xs vs:=by
 cases x with
 | lst ys =>
  cases g
  obtain ⟨a,vs,e,h,q⟩:=rv.lst_inv
  exact ⟨a,vs,e,o.ex _ _ h,q⟩
 | ref n =>
  have g2:(match w.S.get n with | some (.lst xs)=>Mir.W.lst xs | _=>.ref n)=.lst xs:=g
  cases q:w.S.get n with
  | none=>rw [q] at g2; cases g2
  | some so =>
   rw [q] at g2
   cases so with
   | lst ys =>
    cases g2
    obtain ⟨a,vs,e,h1,h2,h3,h4⟩:=o.lstAt q rv
    exact ⟨a,vs,e,h3,h4⟩
   | dct _=>cases g2
   | dcx _=>cases g2
   | ins _ _=>cases g2
 | _=>cases g
end
section
variable {X:Cx} {nm:Nm} {E:XK} {pos:Pos}
structure GlobC (K:Frag) (mg:Str->Option Value) (nm:Nm) (x:Str) (c:Mir.W):Prop where
 ex:∃ v u,mg x=some u/\RelV v u/\∀ r G,RelW ⟨K,mg,nm⟩ r G c v
end
mutual
def tgS:Tg->List Nat
 | .nm i=>[i]
 | .tp ts=>tgSs ts
def tgSs:List Tg->List Nat
 | []=>[]
 | t::ts=>tgS t++tgSs ts
end
def Ch (l:List Nat) (σ σ':St):Prop:=σ'.length=σ.length/\∀ i,i∉l->σ'[i]?=σ[i]?
theorem Ch.refl (l:List Nat) (σ:St):Ch l σ σ:=⟨rfl,λ_ _=>rfl⟩
theorem Ch.trans {l m:List Nat} {σ σ1 σ2:St} (a:Ch l σ σ1) (b:Ch m σ1 σ2):Ch (l++m) σ σ2:=⟨b.1.trans a.1,λi hi=>(b.2 i λz=>hi (List.mem_append_right _ z)).trans (a.2 i λz=>hi (List.mem_append_left _ z))⟩
theorem Ch.set {i:Nat} {σ:St} {o:Option V}:Ch [i] σ (σ.set i o):=⟨List.length_set,λj hj=>List.getElem?_set_ne (λz=>hj (by rw [z]; exact List.mem_cons_self))⟩
section
variable {X:Cx} {nm:Nm} {E:XK} {pos:Pos}
def Walk (T:Tab) (w:Wd) (xs:List Mir.W) (g:Gd) (J:It):Prop:=∀ w',Ok T w'->ExtG w w'->Ky w'.S g=true ->
 (∀ i x,xs[i]?=some x->J.go i w'.H/\∀ v H',J.yld i w'.H v H'->∃ w2,w2.H=H'/\Ok T w2/\Ext w' w2/\w2.S=w'.S/\w2.rel T x v)/\J.stop xs.length w'.H
end
mutual
theorem Qnr:∀ {a b:Mir.W},Qfa a b=true->a=b
 | .non,b,h=>by cases b <;> first | rfl | cases h
 | .bl a,b,h=>by
  cases b with
  | bl c=>rw [eq_of_beq (show (a == c)=true from h)]
  | _=>cases h
 | .int i,b,h=>by
  cases b with
  | int j=>rw [of_decide_eq_true (show decide (i=j)=true from h)]
  | _=>cases h
 | .str x,b,h=>by
  cases b with
  | str y =>
   have aux:∀ x y:List Nat,JH x y=true->x=y:=by
    intro x
    induction x with
    | nil=>intro y; cases y with
     | nil=>intro _; rfl
     | cons _ _=>intro z; cases z
    | cons a r ih=>intro y; cases y with
     | nil=>intro z; cases z
     | cons b s =>
      intro z
      have z':(if Nat.beq a b then JH r s else false)=true:=z
      cases e:Nat.beq a b with
      | false=>rw [e] at z'; cases z'
      | true =>
       rw [e] at z'
       rw [Nat.eq_of_beq_eq_true e,ih s z']
   rw [aux x y h]
  | _=>cases h
 | .tup xs,b,h=>by
  cases b with
  | tup ys=>rw [YM (show JC xs ys=true from h)]
  | _=>cases h
 | .lst xs,b,h=>by
  cases b with
  | lst ys=>rw [YM (show JC xs ys=true from h)]
  | _=>cases h
 | .ref n,b,h=>by
  cases b with
  | ref m=>rw [Nat.eq_of_beq_eq_true (show Nat.beq n m=true from h)]
  | _=>cases h
 | .obj c fs,b,h=>by
  cases b with
  | obj k gs =>
   have h':(if Nat.beq c k then YF fs gs else false)=true:=h
   cases e:Nat.beq c k with
   | false=>rw [e] at h'; cases h'
   | true =>
    rw [e] at h'
    rw [Nat.eq_of_beq_eq_true e,sameFs_eq (show YF fs gs=true from h')]
  | _=>cases h
 | .cls c,b,h=>by
  cases b with
  | cls k=>rw [Nat.eq_of_beq_eq_true (show Nat.beq c k=true from h)]
  | _=>cases h
 | .lsr _,b,h=>by cases b <;> cases h
theorem sameFs_eq:∀ {a b:List (Nat×Mir.W)},YF a b=true->a=b
 | [],b,h=>by
  cases b with
  | nil=>rfl
  | cons _ _=>cases h
 | (i,x)::r,b,h=>by
   cases b with
   | nil=>cases h
   | cons q s =>
    obtain ⟨j,y⟩:=q
    have h':(if Nat.beq i j then (if Qfa x y then YF r s else false) else false)=true:=h
    cases e:Nat.beq i j with
    | false=>rw [e] at h'; cases h'
    | true =>
     rw [e] at h'
     have h2:(if Qfa x y then YF r s else false)=true:=h'
     cases e2:Qfa x y with
     | false=>rw [e2] at h2; cases h2
     | true =>
      rw [e2] at h2
      rw [Nat.eq_of_beq_eq_true e,Qnr e2,sameFs_eq (show YF r s=true from h2)]
theorem YM:∀ {a b:List Mir.W},JC a b=true->a=b
 | [],b,h=>by
  cases b with
  | nil=>rfl
  | cons _ _=>cases h
 | x::r,b,h=>by
  cases b with
  | nil=>cases h
  | cons y s =>
   have h':(if Qfa x y then JC r s else false)=true:=h
   cases e:Qfa x y with
   | false=>rw [e] at h'; cases h'
   | true =>
    rw [e] at h'
    rw [Qnr e,YM (show JC r s=true from h')]
end
end MW
namespace MW
open PySem PySem.Spec PyProof.Rows L2 Mir
section
variable {X:Cx} {nm:Nm} {E:XK} {pos:Pos} {tg:Expr}
end
def Kc (T:Tab) (m:MF):Sp:=λvs H Q E=>∃ w ws,w.H=H/\Ok T w/\w.rels T ws vs/\Jl T w (m ws w.S) (QW T Q) E
theorem Qec {z:List Nat} (h:okS z=true):∀ c∈z,c<128:=λc hc=>by
 have:=List.all_eq_true.mp (Bool.and_eq_true_iff.mp h).1 c hc
 exact Nat.lt_of_succ_le (Nat.le_of_ble_eq_true this)
theorem Qe1:∀ x y:List Nat,JH x y=decide (x=y)
 | [],[]=>rfl
 | [],_::_=>rfl
 | _::_,[]=>rfl
 | a::r,b::s=>by
  have e:JH (a::r) (b::s)=if Nat.beq a b then JH r s else false:=rfl
  rw [e,Qe1 r s]
  cases h:Nat.beq a b with
  | true =>
   have:=Nat.eq_of_beq_eq_true h
   subst this
   by_cases q:r=s
   ·subst q; simp
   ·simp [q]
  | false =>
   have:a≠b:=Nat.ne_of_beq_eq_false h
   simp [this]
mutual
def toD:Mir.W->PyData
 | .non=>.none
 | .bl b=>.bool b
 | .int i=>.int i
 | .str z=>.str ⟨z.toArray⟩
 | .tup xs=>.tuple (JN xs)
 | .lst xs=>.list (JN xs)
 | _=>.none
def JN:List Mir.W->List PyData
 | []=>[]
 | x::r=>toD x::JN r
end
theorem Qox {x:Str} {z:List Nat} (e:TL.tl x=z):(⟨z.toArray⟩:Str)=x:=by subst e; exact TL.mk_tl x
section
variable {T:Tab} {w:Wd}
mutual
theorem Qzh (o:Ok T w):∀ (n:Nat) (x:Mir.W) (v:V),Kz n x=true->w.rel T x v->Dp T.K w.H v (toD x)/\(toD x).canLay0=true/\(toD x).depth<=n
 | n,.non,v,_,h=>by cases h.non_inv; exact ⟨.non,rfl,Nat.zero_le _⟩
 | n,.bl b,v,_,h=>by cases h.bl_inv; exact ⟨.bl b,rfl,Nat.zero_le _⟩
 | n,.int i,v,_,h=>by cases h.int_inv; exact ⟨.int i,rfl,Nat.zero_le _⟩
 | n,.str z,v,_,h=>by
  obtain ⟨x,rfl,e,ok⟩:=h.str_inv
  have e2:toD (.str z)=.str x:=congrArg PyData.str (Qox e)
  rw [e2]
  refine ⟨.str x,?_,Nat.zero_le _⟩
  show x.cps.all (· < 0x110000)=true
  rw [Array.all_eq_true']
  intro c hc
  have:c∈z:=by rw [<- e]; simpa [TL.tl] using hc
  exact decide_eq_true (Nat.lt_trans (Qec ok c this) (by decide))
 | n,.tup xs,v,hd,h=>by
  obtain ⟨a,vs,rfl,sq,q⟩:=h.tup_inv
  cases n with
  | zero=>cases hd
  | succ n =>
   obtain ⟨h1,h2,h3⟩:=dps_of o n xs vs hd q
   exact ⟨.tup (Qer o.ex sq) h1,by show PyData.canLayAll0 (JN xs)=true; exact h2,by show PyData.depthAll (JN xs)+1<=n+1; omega⟩
 | n,.lst xs,v,hd,h=>by
  obtain ⟨a,vs,rfl,sq,q⟩:=h.lst_inv
  cases n with
  | zero=>cases hd
  | succ n =>
   obtain ⟨h1,h2,h3⟩:=dps_of o n xs vs hd q
   exact ⟨.lst (SqL.of (o.ex _ _ sq)) h1,by show PyData.canLayAll0 (JN xs)=true; exact h2,by show PyData.depthAll (JN xs)+1<=n+1; omega⟩
 | n,.obj _ _,v,hd,h=>by cases n <;> cases hd
 | n,.ref _,v,hd,h=>by cases n <;> cases hd
 | n,.cls _,v,hd,h=>by cases n <;> cases hd
 | n,.lsr _,v,hd,h=>by cases n <;> cases hd
theorem dps_of (o:Ok T w):∀ (n:Nat) (xs:List Mir.W) (vs:List V),J5 n xs=true->w.rels T xs vs->DpAll T.K w.H vs (JN xs)/\PyData.canLayAll0 (JN xs)=true/\PyData.depthAll (JN xs)<=n
 | n,[],vs,_,h=>by cases h; exact ⟨.nil,rfl,Nat.zero_le _⟩
 | n,x::r,vs,hd,h=>by
  cases h with
  | cons h q =>
   have hd':(Kz n x&&J5 n r)=true:=hd
   obtain ⟨a,b⟩:=Bool.and_eq_true_iff.mp hd'
   obtain ⟨h1,h2,h3⟩:=Qzh o n x _ a h
   obtain ⟨k1,k2,k3⟩:=dps_of o n r _ b q
   refine ⟨.cons h1 k1,?_,?_⟩
   ·show ((toD x).canLay0&&PyData.canLayAll0 (JN r))=true
    rw [h2,k2] <;> rfl
   ·show max (toD x).depth (PyData.depthAll (JN r))<=n
    omega
end
end
mutual
theorem Qwe:∀ (a b:Mir.W) (c:Bool),Yx a b=some c->PyData.eqv (toD a) (toD b)=c
 | .non,b,c,h=>by cases b <;> first | (cases h; rfl) | cases h
 | .bl a,b,c,h=>by
  cases b with
  | int j =>
   cases h
   show ((if a then (1:Int) else 0) == j)=decide (Mir.b2i a=j)
   rw [Bool.beq_eq_decide_eq] <;> rfl
  | _=>first | (cases h; rfl) | cases h
 | .int i,b,c,h=>by
  cases b with
  | int j =>
   cases h
   show (i == j)=decide (i=j)
   rw [Bool.beq_eq_decide_eq]
  | bl d =>
   cases h
   show (i == (if d then (1:Int) else 0))=decide (i=Mir.b2i d)
   rw [Bool.beq_eq_decide_eq] <;> rfl
  | _=>first | (cases h; rfl) | cases h
 | .str x,b,c,h=>by
  cases b with
  | str y =>
   cases h
   show ((⟨x.toArray⟩:Str) == ⟨y.toArray⟩)=JH x y
   rw [Qe1,Bool.beq_eq_decide_eq]
   by_cases e:x=y
   ·subst e; simp
   ·simp [e]
  | _=>first | (cases h; rfl) | cases h
 | .tup xs,b,c,h=>by
  cases b with
  | tup ys=>exact eqWs_D xs ys c h
  | _=>first | (cases h; rfl) | cases h
 | .lst xs,b,c,h=>by
  cases b with
  | lst ys=>exact eqWs_D xs ys c h
  | _=>first | (cases h; rfl) | cases h
 | .obj _ _,b,c,h=>by cases b <;> cases h
 | .ref _,b,c,h=>by cases b <;> cases h
 | .cls _,b,c,h=>by cases b <;> cases h
 | .lsr _,b,c,h=>by cases b <;> cases h
theorem eqWs_D:∀ (a b:List Mir.W) (c:Bool),eqWs a b=some c->PyData.eqvAll (JN a) (JN b)=c
 | [],b,c,h=>by cases b <;> (cases h; rfl)
 | x::r,b,c,h=>by
  cases b with
  | nil=>cases h; rfl
  | cons y s =>
   have h':(match Yx x y with | some true=>eqWs r s | some false=>some false | none=>none)=some c:=h
   show (PyData.eqv (toD x) (toD y)&&PyData.eqvAll (JN r) (JN s))=c
   cases e:Yx x y with
   | none=>rw [e] at h'; cases h'
   | some d =>
    rw [e] at h'
    rw [Qwe x y d e]
    cases d with
    | true=>rw [eqWs_D r s c h'] <;> rfl
    | false=>cases h'; rfl
end
section
variable {X:Cx} {nm:Nm} {E:XK}
end
section
variable {X:Cx} {nm:Nm} {E:XK}
end
section
variable {X:Cx} {nm:Nm} {E:XK} {pos p:Pos}
theorem Qnc {i:Int} (h:i.natAbs<1000000000000):i.natAbs.log2<1920:=by
 by_cases z:i.natAbs=0
 ·rw [z]; decide
 ·have:i.natAbs<2 ^ 1920:=Nat.lt_trans h (by decide +kernel)
  exact (Nat.log2_lt z).mpr this
inductive WJ (X:Cx) (nm:Nm) (E:XK):List Expr->List ME->Prop where
 | nil:WJ X nm E [] []
 | cons {e:Expr} {m:ME} {es:List Expr} {ms:List ME} (h:WE X nm E e m) (r:WJ X nm E es ms):WJ X nm E (e::es) (m::ms)
end
section
variable {X:Cx} {nm:Nm} {E:XK} {pos p:Pos}
end
section
variable {X:Cx} {nm:Nm} {E:XK} {pos p:Pos}
end
section
variable {T:Tab} {r:Nat->Option Addr} {G:Hp}
theorem Qxh (T:Tab) {k j:Nat} {x:Str} (a:T.nm.an[k]?=some x) (b:T.nm.an[j]?=some x):k=j:=nodup_ix T.nm.nd a b
theorem RelFs.look {ws:List (Nat×Mir.W)} {fs:List (Str×V)} (h:RelFs T r G ws fs) {k:Nat} {f:Str} (hf:T.nm.an[k]?=some f) {x:Mir.W} (e:Qh2 ws k=some x):∃ v,fs.lookup f=some v/\RelW T r G x v:=by
 induction ws generalizing fs with
 | nil=>cases e
 | cons p ws ih =>
  obtain ⟨j,y⟩:=p
  cases h with
  | @cons _ g _ v _ fs e1 h q =>
   have e':(if Nat.beq j k then some y else Qh2 ws k)=some x:=e
   cases hb:Nat.beq j k with
   | true =>
    rw [hb] at e'
    cases e'
    have hj:=Nat.eq_of_beq_eq_true hb
    subst hj
    rw [e1] at hf
    cases hf
    exact ⟨v,by rw [List.lookup_cons,beq_self_eq_true],h⟩
   | false =>
    rw [hb] at e'
    obtain ⟨v',e2,rv⟩:=ih q e'
    refine ⟨v',?_,rv⟩
    have hne:(f == g)=false:=by
     rw [beq_eq_false_iff_ne]
     intro z
     subst z
     rw [Qxh T e1 hf,Nat.beq_refl] at hb
     cases hb
    rw [List.lookup_cons,hne]
    exact e2
theorem RelFs.length {ws:List (Nat×Mir.W)} {fs:List (Str×V)} (h:RelFs T r G ws fs):ws.length=fs.length:=by
 induction ws generalizing fs with
 | nil=>cases h; rfl
 | cons p ws ih=>cases h with | cons e1 h q=>rw [List.length_cons,List.length_cons,ih q]
theorem RelFs.none {ws:List (Nat×Mir.W)} {fs:List (Str×V)} (h:RelFs T r G ws fs) {m:Str} (hm:m∉T.nm.an):fs.lookup m=none:=by
 induction ws generalizing fs with
 | nil=>cases h; rfl
 | cons p ws ih =>
  cases h with
  | @cons _ g _ u _ fs e1 h q =>
   have hne:(m == g)=false:=by
    rw [beq_eq_false_iff_ne]
    intro z
    exact hm (by rw [z]; exact List.mem_of_getElem? e1)
   rw [List.lookup_cons,hne]
   exact ih q
end
structure SF (T:Tab) (sup:Nat->List Nat):Prop where
 cls:∀ c C,T.cls c=some C->Cls T.K C
 noat:∀ (c:Nat) (C:Addr) (k:Nat) (f:Str),T.cls c=some C->T.nm.an[k]?=some f->NoAttr T.K C f
 isc:∀ c C,T.cls c=some C->PySem.W.findIn T.K (.ref C) "__class__" = some (some (.builtin "object.__class__"))/\PySem.W.mroIn T.K C (.type "object")=some true
 hn:PySem.W.specialIn T.K (.builtin "object.__class__") "__get__" = some (some (.builtin "getset_descriptor.__get__"))
 htk:PySem.W.takesIn T.K (.builtin "object.__class__")=some true
 kit:∀ c C d D,T.cls c=some C->T.cls d=some D->PySem.W.kitOne T.K (.ref C) (.ref D)=some ((sup c).elem d)
 kitB:∀ c C,T.cls c=some C->∀ n∈["int", "bool", "str", "list", "tuple"],PySem.W.kitOne T.K (.ref C) (.type n)=some false
 kitT:∀ d D,T.cls d=some D->∀ n∈["NoneType", "int", "bool", "str", "list", "tuple"],PySem.W.kitOne T.K (.type n) (.ref D)=some false
section
variable {X:Cx} {nm:Nm} {E:XK} {pos p:Pos} {sup:Nat->List Nat}
theorem Ok.ins {T:Tab} {w:Wd} (o:Ok T w) {x:Mir.W} {c:Nat} {v:V} (g:Qdh w.S x=some c) (rv:w.rel T x v):∃ a C dx ws fs,v=.ref a/\w.H a=some (.ins C dx fs)/\T.cls c=some C/\RelFs T w.r w.G ws fs/\∀ k,fld k x w.S=Kw (Qh2 ws k) w.S:=by
 cases x with
 | obj k ws =>
  cases g
  obtain ⟨a,C,dx,fs,rfl,h,hc,q⟩:=rv.obj_inv
  exact ⟨a,C,dx,ws,fs,rfl,o.ex _ _ h,hc,q,λ_=>rfl⟩
 | ref n =>
  have g':(match w.S.get n with | some (.ins c _)=>some c | _=>none)=some c:=g
  cases q:w.S.get n with
  | none=>rw [q] at g'; cases g'
  | some so =>
   rw [q] at g'
   cases so with
   | lst _=>cases g'
   | dct _=>cases g'
   | dcx _=>cases g'
   | ins k ws =>
    cases g'
    obtain ⟨a,C,dx,fs,rfl,_,_,h3,h4,h5⟩:=o.insAt q rv
    refine ⟨a,C,dx,ws,fs,rfl,h3,h4,h5,λj=>?_⟩
    show (match w.S.get n with | some (.ins _ fs)=>Kw (Qh2 fs j) w.S | _=>.bad)=_
    rw [q]
 | _=>cases g
structure MtOk (X:Cx) (nm:Nm) (CX:CXT) (k:Nat) (mn:Str) (c:Nat) (m:MF) (C f:Addr) (fd:FuncData) (ps:List Str):Prop where
 hc:(tb X nm).cls c=some C
 me:Meth X.K C mn f
 fn:FnOk X.prog X.w X.K X.mg X.base CX k f fd ps (Kc (tb X nm) m)
 bi:Binds X.K fd ps []
end
section
variable {X:Cx} {nm:Nm} {E:XK} {pos p:Pos} {sup:Nat->List Nat}
def tyV_ (T:Tab):Ty->Option Value
 | .int=>some (.type "int")
 | .bool=>some (.type "bool")
 | .str=>some (.type "str")
 | .list=>some (.type "list")
 | .tuple=>some (.type "tuple")
 | .own c=>(T.cls c).map Value.ref
structure ClsE (X:Cx) (nm:Nm) (e:Expr) (t:Ty):Prop where
 ex:∃ c u,PE X e (tC c)/\ClsV c u/\tyV_ (tb X nm) t=some u
end
section
variable (P:Program) (w:World) (K:Frag) (mg:Str->Option Value) (base:Heap) (nm:Nm)
structure FnG (k:Nat) (x:Str) (m:MF):Prop where
 ex:∃ f fd ps,mg x=some (.ref f)/\PySem.W.keepIn K (.ref f)=true/\Binds K fd ps []/\FnOk P w K mg base CX0 k f fd ps (Kc ⟨K,mg,nm⟩ m)
structure MtG (k:Nat) (mn:Str) (c:Nat) (m:MF):Prop where
 ex:∃ C f fd ps,(⟨K,mg,nm⟩:Tab).cls c=some C/\Meth K C mn f/\Binds K fd ps []/\FnOk P w K mg base CX0 k f fd ps (Kc ⟨K,mg,nm⟩ m)
structure MkG (k:Nat) (x:Str) (c:Nat) (m:MF):Prop where
 ex:∃ C f fd ps,(⟨K,mg,nm⟩:Tab).cls c=some C/\mg x=some (.ref C)/\Mk K C f/\Binds K fd ps []/\FnOk P w K mg base CX0 k f fd ps (Kc ⟨K,mg,nm⟩ m)
end
section
variable {X:Cx} {nm:Nm} {E:XK} {pos p0 p1 apos spos:Pos} {bd:List Stmt}
structure PAt (X:Cx) (bd ss:List Stmt) (t:TS):Prop where
 run:∀ (pins:List (Addr×Obj)) (s:Shared) (σ:L2.St) (H:Hp) (D:Ends),Inv X pins σ H s->t D σ H->PySem.wpAt (model X.prog X.w) X.A (.func bd X.env) (execs ss X.env) (SP X pins D) X.xe s
structure SupE (X:Cx) (sv:Str) (D:Addr):Prop where
 ex:∃ (f cc c:Addr) (oc:Value) (od:Option Addr) (osl:Array (Option Value)) (fd:FuncData) (ar:Arg) (ccl:Value) (cdd:Option Addr) (vs:Array Value) (ccs:Array (Option Value)) (file:Str) (tf:Tok) (cl:Value) (cld:Option Addr) (csl:Array (Option Value)) (cdD:ClassData),
  X.env.func=some f/\X.K.lookup f=some ⟨oc,od,.func fd,osl⟩/\(fd.params.posonlyargs++fd.params.args).head?=some ar/\ar.arg=sv /\
  X.env.code=.ref c/\X.K.lookup c=some ⟨ccl,cdd,.fields vs,ccs⟩/\vs[2]?=some (.str file tf)/\((X.prog.main.file:Str) == file)=true /\
  X.env.cells.lookup ("__class__" : Str)=some cc/\X.K.lookup cc=some ⟨cl,cld,.cell (some (.ref D)),csl⟩/\PySem.W.clsIn X.K D=some cdD
structure SupG (P:Program) (w:World) (K:Frag) (mg:Str->Option Value) (base:Heap) (nm:Nm) (k:Nat) (c d:Nat) (mn:Str) (m:MF):Prop where
 ex:∃ (C D f2:Addr) (fd2:FuncData) (ps2:List Str),(⟨K,mg,nm⟩:Tab).cls c=some C/\(⟨K,mg,nm⟩:Tab).cls d=some D/\PySem.W.mroIn K C (.ref D)=some true/\mg "super" = none/\(P.main.scope.names.lookup ("super" : Str)).isSome=false /\
  PySem.W.nsIn K cStatics "thirdparty.any" = some none/\PySem.W.ks_superIn K C D mn=some (some (.ref f2))/\PySem.W.typeIn K (.ref f2)=some (.type "function")/\PySem.W.fnIn K f2=true /\
  FnOk P w K mg base CX0 k f2 fd2 ps2 (Kc ⟨K,mg,nm⟩ m)/\Binds K fd2 ps2 []
end
structure FunS (P:Program) (K:Frag) (x qual sv:Str) (st:Stmt) (f:Addr) (fd:FuncData) (D:Addr):Prop where
 ex:∃ (oc:Value) (od:Option Addr) (kV doc pm:Value) (an:Option Addr) (c cc:Addr) (ct:Value) (osl:Array (Option Value)) (ar:Arg) (ccl:Value) (cdd:Option Addr) (vs:Array Value) (ccs:Array (Option Value)) (file:Str) (tf:Tok) (cl:Value) (cld:Option Addr) (csl:Array (Option Value)) (cdD:ClassData),
  fd=PySem.W.fnX x qual (defArgs st) (defBody st) (defScope st) [("__class__",cc)] .none kV doc pm an (.ref c) ct/\K.lookup f=some ⟨oc,od,.func fd,osl⟩/\PySem.W.codeIn K (.ref c) qual=true /\
  (fd.params.posonlyargs++fd.params.args).head?=some ar/\ar.arg=sv/\K.lookup c=some ⟨ccl,cdd,.fields vs,ccs⟩/\vs[2]?=some (.str file tf)/\((P.main.file:Str) == file)=true /\
  K.lookup cc=some ⟨cl,cld,.cell (some (.ref D)),csl⟩/\PySem.W.clsIn K D=some cdD
structure EqC (P:Program) (w:World) (K:Frag) (mg:Str->Option Value) (base:Heap) (nm:Nm) (k c:Nat) (m:MF):Prop where
 ex:∃ (C f:Addr) (fd:FuncData) (ps:List Str),(⟨K,mg,nm⟩:Tab).cls c=some C/\PySem.W.findIn K (.ref C) "__eq__" = some (some (.ref f))/\PySem.W.isFn K (.ref f)=true /\
  PySem.W.findIn K (.ref C) "__ne__" = some (some (.builtin "object.__ne__"))/\PySem.W.mroIn K C (.type "object")=some true/\Binds K fd ps []/\FnOk P w K mg base CX0 k f fd ps (Kc ⟨K,mg,nm⟩ m)
mutual
def szW:Mir.W->Nat
 | .non=>4
 | .bl _=>5
 | .int _=>14
 | .str z=>10*z.length+2
 | .tup xs=>szWs xs+3
 | .lst xs=>szWs xs+3
 | _=>4
def szWs:List Mir.W->Nat
 | []=>0
 | x::r=>szW x+2+szWs r
end
mutual
def shW:Mir.W->Bool
 | .int i=>decide (i.natAbs<1000000000000)
 | .tup xs=>shWs xs
 | .lst xs=>shWs xs
 | .str z=>okS z
 | _=>true
def shWs:List Mir.W->Bool
 | []=>true
 | x::r=>shW x&&shWs r
end
theorem Qhq:∀ (ts:List Str) (k:Nat) (acc:Str),(textFrom k acc ts).length<=acc.length+piled ts
 | [],k,acc=>Nat.le_refl _
 | t::r,k,acc=>by
  refine Nat.le_trans (Qhq r (k+1) _) ?_
  rw [strLen_append,strLen_append,piled_cons]
  split
  ·have:(Str.ofString ", ").length=2:=by decide
   omega
  ·have:(Str.ofString "").length=0:=by decide
   omega
mutual
theorem QAb:∀ x:Mir.W,shW x=true->(toD x).shown.length<=szW x/\(toD x).showable=true/\(toD x).hasDict=false
 | .non,_=>⟨by decide,rfl,rfl⟩
 | .bl b,_=>⟨by cases b <;> decide,rfl,rfl⟩
 | .int i,h=>by
  have h':=of_decide_eq_true (show decide (i.natAbs<1000000000000)=true from h)
  refine ⟨?_,decide_eq_true (Qnc h'),rfl⟩
  have e:(toD (.int i)).shown=Str.ofString (toString i):=by simp only [toD,PyData.shown]; try rfl
  rw [e,PySem.ofString_length]
  exact Nat.le_trans (int_text_length_le10 (k:=12) (by decide) (by omega)) (by show 13<=14; decide)
 | .str z,h=>by
  refine ⟨?_,rfl,rfl⟩
  have e:(toD (.str z)).shown=reprText ⟨z.toArray⟩:=by simp only [toD,PyData.shown]
  rw [e]
  refine Nat.le_trans (StrLaws.reprText_len _ λc hc=>Nat.lt_trans (Qec h c (by simpa using hc)) (by decide)) ?_
  show 10*z.toArray.size+2<=10*z.length+2
  simp
 | .tup xs,h=>by
  obtain ⟨h1,h2,h3⟩:=szs_of xs h
  refine ⟨?_,by simp only [toD,PyData.showable]; exact h2,by simp only [toD,PyData.hasDict]; exact h3⟩
  have e:(toD (.tup xs)).shown=tupleText (PyData.shownAll (JN xs)):=by simp only [toD,PyData.shown]
  rw [e]
  unfold tupleText
  rw [strLen_append,strLen_append]
  have e1:(Str.ofString "(").length=1:=by decide
  have e2:(Str.ofString (if (PyData.shownAll (JN xs)).length == 1 then ",)" else ")")).length<=2:=by split <;> decide
  have e3:(Str.join ", " (PyData.shownAll (JN xs))).length<=piled (PyData.shownAll (JN xs)):=by
   cases q:PyData.shownAll (JN xs) with
   | nil=>decide
   | cons a r=>have:=join_length_add (a::r) (by simp); omega
  show _<=szWs xs+3
  omega
 | .lst xs,h=>by
  obtain ⟨h1,h2,h3⟩:=szs_of xs h
  refine ⟨?_,by simp only [toD,PyData.showable]; exact h2,by simp only [toD,PyData.hasDict]; exact h3⟩
  have e:(toD (.lst xs)).shown=listText (PyData.shownAll (JN xs)):=by simp only [toD,PyData.shown]
  rw [e]
  unfold listText
  rw [strLen_append]
  have e1:(Str.ofString "[").length=1:=by decide
  have e2:(Str.ofString "]").length=1:=by decide
  have e3:=Qhq (PyData.shownAll (JN xs)) 0 "["
  show _<=szWs xs+3
  omega
 | .obj _ _,_=>⟨by show (PyData.shown .none).length<=4; decide,rfl,rfl⟩
 | .ref _,_=>⟨by show (PyData.shown .none).length<=4; decide,rfl,rfl⟩
 | .cls _,_=>⟨by show (PyData.shown .none).length<=4; decide,rfl,rfl⟩
 | .lsr _,_=>⟨by show (PyData.shown .none).length<=4; decide,rfl,rfl⟩
theorem szs_of:∀ xs:List Mir.W,shWs xs=true->piled (PyData.shownAll (JN xs))<=szWs xs/\PyData.showableAll (JN xs)=true/\PyData.hasDictAll (JN xs)=false
 | [],_=>⟨Nat.le_refl _,rfl,rfl⟩
 | x::r,h=>by
  obtain ⟨a,b⟩:=Bool.and_eq_true_iff.mp (show (shW x&&shWs r)=true from h)
  obtain ⟨h1,h2,h3⟩:=QAb x a
  obtain ⟨k1,k2,k3⟩:=szs_of r b
  refine ⟨?_,?_,?_⟩
  ·show piled ((toD x).shown::PyData.shownAll (JN r))<=szW x+2+szWs r
   rw [piled_cons]
   omega
  ·show ((toD x).showable&&PyData.showableAll (JN r))=true
   rw [h2,k2] <;> rfl
  ·show ((toD x).hasDict || PyData.hasDictAll (JN r))=false
   rw [h3,k3] <;> rfl
end
structure FnK (P:Program) (w:World) (K:Frag) (mg:Str->Option Value) (base:Heap) (k:Nat) (f:Addr) (fd:FuncData) (ps:List Str) (sp:Sp):Prop where
 len:∀ vs H Q E,sp vs H Q E->vs.length=ps.length
 run:∀ (A:Around) (outer:List PySem.Env) (s:Shared) (H:Hp) (args:Args) (us:List Value) (vs:List V) (Q:VK) (E:XK),A.guards=some []->Room k A->Env0 P w K mg base A outer s H ->
  BindsTo s fd args (ps.zip us)->Vals vs us->sp vs H Q E->codeAny (model P w) A (.call (.ref f) args) (CR CX0 outer P w H s Q E) s
section
variable {X:Cx} {nm:Nm} {E:XK}
structure StrC (P:Program) (w:World) (K:Frag) (mg:Str->Option Value) (base:Heap) (nm:Nm) (k c:Nat) (m:MF):Prop where
 ex:∃ (C f:Addr) (fd:FuncData) (ps:List Str),(⟨K,mg,nm⟩:Tab).cls c=some C/\PySem.W.findIn K (.ref C) "__str__" = some (some (.ref f))/\PySem.W.isFn K (.ref f)=true/\Binds K fd ps []/\FnOk P w K mg base CX0 k f fd ps (Kc ⟨K,mg,nm⟩ m)
end
structure DefM where
 at_:Str×Option Str
 name:Str
 qual:Str
 st:Stmt
 sup:Bool:=false
 cm:Bool:=false
def cmAd (K:Frag) (p:Addr):Addr:=match PySem.W.recIn K p "classmethod" with
 | some (.ref g::_)=>g
 | _=>match PySem.W.recIn K p "property" with
  | some (.ref g::_)=>g
  | _=>0
def DefM.ad (K:Frag) (d:DefM):Addr:=match d.cm with
 | true=>cmAd K (He.fAd K d.at_)
 | false=>He.fAd K d.at_
abbrev FnY:Type:=Option (Str×Str×Arguments×FuncBody×Scope×Addr×List Str×Addr)
def fnY (K:Frag) (a:Addr):FnY:=match K.lookup a with
 | some ⟨_,_,.func fd,_⟩=>some (fd.name,fd.qualname,fd.params,fd.body,fd.scope,fd.globals,fd.closure.map (·.1),fd.builtins)
 | _=>none
def cloN (b:Bool):List Str:=match b with
 | true=>[("__class__" : Str)]
 | false=>[]
def DefM.val (d:DefM):FnY:=some (d.name,d.qual,defArgs d.st,.stmts (defBody d.st),defScope d.st,mainGlobals,cloN d.sup,builtinsNs)
def Qul:Value->Bool
 | .none=>true
 | _=>false
def cellB (K:Frag) (C:Addr):List (Str×Addr)->Bool
 | [(_,cc)]=>(match K.lookup cc with
  | some ⟨_,_,.cell (some (.ref D)),_⟩=>decide (D=C)
  | _=>false)
 | _=>false
def Qun (file:Str):Option Value->Bool
 | some (.str f _)=>file == f
 | _=>false
def QBm (K:Frag) (file:Str):Value->Bool
 | .ref c=>(match K.lookup c with
  | some ⟨_,_,.fields vs,_⟩=>Qun file vs[2]?
  | _=>false)
 | _=>false
def selfB (fd:FuncData):Bool:=match (fd.params.posonlyargs++fd.params.args).head? with
 | some ar=>decide (ar.arg= "self")
 | none=>false
def supB (file:Str) (K:Frag) (C:Addr) (fd:FuncData):Bool:=cellB K C fd.closure&&(QBm K file fd.code&&(selfB fd&&(PySem.W.clsIn K C).isSome))
def DefM.ok (file:Str) (K:Frag) (d:DefM):Bool:=PySem.W.keepIn K (.ref (d.ad K))&&(match K.lookup (d.ad K) with
 | some ⟨_,_,.func fd,_⟩=>PySem.W.codeIn K fd.code d.qual&&(Qul fd.defaults&&(!d.sup || supB file K (He.ga K d.at_.1) fd))
 | _=>false)
theorem QBk {file:Str} {K:Frag} {d:DefM} (e:fnY K (d.ad K)=d.val) (c:d.ok file K=true) :
  PySem.W.keepIn K (.ref (d.ad K))=true/\∃ (oc:Value) (od:Option Addr) (osl:Array (Option Value)) (kV doc pm:Value) (an:Option Addr) (cdv ct:Value) (cl:List (Str×Addr)) (fd:FuncData),
   fd=PySem.W.fnX d.name d.qual (defArgs d.st) (defBody d.st) (defScope d.st) cl .none kV doc pm an cdv ct /\
   K.lookup (d.ad K)=some ⟨oc,od,.func fd,osl⟩/\PySem.W.codeIn K cdv d.qual=true /\
   cl.map (·.1)=cloN d.sup/\(d.sup=true->supB file K (He.ga K d.at_.1) fd=true):=by
 obtain ⟨kp,c2⟩:=He.ba c
 refine ⟨kp,?_⟩
 unfold fnY at e
 cases q:K.lookup (d.ad K) with
 | none=>rw [q] at c2; cases c2
 | some o =>
  obtain ⟨oc,od,dt,osl⟩:=o
  rw [q] at c2 e
  cases dt with
  | func fd =>
   obtain ⟨n1,n2,n3,n4,n5,n6,n7,n8,n9,n10,n11,n12,n13,n14,n15⟩:=fd
   have e2:(some (n1,n2,n3,n4,n5,n6,n7.map (·.1),n15):FnY)=some (d.name,d.qual,defArgs d.st,.stmts (defBody d.st),defScope d.st,mainGlobals,cloN d.sup,builtinsNs):=e
   simp only [Option.some.injEq,Prod.mk.injEq] at e2
   obtain ⟨h1,h2,h3,h4,h5,h6,h7,h8⟩:=e2
   subst h1 h2 h3 h4 h5 h6 h8
   obtain ⟨k1,k2⟩:=He.ba (show (PySem.W.codeIn K n13 d.qual&&(Qul n8&&(!d.sup || supB file K (He.ga K d.at_.1) _)))=true from c2)
   obtain ⟨k3,k4⟩:=He.ba k2
   have e8:n8=.none:=by cases n8 <;> first | rfl | cases k3
   subst e8
   refine ⟨oc,od,osl,n9,n10,n11,n12,n13,n14,n7,_,rfl,rfl,k1,h7,λhs=>?_⟩
   rw [hs] at k4
   exact k4
  | _=>cases c2
theorem QBh {file:Str} {K:Frag} {d:DefM} (e:fnY K (d.ad K)=d.val) (c:d.ok file K=true) (hs:d.sup=false):∃ fd,Fun K d.name d.qual d.st (d.ad K) fd:=by
 obtain ⟨kp,oc,od,osl,kV,doc,pm,an,cdv,ct,cl,fd,efd,lk,cd,hcl,_⟩:=QBk e c
 rw [hs] at hcl
 have ecl:cl=[]:=List.map_eq_nil_iff.mp hcl
 subst ecl
 subst efd
 exact ⟨_,⟨oc,od,kV,doc,pm,an,cdv,ct,osl,rfl,lk,cd⟩,kp⟩
mutual
def Qfv (K:Frag):Mir.W->Value->Bool
 | .non,.none=>true
 | .bl b,.bool c=>b == c
 | .int i,.int j _=>decide (i=j)
 | .str z,.str x _=>JH (TL.tl x) z&&okS z
 | .tup ws,.ref a=>(match K.lookup a with
  | some ⟨.type c,_,.seq its _,_⟩=>decide (c= "tuple")&&(decide (its.size<=sizeLine)&&Yv K ws its.toList)
  | _=>false)
 | _,_=>false
def Yv (K:Frag):List Mir.W->List Value->Bool
 | [],[]=>true
 | w::ws,u::us=>Qfv K w u&&Yv K ws us
 | _,_=>false
end
mutual
theorem Qsf {K:Frag} {mg:Str->Option Value} {nm:Nm}:∀ (c:Mir.W) (u:Value),Qfv K c u=true->∃ v,RelV v u/\∀ r G,RelW ⟨K,mg,nm⟩ r G c v
 | .non,u,h=>by
  cases u with
  | none=>exact ⟨.non,rfl,λ_ _=>.non⟩
  | _=>simp [Qfv] at h
 | .bl b,u,h=>by
  cases u with
  | bool c =>
   have e:b=c:=eq_of_beq (by simpa [Qfv] using h)
   subst e
   exact ⟨.bl b,rfl,λ_ _=>.bl b⟩
  | _=>simp [Qfv] at h
 | .int i,u,h=>by
  cases u with
  | int j t =>
   have e:i=j:=by simpa [Qfv] using h
   subst e
   exact ⟨.int i,⟨t,rfl⟩,λ_ _=>.int i⟩
  | _=>simp [Qfv] at h
 | .str z,u,h=>by
  cases u with
  | str x t =>
   have h':(JH (TL.tl x) z&&okS z)=true:=by simpa only [Qfv] using h
   obtain ⟨h1,h2⟩:=He.ba h'
   rw [Qe1] at h1
   exact ⟨.str x,⟨t,rfl⟩,λ_ _=>.str (of_decide_eq_true h1) h2⟩
  | _=>simp [Qfv] at h
 | .tup ws,u,h=>by
  cases u with
  | ref a =>
   have h':(match K.lookup a with | some ⟨.type c,_,.seq its _,_⟩=>decide (c= "tuple")&&(decide (its.size<=sizeLine)&&Yv K ws its.toList) | _=>false)=true:=by simpa only [Qfv] using h
   cases q:K.lookup a with
   | none=>rw [q] at h'; cases h'
   | some o =>
    obtain ⟨oc,od,dt,osl⟩:=o
    rw [q] at h'
    cases oc with
    | type c =>
     cases dt with
     | seq its n =>
      obtain ⟨h1,h2⟩:=He.ba (show (decide (c= "tuple")&&(decide (its.size<=sizeLine)&&Yv K ws its.toList))=true from h')
      obtain ⟨h3,h4⟩:=He.ba h2
      obtain ⟨vs,r1,r2⟩:=globBs_ok ws its.toList h4
      exact ⟨.ref a,rfl,λr G=>.tup (.inr ⟨_,its,n,q,congrArg Value.type (of_decide_eq_true h1),rfl,of_decide_eq_true h3,r1⟩) (r2 r G)⟩
     | _=>cases h'
    | _=>cases dt <;> cases h'
  | _=>simp [Qfv] at h
 | .lst _,u,h=>by simp [Qfv] at h
 | .obj _ _,u,h=>by simp [Qfv] at h
 | .ref _,u,h=>by simp [Qfv] at h
 | .cls _,u,h=>by simp [Qfv] at h
 | .lsr _,u,h=>by simp [Qfv] at h
theorem globBs_ok {K:Frag} {mg:Str->Option Value} {nm:Nm}:∀ (ws:List Mir.W) (us:List Value),Yv K ws us=true->∃ vs,Vals vs us/\∀ r G,RelWs ⟨K,mg,nm⟩ r G ws vs
 | [],[],_=>⟨[],.nil,λ_ _=>.nil⟩
 | [],_::_,h=>by simp [Yv] at h
 | _::_,[],h=>by simp [Yv] at h
 | w::ws,u::us,h=>by
  have h':(Qfv K w u&&Yv K ws us)=true:=by simpa only [Yv] using h
  obtain ⟨h1,h2⟩:=He.ba h'
  obtain ⟨v,a1,a2⟩:=Qsf w u h1
  obtain ⟨vs,b1,b2⟩:=globBs_ok ws us h2
  exact ⟨v::vs,.cons a1 b1,λr G=>.cons (a2 r G) (b2 r G)⟩
end
inductive Fm where
 | fa (f:He.Fa)
 | inh (x m y:Str)
 | ne (x:Str)
 | gi (x y:Str)
 | sup (x y m:Str)
 | glob (x:Str) (c:Mir.W)
 | cm (x m:Str)
 | pr (x m:Str)
 | xc (x fl:Str) (k:Nat)
 | xt (ps:List Nat)
 | x0 (x:Str)
def isGet (p C:Addr):Option PySem.W.CFound->Bool
 | some (.get g a o t)=>decide (g=.builtin "classmethod.__get__")&&(decide (a=.ref p)&&(decide (o=.none)&&decide (t=.ref C)))
 | _=>false
def Qy3:Option (List Value)->Bool
 | some (.ref _::_)=>true
 | _=>false
def cmB (K:Frag) (C p:Addr) (m:Str):Bool:=PySem.W.readsIn K C (.type "type")&&(decide (PySem.W.specialIn K (.ref C) "__getattribute__" = some (some (.builtin "type.__getattribute__"))) &&
 (isGet p C (PySem.W.findCls K (.ref C) (.type "type") m)&&(Qy3 (PySem.W.recIn K p "classmethod")&&PySem.W.fnIn K (cmAd K p))))
def prB (K:Frag) (C p:Addr) (m:Str):Bool:=decide (PySem.W.findIn K (.ref C) m=some (some (.ref p)))&&(decide (PySem.W.specialIn K (.ref p) "__get__" = some (some (.builtin "property.__get__")))&&(decide (PySem.W.takesIn K (.ref p)=some true)&&(!Qy3 (PySem.W.recIn K p "classmethod")&&(Qy3 (PySem.W.recIn K p "property")&&PySem.W.fnIn K (cmAd K p)))))
def slotB (newId:String) (sl:List (Option Value)):Bool:=match sl with
 | [_,_,_,_,some (.builtin n),_]=>n == newId
 | _=>false
def bNm:Nat->String
 | 0=> "ValueError"
 | _=> "IndexError"
def bNew:Nat->String
 | 0=> "ValueError.__new__"
 | _=> "IndexError.__new__"
def bIni:Nat->String
 | 0=> "ValueError.__init__"
 | _=> "IndexError.__init__"
def bTl:Nat->List Value
 | 0=>[.type "ValueError",.type "Exception",.type "BaseException",.type "object"]
 | _=>[.type "IndexError",.type "LookupError",.type "Exception",.type "BaseException",.type "object"]
def QAq (tl:List Value):List Value->Bool
 | .ref _::r=>QAq tl r
 | l=>l == tl
def mroB (k:Nat) (C:Addr):List Value->Bool
 | .ref c::bm=>decide (c=C)&&QAq (bTl k) bm
 | _=>false
def Qwd (k:Nat) (newId:String) (C:Addr) (o:Obj):Bool:=match o.cls with
 | .type t=>t == "type" && (match o.data with
  | .cls cd=>mroB k C cd.mro&&(cd.hasDict&&(!cd.hasDel&&slotB newId o.slots.toList))
  | _=>false)
 | _=>false
def QAd (K:Frag) (k:Nat) (C:Addr):Bool:=match K.lookup C with
 | some o=>Qwd k (bNew k) C o
 | none=>false
def xcB (K:Frag) (x fl:Str) (k:Nat):Bool :=
 He.eqO (PySem.W.nsIn K mainGlobals x) (some (some (.ref (He.ga K x))))&&(QAd K k (He.ga K x)&&(He.eqO (PySem.W.findIn K (.ref (He.ga K x)) "__setattr__") (some (some (.builtin "object.__setattr__"))) &&
 (decide (PySem.W.subIn K (.ref (He.ga K x)) (.type "BaseException")=some true)&&(decide (PySem.W.typeIn K (.ref (He.ga K x))=some (.type "type"))&&(PySem.W.keepIn K (.ref (He.ga K x)) &&
 (decide (PySem.W.mroIn K (He.ga K x) (.ref (He.ga K x))=some true)&&(decide (PySem.W.nsIn K cStatics "thirdparty.any" = some none)&&(decide (PySem.W.ks_superIn K (He.ga K x) (He.ga K x) "__init__" = some (some (.builtin (bIni k)))) &&
 (decide (PySem.W.mroIn K (He.ga K x) (.type (bNm k))=some true)&&(He.eqO (PySem.W.findIn K (.ref (He.ga K x)) fl) (some none)&&(He.eqO (PySem.W.findIn K (.ref (He.ga K x)) "__init__") (some (some (.ref (He.ma K (He.ga K x) "__init__")))) &&
 decide (PySem.W.typeIn K (.ref (He.ma K (He.ga K x) "__init__"))=some (.type "function")))))))))))))
def xsup (c d:Nat):Bool:=Nat.beq c d || (Nat.beq d 0&&(Nat.ble 1 c&&Nat.ble c 7))
def xbi (n:String) (c:Nat):Bool:=if n == "ValueError" then Nat.ble c 7 else if n == "IndexError" then Nat.beq c 8 else if n == "KeyError" then Nat.beq c 9 else false
def exB (K:Frag) (x:Str):Bool :=
 He.eqO (PySem.W.nsIn K mainGlobals x) (some (some (.ref (He.ga K x))))&&(He.eqO (PySem.W.findIn K (.ref (He.ga K x)) "__getattribute__") (some (some (.builtin "BaseException.__getattribute__")))&&(He.eqO (PySem.W.findIn K (.ref (He.ga K x)) "__getattr__") (some none) &&
 (decide (PySem.W.subIn K (.ref (He.ga K x)) (.type "BaseException")=some true)&&(PySem.W.hasDictIn K (He.ga K x)&&(He.eqO (PySem.W.findIn K (.ref (He.ga K x)) "__class__") (some (some (.builtin "object.__class__"))) &&
 (He.eqO (PySem.W.specialIn K (.builtin "object.__class__") "__get__") (some (some (.builtin "getset_descriptor.__get__")))&&(decide (PySem.W.takesIn K (.builtin "object.__class__")=some true)&&(decide (PySem.W.mroIn K (He.ga K x) (.type "object")=some true) &&
 (decide (PySem.W.typeIn K (.ref (He.ga K x))=some (.type "type"))&&(He.eqO (PySem.W.findIn K (.ref (He.ga K x)) "word") (some none)&&(He.eqO (PySem.W.findIn K (.ref (He.ga K x)) "at") (some none)&&He.eqO (PySem.W.findIn K (.ref (He.ga K x)) "name") (some none))))))))))))
def pairB (K:Frag) (p q:Str×Nat):Bool:=decide (PySem.W.kitOne K (.ref (He.ga K p.1)) (.ref (He.ga K q.1))=some (xsup p.2 q.2))&&decide (PySem.W.subIn K (.ref (He.ga K p.1)) (.ref (He.ga K q.1))=some (xsup p.2 q.2))
def biB (K:Frag) (p:Str×Nat) (n:String):Bool:=decide (PySem.W.kitOne K (.ref (He.ga K p.1)) (.type n)=some (xbi n p.2))
def xbN:List String:=["ValueError", "IndexError", "KeyError"]
def presB (K:Frag) (ps:List Nat) (p:Str×Nat):Bool:=match ps.elem p.2 with
 | true=>exB K p.1
 | false=>He.eqO (PySem.W.nsIn K mainGlobals p.1) (some none)
def Qtd (ps:List Nat):List (Str×Nat):=excL.zipIdx.filter λp=>ps.elem p.2
def xtB (K:Frag) (ps:List Nat):Bool:=excL.zipIdx.all (presB K ps)&&((Qtd ps).all (λp=>(Qtd ps).all λq=>pairB K p q)&&(Qtd ps).all λp=>xbN.all λn=>biB K p n)
def x0B (K:Frag) (x:Str):Bool :=
 He.eqO (PySem.W.nsIn K mainGlobals x) (some (some (.ref (He.ga K x))))&&(PySem.W.excIn K (He.ga K x) (bTl 0) "ValueError.__new__" && (PySem.W.keepIn K (.ref (He.ga K x)) &&
 (decide (PySem.W.subIn K (.ref (He.ga K x)) (.type "BaseException")=some true)&&decide (PySem.W.typeIn K (.ref (He.ga K x))=some (.type "type")))))
def Fm.ok (K:Frag):Fm->Bool
 | .fa f=>f.ok K
 | .inh x m y=>decide (PySem.W.findIn K (.ref (He.ga K x)) m=some (some (.ref (He.ma K (He.ga K y) m))))&&PySem.W.isFn K (.ref (He.ma K (He.ga K y) m))
 | .gi x y=>decide (PySem.W.findIn K (.ref (He.ga K x)) "__getitem__" = some (some (.ref (He.ma K (He.ga K y) "__getitem__"))))&&(PySem.W.isFn K (.ref (He.ma K (He.ga K y) "__getitem__"))&&PySem.W.fnIn K (He.ma K (He.ga K y) "__getitem__"))
 | .ne x=>decide (PySem.W.findIn K (.ref (He.ga K x)) "__ne__" = some (some (.builtin "object.__ne__")))&&decide (PySem.W.mroIn K (He.ga K x) (.type "object")=some true)
 | .sup x y m=>decide (PySem.W.mroIn K (He.ga K x) (.ref (He.ga K x))=some true)&&(decide (PySem.W.nsIn K cStatics "thirdparty.any" = some none)&&(decide (PySem.W.ks_superIn K (He.ga K x) (He.ga K x) m=some (some (.ref (He.ma K (He.ga K y) m)))) &&
   (decide (PySem.W.typeIn K (.ref (He.ma K (He.ga K y) m))=some (.type "function"))&&PySem.W.fnIn K (He.ma K (He.ga K y) m))))
 | .glob x c=>(match PySem.W.nsIn K mainGlobals x with
  | some (some u)=>Qfv K c u
  | _=>false)
 | .cm x m=>cmB K (He.ga K x) (He.ma K (He.ga K x) m) m
 | .pr x m=>prB K (He.ga K x) (He.ma K (He.ga K x) m) m
 | .xc x fl k=>xcB K x fl k
 | .xt ps=>xtB K ps
 | .x0 x=>x0B K x
def biL:List String:=["int", "bool", "str", "list", "tuple"]
def biN:List String:=["NoneType", "int", "bool", "str", "list", "tuple"]
def clsB (an:List Str) (K:Frag) (x:Str):Bool :=
 (He.Fa.glo x).ok K&&((He.Fa.cls x).ok K&&(an.all (λf=>(He.Fa.noat x f).ok K) &&
 (decide (PySem.W.findIn K (.ref (He.ga K x)) "__class__" = some (some (.builtin "object.__class__")))&&(decide (PySem.W.mroIn K (He.ga K x) (.type "object")=some true) &&
 (biL.all (λn=>decide (PySem.W.kitOne K (.ref (He.ga K x)) (.type n)=some false))&&biN.all (λn=>decide (PySem.W.kitOne K (.type n) (.ref (He.ga K x))=some false)))))))
def sfB (cn an:List Str) (sup:Nat->List Nat) (K:Frag):Bool :=
 cn.all (clsB an K)&&(cn.zipIdx.all (λp=>cn.zipIdx.all λq=>decide (PySem.W.kitOne K (.ref (He.ga K p.1)) (.ref (He.ga K q.1))=some ((sup p.2).elem q.2))) &&
 (decide (PySem.W.specialIn K (.builtin "object.__class__") "__get__" = some (some (.builtin "getset_descriptor.__get__")))&&decide (PySem.W.takesIn K (.builtin "object.__class__")=some true)))
structure Head where
 cn:List Str
 an:List Str
 sup:Nat->List Nat
 file:Str
 fm:List Fm
 fn:List DefM
abbrev AlM:Type:=Bool×List FnY
def Yz (D:Head) (K:Frag):AlM:=(sfB D.cn D.an D.sup K&&(D.fm.all (λf=>f.ok K)&&D.fn.all λd=>d.ok D.file K),D.fn.map λd=>fnY K (d.ad K))
def valM (D:Head):AlM:=(true,D.fn.map DefM.val)
def Qfi (D:Head) (K:Frag):Prop:=Yz D K=valM D
section
variable {D:Head} {K:Frag}
theorem Qfi.def0 (c:Qfi D K) (i:Nat) {d:DefM} (h:D.fn[i]?=some d):fnY K (d.ad K)=d.val/\d.ok D.file K=true:=by
 have c2:=(He.ba (He.ba (show (sfB D.cn D.an D.sup K&&(D.fm.all (λf=>f.ok K)&&D.fn.all λd=>d.ok D.file K))=true from congrArg (λz:AlM=>z.1) c)).2).2
 have e:D.fn.map (λd=>fnY K (d.ad K))=D.fn.map DefM.val:=congrArg (λz:AlM=>z.2) c
 have e2:(D.fn.map λd=>fnY K (d.ad K))[i]?=(D.fn.map DefM.val)[i]?:=by rw [e]
 rw [List.getElem?_map,List.getElem?_map,h] at e2
 exact ⟨Option.some.inj e2,List.all_eq_true.mp c2 d (List.mem_of_getElem? h)⟩
theorem Qfi.fn (c:Qfi D K) (i:Nat) {d:DefM} (h:D.fn[i]?=some d:=by rfl) (hs:d.sup=false:=by rfl):∃ fd,Fun K d.name d.qual d.st (d.ad K) fd:=QBh (c.def0 i h).1 (c.def0 i h).2 hs
end
structure ClG (K:Frag) (mg:Str->Option Value) (nm:Nm) (x:Str) (c:Nat):Prop where
 ex:∃ C,(⟨K,mg,nm⟩:Tab).cls c=some C/\mg x=some (.ref C)
section
variable {P:Program} {w:World} {K:Frag} {mg:Str->Option Value} {base:Heap} {nm:Nm} {j k c:Nat} {m:MF}
theorem EqC.mono (h:EqC P w K mg base nm j c m) (hk:j<=k):EqC P w K mg base nm k c m:=by
 obtain ⟨C,f,fd,ps,h1,h2,h3,h4,h5,h6,h7⟩:=h.ex
 exact ⟨C,f,fd,ps,h1,h2,h3,h4,h5,h6,h7.mono hk⟩
theorem StrC.mono (h:StrC P w K mg base nm j c m) (hk:j<=k):StrC P w K mg base nm k c m:=by
 obtain ⟨C,f,fd,ps,h1,h2,h3,h4,h5⟩:=h.ex
 exact ⟨C,f,fd,ps,h1,h2,h3,h4,h5.mono hk⟩
end
end MW
namespace Mir
mutual
def K8:W->Bool
 | .ref _=>false
 | .tup xs=>Jq xs
 | .lst xs=>Jq xs
 | .lsr xs=>Jq xs
 | .obj _ fs=>Ko fs
 | _=>true
def Jq:List W->Bool
 | []=>true
 | x::r=>if K8 x then Jq r else false
def Ko:List (Nat×W)->Bool
 | []=>true
 | (_,x)::r=>if K8 x then Ko r else false
end
end Mir
namespace MW
open PySem PySem.Spec PyProof.Rows L2 Mir
section
variable {T:Tab} {r r':Nat->Option Addr} {G:Hp}
theorem Qkt {c:Bool} {b:Bool} (h:(if c=true then b else false)=true):c=true/\b=true:=by
 cases c with
 | true=>exact ⟨rfl,h⟩
 | false=>cases h
mutual
theorem RelW.nor:∀ {w:Mir.W} {v:V},K8 w=true->RelW T r G w v->RelW T r' G w v
 | _,_,_,.non=>.non
 | _,_,_,.bl b=>.bl b
 | _,_,_,.int i=>.int i
 | _,_,_,.str e h=>.str e h
 | _,_,n,.tup h q=>.tup h (RelWs.nor (by rw [K8] at n; exact n) q)
 | _,_,n,.lst h q=>.lst h (RelWs.nor (by rw [K8] at n; exact n) q)
 | _,_,n,.lsr h q=>.lsr h (RelWs.nor (by rw [K8] at n; exact n) q)
 | _,_,n,.obj h hc q=>.obj h hc (RelFs.nor (by rw [K8] at n; exact n) q)
 | _,_,n,.ref h=>absurd n (by rw [K8]; decide)
 | _,_,_,.cls h=>.cls h
theorem RelWs.nor:∀ {w:List Mir.W} {v:List V},Jq w=true->RelWs T r G w v->RelWs T r' G w v
 | _,_,_,.nil=>.nil
 | _,_,n,.cons h q=>.cons (RelW.nor (Qkt (by rw [Jq] at n; exact n)).1 h) (RelWs.nor (Qkt (by rw [Jq] at n; exact n)).2 q)
theorem RelFs.nor:∀ {w:List (Nat×Mir.W)} {v:List (Str×V)},Ko w=true->RelFs T r G w v->RelFs T r' G w v
 | _,_,_,.nil=>.nil
 | _,_,n,.cons k h q=>.cons k (RelW.nor (Qkt (by rw [Ko] at n; exact n)).1 h) (RelFs.nor (Qkt (by rw [Ko] at n; exact n)).2 q)
end
end
end MW
namespace Mir
end Mir
namespace MW
open PySem PySem.Spec PyProof.Rows L2 Mir
section
variable {X:Cx} {nm:Nm} {E:XK} {pos:Pos} {tg iter elt tg1 iter1:Expr} {ifs ifs1:List Expr} {scope:Scope} {own:List (Str×Nat)} {mi mi2:MI} {t t2:Tg} {mt mt2:MT} {me mk:ME} {vs vs1:List Nat}
def AtD (T:Tab) (D:Addr) (ys:List Mir.W) (w:Wd):Prop:=Out_ w D/\∃ acc,w.H D=some (.lst acc)/\w.rels T ys acc
theorem AtD.ext {T:Tab} {D:Addr} {ys:List Mir.W} {w w':Wd} (e:Ext w w') (h:AtD T D ys w):AtD T D ys w':=by
 obtain ⟨o,acc,h1,h2⟩:=h
 obtain ⟨o',h1'⟩:=o.ext h1 e
 exact ⟨o',acc,h1',h2.mono e.le e.ex⟩
theorem RelKs.length {T:Tab} {r:Nat->Option Addr} {G:Hp} {ws:List (Mir.W×Mir.W)} {fs:List (Key×V)} (h:RelKs T r G ws fs):ws.length=fs.length:=by
 induction h with
 | nil=>rfl
 | cons _ _ _ ih=>rw [List.length_cons,List.length_cons,ih]
def AtDd (T:Tab) (D:Addr) (ys:List (Mir.W×Mir.W)) (w:Wd):Prop:=Out_ w D/\∃ acc,w.H D=some (.dK acc)/\RelKs T w.r w.G ys acc
theorem AtDd.ext {T:Tab} {D:Addr} {ys:List (Mir.W×Mir.W)} {w w':Wd} (e:Ext w w') (h:AtDd T D ys w):AtDd T D ys w':=by
 obtain ⟨o,acc,h1,h2⟩:=h
 obtain ⟨o',h1'⟩:=o.ext h1 e
 exact ⟨o',acc,h1',h2.mono e.le e.ex⟩
end
structure SpC (P:Program) (w:World) (K:Frag) (mg:Str->Option Value) (base:Heap) (nm:Nm) (sn:Str) (k c:Nat) (m:MF):Prop where
 ex:∃ (C f:Addr) (fd:FuncData) (ps:List Str),(⟨K,mg,nm⟩:Tab).cls c=some C/\PySem.W.findIn K (.ref C) sn=some (some (.ref f))/\PySem.W.isFn K (.ref f)=true/\Binds K fd ps []/\FnOk P w K mg base CX0 k f fd ps (Kc ⟨K,mg,nm⟩ m)
theorem SpC.mono {P:Program} {w:World} {K:Frag} {mg:Str->Option Value} {base:Heap} {nm:Nm} {sn:Str} {j k c:Nat} {m:MF} (h:SpC P w K mg base nm sn j c m) (hk:j<=k):SpC P w K mg base nm sn k c m:=by
 obtain ⟨C,f,fd,ps,h1,h2,h3,h4,h5⟩:=h.ex
 exact ⟨C,f,fd,ps,h1,h2,h3,h4,h5.mono hk⟩
end MW
namespace MW
open PySem PySem.Spec PyProof.Rows L2 Mir HandSHeadRun
def frC {β:Type} (g:Addr->Option Obj):List Addr->Frag->(Frag->β)->β
 | [],K,k=>k K
 | a::r,K,k=>match g a with
  | some o=>frC g r ((a,o)::K) k
  | none=>frC g r K k
def frL (g:Addr->Option Obj):List Addr->Frag->Frag
 | [],K=>K
 | a::r,K=>match g a with
  | some o=>frL g r ((a,o)::K)
  | none=>frL g r K
theorem Qiq {β:Type} {g:Addr->Option Obj} {k:Frag->β}:∀ (l:List Addr) (K:Frag),frC g l K k=k (frL g l K)
 | [],K=>rfl
 | a::r,K=>by
  unfold frC frL
  cases g a with
  | some o=>exact Qiq r _
  | none=>exact Qiq r _
theorem Qrf {g:Addr->Option Obj}:∀ (l:List Addr) (K:Frag),(∀ p∈K,g p.1=some p.2)->∀ p∈frL g l K,g p.1=some p.2
 | [],K,h=>h
 | a::r,K,h=>by
  unfold frL
  cases e:g a with
  | none=>exact Qrf r K h
  | some o =>
   refine Qrf r ((a,o)::K) λp hp=>?_
   rcases List.mem_cons.mp hp with rfl | hp
   ·exact e
   ·exact h p hp
theorem Qsa {a:Addr} {o:Obj}:∀ {K:Frag},K.lookup a=some o->(a,o)∈K
 | [],h=>by cases h
 | (b,u)::r,h=>by
   rw [List.lookup_cons] at h
   cases e:a == b with
   | true =>
    rw [e] at h
    cases h
    rw [eq_of_beq e]
    exact List.mem_cons_self ..
   | false =>
    rw [e] at h
    exact List.mem_cons_of_mem _ (Qsa h)
theorem Qxc {l:List Addr} {h:Heap}:(frL h.get? l []).In h:=λa o e=>Qrf l [] (λp hp=>by cases hp) (a,o) (Qsa e)
noncomputable section
def obK {β:Type} (L:List Addr) (k:Frag->β) (s:PySem.W.SharedT):β:=frC (getT s) L [] k
end
def kS (D:Head):Frag->Bool:=λK=>sfB D.cn D.an D.sup K
def kF (l:List Fm):Frag->Bool:=λK=>l.all λf=>f.ok K
def kD (file:Str) (l:List DefM):Frag->Bool×List FnY:=λK=>(l.all λd=>d.ok file K,l.map λd=>fnY K (d.ad K))
section
open PySem.W PySem.Calls
noncomputable def P0 (r:OpenRow) (q:Program) (M:Nat) (loose:List PySem.Str) (w:World) (os:OsState):Prop:=(endF (stepQ (denQ tabQ) r.prog w) M r.prog w os).map (λs=>(looksF r.prog (boot_heap w.params) s.abs,seenQ q loose (importedModules r.prog.main.body) (λs=>xlAt q [] s&&recOk r.toRowW.records s) s.abs))=some (true,openGood q loose)
noncomputable def P1 {β:Type} (r:OpenRow) (M:Nat) (w:World) (os:OsState) (L:List Addr) (k:MW.Frag->β) (v:β):Prop:=(endF (stepQ (denQ tabQ) r.prog w) M r.prog w os).map (obK L k)=some v
end
section
variable {L:List Addr} {e:Option PySem.W.SharedT}
theorem Qwy {β:Type} {k:Frag->β} {s:PySem.W.SharedT}:obK L k s=k (frL (getT s) L []):=Qiq L []
theorem Qvk {α β:Type} {D:Head} {f:PySem.W.SharedT->α} {g:PySem.W.SharedT->β} {a:α} {b:β} (h0:e.map (λs=>(f s,g s))=some (a,b)) (h1:e.map (obK L (kS D))=some true) (h2:e.map (obK L (kF D.fm))=some true) (h3:e.map (obK L (kD D.file D.fn))=some (true,D.fn.map DefM.val)) :
  e.map (λs=>(f s,g s,frC (getT s) L [] λK=>Yz D K))=some (a,b,valM D):=by
 cases e with
 | none=>cases h0
 | some s =>
  have q0:=Option.some.inj h0
  have q1:=Option.some.inj h1
  have q2:=Option.some.inj h2
  have q3:=Option.some.inj h3
  rw [Qwy] at q1 q2 q3
  have q:(frC (getT s) L [] λK=>Yz D K)=valM D:=by
   rw [Qiq]
   generalize frL (getT s) L []=K at q1 q2 q3
   have r1:sfB D.cn D.an D.sup K=true:=q1
   have r2:D.fm.all (λf=>f.ok K)=true:=q2
   have r3:D.fn.all (λd=>d.ok D.file K)=true:=congrArg Prod.fst q3
   have r4:D.fn.map (λd=>fnY K (d.ad K))=D.fn.map DefM.val:=congrArg Prod.snd q3
   show (sfB D.cn D.an D.sup K&&(D.fm.all (λf=>f.ok K)&&D.fn.all λd=>d.ok D.file K),D.fn.map λd=>fnY K (d.ad K))=_
   rw [r1,r2,r3,r4]
   rfl
  have e1:f s=a:=congrArg Prod.fst q0
  have e2:g s=b:=congrArg Prod.snd q0
  show some (f s,g s,frC (getT s) L [] λK=>Yz D K)=_
  rw [e1,e2,q]
end
end MW
namespace MW
open PySem PySem.Spec PyProof.Rows L2 Mir
abbrev XE:=NestedKey×Addr×Value
section
variable {T:Tab} {r:Nat->Option Addr} {G:Hp} {y:Mir.W} {nk:NestedKey}
theorem RelXs.length {ws:List (Mir.W×Mir.W)} {ps:List (NestedKey×Addr×V)} (h:RelXs T r G ws ps):ws.length=ps.length:=by
 induction h with
 | nil=>rfl
 | cons _ _ _ _ ih=>rw [List.length_cons,List.length_cons,ih]
end
section
variable {X:Cx} {nm:Nm} {E:XK} {pins:List (Addr×Obj)} {σ:L2.St} {s:Shared}
end
section
variable {X:Cx} {nm:Nm} {E:XK} {pos:Pos}
inductive RelPs (T:Tab) (w:Wd):List (Mir.W×Mir.W)->List (V×V)->Prop where
 | nil:RelPs T w [] []
 | cons {x y:Mir.W} {u v:V} {ws:List (Mir.W×Mir.W)} {vs:List (V×V)} (h:w.rel T x u) (k:w.rel T y v) (q:RelPs T w ws vs):RelPs T w ((x,y)::ws) ((u,v)::vs)
theorem RelPs.length {T:Tab} {w:Wd} {ws:List (Mir.W×Mir.W)} {vs:List (V×V)} (h:RelPs T w ws vs):ws.length=vs.length:=by
 induction h with
 | nil=>rfl
 | cons _ _ _ ih=>rw [List.length_cons,List.length_cons,ih]
end
section
variable {K:Frag}
variable {P:Program} {w:World} {mg:Str->Option Value} {base:Heap} {h:Heap} {D:Head} {fd:FuncData}
end
abbrev WV:=Mir.W×V
structure SortZ (zs:List WV):Prop where
 al:PySem.W.AllAlike (zs.map λz=>toD z.1)
 so:PySem.W.Sortable (zs.map λz=>toD z.1)
 ln:zs.length<=900
mutual
theorem Qvp {h:Heap}:∀ (d:PyData) (v:Value) (as:List Addr),PySem.W.alike d d=true->Reads h v d as->∀ b∈as,∃ o,h.get? b=some o
 | .none,_,_,_,r,b,hb=>by cases r; cases hb
 | .bool _,_,_,_,r,b,hb=>by cases r; cases hb
 | .int _,_,_,_,r,b,hb=>by cases r; cases hb
 | .str _,_,_,_,r,b,hb=>by cases r; cases hb
 | .list xs,_,_,k,r,b,hb=>by
  cases r with
  | list h1 _ _ h4 =>
   rcases List.mem_cons.mp hb with e | e
   ·rw [e]; exact ⟨_,h1⟩
   ·exact readsAll_at xs _ _ (by simpa [PySem.W.alike] using k) h4 b e
 | .tuple xs,_,_,k,r,b,hb=>by
  cases r with
  | tuple h1 _ _ h4=>exact readsAll_at xs _ _ (by simpa [PySem.W.alike] using k) h4 b hb
 | .dict _,_,_,k,_,_,_=>by simp [PySem.W.alike] at k
theorem readsAll_at {h:Heap}:∀ (ds:List PyData) (vs:List Value) (as:List Addr),PySem.W.alikeAll ds ds=true->ReadsAll h vs ds as->∀ b∈as,∃ o,h.get? b=some o
 | [],_,_,_,r,b,hb=>by cases r; cases hb
 | d::ds,_,_,k,r,b,hb=>by
  cases r with
  | cons h1 h2 =>
   rcases List.mem_append.mp hb with e | e
   ·exact Qvp d _ _ (PySem.W.alike_all_cons k).1 h1 b e
   ·exact readsAll_at ds _ _ (PySem.W.alike_all_cons k).2 h2 b e
end
section
variable {X:Cx} {nm:Nm} {E:XK} {pins:List (Addr×Obj)} {σ:L2.St} {s:Shared}
end
def PLN:List (List Nat):=[[],[107,101,112,116],[110,111,110,101],[105,110],[103,111,110,101],[98,114,111,107,101,110],[110,111,112,101],[108,111,115,116]]
theorem Qyl:∀ z∈PLN,(reprText ⟨z.toArray⟩).length<=z.length+2:=by decide +kernel
mutual
def szX:Mir.W->Nat
 | .non=>4
 | .bl _=>5
 | .int _=>24
 | .str z=>if z∈PLN then z.length+2 else 10*z.length+2
 | .tup xs=>szXs xs+3
 | .lst xs=>szXs xs+3
 | _=>4
def szXs:List Mir.W->Nat
 | []=>0
 | x::r=>szX x+2+szXs r
end
mutual
def shX:Mir.W->Bool
 | .int i=>decide (i.natAbs<10000000000000000000000)
 | .tup xs=>shXs xs
 | .lst xs=>shXs xs
 | .str z=>okS z
 | _=>true
def shXs:List Mir.W->Bool
 | []=>true
 | x::r=>shX x&&shXs r
end
theorem Qq9 {i:Int} (h:i.natAbs<10000000000000000000000):i.natAbs.log2<1920:=by
 by_cases z:i.natAbs=0
 ·rw [z]; decide
 ·have:i.natAbs<2 ^ 1920:=Nat.lt_trans h (by decide +kernel)
  exact (Nat.log2_lt z).mpr this
mutual
theorem QAa:∀ x:Mir.W,shX x=true->(toD x).shown.length<=szX x/\(toD x).showable=true/\(toD x).hasDict=false
 | .non,_=>⟨by decide,rfl,rfl⟩
 | .bl b,_=>⟨by cases b <;> decide,rfl,rfl⟩
 | .int i,h=>by
  have h':=of_decide_eq_true (show decide (i.natAbs<10000000000000000000000)=true from h)
  refine ⟨?_,decide_eq_true (Qq9 h'),rfl⟩
  have e:(toD (.int i)).shown=Str.ofString (toString i):=by simp only [toD,PyData.shown]; try rfl
  rw [e,PySem.ofString_length]
  exact Nat.le_trans (int_text_length_le10 (k:=22) (by decide) (by omega)) (by show 23<=24; decide)
 | .str z,h=>by
  refine ⟨?_,rfl,rfl⟩
  have e:(toD (.str z)).shown=reprText ⟨z.toArray⟩:=by simp only [toD,PyData.shown]
  rw [e]
  by_cases q:z∈PLN
  ·show _<=(if z∈PLN then z.length+2 else 10*z.length+2)
   rw [if_pos q]
   exact Qyl z q
  ·show _<=(if z∈PLN then z.length+2 else 10*z.length+2)
   rw [if_neg q]
   refine Nat.le_trans (StrLaws.reprText_len _ λc hc=>Nat.lt_trans (Qec h c (by simpa using hc)) (by decide)) ?_
   show 10*z.toArray.size+2<=10*z.length+2
   simp
 | .tup xs,h=>by
  obtain ⟨h1,h2,h3⟩:=szxs_of xs h
  refine ⟨?_,by simp only [toD,PyData.showable]; exact h2,by simp only [toD,PyData.hasDict]; exact h3⟩
  have e:(toD (.tup xs)).shown=tupleText (PyData.shownAll (JN xs)):=by simp only [toD,PyData.shown]
  rw [e]
  unfold tupleText
  rw [strLen_append,strLen_append]
  have e1:(Str.ofString "(").length=1:=by decide
  have e2:(Str.ofString (if (PyData.shownAll (JN xs)).length == 1 then ",)" else ")")).length<=2:=by split <;> decide
  have e3:(Str.join ", " (PyData.shownAll (JN xs))).length<=piled (PyData.shownAll (JN xs)):=by
   cases q:PyData.shownAll (JN xs) with
   | nil=>decide
   | cons a r=>have:=join_length_add (a::r) (by simp); omega
  show _<=szXs xs+3
  omega
 | .lst xs,h=>by
  obtain ⟨h1,h2,h3⟩:=szxs_of xs h
  refine ⟨?_,by simp only [toD,PyData.showable]; exact h2,by simp only [toD,PyData.hasDict]; exact h3⟩
  have e:(toD (.lst xs)).shown=listText (PyData.shownAll (JN xs)):=by simp only [toD,PyData.shown]
  rw [e]
  unfold listText
  rw [strLen_append]
  have e1:(Str.ofString "[").length=1:=by decide
  have e2:(Str.ofString "]").length=1:=by decide
  have e3:=Qhq (PyData.shownAll (JN xs)) 0 "["
  show _<=szXs xs+3
  omega
 | .obj _ _,_=>⟨by show (PyData.shown .none).length<=4; decide,rfl,rfl⟩
 | .ref _,_=>⟨by show (PyData.shown .none).length<=4; decide,rfl,rfl⟩
 | .cls _,_=>⟨by show (PyData.shown .none).length<=4; decide,rfl,rfl⟩
 | .lsr _,_=>⟨by show (PyData.shown .none).length<=4; decide,rfl,rfl⟩
theorem szxs_of:∀ xs:List Mir.W,shXs xs=true->piled (PyData.shownAll (JN xs))<=szXs xs/\PyData.showableAll (JN xs)=true/\PyData.hasDictAll (JN xs)=false
 | [],_=>⟨Nat.le_refl _,rfl,rfl⟩
 | x::r,h=>by
  obtain ⟨a,b⟩:=Bool.and_eq_true_iff.mp (show (shX x&&shXs r)=true from h)
  obtain ⟨h1,h2,h3⟩:=QAa x a
  obtain ⟨k1,k2,k3⟩:=szxs_of r b
  refine ⟨?_,?_,?_⟩
  ·show piled ((toD x).shown::PyData.shownAll (JN r))<=szX x+2+szXs r
   rw [piled_cons]
   omega
  ·show ((toD x).showable&&PyData.showableAll (JN r))=true
   rw [h2,k2] <;> rfl
  ·show ((toD x).hasDict || PyData.hasDictAll (JN r))=false
   rw [h3,k3] <;> rfl
end
section
variable (P:Program) (w:World) (K:Frag) (mg:Str->Option Value) (base:Heap) (nm:Nm)
structure GiX (CX:CXT) (k c:Nat) (m:MF):Prop where
 ex:∃ (C f:Addr) (fd:FuncData) (ps:List Str),(⟨K,mg,nm⟩:Tab).cls c=some C/\PySem.W.findIn K (.ref C) "__getitem__" = some (some (.ref f))/\PySem.W.isFn K (.ref f)=true/\PySem.W.fnIn K f=true/\Binds K fd ps []/\FnOk P w K mg base CX k f fd ps (Kc ⟨K,mg,nm⟩ m)
end
section
variable {X:Cx} {nm:Nm} {E:XK} {pos:Pos}
end
end MW
namespace MW
open PySem PySem.W PySem.Spec PyProof.Rows L2 Mir
end MW
namespace MW
open PySem PySem.Spec PyProof.Rows L2 Mir
end MW
namespace MW
open PySem PySem.Spec PyProof.Rows L2 Mir HandSHeadRun
abbrev TbM:=Str×List (Str×Int)
def valOf (e:DictEntry):Option Int:=match e.val with
 | .int i _=>some i
 | _=>none
abbrev TbO:=Option (List (Option (Str×Int))×List (Option Int))
def tbB (K:Frag) (t:TbM):TbO:=match PySem.W.nsIn K mainGlobals t.1 with
 | some (some (.ref d))=>(match K.lookup d with
  | some ⟨.type c,none,.dict es _,sl⟩=>(match decide (c= "dict")&&(sl.isEmpty&&!(d == sysModules)) with
   | true=>some (es.toList.map He.keyOf,es.toList.map valOf)
   | false=>none)
  | _=>none)
 | _=>none
def tbV (w:World) (t:TbM):TbO:=some (He.keysIn w.params (t.2.map (·.1)),t.2.map λp=>some p.2)
abbrev AlT:Type:=AlM×List TbO
def kT (ts:List TbM):Frag->List TbO:=λK=>ts.map (tbB K)
def vT (w:World) (ts:List TbM):List TbO:=ts.map (tbV w)
def QBy (D:Head) (ts:List TbM) (w:World) (K:Frag):Prop:=Qfi D K/\kT ts K=vT w ts
section
variable {L:List Addr} {e:Option PySem.W.SharedT}
theorem Qts {α β:Type} {D:Head} {ts:List TbM} {w:World} {f:PySem.W.SharedT->α} {g:PySem.W.SharedT->β} {a:α} {b:β} (h0:e.map (λs=>(f s,g s))=some (a,b)) (h1:e.map (obK L (kS D))=some true) (h2:e.map (obK L (kF D.fm))=some true) (h3:e.map (obK L (kD D.file D.fn))=some (true,D.fn.map DefM.val)) (h4:e.map (obK L (kT ts))=some (vT w ts)) :
  e.map (λs=>(f s,g s,frC (getT s) L [] λK=>(Yz D K,kT ts K)))=some (a,b,(valM D,vT w ts)):=by
 have q:=Qvk h0 h1 h2 h3
 cases e with
 | none=>cases h0
 | some s =>
  have q1:(f s,g s,frC (getT s) L [] λK=>Yz D K)=(a,b,valM D):=Option.some.inj q
  have q4:=Option.some.inj h4
  rw [Qwy] at q4
  rw [Qiq] at q1
  refine congrArg some ?_
  show (f s,g s,frC (getT s) L [] λK=>(Yz D K,kT ts K))=_
  rw [Qiq]
  have e1:f s=a:=congrArg Prod.fst q1
  have e2:g s=b:=congrArg (λz=>z.2.1) q1
  have e3:Yz D (frL (getT s) L [])=valM D:=congrArg (λz=>z.2.2) q1
  rw [e1,e2,e3,q4]
end
structure TabAt (h:Heap) (K:Frag) (c P:Addr):Prop where
 mt:h.get? P=some { cls:=.none,data:=.fields #[]}
 no:K.lookup P=none
 cd:PySem.W.CodeHd h c P
def Qut:Option Obj->Bool
 | some ⟨.none,none,.fields vs,sl⟩=>vs.isEmpty&&sl.isEmpty
 | _=>false
def Qw8:Value->Bool
 | .str _ _=>true
 | _=>false
def Qsd:Value->Bool
 | .int _ _=>true
 | _=>false
def QBe:Value->Bool
 | .bool _=>true
 | _=>false
def Qw9 (P:Addr):Value->Bool
 | .ref a=>decide (a=P)
 | _=>false
def hdB (c P:Addr):Option Obj->Bool
 | some ⟨.type t,_,.fields vs,_⟩=>decide (t= "code")&&(decide (11<vs.size)&&(Qw9 P (vs.getD 11 .none)&&(Qw8 (vs.getD 18 .none)&&(Qsd (vs.getD 7 .none)&&(QBe (vs.getD 9 .none)&&(Qsd (vs.getD 10 .none)&&!decide (c=P)))))))
 | _=>false
def Y9 (need:Bool) (K:Frag) (g:Addr->Option Obj):Bool:=match YH K with
 | some (c,P)=>(K.lookup P).isNone&&(Qut (g P)&&hdB c P (K.lookup c))
 | none=>!need
theorem Qxu {need:Bool} {K:Frag} {h:Heap} (X:K.In h) (e:Y9 need K h.get?=true):(need=true->∃ c P,YH K=some (c,P))/\∀ c P,YH K=some (c,P)->TabAt h K c P:=by
 unfold Y9 at e
 cases q:YH K with
 | none =>
  rw [q] at e
  have e':(!need)=true:=e
  exact ⟨λz=>(by rw [z] at e'; cases e'),λc P z=>nomatch z⟩
 | some z =>
  obtain ⟨c,P⟩:=z
  rw [q] at e
  obtain ⟨e1,e2⟩:=He.ba (show ((K.lookup P).isNone&&(Qut (h.get? P)&&hdB c P (K.lookup c)))=true from e)
  obtain ⟨e3,e4⟩:=He.ba e2
  refine ⟨λ_=>⟨c,P,rfl⟩,λc' P' y=>?_⟩
  obtain ⟨rfl,rfl⟩:=Prod.mk.inj (Option.some.inj y)
  refine ⟨?_,Option.isNone_iff_eq_none.mp e1,?_⟩
  ·cases y:h.get? P with
   | none=>rw [y] at e3; cases e3
   | some ob =>
    rw [y] at e3
    obtain ⟨oc,od,dt,sl⟩:=ob
    cases oc <;> cases od <;> cases dt <;> first
     | cases e3
     | (rename_i vs
        obtain ⟨k1,k2⟩:=He.ba (show (vs.isEmpty&&sl.isEmpty)=true from e3)
        rw [Array.isEmpty_iff.mp k1,Array.isEmpty_iff.mp k2])
  ·cases y:K.lookup c with
   | none=>rw [y] at e4; cases e4
   | some ob =>
    rw [y] at e4
    obtain ⟨oc,od,dt,sl⟩:=ob
    cases oc with
    | type t =>
     cases dt with
     | fields vs =>
      obtain ⟨k1,k⟩:=He.ba (show (decide (t= "code")&&(decide (11<vs.size)&&(Qw9 P (vs.getD 11 .none)&&(Qw8 (vs.getD 18 .none)&&(Qsd (vs.getD 7 .none)&&(QBe (vs.getD 9 .none)&&(Qsd (vs.getD 10 .none)&&!decide (c=P))))))))=true from e4)
      obtain ⟨k2,k⟩:=He.ba k
      obtain ⟨k3,k⟩:=He.ba k
      obtain ⟨k4,k⟩:=He.ba k
      obtain ⟨k5,k⟩:=He.ba k
      obtain ⟨k6,k⟩:=He.ba k
      obtain ⟨k7,k8⟩:=He.ba k
      have lt:11<vs.size:=of_decide_eq_true k2
      obtain rfl:t= "code" := of_decide_eq_true k1
      have e11:vs.getD 11 .none=.ref P:=by
       cases z:vs.getD 11 .none with
       | ref a=>rw [z] at k3; rw [show a=P from of_decide_eq_true k3]
       | _=>rw [z] at k3; cases k3
      have e11':vs[11]?=some (.ref P):=by
       have:vs.getD 11 .none=vs[11]:=by simp [Array.getD,lt]
       rw [Array.getElem?_eq_getElem lt,<- this,e11]
      obtain ⟨file,tf,e18⟩:∃ file tf,vs.getD 18 .none=.str file tf:=by
       cases z:vs.getD 18 .none with
       | str a b=>exact ⟨a,b,rfl⟩
       | _=>rw [z] at k4; cases k4
      obtain ⟨f7,t7,e7⟩:∃ f t,vs.getD 7 .none=.int f t:=by
       cases z:vs.getD 7 .none with
       | int a b=>exact ⟨a,b,rfl⟩
       | _=>rw [z] at k5; cases k5
      obtain ⟨f9,e9⟩:∃ f,vs.getD 9 .none=.bool f:=by
       cases z:vs.getD 9 .none with
       | bool a=>exact ⟨a,rfl⟩
       | _=>rw [z] at k6; cases k6
      obtain ⟨f10,t10,e10⟩:∃ f t,vs.getD 10 .none=.int f t:=by
       cases z:vs.getD 10 .none with
       | int a b=>exact ⟨a,b,rfl⟩
       | _=>rw [z] at k7; cases k7
      refine ⟨_,vs,file,tf,f7,t7,f9,f10,t10,X _ _ y,rfl,rfl,e11',e11,e18,e7,e9,e10,λz=>?_⟩
      rw [z] at k8
      simp at k8
     | _=>cases e4
    | _=>cases e4
abbrev AlP:Type:=AlT×Bool
def SaysP (need:Bool) (D:Head) (ts:List TbM) (w:World) (K:Frag) (h:Heap):Prop:=QBy D ts w K/\(need=true->∃ c P,YH K=some (c,P))/\∀ c P,YH K=some (c,P)->TabAt h K c P
def Qy7 (need:Bool) (L:List Addr) (D:Head) (ts:List TbM):PySem.W.Hook where
 α:=AlP
 obs:=λs=>frC s.heap.get? L [] λK=>((Yz D K,kT ts K),Y9 need K s.heap.get?)
 val:=λw=>((valM D,vT w ts),true)
 says:=λw h=>∃ K:Frag,K.In h/\SaysP need D ts w K h
 of:=λ_ s e=>⟨_,Qxc (l:=L),by
  rw [Qiq] at e
  exact ⟨⟨congrArg (λz:AlP=>z.1.1) e,congrArg (λz:AlP=>z.1.2) e⟩,Qxu Qxc (congrArg (λz:AlP=>z.2) e)⟩⟩
 keeps:=λ_ _ _ ⟨K,hK,c,e,t⟩ k=>⟨K,PySem.W.Frag.In.keeps hK k,c,e,λa b q=>⟨k _ _ (t a b q).mt,(t a b q).no,(t a b q).cd.keeps k⟩⟩
noncomputable section
def obG {β:Type} (L:List Addr) (k:Frag->(Addr->Option Obj)->β) (s:PySem.W.SharedT):β:=frC (getT s) L [] λK=>k K (getT s)
end
section
open PySem.W PySem.Calls
noncomputable def P2 {β:Type} (r:OpenRow) (M:Nat) (w:World) (os:OsState) (L:List Addr) (k:MW.Frag->(Addr->Option Obj)->β) (v:β):Prop:=(endF (stepQ (denQ tabQ) r.prog w) M r.prog w os).map (obG L k)=some v
end
section
variable {L:List Addr} {e:Option PySem.W.SharedT}
theorem Qtt {need:Bool} {α β:Type} {D:Head} {ts:List TbM} {w:World} {f:PySem.W.SharedT->α} {g:PySem.W.SharedT->β} {a:α} {b:β} (h0:e.map (λs=>(f s,g s))=some (a,b)) (h1:e.map (obK L (kS D))=some true) (h2:e.map (obK L (kF D.fm))=some true) (h3:e.map (obK L (kD D.file D.fn))=some (true,D.fn.map DefM.val)) (h4:e.map (obK L (kT ts))=some (vT w ts)) (h5:e.map (obG L (Y9 need))=some true) :
  e.map (λs=>(f s,g s,frC (getT s) L [] λK=>((Yz D K,kT ts K),Y9 need K (getT s))))=some (a,b,((valM D,vT w ts),true)):=by
 have q:=Qts h0 h1 h2 h3 h4
 cases e with
 | none=>cases h0
 | some s =>
  have q1:(f s,g s,frC (getT s) L [] λK=>(Yz D K,kT ts K))=(a,b,(valM D,vT w ts)):=Option.some.inj q
  have q5:(frC (getT s) L [] λK=>Y9 need K (getT s))=true:=Option.some.inj h5
  rw [Qiq] at q5 q1
  refine congrArg some ?_
  show (f s,g s,frC (getT s) L [] λK=>((Yz D K,kT ts K),Y9 need K (getT s)))=_
  rw [Qiq]
  have e1:f s=a:=congrArg Prod.fst q1
  have e2:g s=b:=congrArg (λz=>z.2.1) q1
  have e3:(Yz D (frL (getT s) L []),kT ts (frL (getT s) L []))=(valM D,vT w ts):=congrArg (λz=>z.2.2) q1
  rw [e1,e2,e3,q5]
end
section
open PySem.W PySem.Calls
variable {r:PySem.W.OpenRow} {q:Program} {M:Nat} {loose:List PySem.Str} {w:World} {L:List Addr} {D:Head} {ts:List TbM} {os:OsState}
theorem Qyf {need:Bool} (h0:∀ os,P0 r q M loose w os) (h1:∀ os,P1 r M w os L (kS D) true) (h2:∀ os,P1 r M w os L (kF D.fm) true) (h3:∀ os,P1 r M w os L (kD D.file D.fn) (true,D.fn.map DefM.val)) (h4:∀ os,P1 r M w os L (kT ts) (vT w ts)) (h5:∀ os,P2 r M w os L (Y9 need) true):RunEq r q (Qy7 need L D ts) (λs=>frC (getT s) L [] λK=>((Yz D K,kT ts K),Y9 need K (getT s))) M loose w:=λos=>Qtt (h0 os) (h1 os) (h2 os) (h3 os) (h4 os) (h5 os)
end
end MW
namespace MW
open PySem PySem.Spec PyProof.Rows L2 Mir
theorem RelKs.len {T:Tab} {r:Nat->Option Addr} {G:Hp} {ws:List (Mir.W×Mir.W)} {fs:List (Key×V)} (h:RelKs T r G ws fs):ws.length=fs.length:=by
 induction h with
 | nil=>rfl
 | cons _ _ _ ih=>rw [List.length_cons,List.length_cons,ih]
end MW
namespace G
open PySem PySem.Spec PyProof.Rows L2 Mir MW
def top (i:Nat):Stmt:=PySem.Challenge.pw_forkpolls_k05_books_made.main.body.getD i (.Pass ⟨0,0,0,0⟩)
def cnl:List Str:=(["Row", "Step", "Join", "Part", "Book"]:List String).map Str.ofString
def anl:List Str:=(["word", "at", "name", "row_text", "row_names", "kind", "old", "then", "add", "here", "there", "left", "right", "more", "marks", "counted", "keeps", "rows", "blank", "book_text"]:List String).map Str.ofString
def sup:Nat->List Nat
 | 0=>[0]
 | 1=>[1,0]
 | 2=>[2,0]
 | 3=>[3,0]
 | 4=>[4]
 | _=>[]
def Ke:Mir.W:=.str [97,98,99,100,101,102,103,104,105,106,107,108,109,110,111,112,113,114,115,116,117,118,119,120,121,122]
def Xc:Mir.W:=.str [48,49,50,51,52,53,54,55,56,57]
def JK:Mir.W:=.int (4)
def Kr:Mir.W:=.int (3)
def KN:Mir.W:=.tup [.str [97,110,121],.str [98,121],.str [111,110,101],.str [115,97,109,101],.str [116,111]]
def Yj:Mir.W:=.tup [.str [121,101,115],.str [110,111],.str [108,97,116,101,32,121,101,115],.str [108,97,116,101,32,110,111],.str [119,111,114,100],.str [115,116,114,105,107,101],.str [98,97,99,107],.str [99,117,116]]
def Kf:Mir.W:=.tup [.str [98,97,99,107],.str [99,117,116],.str [106,111,105,110],.str [112,97,114,116],.str [119,111,114,100]]
def KH:Mir.W:=.int (3)
def g_HEADS:Mir.W:=.tup [.str [109,97,114,107,115],.str [99,111,117,110,116,101,100],.str [107,101,101,112,115]]
abbrev Qd7:Stmt:=(top 45)
abbrev Qhs:Stmt:=(top 46)
abbrev Qgl:Stmt:=(top 48)
abbrev Qgk:Stmt:=(top 49)
abbrev Qgn:Stmt:=(top 51)
abbrev Qbk:Stmt:=(top 53)
abbrev Qgm:Stmt:=(top 50)
abbrev Qhr:Stmt:=(top 47)
abbrev Qht:Stmt:=(top 54)
abbrev Qey:Stmt:=(top 52)
abbrev Qc1:Stmt:=(top 55)
abbrev Qex:Stmt:=(top 48)
abbrev Qfp:Stmt:=(top 18)
abbrev Qgj:Stmt:=(top 26)
abbrev Qg7:Stmt:=(top 19)
abbrev Qlq:Stmt:=(top 24)
abbrev Qlr:Stmt:=(top 25)
abbrev Qfq:Stmt:=(top 16)
abbrev Qls:Stmt:=(top 20)
abbrev Qfr:Stmt:=(inClass (top 28) 0)
abbrev Qgo:Stmt:=(inClass (top 29) 0)
abbrev Qgq:Stmt:=(inClass (top 30) 0)
abbrev Qgp:Stmt:=(inClass (top 31) 0)
abbrev Qfo:Stmt:=(top 58)
abbrev Qez:Stmt:=(top 17)
abbrev Qdy:Stmt:=(top 22)
abbrev Qeq:Stmt:=(top 37)
abbrev Qfm:Stmt:=(top 38)
abbrev Qbq:Stmt:=(inClass (top 43) 0)
abbrev Qd6:Stmt:=(top 59)
abbrev Qlt:Stmt:=(inClass (top 28) 3)
abbrev Qj1:Stmt:=(inClass (top 43) 18)
abbrev Qhv:Stmt:=(inClass (top 43) 15)
abbrev Qj0:Stmt:=(inClass (top 28) 4)
abbrev Qhu:Stmt:=(inClass (top 43) 19)
abbrev Qc6:Stmt:=(top 56)
abbrev Qfn:Stmt:=(top 57)
abbrev Qdt:Stmt:=(inClass (top 43) 3)
abbrev Qd8:Stmt:=(inClass (top 43) 16)
abbrev Qlp:Stmt:=(top 60)
def fm:List Fm:=[.fa (.free "IndexError"),
 .fa (.free "KeyError"),
 .fa (.free "ValueError"),
 .fa (.free "abs"),
 .fa (.free "all"),
 .fa (.free "any"),
 .fa (.free "bool"),
 .fa (.free "dict"),
 .fa (.free "enumerate"),
 .fa (.free "int"),
 .fa (.free "isinstance"),
 .fa (.free "len"),
 .fa (.free "list"),
 .fa (.free "max"),
 .fa (.free "min"),
 .fa (.free "range"),
 .fa (.free "repr"),
 .fa (.free "set"),
 .fa (.free "sorted"),
 .fa (.free "str"),
 .fa (.free "sum"),
 .fa (.free "super"),
 .fa (.free "tuple"),
 .fa (.free "zip"),
 .glob "LETTERS" Ke,
 .glob "DIGITS" Xc,
 .glob "MOST_LETTERS" JK,
 .glob "MOST_ADD" Kr,
 .glob "BARRED" KN,
 .glob "KINDS" Yj,
 .glob "EDITS" Kf,
 .glob "LEAST_LINES" KH,
 .glob "HEADS" g_HEADS,
 .fa (.glo "law"),
 .fa (.glo "_law_draw"),
 .fa (.glo "_law_mixed"),
 .fa (.glo "_law_kinds"),
 .fa (.glo "_law_pick"),
 .fa (.glo "_law_names"),
 .fa (.glo "_law_edits"),
 .fa (.glo "_law_good_rows"),
 .fa (.glo "_law_bent"),
 .fa (.glo "_law_any_row"),
 .fa (.glo "is_name"),
 .fa (.glo "is_word_of"),
 .fa (.glo "is_integer"),
 .fa (.glo "need_rows"),
 .fa (.glo "is_old"),
 .fa (.glo "is_new"),
 .fa (.glo "is_add"),
 .sup "Step" "Row" "__init__",
 .sup "Join" "Row" "__init__",
 .sup "Part" "Row" "__init__",
 .fa (.mkr "Step"),
 .fa (.mkr "Join"),
 .fa (.mkr "Part"),
 .fa (.glo "is_sequence"),
 .fa (.glo "are_unlike"),
 .fa (.glo "are_names"),
 .fa (.glo "need_books"),
 .fa (.glo "_law_row_text"),
 .fa (.meth "Book" "need_row"),
 .fa (.glo "_law_deal"),
 .fa (.glo "_law_book"),
 .fa (.glo "_law_row_of"),
 .fa (.mkr "Book"),
 .fa (.glo "_law_told"),
 .inh "Book" "__eq__" "Book",
 .ne "Book",
 .inh "Part" "__eq__" "Row",
 .ne "Part",
 .inh "Join" "__eq__" "Row",
 .ne "Join",
 .inh "Step" "__eq__" "Row",
 .ne "Step",
 .inh "Row" "__eq__" "Row",
 .ne "Row",
 .inh "Book" "__len__" "Book",
 .inh "Book" "__str__" "Book",
 .inh "Part" "__str__" "Row",
 .inh "Join" "__str__" "Row",
 .inh "Step" "__str__" "Row",
 .inh "Row" "__str__" "Row",
 .fa (.glo "_law_text"),
 .gi "Book" "Book"]
def fn:List DefM:=[⟨("_law_deal",none), "_law_deal", "_law_deal",Qd7,false,false⟩,
 ⟨("_law_draw",none), "_law_draw", "_law_draw",Qhs,false,false⟩,
 ⟨("_law_mixed",none), "_law_mixed", "_law_mixed",Qgl,false,false⟩,
 ⟨("_law_names",none), "_law_names", "_law_names",Qgk,false,false⟩,
 ⟨("_law_edits",none), "_law_edits", "_law_edits",Qgn,false,false⟩,
 ⟨("_law_good_rows",none), "_law_good_rows", "_law_good_rows",Qbk,false,false⟩,
 ⟨("_law_kinds",none), "_law_kinds", "_law_kinds",Qgm,false,false⟩,
 ⟨("_law_pick",none), "_law_pick", "_law_pick",Qhr,false,false⟩,
 ⟨("_law_bent",none), "_law_bent", "_law_bent",Qht,false,false⟩,
 ⟨("_law_any_row",none), "_law_any_row", "_law_any_row",Qey,false,false⟩,
 ⟨("_law_book",none), "_law_book", "_law_book",Qc1,false,false⟩,
 ⟨("_law_mixed",none), "_law_mixed", "_law_mixed",Qex,false,false⟩,
 ⟨("is_word_of",none), "is_word_of", "is_word_of",Qfp,false,false⟩,
 ⟨("need_rows",none), "need", "need",Qgj,false,false⟩,
 ⟨("is_name",none), "is_name", "is_name",Qg7,false,false⟩,
 ⟨("is_old",none), "is_old", "is_old",Qlq,false,false⟩,
 ⟨("is_new",none), "is_new", "is_new",Qlr,false,false⟩,
 ⟨("is_integer",none), "is_integer", "is_integer",Qfq,false,false⟩,
 ⟨("is_add",none), "is_add", "is_add",Qls,false,false⟩,
 ⟨("Row",some "__init__"), "__init__", "Row.__init__",Qfr,false,false⟩,
 ⟨("Step",some "__init__"), "__init__", "Step.__init__",Qgo,true,false⟩,
 ⟨("Join",some "__init__"), "__init__", "Join.__init__",Qgq,true,false⟩,
 ⟨("Part",some "__init__"), "__init__", "Part.__init__",Qgp,true,false⟩,
 ⟨("_law_row_of",none), "_law_row_of", "_law_row_of",Qfo,false,false⟩,
 ⟨("is_sequence",none), "is_sequence", "is_sequence",Qez,false,false⟩,
 ⟨("are_unlike",none), "are_unlike", "are_unlike",Qdy,false,false⟩,
 ⟨("are_names",none), "are_names", "are_names",Qeq,false,false⟩,
 ⟨("need_books",none), "need", "need",Qfm,false,false⟩,
 ⟨("Book",some "__init__"), "__init__", "Book.__init__",Qbq,false,false⟩,
 ⟨("_law_told",none), "_law_told", "_law_told",Qd6,false,false⟩,
 ⟨("Row",some "__eq__"), "__eq__", "Row.__eq__",Qlt,false,false⟩,
 ⟨("Book",some "__eq__"), "__eq__", "Book.__eq__",Qj1,false,false⟩,
 ⟨("Book",some "__len__"), "__len__", "Book.__len__",Qhv,false,false⟩,
 ⟨("Row",some "__str__"), "__str__", "Row.__str__",Qj0,false,false⟩,
 ⟨("Book",some "__str__"), "__str__", "Book.__str__",Qhu,false,false⟩,
 ⟨("_law_row_text",none), "_law_row_text", "_law_row_text",Qc6,false,false⟩,
 ⟨("_law_text",none), "_law_text", "_law_text",Qfn,false,false⟩,
 ⟨("Book",some "need_row"), "need_row", "Book.need_row",Qdt,false,false⟩,
 ⟨("Book",some "__getitem__"), "__getitem__", "Book.__getitem__",Qd8,false,false⟩,
 ⟨("law",none), "law", "law",Qlp,false,false⟩]
def hd:Head:=⟨cnl,anl,sup,PySem.Challenge.pw_forkpolls_k05_books_made.main.file,fm,fn⟩
def tbs:List TbM:=[]
def nms:List Str:=(["_wall", "PollError", "InvalidRow", "InvalidBook", "InvalidText", "NoRow", "NoMark", "LETTERS", "DIGITS", "MOST_LETTERS", "MOST_ADD", "BARRED", "KINDS", "EDITS", "is_integer", "is_sequence", "is_word_of", "is_name", "is_add", "add_in", "are_unlike", "is_old", "is_new", "need", "need_rows", "Row", "Step", "Join", "Part", "row_of", "row_in", "LEAST_LINES", "HEADS", "are_names", "need_books", "fits", "words_behind", "head_in", "Book", "_law_deal", "_law_draw", "_law_pick", "_law_mixed", "_law_names", "_law_kinds", "_law_edits", "_law_any_row", "_law_good_rows", "_law_bent", "_law_book", "_law_row_text", "_law_text", "_law_row_of", "_law_told"]:List String).map Str.ofString
abbrev R:PySem.W.OpenRow:=PySem.W.OpenLaw.row PySem.Challenge.rw_forkpolls_k05_books_made
def ads0:List Addr:=[3,2,6,4,21,31,53,74,95,116,138,142,143,144,151,158,165,170,177,184,189,196,203,350,210,256,279,300,321,330,337,338,343,357,364,369,520,529,536,543,550,557,564,571,578,583,590,595,600,605,612,617,622,0,20,30,52,73,94,115,137,150,157,164,169,176,183,188,195,202,349,209,255,278,299,320,329,336,342,356,363,368,519,528,535,542,549,556,563,570,577,582,589,594,599,604,611,616,621,15]
def ads1:List Addr:=[16,17,18,19,29,32,50,51,71,72,92,93,113,114,117,135,136,139,145,146,147,148,149,152,153,154,155,156,159,160,161,162,163,166,167,168,171,172,173,174,175,178,179,180,181,182,185,186,187,190,191,192,193,194,197,198,199,200,201,344,345,346,347,348,204,205,206,207,208,222,231,239,246,253,254,257,258,276,277,297,298,318,319,324,325,326,327,328,331,332,333,334,335,339,340,341,351,352,353,354]
def ads2:List Addr:=[355,358,359,360,361,362,365,366,367,381,390,398,405,412,419,426,433,440,447,454,461,468,475,482,489,496,503,510,517,518,521,522,525,526,527,530,531,532,533,534,537,538,539,540,541,544,545,546,547,548,551,552,553,554,555,558,559,560,561,562,565,566,567,568,569,572,573,574,575,576,579,580,581,584,585,586,587,588,591,592,593,596,597,598,601,602,603,606,607,608,609,610,613,614,615,618,619,620,49,38]
def ads3:List Addr:=[70,59,91,80,112,101,134,123,221,229,230,238,245,252,275,264,296,285,317,306,380,388,389,397,404,411,418,425,432,439,446,453,460,467,474,481,488,495,502,509,516,44,45,46,47,48,65,66,67,68,69,86,87,88,89,90,107,108,109,110,111,129,130,131,132,133,218,219,220,228,232,233,234,235,236,237,240,241,242,243,244,247,248,249,250,251,270,271,272,273,274,291,292,293,294,295,312,313,314,315]
def ads4:List Addr:=[316,377,378,379,387,391,392,393,394,395,396,399,400,401,402,403,406,407,408,409,410,413,414,415,416,417,420,421,422,423,424,427,428,429,430,431,434,435,436,437,438,441,442,443,444,445,448,449,450,451,452,455,456,457,458,459,462,463,464,465,466,469,470,471,472,473,476,477,478,479,480,483,484,485,486,487,490,491,492,493,494,497,498,499,500,501,504,505,506,507,508,511,512,513,514,515,223,224,225,226]
def ads5:List Addr:=[227,382,383,384,385,386]
def ads:List Addr:=ads0++ads1++ads2++ads3++ads4++ads5
abbrev hk:PySem.W.Hook:=Qy7 false ads hd tbs
theorem rn0 (w:World) (os:OsState):P0 R (PySem.W.view R.prog [60]) 12000 nms w os:=by
 unfold P0
 kernel_rfl
theorem rn1 (w:World) (os:OsState):P1 R 12000 w os ads (kS hd) true:=by
 unfold P1
 kernel_rfl
theorem rn2 (w:World) (os:OsState):P1 R 12000 w os ads (kF hd.fm) true:=by
 unfold P1
 kernel_rfl
theorem rn3 (w:World) (os:OsState):P1 R 12000 w os ads (kD hd.file hd.fn) (true,(hd.fn).map DefM.val):=by
 unfold P1
 kernel_rfl
theorem rn4 (w:World) (os:OsState):P1 R 12000 w os ads (kT tbs) (vT w tbs):=by
 unfold P1
 kernel_rfl
theorem rn5 (w:World) (os:OsState):P2 R 12000 w os ads (Y9 false) true:=by
 unfold P2
 kernel_rfl
theorem run (w:World):HandSHeadRun.RunEq R (PySem.W.view R.prog [60]) hk (λs=>frC (HandSHeadRun.getT s) ads [] λK=>((Yz hd K,kT tbs K),Y9 false K (HandSHeadRun.getT s))) 12000 nms w:=Qyf (rn0 w) (rn1 w) (rn2 w) (rn3 w) (rn4 w) (rn5 w)
end G
namespace Mir
def YQ:List (Nat×SO)->Nat->SO->List (Nat×SO)
 | [],_,_=>[]
 | (m,o)::r,n,u=>if Nat.beq m n then (m,u)::r else (m,o)::YQ r n u
def Store.put (S:Store) (n:Nat) (o:SO):Store:=⟨S.next,YQ S.objs n o⟩
def ixN (n:Nat) (i:Int):Option Nat:=if 0<=i then (if i<n then some i.toNat else none) else if -(n:Int)<=i then some (i+n).toNat else none
def atI {α:Type} (xs:List α) (i:Int):Option α:=(ixN xs.length i).bind λj=>xs[j]?
def flat:W->Bool
 | .non=>true
 | .bl _=>true
 | .int _=>true
 | .str _=>true
 | _=>false
def YS (x:W):List W->Option Bool
 | []=>some false
 | y::r=>match Yx y x with
  | some true=>some true
  | some false=>YS x r
  | none=>none
def memN (c:Nat):List Nat->Bool
 | []=>false
 | x::r=>if Nat.beq x c then true else memN c r
def Ja (i:Nat):ME:=λd S=>match Jm d i with
 | some w=>.ok w S
 | none=>.bad
def eC (w:W):ME:=λ_ S=>.ok w S
def JS (f:W->Store->Out W) (a:ME):ME:=λd S=>(a d S).bind λx S1=>f x S1
def Jc (f:W->W->Store->Out W) (a b:ME):ME:=λd S=>(a d S).bind λx S1=>(b d S1).bind λy S2=>f x y S2
def Jb:MA:=λ_ S=>.ok [] S
def Jd (a:ME) (r:MA):MA:=λd S=>(a d S).bind λx S1=>(r d S1).bind λxs S2=>.ok (x::xs) S2
def Qg6 (a:ME) (r:MA):MA:=λd S=>(a d S).bind λx S1=>match KJ S1 x with
 | some ys=>(r d S1).bind λxs S2=>.ok (ys++xs) S2
 | none=>.bad
def Jg (f:MF) (a:MA):ME:=λd S=>(a d S).bind λxs S1=>f xs S1
def Jt (a:MA):ME:=λd S=>(a d S).bind λxs S1=>if Nat.ble xs.length Jy then .ok (.tup xs) S1 else .bad
def Ju (a:MA):ME:=λd S=>(a d S).bind λxs S1=>if Nat.ble xs.length Jy then .ok (.lst xs) S1 else .bad
def Qfc (a:MA):ME:=λd S=>(a d S).bind λxs S1=>if Nat.ble xs.length Jy then .ok (.ref S1.next) (S1.new (.lst xs)) else .bad
def tB (a:ME):MT:=λd S=>(a d S).bind λx S1=>match x with
 | .bl b=>.ok b S1
 | _=>.bad
def tAnd (a b:MT):MT:=λd S=>(a d S).bind λx S1=>if x then b d S1 else .ok false S1
def tOr (a b:MT):MT:=λd S=>(a d S).bind λx S1=>if x then .ok true S1 else b d S1
def tNot (a:MT):MT:=λd S=>(a d S).bind λx S1=>.ok (!x) S1
def Ka (a b:ME):ME:=λd S=>(a d S).bind λx S1=>match x with
 | .bl true=>b d S1
 | .bl false=>.ok (.bl false) S1
 | _=>.bad
def eOr (a b:ME):ME:=λd S=>(a d S).bind λx S1=>match x with
 | .bl true=>.ok (.bl true) S1
 | .bl false=>b d S1
 | _=>.bad
def eNot (a:ME):ME:=λd S=>(a d S).bind λx S1=>match x with
 | .bl b=>.ok (.bl (!b)) S1
 | _=>.bad
def eIf (t:MT) (a b:ME):ME:=λd S=>(t d S).bind λx S1=>if x then a d S1 else b d S1
def Qhj (f g:W->W->Store->Out W) (a b c:ME):ME:=λd S=>(a d S).bind λx S1=>(b d S1).bind λy S2=>(f x y S2).bind λz S3=>match z with
 | .bl true=>(c d S3).bind λu S4=>g y u S4
 | .bl false=>.ok (.bl false) S3
 | _=>.bad
def Qcx (ms:List (Nat×W)) (k:Nat) (w:W):List (Nat×W):=match ms with
 | []=>[(k,w)]
 | (m,u)::r=>if Nat.beq m k then (m,w)::r else (m,u)::Qcx r k w
def i2 (f:Int->Int->W):W->W->Store->Out W:=λx y S=>match x,y with
 | .int i,.int j=>.ok (f i j) S
 | _,_=>.bad
def JL:W->W->Store->Out W:=λx y S=>match x with
 | .int i=>match y with
  | .int j=>.ok (.int (i+j)) S
  | _=>.bad
 | .str a=>match y with
  | .str b=>if Nat.ble (a.length+b.length) Jy then .ok (.str (a++b)) S else .bad
  | _=>.bad
 | .tup a=>match y with
  | .tup b=>if Nat.ble (a.length+b.length) Jy then .ok (.tup (a++b)) S else .bad
  | _=>.bad
 | _=>match rd S x with
  | .lst a=>match rd S y with
   | .lst b=>if Nat.ble (a.length+b.length) Jy then .ok (.lst (a++b)) S else .bad
   | _=>.bad
  | _=>.bad
def Qhx:W->W->Store->Out W:=i2 λi j=>.int (i-j)
def Qlu (i:Int):Bool:=decide (-18446744073709551616<i)&&decide (i<18446744073709551616)
def Qgw:W->W->Store->Out W:=λx y S=>match x,y with
 | .int i,.int j=>if Qlu i || Qlu j then .ok (.int (i*j)) S else .bad
 | _,_=>.bad
def Qme:W->W->Store->Out W:=λx y S=>match x,y with
 | .int i,.int j=>if decide (0<j)&&decide (j<1073741824) then .ok (.int (i / j)) S else .bad
 | _,_=>.bad
def Qe0:W->W->Store->Out W:=λx y S=>match x,y with
 | .int i,.int j=>if decide (0<j) then .ok (.int (i % j)) S else .bad
 | _,_=>.bad
def Qt6:W->W->Store->Out W:=λx y S=>match x,y with
 | .int i,.int j=>if decide (0<=j)&&(decide (j<=1000)&&decide (i.natAbs<18446744073709551616)) then .ok (.int (i ^ j.toNat)) S else .bad
 | _,_=>.bad
def Qil:W->Store->Out W:=λx S=>match x with
 | .int i=>.ok (.int (-i)) S
 | _=>.bad
def bW (o:Option Bool) (S:Store):Out W:=match o with
 | some b=>.ok (.bl b) S
 | none=>.bad
def eqD (x y:W):Option Bool:=if Kz 30 x&&Kz 30 y then Yx x y else none
def Km:W->W->Store->Out W:=λx y S=>bW (eqD (rd S x) (rd S y)) S
def Ku:W->W->Store->Out W:=λx y S=>bW ((eqD (rd S x) (rd S y)).map (! ·)) S
def ltL:List Nat->List Nat->Bool
 | _,[]=>false
 | [],_::_=>true
 | a::r,b::s=>if Nat.blt a b then true else if Nat.beq a b then ltL r s else false
def opLt:W->W->Store->Out W:=λx y S=>match x,y with
 | .int i,.int j=>.ok (.bl (decide (i<j))) S
 | .str a,.str b=>.ok (.bl (ltL a b)) S
 | _,_=>.bad
def Xb:W->W->Store->Out W:=λx y S=>match x,y with
 | .int i,.int j=>.ok (.bl (decide (i<=j))) S
 | .str a,.str b=>.ok (.bl (!ltL b a)) S
 | _,_=>.bad
def opGt:W->W->Store->Out W:=λx y S=>opLt y x S
def opGe:W->W->Store->Out W:=λx y S=>Xb y x S
def isIn (x y:W) (S:Store):Option Bool:=match y with
 | .str z=>match x with
  | .str [c]=>some (memN c z)
  | _=>none
 | .tup ys=>if flat x&&ys.all flat then YS x ys else none
 | _=>match rd S y with
  | .lst ys=>if Kz 30 (rd S x)&&J5 29 ys then YS (rd S x) ys else none
  | _=>none
def J8:W->W->Store->Out W:=λx y S=>bW (isIn x y S) S
def Qfs:W->W->Store->Out W:=λx y S=>bW ((isIn x y S).map (! ·)) S
def Qy4:W->Bool
 | .non=>true
 | _=>false
def Jk:W->W->Store->Out W:=λx y S=>match y with
 | .int i=>match x with
  | .str z=>Kw ((atI z i).map λc=>.str [c]) S
  | _=>match KJ S x with
   | some xs=>Kw (atI xs i) S
   | none=>.bad
 | _=>.bad
abbrev MO:=Jo->Store->Out (Option Int)
def YJ:MO:=λ_ S=>.ok none S
def K9 (a:ME):MO:=λd S=>(a d S).bind λx S1=>match x with
 | .int i=>.ok (some i) S1
 | _=>.bad
def Yk (f:W->Option Int->Option Int->Store->Out W) (a:ME) (lo hi:MO):ME:=λd S=>(a d S).bind λx S1=>(lo d S1).bind λl S2=>(hi d S2).bind λh S3=>f x l h S3
def Qt5:W->Store->Out W:=λx S=>match rd S x with
  | .lst xs=>.ok (.ref S.next) (S.new (.lst xs.reverse))
  | _=>.bad
def digs:Nat->Nat->List Nat->List Nat
 | 0,_,acc=>acc
 | f+1,n,acc=>if Nat.blt n 10 then (48+n)::acc else digs f (n / 10) ((48+n % 10)::acc)
def Yh (i:Int):List Nat:=match i with
 | .ofNat n=>digs 700 n []
 | .negSucc n=>45::digs 700 (n+1) []
def joinL (S:List Nat):List (List Nat)->List Nat
 | []=>[]
 | [p]=>p
 | p::q::r=>p++(S++joinL S (q::r))
def Qf5:List W->Option (List (List Nat))
 | []=>some []
 | .str z::r=>(Qf5 r).map (z::·)
 | _::_=>none
def Qdr:W->W->Store->Out W:=λx y S=>match x with
 | .str z=>match KJ S y with
  | some ys=>match Qf5 ys with
   | some ss=>if Nat.ble ((joinL z ss).length) Jy then .ok (.str (joinL z ss)) S else .bad
   | none=>.bad
  | none=>.bad
 | _=>.bad
def fmt (x:W):Option (List Nat):=match x with
 | .str z=>some z
 | .int i=>if decide (i.natAbs<1000000000000) then some (Yh i) else none
 | _=>none
def JD (a:ME):ME:=λd S=>(a d S).bind λx S1=>Kw ((fmt x).map .str) S1
def Qca:List ME->List Nat->ME
 | [],acc=>λ_ S=>.ok (.str acc) S
 | a::r,acc=>λd S=>(a d S).bind λx S1=>match x with
  | .str z=>if Nat.ble (acc.length+z.length) Jy then Qca r (acc++z) d S1 else .bad
  | _=>.bad
def fLen:MF:=λxs S=>match xs with
 | [.str z]=>.ok (.int z.length) S
 | [x]=>match KJ S x with
  | some ys=>.ok (.int ys.length) S
  | none=>.bad
 | _=>.bad
def Qb0:List W->Option Bool
 | []=>some true
 | .bl true::r=>Qb0 r
 | .bl false::r=>(Qb0 r).map λ_=>false
 | _::_=>none
def K6:MF:=λxs S=>match xs with
 | [x]=>match rd S x with
  | .lst ys=>bW (Qb0 ys) S
  | _=>.bad
 | _=>.bad
def fTuple:MF:=λxs S=>match xs with
 | [x]=>match KJ S x with
  | some ys=>.ok (.tup ys) S
  | none=>.bad
 | _=>.bad
def Qn8:MF:=λxs S=>match xs with
 | [x]=>match KJ S x with
  | some ys=>.ok (.lst ys) S
  | none=>.bad
 | _=>.bad
def Qf9:MF:=λxs S=>match xs with
 | [x]=>match KJ S x with
  | some ys=>.ok (.ref S.next) (S.new (.lst ys))
  | none=>.bad
 | _=>.bad
def fAbs:MF:=λxs S=>match xs with
 | [.int i]=>.ok (.int (if i<0 then -i else i)) S
 | _=>.bad
def dval:List Nat->Nat->Option Nat
 | [],a=>some a
 | c::r,a=>if Nat.ble 48 c&&Nat.ble c 57 then dval r (a*10+(c-48)) else none
def Qjz (z:List Nat):Option Int:=match z with
 | []=>none
 | 45::r=>match r with
  | []=>none
  | _::_=>(dval r 0).map λn=> -(n:Int)
 | _::_=>(dval z 0).map λn=>(n:Int)
def KZ:MF:=λxs S=>match xs with
 | [.int i]=>.ok (.int i) S
 | [.bl b]=>.ok (.int (b2i b)) S
 | [.str z]=>if Nat.ble z.length 100 then Kw ((Qjz z).map .int) S else .bad
 | _=>.bad
def fStr:MF:=λxs S=>match xs with
 | [x]=>Kw ((fmt x).map .str) S
 | _=>.bad
def Qz5:Ty->Bool
 | .int=>true
 | .bool=>true
 | _=>false
def tyInt:Ty->Bool
 | .int=>true
 | _=>false
def Qxs:Ty->Bool
 | .str=>true
 | _=>false
def tyTup:Ty->Bool
 | .tuple=>true
 | _=>false
def Qon:Ty->Bool
 | .list=>true
 | _=>false
def Qom (l:List Nat):Ty->Bool
 | .own k=>l.elem k
 | _=>false
def Ys (sup:Nat->List Nat) (S:Store) (x:W) (t:Ty):Option Bool:=match x with
 | .non=>some false
 | .bl _=>some (Qz5 t)
 | .int _=>some (tyInt t)
 | .str _=>some (Qxs t)
 | .tup _=>some (tyTup t)
 | .lst _=>some (Qon t)
 | .obj c _=>some (Qom (sup c) t)
 | .ref n=>match S.get n with
  | some (.lst _)=>some (Qon t)
  | some (.ins c _)=>some (Qom (sup c) t)
  | _=>none
 | _=>none
def Qh5 (sup:Nat->List Nat) (S:Store) (x:W):List Ty->Option Bool
 | []=>some false
 | t::r=>match Ys sup S x t with
  | some true=>some true
  | some false=>Qh5 sup S x r
  | none=>none
def KD (sup:Nat->List Nat) (ts:List Ty) (a:ME):ME:=λd S=>(a d S).bind λx S1=>bW (Qh5 sup S1 x ts) S1
def Ym (S:Store) (w:W):Option (List W×Gd):=match w with
 | .tup xs=>some (xs,[])
 | .lst xs=>some (xs,[])
 | .lsr xs=>some (xs,[])
 | .str z=>some (z.map λc=>.str [c],[])
 | .ref n=>match S.get n with
  | some (.lst xs)=>some (xs,[.l n xs])
  | _=>none
 | _=>none
def Ji (a:ME):MI:=λd S=>(a d S).bind λx S1=>Kw (Ym S1 x) S1
def Qea (lo:Int):Nat->List W
 | 0=>[]
 | n+1=>.int lo::Qea (lo+1) n
def Qj6 (i:Int):Bool:=decide (-1000000<i)&&decide (i<1000000)
def Qcs (hi:ME):MI:=λd S=>(hi d S).bind λy S2=>match y with
 | .int j=>if Qj6 j then .ok (Qea 0 j.toNat,[]) S2 else .bad
 | _=>.bad
def JV (d:Jo):List Nat->Jo
 | []=>d
 | i::r=>Jz (JV d r) i none
def Kh (g:Gd) (tg:Tg) (c:MT) (e:ME) (d:Jo):List W->Store->Out (List W)
 | [],S=>if Ky S g then .ok [] S else .bad
 | x::r,S=>if Ky S g then match JG tg x d with
  | none=>.bad
  | some d1=>(c d1 S).bind λb S1=>if b then (e d1 S1).bind λy S2=>(Kh g tg c e d r S2).bind λys S3=>.ok (y::ys) S3 else Kh g tg c e d r S1
  else .bad
def tYes:MT:=λ_ S=>.ok true S
def lcL (own:List Nat) (it:MI) (tg:Tg) (c:MT) (e:ME) (d:Jo) (S:Store):Out (List W):=(it d S).bind λp S1=>if Nat.ble p.1.length Jy then Kh p.2 tg c e (JV d own) p.1 S1 else .bad
def JZ (own:List Nat) (it:MI) (tg:Tg) (c:MT) (e:ME):ME:=λd S=>(lcL own it tg c e d S).bind λys S1=>.ok (.lst ys) S1
def eLcM (own:List Nat) (it:MI) (tg:Tg) (c:MT) (e:ME):ME:=λd S=>(lcL own it tg c e d S).bind λys S1=>.ok (.ref S1.next) (S1.new (.lst ys))
def isL (x:W) (S:Store):Bool:=match x with
 | .lst _=>true
 | .ref n=>match S.get n with
  | some (.lst _)=>true
  | _=>false
 | _=>false
def isS (x:W):Bool:=match x with
 | .str _=>true
 | _=>false
def JT (f:W->List W->Store->Out W) (o:ME) (a:MA):ME:=λd S=>(o d S).bind λx S1=>if isL x S1 then (a d S1).bind λxs S2=>f x xs S2 else .bad
def K7 (f:W->List W->Store->Out W) (o:ME) (a:MA):ME:=λd S=>(o d S).bind λx S1=>if isS x then (a d S1).bind λxs S2=>f x xs S2 else .bad
def m0 (f:W->Store->Out W):W->List W->Store->Out W:=λo xs S=>match xs with
 | []=>f o S
 | _=>.bad
def m1 (f:W->W->Store->Out W):W->List W->Store->Out W:=λo xs S=>match xs with
 | [v]=>f o v S
 | _=>.bad
def YK:MS:=λd S=>.ok (.nx d) S
def Jh (a b:MS):MS:=λd S=>(a d S).bind λf S1=>match f with
 | .nx d1=>b d1 S1
 | f=>.ok f S1
def Jx (tg:Tg) (a:ME):MS:=λd S=>(a d S).bind λx S1=>match JG tg x d with
 | some d1=>.ok (.nx d1) S1
 | none=>.bad
def JX (a:ME):MS:=λd S=>(a d S).bind λ_ S1=>.ok (.nx d) S1
def Jv (a:ME):MS:=λd S=>(a d S).bind λx S1=>.ok (.rt x) S1
def Yl (t:MT) (a b:MS):MS:=λd S=>(t d S).bind λx S1=>if x then a d S1 else b d S1
def YW (g:Gd) (tg:Tg) (b:MS):List W->MS
 | [],d,S=>if Ky S g then .ok (.nx d) S else .bad
 | x::r,d,S=>if Ky S g then match JG tg x d with
  | none=>.bad
  | some d1=>(b d1 S).bind λf S1=>match f with
   | .nx d2=>YW g tg b r d2 S1
   | .ct d2=>YW g tg b r d2 S1
   | .br d2=>.ok (.nx d2) S1
   | .rt w=>.ok (.rt w) S1
  else .bad
def KY (it:MI) (tg:Tg) (b:MS):MS:=λd S=>(it d S).bind λp S1=>YW p.2 tg b p.1 d S1
def Qc3 (t:MT) (b:MS):Nat->MS
 | 0,_,_=>.bad
 | n+1,d,S=>(t d S).bind λx S1=>if x then (b d S1).bind λf S2=>match f with
   | .nx d2=>Qc3 t b n d2 S2
   | .ct d2=>Qc3 t b n d2 S2
   | .br d2=>.ok (.nx d2) S2
   | .rt w=>.ok (.rt w) S2
  else .ok (.nx d) S1
def Qid (k:Nat) (o v:W) (S:Store):Option Store:=match o with
 | .ref n=>match S.get n with
  | some (.ins c fs)=>if Nat.blt fs.length 900 then some (S.put n (.ins c (Qcx fs k v))) else none
  | _=>none
 | _=>none
def sFld (k:Nat) (o a:ME):MS:=λd S=>(a d S).bind λv S1=>(o d S1).bind λx S2=>match Qid k x v S2 with
 | some S3=>.ok (.nx d) S3
 | none=>.bad
def Qgs (o i v:W) (S:Store):Option Store:=match o with
 | .ref n=>match S.get n with
  | some (.lst xs)=>match i with
   | .int i=>match ixN xs.length i with
    | some j=>some (S.put n (.lst (xs.set j v)))
    | none=>none
   | _=>none
  | _=>none
 | _=>none
def sIdx (o i a:ME):MS:=λd S=>(a d S).bind λv S1=>(o d S1).bind λx S2=>(i d S2).bind λy S3=>match Qgs x y v S3 with
 | some S4=>.ok (.nx d) S4
 | none=>.bad
def Qbs:W->W->Store->Out W:=λo v S=>match o with
 | .ref n=>match S.get n with
  | some (.lst xs)=>if Nat.blt xs.length Jy then .ok .non (S.put n (.lst (xs++[v]))) else .bad
  | _=>.bad
 | _=>.bad
def Qeg:W->W->Store->Out W:=λo v S=>match o with
 | .ref n=>match S.get n with
  | some (.lst xs)=>match rd S v with
   | .lst ys=>if Nat.ble (xs.length+ys.length) Jy then .ok .non (S.put n (.lst (xs++ys))) else .bad
   | _=>.bad
  | _=>.bad
 | _=>.bad
def mPop:W->Store->Out W:=λo S=>match o with
 | .ref n=>match S.get n with
  | some (.lst xs)=>match xs.getLast? with
   | some y=>.ok y (S.put n (.lst xs.dropLast))
   | none=>.bad
  | _=>.bad
 | _=>.bad
def Qko:W->W->Store->Out W:=λo i S=>match o with
 | .ref n=>match S.get n with
  | some (.lst xs)=>match i with
   | .int i=>match ixN xs.length i with
    | some j=>match xs[j]? with
     | some y=>.ok y (S.put n (.lst (xs.eraseIdx j)))
     | none=>.bad
    | none=>.bad
   | _=>.bad
  | _=>.bad
 | _=>.bad
def frz (S:Store) (w:W):Out W:=match w with
 | .ref n=>match S.get n with
  | some (.lst xs)=>.ok (.lst xs) (S.drop n)
  | some (.ins c fs)=>.ok (.obj c fs) (S.drop n)
  | _=>.ok w S
 | _=>.ok w S
def Y6 (c:Nat) (init:MF):MF:=λxs S=>(init (.ref S.next::xs) (S.new (.ins c []))).bind λy S1=>if Qy4 y then match S1.get S.next with
  | some (.ins k fs)=>.ok (.obj k fs) (S1.drop S.next)
  | _=>.bad
 else .bad
def Qds (tab:List (Nat×MF)) (c:Nat):Option MF:=match tab with
 | []=>none
 | (k,f)::r=>if Nat.beq k c then some f else Qds r c
def Qpx (tab:List (Nat×MF)) (o:ME) (a:MA):ME:=λd S=>(o d S).bind λx S1=>match Qdh S1 x with
 | some c=>match Qds tab c with
  | some f=>(a d S1).bind λxs S2=>f (x::xs) S2
  | none=>.bad
 | none=>.bad
end Mir
namespace MW
open PySem L2 Mir
section
variable {T:Tab} {r r':Nat->Option Addr} {G G':Hp}
theorem RelWs.append {ws us:List Mir.W} {vs xs:List V} (h:RelWs T r G ws vs) (k:RelWs T r G us xs):RelWs T r G (ws++us) (vs++xs):=by
 induction ws generalizing vs with
 | nil=>cases h; exact k
 | cons w ws ih=>cases h with | cons h q=>exact .cons h (ih q)
theorem RelWs.getV {ws:List Mir.W} {vs:List V} (h:RelWs T r G ws vs) {i:Nat} {v:V} (e:vs[i]?=some v):∃ w,ws[i]?=some w/\RelW T r G w v:=by
 induction i generalizing ws vs with
 | zero=>cases h with
  | nil=>cases e
  | cons h q=>cases e; exact ⟨_,rfl,h⟩
 | succ i ih=>cases h with
  | nil=>cases e
  | cons h q=>exact ih q e
theorem RelWs.eraseIdx {ws:List Mir.W} {vs:List V} (h:RelWs T r G ws vs) (i:Nat):RelWs T r G (ws.eraseIdx i) (vs.eraseIdx i):=by
 induction i generalizing ws vs with
 | zero=>cases h with
  | nil=>exact .nil
  | cons h q=>exact q
 | succ i ih=>cases h with
  | nil=>exact .nil
  | cons h q=>exact .cons h (ih q)
theorem RelWs.reverse {ws:List Mir.W} {vs:List V} (h:RelWs T r G ws vs):RelWs T r G ws.reverse vs.reverse:=by
 induction ws generalizing vs with
 | nil=>cases h; exact .nil
 | cons w ws ih=>cases h with
  | cons h q =>
   rw [List.reverse_cons,List.reverse_cons]
   exact (ih q).append (.cons h .nil)
theorem RelWs.dropLast {ws:List Mir.W} {vs:List V} (h:RelWs T r G ws vs):RelWs T r G ws.dropLast vs.dropLast:=by
 rw [List.dropLast_eq_take,List.dropLast_eq_take,h.length]
 exact h.take _
end
theorem TbOk.mv {w w':Wd} {P:Addr} (h:TbOk w P) (hH:w'.H P=w.H P) (hG:∀ c u,w.G c=some u->w'.G c=some u) (hP:w'.G P=none) (hA:∀ n,At w' n P->At w n P):TbOk w' P:=by
 obtain ⟨ps,h1,h2,h3⟩:=h.at_
 refine ⟨⟨ps,hH.trans h1,h2,λpos cv e=>?_⟩,hP,λn a=>h.no n (hA n a)⟩
 obtain ⟨c,e1,e2⟩:=h3 pos cv e
 exact ⟨c,e1,hG _ _ e2⟩
theorem TbOk.ne0 {w:Wd} {P p:Addr} (h:TbOk w P) (np:w.H p=none):P≠p:=h.ne λps z=>by rw [np] at z; cases z
section
variable {α β:Type} {T:Tab} {w w1:Wd} {E:XK} {r:Out α} {Q Q':α->Wd->Prop}
theorem Jl.imp (h:Jl T w r Q E) (k:∀ x w',Ok T w'->Ext w w'->Q x w'->Q' x w'):Jl T w r Q' E:=by
 cases r with
 | ok x S'=>exact λw' o x' hs=>k x w' o x' (h w' o x' hs)
 | err c fs S'=>exact h
 | bad=>exact h
end
abbrev QT (Q:Bool->Hp->Prop):Bool->Wd->Prop:=λx w=>Q x w.H
abbrev QA (T:Tab) (Q:List V->Hp->Prop):List Mir.W->Wd->Prop:=λx w=>∀ vs,RelWs T w.r w.G x vs->Q vs w.H
section
variable {T:Tab} {r r':Nat->Option Addr} {G G':Hp}
theorem RelEnv.start {ws:List Mir.W} {vs:List V} (h:RelWs T r G ws vs) (n:Nat):RelEnv T r G (ws.map Option.some++List.replicate (n-ws.length) Option.none) (vs.map Option.some++List.replicate (n-vs.length) Option.none):=by
 rw [h.length]
 generalize n-vs.length=m
 induction ws generalizing vs with
 | nil =>
  cases h
  show RelEnv T r G (List.replicate m Option.none) (List.replicate m Option.none)
  induction m with
  | zero=>exact .nil
  | succ m ih=>exact .none ih
 | cons w ws ih=>cases h with
  | cons h q=>exact .some h (ih q)
end
def lT (T:Tab) (m:MT) (E:XK):TT:=fun σ H Q=>∃ w d,w.H=H/\Ok T w/\w.env T d σ/\Jl T w (m d w.S) (QT Q) E
def lA (T:Tab) (m:MA) (E:XK):TA:=fun σ H Q=>∃ w d,w.H=H/\Ok T w/\w.env T d σ/\Jl T w (m d w.S) (QA T Q) E
abbrev WT (X:Cx) (nm:Nm) (E:XK) (e:Expr) (m:MT):Prop:=PT X e (lT (tb X nm) m E)
abbrev WA (X:Cx) (nm:Nm) (E:XK) (e:List Expr) (m:MA):Prop:=PA X e (lA (tb X nm) m E)
theorem Yw {X:Cx} {e:Expr} {t t':TE} (h:PE X e t) (k:∀ σ H Q,t' σ H Q->t σ H Q):PE X e t':=⟨λpins s σ H Q I q=>h.run pins s σ H Q I (k σ H Q q)⟩
theorem Qo6 {X:Cx} {e:Expr} {t t':TT} (h:PT X e t) (k:∀ σ H Q,t' σ H Q->t σ H Q):PT X e t':=⟨λpins s σ H Q I q=>h.run pins s σ H Q I (k σ H Q q)⟩
theorem Qt2 {X:Cx} {e:List Expr} {t t':TA} (h:PA X e t) (k:∀ σ H Q,t' σ H Q->t σ H Q):PA X e t':=⟨λpos pins s σ H Q I q=>h.run pos pins s σ H Q I (k σ H Q q)⟩
section
variable {T:Tab} {w:Wd} {E:XK} {d:Jo} {σ:St} {β:Type} {R:β->Wd->Prop}
theorem YD {a:ME} {k:Mir.W->Store->Out β} (o:Ok T w) (re:w.env T d σ) (h:Jl T w ((a d w.S).bind k) R E) :
  lE T a E σ w.H λv H1=>∃ w1 x,w1.H=H1/\Ok T w1/\Ext w w1/\w1.env T d σ/\w1.rel T x v/\Jl T w1 (k x w1.S) R E :=
 ⟨w,d,rfl,o,re,h.bind.imp λx w1 o1 x1 q v rv=>⟨w1,x,rfl,o1,x1,re.mono x1.le x1.ex,rv,q⟩⟩
theorem Qj5 {a:MT} {k:Bool->Store->Out β} (o:Ok T w) (re:w.env T d σ) (h:Jl T w ((a d w.S).bind k) R E) :
  lT T a E σ w.H λx H1=>∃ w1,w1.H=H1/\Ok T w1/\Ext w w1/\w1.env T d σ/\Jl T w1 (k x w1.S) R E :=
 ⟨w,d,rfl,o,re,h.bind.imp λx w1 o1 x1 q=>⟨w1,rfl,o1,x1,re.mono x1.le x1.ex,q⟩⟩
theorem Qc7 {a:MA} {k:List Mir.W->Store->Out β} (o:Ok T w) (re:w.env T d σ) (h:Jl T w ((a d w.S).bind k) R E) :
  lA T a E σ w.H λvs H1=>∃ w1 xs,w1.H=H1/\Ok T w1/\Ext w w1/\w1.env T d σ/\w1.rels T xs vs/\Jl T w1 (k xs w1.S) R E :=
 ⟨w,d,rfl,o,re,h.bind.imp λx w1 o1 x1 q vs rv=>⟨w1,x,rfl,o1,x1,re.mono x1.le x1.ex,rv,q⟩⟩
end
section
variable {T:Tab} {w:Wd}
def Wd.layF (w:Wd) (p:Addr) (o:HO):Wd:=⟨w.r,upd w.G p o,w.S,upd w.H p o⟩
theorem Ok.layF (k:Ok T w) {p:Addr} {o:HO} (h:w.H p=none):Ok T (w.layF p o) where
 ex:=λb u e=>by
  show upd w.H p o b=some u
  by_cases hb:b=p
  ·subst hb
   have e':upd w.G b o b=some u:=e
   rw [upd_same] at e' ⊢
   exact e'
  ·have e':upd w.G p o b=some u:=e
   rw [upd_ne hb] at e' ⊢
   exact k.ex b u e'
 own:=λn u e=>by
  obtain ⟨a,h1,h2,h3⟩:=k.own n u e
  have hne:a≠p:=λz=>by
   obtain ⟨x,hx⟩:=h3.some
   rw [z,h] at hx
   cases hx
  refine ⟨a,h1,?_,?_⟩
  ·show upd w.G p o a=none
   rw [upd_ne hne]
   exact h2
  ·show RelO T w.r (upd w.G p o) u (upd w.H p o a)
   rw [upd_ne hne]
   exact h3.mono (Yp.refl _) λb x e=>by rw [upd_ne (ne_of_none e (k.free h))]; exact e
 inj:=k.inj
 dom:=λn a e=>by
  obtain ⟨h1,x,h2⟩:=k.dom n a e
  refine ⟨h1,x,?_⟩
  show upd w.H p o a=some x
  rw [upd_ne (ne_of_none h2 h)]
  exact h2
 nd:=k.nd
 tb:=λc P e=>(k.tb c P e).mv (upd_ne ((k.tb c P e).ne0 h)) (λb x q=>by show upd w.G p o b=some x; rw [upd_ne (ne_of_none q (k.free h))]; exact q) ((upd_ne ((k.tb c P e).ne0 h)).trans (k.tb c P e).gn) λ_ a=>a
theorem Ext.layF (k:Ok T w) {p:Addr} {o:HO} (h:w.H p=none):Ext w (w.layF p o) where
 le:=Yp.refl _
 ex:=λb x e=>by show upd w.G p o b=some x; rw [upd_ne (ne_of_none e (k.free h))]; exact e
 fr:=λa u e _ _=>by show upd w.H p o a=some u; rw [upd_ne (ne_of_none e h)]; exact e
 sub:=λn a e=>.inl e
 al:=λa u e=>⟨u,by show upd w.H p o a=some u; rw [upd_ne (ne_of_none e h)]; exact e⟩
 gn:=λa u e _ hG _=>by show upd w.G p o a=none; rw [upd_ne (ne_of_none e h)]; exact hG
theorem Qin {l:List (Nat×SO)} {n:Nat} {o u:SO} (h:look l n=some u):look (YQ l n o) n=some o:=by
 induction l with
 | nil=>cases h
 | cons p l ih =>
  obtain ⟨m,q⟩:=p
  unfold YQ
  unfold look at h
  by_cases e:Nat.beq m n=true
  ·rw [if_pos e]; unfold look; rw [if_pos e]
  ·rw [if_neg e] at h ⊢; unfold look; rw [if_neg e]; exact ih h
theorem Qh3 {l:List (Nat×SO)} {n m:Nat} {o:SO} (h:m≠n):look (YQ l n o) m=look l m:=by
 induction l with
 | nil=>rfl
 | cons p l ih =>
  obtain ⟨k,q⟩:=p
  unfold YQ
  by_cases e:Nat.beq k n=true
  ·rw [if_pos e]
   have ek:k=n:=Nat.eq_of_beq_eq_true e
   unfold look
   rw [if_neg (show ¬ Nat.beq k m=true from λz=>h (by rw [<- Nat.eq_of_beq_eq_true z,ek])),if_neg (show ¬ Nat.beq k m=true from λz=>h (by rw [<- Nat.eq_of_beq_eq_true z,ek]))]
  ·rw [if_neg e]
   unfold look
   by_cases e2:Nat.beq k m=true
   ·rw [if_pos e2,if_pos e2]
   ·rw [if_neg e2,if_neg e2]; exact ih
theorem Qv5 {l:List (Nat×SO)} {n:Nat} {o:SO}:(YQ l n o).map (·.1)=l.map (·.1):=by
 induction l with
 | nil=>rfl
 | cons p l ih =>
  obtain ⟨k,q⟩:=p
  unfold YQ
  by_cases e:Nat.beq k n=true
  ·rw [if_pos e]; rfl
  ·rw [if_neg e,List.map_cons,List.map_cons,ih]
theorem Qv2 {l:List (Nat×SO)} {n:Nat} {o:SO} (h:look l n=some o):n∈l.map (·.1):=by
 induction l with
 | nil=>cases h
 | cons p l ih =>
  obtain ⟨k,q⟩:=p
  unfold look at h
  by_cases e:Nat.beq k n=true
  ·rw [List.map_cons,Nat.eq_of_beq_eq_true e]; exact List.mem_cons_self
  ·rw [if_neg e] at h; exact List.mem_cons_of_mem _ (ih h)
theorem Qpp {l:List (Nat×SO)} {n:Nat} (h:n∉l.map (·.1)):look l n=none:=by
 cases e:look l n with
 | none=>rfl
 | some o=>exact absurd (Qv2 e) h
theorem Qet {l:List (Nat×SO)} {n m:Nat} (h:m≠n):look (Qj7 l n) m=look l m:=by
 induction l with
 | nil=>rfl
 | cons p l ih =>
  obtain ⟨k,q⟩:=p
  unfold Qj7
  by_cases e:Nat.beq k n=true
  ·rw [if_pos e]
   have ek:k=n:=Nat.eq_of_beq_eq_true e
   show look l m=look ((k,q)::l) m
   rw [look,if_neg (show ¬ Nat.beq k m=true from λz=>h (by rw [<- Nat.eq_of_beq_eq_true z,ek]))]
  ·rw [if_neg e]
   show look ((k,q)::Qj7 l n) m=look ((k,q)::l) m
   rw [look,look]
   by_cases e2:Nat.beq k m=true
   ·rw [if_pos e2,if_pos e2]
   ·rw [if_neg e2,if_neg e2]; exact ih
theorem Qmk {l:List (Nat×SO)} {n:Nat} (h:(l.map (·.1)).Nodup):((Qj7 l n).map (·.1)).Nodup/\n∉(Qj7 l n).map (·.1)/\∀ k∈(Qj7 l n).map (·.1),k∈l.map (·.1):=by
 induction l with
 | nil=>exact ⟨List.nodup_nil,List.not_mem_nil,λ_ z=>z⟩
 | cons p l ih =>
  obtain ⟨k,q⟩:=p
  rw [List.map_cons,List.nodup_cons] at h
  obtain ⟨i1,i2,i3⟩:=ih h.2
  unfold Qj7
  by_cases e:Nat.beq k n=true
  ·rw [if_pos e]
   have ek:k=n:=Nat.eq_of_beq_eq_true e
   exact ⟨h.2,ek ▸ h.1,λz hz=>List.mem_cons_of_mem _ hz⟩
  ·rw [if_neg e,List.map_cons]
   refine ⟨List.nodup_cons.mpr ⟨λz=>h.1 (i3 _ z),i1⟩,λz=>?_,λz hz=>?_⟩
   ·rcases List.mem_cons.mp z with z | z
    ·have z':n=k:=z
     exact e (by rw [z']; exact Nat.beq_refl _)
    ·exact i2 z
   ·rcases List.mem_cons.mp hz with z | z
    ·rw [z]; exact List.mem_cons_self
    ·exact List.mem_cons_of_mem _ (i3 _ z)
def Wd.put (w:Wd) (n:Nat) (a:Addr) (o:SO) (u:HO):Wd:=⟨w.r,w.G,w.S.put n o,upd w.H a u⟩
theorem At.put {n m:Nat} {a b:Addr} {o:SO} {u:HO} (h:At w n a):At (w.put n a o u) m b↔At w m b:=by
 obtain ⟨⟨o0,h0⟩,h1⟩:=h
 constructor
 ·rintro ⟨⟨x,hx⟩,hb⟩
  refine ⟨?_,hb⟩
  by_cases e:m=n
  ·subst e; exact ⟨o0,h0⟩
  ·exact ⟨x,(Qh3 e).symm.trans hx⟩
 ·rintro ⟨⟨x,hx⟩,hb⟩
  refine ⟨?_,hb⟩
  by_cases e:m=n
  ·subst e; exact ⟨o,Qin h0⟩
  ·exact ⟨x,(Qh3 e).trans hx⟩
theorem Ok.put (k:Ok T w) {n:Nat} {a:Addr} {o:SO} {u:HO} (h:At w n a) (q:RelO T w.r w.G o (some u)):Ok T (w.put n a o u) where
 ex:=λb x e=>by
  show upd w.H a u b=some x
  have hb:b≠a:=λz=>by
   obtain ⟨⟨o0,h0⟩,h1⟩:=h
   obtain ⟨a',e1,e2,e3⟩:=k.own n o0 h0
   rw [h1] at e1
   cases e1
   have e':w.G b=some x:=e
   rw [z,e2] at e'
   cases e'
  rw [upd_ne hb]
  exact k.ex b x e
 own:=λm x e=>by
  by_cases hm:m=n
  ·subst hm
   obtain ⟨⟨o0,h0⟩,h1⟩:=id h
   obtain ⟨a',e1,e2,e3⟩:=k.own m o0 h0
   rw [h1] at e1
   cases e1
   have e':look (YQ w.S.objs m o) m=some x:=e
   rw [Qin h0] at e'
   cases e'
   refine ⟨a,h1,e2,?_⟩
   show RelO T w.r w.G o (upd w.H a u a)
   rw [upd_same]
   exact q
  ·have e':look (YQ w.S.objs n o) m=some x:=e
   rw [Qh3 hm] at e'
   obtain ⟨b,e1,e2,e3⟩:=k.own m x e'
   refine ⟨b,e1,e2,?_⟩
   show RelO T w.r w.G x (upd w.H a u b)
   have hb:b≠a:=λz=>hm (k.inj m n a ⟨⟨x,e'⟩,by rw [<- z]; exact e1⟩ h)
   rw [upd_ne hb]
   exact e3
 inj:=λm m' b e1 e2=>k.inj m m' b ((At.put h).mp e1) ((At.put h).mp e2)
 dom:=λm b e=>by
  obtain ⟨h1,x,h2⟩:=k.dom m b e
  refine ⟨h1,?_⟩
  by_cases hb:b=a
  ·subst hb; exact ⟨u,upd_same⟩
  ·exact ⟨x,by show upd w.H a u b=some x; rw [upd_ne hb]; exact h2⟩
 nd:=by show ((YQ w.S.objs n o).map (·.1)).Nodup; rw [Qv5]; exact k.nd
 tb:=λc P e=>(k.tb c P e).mv (upd_ne λz=>(k.tb c P e).no n (by rw [z]; exact h)) (λ_ _ q=>q) (k.tb c P e).gn λ_ a=>(At.put h).mp a
theorem Ext.put {n:Nat} {a:Addr} {o:SO} {u:HO} (h:At w n a):Ext w (w.put n a o u) where
 le:=Yp.refl _
 ex:=Same.refl _
 fr:=λb x e _ hn=>by
  show upd w.H a u b=some x
  rw [upd_ne (λz=>hn n (by rw [z]; exact h))]
  exact e
 sub:=λm b e=>.inl ((At.put h).mp e)
 al:=λb x e=>by
  by_cases hb:b=a
  ·subst hb; exact ⟨u,upd_same⟩
  ·exact ⟨x,by show upd w.H a u b=some x; rw [upd_ne hb]; exact e⟩
 gn:=λ_ _ _ _ hG _=>hG
def Wd.lay (w:Wd) (p:Addr) (o:SO) (u:HO):Wd:=⟨λm=>if m=w.S.next then some p else w.r m,w.G,w.S.new o,upd w.H p u⟩
theorem Ok.fresh (k:Ok T w):w.r w.S.next=none:=by
 cases e:w.r w.S.next with
 | none=>rfl
 | some a=>exact absurd (k.dom _ a e).1 (Nat.lt_irrefl _)
theorem Ok.notin (k:Ok T w):w.S.next∉w.S.objs.map (·.1):=λz=>by
 have:∃ o,look w.S.objs w.S.next=some o:=by
  cases e:look w.S.objs w.S.next with
  | some o=>exact ⟨o,rfl⟩
  | none =>
   exfalso
   have:∀ (l:List (Nat×SO)) (n:Nat),n∈l.map (·.1)->look l n≠none:=by
    intro l n
    induction l with
    | nil=>intro z; cases z
    | cons p l ih =>
     obtain ⟨k,q⟩:=p
     intro z
     rw [look]
     by_cases e:Nat.beq k n=true
     ·rw [if_pos e]; intro y; cases y
     ·rw [if_neg e]
      rcases List.mem_cons.mp z with z | z
      ·exact absurd (show Nat.beq k n=true by rw [z]; exact Nat.beq_refl _) e
      ·exact ih z
   exact this _ _ z e
 obtain ⟨o,ho⟩:=this
 obtain ⟨a,h1,_⟩:=k.own _ o ho
 rw [k.fresh] at h1
 cases h1
theorem Yp.lay (k:Ok T w) {p:Addr} {o:SO} {u:HO}:Yp w.r (w.lay p o u).r:=λn a e=>by
 show (if n=w.S.next then some p else w.r n)=some a
 rw [if_neg (λz=>by rw [z,k.fresh] at e; cases e)]
 exact e
theorem Qmx {p:Addr} {o:SO} {u:HO}:(w.lay p o u).r w.S.next=some p:=if_pos rfl
theorem Qk7 {o:SO} {m:Nat} (h:m≠w.S.next):(w.S.new o).get m=w.S.get m:=by
 show look ((w.S.next,o)::w.S.objs) m=look w.S.objs m
 rw [look,if_neg (show ¬ Nat.beq w.S.next m=true from λz=>h (Nat.eq_of_beq_eq_true z).symm)]
theorem Qft {o:SO}:(w.S.new o).get w.S.next=some o:=by
 show look ((w.S.next,o)::w.S.objs) w.S.next=some o
 rw [look,if_pos (Nat.beq_refl _)]
theorem At.lay (k:Ok T w) {p:Addr} {o:SO} {u:HO} {m:Nat} {b:Addr}:At (w.lay p o u) m b↔(m=w.S.next/\b=p)\/At w m b:=by
 by_cases e:m=w.S.next
 ·subst e
  constructor
  ·rintro ⟨_,h2⟩
   rw [Qmx] at h2
   cases h2
   exact .inl ⟨rfl,rfl⟩
  ·rintro (⟨_,rfl⟩ | ⟨_,h2⟩)
   ·exact ⟨⟨o,Qft⟩,Qmx⟩
   ·rw [k.fresh] at h2; cases h2
 ·constructor
  ·rintro ⟨⟨x,hx⟩,h2⟩
   refine .inr ⟨⟨x,(Qk7 e).symm.trans hx⟩,?_⟩
   have h3:(if m=w.S.next then some p else w.r m)=some b:=h2
   rw [if_neg e] at h3
   exact h3
  ·rintro (⟨z,_⟩ | ⟨⟨x,hx⟩,h2⟩)
   ·exact absurd z e
   ·refine ⟨⟨x,(Qk7 e).trans hx⟩,?_⟩
    show (if m=w.S.next then some p else w.r m)=some b
    rw [if_neg e]
    exact h2
theorem Ok.lay (k:Ok T w) {p:Addr} {o:SO} {u:HO} (h:w.H p=none) (q:RelO T (w.lay p o u).r w.G o (some u)):Ok T (w.lay p o u) where
 ex:=λb x e=>by
  show upd w.H p u b=some x
  rw [upd_ne (ne_of_none (k.ex b x e) h)]
  exact k.ex b x e
 own:=λm x e=>by
  by_cases hm:m=w.S.next
  ·subst hm
   rw [show (w.lay p o u).S.get w.S.next=some o from Qft] at e
   cases e
   exact ⟨p,Qmx,k.free h,by show RelO T _ w.G o (upd w.H p u p); rw [upd_same]; exact q⟩
  ·have e':w.S.get m=some x:=(Qk7 hm).symm.trans e
   obtain ⟨b,e1,e2,e3⟩:=k.own m x e'
   refine ⟨b,Yp.lay k _ _ e1,e2,?_⟩
   obtain ⟨y,hy⟩:=e3.some
   show RelO T _ w.G x (upd w.H p u b)
   rw [upd_ne (ne_of_none hy h)]
   exact e3.mono (Yp.lay k) (Same.refl _)
 inj:=λm m' b e1 e2=>by
  rcases (At.lay k).mp e1 with ⟨rfl,rfl⟩ | e1'
  ·rcases (At.lay k).mp e2 with ⟨rfl,_⟩ | e2'
   ·rfl
   ·obtain ⟨y,hy⟩:=At.there k e2'
    rw [h] at hy
    cases hy
  ·rcases (At.lay k).mp e2 with ⟨rfl,rfl⟩ | e2'
   ·obtain ⟨y,hy⟩:=At.there k e1'
    rw [h] at hy
    cases hy
   ·exact k.inj m m' b e1' e2'
 dom:=λm b e=>by
  by_cases hm:m=w.S.next
  ·subst hm
   rw [Qmx] at e
   cases e
   exact ⟨Nat.lt_succ_self _,u,upd_same⟩
  ·have e':w.r m=some b:=by
    have e2:(if m=w.S.next then some p else w.r m)=some b:=e
    rw [if_neg hm] at e2
    exact e2
   obtain ⟨h1,x,h2⟩:=k.dom m b e'
   exact ⟨Nat.lt_succ_of_lt h1,x,by show upd w.H p u b=some x; rw [upd_ne (ne_of_none h2 h)]; exact h2⟩
 nd:=by
  show ((w.S.next,o)::w.S.objs).map (·.1) |>.Nodup
  rw [List.map_cons]
  exact List.nodup_cons.mpr ⟨k.notin,k.nd⟩
 tb:=λc P e=>(k.tb c P e).mv (upd_ne ((k.tb c P e).ne0 h)) (λ_ _ q=>q) (k.tb c P e).gn λn a=>((At.lay k).mp a).elim (λz=>absurd z.2 ((k.tb c P e).ne0 h)) id
theorem Ext.lay (k:Ok T w) {p:Addr} {o:SO} {u:HO} (h:w.H p=none):Ext w (w.lay p o u) where
 le:=Yp.lay k
 ex:=Same.refl _
 fr:=λb x e _ _=>by show upd w.H p u b=some x; rw [upd_ne (ne_of_none e h)]; exact e
 sub:=λm b e=>by
  rcases (At.lay k).mp e with ⟨_,rfl⟩ | e'
  ·exact .inr h
  ·exact .inl e'
 al:=λb x e=>⟨x,by show upd w.H p u b=some x; rw [upd_ne (ne_of_none e h)]; exact e⟩
 gn:=λ_ _ _ _ hG _=>hG
def Wd.frz (w:Wd) (n:Nat) (a:Addr) (u:HO):Wd:=⟨w.r,upd w.G a u,w.S.drop n,w.H⟩
theorem At.frz (k:Ok T w) {n m:Nat} {a b:Addr} {u:HO}:At (w.frz n a u) m b↔(m≠n/\At w m b):=by
 constructor
 ·rintro ⟨⟨x,hx⟩,hb⟩
  have hm:m≠n:=λz=>by
   have hx':look (Qj7 w.S.objs n) m=some x:=hx
   rw [z,Qpp (Qmk k.nd).2.1] at hx'
   cases hx'
  exact ⟨hm,⟨x,(Qet hm).symm.trans hx⟩,hb⟩
 ·rintro ⟨hm,⟨x,hx⟩,hb⟩
  exact ⟨⟨x,(Qet hm).trans hx⟩,hb⟩
theorem Ok.frz (k:Ok T w) {n:Nat} {a:Addr} {u:HO} (h:At w n a) (hu:w.H a=some u):Ok T (w.frz n a u) where
 ex:=λb x e=>by
  show w.H b=some x
  have e':upd w.G a u b=some x:=e
  by_cases hb:b=a
  ·subst hb
   rw [upd_same] at e'
   rw [hu,e']
  ·rw [upd_ne hb] at e'
   exact k.ex b x e'
 own:=λm x e=>by
  have hm:m≠n:=((At.frz (u:=u) (a:=a) k).mp ⟨⟨x,e⟩,(k.own m x ((Qet (λz=>by
   have hx':look (Qj7 w.S.objs n) m=some x:=e
   rw [z,Qpp (Qmk k.nd).2.1] at hx'
   cases hx')).symm.trans e)).choose_spec.1⟩).1
  have e':w.S.get m=some x:=(Qet hm).symm.trans e
  obtain ⟨b,e1,e2,e3⟩:=k.own m x e'
  have hb:b≠a:=λz=>hm (k.inj m n a ⟨⟨x,e'⟩,by rw [<- z]; exact e1⟩ h)
  have hG:w.G a=none:=by
   obtain ⟨⟨o0,h0⟩,h1⟩:=h
   obtain ⟨a',q1,q2,_⟩:=k.own n o0 h0
   rw [h1] at q1
   cases q1
   exact q2
  refine ⟨b,e1,?_,?_⟩
  ·show upd w.G a u b=none
   rw [upd_ne hb]
   exact e2
  ·exact e3.mono (Yp.refl _) λc y z=>by show upd w.G a u c=some y; rw [upd_ne (ne_of_none z hG)]; exact z
 inj:=λm m' b e1 e2=>k.inj m m' b ((At.frz k).mp e1).2 ((At.frz k).mp e2).2
 dom:=k.dom
 nd:=(Qmk k.nd).1
 tb:=λc P e=>by
  have hG:w.G a=none:=by
   obtain ⟨⟨o0,h0⟩,h1⟩:=h
   obtain ⟨a',q1,q2,_⟩:=k.own n o0 h0
   rw [h1] at q1
   cases q1
   exact q2
  have hne:P≠a:=λz=>(k.tb c P e).no n (by rw [z]; exact h)
  exact (k.tb c P e).mv rfl (λb x q=>by show upd w.G a u b=some x; rw [upd_ne (ne_of_none q hG)]; exact q) ((upd_ne hne).trans (k.tb c P e).gn) λ_ a=>((At.frz k).mp a).2
theorem Ext.frz (k:Ok T w) {n:Nat} {a:Addr} {u:HO} (h:At w n a):Ext w (w.frz n a u) where
 le:=Yp.refl _
 ex:=λb x e=>by
  obtain ⟨⟨o0,h0⟩,h1⟩:=h
  obtain ⟨a',q1,q2,_⟩:=k.own n o0 h0
  rw [h1] at q1
  cases q1
  show upd w.G a u b=some x
  rw [upd_ne (ne_of_none e q2)]
  exact e
 fr:=λ_ _ e _ _=>e
 sub:=λm b e=>.inl ((At.frz k).mp e).2
 al:=λ_ x e=>⟨x,e⟩
 gn:=λb x _ _ hG hn=>by show upd w.G a u b=none; rw [upd_ne (λz=>hn n (by rw [z]; exact h))]; exact hG
def Wd.setU (w:Wd) (p:Addr) (o:HO):Wd:=⟨w.r,w.G,w.S,upd w.H p o⟩
theorem Ok.out (k:Ok T w) {p:Addr} (h:w.H p=none):Out_ w p:=⟨k.free h,λn a=>by
 obtain ⟨x,hx⟩:=At.there k a
 rw [h] at hx
 cases hx⟩
theorem Ok.setU (k:Ok T w) {p:Addr} {o:HO} (h:Out_ w p) (np:∀ ps,w.H p≠some (.tbl ps)):Ok T (w.setU p o) where
 tb:=λc P e=>(k.tb c P e).mv (upd_ne ((k.tb c P e).ne np)) (λ_ _ q=>q) (k.tb c P e).gn λ_ a=>a
 ex:=λb x e=>by
  show upd w.H p o b=some x
  have e':w.G b=some x:=e
  rw [upd_ne (λz=>by rw [z,h.1] at e'; cases e')]
  exact k.ex b x e
 own:=λn u e=>by
  obtain ⟨a,h1,h2,h3⟩:=k.own n u e
  refine ⟨a,h1,h2,?_⟩
  show RelO T w.r w.G u (upd w.H p o a)
  rw [upd_ne (λz=>h.2 n ⟨⟨u,e⟩,by rw [<- z]; exact h1⟩)]
  exact h3
 inj:=k.inj
 dom:=λn a e=>by
  obtain ⟨h1,x,h2⟩:=k.dom n a e
  refine ⟨h1,?_⟩
  by_cases hb:a=p
  ·subst hb; exact ⟨o,upd_same⟩
  ·exact ⟨x,by show upd w.H p o a=some x; rw [upd_ne hb]; exact h2⟩
 nd:=k.nd
theorem Ext.setU {w0:Wd} {p:Addr} {o:HO} (e:Ext w0 w) (h:w0.H p=none):Ext w0 (w.setU p o) where
 le:=e.le
 ex:=e.ex
 fr:=λa u q nt hn=>by show upd w.H p o a=some u; rw [upd_ne (ne_of_none q h)]; exact e.fr a u q nt hn
 sub:=e.sub
 al:=λa u q=>by
  obtain ⟨x,hx⟩:=e.al a u q
  exact ⟨x,by show upd w.H p o a=some x; rw [upd_ne (ne_of_none q h)]; exact hx⟩
 gn:=e.gn
def Wd.fixU (w:Wd) (p:Addr) (o:HO):Wd:=⟨w.r,upd w.G p o,w.S,w.H⟩
theorem Ok.fixU (k:Ok T w) {p:Addr} {o:HO} (h:Out_ w p) (hp:w.H p=some o) (nt:∀ ps,o≠.tbl ps:=by intro ps z; cases z):Ok T (w.fixU p o) where
 tb:=λc P e=>by
  have hne:P≠p:=(k.tb c P e).ne λps z=>nt ps (Option.some.inj (hp.symm.trans z))
  exact (k.tb c P e).mv rfl (λb x q=>by show upd w.G p o b=some x; rw [upd_ne (ne_of_none q h.1)]; exact q) ((upd_ne hne).trans (k.tb c P e).gn) λ_ a=>a
 ex:=λb x e=>by
  have e':upd w.G p o b=some x:=e
  by_cases hb:b=p
  ·subst hb
   rw [upd_same] at e'
   show w.H b=some x
   rw [hp,e']
  ·rw [upd_ne hb] at e'
   exact k.ex b x e'
 own:=λn u e=>by
  obtain ⟨a,h1,h2,h3⟩:=k.own n u e
  refine ⟨a,h1,?_,h3.mono (Yp.refl _) λb x q=>?_⟩
  ·show upd w.G p o a=none
   rw [upd_ne (λz=>h.2 n ⟨⟨u,e⟩,by rw [<- z]; exact h1⟩)]
   exact h2
  ·show upd w.G p o b=some x
   rw [upd_ne (ne_of_none q h.1)]
   exact q
 inj:=k.inj
 dom:=k.dom
 nd:=k.nd
theorem Ext.fixU {w0:Wd} {p:Addr} {o:HO} (e:Ext w0 w) (h0:w0.H p=none) (h:Out_ w p):Ext w0 (w.fixU p o) where
 le:=e.le
 ex:=λb x q=>by show upd w.G p o b=some x; rw [upd_ne (ne_of_none (e.ex b x q) h.1)]; exact e.ex b x q
 fr:=e.fr
 sub:=e.sub
 al:=e.al
 gn:=λa u q nt hG hn=>by show upd w.G p o a=none; rw [upd_ne (ne_of_none q h0)]; exact e.gn a u q nt hG hn
def Wd.adopt (w:Wd) (p:Addr) (o:SO):Wd:=⟨λm=>if m=w.S.next then some p else w.r m,w.G,w.S.new o,w.H⟩
theorem At.adopt (k:Ok T w) {p:Addr} {o:SO} {m:Nat} {b:Addr}:At (w.adopt p o) m b↔(m=w.S.next/\b=p)\/At w m b:=At.lay (u:=.lst []) k
theorem Ok.adopt (k:Ok T w) {p:Addr} {o:SO} {u:HO} (h:Out_ w p) (hp:w.H p=some u) (q:RelO T (w.adopt p o).r w.G o (some u)):Ok T (w.adopt p o) where
 tb:=λc P e=>(k.tb c P e).mv rfl (λ_ _ q=>q) (k.tb c P e).gn λn a=>((At.adopt k).mp a).elim (λz=>absurd z.2 ((k.tb c P e).ne λps y=>q.nt ps (Option.some.inj (hp.symm.trans y)))) id
 ex:=k.ex
 own:=λm x e=>by
  by_cases hm:m=w.S.next
  ·subst hm
   rw [show (w.adopt p o).S.get w.S.next=some o from Qft] at e
   cases e
   refine ⟨p,Qmx (p:=p) (o:=o) (u:=.lst []),h.1,?_⟩
   show RelO T _ w.G o (w.H p)
   rw [hp]
   exact q
  ·have e':w.S.get m=some x:=(Qk7 hm).symm.trans e
   obtain ⟨b,e1,e2,e3⟩:=k.own m x e'
   exact ⟨b,Yp.lay (p:=p) (o:=o) (u:=.lst []) k _ _ e1,e2,e3.mono (Yp.lay (p:=p) (o:=o) (u:=.lst []) k) (Same.refl _)⟩
 inj:=λm m' b e1 e2=>by
  rcases (At.adopt k).mp e1 with ⟨rfl,rfl⟩ | e1'
  ·rcases (At.adopt k).mp e2 with ⟨rfl,_⟩ | e2'
   ·rfl
   ·exact absurd e2' (h.2 m')
  ·rcases (At.adopt k).mp e2 with ⟨rfl,rfl⟩ | e2'
   ·exact absurd e1' (h.2 m)
   ·exact k.inj m m' b e1' e2'
 dom:=λm b e=>by
  by_cases hm:m=w.S.next
  ·subst hm
   have e':some p=some b:=(Qmx (p:=p) (o:=o) (u:=.lst [])).symm.trans e
   cases e'
   exact ⟨Nat.lt_succ_self _,u,hp⟩
  ·have e':w.r m=some b:=by
    have e2:(if m=w.S.next then some p else w.r m)=some b:=e
    rw [if_neg hm] at e2
    exact e2
   obtain ⟨h1,x,h2⟩:=k.dom m b e'
   exact ⟨Nat.lt_succ_of_lt h1,x,h2⟩
 nd:=by
  show ((w.S.next,o)::w.S.objs).map (·.1) |>.Nodup
  rw [List.map_cons]
  exact List.nodup_cons.mpr ⟨k.notin,k.nd⟩
theorem Ext.adopt (k:Ok T w) {w0:Wd} {p:Addr} {o:SO} (e:Ext w0 w) (h0:w0.H p=none):Ext w0 (w.adopt p o) where
 le:=e.le.trans (Yp.lay (p:=p) (o:=o) (u:=.lst []) k)
 ex:=e.ex
 fr:=e.fr
 sub:=λm b a=>by
  rcases (At.adopt k).mp a with ⟨_,rfl⟩ | a'
  ·exact .inr h0
  ·exact e.sub m b a'
 al:=e.al
 gn:=e.gn
end
section
variable {T:Tab} {E:XK} {σ:St} {H:Hp}
theorem Yq {m:ME} {Q Q':VK} (h:lE T m E σ H Q) (k:∀ v H',Q v H'->Q' v H'):lE T m E σ H Q':=by
 obtain ⟨w,d,e,o,re,p⟩:=h
 exact ⟨w,d,e,o,re,p.imp λx w' _ _ q v rv=>k v w'.H (q v rv)⟩
theorem Qhi {m:MT} {Q Q':Bool->Hp->Prop} (h:lT T m E σ H Q) (k:∀ v H',Q v H'->Q' v H'):lT T m E σ H Q':=by
 obtain ⟨w,d,e,o,re,p⟩:=h
 exact ⟨w,d,e,o,re,p.imp λx w' _ _ q=>k x w'.H q⟩
theorem Qev {m:MA} {Q Q':List V->Hp->Prop} (h:lA T m E σ H Q) (k:∀ v H',Q v H'->Q' v H'):lA T m E σ H Q':=by
 obtain ⟨w,d,e,o,re,p⟩:=h
 exact ⟨w,d,e,o,re,p.imp λx w' _ _ q v rv=>k v w'.H (q v rv)⟩
end
section
variable {X:Cx} {nm:Nm} {E:XK} {pos:Pos}
theorem Je (i:Nat) {x:Str} (hN:X.N[i]?=some x:=by rfl) (hv:Vis X.env.scope x:=by first | exact Or.inl rfl | exact Or.inr (Or.inl rfl) | exact Or.inr (Or.inr rfl)) (hd:(x == ("__debug__" : Str))=false:=by decide)
  (hcd:(x == ("__classdict__" : Str))=false:=by decide):WE X nm E (.Name x pos) (Ja i):=Yw (pe_var hN hv hd hcd) fun σ H Q ⟨w,d,e,o,re,h⟩=>by
 subst e
 unfold Ja at h
 cases g:Jm d i with
 | none=>rw [g] at h; exact h.elim
 | some x =>
  rw [g] at h
  obtain ⟨v,e1,rv⟩:=re.get g
  exact ⟨v,e1,h.val o rv⟩
theorem JB {i:Int} {j:Nat}:WE X nm E (.Constant (.int i) j pos) (eC (.int i)):=Yw pe_int fun σ H Q ⟨w,d,e,o,re,h⟩=>by
 subst e
 exact Jl.val o h (.int i)
theorem Qoj {b:Bool} {j:Nat}:WE X nm E (.Constant (.bool b) j pos) (eC (.bl b)):=Yw pe_bl fun σ H Q ⟨w,d,e,o,re,h⟩=>by
 subst e
 exact Jl.val o h (.bl b)
theorem JF {x:Str} {z:List Nat} {j:Nat} (e1:TL.tl x=z) (e2:okS z=true):WE X nm E (.Constant (.str x) j pos) (eC (.str z)):=Yw pe_str fun σ H Q ⟨w,d,e,o,re,h⟩=>by
 subst e
 exact Jl.val o h (.str e1 e2)
theorem Qgh {x:Str} {c:Mir.W} (h:GlobC X.K X.mg nm x c) (hg:Gl X x:=by rfl) (hd:(x == ("__debug__" : Str))=false:=by decide):WE X nm E (.Name x pos) (eC c):=by
 obtain ⟨v,u,hm,hr,hw⟩:=h.ex
 refine Yw (pe_glob hg hm hr hd) fun σ H Q ⟨w,d,e,o,re,h⟩=>?_
 subst e
 exact Jl.val o h (hw _ _)
def Y7 (T:Tab) (f:Mir.W->Mir.W->Store->Out Mir.W) (E:XK):R2:=λx y H Q=>∃ w a b,w.H=H/\Ok T w/\w.rel T a x/\w.rel T b y/\Jl T w (f a b w.S) (QW T Q) E
def lR1 (T:Tab) (f:Mir.W->Store->Out Mir.W) (E:XK):V->Hp->VK->Prop:=λx H Q=>∃ w a,w.H=H/\Ok T w/\w.rel T a x/\Jl T w (f a w.S) (QW T Q) E
theorem Qp1 {T:Tab} {f:Mir.W->Mir.W->Store->Out Mir.W} {ma mb:ME} {σ:St} {H:Hp} {Q:VK} (h:lE T (Jc f ma mb) E σ H Q):tOp (Y7 T f E) (lE T ma E) (lE T mb E) σ H Q:=by
 obtain ⟨w,d,e,o,re,h⟩:=h
 subst e
 refine Yq (YD o re h) ?_
 rintro x H1 ⟨w1,a',rfl,o1,x1,re1,ra,h1⟩
 refine Yq (YD o1 re1 h1) ?_
 rintro y H2 ⟨w2,b',rfl,o2,x2,re2,rb,h2⟩
 exact ⟨w2,a',b',rfl,o2,ra.mono x2.le x2.ex,rb,h2⟩
theorem Kv {op:Operator} {f:Mir.W->Mir.W->Store->Out Mir.W} {a b:Expr} {ma mb:ME} (ho:OpR X (binaryOp op) (Y7 (tb X nm) f E)) (ha:WE X nm E a ma) (hb:WE X nm E b mb):WE X nm E (.BinOp a op b pos) (Jc f ma mb) :=
 Yw (pe_op ho ha hb) λ_ _ _ h=>Qp1 h
theorem Qxm {op:UnaryOp} {f:Mir.W->Store->Out Mir.W} {a:Expr} {ma:ME} (ho:UnR X (unaryOp op) (lR1 (tb X nm) f E)) (ha:WE X nm E a ma):WE X nm E (.UnaryOp op a pos) (JS f ma) :=
 Yw (pe_un ho ha) fun σ H Q ⟨w,d,e,o,re,h⟩=>by
  subst e
  refine Yq (YD o re h) ?_
  rintro x H1 ⟨w1,a',rfl,o1,x1,re1,ra,h1⟩
  exact ⟨w1,a',rfl,o1,ra,h1⟩
theorem Qe7 {op:CmpOp} {f:Mir.W->Mir.W->Store->Out Mir.W} {a b:Expr} {ma mb:ME} (ho:OpR X (compareOp op) (Y7 (tb X nm) f E)) (ha:WE X nm E a ma) (hb:WE X nm E b mb) (hm:behindInMarks op b=false:=by first | exact nomark _ | rfl):WE X nm E (.Compare a [op] [b] pos) (Jc f ma mb) :=
 Yw (pe_cmpR ho ha hb hm) λ_ _ _ h=>Qp1 h
theorem YL {op:CmpOp} {f:Mir.W->Mir.W->Store->Out Mir.W} {a b:Expr} {ma mb:ME} (ho:OpR X (compareOp op) (Y7 (tb X nm) f E)) (ha:WE X nm E a ma) (hb:WE X nm E b mb) (hm:behindInMarks op b=false:=by first | exact nomark _ | rfl):WT X nm E (.Compare a [op] [b] pos) (Mir.tB (Jc f ma mb)) :=
 Qo6 (pt_cmpR ho ha hb hm) fun σ H Q ⟨w,d,e,o,re,h⟩=>by
  subst e
  refine Qp1 ⟨w,d,rfl,o,re,h.bind.imp λx w1 o1 _ q v rv=>?_⟩
  cases x with
  | bl b =>
   cases rv.bl_inv
   exact ⟨b,rfl,q w1 o1 (Ext.refl _) rfl⟩
  | _=>exact False.elim q
theorem Qz9 {T:Tab} {m:ME} {σ:St} {H:Hp} {Q:Bool->Hp->Prop} (h:lT T (Mir.tB m) E σ H Q):L2.tB (lE T m E) σ H Q:=by
 obtain ⟨w,d,e,o,re,h⟩:=h
 subst e
 refine ⟨w,d,rfl,o,re,h.bind.imp λx w1 o1 _ q v rv=>?_⟩
 cases x with
 | bl b =>
  cases rv.bl_inv
  exact ⟨b,rfl,q w1 o1 (Ext.refl _) rfl⟩
 | _=>exact False.elim q
theorem Qm1 {e:Expr} {m:ME} (h:WE X nm E e m) (he:∀ whole,isTrue e X.env whole=(do let v <- whole; standAt e.pos; holding [v] (truthy v)):=by intro _; rfl):WT X nm E e (Mir.tB m):=Qo6 (pt_val h he) λ_ _ _ h=>Qz9 h
abbrev WW (X:Cx) (nm:Nm) (E:XK) (e:Expr) (m:MT):Prop:=PW X e (lT (tb X nm) m E)
theorem Qwt {X:Cx} {e:Expr} {t t':TT} (h:PW X e t) (k:∀ σ H Q,t' σ H Q->t σ H Q):PW X e t':=⟨λwh pins s σ H Q I q=>h.run wh pins s σ H Q I (k σ H Q q)⟩
theorem Qs1 {a:Expr} {m:MT} (h:WT X nm E a m):WW X nm E (.BoolOp .And [a] pos) m:=pw_and1 h
theorem Qoh {a:Expr} {m:MT} (h:WT X nm E a m):WW X nm E (.BoolOp .Or [a] pos) m:=pw_or1 h
theorem Qwo {a b:Expr} {rest:List Expr} {m k:MT} (ha:WT X nm E a m) (hb:WW X nm E (.BoolOp .And (b::rest) pos) k):WW X nm E (.BoolOp .And (a::b::rest) pos) (Mir.tAnd m k) :=
 Qwt (pw_and ha hb) fun σ H Q ⟨w,d,e,o,re,h⟩=>by
  subst e
  refine Qhi (Qj5 o re h) ?_
  rintro x H1 ⟨w1,rfl,o1,x1,re1,h1⟩
  cases x with
  | true=>exact ⟨w1,d,rfl,o1,re1,h1⟩
  | false=>exact h1.here o1 rfl
theorem Qqf {a b:Expr} {rest:List Expr} {m k:MT} (ha:WT X nm E a m) (hb:WW X nm E (.BoolOp .Or (b::rest) pos) k):WW X nm E (.BoolOp .Or (a::b::rest) pos) (Mir.tOr m k) :=
 Qwt (pw_or ha hb) fun σ H Q ⟨w,d,e,o,re,h⟩=>by
  subst e
  refine Qhi (Qj5 o re h) ?_
  rintro x H1 ⟨w1,rfl,o1,x1,re1,h1⟩
  cases x with
  | true=>exact h1.here o1 rfl
  | false=>exact ⟨w1,d,rfl,o1,re1,h1⟩
theorem Qm2 {a:Expr} {m:MT} (ha:WT X nm E a m):WT X nm E (.UnaryOp .Not a pos) (Mir.tNot m) :=
 Qo6 (pt_not ha) fun σ H Q ⟨w,d,e,o,re,h⟩=>by
  subst e
  refine Qhi (Qj5 o re h) ?_
  rintro x H1 ⟨w1,rfl,o1,x1,re1,h1⟩
  exact h1.here o1 rfl
theorem Qeo {op} {a:Expr} {m:ME} (h:WE X nm E a m):WE X nm E (.BoolOp op [a] pos) m:=pe_one h
theorem Qe8 {a b:Expr} {rest:List Expr} {m k:ME} (ha:WE X nm E a m) (hb:WE X nm E (.BoolOp .And (b::rest) pos) k):WE X nm E (.BoolOp .And (a::b::rest) pos) (Ka m k) :=
 Yw (pe_and ha hb) fun σ H Q ⟨w,d,e,o,re,h⟩=>by
  subst e
  refine Yq (YD o re h) ?_
  rintro x H1 ⟨w1,a',rfl,o1,x1,re1,ra,h1⟩
  cases a' with
  | bl c =>
   refine ⟨c,ra.bl_inv,?_⟩
   cases c with
   | true=>exact ⟨w1,d,rfl,o1,re1,h1⟩
   | false=>exact Jl.val o1 h1 (.bl false)
  | _=>exact False.elim h1
theorem Qzv {a b:Expr} {rest:List Expr} {m k:ME} (ha:WE X nm E a m) (hb:WE X nm E (.BoolOp .Or (b::rest) pos) k):WE X nm E (.BoolOp .Or (a::b::rest) pos) (eOr m k) :=
 Yw (pe_or ha hb) fun σ H Q ⟨w,d,e,o,re,h⟩=>by
  subst e
  refine Yq (YD o re h) ?_
  rintro x H1 ⟨w1,a',rfl,o1,x1,re1,ra,h1⟩
  cases a' with
  | bl c =>
   refine ⟨c,ra.bl_inv,?_⟩
   cases c with
   | true=>exact Jl.val o1 h1 (.bl true)
   | false=>exact ⟨w1,d,rfl,o1,re1,h1⟩
  | _=>exact False.elim h1
theorem Qzw {a:Expr} {m:ME} (ha:WE X nm E a m):WE X nm E (.UnaryOp .Not a pos) (eNot m) :=
 Yw (pe_not ha) fun σ H Q ⟨w,d,e,o,re,h⟩=>by
  subst e
  refine Yq (YD o re h) ?_
  rintro x H1 ⟨w1,a',rfl,o1,x1,re1,ra,h1⟩
  cases a' with
  | bl c=>exact ⟨c,ra.bl_inv,Jl.val o1 h1 (.bl _)⟩
  | _=>exact False.elim h1
theorem we_if {c a b:Expr} {mc:MT} {m k:ME} (hc:WT X nm E c mc) (ha:WE X nm E a m) (hb:WE X nm E b k):WE X nm E (.IfExp c a b pos) (eIf mc m k) :=
 Yw (pe_ifExp hc ha hb) fun σ H Q ⟨w,d,e,o,re,h⟩=>by
  subst e
  refine Qhi (Qj5 o re h) ?_
  rintro x H1 ⟨w1,rfl,o1,x1,re1,h1⟩
  cases x with
  | true=>exact ⟨w1,d,rfl,o1,re1,h1⟩
  | false=>exact ⟨w1,d,rfl,o1,re1,h1⟩
theorem Qsm {T:Tab} {f g:Mir.W->Mir.W->Store->Out Mir.W} {ma mb mc:ME} {σ:St} {H:Hp} {Q:VK} (h:lE T (Qhj f g ma mb mc) E σ H Q):tChain (Y7 T f E) (Y7 T g E) (lE T ma E) (lE T mb E) (lE T mc E) σ H Q:=by
 obtain ⟨w,d,e,o,re,h⟩:=h
 subst e
 refine Yq (YD o re h) ?_
 rintro x H1 ⟨w1,a',rfl,o1,x1,re1,ra,h1⟩
 refine Yq (YD o1 re1 h1) ?_
 rintro y H2 ⟨w2,b',rfl,o2,x2,re2,rb,h2⟩
 refine ⟨w2,a',b',rfl,o2,ra.mono x2.le x2.ex,rb,h2.bind.imp λz w3 o3 x3 h3 v rv=>?_⟩
 cases z with
 | bl k =>
  refine ⟨k,rv.bl_inv,?_⟩
  cases k with
  | true =>
   refine Yq (YD o3 (re2.mono x3.le x3.ex) h3) ?_
   rintro u H4 ⟨w4,c',rfl,o4,x4,re4,rc,h4⟩
   exact ⟨w4,b',c',rfl,o4,(rb.mono x3.le x3.ex).mono x4.le x4.ex,rc,h4⟩
  | false=>exact Jl.val o3 h3 (.bl false)
 | _=>exact False.elim h3
theorem Qu1 {op op':CmpOp} {f g:Mir.W->Mir.W->Store->Out Mir.W} {a b c:Expr} {ma mb mc:ME} (ho:OpR X (compareOp op) (Y7 (tb X nm) f E)) (ho':OpR X (compareOp op') (Y7 (tb X nm) g E)) (ha:WE X nm E a ma) (hb:WE X nm E b mb) (hc:WE X nm E c mc)
  (hm:lastMarks [op,op'] [b,c]=false:=by with_unfolding_all rfl):WE X nm E (.Compare a [op,op'] [b,c] pos) (Qhj f g ma mb mc):=Yw (pe_chain ho ho' ha hb hc hm) λ_ _ _ h=>Qsm h
theorem Qrk {op op':CmpOp} {f g:Mir.W->Mir.W->Store->Out Mir.W} {a b c:Expr} {ma mb mc:ME} (ho:OpR X (compareOp op) (Y7 (tb X nm) f E)) (ho':OpR X (compareOp op') (Y7 (tb X nm) g E)) (ha:WE X nm E a ma) (hb:WE X nm E b mb) (hc:WE X nm E c mc)
  (hm:lastMarks [op,op'] [b,c]=false:=by with_unfolding_all rfl):WT X nm E (.Compare a [op,op'] [b,c] pos) (Mir.tB (Qhj f g ma mb mc)):=Qo6 (pt_chain ho ho' ha hb hc hm) λ_ _ _ h=>Qsm (Qz9 h)
theorem Jp:WA X nm E [] Jb:=Qt2 pa_nil fun σ H Q ⟨w,d,e,o,re,h⟩=>by
 subst e
 exact h w o (Ext.refl w) rfl [] .nil
theorem Jf {e:Expr} {es:List Expr} {m:ME} {k:MA} (ha:WE X nm E e m) (hr:WA X nm E es k) (hs:starEach (e::es) X.env=(false,eval e X.env)::starEach es X.env:=by rfl):WA X nm E (e::es) (Jd m k) :=
 Qt2 (pa_cons ha hr hs) fun σ H Q ⟨w,d,e,o,re,h⟩=>by
  subst e
  refine Yq (YD o re h) ?_
  rintro x H1 ⟨w1,a',rfl,o1,x1,re1,ra,h1⟩
  refine Qev (Qc7 o1 re1 h1) ?_
  rintro xs H2 ⟨w2,bs,rfl,o2,x2,re2,rb,h2⟩
  exact h2 w2 o2 (Ext.refl _) rfl (x::xs) (.cons (ra.mono x2.le x2.ex) rb)
theorem Qeu {n:Nat} (h:Nat.ble n Jy=true):n<=sizeLine:=Nat.le_trans (Nat.le_of_ble_eq_true h) (by decide)
theorem Xf {es:List Expr} {m:MA} {x1} (h:WA X nm E es m):WE X nm E (.Tuple es x1 pos) (Jt m) :=
 Yw (pe_tup h) fun σ H Q ⟨w,d,e,o,re,h⟩=>by
  subst e
  refine Qev (Qc7 o re h) ?_
  rintro xs H1 ⟨w1,bs,rfl,o1,x1,re1,rb,h1⟩
  cases hl:Nat.ble bs.length Jy with
  | false=>rw [hl] at h1; exact False.elim h1
  | true =>
   rw [hl] at h1
   refine ⟨by rw [<- rb.length]; exact Qeu hl,λp hp=>?_⟩
   exact h1 (w1.layF p (.tup xs)) (o1.layF hp) (Ext.layF o1 hp) rfl (.ref p) (.tup (SqT.of (by show upd w1.G p (.tup xs) p=_; exact upd_same)) (rb.mono (Ext.layF o1 hp).le (Ext.layF o1 hp).ex))
theorem Y4 {es:List Expr} {m:MA} (h:WA X nm E es m):WE X nm E (.List es pos) (Ju m) :=
 Yw (pe_lst h) fun σ H Q ⟨w,d,e,o,re,h⟩=>by
  subst e
  refine Qev (Qc7 o re h) ?_
  rintro xs H1 ⟨w1,bs,rfl,o1,x1,re1,rb,h1⟩
  cases hl:Nat.ble bs.length Jy with
  | false=>rw [hl] at h1; exact False.elim h1
  | true =>
   rw [hl] at h1
   refine ⟨by rw [<- rb.length]; exact Qeu hl,λp hp=>?_⟩
   exact h1 (w1.layF p (.lst xs)) (o1.layF hp) (Ext.layF o1 hp) rfl (.ref p) (.lst (by show upd w1.G p (.lst xs) p=_; exact upd_same) (rb.mono (Ext.layF o1 hp).le (Ext.layF o1 hp).ex))
theorem Qq7 {T:Tab} {w:Wd} {xs:List Mir.W} {vs:List V} {Q:VK} (o:Ok T w) (rb:w.rels T xs vs) (h:Jl T w (.ok (.ref w.S.next) (w.S.new (.lst xs))) (QW T Q) E) {p:Addr} (hp:w.H p=none):Q (.ref p) (upd w.H p (.lst vs)) :=
 h (w.lay p (.lst xs) (.lst vs)) (o.lay hp ⟨vs,rfl,rb.mono (Yp.lay o) (Same.refl _)⟩) (Ext.lay o hp) rfl (.ref p) (.ref Qmx)
theorem Qgg {es:List Expr} {m:MA} (h:WA X nm E es m):WE X nm E (.List es pos) (Qfc m) :=
 Yw (pe_lst h) fun σ H Q ⟨w,d,e,o,re,h⟩=>by
  subst e
  refine Qev (Qc7 o re h) ?_
  rintro xs H1 ⟨w1,bs,rfl,o1,x1,re1,rb,h1⟩
  cases hl:Nat.ble bs.length Jy with
  | false=>rw [hl] at h1; exact False.elim h1
  | true =>
   rw [hl] at h1
   exact ⟨by rw [<- rb.length]; exact Qeu hl,λp hp=>Qq7 o1 rb h1 hp⟩
end
def lG (T:Tab) (t:Tg):TG:=λv σ H Q=>∃ w d x d',w.H=H/\Ok T w/\w.env T d σ/\w.rel T x v/\JG t x d=some d'/\∀ σ',w.env T d' σ'->Ch (tgS t) σ σ'->Q σ' H
def lGs (T:Tab) (ts:List Tg):TGs:=λvs σ H Q=>∃ w d xs d',w.H=H/\Ok T w/\w.env T d σ/\w.rels T xs vs/\Xa ts xs d=some d'/\∀ σ',w.env T d' σ'->Ch (tgSs ts) σ σ'->Q σ' H
abbrev WG (X:Cx) (nm:Nm) (e:Expr) (t:Tg):Prop:=PG X e (lG (tb X nm) t)
abbrev WGs (X:Cx) (nm:Nm) (es:List Expr) (t:List Tg):Prop:=PGs X es (lGs (tb X nm) t)
theorem Qwx {X:Cx} {e:Expr} {t t':TG} (h:PG X e t) (k:∀ v σ H Q,t' v σ H Q->t v σ H Q):PG X e t':=⟨λpins s σ H v u Q I r q=>h.run pins s σ H v u Q I r (k v σ H Q q)⟩
theorem Qtz {X:Cx} {e:List Expr} {t t':TGs} (h:PGs X e t) (k:∀ v σ H Q,t' v σ H Q->t v σ H Q):PGs X e t':=⟨λpins s σ H v u Q I r q=>h.run pins s σ H v u Q I r (k v σ H Q q)⟩
section
variable {X:Cx} {nm:Nm} {E:XK} {pos:Pos}
theorem Yb {i:Nat} {x:Str} (hN:X.N.Nodup) (hi:X.N[i]?=some x:=by rfl) (hx:Loc X.env.scope x:=by first | exact Or.inl rfl | exact Or.inr rfl) (hf:X.fn x=true\/X.env.scope.names.lookup x=some .local:=by first | exact .inl rfl | exact .inr rfl | assumption):WG X nm (.Name x pos) (.nm i) :=
 Qwx (pg_name hN hi hx hf) λv σ H Q ⟨w,d,x,d',e,o,re,rv,hs,k⟩=>by
  subst e
  cases hs
  exact k _ (re.set i rv) Ch.set
theorem Qs5:WGs X nm [] []:=Qtz pgs_nil λv σ H Q ⟨w,d,x,d',e,o,re,rv,hs,k⟩=>by
 subst e
 cases rv with
 | nil=>cases hs; exact ⟨rfl,k _ re (Ch.refl _ _)⟩
 | cons h q=>cases hs
theorem Qfk {e:Expr} {es:List Expr} {t:Tg} {ts:List Tg} (h1:WG X nm e t) (h2:WGs X nm es ts) (hs:(assignEach (e::es) X.env).map (·.2)=assign e X.env::(assignEach es X.env).map (·.2):=by rfl):WGs X nm (e::es) (t::ts) :=
 Qtz (pgs_cons h1 h2 hs) λv σ H Q ⟨w,d,xs,d',e,o,re,rv,hst,k⟩=>by
  subst e
  cases rv with
  | nil=>cases hst
  | @cons x v1 xs vs h q =>
   have hst':(match JG t x d with | some d1=>Xa ts xs d1 | none=>none)=some d':=hst
   cases g:JG t x d with
   | none=>rw [g] at hst'; cases hst'
   | some d1 =>
    rw [g] at hst'
    exact ⟨v1,vs,rfl,w,d,x,d1,rfl,o,re,h,g,fun σ1 re1 c1=>⟨w,d1,xs,d',rfl,o,re1,q,hst',fun σ2 re2 c2=>k σ2 re2 (c1.trans c2)⟩⟩
theorem Qwp {es:List Expr} {k n:Nat} {ts:List Tg} (hc:X.calm=true) (h:WGs X nm es ts) (hl:ts.length=n:=by rfl) (hn:(assignEach es X.env).length=n:=by rfl) (hst:(assignEach es X.env).findIdx? (·.1)=none:=by rfl):WG X nm (.Tuple es k pos) (.tp ts) :=
 Qwx (pg_tup (n:=n) hc h hn hst) λv σ H Q ⟨w,d,x,d',e,o,re,rv,hs,kk⟩=>by
  subst e
  cases x with
  | tup xs =>
   obtain ⟨a,vs,rfl,sq,q⟩:=rv.tup_inv
   have hs':Xa ts xs d=some d':=hs
   refine ⟨a,vs,rfl,Qer o.ex sq,?_,w,d,xs,d',rfl,o,re,q,hs',kk⟩
   rw [<- q.length,<- hl]
   clear q rv kk sq
   revert hs'
   induction ts generalizing xs d n with
   | nil=>intro hs'; cases xs with
    | nil=>rfl
    | cons _ _=>cases hs'
   | cons t ts ih=>intro hs'; cases xs with
    | nil=>cases hs'
    | cons y ys =>
     have hs2:(match JG t y d with | some d1=>Xa ts ys d1 | none=>none)=some d':=hs'
     cases g:JG t y d with
     | none=>rw [g] at hs2; cases hs2
     | some d1 =>
      rw [g] at hs2
      have aux:∀ (ts:List Tg) (ys:List Mir.W) (d1:Jo),Xa ts ys d1=some d'->ys.length=ts.length:=by
       intro ts
       induction ts with
       | nil=>intro ys d1 z; cases ys with
        | nil=>rfl
        | cons _ _=>cases z
       | cons t ts ih=>intro ys d1 z; cases ys with
        | nil=>cases z
        | cons y ys =>
         have z2:(match JG t y d1 with | some d1=>Xa ts ys d1 | none=>none)=some d':=z
         cases g:JG t y d1 with
         | none=>rw [g] at z2; cases z2
         | some d2=>rw [g] at z2; rw [List.length_cons,List.length_cons,ih ys d2 z2]
      rw [List.length_cons,List.length_cons,aux ts ys d1 hs2]
  | _=>cases hs
end
def QS (T:Tab) (D:Ends):Fl->Wd->Prop:=λf w=>match f with
 | .nx d=>∀ σ,w.env T d σ->D.nx σ w.H
 | .rt x=>∀ v,w.rel T x v->D.rt v w.H
 | .br d=>∀ σ,w.env T d σ->D.bk σ w.H
 | .ct d=>∀ σ,w.env T d σ->D.ct σ w.H
def lS (T:Tab) (m:MS) (E:XK):TS:=λD σ H=>∃ w d,w.H=H/\Ok T w/\w.env T d σ/\Jl T w (m d w.S) (QS T D) E
abbrev WS (X:Cx) (nm:Nm) (E:XK) (s:Stmt) (m:MS):Prop:=PS X s (lS (tb X nm) m E)
abbrev WSs (X:Cx) (nm:Nm) (E:XK) (s:List Stmt) (m:MS):Prop:=PSs X s (lS (tb X nm) m E)
theorem Qf8 {X:Cx} {e:Stmt} {t t':TS} (h:PS X e t) (k:∀ D σ H,t' D σ H->t D σ H):PS X e t':=⟨λpins s σ H D I q=>h.run pins s σ H D I (k D σ H q)⟩
theorem Qtx {X:Cx} {e:List Stmt} {t t':TS} (h:PSs X e t) (k:∀ D σ H,t' D σ H->t D σ H):PSs X e t':=⟨λpins s σ H D I q=>h.run pins s σ H D I (k D σ H q)⟩
section
variable {X:Cx} {nm:Nm} {E:XK} {pos:Pos}
theorem Qcd:WSs X nm E [] YK:=Qtx pss_nil λD σ H ⟨w,d,e,o,re,h⟩=>by
 subst e
 exact h.here o rfl σ re
theorem Kg {s:Stmt} {m:MS} (h:WS X nm E s m):WSs X nm E [s] m:=pss_one h
theorem Kl {s:Stmt} {ss:List Stmt} {m k:MS} (h1:WS X nm E s m) (h2:WSs X nm E ss k):WSs X nm E (s::ss) (Jh m k):=Qtx (pss_cons h1 h2) λD σ H ⟨w,d,e,o,re,h⟩=>by
 subst e
 refine ⟨w,d,rfl,o,re,h.bind.imp λf w1 o1 x1 q=>?_⟩
 cases f with
 | nx d1=>exact fun σ1 re1=>⟨w1,d1,rfl,o1,re1,q⟩
 | rt x=>exact q w1 o1 (Ext.refl _) rfl
 | br d1=>exact q w1 o1 (Ext.refl _) rfl
 | ct d1=>exact q w1 o1 (Ext.refl _) rfl
def sBad:MS:=λ_ _=>.bad
theorem Qs4 {s:Stmt}:WS X nm E s sBad:=Qf8 ps_never λD σ H ⟨w,d,e,o,re,h⟩=>h.elim
theorem YZ {e:Expr} {m:ME} (he:WE X nm E e m) (hs:swapsWith e none pos.line X.env=pure false:=by rfl):WS X nm E (.Expr e pos) (JX m):=Qf8 (ps_expr he hs) λD σ H ⟨w,d,e,o,re,h⟩=>by
 subst e
 refine Yq (YD o re h) ?_
 rintro v H1 ⟨w1,x,rfl,o1,x1,re1,rv,h1⟩
 exact h1.here o1 rfl σ re1
theorem Yd {e:Expr} {m:ME} (he:WE X nm E e m):WS X nm E (.Return (some e) pos) (Jv m):=Qf8 (ps_ret he) λD σ H ⟨w,d,e,o,re,h⟩=>by
 subst e
 refine Yq (YD o re h) ?_
 rintro v H1 ⟨w1,x,rfl,o1,x1,re1,rv,h1⟩
 exact h1.here o1 rfl v rv
theorem Qel {c:Expr} {a b:List Stmt} {mc:MT} {m k:MS} (hc:WT X nm E c mc) (ha:WSs X nm E a m) (hb:WSs X nm E b k):WS X nm E (.If c a b pos) (Yl mc m k):=Qf8 (ps_if hc ha hb) λD σ H ⟨w,d,e,o,re,h⟩=>by
 subst e
 refine Qhi (Qj5 o re h) ?_
 rintro x H1 ⟨w1,rfl,o1,x1,re1,h1⟩
 cases x with
 | true=>exact ⟨w1,d,rfl,o1,re1,h1⟩
 | false=>exact ⟨w1,d,rfl,o1,re1,h1⟩
theorem Qcy {i:Nat} {x:Str} {e:Expr} {m:ME} {pos':Pos} (hN:X.N.Nodup) (he:WE X nm E e m) (hi:X.N[i]?=some x:=by rfl) (hx:Loc X.env.scope x:=by first | exact Or.inl rfl | exact Or.inr rfl) (hs:swapsWith e (some (.Name x pos')) pos.line X.env=pure false:=by rfl)
  (hf:X.fn x=true\/X.env.scope.names.lookup x=some .local:=by first | exact .inl rfl | exact .inr rfl | assumption):WS X nm E (.Assign [.Name x pos'] e pos) (Jx (.nm i) m):=Qf8 (ps_set hN hi hx he hs hf) λD σ H ⟨w,d,e,o,re,h⟩=>by
 subst e
 refine Yq (YD o re h) ?_
 rintro v H1 ⟨w1,x,rfl,o1,x1,re1,rv,h1⟩
 exact h1.here o1 rfl _ (re1.set i rv)
theorem Qzu {tg e:Expr} {m:ME} {t:Tg} (he:WE X nm E e m) (hg:WG X nm tg t) (hs:swapsWithSole [tg] e pos.line X.env=pure false:=by rfl) (hw:swappedStores [tg] e X.env=pure none:=by rfl)
  (h1:(assignEach [tg] X.env).map (·.2)=[assign tg X.env]:=by rfl):WS X nm E (.Assign [tg] e pos) (Jx t m):=Qf8 (ps_asg he hg hs hw h1) λD σ H ⟨w,d,e,o,re,h⟩=>by
 subst e
 refine Yq (YD o re h) ?_
 rintro v H1 ⟨w1,x,rfl,o1,x1,re1,rv,h1⟩
 cases g:JG t x d with
 | none=>rw [g] at h1; exact h1.elim
 | some d1 =>
  rw [g] at h1
  exact ⟨w1,d,x,d1,rfl,o1,re1,rv,g,fun σ1 re' _=>h1.here o1 rfl σ1 re'⟩
theorem Qoi {i j:Nat} {x y:Str} {a b:Expr} {m:MA} {px py pt:Pos} {kt k2 pt2} (hc:X.calm=true) (hN:X.N.Nodup) (ha:WA X nm E [a,b] m) (hi:X.N[i]?=some x:=by rfl) (hj:X.N[j]?=some y:=by rfl) (hij:i≠j:=by decide)
  (hx:X.env.scope.names.lookup x=some .local:=by rfl) (hy:X.env.scope.names.lookup y=some .local:=by rfl)
  (hw:swappedStores [.Tuple [.Name x px,.Name y py] kt pt] (.Tuple [a,b] k2 pt2) X.env=pure (some [x,y]):=by rfl)
  (hs:swapsWithSole [.Tuple [.Name x px,.Name y py] kt pt] (.Tuple [a,b] k2 pt2) pos.line X.env=pure false:=by rfl) :
  WS X nm E (.Assign [.Tuple [.Name x px,.Name y py] kt pt] (.Tuple [a,b] k2 pt2) pos) (Jx (.tp [.nm i,.nm j]) (Jt m)):=Qf8 (ps_par hc hN hi hj hij hx hy ha hw hs) λD σ H ⟨w,d,e,o,re,h⟩=>by
 subst e
 have h':Jl (tb X nm) w ((m d w.S).bind λxs S1=>(if Nat.ble xs.length Jy then Out.ok (Mir.W.tup xs) S1 else .bad).bind λx S1=>match JG (.tp [.nm i,.nm j]) x d with | some d1=>.ok (Fl.nx d1) S1 | none=>.bad) (QS (tb X nm) D) E:=by
  have hh:Jl (tb X nm) w (((m d w.S).bind λxs S1=>if Nat.ble xs.length Jy then Out.ok (Mir.W.tup xs) S1 else .bad).bind λx S1=>match JG (.tp [.nm i,.nm j]) x d with | some d1=>.ok (Fl.nx d1) S1 | none=>.bad) (QS (tb X nm) D) E:=h
  cases g:m d w.S with
  | ok xs S1=>rw [g] at hh; exact hh
  | err c fs S1=>rw [g] at hh; exact hh
  | bad=>rw [g] at hh; exact hh
 refine Qev (Qc7 o re h') ?_
 rintro vs H1 ⟨w1,xs,rfl,o1,x1,re1,rv,h1⟩
 cases hl:Nat.ble xs.length Jy with
 | false=>rw [hl] at h1; exact h1.elim
 | true =>
  rw [hl] at h1
  cases rv with
  | nil=>exact h1.elim
  | @cons xa va xs vs ha' q=>cases q with
   | nil=>exact h1.elim
   | @cons xb vb xs vs hb' q=>cases q with
    | nil=>exact ⟨va,vb,rfl,h1.here o1 rfl _ ((re1.set i ha').set j hb')⟩
    | cons hc' q=>exact h1.elim
def lI (T:Tab) (m:MI) (E:XK):TI:=fun σ H R=>∃ w d,w.H=H/\Ok T w/\w.env T d σ/\Jl T w (m d w.S) (λp w'=>∀ J,Walk T w' p.1 p.2 J->R J w'.H) E
abbrev WI (X:Cx) (nm:Nm) (E:XK) (tg e:Expr) (m:MI):Prop:=PI X tg e (lI (tb X nm) m E)
theorem Qww {X:Cx} {tg e:Expr} {t t':TI} (h:PI X tg e t) (k:∀ σ H R,t' σ H R->t σ H R):PI X tg e t':=⟨λpins s σ H R I q=>h.run pins s σ H R I (k σ H R q)⟩
theorem QAv {X:Cx} {tg e:Expr} {t t':TI} (h:PI X tg e t) (h':PI X tg e t'):PI X tg e (fun σ H R=>t σ H R\/t' σ H R):=⟨λpins s σ H R I q=>q.elim (h.run pins s σ H R I) (h'.run pins s σ H R I)⟩
end
theorem Qth {S:Store} {g:Gd} (h:Ky S g=true) {e:GE} (hm:e∈g):Qru S e=true:=by
 induction g with
 | nil=>cases hm
 | cons p g ih =>
  have h':(if Qru S p then Ky S g else false)=true:=h
  cases e2:Qru S p with
  | false=>rw [e2] at h'; cases h'
  | true =>
   rw [e2] at h'
   rcases List.mem_cons.mp hm with z | z
   ·rw [z]; exact e2
   ·exact ih h' z
theorem Qu7 {S:Store} {g:Gd} (h:Ky S g=true) {n:Nat} {xs:List Mir.W} (hm:GE.l n xs∈g):S.get n=some (.lst xs):=by
 have h':(match S.get n with | some (.lst ys)=>JC ys xs | _=>false)=true:=Qth h hm
 cases e:S.get n with
 | none=>rw [e] at h'; cases h'
 | some so =>
  rw [e] at h'
  cases so with
  | lst zs=>rw [YM (show JC zs xs=true from h')]
  | dct _=>cases h'
  | dcx _=>cases h'
  | ins _ _=>cases h'
section
variable {T:Tab} {w:Wd}
theorem Qz3 {a:Addr} {xs:List Mir.W} {g:Gd} (h:∀ w',Ok T w'->ExtG w w'->Ky w'.S g=true->∃ vs,SqL T.K w'.H a vs/\w'.rels T xs vs):Walk T w xs g (Itl T.K a):=λw' o x st=>by
 obtain ⟨vs,sq,q⟩:=h w' o x st
 refine ⟨λi y e=>?_,vs,sq,by rw [q.length]; exact Nat.le_refl _⟩
 obtain ⟨v,e1,rv⟩:=q.get e
 refine ⟨⟨vs,v,sq,e1⟩,λv' H' hy=>?_⟩
 obtain ⟨eH,hv⟩:=hy
 have:=hv vs sq
 rw [e1] at this
 cases this
 exact ⟨w',eH.symm,o,Ext.refl _,rfl,rv⟩
end
end MW
namespace MW
open PySem PySem.Spec PyProof.Rows L2 Mir
section
variable {T:Tab} {w:Wd}
theorem Qz0 {a:Addr} {xs:List Mir.W} {g:Gd} (h:∀ w',Ok T w'->ExtG w w'->Ky w'.S g=true->∃ vs,SqT T.K w'.H a vs/\w'.rels T xs vs):Walk T w xs g (Itt T.K a):=λw' o x st=>by
 obtain ⟨vs,sq,q⟩:=h w' o x st
 refine ⟨λi y e=>?_,vs,sq,by rw [q.length]; exact Nat.le_refl _⟩
 obtain ⟨v,e1,rv⟩:=q.get e
 refine ⟨⟨vs,v,sq,e1⟩,λv' H' hy=>?_⟩
 obtain ⟨eH,hv⟩:=hy
 have:=hv vs sq
 rw [e1] at this
 cases this
 exact ⟨w',eH.symm,o,Ext.refl _,rfl,rv⟩
theorem Qz1 {x:Str} {z:List Nat} {g:Gd} (e:TL.tl x=z) (ha:okS z=true):Walk T w (z.map λc=>.str [c]) g (Its x):=λw' o _ st=>by
 subst e
 have hsz:x.cps.size=(TL.tl x).length:=by simp [TL.tl]
 refine ⟨λi y e=>?_,?_⟩
 ·rw [List.getElem?_map] at e
  cases q:(TL.tl x)[i]? with
  | none=>rw [q] at e; cases e
  | some c =>
   rw [q] at e
   cases e
   have hi:i<x.cps.size:=by rw [hsz]; exact (List.getElem?_eq_some_iff.mp q).1
   refine ⟨hi,λv H' hy=>?_⟩
   obtain ⟨eH,c',ec,rfl⟩:=hy
   have ecc:c'=c:=by
    have:x.cps[i]?=some c:=by
     have q2:x.cps.toList[i]?=some c:=q
     simpa using q2
    rw [this] at ec
    exact (Option.some.inj ec).symm
   subst ecc
   refine ⟨w',eH.symm,o,Ext.refl _,rfl,.str (by rfl) ?_⟩
   have:Nat.blt c' 128=true:=List.all_eq_true.mp (Bool.and_eq_true_iff.mp ha).1 c' (List.mem_of_getElem? q)
   show ((Nat.blt c' 128&&true)&&true)=true
   rw [this] <;> rfl
 ·show x.cps.size<=_
  rw [List.length_map,hsz]
  exact Nat.le_refl _
theorem Qz2 {lo:Int} {n:Nat} {g:Gd}:Walk T w (Qea lo n) g (Itr lo n):=λw' o _ st=>by
 have key:∀ (n:Nat) (lo:Int),(Qea lo n).length=n/\∀ i x,(Qea lo n)[i]?=some x->i<n/\x=.int (lo+i):=by
  intro n
  induction n with
  | zero=>intro lo; exact ⟨rfl,λi x e=>by cases e⟩
  | succ n ih =>
   intro lo
   obtain ⟨h1,h2⟩:=ih (lo+1)
   refine ⟨by show (Qea (lo+1) n).length+1=n+1; rw [h1],λi x e=>?_⟩
   cases i with
   | zero =>
    have e':some (Mir.W.int lo)=some x:=e
    cases e'
    exact ⟨Nat.succ_pos _,by rw [show lo+((0:Nat):Int)=lo from Int.add_zero lo]⟩
   | succ i =>
    obtain ⟨a,b⟩:=h2 i x e
    refine ⟨Nat.succ_lt_succ a,?_⟩
    rw [b]
    congr 1
    push_cast
    omega
 obtain ⟨h1,h2⟩:=key n lo
 refine ⟨λi x e=>?_,by show n<=_; rw [h1]; exact Nat.le_refl _⟩
 obtain ⟨a,b⟩:=h2 i x e
 refine ⟨a,λv H' hy=>?_⟩
 obtain ⟨eH,rfl⟩:=hy
 subst b
 exact ⟨w',eH.symm,o,Ext.refl _,rfl,.int _⟩
theorem Qv7 (o:Ok T w) {x:Mir.W} {v:V} {p:List Mir.W×Gd} (e:Ym w.S x=some p) (rv:w.rel T x v) (hl:(∃ xs,x=.lst xs)\/(∃ xs,x=.lsr xs)\/∃ n,x=.ref n):∃ a,v=.ref a/\∀ w',Ok T w'->ExtG w w'->Ky w'.S p.2=true->∃ vs,SqL T.K w'.H a vs/\w'.rels T p.1 vs:=by
 rcases hl with ⟨xs,rfl⟩ | ⟨xs,rfl⟩ | ⟨n,rfl⟩
 ·cases e
  obtain ⟨a,vs,rfl,h,q⟩:=rv.lst_inv
  exact ⟨a,rfl,λw' o' x' _=>⟨vs,SqL.of (o'.ex _ _ (x'.ex _ _ h)),q.mono x'.le x'.ex⟩⟩
 ·cases e
  obtain ⟨a,vs,rfl,h,q⟩:=rv.lsr_inv
  exact ⟨a,rfl,λw' o' x' _=>⟨vs,Qm6 (Same.trans x'.ex o'.ex) h,q.mono x'.le x'.ex⟩⟩
 ·have e2:(match w.S.get n with | some (.lst xs)=>some (xs,[.l n xs]) | _=>none)=some p:=e
  cases g:w.S.get n with
  | none=>rw [g] at e2; cases e2
  | some so =>
   rw [g] at e2
   cases so with
   | lst xs =>
    cases e2
    obtain ⟨a,rfl,hr⟩:=rv.ref_inv
    refine ⟨a,rfl,λw' o' x' st=>?_⟩
    have g':=Qu7 st List.mem_cons_self
    obtain ⟨a',vs,e3,_,_,h3,q⟩:=o'.lstAt g' (.ref (x'.le _ _ hr))
    cases e3
    exact ⟨vs,SqL.of h3,q⟩
   | dct _=>cases e2
   | dcx _=>cases e2
   | ins _ _=>cases e2
end
section
variable {X:Cx} {nm:Nm} {E:XK} {pos:Pos} {tg:Expr}
theorem YC {e:Expr} {m:ME} (h:WE X nm E e m):WI X nm E tg e (Ji m):=Qww (QAv (pi_list h) (QAv (pi_tup h) (pi_str h))) fun σ H R ⟨w,d,eH,o,re,h⟩=>by
 subst eH
 have h':Jl (tb X nm) w ((m d w.S).bind λx S1=>Kw (Ym S1 x) S1) (λp w'=>∀ J,Walk (tb X nm) w' p.1 p.2 J->R J w'.H) E:=h
 cases g:m d w.S with
 | bad=>rw [g] at h'; exact h'.elim
 | err c fs S1 =>
  rw [g] at h'
  exact .inl ⟨w,d,rfl,o,re,by rw [g]; exact h'⟩
 | ok x S1 =>
  rw [g] at h'
  have h2:Jl (tb X nm) w (Kw (Ym S1 x) S1) (λp w'=>∀ J,Walk (tb X nm) w' p.1 p.2 J->R J w'.H) E:=h'
  cases q:Ym S1 x with
  | none=>rw [q] at h2; exact h2.elim
  | some p =>
   rw [q] at h2
   have fin:∀ (hl:(∃ xs,x=.lst xs)\/(∃ xs,x=.lsr xs)\/∃ n,x=.ref n),iList X.K (lE (tb X nm) m E) σ w.H R:=λhl =>
    ⟨w,d,rfl,o,re,by
     rw [g]
     intro w1 o1 x1 hs v rv
     subst hs
     obtain ⟨a,rfl,k⟩:=Qv7 o1 q rv hl
     have k2:=k
     refine ⟨a,rfl,?_,h2 w1 o1 x1 rfl _ (Qz3 λw' o' x' st=>k w' o' x' st)⟩
     rcases hl with ⟨xs,rfl⟩ | ⟨xs,rfl⟩ | ⟨n,rfl⟩
     ·obtain ⟨a',vs,e1,h3,_⟩:=rv.lst_inv
      cases e1
      exact ⟨vs,SqL.of (o1.ex _ _ h3)⟩
     ·obtain ⟨a',vs,e1,h3,_⟩:=rv.lsr_inv
      cases e1
      exact ⟨vs,Qm6 o1.ex h3⟩
     ·have e2:(match w1.S.get n with | some (.lst xs)=>some (xs,[.l n xs]) | _=>none)=some p:=q
      cases g:w1.S.get n with
      | none=>rw [g] at e2; cases e2
      | some so =>
       rw [g] at e2
       cases so with
       | lst xs =>
        obtain ⟨a',vs,e3,_,_,h3,_⟩:=o1.lstAt g rv
        cases e3
        exact ⟨vs,SqL.of h3⟩
       | dct _=>cases e2
       | dcx _=>cases e2
       | ins _ _=>cases e2⟩
   cases x with
   | lst xs=>exact .inl (fin (.inl ⟨xs,rfl⟩))
   | lsr xs=>exact .inl (fin (.inr (.inl ⟨xs,rfl⟩)))
   | ref n=>exact .inl (fin (.inr (.inr ⟨n,rfl⟩)))
   | tup xs =>
    cases q
    refine .inr (.inl ⟨w,d,rfl,o,re,?_⟩)
    rw [g]
    intro w1 o1 x1 hs v rv
    subst hs
    obtain ⟨a,vs,rfl,sq,rr⟩:=rv.tup_inv
    exact ⟨a,rfl,⟨vs,Qer o1.ex sq⟩,h2 w1 o1 x1 rfl _ (Qz0 λw' o' x' st=>⟨vs,Qer (Same.trans x'.ex o'.ex) sq,rr.mono x'.le x'.ex⟩)⟩
   | str z =>
    cases q
    refine .inr (.inr ⟨w,d,rfl,o,re,?_⟩)
    rw [g]
    intro w1 o1 x1 hs v rv
    subst hs
    obtain ⟨x,rfl,e1,e2⟩:=rv.str_inv
    exact ⟨x,rfl,h2 w1 o1 x1 rfl _ (Qz1 e1 e2)⟩
   | _=>cases q
theorem Qv8 {i:Int} (h:Qj6 i=true): -(2 ^ 62)<=i/\i<2 ^ 62:=by
 obtain ⟨a,b⟩:=Bool.and_eq_true_iff.mp h
 have a':=of_decide_eq_true a
 have b':=of_decide_eq_true b
 omega
theorem Qe6 {a:Expr} {m:ME} {p:Pos} (h:WE X nm E a m) (hm:X.mg "range" = none) (hg:Gl X "range" := by rfl) (hs:starEach [a] X.env=[(false,eval a X.env)]:=by rfl):WI X nm E tg (.Call (.Name "range" p) [a] [] pos) (Qcs m) :=
 Qww (pi_range1 hg hm (Jf h Jp hs) hs) fun σ H R ⟨w,d,eH,o,re,h⟩=>by
  subst eH
  refine ⟨w,d,rfl,o,re,?_⟩
  show Jl _ w ((m d w.S).bind λx S1=>(Jb d S1).bind λxs S2=>.ok (x::xs) S2) _ _
  have h':Jl (tb X nm) w ((m d w.S).bind λy S2=>match y with | .int j=>if Qj6 j then .ok (Qea 0 j.toNat,[]) S2 else .bad | _=>.bad) (λp w'=>∀ J,Walk (tb X nm) w' p.1 p.2 J->R J w'.H) E:=h
  cases g:m d w.S with
  | bad=>rw [g] at h'; exact h'.elim
  | err c fs S1=>rw [g] at h'; exact h'
  | ok x S1 =>
   rw [g] at h'
   cases x with
   | int j =>
    intro w1 o1 x1 hs vs rv
    cases rv with
    | cons rj q=>cases q with
     | nil =>
      cases rj.int_inv
      have h2:Jl (tb X nm) w (if Qj6 j then .ok (Qea 0 j.toNat,[]) S1 else .bad) (λp w'=>∀ J,Walk (tb X nm) w' p.1 p.2 J->R J w'.H) E:=h'
      cases e:Qj6 j with
      | false=>rw [e] at h2; exact h2.elim
      | true =>
       rw [e] at h2
       obtain ⟨b1,b2⟩:=Qv8 e
       exact ⟨j,rfl,b1,b2,h2 w1 o1 x1 hs _ Qz2⟩
   | _=>exact h'.elim
theorem Qhd {iter:Expr} {body:List Stmt} {mi:MI} {t:Tg} {b:MS} (hp:PassesOwn (model X.prog X.w) X.A X.env X.xe) (hc:X.calm=true) (hi:WI X nm E tg iter mi) (hg:WG X nm tg t) (hb:WSs X nm E body b)
  (hs:∀ x,foldedSetIterable iter X.env x=pure x:=by intro _; rfl):WS X nm E (.For tg iter body [] pos) (KY mi t b):=Qf8 (ps_for hp hc hi hg hb hs) λD σ H ⟨w,d,eH,o,re,h⟩=>by
 subst eH
 refine ⟨w,d,rfl,o,re,Jl.bind h |>.imp λp w1 o1 x1 q J hw=>?_⟩
 obtain ⟨xs,g⟩:=p
 have re1:w1.env (tb X nm) d σ:=re.mono x1.le x1.ex
 refine ⟨λi m σ H=>∃ w' d',w'.H=H/\Ok (tb X nm) w'/\Ext w1 w'/\w'.env (tb X nm) d' σ/\m=xs.length-i/\i<=xs.length/\Jl (tb X nm) w' (YW g t b (xs.drop i) d' w'.S) (QS (tb X nm) D) E,
  ⟨xs.length,w1,d,rfl,o1,Ext.refl _,re1,rfl,Nat.zero_le _,q⟩,?_⟩
 rintro i m σ' H' ⟨w',d',rfl,o',x',re',rfl,hi',h'⟩
 cases hst:Ky w'.S g with
 | false =>
  exfalso
  cases e:xs.drop i with
  | nil =>
   rw [e] at h'
   have h2:Jl (tb X nm) w' (if Ky w'.S g then .ok (.nx d') w'.S else .bad) (QS (tb X nm) D) E:=h'
   rw [hst] at h2
   exact h2
  | cons y r =>
   rw [e] at h'
   have h2:Jl (tb X nm) w' (if Ky w'.S g then (match JG t y d' with | none=>.bad | some d1=>(b d1 w'.S).bind λf S1=>match f with | .nx d2=>YW g t b r d2 S1 | .ct d2=>YW g t b r d2 S1 | .br d2=>.ok (.nx d2) S1 | .rt w=>.ok (.rt w) S1) else .bad) (QS (tb X nm) D) E:=h'
   rw [hst] at h2
   exact h2
 | true =>
  obtain ⟨hgo,hstop⟩:=hw w' o' x'.g hst
  cases e:xs.drop i with
  | nil =>
   have hl:i=xs.length:=Nat.le_antisymm hi' (List.drop_eq_nil_iff.mp e)
   subst hl
   rw [e] at h'
   have h2:Jl (tb X nm) w' (if Ky w'.S g then .ok (.nx d') w'.S else .bad) (QS (tb X nm) D) E:=h'
   rw [hst] at h2
   exact .inl ⟨hstop,Jl.here (Q:=QS (tb X nm) D) o' rfl h2 σ' re'⟩
  | cons y r =>
   rw [e] at h'
   have h2:Jl (tb X nm) w' (if Ky w'.S g then (match JG t y d' with | none=>.bad | some d1=>(b d1 w'.S).bind λf S1=>match f with | .nx d2=>YW g t b r d2 S1 | .ct d2=>YW g t b r d2 S1 | .br d2=>.ok (.nx d2) S1 | .rt w=>.ok (.rt w) S1) else .bad) (QS (tb X nm) D) E:=h'
   rw [hst] at h2
   have hiy:xs[i]?=some y:=by
    have:=List.getElem?_drop (xs:=xs) (i:=i) (j:=0)
    rw [e] at this
    simpa using this.symm
   have hr:r=xs.drop (i+1):=by
    have:=List.drop_drop (i:=1) (j:=i) (l:=xs)
    rw [e] at this
    simpa using this
   have hlt:i<xs.length:=(List.getElem?_eq_some_iff.mp hiy).1
   obtain ⟨go,yl⟩:=hgo i y hiy
   cases gt:JG t y d' with
   | none =>
    rw [gt] at h2
    exact h2.elim
   | some d1 =>
    rw [gt] at h2
    refine .inr ⟨go,fun σ' H'=>∃ w' d',w'.H=H'/\Ok (tb X nm) w'/\Ext w1 w'/\w'.env (tb X nm) d' σ'/\Jl (tb X nm) w' (YW g t b r d' w'.S) (QS (tb X nm) D) E,?_,λv H2 hy=>?_⟩
    ·rintro σ2 H2 ⟨w2,d2,rfl,o2,x2,re2,h3⟩
     rw [hr] at h3
     exact ⟨xs.length-(i+1),by omega,w2,d2,rfl,o2,x2,re2,rfl,hlt,h3⟩
    ·obtain ⟨w2,rfl,o2,x2,hS,rv⟩:=yl v H2 hy
     refine ⟨w2,d',y,d1,rfl,o2,re'.mono x2.le x2.ex,rv,gt,fun σ2 re2 _=>⟨w2,d1,rfl,o2,re2,?_⟩⟩
     rw [hS]
     refine ((Jl.bind h2).mono x2).imp λf w3 o3 x3 h3=>?_
     have x13:Ext w1 w3:=(x'.trans x2).trans x3
     cases f with
     | nx d2=>exact fun σ3 re3=>⟨w3,d2,rfl,o3,x13,re3,h3⟩
     | ct d2=>exact fun σ3 re3=>⟨w3,d2,rfl,o3,x13,re3,h3⟩
     | br d2=>exact h3 w3 o3 (Ext.refl _) rfl
     | rt x=>exact h3 w3 o3 (Ext.refl _) rfl
theorem Qnk {c:Expr} {body:List Stmt} {mc:MT} {b:MS} {n:Nat} (hp:PassesOwn (model X.prog X.w) X.A X.env X.xe) (hc:WT X nm E c mc) (hb:WSs X nm E body b):WS X nm E (.While c body [] pos) (Qc3 mc b n):=Qf8 (ps_while hp hc hb) λD σ H ⟨w,d,eH,o,re,h⟩=>by
 subst eH
 refine ⟨λm σ H=>∃ w d,w.H=H/\Ok (tb X nm) w/\w.env (tb X nm) d σ/\Jl (tb X nm) w (Qc3 mc b m d w.S) (QS (tb X nm) D) E,⟨n,w,d,rfl,o,re,h⟩,?_⟩
 rintro m σ' H' ⟨w',d',rfl,o',re',h'⟩
 cases m with
 | zero=>exact h'.elim
 | succ m =>
  have h2:Jl (tb X nm) w' ((mc d' w'.S).bind λx S1=>if x then (b d' S1).bind λf S2=>match f with | .nx d2=>Qc3 mc b m d2 S2 | .ct d2=>Qc3 mc b m d2 S2 | .br d2=>.ok (.nx d2) S2 | .rt w=>.ok (.rt w) S2 else .ok (.nx d') S1) (QS (tb X nm) D) E:=h'
  refine Qhi (Qj5 o' re' h2) ?_
  rintro x H1 ⟨w1,rfl,o1,x1,re1,h1⟩
  cases x with
  | false=>exact Jl.here (Q:=QS (tb X nm) D) o1 rfl h1 σ' re1
  | true =>
   refine ⟨fun σ' H'=>∃ w d,w.H=H'/\Ok (tb X nm) w/\w.env (tb X nm) d σ'/\Jl (tb X nm) w (Qc3 mc b m d w.S) (QS (tb X nm) D) E,fun σ2 H2 k=>⟨m,Nat.lt_succ_self _,k⟩,w1,d',rfl,o1,re1,?_⟩
   refine (Jl.bind h1).imp λf w3 o3 x3 h3=>?_
   cases f with
   | nx d2=>exact fun σ3 re3=>⟨w3,d2,rfl,o3,re3,h3⟩
   | ct d2=>exact fun σ3 re3=>⟨w3,d2,rfl,o3,re3,h3⟩
   | br d2=>exact h3 w3 o3 (Ext.refl _) rfl
   | rt x=>exact h3 w3 o3 (Ext.refl _) rfl
end
section
variable {P:Program} {w:World} {K:Frag} {mg:Str->Option Value} {base:Heap} {nm:Nm}
theorem YB {x qual:Str} {st:Stmt} {f:Addr} {fd:FuncData} {N ps:List Str} {k np n:Nat} {b:MS} (F:Fun K x qual st f fd) (S:FnScope N ps (defScope st)) (hp:ps.length=np) (hn:N.length=n)
  (hb:∀ (cdv:Value) (A:Around) (outer:List PySem.Env) (s:Shared) (H:Hp) (E:XK),Room k (A.deeper (envOfC qual (defScope st) s.heap.objs.size f cdv))->WSs (cxOf CX0 P w K mg base N qual (defScope st) f cdv A outer s H E).nox nm E (defBody st) b) :
  FnOk P w K mg base CX0 (k+1) f fd ps (Kc ⟨K,mg,nm⟩ (fnOf np n b)):=by
 have len:∀ vs H Q E,Kc ⟨K,mg,nm⟩ (fnOf np n b) vs H Q E->vs.length=ps.length:=by
  rintro vs H Q E ⟨w,ws,e,o,r,h⟩
  have h':Jl ⟨K,mg,nm⟩ w (if !Nat.beq ws.length np then .bad else _) _ E:=h
  cases g:Nat.beq ws.length np with
  | false=>rw [g] at h'; exact h'.elim
  | true=>rw [<- r.length,hp]; exact Nat.eq_of_beq_eq_true g
 refine F.ok S len (λcdv A outer s H vs Q E hr hsp=>⟨_,hb cdv A outer s H E hr,?_⟩)
 obtain ⟨w,ws,e,o,r,h⟩:=hsp
 have h':Jl ⟨K,mg,nm⟩ w (if !Nat.beq ws.length np then .bad else (b (ws.map some++List.replicate (n-ws.length) none) w.S).bind λf S1=>match f with | .nx _=>.ok .non S1 | .rt w=>.ok w S1 | _=>.bad) (QW ⟨K,mg,nm⟩ Q) E:=h
 cases g:Nat.beq ws.length np with
 | false=>rw [g] at h'; exact h'.elim
 | true =>
  rw [g] at h'
  refine ⟨w,ws.map some++List.replicate (n-ws.length) none,e,o,?_,(Jl.bind h').imp λf w1 o1 x1 q=>?_⟩
  ·have:=RelEnv.start r n
   unfold L2.start
   rw [hn]
   exact this
  ·cases f with
   | nx d=>exact fun σ _=>Jl.val (T:=⟨K,mg,nm⟩) o1 q .non
   | rt x=>exact q w1 o1 (Ext.refl _) rfl
   | br d=>exact q.elim
   | ct d=>exact q.elim
end
section
variable {X:Cx} {nm:Nm} {E:XK} {pos p:Pos} {k:Nat} {f:Addr} {fd:FuncData} {ps:List Str} {m:MF} {x:Str} {e:Expr} {es:List Expr} {a:MA} {CX:CXT}
theorem Qxr (F:FnOk X.prog X.w X.K X.mg X.base CX k f fd ps (Kc (tb X nm) m)) (hr:Room k X.A) (hm:X.mg x=some (.ref f)) (hk:PySem.W.keepIn X.K (.ref f)=true) (hb:Binds X.K fd ps []) (hx:Passes CX X E) (ha:WA X nm E (e::es) a) (hg:Gl X x:=by rfl)
  (hdb:(x == ("__debug__" : Str))=false:=by decide) (he:starEach (e::es) X.env=(false,eval e X.env)::starEach es X.env:=by rfl) (hpl:(backTo pos (starEach es X.env)).any (·.1)=false:=by rfl):WE X nm E (.Call (.Name x p) (e::es) [] pos) (Jg m a) :=
 Yw (pe_call F hr hg hm hk hb .nil hx ha hdb he hpl) fun σ H Q ⟨w,d,eH,o,re,h⟩=>by
  subst eH
  refine Qev (Qc7 o re h) ?_
  rintro vs H1 ⟨w1,xs,rfl,o1,x1,re1,rv,h1⟩
  rw [List.append_nil]
  exact ⟨w1,xs,rfl,o1,rv,h1⟩
theorem Qu2 (F:FnOk X.prog X.w X.K X.mg X.base CX k f fd ps (Kc (tb X nm) m)) (hr:Room k X.A) (hm:X.mg x=some (.ref f)) (hk:PySem.W.keepIn X.K (.ref f)=true) (hb:Binds X.K fd ps []) (hx:Passes CX X E) (hg:Gl X x:=by rfl)
  (hdb:(x == ("__debug__" : Str))=false:=by decide):WE X nm E (.Call (.Name x p) [] [] pos) (Jg m Jb) :=
 Yw (pe_call0 F hr hg hm hk hb .nil hx hdb) fun σ H Q ⟨w,d,eH,o,re,h⟩=>by
  subst eH
  exact ⟨w,[],rfl,o,.nil,h⟩
end
theorem Qhy {z:List Nat} (h:okS z=true):z.length<=Jy:=Nat.le_of_ble_eq_true (Bool.and_eq_true_iff.mp h).2
theorem Qmh {z:List Nat} (h1:∀ c∈z,c<128) (h2:z.length<=Jy):okS z=true :=
 Bool.and_eq_true_iff.mpr ⟨List.all_eq_true.mpr λc hc=>Nat.ble_eq_true_of_le (h1 c hc),Nat.ble_eq_true_of_le h2⟩
theorem Qyr {y z:List Nat} (h:okS z=true) (hs:∀ c∈y,c∈z) (hl:y.length<=z.length):okS y=true:=Qmh (λc hc=>Qec h c (hs c hc)) (Nat.le_trans hl (Qhy h))
theorem Qkq {n:Nat} (h:n<=Jy):n<=sizeLine:=Nat.le_trans h (by decide)
theorem Qd5 {x:Str} {z:List Nat} (e:TL.tl x=z):x.length=z.length:=by rw [TL.len_tl,e]
theorem Qou {x y:Str}:(x=y)↔TL.tl x=TL.tl y:=⟨λh=>by rw [h],TL.ext_tl⟩
section
variable {T:Tab} {w:Wd}
theorem Qrh (o:Ok T w) {n:Nat} {x:Mir.W} {v:V} (hd:Kz n (rd w.S x)=true) (h:w.rel T x v):Dp T.K w.H v (toD (rd w.S x))/\(toD (rd w.S x)).canLay0=true/\(toD (rd w.S x)).depth<=n:=by
 cases x with
 | ref m =>
  cases g:w.S.get m with
  | none =>
   have e:rd w.S (.ref m)=.ref m:=by show (match w.S.get m with | some (.lst xs)=>Mir.W.lst xs | _=>.ref m)=_; rw [g]
   rw [e] at hd
   cases n <;> cases hd
  | some so =>
   cases so with
   | lst xs =>
    have e:rd w.S (.ref m)=.lst xs:=by show (match w.S.get m with | some (.lst xs)=>Mir.W.lst xs | _=>.ref m)=_; rw [g]
    rw [e] at hd ⊢
    obtain ⟨a,vs,rfl,_,_,h3,q⟩:=o.lstAt g h
    cases n with
    | zero=>cases hd
    | succ n =>
     obtain ⟨h1,h2,h4⟩:=dps_of o n xs vs hd q
     exact ⟨.lst (SqL.of h3) h1,by show PyData.canLayAll0 (JN xs)=true; exact h2,by show PyData.depthAll (JN xs)+1<=n+1; omega⟩
   | dct _ =>
    have e:rd w.S (.ref m)=.ref m:=by show (match w.S.get m with | some (.lst xs)=>Mir.W.lst xs | _=>.ref m)=_; rw [g]
    rw [e] at hd
    cases n <;> cases hd
   | dcx _ =>
    have e:rd w.S (.ref m)=.ref m:=by show (match w.S.get m with | some (.lst xs)=>Mir.W.lst xs | _=>.ref m)=_; rw [g]
    rw [e] at hd
    cases n <;> cases hd
   | ins _ _ =>
    have e:rd w.S (.ref m)=.ref m:=by show (match w.S.get m with | some (.lst xs)=>Mir.W.lst xs | _=>.ref m)=_; rw [g]
    rw [e] at hd
    cases n <;> cases hd
 | _=>exact Qzh o n _ v hd h
end
theorem Qe9 {d:PyData} (h1:d.canLay0=true) (h2:d.depth<=30):SeqAt.shaped d=true:=Bool.and_eq_true_iff.mpr ⟨h1,decide_eq_true (by omega)⟩
section
variable {X:Cx} {nm:Nm} {E:XK}
theorem Qdx (hu:X.A.units+64<cLine):OpR X (compareOp .Eq) (Y7 (tb X nm) Km E):=by
 rintro pins s σ H x y v u Q I r1 r2 ⟨w,a,b,rfl,o,ra,rb,h⟩
 have h':Jl (tb X nm) w (bW (if Kz 30 (rd w.S a)&&Kz 30 (rd w.S b) then Yx (rd w.S a) (rd w.S b) else none) w.S) (QW (tb X nm) Q) E:=h
 cases e:(Kz 30 (rd w.S a)&&Kz 30 (rd w.S b)) with
 | false=>rw [e] at h'; exact h'.elim
 | true =>
  rw [e] at h'
  obtain ⟨e1,e2⟩:=Bool.and_eq_true_iff.mp e
  obtain ⟨d1,c1,p1⟩:=Qrh o e1 ra
  obtain ⟨d2,c2,p2⟩:=Qrh o e2 rb
  refine op_eqD hu pins s σ _ x y v u Q I r1 r2 ⟨_,_,d1,d2,Qe9 c1 p1,Qe9 c2 p2,?_⟩
  have h2:Jl (tb X nm) w (bW (Yx (rd w.S a) (rd w.S b)) w.S) (QW (tb X nm) Q) E:=h'
  cases g:Yx (rd w.S a) (rd w.S b) with
  | none=>rw [g] at h2; exact h2.elim
  | some c =>
   rw [g] at h2
   rw [Qwe _ _ c g]
   exact Jl.val o h2 (.bl c)
theorem Qmc (hu:X.A.units+64<cLine):OpR X (compareOp .NotEq) (Y7 (tb X nm) Ku E):=by
 rintro pins s σ H x y v u Q I r1 r2 ⟨w,a,b,rfl,o,ra,rb,h⟩
 have h':Jl (tb X nm) w (bW ((if Kz 30 (rd w.S a)&&Kz 30 (rd w.S b) then Yx (rd w.S a) (rd w.S b) else none).map (! ·)) w.S) (QW (tb X nm) Q) E:=h
 cases e:(Kz 30 (rd w.S a)&&Kz 30 (rd w.S b)) with
 | false=>rw [e] at h'; exact h'.elim
 | true =>
  rw [e] at h'
  obtain ⟨e1,e2⟩:=Bool.and_eq_true_iff.mp e
  obtain ⟨d1,c1,p1⟩:=Qrh o e1 ra
  obtain ⟨d2,c2,p2⟩:=Qrh o e2 rb
  refine op_neD hu pins s σ _ x y v u Q I r1 r2 ⟨_,_,d1,d2,Qe9 c1 p1,Qe9 c2 p2,?_⟩
  have h2:Jl (tb X nm) w (bW ((Yx (rd w.S a) (rd w.S b)).map (! ·)) w.S) (QW (tb X nm) Q) E:=h'
  cases g:Yx (rd w.S a) (rd w.S b) with
  | none=>rw [g] at h2; exact h2.elim
  | some c =>
   rw [g] at h2
   rw [Qwe _ _ c g]
   exact Jl.val o h2 (.bl (!c))
theorem Qxv {T:Tab} {r:Nat->Option Addr} {G:Hp} {x y:Str} {a b:List Nat} (e1:TL.tl x=a) (e2:TL.tl y=b) (h1:okS a=true) (h2:okS b=true) (hl:a.length+b.length<=Jy):RelW T r G (.str (a++b)) (.str (x++y)) :=
 .str (by rw [TL.tl_append,e1,e2]) (Qmh (λc hc=>(List.mem_append.mp hc).elim (Qec h1 c) (Qec h2 c)) (by rw [List.length_append]; exact hl))
theorem Yg:OpR X (binaryOp .Add) (Y7 (tb X nm) JL E):=by
 rintro pins s σ H x y v u Q I r1 r2 ⟨w,a,b,rfl,o,ra,rb,h⟩
 have lists:∀ xs,rd w.S a=.lst xs->Jl (tb X nm) w (match rd w.S b with | .lst b=>if Nat.ble (xs.length+b.length) Jy then .ok (.lst (xs++b)) w.S else .bad | _=>.bad) (QW (tb X nm) Q) E->wpAny (model X.prog X.w) X.A (binaryOp .Add v u) (EP X pins σ Q) X.xe s:=by
  intro xs ea h'
  cases eb:rd w.S b with
  | lst ys =>
   rw [eb] at h'
   obtain ⟨p1,vs,rfl,g1,q1⟩:=o.lst ea ra
   obtain ⟨p2,us,rfl,g2,q2⟩:=o.lst eb rb
   have h2:Jl (tb X nm) w (if Nat.ble (xs.length+ys.length) Jy then .ok (.lst (xs++ys)) w.S else .bad) (QW (tb X nm) Q) E:=h'
   cases el:Nat.ble (xs.length+ys.length) Jy with
   | false=>rw [el] at h2; exact h2.elim
   | true =>
    rw [el] at h2
    refine op_cat pins s σ _ _ _ v u Q I r1 r2 ⟨p1,p2,vs,us,rfl,rfl,g1,g2,by rw [<- q1.length,<- q2.length]; exact Qeu el,λp hp=>?_⟩
    exact h2 (w.layF p (.lst (vs++us))) (o.layF hp) (Ext.layF o hp) rfl (.ref p) (.lst (by show upd w.G p _ p=_; exact upd_same) ((q1.append q2).mono (Ext.layF o hp).le (Ext.layF o hp).ex))
  | _=>rw [eb] at h'; exact h'.elim
 cases a with
 | int i =>
  cases b with
  | int j =>
   cases ra.int_inv
   cases rb.int_inv
   exact op_add pins s σ _ _ _ v u Q I r1 r2 ⟨i,j,rfl,rfl,Jl.val o h (.int _)⟩
  | _=>exact h.elim
 | str xa =>
  cases b with
  | str yb =>
   obtain ⟨x1,rfl,e1,k1⟩:=ra.str_inv
   obtain ⟨x2,rfl,e2,k2⟩:=rb.str_inv
   have h2:Jl (tb X nm) w (if Nat.ble (xa.length+yb.length) Jy then .ok (.str (xa++yb)) w.S else .bad) (QW (tb X nm) Q) E:=h
   cases el:Nat.ble (xa.length+yb.length) Jy with
   | false=>rw [el] at h2; exact h2.elim
   | true =>
    rw [el] at h2
    exact op_add_str pins s σ _ _ _ v u Q I r1 r2 ⟨x1,x2,rfl,rfl,by rw [Qd5 e1,Qd5 e2]; exact Qeu el,Jl.val o h2 (Qxv e1 e2 k1 k2 (Nat.le_of_ble_eq_true el))⟩
  | _=>exact h.elim
 | tup xs =>
  cases b with
  | tup ys =>
   obtain ⟨p1,vs,rfl,g1,q1⟩:=ra.tup_inv
   obtain ⟨p2,us,rfl,g2,q2⟩:=rb.tup_inv
   have h2:Jl (tb X nm) w (if Nat.ble (xs.length+ys.length) Jy then .ok (.tup (xs++ys)) w.S else .bad) (QW (tb X nm) Q) E:=h
   cases el:Nat.ble (xs.length+ys.length) Jy with
   | false=>rw [el] at h2; exact h2.elim
   | true =>
    rw [el] at h2
    refine op_catA pins s σ _ _ _ v u Q I r1 r2 ⟨p1,p2,vs,us,rfl,rfl,Qer o.ex g1,Qer o.ex g2,by rw [<- q1.length,<- q2.length]; exact Qeu el,λz=>?_,λ_ z=>?_,λ_ _ p hp=>?_⟩
    ·subst z
     cases q1
     exact Jl.val o h2 rb
    ·subst z
     cases q2
     rw [List.append_nil] at h2
     exact Jl.val o h2 ra
    ·exact h2 (w.layF p (.tup (vs++us))) (o.layF hp) (Ext.layF o hp) rfl (.ref p) (.tup (SqT.of (by show upd w.G p _ p=_; exact upd_same)) ((q1.append q2).mono (Ext.layF o hp).le (Ext.layF o hp).ex))
  | _=>exact h.elim
 | lst xs=>exact lists xs rfl h
 | ref n =>
  have h2:Jl (tb X nm) w (match rd w.S (.ref n) with | .lst a=>(match rd w.S b with | .lst b=>if Nat.ble (a.length+b.length) Jy then .ok (.lst (a++b)) w.S else .bad | _=>.bad) | _=>.bad) (QW (tb X nm) Q) E:=h
  cases ea:rd w.S (.ref n) with
  | lst xs=>rw [ea] at h2; exact lists xs ea h2
  | _=>rw [ea] at h2; exact h2.elim
 | _=>exact h.elim
theorem Qhw:OpR X (binaryOp .Sub) (Y7 (tb X nm) Qhx E):=by
 rintro pins s σ H x y v u Q I r1 r2 ⟨w,a,b,rfl,o,ra,rb,h⟩
 cases a with
 | int i =>
  cases b with
  | int j =>
   cases ra.int_inv
   cases rb.int_inv
   exact op_sub pins s σ _ _ _ v u Q I r1 r2 ⟨i,j,rfl,rfl,Jl.val o h (.int _)⟩
  | _=>exact h.elim
 | _=>exact h.elim
theorem Qrw {i:Int} (h:Qlu i=true): -(2 ^ 64)<i/\i<2 ^ 64:=by
 obtain ⟨a,b⟩:=Bool.and_eq_true_iff.mp h
 have a':=of_decide_eq_true a
 have b':=of_decide_eq_true b
 omega
theorem Qqt:OpR X (binaryOp .Mult) (Y7 (tb X nm) Qgw E):=by
 rintro pins s σ H x y v u Q I r1 r2 ⟨w,a,b,rfl,o,ra,rb,h⟩
 cases a with
 | int i =>
  cases b with
  | int j =>
   cases ra.int_inv
   cases rb.int_inv
   have h2:Jl (tb X nm) w (if Qlu i || Qlu j then .ok (.int (i*j)) w.S else .bad) (QW (tb X nm) Q) E:=h
   cases e:(Qlu i || Qlu j) with
   | false=>rw [e] at h2; exact h2.elim
   | true =>
    rw [e] at h2
    refine op_mul pins s σ _ _ _ v u Q I r1 r2 ⟨i,j,rfl,rfl,?_,Jl.val o h2 (.int _)⟩
    rcases Bool.or_eq_true_iff.mp e with z | z
    ·exact .inl (Qrw z)
    ·exact .inr (Qrw z)
  | _=>exact h.elim
 | _=>exact h.elim
theorem Qt4:OpR X (binaryOp .FloorDiv) (Y7 (tb X nm) Qme E):=by
 rintro pins s σ H x y v u Q I r1 r2 ⟨w,a,b,rfl,o,ra,rb,h⟩
 cases a with
 | int i =>
  cases b with
  | int j =>
   cases ra.int_inv
   cases rb.int_inv
   have h2:Jl (tb X nm) w (if decide (0<j)&&decide (j<1073741824) then .ok (.int (i / j)) w.S else .bad) (QW (tb X nm) Q) E:=h
   cases e:(decide (0<j)&&decide (j<1073741824)) with
   | false=>rw [e] at h2; exact h2.elim
   | true =>
    rw [e] at h2
    obtain ⟨e1,e2⟩:=Bool.and_eq_true_iff.mp e
    exact op_fdiv pins s σ _ _ _ v u Q I r1 r2 ⟨i,j,rfl,rfl,⟨of_decide_eq_true e1,of_decide_eq_true e2⟩,Jl.val o h2 (.int _)⟩
  | _=>exact h.elim
 | _=>exact h.elim
theorem Qmd:OpR X (binaryOp .Mod) (Y7 (tb X nm) Qe0 E):=by
 rintro pins s σ H x y v u Q I r1 r2 ⟨w,a,b,rfl,o,ra,rb,h⟩
 cases a with
 | int i =>
  cases b with
  | int j =>
   cases ra.int_inv
   cases rb.int_inv
   have h2:Jl (tb X nm) w (if decide (0<j) then .ok (.int (i % j)) w.S else .bad) (QW (tb X nm) Q) E:=h
   cases e:decide (0<j) with
   | false=>rw [e] at h2; exact h2.elim
   | true =>
    rw [e] at h2
    exact op_mod pins s σ _ _ _ v u Q I r1 r2 ⟨i,j,rfl,rfl,of_decide_eq_true e,Jl.val o h2 (.int _)⟩
  | _=>exact h.elim
 | _=>exact h.elim
theorem Qyp:OpR X (binaryOp .Pow) (Y7 (tb X nm) Qt6 E):=by
 rintro pins s σ H x y v u Q I r1 r2 ⟨w,a,b,rfl,o,ra,rb,h⟩
 cases a with
 | int i =>
  cases b with
  | int j =>
   cases ra.int_inv
   cases rb.int_inv
   have h2:Jl (tb X nm) w (if decide (0<=j)&&(decide (j<=1000)&&decide (i.natAbs<18446744073709551616)) then .ok (.int (i ^ j.toNat)) w.S else .bad) (QW (tb X nm) Q) E:=h
   cases e:(decide (0<=j)&&(decide (j<=1000)&&decide (i.natAbs<18446744073709551616))) with
   | false=>rw [e] at h2; exact h2.elim
   | true =>
    rw [e] at h2
    obtain ⟨e1,e2⟩:=Bool.and_eq_true_iff.mp e
    obtain ⟨e3,e4⟩:=Bool.and_eq_true_iff.mp e2
    have k1:=of_decide_eq_true e1
    have k2:=of_decide_eq_true e3
    have k3:=of_decide_eq_true e4
    exact op_pow pins s σ _ _ _ v u Q I r1 r2 ⟨i,j,rfl,rfl,⟨k1,by omega,by omega⟩,Jl.val o h2 (.int _)⟩
  | _=>exact h.elim
 | _=>exact h.elim
theorem Qqs:UnR X (unaryOp .USub) (lR1 (tb X nm) Qil E):=by
 rintro pins s σ H x v Q I r1 ⟨w,a,rfl,o,ra,h⟩
 cases a with
 | int i =>
  cases ra.int_inv
  exact un_neg pins s σ _ _ v Q I r1 ⟨i,rfl,Jl.val o h (.int _)⟩
 | _=>exact h.elim
theorem Qpo:∀ a b:List Nat,ltL a b=decide (a<b)
 | [],[]=>rfl
 | _::_,[]=>by simp [ltL]
 | [],_::_=>by simp [ltL]
 | a::r,b::s=>by
  have e:ltL (a::r) (b::s)=if Nat.blt a b then true else if Nat.beq a b then ltL r s else false:=rfl
  rw [e,Qpo r s]
  rw [Bool.eq_iff_iff]
  rw [decide_eq_true_iff,List.cons_lt_cons_iff]
  cases h1:Nat.blt a b with
  | true =>
   have:a<b:=Nat.le_of_ble_eq_true h1
   simp [this]
  | false =>
   have h1':¬ a<b:=λz=>by rw [show Nat.blt a b=true from Nat.ble_eq_true_of_le z] at h1; cases h1
   cases h2:Nat.beq a b with
   | true =>
    have:=Nat.eq_of_beq_eq_true h2
    subst this
    simp
   | false =>
    have:a≠b:=Nat.ne_of_beq_eq_false h2
    simp [this,h1']
theorem QAx:OpR X (compareOp .Lt) (Y7 (tb X nm) opLt E):=by
 rintro pins s σ H x y v u Q I r1 r2 ⟨w,a,b,rfl,o,ra,rb,h⟩
 cases a with
 | int i =>
  cases b with
  | int j =>
   cases ra.int_inv
   cases rb.int_inv
   exact op_lt pins s σ _ _ _ v u Q I r1 r2 ⟨i,j,rfl,rfl,Jl.val o h (.bl _)⟩
  | _=>exact h.elim
 | str xa =>
  cases b with
  | str yb =>
   obtain ⟨x1,rfl,e1,k1⟩:=ra.str_inv
   obtain ⟨x2,rfl,e2,k2⟩:=rb.str_inv
   refine op_lt_str pins s σ _ _ _ v u Q I r1 r2 ⟨x1,x2,rfl,rfl,?_⟩
   have e:decide (x1.cps.toList<x2.cps.toList)=ltL xa yb:=by rw [Qpo,<- e1,<- e2]
   rw [e]
   exact Jl.val o h (.bl _)
  | _=>exact h.elim
 | _=>exact h.elim
theorem Qt3:OpR X (compareOp .Gt) (Y7 (tb X nm) opGt E):=by
 rintro pins s σ H x y v u Q I r1 r2 ⟨w,a,b,rfl,o,ra,rb,h⟩
 have h:Jl (tb X nm) w (opLt b a w.S) (QW (tb X nm) Q) E:=h
 cases b with
 | int j =>
  cases a with
  | int i =>
   cases ra.int_inv
   cases rb.int_inv
   exact op_gt pins s σ _ _ _ v u Q I r1 r2 ⟨i,j,rfl,rfl,Jl.val o h (.bl _)⟩
  | _=>exact h.elim
 | str yb =>
  cases a with
  | str xa =>
   obtain ⟨x1,rfl,e1,k1⟩:=ra.str_inv
   obtain ⟨x2,rfl,e2,k2⟩:=rb.str_inv
   refine op_gt_str pins s σ _ _ _ v u Q I r1 r2 ⟨x1,x2,rfl,rfl,?_⟩
   have e:decide (x2.cps.toList<x1.cps.toList)=ltL yb xa:=by rw [Qpo,<- e1,<- e2]
   rw [e]
   exact Jl.val o h (.bl _)
  | _=>exact h.elim
 | _=>exact h.elim
theorem Qo8:OpR X (compareOp .LtE) (Y7 (tb X nm) Xb E):=by
 rintro pins s σ H x y v u Q I r1 r2 ⟨w,a,b,rfl,o,ra,rb,h⟩
 cases a with
 | int i =>
  cases b with
  | int j =>
   cases ra.int_inv
   cases rb.int_inv
   exact op_le pins s σ _ _ _ v u Q I r1 r2 ⟨i,j,rfl,rfl,Jl.val o h (.bl _)⟩
  | _=>exact h.elim
 | str xa =>
  cases b with
  | str yb =>
   obtain ⟨x1,rfl,e1,k1⟩:=ra.str_inv
   obtain ⟨x2,rfl,e2,k2⟩:=rb.str_inv
   refine op_le_str pins s σ _ _ _ v u Q I r1 r2 ⟨x1,x2,rfl,rfl,?_⟩
   have e:(!decide (x2.cps.toList<x1.cps.toList))=!ltL yb xa:=by rw [Qpo,<- e1,<- e2]
   rw [e]
   exact Jl.val o h (.bl _)
  | _=>exact h.elim
 | _=>exact h.elim
theorem QAy:OpR X (compareOp .GtE) (Y7 (tb X nm) opGe E):=by
 rintro pins s σ H x y v u Q I r1 r2 ⟨w,a,b,rfl,o,ra,rb,h⟩
 have h:Jl (tb X nm) w (Xb b a w.S) (QW (tb X nm) Q) E:=h
 cases b with
 | int j =>
  cases a with
  | int i =>
   cases ra.int_inv
   cases rb.int_inv
   exact op_ge pins s σ _ _ _ v u Q I r1 r2 ⟨i,j,rfl,rfl,Jl.val o h (.bl _)⟩
  | _=>exact h.elim
 | str yb =>
  cases a with
  | str xa =>
   obtain ⟨x1,rfl,e1,k1⟩:=ra.str_inv
   obtain ⟨x2,rfl,e2,k2⟩:=rb.str_inv
   refine op_ge_str pins s σ _ _ _ v u Q I r1 r2 ⟨x1,x2,rfl,rfl,?_⟩
   have e:(!decide (x1.cps.toList<x2.cps.toList))=!ltL xa yb:=by rw [Qpo,<- e1,<- e2]
   rw [e]
   exact Jl.val o h (.bl _)
  | _=>exact h.elim
 | _=>exact h.elim
end
theorem Qik {T:Tab} {w:Wd} {x:Mir.W} {v:V} (hf:flat x=true) (h:w.rel T x v):flatV v=true:=by
 cases x with
 | non=>cases h.non_inv; rfl
 | bl b=>cases h.bl_inv; rfl
 | int i=>cases h.int_inv; rfl
 | str z=>obtain ⟨x,rfl,_⟩:=h.str_inv; rfl
 | _=>cases hf
theorem Qvo {T:Tab} {w:Wd} {x y:Mir.W} {v u:V} {c:Bool} (hx:flat x=true) (hy:flat y=true) (h:w.rel T x v) (k:w.rel T y u) (e:Yx x y=some c):eqV v u=c:=by
 cases x with
 | non=>cases h.non_inv; cases y with
  | non=>cases k.non_inv; cases e; rfl
  | bl b=>cases k.bl_inv; cases e; rfl
  | int i=>cases k.int_inv; cases e; rfl
  | str z=>obtain ⟨x,rfl,_⟩:=k.str_inv; cases e; rfl
  | _=>cases hy
 | bl a=>cases h.bl_inv; cases y with
  | non=>cases k.non_inv; cases e; rfl
  | bl b=>cases k.bl_inv; cases e; rfl
  | int j=>cases k.int_inv; cases e; show ((if a then (1:Int) else 0) == j)=decide (Mir.b2i a=j); rw [Bool.beq_eq_decide_eq] <;> rfl
  | str z=>obtain ⟨x,rfl,_⟩:=k.str_inv; cases e; rfl
  | _=>cases hy
 | int i=>cases h.int_inv; cases y with
  | non=>cases k.non_inv; cases e; rfl
  | bl b=>cases k.bl_inv; cases e; show (i == (if b then (1:Int) else 0))=decide (i=Mir.b2i b); rw [Bool.beq_eq_decide_eq] <;> rfl
  | int j=>cases k.int_inv; cases e; show (i == j)=decide (i=j); rw [Bool.beq_eq_decide_eq]
  | str z=>obtain ⟨x,rfl,_⟩:=k.str_inv; cases e; rfl
  | _=>cases hy
 | str z=>obtain ⟨x,rfl,e1,_⟩:=h.str_inv; cases y with
  | non=>cases k.non_inv; cases e; rfl
  | bl b=>cases k.bl_inv; cases e; rfl
  | int i=>cases k.int_inv; cases e; rfl
  | str z2 =>
   obtain ⟨x2,rfl,e2,_⟩:=k.str_inv
   cases e
   show (x == x2)=JH z z2
   rw [Qe1,<- e1,<- e2,Bool.beq_eq_decide_eq]
   exact decide_eq_decide.mpr Qou
  | _=>cases hy
 | _=>cases hx
theorem Qpu {T:Tab} {w:Wd} {x:Mir.W} {v:V} (hx:flat x=true) (h:w.rel T x v):∀ {ys:List Mir.W} {us:List V} {c:Bool},ys.all flat=true->w.rels T ys us->YS x ys=some c->us.all flatV=true/\inV v us=c
 | [],us,c,_,k,e=>by cases k; cases e; exact ⟨rfl,rfl⟩
 | y::ys,us,c,hf,k,e=>by
  cases k with
  | @cons _ u _ us k q =>
   obtain ⟨f1,f2⟩:=Bool.and_eq_true_iff.mp (show (flat y&&ys.all flat)=true from hf)
   have e':(match Yx y x with | some true=>some true | some false=>YS x ys | none=>none)=some c:=e
   have fl:∀ (ys:List Mir.W) (us:List V),ys.all flat=true->w.rels T ys us->us.all flatV=true:=by
    intro ys
    induction ys with
    | nil=>intro us _ k; cases k; rfl
    | cons y ys ih =>
     intro us hf k
     cases k with
     | cons k q =>
      obtain ⟨f1,f2⟩:=Bool.and_eq_true_iff.mp (show (flat y&&ys.all flat)=true from hf)
      exact Bool.and_eq_true_iff.mpr ⟨Qik f1 k,ih _ f2 q⟩
   cases g:Yx y x with
   | none=>rw [g] at e'; cases e'
   | some b =>
    rw [g] at e'
    have hb:=Qvo f1 hx k h g
    cases b with
    | true =>
     cases e'
     refine ⟨Bool.and_eq_true_iff.mpr ⟨Qik f1 k,fl ys us f2 q⟩,?_⟩
     show (eqV u v || _)=true
     rw [hb] <;> rfl
    | false =>
     obtain ⟨h1,h2⟩:=Qpu hx h f2 q e'
     refine ⟨Bool.and_eq_true_iff.mpr ⟨Qik f1 k,h1⟩,?_⟩
     show (eqV u v || inV v us)=c
     rw [hb,h2] <;> rfl
theorem Qxb {x:Mir.W}:∀ {ys:List Mir.W} {c:Bool},YS x ys=some c->((JN ys).any λz=>PyData.eqv z (toD x))=c
 | [],c,e=>by cases e; rfl
 | y::ys,c,e=>by
  have e':(match Yx y x with | some true=>some true | some false=>YS x ys | none=>none)=some c:=e
  show (PyData.eqv (toD y) (toD x) || (JN ys).any _)=c
  cases g:Yx y x with
  | none=>rw [g] at e'; cases e'
  | some b =>
   rw [g] at e'
   rw [Qwe y x b g]
   cases b with
   | true=>cases e'; rfl
   | false=>rw [Qxb e'] <;> rfl
theorem Qq8 (c:Nat):∀ z:List Nat,memN c z=decide (c∈z)
 | []=>rfl
 | x::r=>by
  have e:memN c (x::r)=if Nat.beq x c then true else memN c r:=rfl
  rw [e,Qq8 c r]
  cases h:Nat.beq x c with
  | true=>have:=Nat.eq_of_beq_eq_true h; subst this; simp
  | false=>have:x≠c:=Nat.ne_of_beq_eq_false h; simp [Ne.symm this]
section
variable {X:Cx} {nm:Nm} {E:XK}
theorem Qse {T:Tab} {w:Wd} (o:Ok T w) {a b:Mir.W} {x y:V} {c:Bool} (ra:w.rel T a x) (rb:w.rel T b y) (e:isIn a b w.S=some c) :
  (∃ (k:Nat) (z:Str),x=.str ⟨#[k]⟩/\y=.str z/\decide (k∈z.cps.toList)=c) \/
  (∃ p us,y=.ref p/\SqT T.K w.H p us/\flatV x=true/\us.all flatV=true/\inV x us=c) \/
  ∃ d ds,Dp T.K w.H x d/\Dp T.K w.H y (.list ds)/\SeqAt.shaped d=true/\SeqAt.shaped (.list ds)=true/\(ds.any λz=>PyData.eqv z d)=c:=by
 have lists:∀ ys,rd w.S b=.lst ys->(if Kz 30 (rd w.S a)&&J5 29 ys then YS (rd w.S a) ys else none)=some c ->
   ∃ d ds,Dp T.K w.H x d/\Dp T.K w.H y (.list ds)/\SeqAt.shaped d=true/\SeqAt.shaped (.list ds)=true/\(ds.any λz=>PyData.eqv z d)=c:=by
  intro ys eb e
  cases g:(Kz 30 (rd w.S a)&&J5 29 ys) with
  | false=>rw [g] at e; cases e
  | true =>
   rw [g] at e
   obtain ⟨g1,g2⟩:=Bool.and_eq_true_iff.mp g
   obtain ⟨d1,c1,p1⟩:=Qrh o g1 ra
   have g3:Kz 30 (rd w.S b)=true:=by rw [eb]; exact g2
   obtain ⟨d2,c2,p2⟩:=Qrh o g3 rb
   rw [eb] at d2 c2 p2
   exact ⟨_,JN ys,d1,d2,Qe9 c1 p1,Qe9 c2 p2,Qxb e⟩
 cases b with
 | str z =>
  cases a with
  | str q =>
   cases q with
   | nil=>cases e
   | cons k r=>cases r with
    | cons _ _=>cases e
    | nil =>
     obtain ⟨x1,rfl,e1,_⟩:=ra.str_inv
     obtain ⟨x2,rfl,e2,_⟩:=rb.str_inv
     refine .inl ⟨k,x2,?_,rfl,?_⟩
     ·rw [<- Qox e1]
     ·have e':some (memN k z)=some c:=e
      cases e'
      rw [Qq8,<- e2]
  | _=>cases e
 | tup ys =>
  have e':(if flat a&&ys.all flat then YS a ys else none)=some c:=e
  cases g:(flat a&&ys.all flat) with
  | false=>rw [g] at e'; cases e'
  | true =>
   rw [g] at e'
   obtain ⟨g1,g2⟩:=Bool.and_eq_true_iff.mp g
   obtain ⟨p,us,rfl,sq,q⟩:=rb.tup_inv
   obtain ⟨h1,h2⟩:=Qpu g1 ra g2 q e'
   exact .inr (.inl ⟨p,us,rfl,Qer o.ex sq,Qik g1 ra,h1,h2⟩)
 | lst ys=>exact .inr (.inr (lists ys rfl e))
 | ref n =>
  have e':(match rd w.S (.ref n) with | .lst ys=>if Kz 30 (rd w.S a)&&J5 29 ys then YS (rd w.S a) ys else none | _=>none)=some c:=e
  cases eb:rd w.S (.ref n) with
  | lst ys=>rw [eb] at e'; exact .inr (.inr (lists ys eb e'))
  | _=>rw [eb] at e'; cases e'
 | _=>cases e
theorem Qkn (hu:X.A.units+65<cLine):OpR X (compareOp .In) (Y7 (tb X nm) J8 E):=by
 rintro pins s σ H x y v u Q I r1 r2 ⟨w,a,b,rfl,o,ra,rb,h⟩
 have h':Jl (tb X nm) w (bW (isIn a b w.S) w.S) (QW (tb X nm) Q) E:=h
 cases e:isIn a b w.S with
 | none=>rw [e] at h'; exact h'.elim
 | some c =>
  rw [e] at h'
  have q:Q (.bl c) w.H:=Jl.val o h' (.bl c)
  rcases Qse o ra rb e with ⟨k,z,rfl,rfl,e1⟩ | ⟨p,us,rfl,h1,h2,h3,h4⟩ | ⟨d,ds,h1,h2,h3,h4,h5⟩
  ·exact op_in_sign pins s σ _ _ _ v u Q I r1 r2 ⟨k,z,rfl,rfl,by rw [e1]; exact q⟩
  ·exact op_in_seq pins s σ _ _ _ v u Q I r1 r2 ⟨p,us,rfl,.inr h1,h2,h3,by rw [h4]; exact q⟩
  ·exact op_inD hu pins s σ _ _ _ v u Q I r1 r2 ⟨d,ds,h1,h2,h3,h4,by rw [h5]; exact q⟩
theorem Qo7 (hu:X.A.units+65<cLine):OpR X (compareOp .NotIn) (Y7 (tb X nm) Qfs E):=by
 rintro pins s σ H x y v u Q I r1 r2 ⟨w,a,b,rfl,o,ra,rb,h⟩
 have h':Jl (tb X nm) w (bW ((isIn a b w.S).map (! ·)) w.S) (QW (tb X nm) Q) E:=h
 cases e:isIn a b w.S with
 | none=>rw [e] at h'; exact h'.elim
 | some c =>
  rw [e] at h'
  have q:Q (.bl (!c)) w.H:=Jl.val o h' (.bl (!c))
  rcases Qse o ra rb e with ⟨k,z,rfl,rfl,e1⟩ | ⟨p,us,rfl,h1,h2,h3,h4⟩ | ⟨d,ds,h1,h2,h3,h4,h5⟩
  ·exact op_notIn_sign pins s σ _ _ _ v u Q I r1 r2 ⟨k,z,rfl,rfl,by rw [e1]; exact q⟩
  ·exact op_notIn_seq pins s σ _ _ _ v u Q I r1 r2 ⟨p,us,rfl,.inr h1,h2,h3,by rw [h4]; exact q⟩
  ·exact op_notInD hu pins s σ _ _ _ v u Q I r1 r2 ⟨d,ds,h1,h2,h3,h4,by rw [h5]; exact q⟩
theorem Qw7 (n:Nat) (i:Int):Mir.ixN n i=L2.ixN n i:=rfl
theorem Qna (n d:Nat) (o:Option Int):Mir.sIx n d o=HT.sIx n d o:=by cases o <;> rfl
theorem Qvm {T:Tab} {w:Wd} {xs:List Mir.W} {vs:List V} {i:Int} {x:Mir.W} (q:w.rels T xs vs) (e:Mir.atI xs i=some x):∃ v,L2.atI vs i=some v/\w.rel T x v:=by
 unfold Mir.atI at e
 unfold L2.atI
 rw [<- q.length]
 rw [Qw7] at e
 cases g:L2.ixN xs.length i with
 | none=>rw [g] at e; cases e
 | some j =>
  rw [g] at e
  exact q.get e
theorem ixw:IxR X (Y7 (tb X nm) Jk E):=by
 rintro value slice pins s σ H x y v u Q I r1 r2 ⟨w,a,b,rfl,o,ra,rb,h⟩ hs
 cases b with
 | int i =>
  cases rb.int_inv
  have seqs:Jl (tb X nm) w (match KJ w.S a with | some xs=>Kw (Mir.atI xs i) w.S | none=>.bad) (QW (tb X nm) Q) E->rIx X.K x (.int i) w.H Q:=by
   intro h'
   cases g:KJ w.S a with
   | none=>rw [g] at h'; exact h'.elim
   | some xs =>
    rw [g] at h'
    obtain ⟨p,vs,rfl,sq,q⟩:=o.seq g ra
    have h2:Jl (tb X nm) w (Kw (Mir.atI xs i) w.S) (QW (tb X nm) Q) E:=h'
    cases g2:Mir.atI xs i with
    | none=>rw [g2] at h2; exact h2.elim
    | some x =>
     rw [g2] at h2
     obtain ⟨v',e',rv⟩:=Qvm q g2
     rcases sq with sq | sq
     ·exact .inl ⟨p,vs,i,v',rfl,rfl,sq,e',Jl.val o h2 rv⟩
     ·exact .inr (.inl ⟨p,vs,i,v',rfl,rfl,sq,e',Jl.val o h2 rv⟩)
  have fin:rIx X.K x (.int i) w.H Q->wpAny (model X.prog X.w) X.A (subscriptTail value slice v u) (EP X pins σ Q) X.xe s:=λq=>ix_seq value slice pins s σ _ _ _ v u Q I r1 r2 q hs
  cases a with
  | str z =>
   obtain ⟨x1,rfl,e1,k1⟩:=ra.str_inv
   have h2:Jl (tb X nm) w (Kw ((Mir.atI z i).map λc=>.str [c]) w.S) (QW (tb X nm) Q) E:=h
   cases g:Mir.atI z i with
   | none=>rw [g] at h2; exact h2.elim
   | some c =>
    rw [g] at h2
    refine fin (.inr (.inr ⟨x1,i,c,rfl,rfl,by rw [Qd5 e1]; exact Qkq (Qhy k1),?_,Jl.val o h2 (.str (by rfl) ?_)⟩))
    ·have:x1.cps.toList=z:=e1
     rw [this]
     exact g
    ·refine Qmh (λd hd=>?_) (show 1<=Jy by decide)
     have hd':d=c:=by simpa using hd
     subst hd'
     unfold Mir.atI at g
     cases g2:Mir.ixN z.length i with
     | none=>rw [g2] at g; cases g
     | some j =>
      rw [g2] at g
      exact Qec k1 d (List.mem_of_getElem? g)
  | tup xs=>exact fin (seqs h)
  | lst xs=>exact fin (seqs h)
  | lsr xs=>exact fin (seqs h)
  | ref n=>exact fin (seqs h)
  | _=>exact h.elim
 | _=>exact h.elim
theorem Kd {a b:Expr} {ma mb:ME} {pos:Pos} (ha:WE X nm E a ma) (hb:WE X nm E b mb) (hs:PlainIx b:=by intro _ _; rfl):WE X nm E (.Subscript a b pos) (Jc Jk ma mb):=Yw (pe_ix ixw ha hb hs) λ_ _ _ h=>Qp1 h
theorem Qsl {T:Tab} {w:Wd} {xs:List Mir.W} {vs:List V} {lo hi:Option Int} (q:w.rels T xs vs):w.rels T (Mir.cut xs lo hi) (cutV vs lo hi):=by
 unfold Mir.cut cutV
 rw [Qna,Qna,q.length]
 exact (q.drop _).take _
def lSl (T:Tab) (f:Mir.W->Option Int->Option Int->Store->Out Mir.W) (E:XK):V->Option Int->Option Int->Hp->VK->Prop:=λx lo hi H Q=>∃ w a,w.H=H/\Ok T w/\w.rel T a x/\Jl T w (f a lo hi w.S) (QW T Q) E
theorem slw:SlR X (lSl (tb X nm) sl E):=by
 rintro pins s σ H x v vl vu lo hi sla Q I rx hs pl pu ⟨w,a,rfl,o,ra,h⟩
 have lst:∀ p vs xs,x=.ref p->SqL X.K w.H p vs->w.rels (tb X nm) xs vs->Jl (tb X nm) w (.ok (.lst (Mir.cut xs lo hi)) w.S) (QW (tb X nm) Q) E->rSlL X.K x lo hi w.H Q:=by
  intro p vs xs ex sq q h'
  refine ⟨p,vs,ex,sq,λp' hp=>?_⟩
  exact h' (w.layF p' (.lst (cutV vs lo hi))) (o.layF hp) (Ext.layF o hp) rfl (.ref p') (.lst (by show upd w.G p' _ p'=_; exact upd_same) ((Qsl q).mono (Ext.layF o hp).le (Ext.layF o hp).ex))
 have refs:∀ xs,rd w.S a=.lst xs->Jl (tb X nm) w (.ok (.lst (Mir.cut xs lo hi)) w.S) (QW (tb X nm) Q) E->rSlL X.K x lo hi w.H Q:=by
  intro xs ea h'
  obtain ⟨p,vs,e,g,q⟩:=o.lst ea ra
  exact lst p vs xs e (SqL.of g) q h'
 cases a with
 | str z =>
  obtain ⟨x1,rfl,e1,k1⟩:=ra.str_inv
  refine sl_str pins s σ _ _ v vl vu lo hi sla Q I rx hs pl pu ⟨x1,rfl,by rw [Qd5 e1]; exact Qkq (Qhy k1),Jl.val o h (.str ?_ (Qyr k1 (λc hc=>List.mem_of_mem_drop (List.mem_of_mem_take hc)) ?_))⟩
  ·show (((x1.cps.toList.drop _).take _).toArray).toList=_
   rw [List.toList_toArray,Qd5 e1]
   show List.take _ (List.drop _ (TL.tl x1))=_
   rw [e1]
   unfold Mir.cut
   rw [Qna,Qna]
  ·unfold Mir.cut
   rw [List.length_take,List.length_drop]
   omega
 | tup xs =>
  obtain ⟨p,vs,rfl,sq,q⟩:=ra.tup_inv
  refine sl_tupA pins s σ _ _ v vl vu lo hi sla Q I rx hs pl pu ⟨p,vs,rfl,Qer o.ex sq,λz=>?_,λ_ p' hp=>?_⟩
  ·have e:Mir.cut xs lo hi=xs:=by
    unfold Mir.cut
    rw [Qna,Qna,q.length,z.1,z.2,List.drop_zero,Nat.sub_zero,<- q.length,List.take_length]
   have h':Jl (tb X nm) w (.ok (.tup (Mir.cut xs lo hi)) w.S) (QW (tb X nm) Q) E:=h
   rw [e] at h'
   exact Jl.val o h' ra
  ·exact h (w.layF p' (.tup (cutV vs lo hi))) (o.layF hp) (Ext.layF o hp) rfl (.ref p') (.tup (SqT.of (by show upd w.G p' _ p'=_; exact upd_same)) ((Qsl q).mono (Ext.layF o hp).le (Ext.layF o hp).ex))
 | lsr xs =>
  obtain ⟨p,vs,rfl,sq,q⟩:=ra.lsr_inv
  exact sl_list pins s σ _ _ v vl vu lo hi sla Q I rx hs pl pu (lst p vs xs rfl (Qm6 o.ex sq) q h)
 | lst xs=>exact sl_list pins s σ _ _ v vl vu lo hi sla Q I rx hs pl pu (refs xs rfl h)
 | ref n =>
  have h':Jl (tb X nm) w (match rd w.S (.ref n) with | .lst xs=>.ok (.lst (Mir.cut xs lo hi)) w.S | _=>.bad) (QW (tb X nm) Q) E:=h
  cases ea:rd w.S (.ref n) with
  | lst xs=>rw [ea] at h'; exact sl_list pins s σ _ _ v vl vu lo hi sla Q I rx hs pl pu (refs xs ea h')
  | _=>rw [ea] at h'; exact h'.elim
 | _=>exact h.elim
def lO (T:Tab) (m:MO) (E:XK):TO:=fun σ H Q=>∃ w d,w.H=H/\Ok T w/\w.env T d σ/\Jl T w (m d w.S) (λx w'=>Q x w'.H) E
theorem Qwv {X:Cx} {e:Option Expr} {t t':TO} (h:PO X e t) (k:∀ σ H Q,t' σ H Q->t σ H Q):PO X e t':=⟨λpins s σ H Q I q=>h.run pins s σ H Q I (k σ H Q q)⟩
abbrev WO (X:Cx) (nm:Nm) (E:XK) (e:Option Expr) (m:MO):Prop:=PO X e (lO (tb X nm) m E)
theorem Qui {T:Tab} {w:Wd} {d:Jo} {σ:L2.St} {β:Type} {R:β->Wd->Prop} {a:MO} {k:Option Int->Store->Out β} (o:Ok T w) (re:w.env T d σ) (h:Jl T w ((a d w.S).bind k) R E) {Q:Option Int->Hp->Prop}
  (q:∀ x w1,Ok T w1->Ext w w1->w1.env T d σ->Jl T w1 (k x w1.S) R E->Q x w1.H):lO T a E σ w.H Q :=
 ⟨w,d,rfl,o,re,h.bind.imp λx w1 o1 x1 h1=>q x w1 o1 x1 (re.mono x1.le x1.ex) h1⟩
theorem Qck:WO X nm E none YJ:=Qwv po_none fun σ H Q ⟨w,d,eH,o,re,h⟩=>by
 subst eH
 exact h w o (Ext.refl w) rfl
theorem Qb9 {e:Expr} {m:ME} (h:WE X nm E e m):WO X nm E (some e) (K9 m):=Qwv (po_some h) fun σ H Q ⟨w,d,eH,o,re,h⟩=>by
 subst eH
 refine Yq (YD o re h) ?_
 rintro x H1 ⟨w1,a',rfl,o1,x1,re1,ra,h1⟩
 cases a' with
 | int i =>
  cases ra.int_inv
  exact ⟨i,rfl,h1 w1 o1 (Ext.refl _) rfl⟩
 | _=>exact h1.elim
theorem sl_of {f:Mir.W->Option Int->Option Int->Store->Out Mir.W} {e:Expr} {lo hi:Option Expr} {m:ME} {ml mh:MO} {p2 pos:Pos} (hf:SlR X (lSl (tb X nm) f E)) (he:WE X nm E e m) (hl:WO X nm E lo ml) (hh:WO X nm E hi mh):WE X nm E (.Subscript e (.Slice lo hi none p2) pos) (Yk f m ml mh) :=
 Yw (pe_slice hf he hl hh) fun σ H Q ⟨w,d,eH,o,re,h⟩=>by
  subst eH
  refine Yq (YD o re h) ?_
  rintro x H1 ⟨w1,a',rfl,o1,x1,re1,ra,h1⟩
  refine Qui o1 re1 h1 λl w2 o2 x2 re2 h2=>Qui o2 re2 h2 λu w3 o3 x3 re3 h3=>?_
  exact ⟨w3,a',rfl,o3,(ra.mono x2.le x2.ex).mono x3.le x3.ex,h3⟩
theorem Qfl {e:Expr} {lo hi:Option Expr} {m:ME} {ml mh:MO} {p2 pos:Pos} (he:WE X nm E e m) (hl:WO X nm E lo ml) (hh:WO X nm E hi mh):WE X nm E (.Subscript e (.Slice lo hi none p2) pos) (Yk sl m ml mh):=sl_of slw he hl hh
theorem Qxn {e:Expr} {m:ME} {k:Nat} {p1 p2 p3 pos:Pos} (he:WE X nm E e m):WE X nm E (.Subscript e (.Slice none none (some (.UnaryOp .USub (.Constant (.int 1) k p1) p2)) p3) pos) (JS Qt5 m) :=
 Yw (pe_revL he) fun σ H Q ⟨w,d,eH,o,re,h⟩=>by
  subst eH
  refine Yq (YD o re h) ?_
  rintro x H1 ⟨w1,a',rfl,o1,x1,re1,ra,h1⟩
  have h2:Jl (tb X nm) w1 (match rd w1.S a' with | .lst xs=>.ok (.ref w1.S.next) (w1.S.new (.lst xs.reverse)) | _=>.bad) (QW (tb X nm) Q) E:=h1
  cases ea:rd w1.S a' with
  | lst xs =>
   rw [ea] at h2
   obtain ⟨p,vs,e,g,q⟩:=o1.lst ea ra
   exact ⟨p,vs,e,SqL.of g,λp' hp=>Qq7 o1 q.reverse h2 hp⟩
  | _=>rw [ea] at h2; exact h2.elim
end
def lC (T:Tab) (f:MF) (E:XK):List V->Hp->VK->Prop:=λxs H Q=>∃ w a,w.H=H/\Ok T w/\w.rels T a xs/\Jl T w (f a w.S) (QW T Q) E
section
variable {X:Cx} {nm:Nm} {E:XK} {pos p:Pos}
theorem QBw {T:Tab} {f:MF} {a:MA} {σ:L2.St} {H:Hp} {Q:VK} (h:lE T (Jg f a) E σ H Q):tCB (lC T f E) (lA T a E) σ H Q:=by
 obtain ⟨w,d,eH,o,re,h⟩:=h
 subst eH
 refine Qev (Qc7 o re h) ?_
 rintro vs H1 ⟨w1,xs,rfl,o1,x1,re1,rv,h1⟩
 exact ⟨w1,xs,rfl,o1,rv,h1⟩
theorem Qbm {x:Str} {id:String} {f:MF} {e:Expr} {es:List Expr} {a:MA} (hc:CallR X (.builtin id) (lC (tb X nm) f E)) (hm:X.mg x=none) (hv:bootBuiltins x=some (.builtin id)) (ha:WA X nm E (e::es) a) (hg:Gl X x:=by rfl) (hn:x≠ "__name__" := by decide) (hdb:(x == ("__debug__" : Str))=false:=by decide)
  (he:starEach (e::es) X.env=(false,eval e X.env)::starEach es X.env:=by rfl) (hpl:(backTo pos (starEach es X.env)).any (·.1)=false:=by rfl):WE X nm E (.Call (.Name x p) (e::es) [] pos) (Jg f a) :=
 Yw (pe_callB hc hg hm hv ha hn hdb he hpl) λ_ _ _ h=>QBw h
theorem Qa0 {x:Str} {id:String} {f:MF} {e:Expr} {es:List Expr} {a:MA} (hc:CallR X (.type id) (lC (tb X nm) f E)) (hm:X.mg x=none) (hv:bootBuiltins x=some (.type id)) (ha:WA X nm E (e::es) a) (hg:Gl X x:=by rfl) (hn:x≠ "__name__" := by decide) (hdb:(x == ("__debug__" : Str))=false:=by decide)
  (he:starEach (e::es) X.env=(false,eval e X.env)::starEach es X.env:=by rfl) (hpl:(backTo pos (starEach es X.env)).any (·.1)=false:=by rfl):WE X nm E (.Call (.Name x p) (e::es) [] pos) (Jg f a) :=
 Yw (pe_callTy hc hg hm hv ha hn hdb he hpl) λ_ _ _ h=>QBw h
theorem Qgv {T:Tab} {w:Wd} {a:Mir.W} {vs:List V} (h:w.rels T [a] vs):∃ v,vs=[v]/\w.rel T a v:=by
 cases h with | cons h q=>cases q with | nil=>exact ⟨_,rfl,h⟩
theorem cw_len:CallR X (.builtin "len") (lC (tb X nm) fLen E):=by
 rintro pins s σ H xs us Q I r ⟨w,a,rfl,o,rv,h⟩
 have seqs:∀ y,a=[y]->Jl (tb X nm) w (match KJ w.S y with | some ys=>.ok (.int ys.length) w.S | none=>.bad) (QW (tb X nm) Q) E->wpAny (model X.prog X.w) X.A (call (.builtin "len") us) (EP X pins σ Q) X.xe s:=by
  intro y ea h'
  subst ea
  obtain ⟨v,rfl,ry⟩:=Qgv rv
  cases g:KJ w.S y with
  | none=>rw [g] at h'; exact h'.elim
  | some ys =>
   rw [g] at h'
   obtain ⟨p,vs,rfl,sq,q⟩:=o.seq g ry
   refine call_len_seq pins s σ _ _ us Q I r ⟨p,vs,rfl,sq,?_⟩
   rw [<- q.length]
   exact Jl.val o h' (.int _)
 cases a with
 | nil=>exact h.elim
 | cons y t=>cases t with
  | cons _ _=>cases y <;> exact h.elim
  | nil=>cases y with
   | str z =>
    obtain ⟨v,rfl,ry⟩:=Qgv rv
    obtain ⟨x1,rfl,e1,k1⟩:=ry.str_inv
    refine call_len_str pins s σ _ _ us Q I r ⟨x1,rfl,by rw [Qd5 e1]; exact Qkq (Qhy k1),?_⟩
    rw [Qd5 e1]
    exact Jl.val o h (.int _)
   | non=>exact seqs _ rfl h
   | bl _=>exact seqs _ rfl h
   | int _=>exact seqs _ rfl h
   | tup _=>exact seqs _ rfl h
   | lst _=>exact seqs _ rfl h
   | obj _ _=>exact seqs _ rfl h
   | ref _=>exact seqs _ rfl h
   | cls _=>exact seqs _ rfl h
   | lsr _=>exact seqs _ rfl h
theorem Qh4 {T:Tab} {w:Wd}:∀ {ys:List Mir.W} {vs:List V} {c:Bool},Qb0 ys=some c->w.rels T ys vs->∃ bs:List Bool,vs=bs.map V.bl/\bs.all id=c
 | [],vs,c,e,q=>by cases q; cases e; exact ⟨[],rfl,rfl⟩
 | y::ys,vs,c,e,q=>by
  cases q with
  | cons h q =>
   cases y with
   | bl b =>
    cases h.bl_inv
    cases b with
    | true =>
     obtain ⟨bs,e1,e2⟩:=Qh4 (show Qb0 ys=some c from e) q
     exact ⟨true::bs,by rw [e1] <;> rfl,by show (true&&bs.all id)=c; rw [e2] <;> rfl⟩
    | false =>
     have e':(Qb0 ys).map (λ_=>false)=some c:=e
     cases g:Qb0 ys with
     | none=>rw [g] at e'; cases e'
     | some d =>
      rw [g] at e'
      cases e'
      obtain ⟨bs,e1,e2⟩:=Qh4 g q
      exact ⟨false::bs,by rw [e1] <;> rfl,rfl⟩
   | _=>cases e
theorem cw_all (hc:X.calm=true):CallR X (.builtin "all") (lC (tb X nm) K6 E):=by
 rintro pins s σ H xs us Q I r ⟨w,a,rfl,o,rv,h⟩
 cases a with
 | nil=>exact h.elim
 | cons y t=>cases t with
  | cons _ _=>exact h.elim
  | nil =>
   obtain ⟨v,rfl,ry⟩:=Qgv rv
   have h':Jl (tb X nm) w (match rd w.S y with | .lst ys=>bW (Qb0 ys) w.S | _=>.bad) (QW (tb X nm) Q) E:=h
   cases g:rd w.S y with
   | lst ys =>
    rw [g] at h'
    obtain ⟨p,vs,rfl,g1,q⟩:=o.lst g ry
    have h2:Jl (tb X nm) w (bW (Qb0 ys) w.S) (QW (tb X nm) Q) E:=h'
    cases g2:Qb0 ys with
    | none=>rw [g2] at h2; exact h2.elim
    | some c =>
     rw [g2] at h2
     obtain ⟨bs,e1,e2⟩:=Qh4 g2 q
     subst e1
     exact cr_all hc pins s σ _ _ us Q I r ⟨p,bs,rfl,SqL.of g1,by rw [e2]; exact Jl.val o h2 (.bl c)⟩
   | _=>rw [g] at h'; exact h'.elim
theorem Ok.seqL {T:Tab} {w:Wd} (o:Ok T w) {x:Mir.W} {xs:List Mir.W} {v:V} (g:KJ w.S x=some xs) (rv:w.rel T x v) (hn:∀ ys,x≠.tup ys):∃ a vs,v=.ref a/\SqL T.K w.H a vs/\w.rels T xs vs:=by
 cases x with
 | tup ys=>exact absurd rfl (hn ys)
 | lst ys =>
  cases g
  obtain ⟨a,vs,e,h,q⟩:=rv.lst_inv
  exact ⟨a,vs,e,SqL.of (o.ex _ _ h),q⟩
 | lsr ys =>
  cases g
  obtain ⟨a,vs,e,h,q⟩:=rv.lsr_inv
  exact ⟨a,vs,e,Qm6 o.ex h,q⟩
 | ref n =>
  have g2:(match w.S.get n with | some (.lst xs)=>some xs | _=>none)=some xs:=g
  cases q:w.S.get n with
  | none=>rw [q] at g2; cases g2
  | some so =>
   rw [q] at g2
   cases so with
   | lst ys =>
    cases g2
    obtain ⟨a,vs,e,h1,h2,h3,h4⟩:=o.lstAt q rv
    exact ⟨a,vs,e,SqL.of h3,h4⟩
   | dct _=>cases g2
   | dcx _=>cases g2
   | ins _ _=>cases g2
 | _=>cases g
theorem cw_tuple:CallR X (.type "tuple") (lC (tb X nm) fTuple E):=by
 rintro pins s σ H xs us Q I r ⟨w,a,rfl,o,rv,h⟩
 cases a with
 | nil=>exact h.elim
 | cons y t=>cases t with
  | cons _ _=>exact h.elim
  | nil =>
   obtain ⟨v,rfl,ry⟩:=Qgv rv
   have h':Jl (tb X nm) w (match KJ w.S y with | some ys=>.ok (.tup ys) w.S | none=>.bad) (QW (tb X nm) Q) E:=h
   cases g:KJ w.S y with
   | none=>rw [g] at h'; exact h'.elim
   | some ys =>
    rw [g] at h'
    have lst:(∀ zs,y≠.tup zs)->wpAny (model X.prog X.w) X.A (call (.type "tuple") us) (EP X pins σ Q) X.xe s:=λhn=>by
     obtain ⟨p,vs,rfl,sq,q⟩:=o.seqL g ry hn
     exact call_tuple_of pins s σ _ _ us Q I r ⟨p,vs,rfl,.inl ⟨sq,λl hl=>h' (w.layF l (.tup vs)) (o.layF hl) (Ext.layF o hl) rfl (.ref l) (.tup (SqT.of (by show upd w.G l _ l=_; exact upd_same)) (q.mono (Ext.layF o hl).le (Ext.layF o hl).ex))⟩⟩
    cases y with
    | tup zs =>
     cases g
     obtain ⟨p,vs,rfl,sq,q⟩:=ry.tup_inv
     exact call_tuple_of pins s σ _ _ us Q I r ⟨p,vs,rfl,.inr ⟨Qer o.ex sq,Jl.val o h' ry⟩⟩
    | _=>exact lst λzs z=>nomatch z
theorem cw_list:CallR X (.type "list") (lC (tb X nm) Qn8 E):=by
 rintro pins s σ H xs us Q I r ⟨w,a,rfl,o,rv,h⟩
 cases a with
 | nil=>exact h.elim
 | cons y t=>cases t with
  | cons _ _=>exact h.elim
  | nil =>
   obtain ⟨v,rfl,ry⟩:=Qgv rv
   have h':Jl (tb X nm) w (match KJ w.S y with | some ys=>.ok (.lst ys) w.S | none=>.bad) (QW (tb X nm) Q) E:=h
   cases g:KJ w.S y with
   | none=>rw [g] at h'; exact h'.elim
   | some ys =>
    rw [g] at h'
    obtain ⟨p,vs,rfl,sq,q⟩:=o.seq g ry
    exact call_list_of pins s σ _ _ us Q I r ⟨p,vs,rfl,sq,λl hl=>h' (w.layF l (.lst vs)) (o.layF hl) (Ext.layF o hl) rfl (.ref l) (.lst (by show upd w.G l _ l=_; exact upd_same) (q.mono (Ext.layF o hl).le (Ext.layF o hl).ex))⟩
theorem cw_listM:CallR X (.type "list") (lC (tb X nm) Qf9 E):=by
 rintro pins s σ H xs us Q I r ⟨w,a,rfl,o,rv,h⟩
 cases a with
 | nil=>exact h.elim
 | cons y t=>cases t with
  | cons _ _=>exact h.elim
  | nil =>
   obtain ⟨v,rfl,ry⟩:=Qgv rv
   have h':Jl (tb X nm) w (match KJ w.S y with | some ys=>.ok (.ref w.S.next) (w.S.new (.lst ys)) | none=>.bad) (QW (tb X nm) Q) E:=h
   cases g:KJ w.S y with
   | none=>rw [g] at h'; exact h'.elim
   | some ys =>
    rw [g] at h'
    obtain ⟨p,vs,rfl,sq,q⟩:=o.seq g ry
    exact call_list_of pins s σ _ _ us Q I r ⟨p,vs,rfl,sq,λl hl=>Qq7 o q h' hl⟩
theorem cw_abs:CallR X (.builtin "abs") (lC (tb X nm) fAbs E):=by
 rintro pins s σ H xs us Q I r ⟨w,a,rfl,o,rv,h⟩
 cases a with
 | nil=>exact h.elim
 | cons y t=>cases t with
  | cons _ _=>cases y <;> exact h.elim
  | nil =>
   obtain ⟨v,rfl,ry⟩:=Qgv rv
   cases y with
   | int i =>
    cases ry.int_inv
    exact call_abs pins s σ _ _ us Q I r ⟨i,rfl,Jl.val o h (.int _)⟩
   | _=>exact h.elim
theorem Qmm:∀ (f n:Nat) (acc:List Nat),n<10 ^ f->digs f n acc=(if n=0/\f=0 then acc else TL.numL n++acc)
 | 0,n,acc,h=>by
  have:n=0:=by simpa using h
  subst this
  rfl
 | f+1,n,acc,h=>by
  rw [if_neg (by omega)]
  have e:digs (f+1) n acc=if Nat.blt n 10 then (48+n)::acc else digs f (n / 10) ((48+n % 10)::acc):=rfl
  rw [e]
  cases h1:Nat.blt n 10 with
  | true =>
   have hn:n<10:=Nat.le_of_ble_eq_true h1
   rw [if_pos rfl,TL.numL_lt hn] <;> rfl
  | false =>
   have hn:10<=n:=by
    rcases Nat.lt_or_ge n 10 with z | z
    ·rw [show Nat.blt n 10=true from Nat.ble_eq_true_of_le z] at h1; cases h1
    ·exact z
   rw [if_neg (by decide),Qmm f (n / 10) _ (by rw [Nat.pow_succ] at h; omega),if_neg (by intro z; omega),TL.numL_step hn,List.append_assoc]
   rfl
theorem Qot (n:Nat):toString (Int.negSucc n)= "-" ++ toString ((n+1:Nat):Int):=by rfl
theorem Qu4 (a b:String):TL.tl (Str.ofString (a++b))=TL.tl (Str.ofString a)++TL.tl (Str.ofString b):=by
 rw [TL.tl_ofString,TL.tl_ofString,TL.tl_ofString,String.toList_append,List.map_append]
theorem Qy6 {i:Int} (h:i.natAbs<1000000000000):Yh i=TL.tl (Str.ofString (toString i)):=by
 have big:(1000000000000:Nat)<10 ^ 700:=by decide +kernel
 cases i with
 | ofNat n =>
  have hn:n<10 ^ 700:=Nat.lt_trans h big
  show digs 700 n []=_
  rw [Qmm 700 n [] hn,if_neg (by intro z; exact absurd z.2 (by decide)),List.append_nil]
  exact (TL.tl_num n).symm
 | negSucc n =>
  have hn:n+1<10 ^ 700:=Nat.lt_trans h big
  show 45::digs 700 (n+1) []=_
  rw [Qmm 700 (n+1) [] hn,if_neg (by intro z; exact absurd z.2 (by decide)),List.append_nil,Qot,Qu4,TL.tl_num]
  rfl
theorem Qri:∀ (f n:Nat) (acc:List Nat),(∀ c∈acc,c<128)->(∀ c∈digs f n acc,c<128)/\(digs f n acc).length<=acc.length+f
 | 0,_,acc,h=>⟨h,Nat.le_refl _⟩
 | f+1,n,acc,h=>by
  have e:digs (f+1) n acc=if Nat.blt n 10 then (48+n)::acc else digs f (n / 10) ((48+n % 10)::acc):=rfl
  rw [e]
  cases h1:Nat.blt n 10 with
  | true =>
   have hn:n<10:=Nat.le_of_ble_eq_true h1
   rw [if_pos rfl]
   exact ⟨λc hc=>(List.mem_cons.mp hc).elim (λz=>by omega) (h c),by rw [List.length_cons]; omega⟩
  | false =>
   rw [if_neg (by decide)]
   obtain ⟨a,b⟩:=Qri f (n / 10) ((48+n % 10)::acc) λc hc=>(List.mem_cons.mp hc).elim (λz=>by omega) (h c)
   exact ⟨a,by rw [List.length_cons] at b; omega⟩
theorem Qy5 (i:Int):okS (Yh i)=true:=by
 cases i with
 | ofNat n =>
  obtain ⟨a,b⟩:=Qri 700 n [] (λc hc=>absurd hc List.not_mem_nil)
  exact Qmh a (Nat.le_trans b (by decide))
 | negSucc n =>
  obtain ⟨a,b⟩:=Qri 700 (n+1) [] (λc hc=>absurd hc List.not_mem_nil)
  exact Qmh (λc hc=>(List.mem_cons.mp hc).elim (λz=>by omega) (a c)) (by show (digs 700 (n+1) []).length+1<=Jy; exact Nat.le_trans (Nat.succ_le_succ b) (by decide))
theorem Qxd {T:Tab} {w:Wd} {x:Mir.W} {v:V} {z:List Nat} (e:fmt x=some z) (rv:w.rel T x v):(∃ y:Str,v=.str y/\y.length<=sizeLine/\w.rel T (.str z) (.str y))\/∃ i:Int,v=.int i/\i.natAbs.log2<1920/\w.rel T (.str z) (.str (Str.ofString (toString i))):=by
 cases x with
 | str y =>
  cases e
  obtain ⟨x1,rfl,e1,k1⟩:=rv.str_inv
  exact .inl ⟨x1,rfl,by rw [Qd5 e1]; exact Qkq (Qhy k1),.str e1 k1⟩
 | int i =>
  cases rv.int_inv
  have e':(if decide (i.natAbs<1000000000000) then some (Yh i) else none)=some z:=e
  cases g:decide (i.natAbs<1000000000000) with
  | false=>rw [g] at e'; cases e'
  | true =>
   rw [g] at e'
   cases e'
   have hi:=of_decide_eq_true g
   exact .inr ⟨i,rfl,Qnc hi,.str (Qy6 hi).symm (Qy5 i)⟩
 | _=>cases e
theorem cw_str:CallR X (.type "str") (lC (tb X nm) fStr E):=by
 rintro pins s σ H xs us Q I r ⟨w,a,rfl,o,rv,h⟩
 cases a with
 | nil=>exact h.elim
 | cons y t=>cases t with
  | cons _ _=>exact h.elim
  | nil =>
   obtain ⟨v,rfl,ry⟩:=Qgv rv
   have h':Jl (tb X nm) w (Kw ((fmt y).map .str) w.S) (QW (tb X nm) Q) E:=h
   cases g:fmt y with
   | none=>rw [g] at h'; exact h'.elim
   | some z =>
    rw [g] at h'
    rcases Qxd g ry with ⟨y,rfl,hl,rz⟩ | ⟨i,rfl,hl,rz⟩
    ·exact SkE.call_str_str pins s σ _ _ us Q I r ⟨y,rfl,Jl.val o h' rz⟩
    ·exact call_str_int pins s σ _ _ us Q I r ⟨i,rfl,hl,Jl.val o h' rz⟩
theorem Qd3 {e:Expr} {m:ME} (he:WE X nm E e m):WE X nm E (.FormattedValue e (-1) none pos) (JD m):=Yw (pe_fmt he) fun σ H Q ⟨w,d,eH,o,re,h⟩=>by
 subst eH
 refine Yq (YD o re h) ?_
 rintro x H1 ⟨w1,a',rfl,o1,x1,re1,ra,h1⟩
 cases g:fmt a' with
 | none=>rw [g] at h1; exact h1.elim
 | some z =>
  rw [g] at h1
  rcases Qxd g ra with ⟨y,rfl,hl,rz⟩ | ⟨i,rfl,hl,rz⟩
  ·exact .inl ⟨y,rfl,hl,Jl.val o1 h1 rz⟩
  ·exact .inr ⟨i,rfl,hl,Jl.val o1 h1 rz⟩
theorem WJ.pj {es:List Expr} {ms:List ME} (h:WJ X nm E es ms):PJ X es (ms.map λm=>lE (tb X nm) m E):=by
 induction h with
 | nil=>exact .nil
 | cons h _ ih=>exact .cons h ih
theorem Qps {T:Tab}:∀ (ms:List ME) (acc:List Nat) (x:Str) (w:Wd) (d:Jo) (σ:L2.St) (Q:VK),Ok T w->w.env T d σ->TL.tl x=acc->okS acc=true->Jl T w (Qca ms acc d w.S) (QW T Q) E->tJs (ms.map λm=>lE T m E) x σ w.H λout H1=>Q (.str out) H1
 | [],acc,x,w,d,σ,Q,o,re,e1,k1,h=>Jl.val o h (.str e1 k1)
 | m::ms,acc,x,w,d,σ,Q,o,re,e1,k1,h=>by
  refine Yq (YD o re h) ?_
  rintro v H1 ⟨w1,a',rfl,o1,x1,re1,ra,h1⟩
  cases a' with
  | str z =>
   obtain ⟨y,rfl,e2,k2⟩:=ra.str_inv
   have h2:Jl T w1 (if Nat.ble (acc.length+z.length) Jy then Qca ms (acc++z) d w1.S else .bad) (QW T Q) E:=h1
   cases g:Nat.ble (acc.length+z.length) Jy with
   | false=>rw [g] at h2; exact h2.elim
   | true =>
    rw [g] at h2
    have hl:acc.length+z.length<=Jy:=Nat.le_of_ble_eq_true g
    have e3:TL.tl (x++y)=acc++z:=by rw [TL.tl_append,e1,e2]
    have k3:okS (acc++z)=true:=Qmh (λc hc=>(List.mem_append.mp hc).elim (Qec k1 c) (Qec k2 c)) (by rw [List.length_append]; exact hl)
    exact ⟨y,rfl,by rw [Qd5 e3]; exact Qkq (Qhy k3),Qps ms (acc++z) (x++y) w1 d σ Q o1 re1 e3 k3 h2⟩
  | _=>exact h1.elim
theorem Qlf {v1 v2:Expr} {rest:List Expr} {ms:List ME} (h:WJ X nm E (v1::v2::rest) ms):WE X nm E (.JoinedStr (v1::v2::rest) pos) (Qca ms []):=Yw (pe_joined h.pj) fun σ H Q ⟨w,d,eH,o,re,h⟩=>by
 subst eH
 exact Qps ms [] Str.empty w d σ Q o re rfl rfl h
theorem Qm3 {e:Expr} {m:ME} (h:WE X nm E e m):WE X nm E (.JoinedStr [e] pos) m:=pe_joined1 h
theorem Qg2:∀ (z:List Nat) (a b:Nat),dval z a=some b->NumText.AllDigits z/\z.foldl (λacc c=>acc*10+(c-48)) a=b
 | [],a,b,h=>by cases h; exact ⟨λc hc=>absurd hc List.not_mem_nil,rfl⟩
 | c::r,a,b,h=>by
  have h':(if Nat.ble 48 c&&Nat.ble c 57 then dval r (a*10+(c-48)) else none)=some b:=h
  cases g:(Nat.ble 48 c&&Nat.ble c 57) with
  | false=>rw [g] at h'; cases h'
  | true =>
   rw [g] at h'
   obtain ⟨g1,g2⟩:=Bool.and_eq_true_iff.mp g
   obtain ⟨h1,h2⟩:=Qg2 r (a*10+(c-48)) b h'
   refine ⟨λx hx=>?_,h2⟩
   rcases List.mem_cons.mp hx with z | z
   ·subst z
    exact ⟨Nat.le_of_ble_eq_true g1,Nat.le_of_ble_eq_true g2⟩
   ·exact h1 x z
end
section
variable {X:Cx} {nm:Nm} {E:XK} {pos p:Pos}
theorem cw_int:CallR X (.type "int") (lC (tb X nm) KZ E):=by
 rintro pins s σ H xs us Q I r ⟨w,a,rfl,o,rv,h⟩
 cases a with
 | nil=>exact h.elim
 | cons y t=>cases t with
  | cons _ _=>cases y <;> exact h.elim
  | nil =>
   obtain ⟨v,rfl,ry⟩:=Qgv rv
   cases y with
   | int i =>
    cases ry.int_inv
    exact call_int1 pins s σ _ _ us Q I r (.inl ⟨i,rfl,Jl.val o h (.int _)⟩)
   | bl b =>
    cases ry.bl_inv
    exact call_int1 pins s σ _ _ us Q I r (.inr ⟨b,rfl,Jl.val o h (.int _)⟩)
   | str z =>
    obtain ⟨x1,rfl,e1,k1⟩:=ry.str_inv
    have h':Jl (tb X nm) w (if Nat.ble z.length 100 then Kw ((Qjz z).map .int) w.S else .bad) (QW (tb X nm) Q) E:=h
    cases g:Nat.ble z.length 100 with
    | false=>rw [g] at h'; exact h'.elim
    | true =>
     rw [g] at h'
     have hl:x1.length<=640:=by rw [Qd5 e1]; exact Nat.le_trans (Nat.le_of_ble_eq_true g) (by decide)
     have h2:Jl (tb X nm) w (Kw ((Qjz z).map .int) w.S) (QW (tb X nm) Q) E:=h'
     cases g2:Qjz z with
     | none=>rw [g2] at h2; exact h2.elim
     | some n =>
      rw [g2] at h2
      refine call_int_str pins s σ _ _ us Q I r ⟨x1,n,rfl,?_,hl,Jl.val o h2 (.int _)⟩
      have e1':x1.cps.toList=z:=e1
      have pl:∀ z:List Nat,x1.cps.toList=z->z≠[]->(dval z 0).map (λn=>(n:Int))=some n->intText? x1=some n:=by
       intro z ez hne hd
       cases g3:dval z 0 with
       | none=>rw [g3] at hd; cases hd
       | some m =>
        rw [g3] at hd
        cases hd
        obtain ⟨a1,a2⟩:=Qg2 z 0 m g3
        rw [PySem.intText_digits (by rw [ez]; exact a1) (by rw [ez]; exact hne) (by omega),ez]
        show some ((z.foldl _ 0:Nat):Int)=_
        rw [a2]
      cases z with
      | nil=>cases g2
      | cons c z' =>
       by_cases hc:c=45
       ·subst hc
        cases z' with
        | nil=>cases g2
        | cons c2 z2 =>
         have g4:(dval (c2::z2) 0).map (λn=> -(n:Int))=some n:=g2
         cases g3:dval (c2::z2) 0 with
         | none=>rw [g3] at g4; cases g4
         | some m =>
          rw [g3] at g4
          cases g4
          obtain ⟨a1,a2⟩:=Qg2 (c2::z2) 0 m g3
          rw [PySem.intText_neg e1' a1 (by simp) (by omega)]
          show some (-(((c2::z2).foldl _ 0:Nat):Int))=_
          rw [a2]
       ·refine pl (c::z') e1' (by simp) ?_
        have e5:Qjz (c::z')=(dval (c::z') 0).map λn=>(n:Int):=by
         unfold Qjz
         split
         ·rename_i h; cases h
         ·rename_i r' h; cases h; exact absurd rfl hc
         ·rfl
        rw [<- e5]
        exact g2
   | _=>exact h.elim
def lM (T:Tab) (f:Mir.W->List Mir.W->Store->Out Mir.W) (E:XK):V->List V->Hp->VK->Prop:=λx xs H Q=>∃ w a as,w.H=H/\Ok T w/\w.rel T a x/\w.rels T as xs/\Jl T w (f a as w.S) (QW T Q) E
theorem Qxa {T:Tab} {w:Wd} (o:Ok T w) {x:Mir.W} {v:V} (h:isL x w.S=true) (rv:w.rel T x v):tyV T.K "list" v w.H:=by
 cases x with
 | lst xs =>
  obtain ⟨a,vs,rfl,g,_⟩:=rv.lst_inv
  exact .inl ⟨rfl,vs,SqL.of (o.ex _ _ g)⟩
 | ref n =>
  have h':(match w.S.get n with | some (.lst _)=>true | _=>false)=true:=h
  cases q:w.S.get n with
  | none=>rw [q] at h'; cases h'
  | some so =>
   rw [q] at h'
   cases so with
   | lst ys =>
    obtain ⟨a,vs,rfl,_,_,h3,_⟩:=o.lstAt q rv
    exact .inl ⟨rfl,vs,SqL.of h3⟩
   | dct _=>cases h'
   | dcx _=>cases h'
   | ins _ _=>cases h'
 | _=>cases h
theorem Qep {name:Str} {id:String} {f:Mir.W->List Mir.W->Store->Out Mir.W} {o e:Expr} {es:List Expr} {mo:ME} {ma:MA} {apos cpos:Pos} (slot:Slot "list" name id) (hty:typeOf (.builtin id)=pure (.type "method_descriptor")) (hm:MtR X id (lM (tb X nm) f E)) (ho:WE X nm E o mo) (ha:WA X nm E (e::es) ma)
  (hbase:attributeBase o name X.env (eval o X.env)=eval o X.env:=by rfl)
  (hfew:((backTo cpos (starEach (e::es) X.env)).all (λx=>!x.1)&&(backToKw cpos (keywordEach [] X.env)).all (λx=>x.1.isSome)
    && decide ((e::es).length+([]:List Keyword).length+(if ([]:List Keyword).isEmpty then 0 else 1)<30))=true:=by rfl)
  (hline:(apos.endLine == cpos.line)=true:=by rfl) (hs:starEach (e::es) X.env=(false,eval e X.env)::starEach es X.env:=by rfl) (hplain:(backTo cpos (starEach es X.env)).any (·.1)=false:=by rfl) :
  WE X nm E (.Call (.Attribute o name apos) (e::es) [] cpos) (JT f mo ma) :=
 Yw (pe_bm PySem.F.plainAttrs_list slot hty hm ho ha hbase hfew hline hs hplain) fun σ H Q ⟨w,d,eH,o,re,h⟩=>by
  subst eH
  refine Yq (YD o re h) ?_
  rintro x H1 ⟨w1,a',rfl,o1,x1,re1,ra,h1⟩
  cases g:isL a' w1.S with
  | false=>rw [g] at h1; exact h1.elim
  | true =>
   rw [g] at h1
   refine ⟨Qxa o1 g ra,Qev (Qc7 o1 re1 h1) ?_⟩
   rintro vs H2 ⟨w2,xs,rfl,o2,x2,re2,rv,h2⟩
   exact ⟨w2,a',xs,rfl,o2,ra.mono x2.le x2.ex,rv,h2⟩
theorem Qs6 {name:Str} {id:String} {f:Mir.W->List Mir.W->Store->Out Mir.W} {o:Expr} {mo:ME} {apos cpos:Pos} (slot:Slot "list" name id) (hty:typeOf (.builtin id)=pure (.type "method_descriptor")) (hm:MtR X id (lM (tb X nm) f E)) (ho:WE X nm E o mo)
  (hbase:attributeBase o name X.env (eval o X.env)=eval o X.env:=by rfl) (hline:(apos.endLine == cpos.line)=true:=by rfl) :
  WE X nm E (.Call (.Attribute o name apos) [] [] cpos) (JT f mo Jb) :=
 Yw (pe_bm0 PySem.F.plainAttrs_list slot hty hm ho hbase hline) fun σ H Q ⟨w,d,eH,o,re,h⟩=>by
  subst eH
  refine Yq (YD o re h) ?_
  rintro x H1 ⟨w1,a',rfl,o1,x1,re1,ra,h1⟩
  cases g:isL a' w1.S with
  | false=>rw [g] at h1; exact h1.elim
  | true =>
   rw [g] at h1
   exact ⟨Qxa o1 g ra,w1,a',[],rfl,o1,ra,.nil,h1⟩
theorem Qle {name:Str} {id:String} {f:Mir.W->List Mir.W->Store->Out Mir.W} {o e:Expr} {es:List Expr} {mo:ME} {ma:MA} {apos cpos:Pos} (slot:Slot "str" name id) (hty:typeOf (.builtin id)=pure (.type "method_descriptor")) (hm:MtR X id (lM (tb X nm) f E)) (ho:WE X nm E o mo) (ha:WA X nm E (e::es) ma)
  (hbase:attributeBase o name X.env (eval o X.env)=eval o X.env:=by rfl)
  (hfew:((backTo cpos (starEach (e::es) X.env)).all (λx=>!x.1)&&(backToKw cpos (keywordEach [] X.env)).all (λx=>x.1.isSome)
    && decide ((e::es).length+([]:List Keyword).length+(if ([]:List Keyword).isEmpty then 0 else 1)<30))=true:=by rfl)
  (hline:(apos.endLine == cpos.line)=true:=by rfl) (hs:starEach (e::es) X.env=(false,eval e X.env)::starEach es X.env:=by rfl) (hplain:(backTo cpos (starEach es X.env)).any (·.1)=false:=by rfl) :
  WE X nm E (.Call (.Attribute o name apos) (e::es) [] cpos) (K7 f mo ma) :=
 Yw (pe_bm PySem.F.plainAttrs_str slot hty hm ho ha hbase hfew hline hs hplain) fun σ H Q ⟨w,d,eH,o,re,h⟩=>by
  subst eH
  refine Yq (YD o re h) ?_
  rintro x H1 ⟨w1,a',rfl,o1,x1,re1,ra,h1⟩
  cases g:isS a' with
  | false=>rw [g] at h1; exact h1.elim
  | true =>
   rw [g] at h1
   have ht:tyV X.K "str" x w1.H:=by
    cases a' with
    | str z=>obtain ⟨x1,rfl,_⟩:=ra.str_inv; exact rfl
    | _=>cases g
   refine ⟨ht,Qev (Qc7 o1 re1 h1) ?_⟩
   rintro vs H2 ⟨w2,xs,rfl,o2,x2,re2,rv,h2⟩
   exact ⟨w2,a',xs,rfl,o2,ra.mono x2.le x2.ex,rv,h2⟩
theorem Qnt {T:Tab} {w:Wd} {n:Nat} {a:Addr} {ys:List Mir.W} {us:List V} {x:Mir.W} {v:V} {Q:VK} (o:Ok T w) (ha:At w n a) (q:w.rels T ys us) (rx:w.rel T x v) (h:Jl T w (.ok x (w.S.put n (.lst ys))) (QW T Q) E):Q v (upd w.H a (.lst us)) :=
 h (w.put n a (.lst ys) (.lst us)) (o.put ha ⟨us,rfl,q⟩) (Ext.put ha) rfl v rx
theorem Qdq:MtR X "list.append" (lM (tb X nm) (m1 Qbs) E):=by
 rintro pins s σ H x xs v us Q I rx rs ⟨w,a,as,rfl,o,ra,rv,h⟩
 cases as with
 | nil=>exact h.elim
 | cons y t=>cases t with
  | cons _ _=>exact h.elim
  | nil =>
   obtain ⟨vy,rfl,ry⟩:=Qgv rv
   cases a with
   | ref n =>
    have h':Jl (tb X nm) w (match w.S.get n with | some (.lst xs)=>if Nat.blt xs.length Jy then .ok .non (w.S.put n (.lst (xs++[y]))) else .bad | _=>.bad) (QW (tb X nm) Q) E:=h
    cases g:w.S.get n with
    | none=>rw [g] at h'; exact h'.elim
    | some so =>
     rw [g] at h'
     cases so with
     | lst ys =>
      obtain ⟨p,vs,rfl,at_,_,h3,q⟩:=o.lstAt g ra
      have h2:Jl (tb X nm) w (if Nat.blt ys.length Jy then .ok .non (w.S.put n (.lst (ys++[y]))) else .bad) (QW (tb X nm) Q) E:=h'
      cases g2:Nat.blt ys.length Jy with
      | false=>rw [g2] at h2; exact h2.elim
      | true =>
       rw [g2] at h2
       refine mt_append pins s σ _ _ _ v us Q I rx rs ⟨p,vs,vy,rfl,rfl,h3,?_,Qnt o at_ (q.append (.cons ry .nil)) .non h2⟩
       rw [<- q.length]
       exact Nat.lt_of_lt_of_le (Nat.le_of_ble_eq_true g2) (by decide)
     | dct _=>exact h'.elim
     | dcx _=>exact h'.elim
     | ins _ _=>exact h'.elim
   | _=>exact h.elim
theorem Qw1:MtR X "list.pop" (lM (tb X nm) (m0 mPop) E):=by
 rintro pins s σ H x xs v us Q I rx rs ⟨w,a,as,rfl,o,ra,rv,h⟩
 cases as with
 | cons _ _=>exact h.elim
 | nil =>
  cases rv
  cases a with
  | ref n =>
   have h':Jl (tb X nm) w (match w.S.get n with | some (.lst xs)=>(match xs.getLast? with | some y=>.ok y (w.S.put n (.lst xs.dropLast)) | none=>.bad) | _=>.bad) (QW (tb X nm) Q) E:=h
   cases g:w.S.get n with
   | none=>rw [g] at h'; exact h'.elim
   | some so =>
    rw [g] at h'
    cases so with
    | lst ys =>
     obtain ⟨p,vs,rfl,at_,_,h3,q⟩:=o.lstAt g ra
     have h2:Jl (tb X nm) w (match ys.getLast? with | some y=>.ok y (w.S.put n (.lst ys.dropLast)) | none=>.bad) (QW (tb X nm) Q) E:=h'
     cases g2:ys.getLast? with
     | none=>rw [g2] at h2; exact h2.elim
     | some y =>
      rw [g2] at h2
      rw [List.getLast?_eq_getElem?] at g2
      obtain ⟨vy,e1,ry⟩:=q.get g2
      refine mt_pop pins s σ _ _ _ v us Q I rx rs ⟨p,vs,vy,rfl,rfl,h3,?_,Qnt o at_ q.dropLast ry h2⟩
      rw [<- q.length]
      exact e1
    | dct _=>exact h'.elim
    | dcx _=>exact h'.elim
    | ins _ _=>exact h'.elim
  | _=>exact h.elim
theorem Qr7:MtR X "list.pop" (lM (tb X nm) (m1 Qko) E):=by
 rintro pins s σ H x xs v us Q I rx rs ⟨w,a,as,rfl,o,ra,rv,h⟩
 cases as with
 | nil=>exact h.elim
 | cons y t=>cases t with
  | cons _ _=>exact h.elim
  | nil =>
   obtain ⟨vy,rfl,ry⟩:=Qgv rv
   cases a with
   | ref n =>
    have h':Jl (tb X nm) w (match w.S.get n with | some (.lst xs)=>(match y with | .int i=>(match Mir.ixN xs.length i with | some j=>(match xs[j]? with | some y=>.ok y (w.S.put n (.lst (xs.eraseIdx j))) | none=>.bad) | none=>.bad) | _=>.bad) | _=>.bad) (QW (tb X nm) Q) E:=h
    cases g:w.S.get n with
    | none=>rw [g] at h'; exact h'.elim
    | some so =>
     rw [g] at h'
     cases so with
     | lst ys =>
      obtain ⟨p,vs,rfl,at_,_,h3,q⟩:=o.lstAt g ra
      cases y with
      | int i =>
       cases ry.int_inv
       have h2:Jl (tb X nm) w (match Mir.ixN ys.length i with | some j=>(match ys[j]? with | some y=>.ok y (w.S.put n (.lst (ys.eraseIdx j))) | none=>.bad) | none=>.bad) (QW (tb X nm) Q) E:=h'
       cases g2:Mir.ixN ys.length i with
       | none=>rw [g2] at h2; exact h2.elim
       | some j =>
        rw [g2] at h2
        have h4:Jl (tb X nm) w (match ys[j]? with | some y=>.ok y (w.S.put n (.lst (ys.eraseIdx j))) | none=>.bad) (QW (tb X nm) Q) E:=h2
        cases g3:ys[j]? with
        | none=>rw [g3] at h4; exact h4.elim
        | some y =>
         rw [g3] at h4
         obtain ⟨vy,e1,ry⟩:=q.get g3
         rw [Qw7] at g2
         obtain ⟨k1,k2,k3,k4⟩:=ixN_seq g2
         have hz:ys.length<=sizeLine:=by
          rw [q.length]
          exact (I.lstM h3).1
         have hz':(sizeLine:Int)<2 ^ 63:=by rw [sizeLine_eq]; decide
         refine mt_popAt pins s σ _ _ _ v us Q I rx rs ⟨p,vs,i,j,vy,rfl,rfl,h3,by omega,by omega,by rw [<- q.length]; exact k1,e1,Qnt o at_ (q.eraseIdx j) ry h4⟩
      | _=>exact h'.elim
     | dct _=>exact h'.elim
     | dcx _=>exact h'.elim
     | ins _ _=>exact h'.elim
   | _=>exact h.elim
end
section
variable {X:Cx} {nm:Nm} {E:XK} {pos p:Pos}
theorem Qsc (S:List Nat):∀ ps:List (List Nat),Mir.joinL S ps=TL.joinL S ps
 | []=>rfl
 | [_]=>rfl
 | p::q::r=>by
  show p++(S++Mir.joinL S (q::r))=p++(S++TL.joinL S (q::r))
  rw [Qsc S (q::r)]
theorem Qm5 {T:Tab} {w:Wd}:∀ {ys:List Mir.W} {vs:List V} {ss:List (List Nat)},Qf5 ys=some ss->w.rels T ys vs->∃ zs:List Str,vs=zs.map V.str/\zs.map TL.tl=ss/\∀ p∈ss,okS p=true
 | [],vs,ss,e,q=>by cases q; cases e; exact ⟨[],rfl,rfl,λp hp=>absurd hp List.not_mem_nil⟩
 | y::ys,vs,ss,e,q=>by
  cases q with
  | cons h q =>
   cases y with
   | str z =>
    have e':(Qf5 ys).map (z::·)=some ss:=e
    cases g:Qf5 ys with
    | none=>rw [g] at e'; cases e'
    | some r =>
     rw [g] at e'
     cases e'
     obtain ⟨zs,h1,h2,h3⟩:=Qm5 g q
     obtain ⟨x,rfl,e1,k1⟩:=h.str_inv
     exact ⟨x::zs,by rw [h1] <;> rfl,by rw [List.map_cons,h2,e1],λp hp=>(List.mem_cons.mp hp).elim (λz=>by rw [z]; exact k1) (h3 p)⟩
   | _=>cases e
theorem Qpt (S:List Nat):∀ (ps:List (List Nat)) (c:Nat),c∈Mir.joinL S ps->c∈S\/∃ p∈ps,c∈p
 | [],c,h=>absurd h List.not_mem_nil
 | [p],c,h=>.inr ⟨p,List.mem_cons_self,h⟩
 | p::q::r,c,h=>by
  have h':c∈p++(S++Mir.joinL S (q::r)):=h
  rcases List.mem_append.mp h' with z | z
  ·exact .inr ⟨p,List.mem_cons_self,z⟩
  ·rcases List.mem_append.mp z with z | z
   ·exact .inl z
   ·rcases Qpt S (q::r) c z with y | ⟨y,hy,hc⟩
    ·exact .inl y
    ·exact .inr ⟨y,List.mem_cons_of_mem _ hy,hc⟩
theorem KC (S:List Nat):∀ (ps:List (List Nat)),(ps.map List.length).sum+ps.length*S.length<=(Mir.joinL S ps).length+S.length
 | []=>by simp [Mir.joinL]
 | [p]=>by simp [Mir.joinL]
 | p::q::r=>by
  have ih:=KC S (q::r)
  show _<=(p++(S++Mir.joinL S (q::r))).length+S.length
  simp only [List.length_append,List.map_cons,List.sum_cons,List.length_cons] at ih ⊢
  rw [Nat.add_mul,Nat.one_mul] at ih ⊢
  rw [Nat.add_mul,Nat.one_mul]
  generalize r.length*S.length=t at ih ⊢
  omega
theorem Qh0:MtR X "str.join" (lM (tb X nm) (m1 Qdr) E):=by
 rintro pins s σ H x xs v us Q I rx rs ⟨w,a,as,rfl,o,ra,rv,h⟩
 cases as with
 | nil=>exact h.elim
 | cons y t=>cases t with
  | cons _ _=>exact h.elim
  | nil =>
   obtain ⟨vy,rfl,ry⟩:=Qgv rv
   cases a with
   | str z =>
    obtain ⟨x1,rfl,e1,k1⟩:=ra.str_inv
    have h2:Jl (tb X nm) w (match KJ w.S y with | some ys=>(match Qf5 ys with | some ss=>if Nat.ble ((Mir.joinL z ss).length) Jy then .ok (.str (Mir.joinL z ss)) w.S else .bad | none=>.bad) | none=>.bad) (QW (tb X nm) Q) E:=h
    cases g:KJ w.S y with
    | none=>rw [g] at h2; exact h2.elim
    | some ys =>
     rw [g] at h2
     have h3:Jl (tb X nm) w (match Qf5 ys with | some ss=>if Nat.ble ((Mir.joinL z ss).length) Jy then .ok (.str (Mir.joinL z ss)) w.S else .bad | none=>.bad) (QW (tb X nm) Q) E:=h2
     cases g2:Qf5 ys with
     | none=>rw [g2] at h3; exact h3.elim
     | some ss =>
      rw [g2] at h3
      have h4:Jl (tb X nm) w (if Nat.ble ((Mir.joinL z ss).length) Jy then .ok (.str (Mir.joinL z ss)) w.S else .bad) (QW (tb X nm) Q) E:=h3
      cases g3:Nat.ble ((Mir.joinL z ss).length) Jy with
      | false=>rw [g3] at h4; exact h4.elim
      | true =>
       rw [g3] at h4
       obtain ⟨p,vs,rfl,sq,q⟩:=o.seq g ry
       obtain ⟨zs,rfl,b1,b2⟩:=Qm5 g2 q
       have hl:(Mir.joinL z ss).length<=Jy:=Nat.le_of_ble_eq_true g3
       refine mt_join pins s σ _ _ _ v us Q I rx rs ⟨x1,p,zs,rfl,rfl,sq,?_,Jl.val o h4 (.str ?_ ?_)⟩
       ·have hj:=KC z ss
        have e5:(zs.map (·.length))=ss.map List.length:=by
         rw [<- b1,List.map_map]
         exact List.map_congr_left λy _=>TL.len_tl y
        have e6:zs.length=ss.length:=by rw [<- b1,List.length_map]
        rw [e5,e6,Qd5 e1]
        have:=Qhy k1
        have:Jy+Jy<=16777216:=by decide
        omega
       ·rw [TL.join_eq,TL.tl_join,e1,b1,Qsc]
       ·refine Qmh (λc hc=>?_) hl
        rcases Qpt z ss c hc with y | ⟨y,hy,hc'⟩
        ·exact Qec k1 c y
        ·exact Qec (b2 y hy) c hc'
   | _=>exact h.elim
theorem Qim:MtR X "list.extend" (lM (tb X nm) (m1 Qeg) E):=by
 rintro pins s σ H x xs v us Q I rx rs ⟨w,a,as,rfl,o,ra,rv,h⟩
 cases as with
 | nil=>exact h.elim
 | cons y t=>cases t with
  | cons _ _=>exact h.elim
  | nil =>
   obtain ⟨vy,rfl,ry⟩:=Qgv rv
   cases a with
   | ref n =>
    have h':Jl (tb X nm) w (match w.S.get n with | some (.lst xs)=>(match rd w.S y with | .lst ys=>if Nat.ble (xs.length+ys.length) Jy then .ok .non (w.S.put n (.lst (xs++ys))) else .bad | _=>.bad) | _=>.bad) (QW (tb X nm) Q) E:=h
    cases g:w.S.get n with
    | none=>rw [g] at h'; exact h'.elim
    | some so =>
     rw [g] at h'
     cases so with
     | lst zs =>
      obtain ⟨p,vs,rfl,at_,_,h3,q⟩:=o.lstAt g ra
      have h2:Jl (tb X nm) w (match rd w.S y with | .lst ys=>if Nat.ble (zs.length+ys.length) Jy then .ok .non (w.S.put n (.lst (zs++ys))) else .bad | _=>.bad) (QW (tb X nm) Q) E:=h'
      cases g2:rd w.S y with
      | lst ys =>
       rw [g2] at h2
       obtain ⟨p2,us2,rfl,g4,q2⟩:=o.lst g2 ry
       have h4:Jl (tb X nm) w (if Nat.ble (zs.length+ys.length) Jy then .ok .non (w.S.put n (.lst (zs++ys))) else .bad) (QW (tb X nm) Q) E:=h2
       cases g3:Nat.ble (zs.length+ys.length) Jy with
       | false=>rw [g3] at h4; exact h4.elim
       | true =>
        rw [g3] at h4
        exact mt_extend pins s σ _ _ _ v us Q I rx rs ⟨p,p2,vs,us2,rfl,rfl,h3,g4,by rw [<- q.length,<- q2.length]; exact Qeu g3,Qnt o at_ (q.append q2) .non h4⟩
      | _=>rw [g2] at h2; exact h2.elim
     | dct _=>exact h'.elim
     | dcx _=>exact h'.elim
     | ins _ _=>exact h'.elim
   | _=>exact h.elim
theorem Qzt {o i e:Expr} {mo mi me:ME} {pos':Pos} (ho:WE X nm E o mo) (hi:WE X nm E i mi) (he:WE X nm E e me)
  (ha:∀ v,assign (.Subscript o i pos') X.env v=(do
    let ov <- holding [v] (eval o X.env)
    let iv <- holding [v,ov] (eval i X.env)
    standAt pos'
    holding [v,ov,iv] (setItem ov iv v)
    release [v,ov,iv] []):=by intro _; rfl)
  (hs:swapsWithSole [.Subscript o i pos'] e pos.line X.env=pure false:=by rfl) (hw:swappedStores [.Subscript o i pos'] e X.env=pure none:=by rfl)
  (h1:(assignEach [.Subscript o i pos'] X.env).map (·.2)=[assign (.Subscript o i pos') X.env]:=by rfl):WS X nm E (.Assign [.Subscript o i pos'] e pos) (sIdx mo mi me) :=
 Qf8 (ps_asg he (pg_sub ho hi set_list ha) hs hw h1) λD σ H ⟨w,d,eH,ok,re,h⟩=>by
  subst eH
  refine Yq (YD ok re h) ?_
  rintro v H1 ⟨w1,x,rfl,o1,x1,re1,rv,h1⟩
  refine Yq (YD o1 re1 h1) ?_
  rintro vo H2 ⟨w2,xo,rfl,o2,x2,re2,ro,h2⟩
  refine Yq (YD o2 re2 h2) ?_
  rintro vi H3 ⟨w3,xi,rfl,o3,x3,re3,ri,h3⟩
  have rv3:w3.rel (tb X nm) x v:=(rv.mono x2.le x2.ex).mono x3.le x3.ex
  have ro3:w3.rel (tb X nm) xo vo:=ro.mono x3.le x3.ex
  cases xo with
  | ref n =>
   cases g:w3.S.get n with
   | none =>
    have z:Qgs (.ref n) xi x w3.S=none:=by show (match w3.S.get n with | some (.lst xs)=>_ | _=>none)=none; rw [g]
    rw [z] at h3
    exact h3.elim
   | some so =>
    cases so with
    | lst ys =>
     cases xi with
     | int k =>
      cases g2:Mir.ixN ys.length k with
      | none =>
       have z:Qgs (.ref n) (.int k) x w3.S=none:=by
        show (match w3.S.get n with | some (.lst xs)=>(match Mir.ixN xs.length k with | some j=>some (w3.S.put n (.lst (xs.set j x))) | none=>none) | _=>none)=none
        rw [g]
        show (match Mir.ixN ys.length k with | some j=>some (w3.S.put n (.lst (ys.set j x))) | none=>none)=none
        rw [g2]
       rw [z] at h3
       exact h3.elim
      | some j =>
       have z:Qgs (.ref n) (.int k) x w3.S=some (w3.S.put n (.lst (ys.set j x))):=by
        show (match w3.S.get n with | some (.lst xs)=>(match Mir.ixN xs.length k with | some j=>some (w3.S.put n (.lst (xs.set j x))) | none=>none) | _=>none)=_
        rw [g]
        show (match Mir.ixN ys.length k with | some j=>some (w3.S.put n (.lst (ys.set j x))) | none=>none)=_
        rw [g2]
       rw [z] at h3
       obtain ⟨p,vs,rfl,at_,_,h5,q⟩:=o3.lstAt g ro3
       cases ri.int_inv
       exact ⟨p,vs,k,j,rfl,rfl,h5,by rw [<- q.length]; exact g2,h3 (w3.put n p (.lst (ys.set j x)) (.lst (vs.set j v))) (o3.put at_ ⟨_,rfl,q.set j rv3⟩) (Ext.put at_) rfl σ re3⟩
     | _ =>
      exfalso
      have z:∀ y,(∀ k,y≠Mir.W.int k)->Qgs (.ref n) y x w3.S=none:=by
       intro y hy
       show (match w3.S.get n with | some (.lst xs)=>(match y with | .int i=>(match Mir.ixN xs.length i with | some j=>some (w3.S.put n (.lst (xs.set j x))) | none=>none) | _=>none) | _=>none)=none
       rw [g]
       cases y <;> first | rfl | exact absurd rfl (hy _)
      rw [z _ (by intro k e; cases e)] at h3
      exact h3
    | dct _ =>
     have z:Qgs (.ref n) xi x w3.S=none:=by show (match w3.S.get n with | some (.lst xs)=>_ | _=>none)=none; rw [g]
     rw [z] at h3
     exact h3.elim
    | dcx _ =>
     have z:Qgs (.ref n) xi x w3.S=none:=by show (match w3.S.get n with | some (.lst xs)=>_ | _=>none)=none; rw [g]
     rw [z] at h3
     exact h3.elim
    | ins _ _ =>
     have z:Qgs (.ref n) xi x w3.S=none:=by show (match w3.S.get n with | some (.lst xs)=>_ | _=>none)=none; rw [g]
     rw [z] at h3
     exact h3.elim
  | _=>exact h3.elim
end
section
variable {T:Tab} {r:Nat->Option Addr} {G:Hp}
theorem RelFs.put {ws:List (Nat×Mir.W)} {fs:List (Str×V)} (h:RelFs T r G ws fs) {k:Nat} {f:Str} (hf:T.nm.an[k]?=some f) {x:Mir.W} {v:V} (rv:RelW T r G x v):RelFs T r G (Qcx ws k x) (putF f v fs):=by
 induction ws generalizing fs with
 | nil=>cases h; exact .cons hf rv .nil
 | cons p ws ih =>
  obtain ⟨j,y⟩:=p
  cases h with
  | @cons _ g _ u _ fs e1 h q =>
   show RelFs T r G (if Nat.beq j k then (j,x)::ws else (j,y)::Qcx ws k x) (if g=f then (g,v)::fs else (g,u)::putF f v fs)
   cases hb:Nat.beq j k with
   | true =>
    have hj:=Nat.eq_of_beq_eq_true hb
    subst hj
    have:g=f:=by rw [e1] at hf; exact Option.some.inj hf
    rw [if_pos rfl,if_pos this]
    exact .cons e1 rv q
   | false =>
    have hne:g≠f:=λz=>by
     rw [z] at e1
     rw [Qxh T e1 hf,Nat.beq_refl] at hb
     cases hb
    rw [if_neg (by decide),if_neg hne]
    exact .cons e1 h (ih q)
end
section
variable {X:Cx} {nm:Nm} {E:XK} {pos p:Pos} {sup:Nat->List Nat}
theorem Qzc {S:Store} {k:Nat} {x y:Mir.W} {S':Store} (h:fld k x S=.ok y S'):∃ c,Qdh S x=some c:=by
 cases x with
 | obj c ws=>exact ⟨c,rfl⟩
 | ref n =>
  have h':(match S.get n with | some (.ins _ fs)=>Kw (Qh2 fs k) S | _=>.bad)=.ok y S':=h
  cases q:S.get n with
  | none=>rw [q] at h'; cases h'
  | some so =>
   rw [q] at h'
   cases so with
   | lst _=>cases h'
   | dct _=>cases h'
   | dcx _=>cases h'
   | ins c ws=>exact ⟨c,by show (match S.get n with | some (.ins c _)=>some c | _=>none)=_; rw [q]⟩
 | _=>cases h
theorem Qcl {e:Expr} {m:ME} {f:Str} {k:Nat} (F:SF (tb X nm) sup) (hf:nm.an[k]?=some f) (he:WE X nm E e m) (hb:attributeBase e f X.env (eval e X.env)=eval e X.env:=by rfl):WE X nm E (.Attribute e f pos) (JS (fld k) m) :=
 Yw (pe_fld he hb) fun σ H Q ⟨w,d,eH,o,re,h⟩=>by
  subst eH
  refine Yq (YD o re h) ?_
  rintro x H1 ⟨w1,a',rfl,o1,x1,re1,ra,h1⟩
  cases g:fld k a' w1.S with
  | bad=>rw [g] at h1; exact h1.elim
  | err c0 fs S1 =>
   exfalso
   cases a' with
   | obj c ws =>
    have g':Kw (Qh2 ws k) w1.S=.err c0 fs S1:=g
    cases q:Qh2 ws k <;> (rw [q] at g'; cases g')
   | ref n =>
    have g':(match w1.S.get n with | some (.ins _ fs)=>Kw (Qh2 fs k) w1.S | _=>.bad)=.err c0 fs S1:=g
    cases q:w1.S.get n with
    | none=>rw [q] at g'; cases g'
    | some so =>
     rw [q] at g'
     cases so with
     | lst _=>cases g'
     | dct _=>cases g'
     | dcx _=>cases g'
     | ins c ws =>
      have g2:Kw (Qh2 ws k) w1.S=.err _ fs S1:=g'
      cases q2:Qh2 ws k <;> (rw [q2] at g2; cases g2)
   | _=>cases g
  | ok y S1 =>
   obtain ⟨c,gc⟩:=Qzc g
   obtain ⟨a,C,dx,ws,fs,rfl,hH,hC,q,hfl⟩:=o1.ins gc ra
   rw [hfl k] at g
   cases g2:Qh2 ws k with
   | none=>rw [g2] at g; cases g
   | some z =>
    obtain ⟨v,e1,rz⟩:=q.look hf g2
    refine ⟨a,C,dx,fs,v,rfl,hH,F.cls c C hC,F.noat c C k f hC hf,e1,?_⟩
    rw [hfl k,g2] at h1
    exact Jl.val o1 h1 rz
theorem Qcz {o e:Expr} {mo me:ME} {f:Str} {k:Nat} {pos':Pos} (F:SF (tb X nm) sup) (hf:nm.an[k]?=some f) (ho:WE X nm E o mo) (he:WE X nm E e me) (hs:swapsWith e (some (.Attribute o f pos')) pos.line X.env=pure false:=by rfl):WS X nm E (.Assign [.Attribute o f pos'] e pos) (Mir.sFld k mo me) :=
 Qf8 (ps_fld ho he hs) λD σ H ⟨w,d,eH,ok,re,h⟩=>by
  subst eH
  refine Yq (YD ok re h) ?_
  rintro v H1 ⟨w1,x,rfl,o1,x1,re1,rv,h1⟩
  refine Yq (YD o1 re1 h1) ?_
  rintro vo H2 ⟨w2,xo,rfl,o2,x2,re2,ro,h2⟩
  have rv2:w2.rel (tb X nm) x v:=rv.mono x2.le x2.ex
  cases xo with
  | ref n =>
   cases g:w2.S.get n with
   | none =>
    have z:Qid k (.ref n) x w2.S=none:=by show (match w2.S.get n with | some (.ins c fs)=>_ | _=>none)=none; rw [g]
    rw [z] at h2
    exact h2.elim
   | some so =>
    cases so with
    | ins c ws =>
     cases gl:Nat.blt ws.length 900 with
     | false =>
      have z:Qid k (.ref n) x w2.S=none:=by
       show (match w2.S.get n with | some (.ins c fs)=>if Nat.blt fs.length 900 then some (w2.S.put n (.ins c (Qcx fs k x))) else none | _=>none)=none
       rw [g]
       show (if Nat.blt ws.length 900 then some (w2.S.put n (.ins c (Qcx ws k x))) else none)=none
       rw [gl] <;> rfl
      rw [z] at h2
      exact h2.elim
     | true =>
      have z:Qid k (.ref n) x w2.S=some (w2.S.put n (.ins c (Qcx ws k x))):=by
       show (match w2.S.get n with | some (.ins c fs)=>if Nat.blt fs.length 900 then some (w2.S.put n (.ins c (Qcx fs k x))) else none | _=>none)=_
       rw [g]
       show (if Nat.blt ws.length 900 then some (w2.S.put n (.ins c (Qcx ws k x))) else none)=_
       rw [gl] <;> rfl
      rw [z] at h2
      obtain ⟨a,C,dx,fs,rfl,at_,_,h3,h4,h5⟩:=o2.insAt g ro
      refine ⟨a,C,dx,fs,rfl,h3,F.cls c C h4,F.noat c C k f h4 hf,?_,?_⟩
      ·rw [<- h5.length]
       have:ws.length<900:=Nat.le_of_ble_eq_true gl
       omega
      ·exact h2 (w2.put n a (.ins c (Qcx ws k x)) (.ins C dx (putF f v fs))) (o2.put at_ ⟨C,dx,_,rfl,h4,h5.put hf rv2⟩) (Ext.put at_) rfl σ re2
    | lst _ =>
     have z:Qid k (.ref n) x w2.S=none:=by show (match w2.S.get n with | some (.ins c fs)=>_ | _=>none)=none; rw [g]
     rw [z] at h2
     exact h2.elim
    | dct _ =>
     have z:Qid k (.ref n) x w2.S=none:=by show (match w2.S.get n with | some (.ins c fs)=>_ | _=>none)=none; rw [g]
     rw [z] at h2
     exact h2.elim
    | dcx _ =>
     have z:Qid k (.ref n) x w2.S=none:=by show (match w2.S.get n with | some (.ins c fs)=>_ | _=>none)=none; rw [g]
     rw [z] at h2
     exact h2.elim
  | _=>exact h2.elim
theorem pe_or {X:Cx} {e:Expr} {t t':TE} (h:PE X e t) (h':PE X e t'):PE X e (fun σ H Q=>t σ H Q\/t' σ H Q):=⟨λpins s σ H Q I q=>q.elim (h.run pins s σ H Q I) (h'.run pins s σ H Q I)⟩
theorem Quf {T:Tab} {tab:List (Nat×MF)} {c:Nat} {m:MF} {mo:ME} {ma:MA} {C:Addr} {mn:Str} {σ:L2.St} {H:Hp} {Q:VK} (hcl:T.cls c=some C) (hmn:mn∉T.nm.an) (h:lE T (Qpx ((c,m)::tab) mo ma) E σ H Q) :
  tMeth C mn (Kc T m) [] E (lE T mo E) (lA T ma E) σ H Q\/lE T (Qpx tab mo ma) E σ H Q:=by
 obtain ⟨w,d,eH,o,re,h⟩:=h
 subst eH
 cases g:mo d w.S with
 | bad =>
  have h':Jl T w ((mo d w.S).bind _) (QW T Q) E:=h
  rw [g] at h'
  exact h'.elim
 | err c fs S1 =>
  refine .inl ⟨w,d,rfl,o,re,?_⟩
  have h':Jl T w ((mo d w.S).bind _) (QW T Q) E:=h
  rw [g] at h' ⊢
  exact h'
 | ok x S1 =>
  have h':Jl T w ((mo d w.S).bind λx S1=>match Qdh S1 x with | some k=>(match Qds ((c,m)::tab) k with | some f=>(ma d S1).bind λxs S2=>f (x::xs) S2 | none=>.bad) | none=>.bad) (QW T Q) E:=h
  rw [g] at h'
  have h2:Jl T w (match Qdh S1 x with | some k=>(match Qds ((c,m)::tab) k with | some f=>(ma d S1).bind λxs S2=>f (x::xs) S2 | none=>.bad) | none=>.bad) (QW T Q) E:=h'
  cases gc:Qdh S1 x with
  | none=>rw [gc] at h2; exact h2.elim
  | some k =>
   rw [gc] at h2
   have h3:Jl T w (match (if Nat.beq c k then some m else Qds tab k) with | some f=>(ma d S1).bind λxs S2=>f (x::xs) S2 | none=>.bad) (QW T Q) E:=h2
   cases gb:Nat.beq c k with
   | true =>
    rw [gb] at h3
    have hk:=Nat.eq_of_beq_eq_true gb
    subst hk
    refine .inl ⟨w,d,rfl,o,re,?_⟩
    rw [g]
    intro w1 o1 x1 hs v rv
    subst hs
    obtain ⟨a,C',dx,ws,fs,rfl,hH,hC,q,_⟩:=o1.ins gc rv
    rw [hcl] at hC
    cases hC
    refine ⟨a,dx,fs,rfl,hH,q.none hmn,?_⟩
    have h4:Jl T w ((ma d w1.S).bind λxs S2=>m (x::xs) S2) (QW T Q) E:=h3
    refine Qev (Qc7 o1 (re.mono x1.le x1.ex) (h4.mono x1)) ?_
    rintro vs H2 ⟨w2,xs,rfl,o2,x2,re2,rvs,h5⟩
    rw [List.append_nil]
    exact ⟨w2,x::xs,rfl,o2,.cons (rv.mono x2.le x2.ex) rvs,h5⟩
   | false =>
    rw [gb] at h3
    refine .inr ⟨w,d,rfl,o,re,?_⟩
    show Jl T w ((mo d w.S).bind λx S1=>match Qdh S1 x with | some k=>(match Qds tab k with | some f=>(ma d S1).bind λxs S2=>f (x::xs) S2 | none=>.bad) | none=>.bad) (QW T Q) E
    rw [g]
    show Jl T w (match Qdh S1 x with | some k=>(match Qds tab k with | some f=>(ma d S1).bind λxs S2=>f (x::xs) S2 | none=>.bad) | none=>.bad) (QW T Q) E
    rw [gc]
    exact h3
theorem Qv1 {T:Tab} {mo:ME} {ma:MA} {σ:L2.St} {H:Hp} {Q:VK} (h:lE T (Qpx [] mo ma) E σ H Q):lE T mo E σ H (λ_ _=>False):=by
 obtain ⟨w,d,eH,o,re,h⟩:=h
 subst eH
 refine Yq (YD o re h) ?_
 rintro v H1 ⟨w1,x,rfl,o1,x1,re1,rv,h1⟩
 cases g:Qdh w1.S x with
 | none=>rw [g] at h1; exact h1
 | some c=>rw [g] at h1; exact h1
section
variable {CX:CXT} {k:Nat} {mn:Str} {c c2:Nat} {m m2:MF} {C C2 f f2:Addr} {fd fd2:FuncData} {ps ps2:List Str} {o e:Expr} {es:List Expr} {mo:ME} {ma:MA} {apos:Pos}
theorem Qxo {pl:Sem Bool} (F:SF (tb X nm) sup) (M:MtOk X nm CX k mn c m C f fd ps) (hmn:mn∉nm.an) (hr:Room k X.A) (hx:Passes CX X E) (ho:WE X nm E o mo) (ha:WA X nm E (e::es) ma)
  (hst:starEach (e::es) X.env=(false,eval e X.env)::starEach es X.env:=by rfl) (hpl:(backTo pos (starEach es X.env)).any (·.1)=false:=by rfl)
  (ht:eval (.Call (.Attribute o mn apos) (e::es) [] pos) X.env=(do
    let ov <- eval o X.env
    standAt apos.atName
    let (f,first) <- holding [ov] (getMethod ov mn pl)
    callWith pos f first (backTo pos (starEach (e::es) X.env)) (backToKw pos (keywordEach [] X.env))):=by rfl) :
  WE X nm E (.Call (.Attribute o mn apos) (e::es) [] pos) (Qpx [(c,m)] mo ma) :=
 Yw (pe_or (pe_meth (pl:=pl) ho (F.cls c C M.hc) M.me M.fn hr M.bi .nil hx ha hst hpl ht) (pe_meth (pl:=pl) (C:=C) (sp:=λ_ _ _ _=>False) ho (F.cls c C M.hc) M.me ⟨λ_ _ _ _ h=>h.elim,λ_ _ _ _ _ _ _ _ _ _ _ _ _ h=>h.elim⟩ hr M.bi .nil hx ha hst hpl ht)) fun σ H Q h=>by
  rcases Quf M.hc hmn h with q | q
  ·exact .inl q
  ·exact .inr (Yq (Qv1 q) λ_ _ z=>z.elim)
end
section
variable {CX:CXT} {k:Nat} {x:Str} {c:Nat} {m:MF} {C f:Addr} {fd:FuncData} {ps:List Str} {e:Expr} {es:List Expr} {ma:MA}
def Wd.inst (w:Wd) (x dx C:Addr) (c:Nat):Wd:=(w.layF dx (.own x)).lay x (.ins c []) (.ins C dx [])
theorem Ok.inst {T:Tab} {w:Wd} (o:Ok T w) {x dx C:Addr} {c:Nat} (hC:T.cls c=some C) (h1:w.H x=none) (h2:w.H dx=none) (h3:dx≠x):Ok T (w.inst x dx C c)/\Ext w (w.inst x dx C c):=by
 have o1:=o.layF (o:=.own x) h2
 have hx:(w.layF dx (.own x)).H x=none:=by show upd w.H dx _ x=none; rw [upd_ne (Ne.symm h3)]; exact h1
 exact ⟨o1.lay hx ⟨C,dx,[],rfl,hC,.nil⟩,(Ext.layF o h2).trans (Ext.lay o1 hx)⟩
end
theorem Qh7 {σ σ':L2.St} (hl:σ'.length=σ.length):∀ {vs:List Nat},(∀ i,i∉vs->σ'[i]?=σ[i]?)->wipe σ' vs=wipe σ vs:=by
 intro vs h
 refine List.ext_getElem? λi=>?_
 by_cases hi:i∈vs
 ·have key:∀ (σ:L2.St) (vs:List Nat),i∈vs->(wipe σ vs)[i]?=if i<σ.length then some none else none:=by
   intro σ vs
   induction vs with
   | nil=>intro z; cases z
   | cons v vs ih =>
    intro z
    show ((wipe σ vs).set v none)[i]?=_
    by_cases hv:v=i
    ·subst hv
     rw [List.getElem?_set_self']
     by_cases hl:v<σ.length
     ·rw [if_pos hl,List.getElem?_eq_getElem (by rw [wipe_length]; exact hl)] <;> rfl
     ·rw [if_neg hl,List.getElem?_eq_none (by rw [wipe_length]; omega)] <;> rfl
    ·rw [List.getElem?_set_ne hv]
     exact ih ((List.mem_cons.mp z).elim (λq=>absurd q.symm hv) id)
  rw [key σ' vs hi,key σ vs hi,hl]
 ·rw [wipe_out hi,wipe_out hi]
  exact h i hi
theorem Qh6 (σ:L2.St) (vs:List Nat):wipe (wipe σ vs) vs=wipe σ vs:=Qh7 (wipe_length σ vs) λ_ hi=>wipe_out hi
theorem RelEnv.setN {T:Tab} {r:Nat->Option Addr} {G:Hp} {d:Jo} {s:L2.St} (h:RelEnv T r G d s) (i:Nat) {o:Option V}:RelEnv T r G (Jz d i Option.none) (s.set i o):=by
 induction h generalizing i with
 | nil=>cases i <;> exact .nil
 | none q ih=>cases i with
  | zero=>exact .none q
  | succ i=>exact .none (ih i)
 | some h q ih=>cases i with
  | zero=>exact .none q
  | succ i=>exact .some h (ih i)
theorem RelEnv.wipe {T:Tab} {r:Nat->Option Addr} {G:Hp} {d:Jo} {s:L2.St} (h:RelEnv T r G d s):∀ vs:List Nat,RelEnv T r G (JV d vs) (L2.wipe s vs)
 | []=>h
 | v::vs=>(RelEnv.wipe h vs).setN v
theorem Jl.bind0 {α β:Type} {T:Tab} {w:Wd} {r:Out α} {k:α->Store->Out β} {R:β->Wd->Prop} (h:Jl T w (r.bind k) R E):Jl T w r (λx w1=>Jl T w (k x w1.S) R E) E:=by
 cases r with
 | ok x S1 =>
  intro w1 o1 x1 hs
  subst hs
  exact h
 | err c fs S1=>exact h
 | bad=>exact h
section
variable {T:Tab} {w0 w:Wd} {d:Jo} {σ:L2.St} {β:Type} {R:β->Wd->Prop}
theorem Qla {a:ME} {k:Mir.W->Store->Out β} (o:Ok T w) (e:Ext w0 w) (re:w.env T d σ) (h:Jl T w0 ((a d w.S).bind k) R E) :
  lE T a E σ w.H λv H1=>∃ w1 x,w1.H=H1/\Ok T w1/\Ext w w1/\w1.env T d σ/\w1.rel T x v/\Jl T w0 (k x w1.S) R E :=
 ⟨w,d,rfl,o,re,(h.bind0.mono e).imp λx w1 o1 x1 q v rv=>⟨w1,x,rfl,o1,x1,re.mono x1.le x1.ex,rv,q⟩⟩
theorem Qk9 {a:MT} {k:Bool->Store->Out β} (o:Ok T w) (e:Ext w0 w) (re:w.env T d σ) (h:Jl T w0 ((a d w.S).bind k) R E) :
  lT T a E σ w.H λx H1=>∃ w1,w1.H=H1/\Ok T w1/\Ext w w1/\w1.env T d σ/\Jl T w0 (k x w1.S) R E :=
 ⟨w,d,rfl,o,re,(h.bind0.mono e).imp λx w1 o1 x1 q=>⟨w1,rfl,o1,x1,re.mono x1.le x1.ex,q⟩⟩
end
theorem Qw5 {T:Tab} {w1:Wd} {D:Addr} {g:Gd} {t:Tg} {mt:MT} {me:ME} {d:Jo} {σ:L2.St} {own:List Nat} {xs:List Mir.W} {J:It} {R:List Mir.W->Wd->Prop} {Q:Hp->Prop} (ht:∀ i∈tgS t,i∈own) (o1:Ok T w1) (re1:w1.env T d σ) (hw:Walk T w1 xs g J) (hD:w1.H D=none)
  (hz:xs.length<=Jy) (h:Jl T w1 (Kh g t mt me (JV d own) xs w1.S) R E)
  (fin:∀ w' ys acc,Ok T w'->Ext w1 w'->Out_ w' D->w'.H D=some (.lst acc)->w'.rels T ys acc->R ys w'->Q w'.H) :
  ∃ W:Nat->Nat->Hp->Prop,(∃ m,W 0 m (upd w1.H D (.lst [])))/\∀ i m H,W i m H ->
   (J.stop i H/\Q H)\/(J.go i H/\∃ Nx:Hp->Prop,(∀ H',Nx H'->∃ m',m' < m/\W (i+1) m' H')/\∀ x H',J.yld i H x H'->lG T t x (L2.wipe σ own) H' fun σ2 H2=>L2.wipe σ2 own=L2.wipe σ own/\lT T mt E σ2 H2 λb H3 =>
     if b=true then lE T me E σ2 H3 λy H4=>∃ acc,H4 D=some (.lst acc)/\acc.length<sizeLine/\Nx (upd H4 D (.lst (acc++[y]))) else Nx H3):=by
 let St:Nat->List Mir.W->Hp->Prop:=λi rest H=>∃ w' ys acc,w'.H=H/\Ok T w'/\Ext w1 w'/\Out_ w' D/\w'.H D=some (.lst acc)/\w'.rels T ys acc/\acc.length<=i/\Jl T w1 (Kh g t mt me (JV d own) rest w'.S) (λzs w2=>R (ys++zs) w2) E
 refine ⟨λi m H=>m=xs.length-i/\i<=xs.length/\St i (xs.drop i) H,⟨xs.length,rfl,Nat.zero_le _,w1.setU D (.lst []),[],[],rfl,o1.setU (o1.out hD) (λps z=>by rw [hD] at z; cases z),Ext.setU (Ext.refl _) hD,o1.out hD,upd_same,.nil,Nat.le_refl _,h⟩,?_⟩
 rintro i m H ⟨rfl,hi,w',ys,acc,rfl,o',x',out,hacc,q,hl,h'⟩
 cases hst:Ky w'.S g with
 | false =>
  exfalso
  cases e:xs.drop i with
  | nil =>
   rw [e] at h'
   have h2:Jl T w1 (if Ky w'.S g then .ok [] w'.S else .bad) (λzs w2=>R (ys++zs) w2) E:=h'
   rw [hst] at h2
   exact h2
  | cons y r =>
   rw [e] at h'
   have h2:Jl T w1 (if Ky w'.S g then (match JG t y (JV d own) with | none=>.bad | some d1=>(mt d1 w'.S).bind λb S1=>if b then (me d1 S1).bind λy S2=>(Kh g t mt me (JV d own) r S2).bind λys S3=>.ok (y::ys) S3 else Kh g t mt me (JV d own) r S1) else .bad) (λzs w2=>R (ys++zs) w2) E:=h'
   rw [hst] at h2
   exact h2
 | true =>
  obtain ⟨hgo,hstop⟩:=hw w' o' x'.g hst
  cases e:xs.drop i with
  | nil =>
   have hl:i=xs.length:=Nat.le_antisymm hi (List.drop_eq_nil_iff.mp e)
   subst hl
   rw [e] at h'
   have h2:Jl T w1 (if Ky w'.S g then .ok [] w'.S else .bad) (λzs w2=>R (ys++zs) w2) E:=h'
   rw [hst] at h2
   have h3:R (ys++[]) w':=h2 w' o' x' rfl
   rw [List.append_nil] at h3
   exact .inl ⟨hstop,fin w' ys acc o' x' out hacc q h3⟩
  | cons y r =>
   rw [e] at h'
   have h2:Jl T w1 (if Ky w'.S g then (match JG t y (JV d own) with | none=>.bad | some d1=>(mt d1 w'.S).bind λb S1=>if b then (me d1 S1).bind λy S2=>(Kh g t mt me (JV d own) r S2).bind λys S3=>.ok (y::ys) S3 else Kh g t mt me (JV d own) r S1) else .bad) (λzs w2=>R (ys++zs) w2) E:=h'
   rw [hst] at h2
   have hiy:xs[i]?=some y:=by
    have:=List.getElem?_drop (xs:=xs) (i:=i) (j:=0)
    rw [e] at this
    simpa using this.symm
   have hr:r=xs.drop (i+1):=by
    have:=List.drop_drop (i:=1) (j:=i) (l:=xs)
    rw [e] at this
    simpa using this
   have hlt:i<xs.length:=(List.getElem?_eq_some_iff.mp hiy).1
   obtain ⟨go,yl⟩:=hgo i y hiy
   cases gt:JG t y (JV d own) with
   | none =>
    rw [gt] at h2
    exact h2.elim
   | some d1 =>
    rw [gt] at h2
    refine .inr ⟨go,St (i+1) r,?_,λv H2 hy=>?_⟩
    ·intro H' hs
     rw [hr] at hs
     exact ⟨xs.length-(i+1),by omega,rfl,hlt,hs⟩
    ·obtain ⟨w2,rfl,o2,x2,hS,rv⟩:=yl v H2 hy
     have re2:w2.env T (JV d own) (L2.wipe σ own):=(re1.mono (x'.trans x2).le (x'.trans x2).ex).wipe own
     refine ⟨w2,JV d own,y,d1,rfl,o2,re2,rv,gt,fun σ2 re2' ch=>⟨?_,?_⟩⟩
     ·rw [Qh7 (vs:=own) ch.1 (λj hj=>ch.2 j λz=>hj (ht j z)),Qh6]
     ·obtain ⟨out2,hacc2⟩:=out.ext hacc x2
      have q2:=q.mono x2.le x2.ex
      have h3:=h2
      rw [<- hS] at h3
      refine Qhi (Qk9 o2 (x'.trans x2) re2' h3) ?_
      rintro b H3 ⟨w3,rfl,o3,x3,re3,h4⟩
      obtain ⟨out3,hacc3⟩:=out2.ext hacc2 x3
      have q3:=q2.mono x3.le x3.ex
      have e13:=(x'.trans x2).trans x3
      cases b with
      | false=>exact ⟨w3,ys,acc,rfl,o3,e13,out3,hacc3,q3,Nat.le_succ_of_le hl,h4⟩
      | true =>
       refine Yq (Qla o3 e13 re3 h4) ?_
       rintro u H4 ⟨w4,z,rfl,o4,x4,re4,rz,h5⟩
       obtain ⟨out4,hacc4⟩:=out3.ext hacc3 x4
       have q4:=q3.mono x4.le x4.ex
       have hlen:acc.length<sizeLine:=Nat.lt_of_le_of_lt hl (Nat.lt_of_lt_of_le hlt (Qkq hz))
       refine ⟨acc,hacc4,hlen,w4.setU D (.lst (acc++[u])),ys++[z],acc++[u],rfl,o4.setU out4 (λps z=>by rw [hacc4] at z; cases z),Ext.setU (e13.trans x4) hD,out4,upd_same,q4.append (.cons rz .nil),by rw [List.length_append]; exact Nat.succ_le_succ hl,?_⟩
       refine (Jl.bind0 h5).imp λzs w5 o5 x5 h7=>?_
       have h8:R (ys++z::zs) w5:=h7 w5 o5 x5 rfl
       rw [List.append_assoc]
       exact h8
section
variable {tg iter elt:Expr} {ifs:List Expr} {scope:Scope} {own:List (Str×Nat)} {mi:MI} {t:Tg} {mt:MT} {me:ME}
abbrev WTs (X:Cx) (nm:Nm) (E:XK) (e:List Expr) (m:MT):Prop:=PTs X e (lT (tb X nm) m E)
theorem Qyk {X:Cx} {e:List Expr} {t t':TT} (h:PTs X e t) (k:∀ σ H Q,t' σ H Q->t σ H Q):PTs X e t':=⟨λpins s σ H Q I q=>h.run pins s σ H Q I (k σ H Q q)⟩
theorem Qb2:WTs X nm E [] Mir.tYes:=Qyk pts_nil fun σ H Q ⟨w,d,eH,o,re,h⟩=>by
 subst eH
 exact h.here o rfl
theorem Qfj {c:Expr} {m:MT} (h:WT X nm E c m):WTs X nm E [c] m:=pts_one h
theorem Qw6 {T:Tab} {σ:L2.St} {H:Hp} {Q:VK} {vs:List Nat} (ht:∀ i∈tgS t,i∈vs) (h:lE T (JZ vs mi t mt me) E σ H Q):tLc (lI T mi E) (lG T t) (lT T mt E) (lE T me E) vs σ H Q:=by
 obtain ⟨w,d,eH,o,re,h⟩:=h
 subst eH
 have h0:Jl T w (((mi d w.S).bind λp S1=>if Nat.ble p.1.length Jy then Kh p.2 t mt me (JV d vs) p.1 S1 else .bad).bind λys S1=>.ok (.lst ys) S1) (QW T Q) E:=h
 have h1:Jl T w ((mi d w.S).bind λp S1=>(if Nat.ble p.1.length Jy then Kh p.2 t mt me (JV d vs) p.1 S1 else .bad).bind λys S1=>.ok (.lst ys) S1) (QW T Q) E:=by
  cases g:mi d w.S with
  | ok x S1=>rw [g] at h0; exact h0
  | err c fs S1=>rw [g] at h0; exact h0
  | bad=>rw [g] at h0; exact h0
 refine ⟨w,d,rfl,o,re,(Jl.bind h1).imp λp w1 o1 x1 h2 J hw D hD=>?_⟩
 obtain ⟨xs,g⟩:=p
 cases gl:Nat.ble xs.length Jy with
 | false =>
  have h3:Jl T w1 ((if Nat.ble xs.length Jy then Kh g t mt me (JV d vs) xs w1.S else .bad).bind λys S1=>.ok (.lst ys) S1) (QW T Q) E:=h2
  rw [gl] at h3
  exact h3.elim
 | true =>
  have h3:Jl T w1 ((if Nat.ble xs.length Jy then Kh g t mt me (JV d vs) xs w1.S else .bad).bind λys S1=>.ok (.lst ys) S1) (QW T Q) E:=h2
  rw [gl] at h3
  refine Qw5 ht o1 (re.mono x1.le x1.ex) hw hD (Nat.le_of_ble_eq_true gl) (Jl.bind0 h3) λw' ys acc o' x' out hacc q r=>?_
  exact r (w'.fixU D (.lst acc)) (o'.fixU out hacc) (Ext.fixU x' hD out) rfl (.ref D) (.lst (by show upd w'.G D _ D=_; exact upd_same) (q.mono (Yp.refl _) λb x e=>by show upd w'.G D _ b=some x; rw [upd_ne (ne_of_none e out.1)]; exact e))
theorem QA9 {T:Tab} {σ:L2.St} {H:Hp} {Q:VK} {vs:List Nat} (ht:∀ i∈tgS t,i∈vs) (h:lE T (eLcM vs mi t mt me) E σ H Q):tLc (lI T mi E) (lG T t) (lT T mt E) (lE T me E) vs σ H Q:=by
 obtain ⟨w,d,eH,o,re,h⟩:=h
 subst eH
 have h0:Jl T w (((mi d w.S).bind λp S1=>if Nat.ble p.1.length Jy then Kh p.2 t mt me (JV d vs) p.1 S1 else .bad).bind λys S1=>.ok (.ref S1.next) (S1.new (.lst ys))) (QW T Q) E:=h
 have h1:Jl T w ((mi d w.S).bind λp S1=>(if Nat.ble p.1.length Jy then Kh p.2 t mt me (JV d vs) p.1 S1 else .bad).bind λys S1=>.ok (.ref S1.next) (S1.new (.lst ys))) (QW T Q) E:=by
  cases g:mi d w.S with
  | ok x S1=>rw [g] at h0; exact h0
  | err c fs S1=>rw [g] at h0; exact h0
  | bad=>rw [g] at h0; exact h0
 refine ⟨w,d,rfl,o,re,(Jl.bind h1).imp λp w1 o1 x1 h2 J hw D hD=>?_⟩
 obtain ⟨xs,g⟩:=p
 cases gl:Nat.ble xs.length Jy with
 | false =>
  have h3:Jl T w1 ((if Nat.ble xs.length Jy then Kh g t mt me (JV d vs) xs w1.S else .bad).bind λys S1=>.ok (.ref S1.next) (S1.new (.lst ys))) (QW T Q) E:=h2
  rw [gl] at h3
  exact h3.elim
 | true =>
  have h3:Jl T w1 ((if Nat.ble xs.length Jy then Kh g t mt me (JV d vs) xs w1.S else .bad).bind λys S1=>.ok (.ref S1.next) (S1.new (.lst ys))) (QW T Q) E:=h2
  rw [gl] at h3
  refine Qw5 ht o1 (re.mono x1.le x1.ex) hw hD (Nat.le_of_ble_eq_true gl) (Jl.bind0 h3) λw' ys acc o' x' out hacc q r=>?_
  exact r (w'.adopt D (.lst ys)) (o'.adopt out hacc ⟨acc,rfl,q.mono (Yp.lay (p:=D) (o:=.lst ys) (u:=.lst []) o') (Same.refl _)⟩) (Ext.adopt o' x' hD) rfl (.ref D) (.ref (Qmx (p:=D) (o:=.lst ys) (u:=.lst [])))
end
end
section
variable {X:Cx} {nm:Nm} {E:XK} {pos p:Pos} {sup:Nat->List Nat}
section
variable {tg iter elt:Expr} {ifs:List Expr} {scope:Scope} {own:List (Str×Nat)} {mi:MI} {t:Tg} {mt:MT} {me:ME} {vs:List Nat}
theorem Qd2 (hc:X.calm=true) (hN:X.N.Nodup) (hv:own.map (·.2)=vs) (ht0:∀ i∈tgS t,i∈vs) (ok:BlkOk X.N X.env.scope scope own) (hi:WI X nm E tg iter mi)
  (hg:∀ (s:Shared) (H:Hp) (C:Addr) (cl:List (Str×Addr)) (fp:List Addr),WG (X.blk s H scope (compEnvC scope cl C X.env) fp) nm tg t)
  (ht:∀ (s:Shared) (H:Hp) (C:Addr) (cl:List (Str×Addr)) (fp:List Addr),WTs (X.blk s H scope (compEnvC scope cl C X.env) fp) nm E ifs mt)
  (he:∀ (s:Shared) (H:Hp) (C:Addr) (cl:List (Str×Addr)) (fp:List Addr),WE (X.blk s H scope (compEnvC scope cl C X.env) fp) nm E elt me)
  (hs:∀ x,foldedSetIterable iter X.env x=pure x:=by intro _; rfl):WE X nm E (.ListComp elt [⟨tg,iter,ifs,0⟩] scope pos) (JZ vs mi t mt me):=by
 subst hv
 exact Yw (pe_lc hc hN hi ok hg ht he hs) λ_ _ _ h=>Qw6 ht0 h
theorem Qzy (hc:X.calm=true) (hN:X.N.Nodup) (hv:own.map (·.2)=vs) (ht0:∀ i∈tgS t,i∈vs) (ok:BlkOk X.N X.env.scope scope own) (hi:WI X nm E tg iter mi)
  (hg:∀ (s:Shared) (H:Hp) (C:Addr) (cl:List (Str×Addr)) (fp:List Addr),WG (X.blk s H scope (compEnvC scope cl C X.env) fp) nm tg t)
  (ht:∀ (s:Shared) (H:Hp) (C:Addr) (cl:List (Str×Addr)) (fp:List Addr),WTs (X.blk s H scope (compEnvC scope cl C X.env) fp) nm E ifs mt)
  (he:∀ (s:Shared) (H:Hp) (C:Addr) (cl:List (Str×Addr)) (fp:List Addr),WE (X.blk s H scope (compEnvC scope cl C X.env) fp) nm E elt me)
  (hs:∀ x,foldedSetIterable iter X.env x=pure x:=by intro _; rfl):WE X nm E (.ListComp elt [⟨tg,iter,ifs,0⟩] scope pos) (eLcM vs mi t mt me):=by
 subst hv
 exact Yw (pe_lc hc hN hi ok hg ht he hs) λ_ _ _ h=>QA9 ht0 h
theorem QBx {T:Tab} {m:ME} {i:Nat} {D:Ends} {σ:L2.St} {H:Hp} (h:lS T (Jx (.nm i) m) E D σ H):lE T m E σ H (λx H1=>gName i x σ H1 D.nx):=by
 obtain ⟨w,d,eH,o,re,h⟩:=h
 subst eH
 refine Yq (YD o re h) ?_
 rintro v H1 ⟨w1,x,rfl,o1,x1,re1,rv,h1⟩
 exact h1.here o1 rfl _ (re1.set i rv)
theorem Qs3 {i:Nat} {y:Str} {py spos:Pos} (hc:X.calm=true) (hN:X.N.Nodup) (hy:X.N[i]?=some y) (hyl:X.env.scope.names.lookup y=some .local)
  (hsw:swapsWith (.ListComp elt [⟨tg,iter,ifs,0⟩] scope pos) (some (.Name y py)) spos.line X.env=pure true) (hv:own.map (·.2)=vs) (ht0:∀ i∈tgS t,i∈vs) (ok:BlkOk X.N X.env.scope scope own) (hi:WI X nm E tg iter mi)
  (hg:∀ (s:Shared) (H:Hp) (C:Addr) (cl:List (Str×Addr)) (fp:List Addr),WG (X.blk s H scope (compEnvC scope cl C X.env) fp) nm tg t)
  (ht:∀ (s:Shared) (H:Hp) (C:Addr) (cl:List (Str×Addr)) (fp:List Addr),WTs (X.blk s H scope (compEnvC scope cl C X.env) fp) nm E ifs mt)
  (he:∀ (s:Shared) (H:Hp) (C:Addr) (cl:List (Str×Addr)) (fp:List Addr),WE (X.blk s H scope (compEnvC scope cl C X.env) fp) nm E elt me)
  (hs:∀ x,foldedSetIterable iter X.env x=pure x:=by intro _; rfl):WS X nm E (.Assign [.Name y py] (.ListComp elt [⟨tg,iter,ifs,0⟩] scope pos) spos) (Jx (.nm i) (JZ vs mi t mt me)):=by
 subst hv
 exact Qf8 (ps_setLc hc hN hy hyl hsw hi ok hg ht he hs) λ_ _ _ h=>Qw6 ht0 (QBx h)
end
theorem Qnd {K:Frag} {a b:String} {r:Bool} (h:kitB a b=some r):PySem.W.kitOne K (.type a) (.type b)=some r:=kit_ty h
theorem Qta {T:Tab} {w:Wd} (F:SF T sup) (o:Ok T w) {x:Mir.W} {v:V} (rv:w.rel T x v) (hx:∃ t b,Ys sup w.S x t=some b) :
  ∃ tv,TyX T.K w.H v tv/\∀ t b u,Ys sup w.S x t=some b->tyV_ T t=some u->PySem.W.kitOne T.K tv u=some b:=by
 have bi:∀ (n:String),n∈["NoneType", "int", "bool", "str", "list", "tuple"]->∀ c u,tyV_ T (.own c)=some u->PySem.W.kitOne T.K (.type n) u=some false:=by
  intro n hn c u hu
  have hu':(T.cls c).map Value.ref=some u:=hu
  cases g:T.cls c with
  | none=>rw [g] at hu'; cases hu'
  | some C=>rw [g] at hu'; cases hu'; exact F.kitT c C g n hn
 have ow:∀ c C,T.cls c=some C->∀ t b u,some (Qom (sup c) t)=some b->tyV_ T t=some u->PySem.W.kitOne T.K (.ref C) u=some b:=by
  intro c C hC t b u h1 h2
  cases t with
  | own k =>
   cases h1
   have hu':(T.cls k).map Value.ref=some u:=h2
   cases g:T.cls k with
   | none=>rw [g] at hu'; cases hu'
   | some D=>rw [g] at hu'; cases hu'; exact F.kit c C k D hC g
  | int=>cases h1; cases h2; exact F.kitB c C hC "int" (by simp)
  | bool=>cases h1; cases h2; exact F.kitB c C hC "bool" (by simp)
  | str=>cases h1; cases h2; exact F.kitB c C hC "str" (by simp)
  | list=>cases h1; cases h2; exact F.kitB c C hC "list" (by simp)
  | tuple=>cases h1; cases h2; exact F.kitB c C hC "tuple" (by simp)
 have lst:∀ a vs,v=.ref a->w.H a=some (.lst vs)->(∀ t b,Ys sup w.S x t=some b->some (Qon t)=some b)->∃ tv,TyX T.K w.H v tv/\∀ t b u,Ys sup w.S x t=some b->tyV_ T t=some u->PySem.W.kitOne T.K tv u=some b:=by
  intro a vs ea ha hh
  subst ea
  refine ⟨_,.base (.lst ha),λt b u h1 h2=>?_⟩
  have h1:=hh t b h1
  cases t with
  | own k=>cases h1; exact bi "list" (by simp) k u h2
  | _=>cases h1; cases h2; exact Qnd (by decide +kernel)
 cases x with
 | non =>
  cases rv.non_inv
  refine ⟨_,.base .non,λt b u h1 h2=>?_⟩
  cases t with
  | own k=>cases h1; exact bi "NoneType" (by simp) k u h2
  | _=>cases h1; cases h2; exact Qnd (by decide +kernel)
 | bl c =>
  cases rv.bl_inv
  refine ⟨_,.base (.bl c),λt b u h1 h2=>?_⟩
  cases t with
  | own k=>cases h1; exact bi "bool" (by simp) k u h2
  | _=>cases h1; cases h2; exact Qnd (by decide +kernel)
 | int i =>
  cases rv.int_inv
  refine ⟨_,.base (.int i),λt b u h1 h2=>?_⟩
  cases t with
  | own k=>cases h1; exact bi "int" (by simp) k u h2
  | _=>cases h1; cases h2; exact Qnd (by decide +kernel)
 | str z =>
  obtain ⟨x1,rfl,e1,_⟩:=rv.str_inv
  refine ⟨_,.base (.str x1),λt b u h1 h2=>?_⟩
  cases t with
  | own k=>cases h1; exact bi "str" (by simp) k u h2
  | _=>cases h1; cases h2; exact Qnd (by decide +kernel)
 | tup xs =>
  obtain ⟨a,vs,rfl,sq,q⟩:=rv.tup_inv
  have hty:TyX T.K w.H (.ref a) (.type "tuple"):=by
   rcases Qer o.ex sq with (h | ⟨ob,h⟩) | ⟨ob,its,n,h,hc,_⟩
   ·exact .base (.tup h)
   ·exact .fTuple h
   ·exact .kTuple h hc
  refine ⟨_,hty,λt b u h1 h2=>?_⟩
  cases t with
  | own k=>cases h1; exact bi "tuple" (by simp) k u h2
  | _=>cases h1; cases h2; exact Qnd (by decide +kernel)
 | lst xs =>
  obtain ⟨a,vs,rfl,h,q⟩:=rv.lst_inv
  exact lst a vs rfl (o.ex _ _ h) λt b h=>h
 | obj c ws =>
  obtain ⟨a,C,dx,fs,rfl,h,hC,q⟩:=rv.obj_inv
  obtain ⟨k1,k2⟩:=F.isc c C hC
  exact ⟨_,.base (.ins (o.ex _ _ h) (F.cls c C hC) k1 F.hn F.htk k2),λt b u h1 h2=>ow c C hC t b u h1 h2⟩
 | ref n =>
  cases g:w.S.get n with
  | none =>
   obtain ⟨t,b,ht⟩:=hx
   have:Ys sup w.S (.ref n) t=none:=by
    show (match w.S.get n with | some (.lst _)=>some (Qon t) | some (.ins c _)=>some (Qom (sup c) t) | _=>none)=none
    rw [g]
   rw [this] at ht
   cases ht
  | some so =>
   cases so with
   | lst ys =>
    obtain ⟨a,vs,rfl,_,_,h3,_⟩:=o.lstAt g rv
    refine lst a vs rfl h3 λt b h=>?_
    have h':(match w.S.get n with | some (.lst _)=>some (Qon t) | some (.ins c _)=>some (Qom (sup c) t) | _=>none)=some b:=h
    rw [g] at h'
    exact h'
   | ins c ws =>
    obtain ⟨a,C,dx,fs,rfl,_,_,h3,hC,_⟩:=o.insAt g rv
    obtain ⟨k1,k2⟩:=F.isc c C hC
    refine ⟨_,.base (.ins h3 (F.cls c C hC) k1 F.hn F.htk k2),λt b u h1 h2=>ow c C hC t b u ?_ h2⟩
    have h':(match w.S.get n with | some (.lst _)=>some (Qon t) | some (.ins c _)=>some (Qom (sup c) t) | _=>none)=some b:=h1
    rw [g] at h'
    exact h'
   | dct _ =>
    obtain ⟨t,b,ht⟩:=hx
    have:Ys sup w.S (.ref n) t=none:=by
     show (match w.S.get n with | some (.lst _)=>some (Qon t) | some (.ins c _)=>some (Qom (sup c) t) | _=>none)=none
     rw [g]
    rw [this] at ht
    cases ht
   | dcx _ =>
    obtain ⟨t,b,ht⟩:=hx
    have:Ys sup w.S (.ref n) t=none:=by
     show (match w.S.get n with | some (.lst _)=>some (Qon t) | some (.ins c _)=>some (Qom (sup c) t) | _=>none)=none
     rw [g]
    rw [this] at ht
    cases ht
 | cls c=>obtain ⟨t,b,ht⟩:=hx; cases ht
 | lsr xs=>obtain ⟨t,b,ht⟩:=hx; cases ht
theorem Qkv {x:Str} {n:String} {t:Ty} (hm:X.mg x=none) (hv:bootBuiltins x=some (.type n)) (ht:tyV_ (tb X nm) t=some (.type n)) (hg:Gl X x:=by rfl) (hn:x≠ "__name__" := by decide) (hd:(x == ("__debug__" : Str))=false:=by decide):ClsE X nm (.Name x p) t :=
 ⟨.ty n,.type n,pe_bltn hg hm hv rfl hn hd,.ty n,ht⟩
theorem Qzl {x:Str} {c:Nat} {C:Addr} (hC:(tb X nm).cls c=some C) (hm:X.mg x=some (.ref C)) (hg:Gl X x:=by rfl) (hd:(x == ("__debug__" : Str))=false:=by decide):ClsE X nm (.Name x p) (.own c) :=
 ⟨.ref C,.ref C,pe_glob hg hm rfl hd,.own C,by show ((tb X nm).cls c).map Value.ref=_; rw [hC] <;> rfl⟩
theorem Qoe {S:Store} {x:Mir.W} {t:Ty} {ts:List Ty} {b:Bool} (h:Qh5 sup S x (t::ts)=some b):∃ c,Ys sup S x t=some c:=by
 have h':(match Ys sup S x t with | some true=>some true | some false=>Qh5 sup S x ts | none=>none)=some b:=h
 cases g:Ys sup S x t with
 | none=>rw [g] at h'; cases h'
 | some c=>exact ⟨c,rfl⟩
theorem Qh9 {e c:Expr} {m:ME} {t:Ty} (F:SF (tb X nm) sup) (hm:X.mg "isinstance" = none) (he:WE X nm E e m) (hc:ClsE X nm c t) (hg:Gl X "isinstance" := by rfl)
  (hs1:starEach [e,c] X.env=(false,eval e X.env)::starEach [c] X.env:=by rfl) (hs2:starEach [c] X.env=(false,eval c X.env)::starEach [] X.env:=by rfl) (hpl:(backTo pos (starEach [c] X.env)).any (·.1)=false:=by rfl) :
  WE X nm E (.Call (.Name "isinstance" p) [e,c] [] pos) (KD sup [t] m):=by
 obtain ⟨cv,u,h1,h2,h3⟩:=hc.ex
 refine Yw (pe_callB call_isi hg hm (by decide +kernel) (pa_cons he (pa_cons h1 pa_nil hs2) hs1) (by decide) (by decide) hs1 hpl) fun σ H Q ⟨w,d,eH,o,re,h⟩=>?_
 subst eH
 refine Yq (YD o re h) ?_
 rintro x H1 ⟨w1,a',rfl,o1,x1,re1,ra,h4⟩
 have h5:Jl (tb X nm) w1 (bW (Qh5 sup w1.S a' [t]) w1.S) (QW (tb X nm) Q) E:=h4
 cases g:Qh5 sup w1.S a' [t] with
 | none=>rw [g] at h5; exact h5.elim
 | some b =>
  rw [g] at h5
  obtain ⟨b',gb⟩:=Qoe g
  obtain ⟨tv,ty,k⟩:=Qta F o1 ra ⟨t,b',gb⟩
  have eb:b=b':=by
   have g':(match Ys sup w1.S a' t with | some true=>some true | some false=>some false | none=>none)=some b:=g
   rw [gb] at g'
   cases b' <;> (cases g'; rfl)
  subst eb
  exact ⟨x,cv,tv,u,b,rfl,h2,ty,k t b u gb h3,Jl.val o1 h5 (.bl b)⟩
theorem Qxp {e c1 c2:Expr} {m:ME} {t1 t2:Ty} {x1} {p3:Pos} (F:SF (tb X nm) sup) (hm:X.mg "isinstance" = none) (he:WE X nm E e m) (hc1:ClsE X nm c1 t1) (hc2:ClsE X nm c2 t2) (hg:Gl X "isinstance" := by rfl)
  (hs1:starEach [e,.Tuple [c1,c2] x1 p3] X.env=(false,eval e X.env)::starEach [.Tuple [c1,c2] x1 p3] X.env:=by rfl) (hs2:starEach [.Tuple [c1,c2] x1 p3] X.env=(false,eval (.Tuple [c1,c2] x1 p3) X.env)::starEach [] X.env:=by rfl) (hpl:(backTo pos (starEach [.Tuple [c1,c2] x1 p3] X.env)).any (·.1)=false:=by rfl)
  (hs3:starEach [c1,c2] X.env=(false,eval c1 X.env)::starEach [c2] X.env:=by rfl) (hs4:starEach [c2] X.env=(false,eval c2 X.env)::starEach [] X.env:=by rfl) :
  WE X nm E (.Call (.Name "isinstance" p) [e,.Tuple [c1,c2] x1 p3] [] pos) (KD sup [t1,t2] m):=by
 obtain ⟨cv1,u1,h1,h2,h3⟩:=hc1.ex
 obtain ⟨cv2,u2,k1,k2,k3⟩:=hc2.ex
 refine Yw (pe_callB call_isiT hg hm (by decide +kernel) (pa_cons he (pa_cons (pe_tup (pa_cons h1 (pa_cons k1 pa_nil hs4) hs3)) pa_nil hs2) hs1) (by decide) (by decide) hs1 hpl) fun σ H Q ⟨w,d,eH,o,re,h⟩=>?_
 subst eH
 refine Yq (YD o re h) ?_
 rintro x H1 ⟨w1,a',rfl,o1,x1,re1,ra,h4⟩
 refine ⟨by show 2<=sizeLine; decide,λtp hp=>?_⟩
 have h5:Jl (tb X nm) w1 (bW (Qh5 sup w1.S a' [t1,t2]) w1.S) (QW (tb X nm) Q) E:=h4
 have o2:=o1.layF (o:=.tup [cv1,cv2]) hp
 have e2:=Ext.layF (o:=.tup [cv1,cv2]) o1 hp
 cases g:Qh5 sup w1.S a' [t1,t2] with
 | none=>rw [g] at h5; exact h5.elim
 | some b =>
  rw [g] at h5
  obtain ⟨b1,gb⟩:=Qoe g
  obtain ⟨tv,ty,k⟩:=Qta F o2 (ra.mono e2.le e2.ex) ⟨t1,b1,gb⟩
  refine ⟨x,tp,[cv1,cv2],tv,[u1,u2],b,rfl,upd_same,.cons h2 (.cons k2 .nil),ty,?_,Jl.val o2 (h5.mono e2) (.bl b)⟩
  have g':(match Ys sup w1.S a' t1 with | some true=>some true | some false=>Qh5 sup w1.S a' [t2] | none=>none)=some b:=g
  rw [gb] at g'
  refine kitAny_cons (k t1 b1 u1 gb h3) (λz=>?_) λz=>?_
  ·subst z
   obtain ⟨b2,gb2⟩:=Qoe (show Qh5 sup w1.S a' [t2]=some b from g')
   have g2:(match Ys sup w1.S a' t2 with | some true=>some true | some false=>some false | none=>none)=some b:=g'
   rw [gb2] at g2
   have eb:b=b2:=by cases b2 <;> (cases g2; rfl)
   subst eb
   exact kitAny_cons (k t2 b u2 gb2 k3) (λz=>by rw [kitAny_nil,z]) λz=>z
  ·subst z
   cases g'
   rfl
end
theorem Qqr {X:Cx} {E:XK}:Passes CX0 X E:=λ_ _ _ _ _ _ _ h=>h.elim
theorem Yo {k:Nat} {A:Around} (h:Room k A):A.units+64<cLine:=h.units
theorem Yr {k:Nat} {A:Around} (h:Room k A):A.units+65<cLine:=by have:=h.un; omega
def eFrz (a:ME):ME:=λd S=>(a d S).bind λx S1=>frz S1 x
section
variable {X:Cx} {nm:Nm} {E:XK} {pos p apos:Pos} {sup:Nat->List Nat} {k:Nat} {x mn:Str} {m:MF} {c:Nat} {e o:Expr} {es:List Expr} {a:MA} {mo:ME}
theorem Qzz {m:ME} (h:WE X nm E e m):WE X nm E e (eFrz m):=Yw h fun σ H Q ⟨w,d,eH,o,re,h⟩=>by
 subst eH
 refine Yq (YD o re h) ?_
 rintro v H1 ⟨w1,x,rfl,o1,x1,re1,rv,h1⟩
 cases x with
 | ref n =>
  have h2:Jl (tb X nm) w1 (match w1.S.get n with | some (.lst xs)=>.ok (.lst xs) (w1.S.drop n) | some (.ins c fs)=>.ok (.obj c fs) (w1.S.drop n) | _=>.ok (.ref n) w1.S) (QW (tb X nm) Q) E:=h1
  cases g:w1.S.get n with
  | none=>rw [g] at h2; exact Jl.val o1 h2 rv
  | some so =>
   rw [g] at h2
   cases so with
   | lst xs =>
    obtain ⟨a,vs,rfl,at_,hG,hH,q⟩:=o1.lstAt g rv
    exact h2 (w1.frz n a (.lst vs)) (o1.frz at_ hH) (Ext.frz o1 at_) rfl (.ref a) (.lst (by show upd w1.G a _ a=_; exact upd_same) (q.mono (Ext.frz (u:=.lst vs) o1 at_).le (Ext.frz (u:=.lst vs) o1 at_).ex))
   | ins c fs =>
    obtain ⟨a,C,dx,vs,rfl,at_,hG,hH,hC,q⟩:=o1.insAt g rv
    exact h2 (w1.frz n a (.ins C dx vs)) (o1.frz at_ hH) (Ext.frz o1 at_) rfl (.ref a) (.obj (by show upd w1.G a _ a=_; exact upd_same) hC (q.mono (Ext.frz (u:=.ins C dx vs) o1 at_).le (Ext.frz (u:=.ins C dx vs) o1 at_).ex))
   | dct _=>exact Jl.val o1 h2 rv
   | dcx _=>exact Jl.val o1 h2 rv
 | _=>exact Jl.val o1 h1 rv
theorem JR (G:FnG X.prog X.w X.K X.mg X.base nm k x m) (hr:Room k X.A) (ha:WA X nm E (e::es) a) (hg:Gl X x:=by rfl)
  (hdb:(x == ("__debug__" : Str))=false:=by decide) (he:starEach (e::es) X.env=(false,eval e X.env)::starEach es X.env:=by rfl) (hpl:(backTo pos (starEach es X.env)).any (·.1)=false:=by rfl):WE X nm E (.Call (.Name x p) (e::es) [] pos) (Jg m a):=by
 obtain ⟨f,fd,ps,h1,h2,h3,h4⟩:=G.ex
 exact Qxr h4 hr h1 h2 h3 Qqr ha hg hdb he hpl
theorem Qnl (G:FnG X.prog X.w X.K X.mg X.base nm k x m) (hr:Room k X.A) (hg:Gl X x:=by rfl) (hdb:(x == ("__debug__" : Str))=false:=by decide):WE X nm E (.Call (.Name x p) [] [] pos) (Jg m Jb):=by
 obtain ⟨f,fd,ps,h1,h2,h3,h4⟩:=G.ex
 exact Qu2 h4 hr h1 h2 h3 Qqr hg hdb
theorem Qxj {pl:Sem Bool} (F:SF (tb X nm) sup) (G:MtG X.prog X.w X.K X.mg X.base nm k mn c m) (hmn:mn∉nm.an) (hr:Room k X.A) (ho:WE X nm E o mo) (ha:WA X nm E (e::es) a)
  (hst:starEach (e::es) X.env=(false,eval e X.env)::starEach es X.env:=by rfl) (hpl:(backTo pos (starEach es X.env)).any (·.1)=false:=by rfl)
  (ht:eval (.Call (.Attribute o mn apos) (e::es) [] pos) X.env=(do
    let ov <- eval o X.env
    standAt apos.atName
    let (f,first) <- holding [ov] (getMethod ov mn pl)
    callWith pos f first (backTo pos (starEach (e::es) X.env)) (backToKw pos (keywordEach [] X.env))):=by rfl) :
  WE X nm E (.Call (.Attribute o mn apos) (e::es) [] pos) (Qpx [(c,m)] mo a):=by
 obtain ⟨C,f,fd,ps,h1,h2,h3,h4⟩:=G.ex
 exact Qxo F ⟨h1,h2,h4,h3⟩ hmn hr Qqr ho ha hst hpl ht
end
section
variable {X:Cx} {nm:Nm} {E:XK} {pos p0 p1 apos spos:Pos} {bd:List Stmt}
theorem Qvr {st:Stmt} {rest:List Stmt} {t u:TS} (h1:PS X st t) (h2:PAt X bd rest u):PAt X bd (st::rest) (tSeq t u):=by
 refine ⟨λpins s σ H D I h=>PySem.ks_wpAt_execs_cons (wpAt_of_wpAny (thn (h1.run pins s σ H { D with nx:=u D } I h) λf s1 q=>?_))⟩
 cases f with
 | next =>
  obtain ⟨σ',H',I',q⟩:=q
  exact h2.run pins s1 σ' H' D I' q
 | ret v=>exact q
 | brk=>exact q
 | cont=>exact q
def tSup (i:Nat) (C:Addr) (sp:Sp) (E:XK) (t:TA):TE:=fun σ H Q=>∃ a dx fs,σ[i]?=some (some (.ref a))/\H a=some (.ins C dx fs)/\t σ H λvs H1=>sp (.ref a::vs) H1 Q E
theorem Qu5 {sv mn:Str} {i:Nat} {C D f2:Addr} {sp:Sp} {CX:CXT} {k:Nat} {e:Expr} {es:List Expr} {t:TA} {fd2:FuncData} {ps2:List Str}
  (S:SupE X sv D) (hN:X.N[i]?=some sv) (hka:X.env.scope.names.lookup sv=some .local) (hks:X.env.scope.names.lookup ("super" : Str)=some .globalImplicit) (hkc:X.env.scope.names.lookup ("__class__" : Str)=some .free)
  (hsub:PySem.W.mroIn X.K C (.ref D)=some true) (hsu:X.mg "super" = none) (htop:(X.prog.main.scope.names.lookup ("super" : Str)).isSome=false) (hop:PySem.W.nsIn X.K cStatics "thirdparty.any" = some none)
  (hm:PySem.W.ks_superIn X.K C D mn=some (some (.ref f2))) (ht:PySem.W.typeIn X.K (.ref f2)=some (.type "function")) (hfi:PySem.W.fnIn X.K f2=true) (hat:(mn == ("__class__" : Str))=false)
  (F:FnOk X.prog X.w X.K X.mg X.base CX k f2 fd2 ps2 sp) (hb:Binds X.K fd2 ps2 []) (hr:Room k X.A) (hx:Passes CX X E) (ha:PA X (e::es) t)
  (hst:starEach (e::es) X.env=(false,eval e X.env)::starEach es X.env:=by rfl) (hpl:(backTo pos (starEach es X.env)).any (·.1)=false:=by rfl)
  (hcl:(sv == ("__class__" : Str))=false:=by decide)
  (hi:interactive X.env=false:=by rfl) (hs:swapsWith (.Call (.Attribute (.Call (.Name "super" p0) [] [] p1) mn apos) (e::es) [] pos) none spos.line X.env=pure false:=by rfl) {pl:Sem Bool}
  (he:eval (.Call (.Attribute (.Call (.Name "super" p0) [] [] p1) mn apos) (e::es) [] pos) X.env=(do
    let ov <- attributeBase (.Call (.Name "super" p0) [] [] p1) mn X.env (eval (.Call (.Name "super" p0) [] [] p1) X.env)
    standAt apos.atName
    let (f,first) <- holding [ov] (getMethod ov mn pl)
    callWith pos f first (backTo pos (starEach (e::es) X.env)) []):=by rfl) :
  PAt X bd [.Expr (.Call (.Attribute (.Call (.Name "super" p0) [] [] p1) mn apos) (e::es) [] pos) spos] (λD' σ H=>tSup i C sp E t σ H λ_ H1=>D'.nx σ H1):=by
 refine ⟨λpins s σ H D' I ⟨a,dx,fs,e1,e2,h⟩=>?_⟩
 obtain ⟨f,cc,c,oc,od,osl,fd,ar,ccl,cdd,vs,ccs,file,tf,cl,cld,csl,cdD,s1,s2,s3,s4,s5,s6,s7,s8,s9,s10,s11⟩:=S.ex
 subst s4
 obtain ⟨mA,O,rr,_,_,_⟩:=ins_get I.hok e2
 obtain ⟨oD,J,hl⟩:=O.look
 obtain ⟨m,hn,hl2⟩:=I.loc
 obtain ⟨u,r,l⟩:=hl2 i ar.arg (.ref a) hN e1 (.inl hka)
 obtain rfl:u=Value.ref a:=r
 have hma:m ar.arg=some (.ref a):=by
  rcases l with ⟨_,hm⟩ | ⟨hk,_⟩
  ·exact hm
  ·rcases hk with hk | hk <;> (have hk':X.env.scope.names.lookup ar.arg=_:=hk; rw [hka] at hk'; cases hk')
 have KX:=I.kIn
 obtain ⟨oDc,hD1,hD2⟩:∃ oD,s.heap.get? D=some oD/\oD.data=.cls cdD:=by
  unfold PySem.W.clsIn at s11
  split at s11
  ·rename_i c d cd' sl ho
   cases s11
   exact ⟨_,KX _ _ ho,rfl⟩
  ·cases s11
 refine PySem.ks_wpAt_execs_cons (PySem.ks_wpAt_Expr_any (PySem.ks_wpAt_MethodCall ?_ he) hi hs)
 obtain ⟨mb,hb1,hb2⟩:=I.mod.blt
 obtain ⟨hh,g,d,tk,os⟩:=s
 refine PySem.ks_wpAt_super_base (env:=X.env) hks hkc hat s1 (KX _ _ s2) rfl s3 s5 (KX _ _ s6) rfl s7 s8 htop ?_
 refine PySem.W.ks_loadName_global I.ok.kind hks (Calls.loadGlobal_builtin (by rw [I.ok.glob]; exact I.mod.glob.keeps I.bk) hsu (by rw [I.ok.blt]; exact hb1.keeps I.bk) ((hb2 "super" (by decide)).trans (by first | rfl | kernel_rfl)) ⟨rfl,?_⟩)
 refine wpAny_loadName_free I.ok.kind hkc s9 ⟨_,KX _ _ s10,rfl⟩ ?_
 refine wpAny_loadName_local I.ok.kind hka hn hma ?_
 refine PySem.ks_wpAny_isType_cls hD1 hD2 ⟨rfl,?_⟩
 refine PySem.ks_wpAny_call_super hD1 hD2 J.at_ J.cls (λc e=>?_) (PySem.W.looks_mroIn KX hsub) (λh' e' k'=>?_)
 ·have:=J.no
  unfold PySem.W.notCls at this
  rw [e] at this
  exact Bool.noConfusion this
 have I1:Inv X ((hh.objs.size,PySem.W.ks_superObj D a C)::pins) σ H ⟨h',g,d,tk,os⟩:=ClX.pin_new (s:=⟨hh,g,d,tk,os⟩) (t':=tk) I k' (Nat.le_refl _) e' (λv z=>nomatch z)
 have KX1:=I1.kIn
 obtain ⟨mA1,O1,rr1,_,_,_⟩:=ins_get I1.hok e2
 obtain ⟨oD1,J1,hl1⟩:=O1.look
 cases hc:PySem.W.clsIn X.K C with
 | none=>unfold PySem.W.ks_superIn at hm; rw [hc] at hm; cases hm
 | some cd =>
  unfold PySem.W.ks_superIn at hm
  rw [hc] at hm
  obtain ⟨of,hof,hofc⟩:∃ of,h'.get? f2=some of/\of.cls=.type "function" := by
   have ht':(X.K.lookup f2).map (·.cls)=some (.type "function"):=ht
   cases z:X.K.lookup f2 with
   | none=>rw [z] at ht'; cases ht'
   | some of=>rw [z] at ht'; exact ⟨of,KX1 _ _ z,Option.some.inj ht'⟩
  refine PySem.ks_wpAny_getMethod_super (ClX.pin_at I1) (PySem.W.looks_opaque KX1 hop) (l₀:=cd.mro) ?_ rfl KX1 hm hof hofc (PySem.W.ks_ne KX1 J1 hc) hat ?_
  ·exact λA Q E s k q=>wpAny_bind ((PySem.W.looks_clsIn KX1 hc) A _ E s k (wpAny_pure q))
  ·have I2:Inv X ((h'.objs.size,PySem.W.methodObj (.ref f2) (.ref a))::(hh.objs.size,PySem.W.ks_superObj D a C)::pins) σ H ⟨h'.push (PySem.W.methodObj (.ref f2) (.ref a)),g,d,tk+1,os⟩ :=
    ClX.pin_new (s:=⟨h',g,d,tk,os⟩) (t':=tk+1) I1 (λ_ _ z=>Heap.get?_push_of_some _ z) (Nat.le_refl _) (Heap.get?_push_size h' rfl) (λv z=>nomatch z)
   show wpAny _ _ (callWith pos (.ref h'.objs.size) [] (backTo pos (starEach (e::es) X.env)) []) _ _ _
   have hq:=ClX.pin_at I2
   have hL:h'.objs.size≠X.env.locals:=(I2.pin (h'.objs.size,PySem.W.methodObj (.ref f2) (.ref a)) (List.mem_append_right _ List.mem_cons_self)).2.2.1
   refine PySem.W.callWith_M (K:=X.K) (h₀:=X.base) (first:=[]) I2.ok.mod.kin (news_at hL (ClX.base_none I1 (Nat.le_refl _)) hq) List.mem_cons_self hfi (thn (ha.run pos _ _ σ H _ I2 h) λus s3 ⟨vs,H2,I3,rv,q2⟩=>⟨⟨ClX.pin_at I3,I3.kIn⟩,?_⟩) hst hpl
   have z:wpAny (model X.prog X.w) X.A (call (.ref h'.objs.size) us) (EP X ((h'.objs.size,PySem.W.methodObj (.ref f2) (.ref a))::(hh.objs.size,PySem.W.ks_superObj D a C)::pins) σ (λ_ H1=>D'.nx σ H1)) X.xe s3:=by
    refine wpAny_call (PySem.W.method_call (ClX.pin_at I3) ?_)
    have r2:Vals (.ref a::vs) (.ref a::us):=.cons rfl rv
    have hl:(Value.ref a::us).length=ps2.length:=by rw [<- r2.length]; exact F.len _ _ _ _ q2
    have hb2:=hb s3 (.ref a::us) I3.kIn (by rw [List.append_nil]; exact hl)
    rw [List.append_nil] at hb2
    refine codeAny_mono (F.run X.A X.stack s3 H2 ⟨.ref a::us,[]⟩ (.ref a::us) (.ref a::vs) _ E hr I3.env0 hb2 r2 q2) λr s' hq=>?_
    cases r with
    | error e=>exact hx _ σ H2 s3 e s' I3 hq
    | ok fl =>
     cases fl with
     | ret u=>exact I3.after hq
     | next=>exact False.elim hq
     | brk=>exact False.elim hq
     | cont=>exact False.elim hq
   refine thn z λv s' y=>?_
   obtain ⟨v',H',I4,r4,q4⟩:=ClX.unpinE (ClX.unpinE y)
   exact wpAt_of_wpAny (wpAny_execs_nil ⟨σ,H',I4,q4⟩)
abbrev WSA (X:Cx) (nm:Nm) (E:XK) (bd ss:List Stmt) (m:MS):Prop:=PAt X bd ss (lS (tb X nm) m E)
theorem Qt0 {ss:List Stmt} {t t':TS} (h:PAt X bd ss t) (hq:∀ D σ H,t' D σ H->t D σ H):PAt X bd ss t':=⟨λpins s σ H D I q=>h.run pins s σ H D I (hq D σ H q)⟩
theorem Qa8 {s:Stmt} {ss:List Stmt} {m k:MS} (h1:WS X nm E s m) (h2:WSA X nm E bd ss k):WSA X nm E bd (s::ss) (Jh m k):=Qt0 (Qvr h1 h2) λD σ H ⟨w,d,e,o,re,h⟩=>by
 subst e
 refine ⟨w,d,rfl,o,re,h.bind.imp λf w1 o1 x1 q=>?_⟩
 cases f with
 | nx d1=>exact fun σ1 re1=>⟨w1,d1,rfl,o1,re1,q⟩
 | rt x=>exact q w1 o1 (Ext.refl _) rfl
 | br d1=>exact q w1 o1 (Ext.refl _) rfl
 | ct d1=>exact q w1 o1 (Ext.refl _) rfl
def Xd (c:Nat) (m:MF) (a:MA):ME:=λd S=>match Jm d 0 with
 | some x=>match Qdh S x with
  | some c'=>if Nat.beq c' c then (a d S).bind λxs S1=>m (x::xs) S1 else .bad
  | none=>.bad
 | none=>.bad
theorem Qs2 {sv mn:Str} {c dc:Nat} {D:Addr} {k:Nat} {m:MF} {e:Expr} {es:List Expr} {a:MA} (G:SupG X.prog X.w X.K X.mg X.base nm k c dc mn m) (hD:(tb X nm).cls dc=some D)
  (S:SupE X sv D) (hr:Room k X.A) (ha:WA X nm E (e::es) a)
  (hN:X.N[0]?=some sv:=by rfl) (hka:X.env.scope.names.lookup sv=some .local:=by rfl) (hks:X.env.scope.names.lookup ("super" : Str)=some .globalImplicit:=by rfl) (hkc:X.env.scope.names.lookup ("__class__" : Str)=some .free:=by rfl)
  (hat:(mn == ("__class__" : Str))=false:=by decide)
  (hst:starEach (e::es) X.env=(false,eval e X.env)::starEach es X.env:=by rfl) (hpl:(backTo pos (starEach es X.env)).any (·.1)=false:=by rfl)
  (hcl:(sv == ("__class__" : Str))=false:=by decide)
  (hi:interactive X.env=false:=by rfl) (hs:swapsWith (.Call (.Attribute (.Call (.Name "super" p0) [] [] p1) mn apos) (e::es) [] pos) none spos.line X.env=pure false:=by rfl) {pl:Sem Bool}
  (he:eval (.Call (.Attribute (.Call (.Name "super" p0) [] [] p1) mn apos) (e::es) [] pos) X.env=(do
    let ov <- attributeBase (.Call (.Name "super" p0) [] [] p1) mn X.env (eval (.Call (.Name "super" p0) [] [] p1) X.env)
    standAt apos.atName
    let (f,first) <- holding [ov] (getMethod ov mn pl)
    callWith pos f first (backTo pos (starEach (e::es) X.env)) []):=by rfl) :
  WSA X nm E bd [.Expr (.Call (.Attribute (.Call (.Name "super" p0) [] [] p1) mn apos) (e::es) [] pos) spos] (JX (Xd c m a)):=by
 obtain ⟨C,D',f2,fd2,ps2,g1,g2,g3,g4,g5,g6,g7,g8,g9,g10,g11⟩:=G.ex
 obtain rfl:D'=D:=Option.some.inj (g2.symm.trans hD)
 refine Qt0 (Qu5 S hN hka hks hkc g3 g4 g5 g6 g7 g8 g9 hat g10 g11 hr (Qqr (E:=E)) ha hst hpl hcl hi hs he) λD σ H ⟨w,d,eH,o,re,h⟩=>?_
 subst eH
 have h':Jl (tb X nm) w ((Xd c m a d w.S).bind λ_ S1=>.ok (.nx d) S1) (QS (tb X nm) D) E:=h
 unfold Xd at h'
 cases g:Jm d 0 with
 | none=>rw [g] at h'; exact h'.elim
 | some x =>
  rw [g] at h'
  dsimp only at h'
  cases gc:Qdh w.S x with
  | none=>rw [gc] at h'; exact h'.elim
  | some c' =>
   rw [gc] at h'
   dsimp only at h'
   cases gb:Nat.beq c' c with
   | false=>rw [gb] at h'; exact h'.elim
   | true =>
    rw [gb] at h'
    obtain rfl:c'=c:=Nat.eq_of_beq_eq_true gb
    obtain ⟨v,hv,rv⟩:=re.get g
    obtain ⟨a',C',dx,ws,fs,rfl,hH,hC,_,_⟩:=o.ins gc rv
    obtain rfl:C'=C:=Option.some.inj (hC.symm.trans g1)
    refine ⟨a',dx,fs,hv,hH,?_⟩
    have h2:Jl (tb X nm) w ((a d w.S).bind λxs S1=>(m (x::xs) S1).bind λ_ S1=>.ok (.nx d) S1) (QS (tb X nm) D) E:=by
     have q:=h'
     simp only [if_true] at q
     cases ga:a d w.S with
     | ok xs S1=>rw [ga] at q; exact q
     | err _ _=>rw [ga] at q; exact q
     | bad=>rw [ga] at q; exact q
    refine Qev (Qc7 o re h2) ?_
    rintro vs H1 ⟨w1,xs,rfl,o1,x1,re1,rvs,h3⟩
    refine ⟨w1,x::xs,rfl,o1,.cons (rv.mono x1.le x1.ex) rvs,(Jl.bind h3).imp λy w2 o2 x2 q v rv2=>?_⟩
    exact Jl.here (Q:=QS (tb X nm) D) o2 rfl q σ (re1.mono x2.le x2.ex)
end
theorem FunS.binds {P:Program} {K:Frag} {x qual sv:Str} {st:Stmt} {f D:Addr} {fd:FuncData} {ps:List Str} (F:FunS P K x qual sv st f fd D)
  (h:∀ (kV doc pm:Value) (an:Option Addr) (c cc:Addr) (ct:Value) (us:List Value),us.length=ps.length->bindArgs (PySem.W.fnX x qual (defArgs st) (defBody st) (defScope st) [("__class__",cc)] .none kV doc pm an (.ref c) ct) ⟨us,[]⟩=pure (ps.zip us)):Binds K fd ps []:=by
 obtain ⟨oc,od,kV,doc,pm,an,c,cc,ct,osl,ar,ccl,cdd,cvs,ccs,file,tf,cl,cld,csl,cdD,rfl,_⟩:=F.ex
 exact .all (h kV doc pm an c cc ct)
section
variable {P:Program} {w:World} {K:Frag} {mg:Str->Option Value} {base:Heap} {nm:Nm}
abbrev Qsn (x qual:Str) (st:Stmt) (c cc:Addr):NdefX.NF:=⟨x,qual,defArgs st,defBody st,defScope st,[("__class__",cc)],c⟩
theorem Qus {x qual sv:Str} {st:Stmt} {f D:Addr} {fd:FuncData} {N ps:List Str} {k np n:Nat} {b:MS} (F:FunS P K x qual sv st f fd D) (S:NdefX.NScope N ps ["__class__"] (defScope st)) (hp:ps.length=np) (hn:N.length=n)
  (hb:∀ (c cc:Addr) (A:Around) (outer:List PySem.Env) (s:Shared) (H:Hp) (E:XK),Room k (A.deeper (NdefX.envF (Qsn x qual st c cc) f s.heap.objs.size))->SupE (NdefX.ncx CX0 P w K mg base N (Qsn x qual st c cc) f A outer s H E).nox sv D ->
    WSA (NdefX.ncx CX0 P w K mg base N (Qsn x qual st c cc) f A outer s H E).nox nm E (defBody st) (defBody st) b) :
  FnOk P w K mg base CX0 (k+1) f fd ps (Kc ⟨K,mg,nm⟩ (fnOf np n b)):=by
 have len:∀ vs H Q E,Kc ⟨K,mg,nm⟩ (fnOf np n b) vs H Q E->vs.length=ps.length:=by
  rintro vs H Q E ⟨w,ws,e,o,r,h⟩
  have h':Jl ⟨K,mg,nm⟩ w (if !Nat.beq ws.length np then .bad else _) _ E:=h
  cases g:Nat.beq ws.length np with
  | false=>rw [g] at h'; exact h'.elim
  | true=>rw [<- r.length,hp]; exact Nat.eq_of_beq_eq_true g
 obtain ⟨oc,od,kV,doc,pm,an,c,cc,ct,osl,ar,ccl,cdd,cvs,ccs,file,tf,cl,cld,csl,cdD,rfl,s2,hcd,s3,s4,s6,s7,s8,s10,s11⟩:=F.ex
 refine ⟨len,λA outer s H args us vs Q E hr e0 hbd r hsp=>?_⟩
 have hl:=len _ _ _ _ hsp
 have KX:K.In s.heap:=e0.mod.kin.keeps λb o e=>(e0.bs b o e).1
 have lim:s.heap.NoLimit:=e0.mod.nolimit.keeps λb o e=>(e0.bs b o e).1
 refine PySem.ks_codeAny_call_defAt (body:=defBody st) (binds:=ps.zip us) hr.depth (KX _ _ s2) rfl lim (PySem.W.codeRec_of KX hcd) rfl hbd S.nocell (λ⟨y,_⟩ hy=>S.par y (List.of_mem_zip hy).1) (λh₁ hns kp=>?_) S.co S.gen S.kind
 have C:NdefX.CellsAt [(("__class__" : Str),cc)] ["__class__"] [none] s.heap H:=by
  have one:∀ (y:Str) (c:Addr),List.lookup y [(("__class__" : Str),cc)]=some c->y= "__class__" /\ c=cc:=λy c e=>by
   have:=PySem.mem_of_lookup e
   simp only [List.mem_singleton,Prod.mk.injEq] at this
   exact this
  have hcb:base.get? cc=some _:=e0.mod.kin _ _ s10
  refine ⟨rfl,λy c e=>?_,λx y c e1 e2=>(one x c e1).1.trans (one y c e2).1.symm,λi y e=>?_⟩
  ·obtain ⟨_,rfl⟩:=one y c e
   exact ⟨(e0.bs _ _ hcb).2,_,_,(e0.bs _ _ hcb).1,rfl⟩
  ·cases i with
   | zero =>
    cases e
    exact ⟨cc,rfl,λv hv=>by cases hv⟩
   | succ i=>simp at e
 have I0:Inv (NdefX.ncx CX0 P w K mg base N (Qsn x qual st c cc) f A outer s H E) [] (NdefX.startF N vs [none]) H { s with heap:=h₁,toks:=s.toks+(ps.zip us).length }:=NdefX.inv_startN S hr.hd e0 hl r C hns kp
 have I:=I0.wish (λ_ _=>False)
 have SE:SupE (NdefX.ncx CX0 P w K mg base N (Qsn x qual st c cc) f A outer s H E).nox sv D :=
  ⟨f,cc,c,oc,od,osl,_,ar,ccl,cdd,cvs,ccs,file,tf,cl,cld,csl,cdD,rfl,s2,s3,s4,rfl,s6,s7,s8,rfl,s10,s11⟩
 have hbody:=hb c cc A outer s H E (hr.deeper _) SE
 have fin:∀ {σ':L2.St} {H':Hp} {v:V} {u:Value} {s':Shared},Inv (NdefX.ncx CX0 P w K mg base N (Qsn x qual st c cc) f A outer s H E).nox [] σ' H' s'->L2.RelV v u->Q v H'->CE outer P w H s Q u s' :=
  λ{σ' H' v u s'} J rv q=>⟨v,H',J.os,J.bare,J.base,J.hok,rv,q⟩
 obtain ⟨w1,ws,e,o,rw,h⟩:=hsp
 have h':Jl ⟨K,mg,nm⟩ w1 (if !Nat.beq ws.length np then .bad else (b (ws.map some++List.replicate (n-ws.length) none) w1.S).bind λf S1=>match f with | .nx _=>.ok .non S1 | .rt w=>.ok w S1 | _=>.bad) (QW ⟨K,mg,nm⟩ Q) E:=h
 cases g:Nat.beq ws.length np with
 | false=>rw [g] at h'; exact h'.elim
 | true =>
  rw [g] at h'
  have hpl:ps.length+1<=N.length:=by
   have q:=congrArg List.length S.pre
   rw [List.length_take,List.length_append] at q
   simp at q
   omega
  have es:NdefX.startF N vs [none]=vs.map some++List.replicate (N.length-vs.length) none:=by
   unfold NdefX.startF
   have:N.length-vs.length=(N.length-vs.length-1)+1:=by omega
   rw [this,List.replicate_succ] <;> rfl
  rw [es] at I
  refine PySem.ks_wpAt_mono (hbody.run [] _ _ H { nx:=λ_ H'=>Q .non H',rt:=Q } I ⟨w1,ws.map some++List.replicate (n-ws.length) none,e,o,?_,(Jl.bind h').imp λf w2 o2 x2 q=>?_⟩) (λfl s' hs=>?_) λ_ _ z=>z.elim
  ·have:=RelEnv.start rw n
   rw [hn]
   exact this
  ·cases f with
   | nx d=>exact fun σ _=>Jl.val (T:=⟨K,mg,nm⟩) o2 q .non
   | rt x=>exact q w2 o2 (Ext.refl _) rfl
   | br d=>exact q.elim
   | ct d=>exact q.elim
  ·cases fl with
   | ret u =>
    obtain ⟨v,σ',H',J,rv,q⟩:=hs
    exact fin J rv q
   | next =>
    obtain ⟨σ',H',J,q⟩:=hs
    exact fin (v:=V.non) (u:=Value.none) J rfl q
   | brk =>
    obtain ⟨_,_,_,q⟩:=hs
    exact False.elim q
   | cont =>
    obtain ⟨_,_,_,q⟩:=hs
    exact False.elim q
end
section
open PySem.W
variable {prog:Program} {w:World} {A:Around} {E:Value->Shared->Prop} {s:Shared} {K:Frag} {x C L f:Addr} {h₀:Heap} {m:Str->Option Value} {ox:Obj} {od:Option Obj} {b tb:Value}
theorem Qvw {Q:Fin->Shared->Prop} (hu:A.units<cLine) (X:K.In s.heap) (I:InstAt s.heap x ox C od) (hs:findIn K (.ref C) "__eq__" = some (some (.ref f))) (hf:isFn K (.ref f)=true)
  (hcall:wpAny (model prog w) A (call (.ref f) [.ref x,b]) (λv s'=>∃ c,v=.bool c/\Q (.done (.ret (.bool (!c)))) s') E s) :
  wpAny (model prog w) A (Builtin.«object.__ne__» ⟨[.ref x,b],[]⟩) Q E s:=by
 unfold Builtin.«object.__ne__»
 repeat (first
  | with_reducible refine wpAny_cRoomFor hu ?_
  | (refine wpAny_bind (m:=callSpecialIfBound? (.ref x) (Str.ofString "__eq__") [b])
      (ifBound_K X I hs hf (wpAny_mono hcall (λr s' hr=>by
        obtain ⟨b,rfl,hq⟩:=hr
        repeat (first | exact hq | exact wpAny_pure hq | exact wpAny_truthy_bool hq | (refine wpAny_bind (m:=truthy (.bool _)) (wpAny_truthy_bool ?_)) | wp_step)) λ_ _ e=>e)))
  | wp_step)
theorem ne_K {Q:Value->Shared->Prop} (hu:A.units+1<cLine) (F:Fr h₀ L s.heap m) (X₀:K.In h₀) (I:InstAt s.heap x ox C od) (hb:Looks (model prog w) s.heap (typeOf b) tb) (hn:notFirst K C tb=true)
  (hne:findIn K (.ref C) "__ne__" = some (some (.builtin "object.__ne__"))) (hob:mroIn K C (.type "object")=some true) (hs:findIn K (.ref C) "__eq__" = some (some (.ref f))) (hf:isFn K (.ref f)=true)
  (h:wpAny (model prog w) A.in1 (call (.ref f) [.ref x,b]) (λv s'=>∃ c,v=.bool c/\Q (.bool (!c)) s') E s):wpAny (model prog w) A (richCompare .NotEq (.ref x) b) Q E s:=by
 have X:=X₀.keeps F.keep
 have isI:Looks (model prog w) s.heap (isInstance (.ref x) (.type "object")) true:=I.type.andThen (looks_mroIn X hob)
 have S:=PySem.F.cmp_object.ne
 have one:wpAny (model prog w) A (tryCompare (.ref x) "__ne__" b) (λr s'=>∃ v,r=some v/\Q v s') E s:=by
  unfold tryCompare
  refine wpAny_bind ?_
  simp only [callSpecialIfBound?,bindSpecialIfBound?]
  refine wpAny_holding (wpAny_bind (wpAny_bind (wpAny_bind (I.type.here ((looks_findIn X hne).here ?_)))))
  simp only [S.bind]
  refine wpAny_bind (wpAny_askSetting (wpAny_ite ?_))
  have fin:wpAny (model prog w) A (call (.builtin "object.__ne__") ([.ref x]++[b]) >>= λv=>pure (some v)) (λr s'=>wpAny (model prog w) A (match r with | some .notImplemented | none=>pure none | some v=>pure (some v)) (λr s'=>∃ v,r=some v/\Q v s') E s') E s:=by
   refine wpAny_bind (wpAny_call (codeAny_call_builtin S.plain PySem.F.cmpEntry_ne (check_slot PySem.F.cmpKind_ne PySem.F.cmpSplit_ne isI (PySem.F.cmpArgs_ne _ _) (Qvw (A:=A.in1) hu X I hs hf (wpAny_mono h (λv s' hv=>?_) λ_ _ e=>e)))))
   obtain ⟨c,rfl,hq⟩:=hv
   exact ⟨c,rfl,wpAny_pure (wpAny_pure ⟨_,rfl,hq⟩)⟩
  split
  ·exact wpAny_bind (wpAny_pure (wpAny_pure fin))
  ·exact wpAny_tryCatch (wpAny_bind (wpAny_pure (wpAny_pure fin)))
 unfold richCompare
 simp only [oneThing_ref]
 refine wpAny_holding (wpAny_bind (wpAny_cRoomFor (by omega) ?_))
 refine wpAny_bind (I.type.here (wpAny_bind (hb.here ?_)))
 split
 ·rename_i q
  have e:subIn K tb (.ref C)=some false:=by
   rcases Bool.or_eq_true_iff.mp hn with e | e
   ·rw [beq_iff_eq.mp e] at q; simp at q
   ·exact beq_iff_eq.mp e
  refine wpAny_bind ((looks_subIn X e).here ?_)
  simp only [Bool.false_eq_true,if_false]
  refine wpAny_bind (wpAny_mono one (λr s' z=>?_) λ_ _ e=>e)
  obtain ⟨v,rfl,hq⟩:=z
  exact wpAny_pure hq
 ·refine wpAny_bind (wpAny_pure ?_)
  simp only [Bool.false_eq_true,if_false]
  refine wpAny_bind (wpAny_mono one (λr s' z=>?_) λ_ _ e=>e)
  obtain ⟨v,rfl,hq⟩:=z
  exact wpAny_pure hq
end
def Qdu (sup:Nat->List Nat) (S:Store) (c:Nat) (y:Mir.W):Bool:=match Qdh S y with
 | some c'=>Nat.beq c' c || (Ys sup S y (.own c) == some false)
 | none=>Ys sup S y (.own c) == some false
def Qvt (sup:Nat->List Nat) (tab:List (Nat×MF)) (k:Bool->Bool) (c:Nat) (x y:Mir.W) (S:Store):Out Mir.W:=match Qds tab c with
 | some f=>if Qdu sup S c y then (f [x,y] S).bind λr S1=>match r with | .bl b=>.ok (.bl (k b)) S1 | _=>.bad else .bad
 | none=>.bad
def Qem (sup:Nat->List Nat) (tab:List (Nat×MF)):Mir.W->Mir.W->Store->Out Mir.W:=λx y S=>match Qdh S x with
 | some c=>Qvt sup tab id c x y S
 | none=>Km x y S
def Qdz (sup:Nat->List Nat) (tab:List (Nat×MF)):Mir.W->Mir.W->Store->Out Mir.W:=λx y S=>match Qdh S x with
 | some c=>Qvt sup tab not c x y S
 | none=>Ku x y S
def EqT (P:Program) (w:World) (K:Frag) (mg:Str->Option Value) (base:Heap) (nm:Nm) (k:Nat) (tab:List (Nat×MF)):Prop:=∀ c m,Qds tab c=some m->EqC P w K mg base nm k c m
theorem Qzd {P:Program} {w:World} {K:Frag} {mg:Str->Option Value} {base:Heap} {nm:Nm} {k:Nat}:EqT P w K mg base nm k []:=λc m h=>by cases h
theorem Qir {P:Program} {w:World} {K:Frag} {mg:Str->Option Value} {base:Heap} {nm:Nm} {k c:Nat} {m:MF} {tab:List (Nat×MF)} (h:EqC P w K mg base nm k c m) (t:EqT P w K mg base nm k tab):EqT P w K mg base nm k ((c,m)::tab):=λc' m' e=>by
 have e':(if Nat.beq c c' then some m else Qds tab c')=some m':=e
 cases g:Nat.beq c c' with
 | true =>
  rw [g] at e'
  obtain rfl:c=c':=Nat.eq_of_beq_eq_true g
  cases e'
  exact h
 | false =>
  rw [g] at e'
  exact t c' m' e'
section
variable {X:Cx} {nm:Nm} {E:XK} {sup:Nat->List Nat} {tab:List (Nat×MF)} {k:Nat}
theorem Qy0 {K:Frag} {t:Value} {C:Addr} (h:PySem.W.kitOne K t (.ref C)=some false):PySem.W.subIn K t (.ref C)=some false:=by
 unfold PySem.W.kitOne at h
 split at h
 ·cases h
 ·have h':(if ((PySem.W.clsIn K C).isSome&&PySem.W.typeIn K (.ref C) == some (.type "type"))=true then PySem.W.subIn K t (.ref C) else none)=some false:=h
  split at h'
  ·exact h'
  ·cases h'
theorem Qns {pins:List (Addr×Obj)} {σ:L2.St} {w:Wd} {s:Shared} {y:Mir.W} {v:V} {u:Value} {c:Nat} {C:Addr} (F:SF (tb X nm) sup) (o:Ok (tb X nm) w) (I:Inv X pins σ w.H s) (rv:w.rel (tb X nm) y v) (ru:RelV v u) (hC:(tb X nm).cls c=some C) (h:Qdu sup w.S c y=true) :
  ∃ tv,PySem.W.Looks (model X.prog X.w) s.heap (typeOf u) tv/\PySem.W.notFirst X.K C tv=true:=by
 have gen:Ys sup w.S y (.own c)=some false->∃ tv,PySem.W.Looks (model X.prog X.w) s.heap (typeOf u) tv/\PySem.W.notFirst X.K C tv=true:=λe=>by
  obtain ⟨tv,ty,q⟩:=Qta F o rv ⟨_,_,e⟩
  obtain ⟨Pr,kx,hp,_⟩:=kit_of I ru ty
  refine ⟨tv,kx.ty _ _ I.kIn hp,?_⟩
  have z:=Qy0 (q (.own c) false (.ref C) e (by show ((tb X nm).cls c).map Value.ref=_; rw [hC]; rfl))
  unfold PySem.W.notFirst
  rw [show PySem.W.subIn X.K tv (.ref C)=some false from z]
  simp
 unfold Qdu at h
 cases g:Qdh w.S y with
 | none =>
  rw [g] at h
  exact gen (by simpa using h)
 | some c' =>
  rw [g] at h
  rcases Bool.or_eq_true_iff.mp h with e | e
  ·obtain rfl:c'=c:=Nat.eq_of_beq_eq_true e
   obtain ⟨a,C',dx,ws,fs,rfl,hH,hC',_,_⟩:=o.ins g rv
   obtain rfl:C'=C:=Option.some.inj (hC'.symm.trans hC)
   obtain rfl:u=Value.ref a:=ru
   obtain ⟨mA,O,_,_,_,_⟩:=ins_get I.hok hH
   obtain ⟨oD,J,hl⟩:=O.look
   exact ⟨.ref C',J.type,by simp [PySem.W.notFirst]⟩
  ·exact gen (by simpa using e)
theorem Qnu {P0:XK} {pins:List (Addr×Obj)} {σ:L2.St} {w:Wd} {s:Shared} {A:Around} {a b:Mir.W} {x y:V} {v u:Value} {f:Addr} {fd:FuncData} {ps:List Str} {m:MF} {Q:Bool->Hp->Prop} (hr:Room k A) (hA:A.frames=X.A.frames) (hb:Binds X.K fd ps []) (Fn:FnOk X.prog X.w X.K X.mg X.base CX0 k f fd ps (Kc (tb X nm) m))
  (o:Ok (tb X nm) w) (I:Inv X pins σ w.H s) (ra:w.rel (tb X nm) a x) (rb:w.rel (tb X nm) b y) (r1:RelV x v) (r2:RelV y u)
  (h:Jl (tb X nm) w (m [a,b] w.S) (λr w1=>∃ c,r=.bl c/\Q c w1.H) E) :
  wpAny (model X.prog X.w) A (call (.ref f) [v,u]) (λr s'=>∃ c H',r=.bool c/\Inv X pins σ H' s'/\Q c H') X.xe s:=by
 have e0:Env0 X.prog X.w X.K X.mg X.base A X.stack s w.H:=by
  have e:=I.env0
  exact ⟨by rw [hA]; exact e.frames,e.mod,e.bs,e.bsz,e.funs,e.frf,e.hok,e.bare⟩
 have r3:Vals [x,y] [v,u]:=.cons r1 (.cons r2 .nil)
 have hsp:Kc (tb X nm) m [x,y] w.H (λr H'=>∃ c,r=.bl c/\Q c H') E:=⟨w,[a,b],rfl,o,.cons ra (.cons rb .nil),h.imp λr w1 o1 x1 ⟨c,e,q⟩ v rv=>by subst e; cases rv.bl_inv; exact ⟨c,rfl,q⟩⟩
 have hl:=Fn.len _ _ _ _ hsp
 refine wpAny_call (codeAny_mono (Fn.run A X.stack s w.H ⟨[v,u],[]⟩ [v,u] [x,y] _ E hr e0 (by
  have:=hb s [v,u] I.kIn (by simpa using hl)
  simpa using this) r3 hsp) λr s' hq=>?_)
 cases r with
 | error e=>exact hq.elim
 | ok fl =>
  cases fl with
  | ret w =>
   obtain ⟨z,H',I',rz,c,ez,q⟩:=I.after hq
   subst ez
   cases rz
   exact ⟨c,H',rfl,I',q⟩
  | next=>exact False.elim hq
  | brk=>exact False.elim hq
  | cont=>exact False.elim hq
theorem Qr2 {T:Tab} {w:Wd} {Q:VK} {c:Nat} {x y:Mir.W} {kk:Bool->Bool} (h:Jl T w (Qvt sup tab kk c x y w.S) (QW T Q) E) :
  ∃ f,Qds tab c=some f/\Qdu sup w.S c y=true/\Jl T w (f [x,y] w.S) (λr w1=>∃ b,r=.bl b/\Q (.bl (kk b)) w1.H) E:=by
 unfold Qvt at h
 cases g:Qds tab c with
 | none=>rw [g] at h; exact h.elim
 | some f =>
  rw [g] at h
  dsimp only at h
  cases e:Qdu sup w.S c y with
  | false=>rw [e] at h; exact h.elim
  | true =>
   rw [e] at h
   simp only [if_true] at h
   refine ⟨f,rfl,rfl,(Jl.bind h).imp λr w1 o1 x1 q=>?_⟩
   cases r with
   | bl b=>exact ⟨b,rfl,q w1 o1 (Ext.refl _) rfl _ (.bl _)⟩
   | _=>exact q.elim
theorem Qj4 (F:SF (tb X nm) sup) (G:EqT X.prog X.w X.K X.mg X.base nm k tab) (hr:Room (k+1) X.A):OpR X (compareOp .Eq) (Y7 (tb X nm) (Qem sup tab) E):=by
 rintro pins s σ H x y v u Q I r1 r2 ⟨w,a,b,rfl,o,ra,rb,h⟩
 unfold Qem at h
 cases g:Qdh w.S a with
 | none =>
  rw [g] at h
  exact Qdx (Yo hr) pins s σ _ x y v u Q I r1 r2 ⟨w,a,b,rfl,o,ra,rb,h⟩
 | some c =>
  rw [g] at h
  obtain ⟨f,h1,h2,h3⟩:=Qr2 h
  obtain ⟨C,f,fd,ps,g1,g2,g3,g4,g5,g6,g7⟩:=(G c f h1).ex
  obtain ⟨a',C',dx,ws,fs,rfl,hH,hC',_,_⟩:=o.ins g ra
  obtain rfl:C'=C:=Option.some.inj (hC'.symm.trans g1)
  obtain rfl:v=Value.ref a':=r1
  obtain ⟨mA,O,_,_,_,_⟩:=ins_get I.hok hH
  obtain ⟨oD,J,hl⟩:=O.look
  obtain ⟨tv,ty,nf⟩:=Qns F o I rb r2 g1 h2
  obtain ⟨mF,hF⟩:=I.fr
  show wpAny (model X.prog X.w) X.A (richCompare .Eq (.ref a') u) (EP X pins σ Q) X.xe s
  refine PySem.W.cmp_K (op:=.Eq) (tb:=tv) (by have:=hr.un; omega) hF I.ok.mod.kin J ty nf g2 g3 (thn (Qnu (P0:=E) (hr.mono (Nat.le_succ _)) rfl g6 g7 o I ra rb rfl r2 h3) λr s' ⟨c,H',e,I',q⟩=>?_)
  subst e
  exact ⟨.bl c,H',I',rfl,q⟩
theorem Qj3 (F:SF (tb X nm) sup) (G:EqT X.prog X.w X.K X.mg X.base nm k tab) (hr:Room (k+1) X.A):OpR X (compareOp .NotEq) (Y7 (tb X nm) (Qdz sup tab) E):=by
 rintro pins s σ H x y v u Q I r1 r2 ⟨w,a,b,rfl,o,ra,rb,h⟩
 unfold Qdz at h
 cases g:Qdh w.S a with
 | none =>
  rw [g] at h
  exact Qmc (Yo hr) pins s σ _ x y v u Q I r1 r2 ⟨w,a,b,rfl,o,ra,rb,h⟩
 | some c =>
  rw [g] at h
  obtain ⟨f,h1,h2,h3⟩:=Qr2 h
  obtain ⟨C,f,fd,ps,g1,g2,g3,g4,g5,g6,g7⟩:=(G c f h1).ex
  obtain ⟨a',C',dx,ws,fs,rfl,hH,hC',_,_⟩:=o.ins g ra
  obtain rfl:C'=C:=Option.some.inj (hC'.symm.trans g1)
  obtain rfl:v=Value.ref a':=r1
  obtain ⟨mA,O,_,_,_,_⟩:=ins_get I.hok hH
  obtain ⟨oD,J,hl⟩:=O.look
  obtain ⟨tv,ty,nf⟩:=Qns F o I rb r2 g1 h2
  obtain ⟨mF,hF⟩:=I.fr
  show wpAny (model X.prog X.w) X.A (richCompare .NotEq (.ref a') u) (EP X pins σ Q) X.xe s
  refine ne_K (tb:=tv) (by have:=hr.un; omega) hF I.ok.mod.kin J ty nf g4 g5 g2 g3 (thn (Qnu (P0:=E) hr.in1 rfl g6 g7 o I ra rb rfl r2 h3) λr s' ⟨c,H',e,I',q⟩=>?_)
  subst e
  exact ⟨c,rfl,.bl (!c),H',I',rfl,q⟩
end
def rRp (K:Frag):List V->Hp->VK->Prop:=λxs H Q=>∃ x d,xs=[x]/\Dp K H x d/\d.showable=true/\d.hasDict=false/\d.depth<=60/\d.shown.length<=sizeLine/\Q (.str d.shown) H
section
variable {X:Cx} {nm:Nm} {E:XK} {pos p p1 p2 pos1 pos2:Pos}
theorem Qpz (hg:X.A.guards=some []) (hu:X.A.units+64<cLine):CallR X (.builtin "repr") (rRp X.K):=by
 rintro pins s σ H xs us Q I r ⟨x,d,rfl,hd,hs,hn,hdp,hl,q⟩
 obtain ⟨u,rfl,ru⟩:=vals1 r
 obtain ⟨as,rd⟩:=Dp.reads I d x u hd ru
 have fin:∀ (h':Heap) (tk':Tok) (tk:Nat),(∀ b o,s.heap.get? b=some o->h'.get? b=some o)->EP X pins σ Q (.str d.shown tk') { s with heap:=h',toks:=tk }:=λh' tk' tk k=>⟨.str d.shown,H,I.kept k,⟨_,rfl⟩,q⟩
 have big:∀ a,u=Value.ref a->wpAny (model X.prog X.w) X.A (call (.builtin "repr") [u]) (EP X pins σ Q) X.xe s:=λa e=>by
  subst e
  exact repr_of_reads' rd hs (λz=>by rw [hn] at z; cases z) hg (by omega) (λ_ _ e=>e) (λh' u tk k=>fin h' u tk k) hl
 cases hd with
 | non =>
  cases ru
  exact P.repr_of_none (fin s.heap _ _ λ_ _ e=>e)
 | bl b =>
  cases ru
  have e:(PyData.shown (.bool b):Str)=(if b then Str.ofString "True" else Str.ofString "False"):=by cases b <;> rfl
  rw [e] at fin
  exact P.repr_of_bool (fin s.heap _ _ λ_ _ e=>e)
 | int i =>
  obtain ⟨t,rfl⟩:=ru
  exact P.repr_of_int (of_decide_eq_true hs) (fin s.heap _ _ λ_ _ e=>e)
 | str y =>
  obtain ⟨t,rfl⟩:=ru
  exact P.repr_of_str (fin s.heap _ _ λ_ _ e=>e) hl
 | lst _ _=>exact big _ ru
 | tup _ _=>exact big _ ru
def rpOk (x:Mir.W):Bool:=Kz 30 x&&shW x&&Nat.ble (szW x) Jy
def eRp (r:Bool) (a b:ME):ME:=λd S=>(a d S).bind λx S1=>if rpOk (rd S1 x) then ((b d S1).bind λy S2=>if Qfa (rd S1 x) (rd S2 y) then .ok (.bl r) S2 else .bad) else .bad
theorem Qsk {T:Tab} {w:Wd} (o:Ok T w) {x:Mir.W} {v:V} (h:rpOk (rd w.S x)=true) (rv:w.rel T x v):Dp T.K w.H v (toD (rd w.S x))/\(toD (rd w.S x)).showable=true/\(toD (rd w.S x)).hasDict=false/\(toD (rd w.S x)).depth<=60/\(toD (rd w.S x)).shown.length<=sizeLine:=by
 obtain ⟨h1,h2⟩:=Bool.and_eq_true_iff.mp h
 obtain ⟨h3,h4⟩:=Bool.and_eq_true_iff.mp h1
 obtain ⟨d1,_,d3⟩:=Qrh o h3 rv
 obtain ⟨k1,k2,k3⟩:=QAb _ h4
 exact ⟨d1,k2,k3,by omega,Nat.le_trans k1 (Qeu h2)⟩
theorem rp_of {rr:R2} {b0:Bool} {ma mb:ME} (hr:∀ z H Q,Q (V.bl b0) H->rr (.str z) (.str z) H Q)
  {σ:L2.St} {H:Hp} {Q:VK} (h:lE (tb X nm) (eRp b0 ma mb) E σ H Q) :
  lE (tb X nm) ma E σ H λx H1=>rRp X.K [x] H1 λv1 H2=>lE (tb X nm) mb E σ H2 λy H3=>rRp X.K [y] H3 λv2 H4=>rr v1 v2 H4 Q:=by
 obtain ⟨w,d,eH,o,re,h⟩:=h
 subst eH
 refine Yq (YD o re h) ?_
 rintro x H1 ⟨w1,a',rfl,o1,x1,re1,ra,h1⟩
 cases g:rpOk (rd w1.S a') with
 | false=>rw [g] at h1; exact h1.elim
 | true =>
  rw [g] at h1
  simp only [if_true] at h1
  obtain ⟨k1,k2,k3,k4,k5⟩:=Qsk o1 g ra
  refine ⟨x,_,rfl,k1,k2,k3,k4,k5,?_⟩
  refine Yq (YD o1 re1 h1) ?_
  rintro y H2 ⟨w2,b',rfl,o2,x2,re2,rb,h2⟩
  cases e:Qfa (rd w1.S a') (rd w2.S b') with
  | false=>rw [e] at h2; exact h2.elim
  | true =>
   rw [e] at h2
   simp only [if_true] at h2
   have e':=Qnr e
   rw [e'] at g
   obtain ⟨q1,q2,q3,q4,q5⟩:=Qsk o2 g rb
   refine ⟨y,_,rfl,q1,q2,q3,q4,q5,?_⟩
   rw [e']
   exact hr _ _ _ (Jl.val o2 h2 (.bl b0))
theorem Qxi {a b:Expr} {ma mb:ME} (hg:X.A.guards=some []) (hu:X.A.units+64<cLine) (hm:X.mg "repr" = none) (ha:WE X nm E a ma) (hb:WE X nm E b mb) (hgl:Gl X "repr" := by rfl)
  (h1:starEach [a] X.env=(false,eval a X.env)::starEach [] X.env:=by rfl) (h2:starEach [b] X.env=(false,eval b X.env)::starEach [] X.env:=by rfl) :
  WT X nm E (.Compare (.Call (.Name "repr" p1) [a] [] pos1) [.NotEq] [.Call (.Name "repr" p2) [b] [] pos2] pos) (Mir.tB (eRp false ma mb)) :=
 Qo6 (pt_cmpR op_ne (pe_callB (Qpz hg hu) hgl hm (by decide +kernel) (pa_cons ha pa_nil h1) (by decide) (by decide) h1) (pe_callB (Qpz hg hu) hgl hm (by decide +kernel) (pa_cons hb pa_nil h2) (by decide) (by decide) h2) (by first | exact nomark _ | rfl)) fun σ H Q ⟨w,d,e,o,re,h⟩=>by
  subst e
  refine rp_of (rr:=rNe) (E:=E) (λz H Q q=>⟨rfl,by rw [decide_eq_true rfl]; exact q⟩) ⟨w,d,rfl,o,re,h.bind.imp λx w1 o1 _ q v rv=>?_⟩
  cases x with
  | bl b =>
   cases rv.bl_inv
   exact ⟨b,rfl,q w1 o1 (Ext.refl _) rfl⟩
  | _=>exact q.elim
end
section
variable {P:Program} {w:World} {K:Frag} {mg:Str->Option Value} {base:Heap} {nm:Nm}
theorem QBj {x qual:Str} {st:Stmt} {f:Addr} {fd:FuncData} {N ps:List Str} {k np n:Nat} {b:MS} (F:Fun K x qual st f fd) (S:FnScope N ps (defScope st)) (hp:ps.length=np) (hn:N.length=n)
  (hb:∀ (cdv:Value) (A:Around) (outer:List PySem.Env) (s:Shared) (H:Hp) (E:XK),A.guards=some []->Room k (A.deeper (envOfC qual (defScope st) s.heap.objs.size f cdv))->WSs (cxOf CX0 P w K mg base N qual (defScope st) f cdv A outer s H E).nox nm E (defBody st) b) :
  FnK P w K mg base (k+1) f fd ps (Kc ⟨K,mg,nm⟩ (fnOf np n b)):=by
 have len:∀ vs H Q E,Kc ⟨K,mg,nm⟩ (fnOf np n b) vs H Q E->vs.length=ps.length:=by
  rintro vs H Q E ⟨w,ws,e,o,r,h⟩
  have h':Jl ⟨K,mg,nm⟩ w (if !Nat.beq ws.length np then .bad else _) _ E:=h
  cases g:Nat.beq ws.length np with
  | false=>rw [g] at h'; exact h'.elim
  | true=>rw [<- r.length,hp]; exact Nat.eq_of_beq_eq_true g
 obtain ⟨oc,od,kV,doc,pm,an,cdv,ct,osl,rfl,lk,hcd⟩:=F.ex
 refine ⟨len,λA outer s H args us vs Q E hg hr e0 hbd r hsp=>?_⟩
 have KX:K.In s.heap:=e0.mod.kin.keeps λb o e=>(e0.bs b o e).1
 have lim:s.heap.NoLimit:=e0.mod.nolimit.keeps λb o e=>(e0.bs b o e).1
 have hkd:∀ y∈ps.zip us,(defScope st).names.lookup y.1=some .local\/((defScope st).names.lookup y.1=some .cell/\((cellsFrom (s.heap.objs.size+1) (defScope st).names []).lookup y.1).isSome=true):=λy hy =>
  (S.par y.1 (List.of_mem_zip hy).1).imp id λq=>⟨q,PySem.W.cellsFrom_some _ _ _ (.inl q)⟩
 refine codeAny_call_function hr.depth (KX _ _ lk) rfl S.co S.gen rfl (PySem.W.codeRec_of KX hcd) (hbd _ _ _ _ (wpAny_newFunctionEnv_cells S.kind hkd λenv he s1 x=>?_))
 subst he
 have I:Inv (cxOf CX0 P w K mg base N qual (defScope st) f cdv A outer s H E) [] (start N vs) H s1:=inv_start S hr.hd e0 (len _ _ _ _ hsp) r x
 have run:=(hb cdv A outer s H E hg (hr.deeper _)).nox.run [] s1 (start N vs) H { nx:=λ_ H'=>Q .non H',rt:=Q } I
 obtain ⟨w1,ws,e,o,rw,h⟩:=hsp
 have h':Jl ⟨K,mg,nm⟩ w1 (if !Nat.beq ws.length np then .bad else (b (ws.map some++List.replicate (n-ws.length) none) w1.S).bind λf S1=>match f with | .nx _=>.ok .non S1 | .rt w=>.ok w S1 | _=>.bad) (QW ⟨K,mg,nm⟩ Q) E:=h
 cases g:Nat.beq ws.length np with
 | false=>rw [g] at h'; exact h'.elim
 | true =>
  rw [g] at h'
  refine ⟨lim.keeps x.toInCall.keep,codeAny_func (wpAny_mono (run ⟨w1,ws.map some++List.replicate (n-ws.length) none,e,o,?_,(Jl.bind h').imp λf w2 o2 x2 q=>?_⟩) (λfl s' hs=>?_) λ_ _ z=>z)⟩
  ·have:=RelEnv.start rw n
   unfold L2.start
   rw [hn]
   exact this
  ·cases f with
   | nx d=>exact fun σ _=>Jl.val (T:=⟨K,mg,nm⟩) o2 q .non
   | rt x=>exact q w2 o2 (Ext.refl _) rfl
   | br d=>exact q.elim
   | ct d=>exact q.elim
  ·cases fl with
   | ret u =>
    obtain ⟨v,σ',H',J,rv,q⟩:=hs
    exact ⟨v,H',J.os,J.bare,J.base,J.hok,rv,q⟩
   | next =>
    obtain ⟨σ',H',J,q⟩:=hs
    exact ⟨.non,H',J.os,J.bare,J.base,J.hok,rfl,q⟩
   | brk=>exact hs.elim λ_ z=>z.elim λ_ z=>z.2.elim
   | cont=>exact hs.elim λ_ z=>z.elim λ_ z=>z.2.elim
end
section
variable {X:Cx} {nm:Nm} {E:XK}
def Qg0 (tab:List (Nat×MF)):MF:=λxs S=>match xs with
 | [x]=>match Qdh S x with
  | some c=>match Qds tab c with
   | some f=>(f [x] S).bind λr S1=>match r with | .str z=>.ok (.str z) S1 | _=>.bad
   | none=>.bad
  | none=>fStr [x] S
 | _=>.bad
def StrT (P:Program) (w:World) (K:Frag) (mg:Str->Option Value) (base:Heap) (nm:Nm) (k:Nat) (tab:List (Nat×MF)):Prop:=∀ c m,Qds tab c=some m->StrC P w K mg base nm k c m
theorem Qu6 {P:Program} {w:World} {K:Frag} {mg:Str->Option Value} {base:Heap} {nm:Nm} {k:Nat}:StrT P w K mg base nm k []:=λc m h=>by cases h
theorem Qgi {P:Program} {w:World} {K:Frag} {mg:Str->Option Value} {base:Heap} {nm:Nm} {k c:Nat} {m:MF} {tab:List (Nat×MF)} (h:StrC P w K mg base nm k c m) (t:StrT P w K mg base nm k tab):StrT P w K mg base nm k ((c,m)::tab):=λc' m' e=>by
 have e':(if Nat.beq c c' then some m else Qds tab c')=some m':=e
 cases g:Nat.beq c c' with
 | true =>
  rw [g] at e'
  obtain rfl:c=c':=Nat.eq_of_beq_eq_true g
  cases e'
  exact h
 | false =>
  rw [g] at e'
  exact t c' m' e'
theorem cw_strO {k:Nat} {tab:List (Nat×MF)} (G:StrT X.prog X.w X.K X.mg X.base nm k tab) (hr:Room (k+2) X.A):CallR X (.type "str") (lC (tb X nm) (Qg0 tab) E):=by
 rintro pins s σ H xs us Q I r ⟨w,a,rfl,o,rv,h⟩
 cases a with
 | nil=>exact h.elim
 | cons y t=>cases t with
  | cons _ _=>exact h.elim
  | nil =>
   have h':Jl (tb X nm) w (Qg0 tab [y] w.S) (QW (tb X nm) Q) E:=h
   unfold Qg0 at h'
   dsimp only at h'
   cases g:Qdh w.S y with
   | none =>
    rw [g] at h'
    exact cw_str pins s σ _ xs us Q I r ⟨w,[y],rfl,o,rv,h'⟩
   | some c =>
    rw [g] at h'
    dsimp only at h'
    cases g1:Qds tab c with
    | none=>rw [g1] at h'; exact h'.elim
    | some m =>
     rw [g1] at h'
     obtain ⟨C,f,fd,ps,k1,k2,k3,k4,k5⟩:=(G c m g1).ex
     obtain ⟨v,rfl,ry⟩:=Qgv rv
     obtain ⟨a',C',dx,ws,fs,rfl,hH,hC',_,_⟩:=o.ins g ry
     obtain rfl:C'=C:=Option.some.inj (hC'.symm.trans k1)
     obtain ⟨u,rfl,ru⟩:=vals1 r
     obtain rfl:u=Value.ref a':=ru
     obtain ⟨mA,O,_,_,_,_⟩:=ins_get I.hok hH
     obtain ⟨oD,J,hl⟩:=O.look
     refine PySem.W.kso_call (by have:=hr.un; show X.A.units+1+1<cLine; omega) I.kIn J k2 k3 ?_
     have e0:Env0 X.prog X.w X.K X.mg X.base X.A.in1.in1 X.stack s w.H:=I.env0.in1.in1
     have sp:Kc (tb X nm) m [.ref a'] w.H (λr H'=>∃ z,r=.str z/\Q (.str z) H') E:=⟨w,[y],rfl,o,rv,(Jl.bind h').imp λr w1 o1 x1 q v rv=>by
      cases r with
      | str z =>
       obtain ⟨z',rfl,ez,kz⟩:=rv.str_inv
       exact ⟨z',rfl,q w1 o1 (Ext.refl _) rfl _ (.str ez kz)⟩
      | _=>exact q.elim⟩
     have bt:=k4 s [.ref a'] I.kIn (by rw [List.append_nil]; exact k5.len _ _ _ _ sp)
     rw [List.append_nil] at bt
     refine wpAny_call (codeAny_mono (k5.run X.A.in1.in1 X.stack s w.H ⟨[.ref a'],[]⟩ [.ref a'] [.ref a'] _ E hr.in1.in1 e0 bt (.cons rfl .nil) sp) λr s' hq=>?_)
     cases r with
     | error e=>exact hq.elim
     | ok fl =>
      cases fl with
      | ret u =>
       obtain ⟨z,H',I',rz,c,ez,q⟩:=I.after hq
       subst ez
       obtain ⟨t,rfl⟩:=rz
       exact ⟨.str c,H',I',⟨t,rfl⟩,q⟩
      | next=>exact hq.elim
      | brk=>exact hq.elim
      | cont=>exact hq.elim
end
theorem Qzb {P:Program} {file:Str} {K:Frag} {d:DefM} (hf:(P.main.file:Str)=file) (e:fnY K (d.ad K)=d.val) (c:d.ok file K=true) (hs:d.sup=true):∃ fd,FunS P K d.name d.qual "self" d.st (d.ad K) fd (He.ga K d.at_.1):=by
 obtain ⟨kp,oc,od,osl,kV,doc,pm,an,cdv,ct,cl,fd,efd,lk,cd,hcl,hsup⟩:=QBk e c
 rw [hs] at hcl
 have hsup:=hsup hs
 unfold supB at hsup
 obtain ⟨s1,s2⟩:=He.ba hsup
 obtain ⟨s3,s4⟩:=He.ba s2
 obtain ⟨s5,s6⟩:=He.ba s4
 have hcl':cl.map (·.1)=[("__class__" : Str)]:=hcl
 match cl,hcl' with
 | [(x,cc)],hx =>
  have ex:x= "__class__" := by simpa using hx
  subst ex
  subst efd
  have s1':(match K.lookup cc with | some ⟨_,_,.cell (some (.ref D)),_⟩=>decide (D=He.ga K d.at_.1) | _=>false)=true:=s1
  cases q:K.lookup cc with
  | none=>rw [q] at s1'; cases s1'
  | some o =>
   obtain ⟨oc2,od2,dt2,osl2⟩:=o
   rw [q] at s1'
   cases dt2 with
   | cell v =>
    cases v with
    | none=>cases s1'
    | some u =>
     cases u with
     | ref D =>
      have eD:D=He.ga K d.at_.1:=of_decide_eq_true s1'
      subst eD
      have s3':QBm K file cdv=true:=s3
      cases cdv with
      | ref cd' =>
       have s3'':(match K.lookup cd' with | some ⟨_,_,.fields vs,_⟩=>Qun file vs[2]? | _=>false)=true:=s3'
       cases q2:K.lookup cd' with
       | none=>rw [q2] at s3''; cases s3''
       | some o3 =>
        obtain ⟨oc3,od3,dt3,osl3⟩:=o3
        rw [q2] at s3''
        cases dt3 with
        | fields vs =>
         have s7:Qun file vs[2]?=true:=s3''
         cases q3:vs[2]? with
         | none=>rw [q3] at s7; cases s7
         | some w2 =>
          rw [q3] at s7
          cases w2 with
          | str fl tf =>
           obtain ⟨cdD,hD⟩:=Option.isSome_iff_exists.mp s6
           have s5':(match ((defArgs d.st).posonlyargs++(defArgs d.st).args).head? with | some ar=>decide (ar.arg= "self") | none=>false)=true:=s5
           cases q4:((defArgs d.st).posonlyargs++(defArgs d.st).args).head? with
           | none=>rw [q4] at s5'; cases s5'
           | some ar =>
            rw [q4] at s5'
            exact ⟨_,oc,od,kV,doc,pm,an,cd',cc,ct,osl,ar,oc3,od3,vs,osl3,fl,tf,oc2,od2,osl2,cdD,rfl,lk,cd,q4,of_decide_eq_true s5',q2,q3,by rw [hf]; exact s7,q,hD⟩
          | _=>cases s7
        | _=>cases s3''
      | _=>cases s3'
     | _=>cases s1'
   | _=>cases s1'
theorem Qfu {K:Frag} {h:Heap} {mg:Str->Option Value} {nm:Nm} (X:K.In h) (G:h.Ns mainGlobals mg) {x:Str} {c:Mir.W} (q:(Fm.glob x c).ok K=true):GlobC K mg nm x c:=by
 have q':(match PySem.W.nsIn K mainGlobals x with | some (some u)=>Qfv K c u | _=>false)=true:=q
 cases e:PySem.W.nsIn K mainGlobals x with
 | none=>rw [e] at q'; cases q'
 | some o =>
  rw [e] at q'
  cases o with
  | none=>cases q'
  | some u =>
   obtain ⟨v,r1,r2⟩:=Qsf (mg:=mg) (nm:=nm) c u q'
   exact ⟨v,u,PySem.W.mg_of X G e,r1,r2⟩
section
variable {K:Frag} {h:Heap} {mg:Str->Option Value} {cn an:List Str} {nd:an.Nodup} {wd:World} {sup:Nat->List Nat}
theorem Qek (X:K.In h) (G:h.Ns mainGlobals mg) (c:sfB cn an sup K=true) {i:Nat} {x:Str} (e:cn[i]?=some x):mg x=some (.ref (He.ga K x))/\(⟨K,mg,⟨cn,an,nd,wd⟩⟩:Tab).cls i=some (He.ga K x):=by
 have c1:=List.all_eq_true.mp (He.ba c).1 x (List.mem_of_getElem? e)
 have m:=He.glo_ok X G (He.ba c1).1
 refine ⟨m,?_⟩
 show (match cn[i]? with | some x=>(match mg x with | some (.ref C)=>some C | _=>none) | none=>none)=_
 rw [e]
 show (match mg x with | some (.ref C)=>some C | _=>none)=_
 rw [m]
theorem Qzm (X:K.In h) (G:h.Ns mainGlobals mg) (c:sfB cn an sup K=true) {i:Nat} {C:Addr} (e:(⟨K,mg,⟨cn,an,nd,wd⟩⟩:Tab).cls i=some C):∃ x,cn[i]?=some x/\C=He.ga K x:=by
 cases q:cn[i]? with
 | none =>
  have e':(match cn[i]? with | some x=>(match mg x with | some (.ref C)=>some C | _=>none) | none=>none)=some C:=e
  rw [q] at e'
  cases e'
 | some x=>exact ⟨x,rfl,Option.some.inj (e.symm.trans (Qek X G c q).2)⟩
theorem sf_ok (X:K.In h) (G:h.Ns mainGlobals mg) (c:sfB cn an sup K=true):SF ⟨K,mg,⟨cn,an,nd,wd⟩⟩ sup:=by
 obtain ⟨c1,c2⟩:=He.ba c
 obtain ⟨c3,c4⟩:=He.ba c2
 obtain ⟨c5,c6⟩:=He.ba c4
 have at_:∀ i C,(⟨K,mg,⟨cn,an,nd,wd⟩⟩:Tab).cls i=some C->∃ x,cn[i]?=some x/\C=He.ga K x/\clsB an K x=true:=λi C e=>by
  obtain ⟨x,e1,e2⟩:=Qzm X G c e
  exact ⟨x,e1,e2,List.all_eq_true.mp c1 x (List.mem_of_getElem? e1)⟩
 refine ⟨λi C e=>?_,λi C k f e ef=>?_,λi C e=>?_,of_decide_eq_true c5,of_decide_eq_true c6,λi C j D e e'=>?_,λi C e n hn=>?_,λi C e n hn=>?_⟩
 ·obtain ⟨x,_,rfl,q⟩:=at_ i C e
  exact He.cls_ok (He.ba (He.ba q).2).1
 ·obtain ⟨x,_,rfl,q⟩:=at_ i C e
  exact He.noat_ok (List.all_eq_true.mp (He.ba (He.ba (He.ba q).2).2).1 f (List.mem_of_getElem? ef))
 ·obtain ⟨x,_,rfl,q⟩:=at_ i C e
  have q3:=(He.ba (He.ba (He.ba q).2).2).2
  exact ⟨of_decide_eq_true (He.ba q3).1,of_decide_eq_true (He.ba (He.ba q3).2).1⟩
 ·obtain ⟨x,ex,rfl,_⟩:=at_ i C e
  obtain ⟨y,ey,rfl,_⟩:=at_ j D e'
  have m1:(x,i)∈cn.zipIdx:=List.mem_zipIdx_iff_getElem?.mpr ex
  have m2:(y,j)∈cn.zipIdx:=List.mem_zipIdx_iff_getElem?.mpr ey
  exact of_decide_eq_true (List.all_eq_true.mp (List.all_eq_true.mp c3 _ m1) _ m2)
 ·obtain ⟨x,_,rfl,q⟩:=at_ i C e
  have q3:=(He.ba (He.ba (He.ba (He.ba (He.ba q).2).2).2).2).2
  exact of_decide_eq_true (List.all_eq_true.mp (He.ba q3).1 n hn)
 ·obtain ⟨x,_,rfl,q⟩:=at_ i C e
  have q3:=(He.ba (He.ba (He.ba (He.ba (He.ba q).2).2).2).2).2
  exact of_decide_eq_true (List.all_eq_true.mp (He.ba q3).2 n hn)
end
section
variable {D:Head} {K:Frag}
theorem Qfi.sf (c:Qfi D K):sfB D.cn D.an D.sup K=true:=(He.ba (show (sfB D.cn D.an D.sup K&&_)=true from congrArg (λz:AlM=>z.1) c)).1
theorem Qfi.fact (c:Qfi D K) (i:Nat) {f:Fm} (h:D.fm[i]?=some f:=by rfl):f.ok K=true :=
 List.all_eq_true.mp (He.ba (He.ba (show (sfB D.cn D.an D.sup K&&(D.fm.all (λf=>f.ok K)&&D.fn.all λd=>d.ok D.file K))=true from congrArg (λz:AlM=>z.1) c)).2).1 f (List.mem_of_getElem? h)
theorem Qfi.fnS {P:Program} (c:Qfi D K) (hf:(P.main.file:Str)=D.file) (i:Nat) {d:DefM} (h:D.fn[i]?=some d:=by rfl) (hs:d.sup=true:=by rfl):∃ fd,FunS P K d.name d.qual "self" d.st (d.ad K) fd (He.ga K d.at_.1):=Qzb hf (c.def0 i h).1 (c.def0 i h).2 hs
end
def S0:Store:=⟨0,[]⟩
def hidP (K:Frag) (H:Hp):Hp:=λb=>match YH K with
 | some (_,P)=>if b=P then none else H b
 | none=>H b
theorem Quo {K:Frag} {H:Hp} {b:Addr} (h:∀ c P,YH K=some (c,P)->b≠P):hidP K H b=H b:=by
 unfold hidP
 cases e:YH K with
 | none=>rfl
 | some q=>obtain ⟨c,P⟩:=q; exact if_neg (h c P e)
theorem Qza {K:Frag} {H:Hp} {c P:Addr} (e:YH K=some (c,P)):hidP K H P=none:=by
 unfold hidP
 rw [e]
 exact if_pos rfl
theorem Qy9 (K:Frag) (H:Hp):Ex (hidP K H) H:=λb o e=>by
 unfold hidP at e
 cases q:YH K with
 | none=>rw [q] at e; exact e
 | some q' =>
  obtain ⟨c,P⟩:=q'
  rw [q] at e
  have e':(if b=P then none else H b)=some o:=e
  by_cases h:b=P
  ·rw [if_pos h] at e'; cases e'
  ·rw [if_neg h] at e'; exact e'
theorem Qy8 {K:Frag} {H:Hp} {a:Addr} {xs:List V} (hT:∀ c P,YH K=some (c,P)->H P=some (.tbl #[])) (h:SqL K H a xs):SqL K (hidP K H) a xs:=by
 rcases h with h | h
 ·refine .inl ?_
  rcases h with h | ⟨o,h⟩
  ·exact .inl ((Quo λc P e z=>by rw [z,hT c P e] at h; cases h).trans h)
  ·exact .inr ⟨o,(Quo λc P e z=>by rw [z,hT c P e] at h; cases h).trans h⟩
 ·exact .inr h
theorem QBl {T:Tab} {m:MF} {n:Nat} (hm:∀ ns:List Int,ns.length<=n->∃ S',m [.lsr (ns.map Mir.W.int)] S0=.ok (.bl true) S') (H:Hp) (a:Addr) (ns:List Int) (hl:ns.length<=n) (hT:∀ c P,YH T.K=some (c,P)->H P=some (.tbl #[])) (hS:SqL T.K H a (ns.map V.int)) :
  Kc T m [.ref a] H (λv _=>v=.bl true) λ_ _ _=>False:=by
 obtain ⟨S',e⟩:=hm ns hl
 have hints:∀ ns:List Int,RelWs T (λ_=>none) (hidP T.K H) (ns.map Mir.W.int) (ns.map V.int):=λns=>by
  induction ns with
  | nil=>exact .nil
  | cons i r ih=>exact .cons (.int i) ih
 have o0:Ok T ⟨λ_=>none,hidP T.K H,S0,H⟩:={
  ex:=Qy9 _ _
  tb:=λc P e=>⟨⟨#[],hT c P e,True.intro,λpos cv h=>by
   have z:codeAmong pos []=some cv:=h
   simp [codeAmong] at z⟩,Qza e,λn a=>by cases a.2⟩
  own:=λn o z=>nomatch z
  inj:=λn m a z=>z.1.elim λo y=>nomatch y
  dom:=λn a z=>nomatch z
  nd:=.nil }
 refine ⟨⟨λ_=>none,hidP T.K H,S0,H⟩,[.lsr (ns.map Mir.W.int)],rfl,o0,.cons (.lsr (Qy8 hT hS) (hints ns)) .nil,?_⟩
 show Jl T _ (m [.lsr (ns.map Mir.W.int)] S0) _ _
 rw [e]
 intro w' o x hs v rv
 cases rv.bl_inv
 rfl
section
variable {X:Cx} {nm:Nm} {p:Pos}
theorem Qzn {x:Str} {c:Nat} (G:ClG X.K X.mg nm x c) (hg:Gl X x:=by rfl) (hd:(x == ("__debug__" : Str))=false:=by decide):ClsE X nm (.Name x p) (.own c):=by
 obtain ⟨C,h1,h2⟩:=G.ex
 exact Qzl h1 h2 hg hd
end
section
variable {P:Program} {w:World} {K:Frag} {mg:Str->Option Value} {base:Heap} {D:Head} {h:Heap} {k:Nat} {m:MF} {ps:List Str} {fd:FuncData}
theorem Quw (nd:D.an.Nodup) (X:K.In h) (G:h.Ns mainGlobals mg) (c:Qfi D K) {i:Nat} {x:Str} (e:D.cn[i]?=some x:=by rfl):ClG K mg ⟨D.cn,D.an,nd,w⟩ x i:=⟨_,(Qek X G c.sf e).2,(Qek (nd:=nd) (wd:=w) X G c.sf e).1⟩
theorem QA3 (nd:D.an.Nodup) (X:K.In h) (G:h.Ns mainGlobals mg) (c:Qfi D K) {x mn:Str} {i:Nat} (e:D.cn[i]?=some x:=by rfl) (j:Nat) (hj:D.fm[j]?=some (.fa (.meth x mn)):=by rfl) (b:Binds K fd ps []) (ho:FnOk P w K mg base CX0 k (He.fAd K (x,some mn)) fd ps (Kc ⟨K,mg,⟨D.cn,D.an,nd,w⟩⟩ m)):MtG P w K mg base ⟨D.cn,D.an,nd,w⟩ k mn i m :=
 ⟨_,_,fd,ps,(Qek X G c.sf e).2,He.meth_ok (c.fact j hj),b,ho⟩
theorem Qr9 (nd:D.an.Nodup) (X:K.In h) (G:h.Ns mainGlobals mg) (c:Qfi D K) {x:Str} {i:Nat} (e:D.cn[i]?=some x:=by rfl) (j:Nat) (hj:D.fm[j]?=some (.fa (.mkr x)):=by rfl) (b:Binds K fd ps []) (ho:FnOk P w K mg base CX0 k (He.fAd K (x,some "__init__")) fd ps (Kc ⟨K,mg,⟨D.cn,D.an,nd,w⟩⟩ m)):MkG P w K mg base ⟨D.cn,D.an,nd,w⟩ k x i m :=
 ⟨_,_,fd,ps,(Qek X G c.sf e).2,(Qek (nd:=nd) (wd:=w) X G c.sf e).1,He.mkr_ok (c.fact j hj),b,ho⟩
theorem Qql (nd:D.an.Nodup) (X:K.In h) (G:h.Ns mainGlobals mg) (c:Qfi D K) {x y mn:Str} {i:Nat} (e:D.cn[i]?=some x:=by rfl) (j:Nat) (hj:D.fm[j]?=some (.sup x y mn):=by rfl) (j2:Nat) (hj2:D.fm[j2]?=some (.fa (.free "super")):=by rfl) (htop:(P.main.scope.names.lookup ("super" : Str)).isSome=false)
  (b:Binds K fd ps []) (ho:FnOk P w K mg base CX0 k (He.fAd K (y,some mn)) fd ps (Kc ⟨K,mg,⟨D.cn,D.an,nd,w⟩⟩ m)):SupG P w K mg base ⟨D.cn,D.an,nd,w⟩ k i i mn m:=by
 obtain ⟨q1,q⟩:=He.ba (c.fact j hj)
 obtain ⟨q2,q⟩:=He.ba q
 obtain ⟨q3,q⟩:=He.ba q
 obtain ⟨q4,q5⟩:=He.ba q
 exact ⟨_,_,_,fd,ps,(Qek X G c.sf e).2,(Qek X G c.sf e).2,of_decide_eq_true q1,He.free_ok X G (c.fact j2 hj2),htop,of_decide_eq_true q2,of_decide_eq_true q3,of_decide_eq_true q4,q5,ho,b⟩
theorem Qpw (nd:D.an.Nodup) (X:K.In h) (G:h.Ns mainGlobals mg) (c:Qfi D K) {x y:Str} {i:Nat} (e:D.cn[i]?=some x:=by rfl) (j:Nat) (hj:D.fm[j]?=some (.inh x "__eq__" y):=by rfl) (j2:Nat) (hj2:D.fm[j2]?=some (.ne x):=by rfl)
  (b:Binds K fd ps []) (ho:FnOk P w K mg base CX0 k (He.fAd K (y,some "__eq__")) fd ps (Kc ⟨K,mg,⟨D.cn,D.an,nd,w⟩⟩ m)):EqC P w K mg base ⟨D.cn,D.an,nd,w⟩ k i m:=by
 obtain ⟨q1,q2⟩:=He.ba (c.fact j hj)
 obtain ⟨q3,q4⟩:=He.ba (c.fact j2 hj2)
 exact ⟨_,_,fd,ps,(Qek X G c.sf e).2,of_decide_eq_true q1,q2,of_decide_eq_true q3,of_decide_eq_true q4,b,ho⟩
theorem Qlo (nd:D.an.Nodup) (X:K.In h) (G:h.Ns mainGlobals mg) (c:Qfi D K) {x y:Str} {i:Nat} (e:D.cn[i]?=some x:=by rfl) (j:Nat) (hj:D.fm[j]?=some (.inh x "__str__" y):=by rfl)
  (b:Binds K fd ps []) (ho:FnOk P w K mg base CX0 k (He.fAd K (y,some "__str__")) fd ps (Kc ⟨K,mg,⟨D.cn,D.an,nd,w⟩⟩ m)):StrC P w K mg base ⟨D.cn,D.an,nd,w⟩ k i m:=by
 obtain ⟨q1,q2⟩:=He.ba (c.fact j hj)
 exact ⟨_,_,fd,ps,(Qek X G c.sf e).2,of_decide_eq_true q1,q2,b,ho⟩
end
end MW
namespace Mir
def E0:Store:=⟨0,[]⟩
def purO (S:Store):Out W->Out W
 | .ok w _=>if K8 w then .ok w S else .bad
 | .err c fs _=>if Ko fs then .err c fs S else .bad
 | .bad=>.bad
def Jj (m:MF):MF:=λxs S=>if Jq xs then purO S (m xs E0) else .bad
end Mir
namespace MW
open PySem PySem.Spec PyProof.Rows L2 Mir
section
variable {T:Tab} {w:Wd}
def Wd.bare (w:Wd):Wd:=⟨λ_=>none,w.G,E0,w.H⟩
theorem Ok.bare (o:Ok T w):Ok T w.bare where
 ex:=o.ex
 own:=λn u e=>by cases e
 inj:=λn m a h _=>by cases h.2
 dom:=λn a h=>by cases h
 nd:=List.nodup_nil
 tb:=λc P e=>(o.tb c P e).mv rfl (λ_ _ q=>q) (o.tb c P e).gn λn h=>by cases h.2
def Wd.back (w w0:Wd):Wd:=⟨w.r,w0.G,w.S,w0.H⟩
theorem Qob {n:Nat} {a:Addr}:¬ At w.bare n a:=λh=>by cases h.2
theorem Ok.back {w0:Wd} (o:Ok T w) (o0:Ok T w0) (e:Ext w.bare w0):Ok T (w.back w0) where
 ex:=o0.ex
 own:=λn u h=>by
  obtain ⟨a,h1,h2,h3⟩:=o.own n u h
  obtain ⟨x,hx⟩:=h3.some
  rw [hx] at h3
  refine ⟨a,h1,e.gn a x hx h3.nt h2 λn=>Qob,?_⟩
  show RelO T w.r w0.G u (w0.H a)
  rw [e.fr a x hx h3.nt λn=>Qob]
  exact h3.mono (Yp.refl _) e.ex
 inj:=o.inj
 dom:=λn a h=>by
  obtain ⟨h1,x,h2⟩:=o.dom n a h
  exact ⟨h1,e.al a x h2⟩
 nd:=o.nd
 tb:=λc P q=>(o0.tb c P q).mv rfl (λ_ _ z=>z) (o0.tb c P q).gn λn h=>absurd h ((o.tb c P q).no n)
theorem Ext.back {w0:Wd} (e:Ext w.bare w0):Ext w (w.back w0) where
 le:=Yp.refl _
 ex:=e.ex
 fr:=λa u h nt _=>e.fr a u h nt λn=>Qob
 sub:=λn a h=>.inl h
 al:=e.al
 gn:=λa u h nt hG _=>e.gn a u h nt hG λn=>Qob
theorem Qr1 {m:MF} {xs:List Mir.W} {Q:VK} {E:XK} (o:Ok T w) (h:Jl T w (Jj m xs w.S) (QW T Q) E):Jq xs=true/\Jl T w.bare (m xs E0) (QW T Q) E:=by
 unfold Jj at h
 cases hn:Jq xs with
 | false=>rw [hn] at h; exact h.elim
 | true =>
  rw [hn] at h
  refine ⟨rfl,?_⟩
  have h':Jl T w (purO w.S (m xs E0)) (QW T Q) E:=h
  cases q:m xs E0 with
  | bad=>rw [q] at h'; exact h'.elim
  | ok x S' =>
   rw [q] at h'
   have h2:Jl T w (if K8 x=true then .ok x w.S else .bad) (QW T Q) E:=h'
   cases hx:K8 x with
   | false=>rw [hx] at h2; exact h2.elim
   | true =>
    rw [hx] at h2
    intro w0 o0 e0 hs v rv
    exact h2 (w.back w0) (o.back o0 e0) (Ext.back e0) rfl v (rv.nor hx)
  | err c fs S' =>
   rw [q] at h'
   have h2:Jl T w (if Ko fs=true then .err c fs w.S else .bad) (QW T Q) E:=h'
   cases hx:Ko fs with
   | false=>rw [hx] at h2; exact h2.elim
   | true =>
    rw [hx] at h2
    intro w0 o0 e0 hs C dd hC hd
    refine h2 (w.back w0) (o.back o0 e0) (Ext.back e0) rfl C dd hC ?_
    cases dd with
    | none=>exact hd
    | some d =>
     obtain ⟨vs,h1,h2⟩:=hd
     exact ⟨vs,h1,h2.nor hx⟩
theorem Qrv {m:MF} {vs:List V} {H:Hp} {Q:VK} {E:XK} (h:Kc T (Jj m) vs H Q E):Kc T m vs H Q E:=by
 obtain ⟨w,ws,rfl,o,rv,p⟩:=h
 obtain ⟨hn,p'⟩:=Qr1 o p
 exact ⟨w.bare,ws,rfl,o.bare,rv.nor hn,p'⟩
end
section
variable {P:Program} {w:World} {K:Frag} {mg:Str->Option Value} {base:Heap} {nm:Nm} {k c:Nat} {x mn:Str} {m:MF}
theorem FnG.Jj (G:FnG P w K mg base nm k x m):FnG P w K mg base nm k x (Mir.Jj m):=by
 obtain ⟨f,fd,ps,h1,h2,h3,h4⟩:=G.ex
 exact ⟨f,fd,ps,h1,h2,h3,h4.imp λ_ _ _ _ h=>Qrv h⟩
theorem MtG.Jj (G:MtG P w K mg base nm k mn c m):MtG P w K mg base nm k mn c (Mir.Jj m):=by
 obtain ⟨C,f,fd,ps,h1,h2,h3,h4⟩:=G.ex
 exact ⟨C,f,fd,ps,h1,h2,h3,h4.imp λ_ _ _ _ h=>Qrv h⟩
end
section
variable {T:Tab} {E:XK} {c:Nat} {m:MF} {ma:MA} {C:Addr} {w1:Wd} {xs:List Mir.W} {vs:List V} {Q:VK} {x dx:Addr}
theorem Qxg (hC:T.cls c=some C) (o1:Ok T w1) (rv:w1.rels T xs vs) (h1:Jl T w1 (Y6 c m xs w1.S) (QW T Q) E) (hx:w1.H x=none) (hdx:w1.H dx=none) (hne:dx≠x) :
  Kc T m (.ref x::vs) (upd (upd w1.H dx (.own x)) x (.ins C dx [])) (λv H3=>v=.non/\Q (.ref x) H3) E:=by
 obtain ⟨o2,x2⟩:=o1.inst hC hx hdx hne
 have h2:Jl T w1 ((m (.ref w1.S.next::xs) (w1.S.new (.ins c []))).bind λy S1=>if Qy4 y then (match S1.get w1.S.next with | some (.ins k fs)=>.ok (.obj k fs) (S1.drop w1.S.next) | _=>.bad) else .bad) (QW T Q) E:=h1
 have l:(w1.inst x dx C c).r w1.S.next=some x:=Qmx (w:=w1.layF dx (.own x))
 refine ⟨w1.inst x dx C c,.ref w1.S.next::xs,rfl,o2,.cons (.ref l) (rv.mono x2.le x2.ex),?_⟩
 refine (Jl.bind h2 |>.mono x2).imp λy w3 o3 x3 h3 v ry=>?_
 cases y with
 | non =>
  refine ⟨ry.non_inv,?_⟩
  have h4:Jl T w3 (match w3.S.get w1.S.next with | some (.ins k fs)=>.ok (.obj k fs) (w3.S.drop w1.S.next) | _=>.bad) (QW T Q) E:=h3
  have l3:w3.r w1.S.next=some x:=x3.le _ _ l
  cases g:w3.S.get w1.S.next with
  | none=>rw [g] at h4; exact h4.elim
  | some so =>
   rw [g] at h4
   cases so with
   | ins k fs =>
    obtain ⟨a,C',dx',vs',e,at_,hG,hH,hC',q⟩:=o3.insAt g (.ref l3)
    cases e
    refine h4 (w3.frz w1.S.next x (.ins C' dx' vs')) (o3.frz at_ hH) (Ext.frz o3 at_) rfl (.ref x) (.obj (by show upd w3.G x _ x=_; exact upd_same) hC' (q.mono (Ext.frz (u:=.ins C' dx' vs') o3 at_).le (Ext.frz (u:=.ins C' dx' vs') o3 at_).ex))
   | lst _=>exact h4.elim
   | dct _=>exact h4.elim
   | dcx _=>exact h4.elim
 | _=>exact h3.elim
theorem QBv (hC:T.cls c=some C) (o1:Ok T w1) (rv:w1.rels T xs vs) (h1:Jl T w1 (Jj (Y6 c m) xs w1.S) (QW T Q) E) (hx:w1.H x=none) (hdx:w1.H dx=none) (hne:dx≠x) :
  Kc T m (.ref x::vs) (upd (upd w1.H dx (.own x)) x (.ins C dx [])) (λv H3=>v=.non/\Q (.ref x) H3) E:=by
 obtain ⟨hn,h2⟩:=Qr1 o1 h1
 exact Qxg (w1:=w1.bare) hC o1.bare (rv.nor hn) h2 hx hdx hne
end
section
variable {X:Cx} {nm:Nm} {E:XK} {pos p:Pos} {k:Nat} {x:Str} {m:MF} {c:Nat} {e:Expr} {es:List Expr} {a:MA}
theorem Qh8 (G:MkG X.prog X.w X.K X.mg X.base nm k x c m) (hr:Room (k+1) X.A) (ha:WA X nm E (e::es) a) (hg:Gl X x:=by rfl)
  (hdb:(x == ("__debug__" : Str))=false:=by decide) (he:starEach (e::es) X.env=(false,eval e X.env)::starEach es X.env:=by rfl) (hpl:(backTo pos (starEach es X.env)).any (·.1)=false:=by rfl):WE X nm E (.Call (.Name x p) (e::es) [] pos) (Jg (Jj (Y6 c m)) a):=by
 obtain ⟨C,f,fd,ps,h1,h2,h3,h4,h5⟩:=G.ex
 refine Yw (pe_make h3 h5 hr hg h2 h4 .nil (Qqr (E:=E)) ha hdb he hpl) fun σ H Q h=>?_
 obtain ⟨w,d,eH,o,re,h⟩:=h
 subst eH
 refine Qev (Qc7 o re h) ?_
 rintro vs H1 ⟨w1,xs,rfl,o1,x1,re1,rv,h1'⟩ x dx hx hdx hne
 rw [List.append_nil]
 exact QBv h1 o1 rv h1' hx hdx hne
end
end MW
namespace Mir
def Yu {β:Type} (g:Gd) (f:W->β->Store->Out β):List W->β->Store->Out β
 | [],b,S=>if Ky S g then .ok b S else .bad
 | x::r,b,S=>if Ky S g then (f x b S).bind λb1 S1=>Yu g f r b1 S1 else .bad
def Qks (c:MT) (e:ME) (d1:Jo) (ys:List W) (S:Store):Out (List W):=(c d1 S).bind λb S1=>if b then (e d1 S1).bind λy S2=>if Nat.blt ys.length Jy then .ok (ys++[y]) S2 else .bad else .ok ys S1
def eLcc (vs vs1:List Nat) (it it2:MI) (tg tg2:Tg) (c c2:MT) (e:ME):ME:=λd S=>(it d S).bind λp S1 =>
 (Yu p.2 (λx ys S2=>match JG tg x (JV d vs) with
   | none=>.bad
   | some d1=>(c d1 S2).bind λb S3=>if b then (it2 d1 S3).bind λp2 S4=>Yu p2.2 (λx2 zs S5=>match JG tg2 x2 (JV d1 vs1) with
     | none=>.bad
     | some d2=>Qks c2 e d2 zs S5) p2.1 ys S4
    else .ok ys S3) p.1 [] S1).bind λys S2=>.ok (.lst ys) S2
def Qpr:W->W->Bool
 | .int i,b=>match b with
  | .int j=>decide (i=j)
  | _=>false
 | .str x,b=>match b with
  | .str y=>JH x y
  | _=>false
 | _,_=>false
def Qum:W->Bool
 | .int _=>true
 | .str _=>true
 | _=>false
def dHas (k:W):List (W×W)->Bool
 | []=>false
 | (m,_)::r=>if Qpr m k then true else dHas k r
def dSet (k v:W):List (W×W)->List (W×W)
 | []=>[]
 | (m,u)::r=>(if Qpr m k then (m,v) else (m,u))::dSet k v r
def dPut (k v:W) (ws:List (W×W)):List (W×W):=if dHas k ws then dSet k v ws else ws++[(k,v)]
def eDc (vs:List Nat) (it:MI) (tg:Tg) (c:MT) (ek ev:ME):ME:=λd S=>(it d S).bind λp S1 =>
 (Yu p.2 (λx ys S2=>match JG tg x (JV d vs) with
   | none=>.bad
   | some d1=>(c d1 S2).bind λb S3=>if b then (ek d1 S3).bind λk S4=>(ev d1 S4).bind λv S5=>if Qum k&&Nat.blt ys.length Jy then .ok (dPut k v ys) S5 else .bad
    else .ok ys S3) p.1 [] S1).bind λys S2=>.ok (.ref S2.next) (S2.new (.dct ys))
def Yi:MF:=λxs S=>match xs with
 | [.ref n]=>match S.get n with
  | some (.dct kvs)=>.ok (.int kvs.length) S
  | _=>fLen xs S
 | _=>fLen xs S
end Mir
namespace MW
open PySem PySem.Spec PyProof.Rows L2 Mir
section
variable {X:Cx} {nm:Nm} {E:XK} {pos p:Pos}
theorem Qlg {e:Expr} {es:List Expr} {m:ME} {k:MA} (ha:WE X nm E e m) (hr:WA X nm E es k) (hs:starEach (.Starred e p::es) X.env=(true,eval e X.env)::starEach es X.env:=by rfl):WA X nm E (.Starred e p::es) (Qg6 m k) :=
 Qt2 (StX.pa_star ha hr hs) fun σ H Q ⟨w,d,e,o,re,h⟩=>by
  subst e
  refine Yq (YD o re h) ?_
  rintro x H1 ⟨w1,a',rfl,o1,x1,re1,ra,h1⟩
  cases g:KJ w1.S a' with
  | none=>rw [g] at h1; exact h1.elim
  | some ys =>
   rw [g] at h1
   obtain ⟨a,vs,rfl,hsq,q⟩:=o1.seq g ra
   refine ⟨a,vs,rfl,hsq.elim .inr .inl,Qev (Qc7 o1 re1 h1) ?_⟩
   rintro xs H2 ⟨w2,bs,rfl,o2,x2,re2,rb,h2⟩
   exact h2 w2 o2 (Ext.refl _) rfl (vs++xs) ((q.mono x2.le x2.ex).append rb)
end
theorem Quk {T:Tab} {E:XK} {β:Type} {f:Mir.W->β->Store->Out β} {P:β->Wd->Prop} {w1 w0:Wd} {xs:List Mir.W} {g:Gd} {J:It} {R:β->Wd->Prop} {Q:Hp->Prop} {b0:β} {B:V->Hp->(Hp->Prop)->Prop}
  (hw:∀ w',Ok T w'->Ext w1 w'->ExtG w0 w'->Ky w'.S g=true->(∀ i x,xs[i]?=some x->J.go i w'.H/\∀ v H',J.yld i w'.H v H'->∃ w2,w2.H=H'/\Ok T w2/\Ext w' w2/\w2.S=w'.S/\w2.rel T x v)/\J.stop xs.length w'.H)
  (o0:Ok T w0) (e0:Ext w1 w0) (p0:P b0 w0) (h:Jl T w1 (Yu g f xs b0 w0.S) R E)
  (pm:∀ b w w',Ok T w->Ext w1 w->Ok T w'->Ext w w'->P b w->P b w')
  (fin:∀ b w',Ok T w'->Ext w1 w'->P b w'->R b w'->Q w'.H)
  (step:∀ (x:Mir.W) (b:β) (w2:Wd) (v:V) (Nx:Hp->Prop) (k:β->Store->Out β),x∈xs->Ok T w2->Ext w1 w2->ExtG w0 w2->P b w2->w2.rel T x v->Jl T w1 ((f x b w2.S).bind k) R E ->
    (∀ b' w',Ok T w'->Ext w1 w'->ExtG w0 w'->P b' w'->Jl T w1 (k b' w'.S) R E->Nx w'.H)->B v w2.H Nx) :
  ∃ W:Nat->Nat->Hp->Prop,(∃ m,W 0 m w0.H)/\∀ i m H,W i m H ->
   (J.stop i H/\Q H)\/(J.go i H/\∃ Nx:Hp->Prop,(∀ H',Nx H'->∃ m',m' < m/\W (i+1) m' H')/\∀ v H',J.yld i H v H'->B v H' Nx):=by
 let St:List Mir.W->Hp->Prop:=λrest H=>∃ w' b,w'.H=H/\Ok T w'/\Ext w1 w'/\ExtG w0 w'/\P b w'/\Jl T w1 (Yu g f rest b w'.S) R E
 refine ⟨λi m H=>m=xs.length-i/\i<=xs.length/\St (xs.drop i) H,⟨xs.length,rfl,Nat.zero_le _,w0,b0,rfl,o0,e0,⟨Yp.refl _,Same.refl _⟩,p0,h⟩,?_⟩
 rintro i m H ⟨rfl,hi,w',b,rfl,o',x',y',p',h'⟩
 cases hst:Ky w'.S g with
 | false =>
  exfalso
  cases e:xs.drop i with
  | nil =>
   rw [e] at h'
   have h2:Jl T w1 (if Ky w'.S g then .ok b w'.S else .bad) R E:=h'
   rw [hst] at h2
   exact h2
  | cons y r =>
   rw [e] at h'
   have h2:Jl T w1 (if Ky w'.S g then (f y b w'.S).bind λb1 S1=>Yu g f r b1 S1 else .bad) R E:=h'
   rw [hst] at h2
   exact h2
 | true =>
  obtain ⟨hgo,hstop⟩:=hw w' o' x' y' hst
  cases e:xs.drop i with
  | nil =>
   have hl:i=xs.length:=Nat.le_antisymm hi (List.drop_eq_nil_iff.mp e)
   subst hl
   rw [e] at h'
   have h2:Jl T w1 (if Ky w'.S g then .ok b w'.S else .bad) R E:=h'
   rw [hst] at h2
   exact .inl ⟨hstop,fin b w' o' x' p' (h2 w' o' x' rfl)⟩
  | cons y r =>
   rw [e] at h'
   have h2:Jl T w1 (if Ky w'.S g then (f y b w'.S).bind λb1 S1=>Yu g f r b1 S1 else .bad) R E:=h'
   rw [hst] at h2
   have hiy:xs[i]?=some y:=by
    have:=List.getElem?_drop (xs:=xs) (i:=i) (j:=0)
    rw [e] at this
    simpa using this.symm
   have hr:r=xs.drop (i+1):=by
    have:=List.drop_drop (i:=1) (j:=i) (l:=xs)
    rw [e] at this
    simpa using this
   have hlt:i<xs.length:=(List.getElem?_eq_some_iff.mp hiy).1
   obtain ⟨go,yl⟩:=hgo i y hiy
   refine .inr ⟨go,St r,?_,λv H2 hy=>?_⟩
   ·intro H' hs
    rw [hr] at hs
    exact ⟨xs.length-(i+1),by omega,rfl,hlt,hs⟩
   ·obtain ⟨w2,rfl,o2,x2,hS,rv⟩:=yl v H2 hy
    refine step y b w2 v (St r) (λb1 S1=>Yu g f r b1 S1) (List.mem_of_getElem? hiy) o2 (x'.trans x2) (y'.trans x2.g) (pm b w' w2 o' x' o2 x2 p') rv ?_ λb' w3 o3 x3 y3 p3 h3=>⟨w3,b',rfl,o3,x3,y3,p3,h3⟩
    rw [hS]
    exact h2
section
variable {X:Cx} {nm:Nm} {E:XK} {pos:Pos} {tg iter elt tg1 iter1:Expr} {ifs ifs1:List Expr} {scope:Scope} {own:List (Str×Nat)} {mi mi2:MI} {t t2:Tg} {mt mt2:MT} {me mk:ME} {vs vs1:List Nat}
theorem Qyz {T:Tab} {D:Addr} {w1 w2:Wd} {d1:Jo} {σ:L2.St} {ys:List Mir.W} {R:List Mir.W->Wd->Prop} {k:List Mir.W->Store->Out (List Mir.W)} {Nx:Hp->Prop} {wb:Wd} (hD:w1.H D=none) (o2:Ok T w2) (e2:Ext w1 w2) (eb:ExtG wb w2) (p:AtD T D ys w2) (re:w2.env T d1 σ)
  (h:Jl T w1 ((Qks mt me d1 ys w2.S).bind k) R E) (nx:∀ b' w',Ok T w'->Ext w1 w'->ExtG wb w'->AtD T D b' w'->Jl T w1 (k b' w'.S) R E->Nx w'.H) :
  lT T mt E σ w2.H λb H3=>if b=true then lE T me E σ H3 λy H4=>∃ acc,H4 D=some (.lst acc)/\acc.length<sizeLine/\Nx (upd H4 D (.lst (acc++[y]))) else Nx H3:=by
 have h':Jl T w1 ((mt d1 w2.S).bind λb S1=>if b then (me d1 S1).bind λy S2=>if Nat.blt ys.length Jy then k (ys++[y]) S2 else .bad else k ys S1) R E:=by
  have e:(Qks mt me d1 ys w2.S).bind k=((mt d1 w2.S).bind λb S1=>if b then (me d1 S1).bind λy S2=>if Nat.blt ys.length Jy then k (ys++[y]) S2 else .bad else k ys S1):=by
   unfold Qks
   cases mt d1 w2.S with
   | ok b S1 =>
    cases b with
    | false=>rfl
    | true =>
     show (((me d1 S1).bind λy S2=>if Nat.blt ys.length Jy=true then .ok (ys++[y]) S2 else .bad).bind k)=((me d1 S1).bind λy S2=>if Nat.blt ys.length Jy=true then k (ys++[y]) S2 else .bad)
     cases me d1 S1 with
     | ok y S2 =>
      show ((if Nat.blt ys.length Jy=true then Out.ok (ys++[y]) S2 else .bad).bind k)=(if Nat.blt ys.length Jy=true then k (ys++[y]) S2 else .bad)
      cases Nat.blt ys.length Jy <;> rfl
     | err _ _ _=>rfl
     | bad=>rfl
   | err _ _ _=>rfl
   | bad=>rfl
  rw [<- e]
  exact h
 refine Qhi (Qk9 o2 e2 re h') ?_
 rintro b H3 ⟨w3,rfl,o3,x3,re3,h4⟩
 have p3:=p.ext x3
 have e3:=e2.trans x3
 cases b with
 | false=>exact nx ys w3 o3 e3 (eb.trans x3.g) p3 h4
 | true =>
  refine Yq (Qla o3 e3 re3 h4) ?_
  rintro u H4 ⟨w4,z,rfl,o4,x4,re4,rz,h5⟩
  obtain ⟨out4,acc,hacc4,q4⟩:=p3.ext x4
  cases hb:Nat.blt ys.length Jy with
  | false=>rw [hb] at h5; exact h5.elim
  | true =>
   rw [hb] at h5
   have hlt:ys.length<Jy:=Nat.lt_of_lt_of_le (Nat.lt_succ_self _) (Nat.le_of_ble_eq_true hb)
   refine ⟨acc,hacc4,by rw [<- q4.length]; exact Nat.lt_of_lt_of_le hlt (Qkq (Nat.le_refl _)),?_⟩
   refine nx (ys++[z]) (w4.setU D (.lst (acc++[u]))) (o4.setU out4 (λps z=>by rw [hacc4] at z; cases z)) (Ext.setU (e3.trans x4) hD) ⟨(eb.trans (x3.trans x4).g).le,(eb.trans (x3.trans x4).g).ex⟩ ⟨out4,acc++[u],upd_same,q4.append (.cons rz .nil)⟩ h5
theorem QA8 {T:Tab} {σ:L2.St} {H:Hp} {Q:VK} (ht:∀ i∈tgS t,i∈vs) (ht1:∀ i∈tgS t2,i∈vs1) (h:lE T (eLcc vs vs1 mi mi2 t t2 mt mt2 me) E σ H Q):tLc2 (lI T mi E) (lG T t) (lT T mt E) (lI T mi2 E) (lG T t2) (lT T mt2 E) (lE T me E) vs vs1 σ H Q:=by
 obtain ⟨w,d,eH,o,re,h⟩:=h
 subst eH
 refine ⟨w,d,rfl,o,re,(Jl.bind h).imp λp w1 o1 x1 h2 J hw D hD=>?_⟩
 obtain ⟨xs,g⟩:=p
 have re1:=re.mono x1.le x1.ex
 refine Quk (P:=AtD T D) (w0:=w1.setU D (.lst [])) (b0:=[]) (λw' o' e' y' st=>hw w' o' e'.g st) (o1.setU (o1.out hD) (λps z=>by rw [hD] at z; cases z)) (Ext.setU (Ext.refl _) hD) ⟨o1.out hD,[],upd_same,.nil⟩ (Jl.bind0 h2)
  (λb w w' _ _ _ e p=>p.ext e) ?_ ?_
 ·rintro ys w' o' x' ⟨out,acc,hacc,q⟩ r
  exact r (w'.fixU D (.lst acc)) (o'.fixU out hacc) (Ext.fixU x' hD out) rfl (.ref D) (.lst (by show upd w'.G D _ D=_; exact upd_same) (q.mono (Yp.refl _) λb x e=>by show upd w'.G D _ b=some x; rw [upd_ne (ne_of_none e out.1)]; exact e))
 ·intro x ys w2 v Nx k hx o2 e2 y2 p2 rv h3 nx
  have re2:w2.env T (JV d vs) (L2.wipe σ vs):=(re1.mono e2.le e2.ex).wipe vs
  cases gt:JG t x (JV d vs) with
  | none=>simp only [gt] at h3; exact h3.elim
  | some d1 =>
   simp only [gt] at h3
   refine ⟨w2,JV d vs,x,d1,rfl,o2,re2,rv,gt,fun σ2 re2' ch=>⟨?_,?_⟩⟩
   ·rw [Qh7 (vs:=vs) ch.1 (λj hj=>ch.2 j λz=>hj (ht j z)),Qh6]
   ·have h4:Jl T w1 ((mt d1 w2.S).bind λb S3=>(if b then (mi2 d1 S3).bind λp2 S4=>Yu p2.2 (λx2 zs S5=>match JG t2 x2 (JV d1 vs1) with | none=>.bad | some d2=>Qks mt2 me d2 zs S5) p2.1 ys S4 else .ok ys S3).bind k) (λys w'=>Jl T w1 (.ok (.lst ys) w'.S) (QW T Q) E) E:=by
     have e:∀ F:Bool->Store->Out (List Mir.W),((mt d1 w2.S).bind F).bind k=(mt d1 w2.S).bind λb S3=>(F b S3).bind k:=λF=>by cases mt d1 w2.S <;> rfl
     rw [<- e]
     exact h3
    refine Qhi (Qk9 o2 e2 re2' h4) ?_
    rintro b H3 ⟨w3,rfl,o3,x3,re3,h5⟩
    have p3:=p2.ext x3
    have e3:=e2.trans x3
    cases b with
    | false=>exact nx ys w3 o3 e3 (y2.trans x3.g) p3 h5
    | true =>
     have h6:Jl T w1 ((mi2 d1 w3.S).bind λp2 S4=>(Yu p2.2 (λx2 zs S5=>match JG t2 x2 (JV d1 vs1) with | none=>.bad | some d2=>Qks mt2 me d2 zs S5) p2.1 ys S4).bind k) (λys w'=>Jl T w1 (.ok (.lst ys) w'.S) (QW T Q) E) E:=by
      have e:∀ F:(List Mir.W×Gd)->Store->Out (List Mir.W),((mi2 d1 w3.S).bind F).bind k=(mi2 d1 w3.S).bind λb S3=>(F b S3).bind k:=λF=>by cases mi2 d1 w3.S <;> rfl
      rw [<- e]
      exact h5
     refine ⟨w3,d1,rfl,o3,re3,((Jl.bind0 h6).mono e3).imp λp4 w4 o4 x4 h7 J1 hw1=>?_⟩
     obtain ⟨xs2,g2⟩:=p4
     have re4:=re3.mono x4.le x4.ex
     have e4:=e3.trans x4
     refine Quk (P:=AtD T D) (w1:=w1) (w0:=w4) (b0:=ys) (λw' o' e' y' st=>hw1 w' o' y' st) o4 e4 (p3.ext x4) (Jl.bind0 h7) (λb w w' _ _ _ e p=>p.ext e) ?_ ?_
     ·intro zs w' o' x' p' r
      exact nx zs w' o' x' ⟨x'.le,x'.ex⟩ p' r
     ·intro x2 zs w5 v2 Nx1 k1 hx2 o5 e5 y5 p5 rv5 h8 nx1
      have re5:w5.env T (JV d1 vs1) (L2.wipe σ2 vs1):=(re4.mono y5.le y5.ex).wipe vs1
      cases gt2:JG t2 x2 (JV d1 vs1) with
      | none=>simp only [gt2] at h8; exact h8.elim
      | some d2 =>
       simp only [gt2] at h8
       refine ⟨w5,JV d1 vs1,x2,d2,rfl,o5,re5,rv5,gt2,fun σ3 re5' ch1=>⟨?_,?_⟩⟩
       ·rw [Qh7 (vs:=vs1) ch1.1 (λj hj=>ch1.2 j λz=>hj (ht1 j z)),Qh6]
       ·exact Qyz hD o5 e5 y5 p5 re5' h8 nx1
theorem Qzx (hc:X.calm=true) (hN:X.N.Nodup) (hv:own.map (·.2)=vs) (hv1:∀ i∈vs1,i∈vs) (ht0:∀ i∈tgS t,i∈vs) (ht01:∀ i∈tgS t2,i∈vs1) (ok:BlkOk X.N X.env.scope scope own) (hi:WI X nm E tg iter mi)
  (hg:∀ (s:Shared) (H:Hp) (C:Addr) (cl:List (Str×Addr)) (fp:List Addr),WG (X.blk s H scope (compEnvC scope cl C X.env) fp) nm tg t)
  (ht:∀ (s:Shared) (H:Hp) (C:Addr) (cl:List (Str×Addr)) (fp:List Addr),WTs (X.blk s H scope (compEnvC scope cl C X.env) fp) nm E ifs mt)
  (hi1:∀ (s:Shared) (H:Hp) (C:Addr) (cl:List (Str×Addr)) (fp:List Addr),WI (X.blk s H scope (compEnvC scope cl C X.env) fp) nm E tg1 iter1 mi2)
  (hg1:∀ (s:Shared) (H:Hp) (C:Addr) (cl:List (Str×Addr)) (fp:List Addr),WG (X.blk s H scope (compEnvC scope cl C X.env) fp) nm tg1 t2)
  (ht1:∀ (s:Shared) (H:Hp) (C:Addr) (cl:List (Str×Addr)) (fp:List Addr),WTs (X.blk s H scope (compEnvC scope cl C X.env) fp) nm E ifs1 mt2)
  (he:∀ (s:Shared) (H:Hp) (C:Addr) (cl:List (Str×Addr)) (fp:List Addr),WE (X.blk s H scope (compEnvC scope cl C X.env) fp) nm E elt me)
  (hs:∀ x,foldedSetIterable iter X.env x=pure x:=by intro _; rfl) (hs1:∀ env x,foldedSetIterable iter1 env x=pure x:=by intro _ _; rfl) :
  WE X nm E (.ListComp elt [⟨tg,iter,ifs,0⟩,⟨tg1,iter1,ifs1,0⟩] scope pos) (eLcc vs vs1 mi mi2 t t2 mt mt2 me):=by
 subst hv
 exact Yw (pe_lc2 hc hN hi ok hv1 hg ht hi1 hg1 ht1 he hs hs1) λ_ _ _ h=>QA8 ht0 ht01 h
theorem Qpq {a b:Mir.W} {x y:Key} (ra:RelK a x) (rb:RelK b y):Qpr a b=decide (x=y):=by
 cases ra with
 | int i=>cases rb with
  | int j=>show decide (i=j)=decide ((Sum.inl i:Key)=.inl j); congr 1; simp
  | str e h=>show false=decide _; simp
 | str e h=>cases rb with
  | int j=>show false=decide _; simp
  | str e' h' =>
   show JH _ _=decide _
   rw [Qe1,<- e,<- e']
   congr 1
   rw [Sum.inr.injEq]
   exact propext Qou.symm
theorem Qyi {T:Tab} {r:Nat->Option Addr} {G:Hp} {a:Mir.W} {v:V} (h:Qum a=true) (rv:RelW T r G a v):∃ x,RelK a x/\v=kV x:=by
 cases a with
 | int i=>exact ⟨.inl i,.int i,rv.int_inv⟩
 | str z=>obtain ⟨x,e,h1,h2⟩:=rv.str_inv; exact ⟨.inr x,.str h1 h2,e⟩
 | _=>cases h
theorem RelKs.app {T:Tab} {r:Nat->Option Addr} {G:Hp} {ws ws':List (Mir.W×Mir.W)} {fs fs':List (Key×V)} (h:RelKs T r G ws fs) (k:RelKs T r G ws' fs'):RelKs T r G (ws++ws') (fs++fs'):=by
 induction h with
 | nil=>exact k
 | cons e q _ ih=>exact .cons e q ih
theorem Qwj {T:Tab} {r:Nat->Option Addr} {G:Hp} {k:Mir.W} {x:Key} (rk:RelK k x) {ws:List (Mir.W×Mir.W)} {fs:List (Key×V)} (h:RelKs T r G ws fs):dHas k ws=fs.any λkv=>decide (kv.1=x):=by
 induction h with
 | nil=>rfl
 | cons e _ _ ih =>
  rw [List.any_cons,<- Qpq e rk,<- ih]
  show (if Qpr _ k=true then true else _)=_
  cases Qpr _ k <;> rfl
theorem Qwh {T:Tab} {r:Nat->Option Addr} {G:Hp} {k w:Mir.W} {x:Key} {v:V} (rk:RelK k x) (rv:RelW T r G w v) {ws:List (Mir.W×Mir.W)} {fs:List (Key×V)} (h:RelKs T r G ws fs):RelKs T r G (dSet k w ws) (fs.map λkv=>if kv.1=x then (kv.1,v) else kv):=by
 induction h with
 | nil=>exact .nil
 | cons e q _ ih =>
  rw [List.map_cons]
  have ee:=Qpq e rk
  rename_i m u y z ws fs _
  show RelKs T r G ((if Qpr m k=true then (m,w) else (m,u))::dSet k w ws) ((if y=x then (y,v) else (y,z))::_)
  cases g:Qpr m k with
  | true =>
   rw [g] at ee
   rw [if_pos rfl,if_pos (of_decide_eq_true ee.symm)]
   exact .cons e rv ih
  | false =>
   rw [g] at ee
   rw [if_neg (by decide),if_neg (of_decide_eq_false ee.symm)]
   exact .cons e q ih
theorem Qwi {T:Tab} {r:Nat->Option Addr} {G:Hp} {k w:Mir.W} {x:Key} {v:V} (rk:RelK k x) (rv:RelW T r G w v) {ws:List (Mir.W×Mir.W)} {fs:List (Key×V)} (h:RelKs T r G ws fs):RelKs T r G (dPut k w ws) (putK fs x v):=by
 unfold dPut putK
 rw [Qwj rk h]
 cases fs.any λkv=>decide (kv.1=x) with
 | true=>exact Qwh rk rv h
 | false=>exact h.app (.cons rk rv .nil)
theorem dc_of {T:Tab} {σ:L2.St} {H:Hp} {Q:VK} (ht:∀ i∈tgS t,i∈vs) (h:lE T (eDc vs mi t mt mk me) E σ H Q):tDc (lI T mi E) (lG T t) (lT T mt E) (lE T mk E) (lE T me E) vs σ H Q:=by
 obtain ⟨w,d,eH,o,re,h⟩:=h
 subst eH
 refine ⟨w,d,rfl,o,re,(Jl.bind h).imp λp w1 o1 x1 h2 J hw D hD=>?_⟩
 obtain ⟨xs,g⟩:=p
 have re1:=re.mono x1.le x1.ex
 refine Quk (P:=AtDd T D) (w0:=w1.setU D (.dK [])) (b0:=[]) (λw' o' e' y' st=>hw w' o' e'.g st) (o1.setU (o1.out hD) (λps z=>by rw [hD] at z; cases z)) (Ext.setU (Ext.refl _) hD) ⟨o1.out hD,[],upd_same,.nil⟩ (Jl.bind0 h2)
  (λb w w' _ _ _ e p=>p.ext e) ?_ ?_
 ·rintro ys w' o' x' ⟨out,acc,hacc,q⟩ r
  exact r (w'.adopt D (.dct ys)) (o'.adopt out hacc ⟨acc,rfl,q.mono (Yp.lay (p:=D) (o:=.dct ys) (u:=.lst []) o') (Same.refl _)⟩) (Ext.adopt o' x' hD) rfl (.ref D) (.ref (Qmx (p:=D) (o:=.dct ys) (u:=.lst [])))
 ·intro x ys w2 v Nx k hx o2 e2 y2 p2 rv h3 nx
  have re2:w2.env T (JV d vs) (L2.wipe σ vs):=(re1.mono e2.le e2.ex).wipe vs
  cases gt:JG t x (JV d vs) with
  | none=>simp only [gt] at h3; exact h3.elim
  | some d1 =>
   simp only [gt] at h3
   refine ⟨w2,JV d vs,x,d1,rfl,o2,re2,rv,gt,fun σ2 re2' ch=>⟨?_,?_⟩⟩
   ·rw [Qh7 (vs:=vs) ch.1 (λj hj=>ch.2 j λz=>hj (ht j z)),Qh6]
   ·have bb:∀ {α:Type} (A:Out α) (F:α->Store->Out (List (Mir.W×Mir.W))),(A.bind F).bind k=A.bind λb S3=>(F b S3).bind k:=λA F=>by cases A <;> rfl
    rw [bb] at h3
    refine Qhi (Qk9 o2 e2 re2' h3) ?_
    rintro b H3 ⟨w3,rfl,o3,x3,re3,h5⟩
    have p3:=p2.ext x3
    have e3:=e2.trans x3
    cases b with
    | false=>exact nx ys w3 o3 e3 (y2.trans x3.g) p3 h5
    | true =>
     simp only [if_true] at h5 ⊢
     rw [bb] at h5
     refine Yq (Qla o3 e3 re3 h5) ?_
     rintro u H4 ⟨w4,z,rfl,o4,x4,re4,rz,h6⟩
     have e4:=e3.trans x4
     rw [bb] at h6
     refine Yq (Qla o4 e4 re4 h6) ?_
     rintro u5 H5 ⟨w5,z5,rfl,o5,x5,re5,rz5,h7⟩
     have rz:=rz.mono x5.le x5.ex
     obtain ⟨out5,acc,hacc5,q5⟩:=(p3.ext x4).ext x5
     cases hb:Qum z&&Nat.blt ys.length Jy with
     | false=>rw [hb] at h7; exact h7.elim
     | true =>
      rw [hb] at h7
      obtain ⟨hk,hl⟩:=Bool.and_eq_true_iff.mp hb
      obtain ⟨kx,rk,rfl⟩:=Qyi hk rz
      have hlt:ys.length<Jy:=Nat.lt_of_lt_of_le (Nat.lt_succ_self _) (Nat.le_of_ble_eq_true hl)
      refine ⟨acc,kx,rfl,hacc5,by rw [<- q5.length]; exact Nat.lt_of_lt_of_le hlt (Qkq (Nat.le_refl _)),?_⟩
      exact nx (dPut z z5 ys) (w5.setU D (.dK (putK acc kx u5))) (o5.setU out5 (λps z=>by rw [hacc5] at z; cases z)) (Ext.setU (e4.trans x5) hD) ⟨(y2.trans ((x3.trans x4).trans x5).g).le,(y2.trans ((x3.trans x4).trans x5).g).ex⟩ ⟨out5,_,upd_same,Qwi rk rz5 q5⟩ h7
theorem we_dc {kx vx:Expr} (hc:X.calm=true) (hN:X.N.Nodup) (hv:own.map (·.2)=vs) (ht0:∀ i∈tgS t,i∈vs) (ok:BlkOk X.N X.env.scope scope own) (hi:WI X nm E tg iter mi)
  (hg:∀ (s:Shared) (H:Hp) (C:Addr) (cl:List (Str×Addr)) (fp:List Addr),WG (X.blk s H scope (compEnvC scope cl C X.env) fp) nm tg t)
  (ht:∀ (s:Shared) (H:Hp) (C:Addr) (cl:List (Str×Addr)) (fp:List Addr),WTs (X.blk s H scope (compEnvC scope cl C X.env) fp) nm E ifs mt)
  (hk:∀ (s:Shared) (H:Hp) (C:Addr) (cl:List (Str×Addr)) (fp:List Addr),WE (X.blk s H scope (compEnvC scope cl C X.env) fp) nm E kx mk)
  (he:∀ (s:Shared) (H:Hp) (C:Addr) (cl:List (Str×Addr)) (fp:List Addr),WE (X.blk s H scope (compEnvC scope cl C X.env) fp) nm E vx me)
  (hs:∀ x,foldedSetIterable iter X.env x=pure x:=by intro _; rfl):WE X nm E (.DictComp kx vx [⟨tg,iter,ifs,0⟩] scope pos) (eDc vs mi t mt mk me):=by
 subst hv
 exact Yw (pe_dc hc hN hi ok hg ht hk he hs) λ_ _ _ h=>dc_of ht0 h
theorem cr_or {f:Value} {r r':List V->Hp->VK->Prop} (a:CallR X f r) (b:CallR X f r'):CallR X f (λxs H Q=>r xs H Q\/r' xs H Q):=λpins s σ H xs us Q I rv h=>h.elim (a pins s σ H xs us Q I rv) (b pins s σ H xs us Q I rv)
theorem QBt {f:Value} {r r':List V->Hp->VK->Prop} (a:CallR X f r) (h:∀ xs H Q,r' xs H Q->r xs H Q):CallR X f r':=λpins s σ H xs us Q I rv q=>a pins s σ H xs us Q I rv (h xs H Q q)
theorem Ok.dctAt {T:Tab} {w:Wd} (o:Ok T w) {n:Nat} {xs:List (Mir.W×Mir.W)} {v:V} (g:w.S.get n=some (.dct xs)) (rv:w.rel T (.ref n) v):∃ a vs,v=.ref a/\At w n a/\w.G a=none/\w.H a=some (.dK vs)/\RelKs T w.r w.G xs vs:=by
 obtain ⟨a,rfl,e⟩:=rv.ref_inv
 obtain ⟨a',e1,e2,vs,e3,e4⟩:=o.own n _ g
 rw [e] at e1
 cases e1
 exact ⟨a,vs,rfl,⟨⟨_,g⟩,e⟩,e2,e3,e4⟩
theorem cw_lenD:CallR X (.builtin "len") (lC (tb X nm) Yi E):=QBt (cr_or cw_len call_lenD) λxs H Q ⟨w,a,eH,o,rv,h⟩=>by
 subst eH
 by_cases hd:∃ n kvs,a=[.ref n]/\w.S.get n=some (.dct kvs)
 ·obtain ⟨n,kvs,rfl,g⟩:=hd
  obtain ⟨v,rfl,r1⟩:=Qgv rv
  obtain ⟨ad,vs,rfl,_,_,hH,q⟩:=o.dctAt g r1
  refine .inr ⟨ad,vs,rfl,hH,?_⟩
  have h':Jl (tb X nm) w (match w.S.get n with | some (.dct kvs)=>.ok (.int kvs.length) w.S | _=>fLen [.ref n] w.S) (QW (tb X nm) Q) E:=h
  rw [g] at h'
  rw [<- q.length]
  exact Jl.val o h' (.int _)
 ·refine .inl ⟨w,a,rfl,o,rv,?_⟩
  have e:Yi a w.S=fLen a w.S:=by
   unfold Yi
   split
   ·rename_i n
    split
    ·rename_i kvs g
     exact absurd ⟨n,kvs,rfl,g⟩ hd
    ·rfl
   ·rfl
  rw [<- e]
  exact h
end
section
variable {P:Program} {w:World} {K:Frag} {mg:Str->Option Value} {base:Heap} {h:Heap} {D:Head} {k:Nat} {fd:FuncData} {ps ks:List Str} {m:MF} {π:List Nat}
theorem Qcf {nm:Nm} (X:K.In h) (G:h.Ns mainGlobals mg) (c:Qfi D K) {x y q:Str} {st:Stmt} (j:Nat) (hj:D.fm[j]?=some (.fa (.glo x)):=by rfl) (F:Fun K y q st (He.fAd K (x,none)) fd) (b:Binds K fd ps []) (ho:FnOk P w K mg base CX0 k (He.fAd K (x,none)) fd ps (Kc ⟨K,mg,nm⟩ m)):FnG P w K mg base nm k x m :=
 ⟨_,fd,ps,He.glo_ok X G (c.fact j hj),F.kp,b,ho⟩
end
end MW
namespace Mir
def Qn9 (tab:List (Nat×MF)):MF:=λxs S=>match xs with
 | [x]=>match Qdh S x with
  | some c=>match Qds tab c with
   | some f=>(f [x] S).bind λr S1=>match r with
    | .int i=>if decide (0<=i)&&decide (i<1000000) then .ok (.int i) S1 else .bad
    | _=>.bad
   | none=>.bad
  | none=>Yi [x] S
 | _=>.bad
end Mir
namespace MW
open PySem PySem.Spec PyProof.Rows L2 Mir
def SpT (P:Program) (w:World) (K:Frag) (mg:Str->Option Value) (base:Heap) (nm:Nm) (sn:Str) (k:Nat) (tab:List (Nat×MF)):Prop:=∀ c m,Qds tab c=some m->SpC P w K mg base nm sn k c m
theorem Qxy {P:Program} {w:World} {K:Frag} {mg:Str->Option Value} {base:Heap} {nm:Nm} {sn:Str} {k:Nat}:SpT P w K mg base nm sn k []:=λc m h=>by cases h
theorem Qva {P:Program} {w:World} {K:Frag} {mg:Str->Option Value} {base:Heap} {nm:Nm} {sn:Str} {k c:Nat} {m:MF} {tab:List (Nat×MF)} (h:SpC P w K mg base nm sn k c m) (t:SpT P w K mg base nm sn k tab):SpT P w K mg base nm sn k ((c,m)::tab):=λc' m' e=>by
 have e':(if Nat.beq c c' then some m else Qds tab c')=some m':=e
 cases g:Nat.beq c c' with
 | true =>
  rw [g] at e'
  obtain rfl:c=c':=Nat.eq_of_beq_eq_true g
  cases e'
  exact h
 | false =>
  rw [g] at e'
  exact t c' m' e'
section
variable {P:Program} {w:World} {K:Frag} {mg:Str->Option Value} {base:Heap} {h:Heap} {D:Head} {k:Nat} {fd:FuncData} {ps:List Str} {m:MF}
theorem QAc (nd:D.an.Nodup) (X:K.In h) (G:h.Ns mainGlobals mg) (c:Qfi D K) {x y sn:Str} {i:Nat} (e:D.cn[i]?=some x:=by rfl) (j:Nat) (hj:D.fm[j]?=some (.inh x sn y):=by rfl)
  (b:Binds K fd ps []) (ho:FnOk P w K mg base CX0 k (He.fAd K (y,some sn)) fd ps (Kc ⟨K,mg,⟨D.cn,D.an,nd,w⟩⟩ m)):SpC P w K mg base ⟨D.cn,D.an,nd,w⟩ sn k i m:=by
 obtain ⟨q1,q2⟩:=He.ba (c.fact j hj)
 exact ⟨_,_,fd,ps,(Qek X G c.sf e).2,of_decide_eq_true q1,q2,b,ho⟩
end
section
variable {X:Cx} {nm:Nm} {E:XK}
theorem cw_lenO {k:Nat} {tab:List (Nat×MF)} (G:SpT X.prog X.w X.K X.mg X.base nm "__len__" k tab) (hr:Room (k+1) X.A):CallR X (.builtin "len") (lC (tb X nm) (Qn9 tab) E):=by
 rintro pins s σ H xs us Q I r ⟨w,a,rfl,o,rv,h⟩
 cases a with
 | nil=>exact h.elim
 | cons y t=>cases t with
  | cons _ _=>exact h.elim
  | nil =>
   have h':Jl (tb X nm) w (Qn9 tab [y] w.S) (QW (tb X nm) Q) E:=h
   unfold Qn9 at h'
   dsimp only at h'
   cases g:Qdh w.S y with
   | none =>
    rw [g] at h'
    exact cw_lenD pins s σ _ xs us Q I r ⟨w,[y],rfl,o,rv,h'⟩
   | some c =>
    rw [g] at h'
    dsimp only at h'
    cases g1:Qds tab c with
    | none=>rw [g1] at h'; exact h'.elim
    | some m =>
     rw [g1] at h'
     obtain ⟨C,f,fd,ps,k1,k2,k3,k4,k5⟩:=(G c m g1).ex
     obtain ⟨v,rfl,ry⟩:=Qgv rv
     obtain ⟨a',C',dx,ws,fs,rfl,hH,hC',_,_⟩:=o.ins g ry
     obtain rfl:C'=C:=Option.some.inj (hC'.symm.trans k1)
     obtain ⟨u,rfl,ru⟩:=vals1 r
     obtain rfl:u=Value.ref a':=ru
     obtain ⟨mA,O,_,_,_,_⟩:=ins_get I.hok hH
     obtain ⟨oD,J,hl⟩:=O.look
     obtain ⟨mF,hF⟩:=I.fr
     refine PySem.W.len_K hF I.ok.mod.kin J k2 k3 ?_
     have e0:Env0 X.prog X.w X.K X.mg X.base X.A.in1 X.stack s w.H:=I.env0.in1
     have sp:Kc (tb X nm) m [.ref a'] w.H (λr H'=>∃ i:Int,r=.int i/\(0<=i/\i<2 ^ 63)/\Q (.int i) H') E:=⟨w,[y],rfl,o,rv,(Jl.bind h').imp λr w1 o1 x1 q v rv=>by
      cases r with
      | int i =>
       have q':Jl (tb X nm) w1 (if (decide (0<=i)&&decide (i<1000000))=true then .ok (.int i) w1.S else .bad) (QW (tb X nm) Q) E:=q
       cases gi:(decide (0<=i)&&decide (i<1000000)) with
       | false=>rw [gi] at q'; exact q'.elim
       | true =>
        rw [gi] at q'
        obtain ⟨i1,i2⟩:=Bool.and_eq_true_iff.mp gi
        have i1:=of_decide_eq_true i1
        have i2:=of_decide_eq_true i2
        exact ⟨i,rv.int_inv,⟨i1,by omega⟩,q' w1 o1 (Ext.refl _) rfl _ (.int i)⟩
      | _=>exact q.elim⟩
     have bt:=k4 s [.ref a'] I.kIn (by rw [List.append_nil]; exact k5.len _ _ _ _ sp)
     rw [List.append_nil] at bt
     refine wpAny_call (codeAny_mono (k5.run X.A.in1 X.stack s w.H ⟨[.ref a'],[]⟩ [.ref a'] [.ref a'] _ E hr.in1 e0 bt (.cons rfl .nil) sp) λr s' hq=>?_)
     cases r with
     | error e=>exact hq.elim
     | ok fl =>
      cases fl with
      | ret u =>
       obtain ⟨z,H',I',rz,c,ez,hb,q⟩:=I.after hq
       subst ez
       obtain ⟨t,rfl⟩:=rz
       exact ⟨hb,.int c,H',I'.tok _,⟨_,rfl⟩,q⟩
      | next=>exact hq.elim
      | brk=>exact hq.elim
      | cont=>exact hq.elim
end
section
variable {X:Cx} {nm:Nm} {E:XK} {pins:List (Addr×Obj)} {σ:L2.St} {s:Shared}
end
section
variable {X:Cx} {nm:Nm} {E:XK} {pos:Pos}
end
section
variable {K:Frag}
variable {P:Program} {w:World} {mg:Str->Option Value} {base:Heap} {h:Heap} {D:Head} {fd:FuncData}
end
end MW
namespace Mir
open MW
def ltW (x y:W):Bool:=PySem.W.dataLt (toD x) (toD y)
def alW (x y:W):Bool:=PySem.W.alike (toD x) (toD y)
def QBd:W->Bool
 | .tup (_::_)=>true
 | _=>false
def noTN:W->Bool
 | .bl _=>true
 | .int _=>true
 | .str _=>true
 | .lst _=>true
 | _=>false
def leW (a b:W):Bool:=!ltW b a
def Qoy (ys:List W):List W:=ys.mergeSort leW
def Qic (ys:List W):Bool:=J5 29 ys&&((ys.all λa=>ys.all λb=>alW a b)&&((ys.all QBd || ys.all noTN)&&Nat.ble ys.length 900))
def Qxx (x:W) (S:Store):Option (List W):=match x with
 | .tup _=>none
 | _=>KJ S x
def Qne:MF:=λxs S=>match xs with
 | [x]=>match Qxx x S with
  | some ys=>if Qic ys then .ok (.lst (Qoy ys)) S else .bad
  | none=>.bad
 | _=>.bad
end Mir
namespace MW
open PySem PySem.Spec PyProof.Rows L2 Mir
theorem Qku:∀ {zs:List WV} {us:List Value},Vals (zs.map (·.2)) us->PySem.W.EachIs (λv (z:WV)=>RelV z.2 v) us zs
 | [],us,r=>by cases r; exact .nil
 | z::zs,us,r=>by
  rw [List.map_cons] at r
  cases r with
  | cons h q=>exact .cons h (Qku q)
theorem Qkc:∀ {zs:List WV} {us:List Value},PySem.W.EachIs (λv (z:WV)=>RelV z.2 v) us zs->Vals (zs.map (·.2)) us
 | _,_,.nil=>.nil
 | _,_,.cons h q=>.cons h (Qkc q)
theorem Qma {T:Tab} {r:Nat->Option Addr} {G:Hp}:∀ {ws:List Mir.W} {vs:List V},RelWs T r G ws vs->(∀ z∈ws.zip vs,RelW T r G z.1 z.2)/\(ws.zip vs).map (·.1)=ws/\(ws.zip vs).map (·.2)=vs
 | _,_,.nil=>⟨(λz hz=>by cases hz),rfl,rfl⟩
 | w::ws,v::vs,.cons h q=>by
  obtain ⟨h1,h2,h3⟩:=Qma q
  refine ⟨λz hz=>?_,?_,?_⟩
  ·rcases List.mem_cons.mp hz with e | e
   ·rw [e]; exact h
   ·exact h1 z e
  ·show w::(ws.zip vs).map (·.1)=_
   rw [h2]
  ·show v::(ws.zip vs).map (·.2)=_
   rw [h3]
theorem Qr0 {T:Tab} {r:Nat->Option Addr} {G:Hp}:∀ {zs:List WV},(∀ z∈zs,RelW T r G z.1 z.2)->RelWs T r G (zs.map (·.1)) (zs.map (·.2))
 | [],_=>.nil
 | z::zs,h=>.cons (h z List.mem_cons_self) (Qr0 λy hy=>h y (List.mem_cons_of_mem _ hy))
def leZ (a b:WV):Bool:=leW a.1 b.1
theorem Qtk (zs:List WV):(zs.mergeSort leZ).map (·.1)=Qoy (zs.map (·.1)):=PySem.W.sort_maps (r:=leZ) (s:=leW) (λz:WV=>z.1) λ_ _ _ _=>rfl
theorem Qsj {n:Nat}:∀ {xs:List Mir.W},J5 n xs=true->∀ x∈xs,Kz n x=true
 | [],_,x,hx=>by cases hx
 | y::r,h,x,hx=>by
  obtain ⟨a,b⟩:=Bool.and_eq_true_iff.mp (show (Kz n y&&J5 n r)=true from h)
  rcases List.mem_cons.mp hx with e | e
  ·rw [e]; exact a
  ·exact Qsj b x e
theorem Qvb {zs:List WV} (h:Qic (zs.map (·.1))=true):SortZ zs/\J5 29 (zs.map (·.1))=true:=by
 obtain ⟨h1,h⟩:=Bool.and_eq_true_iff.mp h
 obtain ⟨h2,h⟩:=Bool.and_eq_true_iff.mp h
 obtain ⟨h3,h4⟩:=Bool.and_eq_true_iff.mp h
 refine ⟨⟨?_,?_,?_⟩,h1⟩
 ·intro d hd d' hd'
  obtain ⟨z,hz,rfl⟩:=List.mem_map.mp hd
  obtain ⟨z',hz',rfl⟩:=List.mem_map.mp hd'
  exact List.all_eq_true.mp (List.all_eq_true.mp h2 z.1 (List.mem_map.mpr ⟨z,hz,rfl⟩)) z'.1 (List.mem_map.mpr ⟨z',hz',rfl⟩)
 ·rcases Bool.or_eq_true_iff.mp h3 with q | q
  ·refine .inl λd hd=>?_
   obtain ⟨z,hz,rfl⟩:=List.mem_map.mp hd
   have:=List.all_eq_true.mp q z.1 (List.mem_map.mpr ⟨z,hz,rfl⟩)
   cases e:z.1 with
   | tup xs=>cases xs with
    | nil=>rw [e] at this; cases this
    | cons x r=>exact ⟨toD x,JN r,rfl⟩
   | _=>rw [e] at this; cases this
  ·refine .inr λd hd=>?_
   obtain ⟨z,hz,rfl⟩:=List.mem_map.mp hd
   have:=List.all_eq_true.mp q z.1 (List.mem_map.mpr ⟨z,hz,rfl⟩)
   cases e:z.1 with
   | bl b=>exact ⟨(λz=>nomatch z),λxs z=>nomatch z⟩
   | int b=>exact ⟨(λz=>nomatch z),λxs z=>nomatch z⟩
   | str b=>exact ⟨(λz=>nomatch z),λxs z=>nomatch z⟩
   | lst b=>exact ⟨(λz=>nomatch z),λxs z=>nomatch z⟩
   | _=>rw [e] at this; cases this
 ·have:=Nat.le_of_ble_eq_true h4
  rw [List.length_map] at this
  exact this
section
variable {X:Cx}
def QAt (K:Frag):List V->Hp->VK->Prop:=λvs H Q=>∃ (a:Addr) (zs:List WV),vs=[.ref a]/\SqL K H a (zs.map (·.2))/\(∀ z∈zs,Dp K H z.2 (toD z.1)/\(toD z.1).depth<=29)/\SortZ zs /\
 ∀ p:Addr,H p=none->Q (.ref p) (upd H p (.lst ((zs.mergeSort leZ).map (·.2))))
theorem Qwk (hu:X.A.units+64<cLine):CallR X (.builtin "sorted") (QAt X.K):=by
 intro pins s σ H vs us Q I r h
 obtain ⟨a,zs,rfl,hs,hd,ok,q⟩:=h
 obtain ⟨its,rv,hl,_⟩:=I.list hs
 rw [Vals.ref1 r]
 have e:=Qku rv
 have er:PySem.W.EachIs (λ(v:Value) (z:WV)=>∃ as,Reads s.heap v (toD z.1) as) its zs:=(PySem.W.each_mem e).mono λv z ⟨h1,h2⟩=>Dp.reads I _ _ _ (hd z h2).1 h1
 refine PySem.W.sorted_data (enc:=λz:WV=>toD z.1) (R:=λv (z:WV)=>RelV z.2 v) hl.isList e er ok.al ok.so (by rw [sizeLine_eq]; have:=ok.ln; omega) (λb hb=>by have:=(hd b hb).2; omega) λout ho eo=>?_
 obtain ⟨ep,he'⟩:=PyProof.Rows.sortedAll_at s.heap its (List.toArray out)
 have hv:Vals ((zs.mergeSort leZ).map (·.2)) out:=Qkc eo
 have hlen:((zs.mergeSort leZ).map (·.2)).length<=sizeLine:=by
  rw [List.length_map,List.length_mergeSort,sizeLine_eq]
  have:=ok.ln
  omega
 exact ⟨.ref _,upd H (s.heap.objs.size+1) (.lst ((zs.mergeSort leZ).map (·.2))),I.laid (t':=s.toks) (λ_ _=>PyProof.Rows.sortedAll_old) (Nat.le_succ _) ⟨hlen,out,ep,hv,he'⟩,rfl,q _ (I.hok.fresh (Nat.le_succ _))⟩
end
section
variable {X:Cx} {nm:Nm} {E:XK}
theorem zs_dp {T:Tab} {w:Wd} (o:Ok T w) {zs:List WV} (hd:J5 29 (zs.map (·.1))=true) (hr:∀ z∈zs,w.rel T z.1 z.2):∀ z∈zs,Dp T.K w.H z.2 (toD z.1)/\(toD z.1).depth<=29:=λz hz=>by
 obtain ⟨h1,_,h3⟩:=Qzh o 29 z.1 z.2 (Qsj hd z.1 (List.mem_map.mpr ⟨z,hz,rfl⟩)) (hr z hz)
 exact ⟨h1,h3⟩
theorem Qo5 {T:Tab} {r:Nat->Option Addr} {G:Hp} {ws:List Mir.W} {vs:List V} (h:RelWs T r G ws vs):RelWs T r G (Qoy ws) (((ws.zip vs).mergeSort leZ).map (·.2)):=by
 obtain ⟨h1,h2,h3⟩:=Qma h
 have e:=Qtk (ws.zip vs)
 rw [h2] at e
 rw [<- e]
 exact Qr0 λz hz=>h1 z (List.mem_mergeSort.mp hz)
theorem cw_sortD (hu:X.A.units+64<cLine):CallR X (.builtin "sorted") (lC (tb X nm) Qne E):=by
 rintro pins s σ H xs us Q I r ⟨w,a,rfl,o,rv,h⟩
 cases a with
 | nil=>exact h.elim
 | cons y t=>cases t with
  | cons _ _=>exact h.elim
  | nil =>
   obtain ⟨v,rfl,ry⟩:=Qgv rv
   have h':Jl (tb X nm) w (match Qxx y w.S with | some ys=>if Qic ys then .ok (.lst (Qoy ys)) w.S else .bad | none=>.bad) (QW (tb X nm) Q) E:=h
   cases g:Qxx y w.S with
   | none=>rw [g] at h'; exact h'.elim
   | some ys =>
    rw [g] at h'
    have h2:Jl (tb X nm) w (if Qic ys then .ok (.lst (Qoy ys)) w.S else .bad) (QW (tb X nm) Q) E:=h'
    cases g2:Qic ys with
    | false=>rw [g2] at h2; exact h2.elim
    | true =>
     rw [g2] at h2
     have ht:∀ zs,y≠.tup zs:=λzs e=>by rw [e] at g; cases g
     have g3:KJ w.S y=some ys:=by
      cases y with
      | tup zs=>exact absurd rfl (ht zs)
      | _=>exact g
     obtain ⟨p,vs,rfl,sq,q⟩:=o.seqL g3 ry ht
     obtain ⟨z1,z2,z3⟩:=Qma q
     have g4:Qic ((ys.zip vs).map (·.1))=true:=by rw [z2]; exact g2
     obtain ⟨k1,k2⟩:=Qvb g4
     exact Qwk hu pins s σ _ _ us Q I r ⟨p,ys.zip vs,rfl,by rw [z3]; exact sq,zs_dp o k2 z1,k1,λl hl=>h2 (w.layF l _) (o.layF hl) (Ext.layF o hl) rfl (.ref l) (.lst (by show upd w.G l _ l=_; exact upd_same) ((Qo5 q).mono (Ext.layF o hl).le (Ext.layF o hl).ex))⟩
end
section
variable {X:Cx} {nm:Nm} {E:XK} {pins:List (Addr×Obj)} {σ:L2.St} {s:Shared}
end
end MW
namespace Mir
def Qgx (c:Nat) (f:MF):W->W->Store->Out W:=λx y S=>match Qdh S x with
 | some k=>if Nat.beq c k then f [x,y] S else .bad
 | none=>Jk x y S
end Mir
namespace MW
open PySem PySem.Spec PyProof.Rows L2 Mir
section
variable (P:Program) (w:World) (K:Frag) (mg:Str->Option Value) (base:Heap) (nm:Nm)
abbrev GiG:=GiX P w K mg base nm CX0
end
section
variable {P:Program} {w:World} {K:Frag} {mg:Str->Option Value} {base:Heap} {nm:Nm} {k c:Nat} {m:MF} {CX:CXT}
theorem GiX.Jj (G:GiX P w K mg base nm CX k c m):GiX P w K mg base nm CX k c (Mir.Jj m):=by
 obtain ⟨C,f,fd,ps,h1,h2,h3,h4,h5,h6⟩:=G.ex
 exact ⟨C,f,fd,ps,h1,h2,h3,h4,h5,h6.imp λ_ _ _ _ h=>Qrv h⟩
variable {h:Heap} {D:Head} {fd:FuncData} {ps:List Str}
theorem gi_of (nd:D.an.Nodup) (X:K.In h) (G:h.Ns mainGlobals mg) (c:Qfi D K) {x y:Str} {i:Nat} (e:D.cn[i]?=some x:=by rfl) (j:Nat) (hj:D.fm[j]?=some (.gi x y):=by rfl)
  (b:Binds K fd ps []) (ho:FnOk P w K mg base CX k (He.fAd K (y,some "__getitem__")) fd ps (Kc ⟨K,mg,⟨D.cn,D.an,nd,w⟩⟩ m)):GiX P w K mg base ⟨D.cn,D.an,nd,w⟩ CX k i m:=by
 obtain ⟨q1,q2⟩:=He.ba (c.fact j hj)
 obtain ⟨q2,q3⟩:=He.ba q2
 exact ⟨_,_,fd,ps,(Qek X G c.sf e).2,of_decide_eq_true q1,q2,q3,b,ho⟩
end
section
variable {X:Cx} {nm:Nm} {E:XK} {k c:Nat} {m:MF} {CX:CXT} {a b:Expr} {ma mb:ME} {pos:Pos}
theorem Qxq (hx:Passes CX X E) (G:GiX X.prog X.w X.K X.mg X.base nm CX k c m) (hr:Room (k+1) X.A) (ha:WE X nm E a ma) (hb:WE X nm E b mb) (hs:PlainIx b)
  (hs2:∀ o i,subscripted b true o i=runValue (.builtin "lifetime.subscript" ⟨[o,i],[]⟩)):WE X nm E (.Subscript a b pos) (Jc (Qgx c m) ma mb):=by
 refine ⟨λpins s σ H Q I h=>?_⟩
 have hB:tOp (Y7 (tb X nm) (Qgx c m) E) (lE (tb X nm) ma E) (lE (tb X nm) mb E) σ H Q:=Qp1 h
 refine Subscript_ (binT ha hb I (R:=λx y H2=>Y7 (tb X nm) (Qgx c m) E x y H2 Q) hB λv u s2 x y H2 I2 rx ry q=>?_)
 obtain ⟨w,xa,xb,rfl,o,ra,rb,h1⟩:=q
 have h':Jl (tb X nm) w (Qgx c m xa xb w.S) (QW (tb X nm) Q) E:=h1
 unfold Qgx at h'
 cases g:Qdh w.S xa with
 | none =>
  rw [g] at h'
  exact ixw a b pins s2 σ _ x y v u Q I2 rx ry ⟨w,xa,xb,rfl,o,ra,rb,h'⟩ (hs _ _)
 | some c' =>
  rw [g] at h'
  have h2:Jl (tb X nm) w (if Nat.beq c c'=true then m [xa,xb] w.S else .bad) (QW (tb X nm) Q) E:=h'
  cases g2:Nat.beq c c' with
  | false=>rw [g2] at h2; exact h2.elim
  | true =>
   rw [g2] at h2
   have ec:=Nat.eq_of_beq_eq_true g2
   subst ec
   obtain ⟨C,f,fd,ps,k1,k2,k3,k4,k5,k6⟩:=G.ex
   obtain ⟨a',C',dx,ws,fs,rfl,hH,hC',_,_⟩:=o.ins g ra
   obtain rfl:C'=C:=Option.some.inj (hC'.symm.trans k1)
   obtain rfl:v=Value.ref a':=rx
   obtain ⟨mA,O,_,_,_,_⟩:=ins_get I2.hok hH
   obtain ⟨oD,J,hl⟩:=O.look
   obtain ⟨mF,hF⟩:=I2.fr
   refine PySem.W.sub_K hF I2.ok.mod.kin J k2 k4 k3 ?_ (hs2 _ _)
   have e0:Env0 X.prog X.w X.K X.mg X.base X.A.in1 X.stack s2 w.H:=I2.env0.in1
   have sp:Kc (tb X nm) m [.ref a',y] w.H Q E:=⟨w,[xa,xb],rfl,o,.cons ra (.cons rb .nil),h2⟩
   have bt:=k5 s2 [.ref a',u] I2.kIn (by rw [List.append_nil]; exact k6.len [.ref a',y] _ _ _ sp)
   rw [List.append_nil] at bt
   refine wpAny_call (codeAny_mono (k6.run X.A.in1 X.stack s2 w.H ⟨[.ref a',u],[]⟩ [.ref a',u] [.ref a',y] _ E hr.in1 e0 bt (.cons rfl (.cons ry .nil)) sp) λr s' hq=>?_)
   cases r with
   | error e=>exact hx pins σ _ s2 e s' I2 hq
   | ok fl =>
    cases fl with
    | ret u=>exact I2.after hq
    | next=>exact hq.elim
    | brk=>exact hq.elim
    | cont=>exact hq.elim
theorem Qxk (G:GiG X.prog X.w X.K X.mg X.base nm k c m) (hr:Room (k+1) X.A) (ha:WE X nm E a ma) (hb:WE X nm E b mb) (hs:PlainIx b:=by intro _ _; rfl)
  (hs2:∀ o i,subscripted b true o i=runValue (.builtin "lifetime.subscript" ⟨[o,i],[]⟩):=by intro _ _; rfl):WE X nm E (.Subscript a b pos) (Jc (Qgx c m) ma mb):=Qxq (Qqr (E:=E)) G hr ha hb hs hs2
end
section
variable {X:Cx} {nm:Nm} {E:XK} {pos:Pos}
end
end MW
namespace MW
open PySem PySem.W PySem.Spec PyProof.Rows L2 Mir
end MW
namespace MW
open PySem PySem.Spec PyProof.Rows L2 Mir
end MW
namespace MW
open PySem PySem.Spec PyProof.Rows L2 Mir HandSHeadRun
def Qib (K:Frag) (G:Hp):Hp:=λb=>match YH K with
 | some (_,T)=>if b=T then some (.tbl #[]) else G b
 | none=>G b
theorem Qia (K:Frag) (G:Hp) (b:Addr):Qib K G b=G b\/((∃ c,YH K=some (c,b))/\Qib K G b=some (.tbl #[])):=by
 unfold Qib
 cases e:YH K with
 | none=>exact .inl rfl
 | some q =>
  obtain ⟨c,T⟩:=q
  by_cases hb:b=T
  ·exact .inr ⟨⟨c,by rw [hb]⟩,if_pos hb⟩
  ·exact .inl (if_neg hb)
theorem Qov {K:Frag} {G:Hp} {c T:Addr} (e:YH K=some (c,T)):Qib K G T=some (.tbl #[]):=by
 unfold Qib
 rw [e]
 exact if_pos rfl
theorem Qte {K:Frag} {G:Hp} {b:Addr} (h:∀ c T,YH K=some (c,T)->b≠T):Qib K G b=G b:=by
 unfold Qib
 cases e:YH K with
 | none=>rfl
 | some q=>obtain ⟨c,T⟩:=q; exact if_neg (h c T e)
theorem Qsy {P:Program} {w:World} {K:Frag} {mg mb:Str->Option Value} {k:Nat} {fa a:Addr} {fd:FuncData} {x:Str} {sp:Sp} {s₁:Shared} {vs:List Value} {ns:List Int}
  (KX:K.In s₁.heap) (hns:s₁.heap.Ns mainGlobals mg) (hb:s₁.heap.Ns builtinsNs mb) (hbb:∀ x:Str,x≠ "__name__" -> mb x=bootBuiltins x) (hlim:s₁.heap.NoLimit) (hg:s₁.gens=#[])
  (hT:∀ c T,YH K=some (c,T)->TabAt s₁.heap K c T)
  (hbm:∃ (bm:Addr) (ob:Obj),mg "__builtins__" = some (.ref bm)/\bm≠builtinsNs/\s₁.heap.get? bm=some ob/\ob.cls=.type "module" /\ ob.dict=some builtinsNs/\ob.data=.plain)
  (ha:s₁.heap.get? a=some { cls:=.type "list",data:=.seq vs.toArray }) (hi:IntsAre vs ns) (hl:ns.length<=sizeLine) (hr:Room k callerA)
  (F:∀ base:Heap,K.In base->base.Ns mainGlobals mg->(∀ c T,YH K=some (c,T)->LamX.TabB base mg c T)->FnK P w K mg base k fa fd [x] sp) (hbind:∀ (s:Shared) (u:Value),BindsTo s fd ⟨[u],[]⟩ [(x,u)])
  (hsp:∀ H:Hp,(∀ c T,YH K=some (c,T)->H T=some (.tbl #[]))->SqL K H a (ns.map V.int)->sp [.ref a] H (λv _=>v=.bl true) λ_ _ _=>False) :
  codeAny (model P w) callerA (.call (.ref fa) ⟨[.ref a],[]⟩) (λr s'=>r=.ok (.ret (.bool true))/\OldK s₁.heap s'.heap/\s'.os=s₁.os/\AllBare s'.gens) s₁:=by
 have rv:=vals_ints hi
 have aT:∀ c T,YH K=some (c,T)->a≠T:=λc T e z=>by
  have q:=(hT c T e).mt
  rw [<- z,ha] at q
  have z':Data.seq vs.toArray _=Data.fields #[]:=congrArg Obj.data (Option.some.inj q)
  cases z'
 have main:∀ H:Hp,(∀ c T,YH K=some (c,T)->H T=some (.tbl #[]))->SqL K H a (ns.map V.int)->HOk P w H s₁.heap ->
   (∀ b,H b=none\/(∃ c,YH K=some (c,b))\/(b=a/\K.lookup a=none/\∃ o xs,H b=some (.frz o (.lst xs)))) ->
   codeAny (model P w) callerA (.call (.ref fa) ⟨[.ref a],[]⟩) (λr s'=>r=.ok (.ret (.bool true))/\OldK s₁.heap s'.heap/\s'.os=s₁.os/\AllBare s'.gens) s₁:=λH hH hS hok hA=>by
  have free:∀ {b:Addr} {o:Obj},s₁.heap.get? b=some o->(∀ us n,o.data≠.seq us n)->o.data≠.fields #[]->H b=none:=λ{b o} e h1 h2=>by
   rcases hA b with z | ⟨c,z⟩ | ⟨rfl,_⟩
   ·exact z
   ·rw [(hT c b z).mt] at e
    cases e
    exact absurd rfl h2
   ·rw [ha] at e
    cases e
    exact absurd rfl (h1 _ _)
  have nsK:∀ {b:Addr} {m:Str->Option Value},s₁.heap.Ns b m->(hidT s₁.heap H).Ns b m:=λ{b m} ⟨o,es,ep,e,d,r⟩ =>
   ⟨o,es,ep,hidT_get e (free e (λus n z=>by rw [d] at z; cases z) λz=>by rw [d] at z; cases z),d,r⟩
  have hKb:K.In (hidT s₁.heap H):=λb o e=>hidT_get (KX b o e) (by
   rcases hA b with z | ⟨c,z⟩ | ⟨rfl,z,_⟩
   ·exact z
   ·rw [(hT c b z).no] at e; cases e
   ·rw [z] at e; cases e)
  have hM:Mod K mg (hidT s₁.heap H):=⟨hKb,nsK hns,⟨mb,nsK hb,hbb⟩,hlim.elim λmc z=>⟨mc,nsK z.1,z.2⟩⟩
  have TB:∀ c T,YH K=some (c,T)->LamX.TabB (hidT s₁.heap H) mg c T:=λc T e=>by
   have t:=hT c T e
   refine ⟨?_,?_,λz=>?_⟩
   ·obtain ⟨o,us,file,tf,flags,tg,inF,text,tt,q1,q2,q3,q4,q5⟩:=t.cd
    refine ⟨o,us,file,tf,flags,tg,inF,text,tt,hidT_get q1 (free q1 (λus n z=>by rw [q3] at z; cases z) λz=>?_),q2,q3,q4,q5⟩
    rw [q3] at z
    cases z
    simp at q4
   ·obtain ⟨bm,ob,b1,b2,b3,b4,b5,b6⟩:=hbm
    refine ⟨bm,ob,b1,b2,λq=>?_,λq=>?_,hidT_get b3 (free b3 (λus n z=>by rw [b6] at z; cases z) λz=>by rw [b6] at z; cases z),b4,b5,b6⟩
    ·obtain ⟨o,es,ep,y,hd,_⟩:=hns
     rw [q,y] at b3
     cases b3
     rw [hd] at b6
     cases b6
    ·rw [q,t.mt] at b3
     cases b3
     cases b6
   ·obtain ⟨o,es,ep,y,hd,_⟩:=hns
    rw [z,t.mt] at y
    cases y
    cases hd
  have e0:Env0 P w K mg (hidT s₁.heap H) callerA [] s₁ H:=⟨rfl,hM,λb o e=>of_hidT e,Nat.le_of_eq (hidT_size _ _),trivial,λb hb=>absurd (show b∈([]:List Addr) from hb) (by simp),hok,.of_eq hg⟩
  refine codeAny_mono ((F _ hKb (nsK hns) TB).run callerA [] s₁ H ⟨[.ref a],[]⟩ [.ref a] [.ref a] _ _ rfl hr e0 (hbind s₁ (.ref a)) (.cons rfl .nil) (hsp H hH hS)) λr s' h=>?_
  cases r with
  | error e=>exact h.elim
  | ok fl =>
   cases fl with
   | next=>exact h.elim
   | brk=>exact h.elim
   | cont=>exact h.elim
   | ret u =>
    obtain ⟨v,H',os,bare,un,hok',r',q⟩:=h
    obtain rfl:v=.bl true:=q
    obtain rfl:u=Value.bool true:=r'
    have old:∀ b o,(∀ c,YH K≠some (c,b))->s₁.heap.get? b=some o->s'.heap.get? b=some o:=λb o nb e=>by
     rcases hA b with z | ⟨c,z⟩ | ⟨_,_,ob,xs,z⟩
     ·exact un.keep b o e z (λy=>absurd (show b∈([]:List Addr) from y) (by simp)) (by simp)
     ·exact absurd z (nb c)
     ·have z2:=un.frzs b ob _ z
      rw [(hok b _ z).1] at e
      cases e
      exact (hok' b _ z2).1
    have grown:∀ c T,YH K=some (c,T)->∃ more:Array Value,s'.heap.get? T=some { cls:=.none,data:=.fields (#[]++more)}:=λc T e=>by
     obtain ⟨more,z⟩:=un.tbls T #[] (hH c T e)
     exact ⟨more,hok' T _ z⟩
    refine ⟨rfl,⟨λb o e=>?_,λb o e=>?_⟩,os,bare⟩
    ·by_cases hb:∃ c,YH K=some (c,b)
     ·obtain ⟨c,hc⟩:=hb
      obtain ⟨more,hm⟩:=grown c b hc
      have t:=hT c b hc
      have eo:o={ cls:=.none,data:=.fields #[]}:=Option.some.inj (e.symm.trans t.mt)
      rw [eo]
      exact .inr (.inl ⟨(t.cd.tab t.mt).isCodeTable,rfl,#[],more,rfl,hm⟩)
     ·exact .inl (old b o (λc z=>hb ⟨c,z⟩) e)
    ·by_cases hb:∃ c,YH K=some (c,b)
     ·obtain ⟨c,hc⟩:=hb
      obtain ⟨more,hm⟩:=grown c b hc
      exact ⟨_,hm⟩
     ·exact ⟨o,old b o (λc z=>hb ⟨c,z⟩) e⟩
 cases hk:K.lookup a with
 | some o =>
  have e:=KX a o hk
  rw [ha] at e
  cases e
  refine main (Qib K λ_=>none) (λc T=>Qov) (.inr ⟨_,vs.toArray,_,hk,rfl,rfl,rfl,by rw [List.size_toArray,hi.length]; exact hl,by simpa using rv⟩) (λb u z=>?_) λb=>?_
  ·rcases Qia K (λ_=>none) b with y | ⟨⟨c,y1⟩,y2⟩
   ·exact absurd (y.symm.trans z) (by simp)
   ·have e2:=Option.some.inj (y2.symm.trans z)
    rw [<- e2]
    exact (hT c b y1).mt
  ·rcases Qia K (λ_=>none) b with y | ⟨y1,y2⟩
   ·exact .inl y
   ·exact .inr (.inl y1)
 | none =>
  let G:Hp:=λb=>if b=a then some (.frz { cls:=.type "list",data:=.seq vs.toArray } (.lst (ns.map V.int))) else none
  have Ga:G a=some (.frz { cls:=.type "list",data:=.seq vs.toArray } (.lst (ns.map V.int))):=if_pos rfl
  have at_:∀ b,G b=none\/b=a:=λb=>by
   by_cases h:b=a
   ·exact .inr h
   ·exact .inl (if_neg h)
  refine main (Qib K G) (λc T=>Qov) (.inl (.inr ⟨{ cls:=.type "list",data:=.seq vs.toArray },(Qte (G:=G) λc T e=>aT c T e).trans Ga⟩)) (λb u z=>?_) λb=>?_
  ·rcases Qia K G b with y | ⟨⟨c,y1⟩,y2⟩
   ·rcases at_ b with x | rfl
    ·exact absurd ((y.trans x).symm.trans z) (by simp)
    ·have z':=Option.some.inj ((y.trans Ga).symm.trans z)
     rw [<- z']
     exact ⟨ha,by rw [List.length_map]; exact hl,vs,_,rv,ha⟩
   ·have e2:=Option.some.inj (y2.symm.trans z)
    rw [<- e2]
    exact (hT c b y1).mt
  ·rcases Qia K G b with y | ⟨y1,y2⟩
   ·rcases at_ b with x | x
    ·exact .inl (y.trans x)
    ·exact .inr (.inr ⟨x,hk,_,_,y.trans (by rw [x]; exact Ga)⟩)
   ·exact .inr (.inl y1)
theorem Qs7 {l:PySem.W.OpenLaw} {n k:Nat} {q:Program} {loose:List Str} {XP:(Str->Option Value)->Heap->Prop} {YP:World->Heap->Prop} {d:DefRec} {x:Str}
  (hn:l.most=some n) (hn2:n<=sizeLine) (hdf:d.params.defaults=[]) (hr:Room k callerA)
  (F:∀ (w:World) (mg:Str->Option Value) (fa:Addr) (h:Heap),YP w h->h.Ns mainGlobals mg->mg d.name=some (.ref fa) ->
    ∃ (K:Frag) (fd:FuncData) (sp:Sp),K.In h/\(∀ c T,YH K=some (c,T)->TabAt h K c T)/\(∀ (s:Shared) (u:Value),BindsTo s fd ⟨[u],[]⟩ [(x,u)]) /\
     (∀ (H:Hp) (a:Addr) (ns:List Int),ns.length<=n->(∀ c T,YH K=some (c,T)->H T=some (.tbl #[]))->SqL K H a (ns.map V.int)->sp [.ref a] H (λv _=>v=.bl true) λ_ _ _=>False) /\
     ∀ base:Heap,K.In base->base.Ns mainGlobals mg->(∀ c T,YH K=some (c,T)->LamX.TabB base mg c T)->FnK l.prog w K mg base k fa fd [x] sp) :
  PySem.W.WalkO q loose XP YP l.row.toRowW d [] (λf vs=>PySem.call f vs) :=
 Att.attach_call hn hdf λw s₀ s₁ mg mb fa o pm cd doc a vs ns G Y ho hd hcd hmg hobj hints hlen hg=>by
  obtain ⟨K,fd,sp,KX,hT,hb,hsp,hF⟩:=F w mg fa _ Y G.T.g hmg
  exact Qsy KX G.T.g G.T.b G.T.builtins G.T.nolimit hg hT G.T.bmain hobj hints (Nat.le_trans hlen hn2) hr hF hb λH hH hS=>hsp H a ns hlen hH hS
theorem Qys {need:Bool} {L:List Addr} {D:Head} {ts:List TbM} {g:Addr->Option Obj} {s:Shared} (h:∀ a,g a=s.heap.get? a):(frC g L [] λK=>((Yz D K,kT ts K),Y9 need K g))=(Qy7 need L D ts).obs s:=by
 have e:g=s.heap.get?:=funext h
 rw [e] <;> rfl
end MW
namespace MW
open PySem PySem.Spec PyProof.Rows L2 Mir
end MW
namespace ML
open Mir
def Tr {α:Type} (r:Out α) (Q:α->Store->Prop):Prop:=match r with
 | .ok a S=>Q a S
 | _=>False
section
variable {α β:Type} {r:Out α} {Q Q':α->Store->Prop} {a:α} {S:Store}
theorem Tr.bind {k:α->Store->Out β} {R:β->Store->Prop} (h:Tr r λa S=>Tr (k a S) R):Tr (r.bind k) R:=by
 cases r with
 | ok a S=>exact h
 | err c fs S=>exact h
 | bad=>exact h
theorem Tr.imp (h:Tr r Q) (k:∀ a S,Q a S->Q' a S):Tr r Q':=by
 cases r with
 | ok a S=>exact k a S h
 | err c fs S=>exact h
 | bad=>exact h
theorem Tr.out (h:Tr r Q):∃ a S,r=.ok a S/\Q a S:=by
 cases r with
 | ok a S=>exact ⟨a,S,rfl,h⟩
 | err c fs S=>exact h.elim
 | bad=>exact h.elim
end
theorem Qhh:∀ {l:List (Nat×SO)} {n:Nat} {o u:SO},look l n=some o->look (YQ l n u) n=some u
 | [],n,o,u,h=>by cases h
 | (m,x)::r,n,o,u,h=>by
   unfold YQ
   unfold look at h
   cases e:Nat.beq m n with
   | true=>simp [look,e]
   | false =>
    rw [e] at h
    simp only [Bool.false_eq_true,if_false,look,e]
    exact Qhh (l:=r) (by simpa using h)
theorem Qkp:∀ {l:List (Nat×SO)} {n m:Nat} {u:SO},m≠n->look (YQ l n u) m=look l m
 | [],n,m,u,h=>rfl
 | (j,x)::r,n,m,u,h=>by
   unfold YQ
   cases e:Nat.beq j n with
   | true =>
    have ej:j=n:=Nat.eq_of_beq_eq_true e
    have e2:Nat.beq j m=false:=by
     cases q:Nat.beq j m with
     | false=>rfl
     | true=>exact absurd ((Nat.eq_of_beq_eq_true q).symm.trans ej) h
    simp [look,e2]
   | false =>
    simp only [Bool.false_eq_true,if_false,look]
    cases Nat.beq j m with
    | true=>rfl
    | false=>simpa using Qkp (l:=r) h
theorem Qfw {S:Store} {n:Nat} {o u:SO} (h:S.get n=some o):(S.put n u).get n=some u:=Qhh h
theorem Qat {S:Store} {n m:Nat} {u:SO} (h:m≠n):(S.put n u).get m=S.get m:=Qkp h
theorem Qej {S:Store} {o:SO}:(S.new o).get S.next=some o:=by
 show look ((S.next,o)::S.objs) S.next=some o
 simp [look]
theorem Y5 {S:Store} {o:SO} {m:Nat} (h:m≠S.next):(S.new o).get m=S.get m:=by
 show look ((S.next,o)::S.objs) m=look S.objs m
 have:Nat.beq S.next m=false:=by
  cases q:Nat.beq S.next m with
  | false=>rfl
  | true=>exact absurd (Nat.eq_of_beq_eq_true q).symm h
 simp [look,this]
@[simp] theorem next_put {S:Store} {n:Nat} {u:SO}:(S.put n u).next=S.next:=rfl
@[simp] theorem next_new {S:Store} {o:SO}:(S.new o).next=S.next+1:=rfl
def Wf (S:Store):Prop:=∀ m o,S.get m=some o->m<S.next
theorem Qlc {S:Store} {n:Nat} {o u:SO} (h:S.get n=some o) (w:Wf S):Wf (S.put n u):=λm x e=>by
 by_cases q:m=n
 ·rw [q]; exact w n o h
 ·rw [Qat q] at e; exact w m x e
theorem Qld {S:Store} {o:SO} (w:Wf S):Wf (S.new o):=λm x e=>by
 by_cases q:m=S.next
 ·rw [q]; exact Nat.lt_succ_self _
 ·rw [Y5 q] at e; exact Nat.lt_succ_of_lt (w m x e)
structure Keep (n k:Nat) (S S':Store):Prop where
 nx:S.next<=S'.next
 kp:∀ m,m<S.next->m≠n->m≠k->S'.get m=S.get m
structure Deal (n k:Nat) (S:Store):Prop where
 ne:n≠k
 wf:Wf S
 ex:∃ (xs:List Int) (c:Int),S.get n=some (.lst [.ref k,.int c])/\S.get k=some (.lst (xs.map W.int))/\(∀ x∈xs,0<=x)/\xs.length<=100/\0<=c
theorem Qpy:∀ (m:Nat) (xs:List Int),J5 m (xs.map W.int)=true
 | _,[]=>by simp [J5]
 | m,x::r=>by simp [J5,Kz,Qpy m r]
theorem Qwg (m:Nat) (xs:List Int):Kz (m+1) (.lst (xs.map W.int))=true:=by simp [Kz,Qpy]
def Qzg (a b dv:Int):MF:=fnOf 2 3 (Jh (Qc3 (Mir.tAnd (Mir.tB (Jc Ku (Jc Jk (Ja 0) (eC (.int 0))) (Ju Jb))) (Mir.tB (Jc Km (Jc Jk (Jc Jk (Ja 0) (eC (.int 0))) (JS Qil (eC (.int 1)))) (eC (.int 0))))) (JX (JT (m0 mPop) (Jc Jk (Ja 0) (eC (.int 0))) Jb)) 1000) (Jh (Yl (Mir.tB (Jc Ku (Jc Jk (Ja 0) (eC (.int 0))) (Ju Jb))) (Jh (Jx (.nm 2) (JT (m0 mPop) (Jc Jk (Ja 0) (eC (.int 0))) Jb)) (Jh (JX (JT (m1 Qbs) (Jc Jk (Ja 0) (eC (.int 0))) (Jd (Jc Qme (Ja 2) (Ja 1)) Jb))) (Jv (Jc Qe0 (Jg KZ (Jd (Ja 2) Jb)) (Ja 1))))) YK) (Jh (sIdx (Ja 0) (eC (.int 1)) (Jc Qe0 (Jg KZ (Jd (Jc JL (Jc Qgw (Jc Jk (Ja 0) (eC (.int 1))) (eC (.int a))) (eC (.int b))) Jb)) (eC (.int 2147483647)))) (Jv (Jc Qe0 (Jg KZ (Jd (Jc Qme (Jc Jk (Ja 0) (eC (.int 1))) (eC (.int dv))) Jb)) (Ja 1))))))
section
variable {S:Store} {n k:Nat} {c:Int} {d:Jo} {xs:List Int}
theorem idx0 (hd:Jm d 0=some (.ref n)) (hn:S.get n=some (.lst [.ref k,.int c])):Jc Jk (Ja 0) (eC (.int 0)) d S=.ok (.ref k) S:=by
 simp [Jc,Ja,hd,Out.bind,eC,Jk,KJ,hn,atI,ixN,Kw]
theorem idx1 (hd:Jm d 0=some (.ref n)) (hn:S.get n=some (.lst [.ref k,.int c])):Jc Jk (Ja 0) (eC (.int 1)) d S=.ok (.int c) S:=by
 simp [Jc,Ja,hd,Out.bind,eC,Jk,KJ,hn,atI,ixN,Kw]
theorem Qw0 (hd:Jm d 0=some (.ref n)) (hn:S.get n=some (.lst [.ref k,.int c])) (hk:S.get k=some (.lst (xs.map W.int))) :
  Jc Ku (Jc Jk (Ja 0) (eC (.int 0))) (Ju Jb) d S=.ok (.bl (!xs.isEmpty)) S:=by
 have e:=idx0 hd hn
 unfold Jc at e ⊢
 rw [e]
 cases xs with
 | nil=>simp [Out.bind,Ju,Jb,Ku,rd,hk,eqD,Kz,J5,Yx,eqWs,bW]
 | cons x r =>
  have:=Qwg 29 (x::r)
  simp only [List.map_cons] at this hk
  simp [Out.bind,Ju,Jb,Ku,rd,hk,eqD,this,Yx,eqWs,bW,Kz,J5]
theorem Qzr (hd:Jm d 0=some (.ref n)) (hn:S.get n=some (.lst [.ref k,.int c])) {y:Int} (hk:S.get k=some (.lst ((xs++[y]).map W.int))) :
  Jc Km (Jc Jk (Jc Jk (Ja 0) (eC (.int 0))) (JS Qil (eC (.int 1)))) (eC (.int 0)) d S=.ok (.bl (decide (y=0))) S:=by
 have e:=idx0 hd hn
 have e2:Jc Jk (Jc Jk (Ja 0) (eC (.int 0))) (JS Qil (eC (.int 1))) d S=.ok (.int y) S:=by
  show ((Jc Jk (Ja 0) (eC (.int 0)) d S).bind λx S1=>((JS Qil (eC (.int 1))) d S1).bind λy S2=>Jk x y S2)=_
  rw [e]
  have hl:ixN ((xs++[y]).map W.int).length (-1)=some xs.length:=by
   unfold ixN
   rw [if_neg (by decide),if_pos (by simp; omega)]
   simp
   omega
  simp only [Out.bind,JS,eC,Qil,Jk,KJ,hk,atI,hl]
  simp [Kw]
 show ((Jc Jk (Jc Jk (Ja 0) (eC (.int 0))) (JS Qil (eC (.int 1))) d S).bind λx S1=>((eC (.int 0)) d S1).bind λy S2=>Km x y S2)=_
 rw [e2]
 simp [Out.bind,eC,Km,rd,eqD,Kz,Yx,bW]
theorem Qwu {d:Jo} (hd:Jm d 0=some (.ref n)) (hn:S.get n=some (.lst [.ref k,.int c])) {y:Int} (hk:S.get k=some (.lst ((xs++[y]).map W.int))) :
  JT (m0 mPop) (Jc Jk (Ja 0) (eC (.int 0))) Jb d S=.ok (.int y) (S.put k (.lst (xs.map W.int))):=by
 unfold JT
 rw [idx0 hd hn]
 simp [Out.bind,Mir.isL,hk,Jb,m0,mPop]
theorem Qrl (hd:Jm d 0=some (.ref n)) (hne:n≠k):∀ (fuel:Nat) (xs:List Int) (S:Store),xs.length<fuel->Wf S->S.get n=some (.lst [.ref k,.int c])->S.get k=some (.lst (xs.map W.int)) ->
  Tr (Qc3 (Mir.tAnd (Mir.tB (Jc Ku (Jc Jk (Ja 0) (eC (.int 0))) (Ju Jb))) (Mir.tB (Jc Km (Jc Jk (Jc Jk (Ja 0) (eC (.int 0))) (JS Qil (eC (.int 1)))) (eC (.int 0))))) (JX (JT (m0 mPop) (Jc Jk (Ja 0) (eC (.int 0))) Jb)) fuel d S)
   λf S'=>f=.nx d/\∃ ys:List Int,ys.length<=xs.length/\(∀ y∈ys,y∈xs)/\S'.next=S.next/\Wf S'/\S'.get n=some (.lst [.ref k,.int c])/\S'.get k=some (.lst (ys.map W.int))/\∀ m,m≠k->S'.get m=S.get m
 | 0,xs,S,h,_,_,_=>absurd h (Nat.not_lt_zero _)
 | fuel+1,xs,S,h,w,hn,hk=>by
  unfold Qc3
  refine Tr.bind ?_
  unfold Mir.tAnd
  refine Tr.bind ?_
  unfold Mir.tB
  refine Tr.bind ?_
  rw [Qw0 hd hn hk]
  rcases List.eq_nil_or_concat xs with rfl | ⟨ys,y,rfl⟩
  ·exact ⟨rfl,[],Nat.le_refl _,λy hy=>hy,rfl,w,hn,hk,λ_ _=>rfl⟩
  ·simp only [List.concat_eq_append] at hk h ⊢
   have e1:(!(ys++[y]).isEmpty)=true:=by simp
   rw [e1]
   show Tr (Out.bind _ _) _
   refine Tr.bind ?_
   rw [Qzr hd hn hk]
   by_cases hy:y=0
   ·rw [decide_eq_true hy]
    show Tr (Out.bind _ _) _
    refine Tr.bind ?_
    unfold JX
    refine Tr.bind ?_
    rw [Qwu hd hn hk]
    show Tr (Qc3 _ _ fuel d _) _
    have hl:ys.length<fuel:=by simp at h; omega
    refine (Qrl hd hne fuel ys (S.put k (.lst (ys.map W.int))) hl (Qlc hk w) ((Qat hne).trans hn) (Qfw hk)).imp ?_
    rintro f S' ⟨rfl,zs,h1,h2,h3,h4,h5,h6,h7⟩
    exact ⟨rfl,zs,by simp; omega,λz hz=>List.mem_append_left _ (h2 z hz),h3,h4,h5,h6,λm hm=>(h7 m hm).trans (Qat hm)⟩
   ·rw [decide_eq_false hy]
    exact ⟨rfl,ys++[y],Nat.le_refl _,λz hz=>hz,rfl,w,hn,hk,λ_ _=>rfl⟩
theorem Qzf {a b dv many:Int} (ha:0<=a) (ha2:a<18446744073709551616) (hb:0<=b) (hv:0<dv) (hv2:dv<1073741824) (h:Deal n k S) (h0:0<many) (h1:many<1073741824) :
  Tr (Qzg a b dv [.ref n,.int many] S) λv S'=>(∃ i:Nat,v=.int i/\(i:Int)<many)/\Deal n k S'/\S'.next=S.next/\∀ m,m≠n->m≠k->S'.get m=S.get m:=by
 obtain ⟨xs,c,hn,hk,hx,hl,hc⟩:=h.ex
 have mm:∀ z:Int,∃ i:Nat,(z % many)=i/\(i:Int)<many:=λz=>⟨(z % many).toNat,(Int.toNat_of_nonneg (Int.emod_nonneg _ (by omega))).symm,by rw [Int.toNat_of_nonneg (Int.emod_nonneg _ (by omega))]; exact Int.emod_lt_of_pos _ h0⟩
 unfold Qzg fnOf
 show Tr (Out.bind _ _) _
 refine Tr.bind ?_
 unfold Jh
 refine Tr.bind ?_
 refine (Qrl (d:=[some (.ref n),some (.int many),none]) (c:=c) rfl h.ne 1000 xs S (by omega) h.wf hn hk).imp ?_
 rintro f S1 ⟨rfl,ys,l1,l2,l3,w1,n1,k1,o1⟩
 show Tr (Out.bind _ _) _
 refine Tr.bind ?_
 unfold Yl
 refine Tr.bind ?_
 unfold Mir.tB
 refine Tr.bind ?_
 rw [Qw0 (d:=[some (.ref n),some (.int many),none]) rfl n1 k1]
 rcases List.eq_nil_or_concat ys with rfl | ⟨zs,z,rfl⟩
 ·
  show Tr (Out.bind _ _) _
  refine Tr.bind ?_
  unfold sIdx
  refine Tr.bind ?_
  have e1:Jc Qe0 (Jg KZ (Jd (Jc JL (Jc Qgw (Jc Jk (Ja 0) (eC (.int 1))) (eC (.int a))) (eC (.int b))) Jb)) (eC (.int 2147483647)) [some (.ref n),some (.int many),none] S1=.ok (.int ((c*a+b) % 2147483647)) S1:=by
   have e:=idx1 (d:=[some (.ref n),some (.int many),none]) rfl n1
   have sm:Qlu a=true:=by simp [Qlu]; omega
   have em:Jc Qgw (Jc Jk (Ja 0) (eC (.int 1))) (eC (.int a)) [some (.ref n),some (.int many),none] S1=.ok (.int (c*a)) S1:=by
    show ((Jc Jk (Ja 0) (eC (.int 1)) _ S1).bind _)=_
    rw [e]
    simp [Out.bind,eC,Qgw,sm]
   have ea:Jc JL (Jc Qgw (Jc Jk (Ja 0) (eC (.int 1))) (eC (.int a))) (eC (.int b)) [some (.ref n),some (.int many),none] S1=.ok (.int (c*a+b)) S1:=by
    show ((Jc Qgw _ _ _ S1).bind _)=_
    rw [em]
    simp [Out.bind,eC,JL]
   show (((Jd _ _ _ S1).bind _).bind _)=_
   unfold Jd
   rw [ea]
   simp [Out.bind,Jb,KZ,eC,Qe0]
  rw [e1]
  show Tr (Out.bind _ _) _
  refine Tr.bind ?_
  show Tr (Out.bind _ _) _
  refine Tr.bind ?_
  have es:Qgs (.ref n) (.int 1) (.int ((c*a+b) % 2147483647)) S1=some (S1.put n (.lst [.ref k,.int ((c*a+b) % 2147483647)])):=by
   simp [Qgs,n1,ixN]
  show Tr (match Qgs (.ref n) (.int 1) (.int ((c*a+b) % 2147483647)) S1 with | some S4=>Out.ok (Fl.nx [some (.ref n),some (.int many),none]) S4 | none=>Out.bad) _
  rw [es]
  show Tr (Out.bind _ _) _
  refine Tr.bind ?_
  have hc2:0<=(c*a+b) % 2147483647:=Int.emod_nonneg _ (by decide)
  generalize hcc:(c*a+b) % 2147483647=c2 at hc2
  have n2:(S1.put n (.lst [.ref k,.int c2])).get n=some (.lst [.ref k,.int c2]):=Qfw n1
  have e2:Jc Qe0 (Jg KZ (Jd (Jc Qme (Jc Jk (Ja 0) (eC (.int 1))) (eC (.int dv))) Jb)) (Ja 1) [some (.ref n),some (.int many),none] (S1.put n (.lst [.ref k,.int c2]))=.ok (.int ((c2 / dv) % many)) (S1.put n (.lst [.ref k,.int c2])):=by
   have e:=idx1 (d:=[some (.ref n),some (.int many),none]) rfl n2
   have ed:Jc Qme (Jc Jk (Ja 0) (eC (.int 1))) (eC (.int dv)) [some (.ref n),some (.int many),none] (S1.put n (.lst [.ref k,.int c2]))=.ok (.int (c2 / dv)) (S1.put n (.lst [.ref k,.int c2])):=by
    show ((Jc Jk (Ja 0) (eC (.int 1)) _ _).bind _)=_
    rw [e]
    simp [Out.bind,eC,Qme,hv,hv2]
   show (((Jd _ _ _ _).bind _).bind _)=_
   unfold Jd
   rw [ed]
   simp [Out.bind,Jb,KZ,Ja,Jm,Qe0,h0]
  rw [e2]
  obtain ⟨i,ei,hi⟩:=mm (c2 / dv)
  refine ⟨⟨i,by rw [ei],hi⟩,⟨h.ne,Qlc n1 w1,[],c2,n2,(Qat (Ne.symm h.ne)).trans k1,by simp,by simp,hc2⟩,l3,λm h1 h2=>(Qat h1).trans (o1 m h2)⟩
 ·simp only [List.concat_eq_append] at k1 l1 l2 ⊢
  have hz:0<=z:=hx z (l2 z (by simp))
  have e1:(!(zs++[z]).isEmpty)=true:=by simp
  rw [e1]
  show Tr (Out.bind _ _) _
  refine Tr.bind ?_
  unfold Jx
  refine Tr.bind ?_
  rw [Qwu (d:=[some (.ref n),some (.int many),none]) rfl n1 k1]
  show Tr (Out.bind _ _) _
  refine Tr.bind ?_
  unfold JX
  refine Tr.bind ?_
  have n2:(S1.put k (.lst (zs.map W.int))).get n=some (.lst [.ref k,.int c]):=(Qat h.ne).trans n1
  have k2:(S1.put k (.lst (zs.map W.int))).get k=some (.lst (zs.map W.int)):=Qfw k1
  have lz:zs.length<100:=by simp at l1; omega
  have e2:JT (m1 Qbs) (Jc Jk (Ja 0) (eC (.int 0))) (Jd (Jc Qme (Ja 2) (Ja 1)) Jb) [some (.ref n),some (.int many),some (.int z)] (S1.put k (.lst (zs.map W.int))) =
    .ok .non ((S1.put k (.lst (zs.map W.int))).put k (.lst ((zs++[z / many]).map W.int))):=by
   unfold JT
   rw [idx0 (d:=[some (.ref n),some (.int many),some (.int z)]) rfl n2]
   have:Nat.blt zs.length Jy=true:=by
    show Nat.ble (zs.length+1) Jy=true
    exact Nat.ble_eq_true_of_le (Nat.le_trans lz (by decide))
   simp [Out.bind,Mir.isL,k2,Jd,Jb,Jc,Ja,Jm,Qme,h0,h1,m1,Qbs,this]
  show Tr (JT (m1 Qbs) (Jc Jk (Ja 0) (eC (.int 0))) (Jd (Jc Qme (Ja 2) (Ja 1)) Jb) [some (.ref n),some (.int many),some (.int z)] (S1.put k (.lst (zs.map W.int)))) _
  rw [e2]
  show Tr (Out.bind _ _) _
  refine Tr.bind ?_
  obtain ⟨i,ei,hi⟩:=mm z
  have e3:Jc Qe0 (Jg KZ (Jd (Ja 2) Jb)) (Ja 1) [some (.ref n),some (.int many),some (.int z)] ((S1.put k (.lst (zs.map W.int))).put k (.lst ((zs++[z / many]).map W.int)))=.ok (.int i) ((S1.put k (.lst (zs.map W.int))).put k (.lst ((zs++[z / many]).map W.int))):=by
   simp [Jc,Jg,Jd,Jb,Ja,Jm,Out.bind,KZ,Qe0,h0,ei]
  show Tr (Jc Qe0 (Jg KZ (Jd (Ja 2) Jb)) (Ja 1) [some (.ref n),some (.int many),some (.int z)] _) _
  rw [e3]
  refine ⟨⟨i,rfl,hi⟩,⟨h.ne,Qlc k2 (Qlc k1 w1),zs++[z / many],c,(Qat h.ne).trans n2,Qfw k2,λx hx'=>?_,by simp; omega,hc⟩,l3,λm h1 h2=>(Qat h2).trans ((Qat h2).trans (o1 m h2))⟩
  rcases List.mem_append.mp hx' with q | q
  ·exact hx x (l2 x (List.mem_append_left _ q))
  ·rw [List.mem_singleton.mp q]
   exact Int.ediv_nonneg hz (by omega)
end
end ML
namespace ML
open Mir MW
theorem Qio:∀ {l:List (Nat×SO)} {n m:Nat},m≠n->look (Qj7 l n) m=look l m
 | [],n,m,h=>rfl
 | (j,x)::r,n,m,h=>by
   unfold Qj7
   cases e:Nat.beq j n with
   | true =>
    have ej:j=n:=Nat.eq_of_beq_eq_true e
    have e2:Nat.beq j m=false:=by
     cases q:Nat.beq j m with
     | false=>rfl
     | true=>exact absurd ((Nat.eq_of_beq_eq_true q).symm.trans ej) h
    simp [look,e2]
   | false =>
    simp only [Bool.false_eq_true,if_false,look]
    cases Nat.beq j m with
    | true=>rfl
    | false=>simpa using Qio (l:=r) h
theorem Qfx {S:Store} {n m:Nat} (h:m≠n):(S.drop n).get m=S.get m:=Qio h
@[simp] theorem next_drop {S:Store} {n:Nat}:(S.drop n).next=S.next:=rfl
theorem Qxl {S:Store} {n:Nat} {o:SO} (h:S.get n=some o) (w:Wf S):Wf (S.drop n):=λm x e=>by
 by_cases q:m=n
 ·rw [q]; exact w n o h
 ·rw [Qfx q] at e; exact w m x e
theorem Quq {g:Gd} {tg:Tg} {b:MS} {Q:Fl->Store->Prop} (I:List W->Jo->Store->Prop)
  (hs:∀ x r d S,I (x::r) d S->Ky S g=true/\∃ d1,JG tg x d=some d1/\Tr (b d1 S) λf S1=>match f with
    | .nx d2=>I r d2 S1
    | .ct d2=>I r d2 S1
    | .br d2=>Q (.nx d2) S1
    | .rt w=>Q (.rt w) S1)
  (h0:∀ d S,I [] d S->Ky S g=true/\Q (.nx d) S):∀ (xs:List W) (d:Jo) (S:Store),I xs d S->Tr (YW g tg b xs d S) Q
 | [],d,S,h=>by
  obtain ⟨a,b⟩:=h0 d S h
  unfold YW
  rw [if_pos a]
  exact b
 | x::r,d,S,h=>by
  obtain ⟨a,d1,e,q⟩:=hs x r d S h
  unfold YW
  rw [if_pos a,e]
  refine Tr.bind (q.imp λf S1 z=>?_)
  cases f with
  | nx d2=>exact Quq I hs h0 r d2 S1 z
  | ct d2=>exact Quq I hs h0 r d2 S1 z
  | br d2=>exact z
  | rt w=>exact z
theorem Quh {i:Nat} {c:MT} {e:ME} {d:Jo} {S:Store} {p:W->Bool} {f:W->W}:∀ (xs:List W),(∀ x∈xs,c (Jz d i (some x)) S=.ok (p x) S)->(∀ x∈xs,p x=true->e (Jz d i (some x)) S=.ok (f x) S) ->
  Kh [] (.nm i) c e d xs S=.ok ((xs.filter p).map f) S
 | [],_,_=>rfl
 | x::r,hc,he=>by
  have ih:=Quh (i:=i) (c:=c) (e:=e) (d:=d) (S:=S) (p:=p) (f:=f) r (λy hy=>hc y (List.mem_cons_of_mem _ hy)) (λy hy=>he y (List.mem_cons_of_mem _ hy))
  unfold Kh
  have h1:=hc x (List.mem_cons_self ..)
  simp only [Ky,if_true,JG,h1,Out.bind]
  cases q:p x with
  | false=>simp [q,ih]
  | true =>
   have h2:=he x (List.mem_cons_self ..) q
   simp [h2,ih,q,Out.bind]
theorem Qk8 {own:List Nat} {it:MI} {i:Nat} {c:MT} {e:ME} {d:Jo} {S:Store} {p:W->Bool} {f:W->W} {xs:List W} (hi:it d S=.ok (xs,[]) S) (hl:xs.length<=Jy) (hc:∀ x∈xs,c (Jz (JV d own) i (some x)) S=.ok (p x) S)
  (he:∀ x∈xs,p x=true->e (Jz (JV d own) i (some x)) S=.ok (f x) S):lcL own it (.nm i) c e d S=.ok ((xs.filter p).map f) S:=by
 unfold lcL
 rw [hi]
 simp only [Out.bind,Nat.ble_eq_true_of_le hl,if_true]
 exact Quh xs hc he
theorem Qv3 {tg:Tg} {c:MT} {e:ME} {d:Jo} {g:Gd} {Q:List W->Store->Prop} (I:List W->List W->Store->Prop)
  (hs:∀ x r acc S,I (x::r) acc S->Ky S g=true/\∃ d1,JG tg x d=some d1/\Tr (c d1 S) λb S1=>if b then Tr (e d1 S1) λy S2=>I r (acc++[y]) S2 else I r acc S1)
  (h0:∀ acc S,I [] acc S->Ky S g=true/\Q acc S):∀ (xs acc:List W) (S:Store),I xs acc S->Tr (Kh g tg c e d xs S) λys S'=>Q (acc++ys) S'
 | [],acc,S,h=>by
  obtain ⟨a,b⟩:=h0 acc S h
  unfold Kh
  rw [if_pos a]
  show Q (acc++[]) S
  rw [List.append_nil]
  exact b
 | x::r,acc,S,h=>by
  obtain ⟨a,d1,e1,q⟩:=hs x r acc S h
  unfold Kh
  rw [if_pos a,e1]
  refine Tr.bind (q.imp λb S1 z=>?_)
  cases b with
  | false=>exact Qv3 I hs h0 r acc S1 z
  | true =>
   refine Tr.bind (Tr.imp z λy S2 z2=>?_)
   refine Tr.bind ((Qv3 I hs h0 r (acc++[y]) S2 z2).imp λys S3 z3=>?_)
   show Q (acc++(y::ys)) S3
   rw [List.append_assoc] at z3
   exact z3
theorem Qrj {α β:Type} (f:α->β) (xs:List α) (l h:Option Int):cut (xs.map f) l h=(cut xs l h).map f:=by
 unfold cut
 rw [List.length_map,List.map_take,List.map_drop]
theorem Quv {α:Type} (xs:List α) (l h:Option Int):(cut xs l h).length<=xs.length:=by
 unfold cut
 rw [List.length_take,List.length_drop]
 omega
def absI (i:Int):Int:=if i<0 then -i else i
theorem Qzs (i:Int):0<=absI i:=by unfold absI; split <;> omega
def absW:W->W
 | .int i=>.int (absI i)
 | w=>w
def Qzk (c0 c1 mul md add hi:Int):MF:=fnOf 2 5 (Jh (Jx (.nm 2) (JZ [3] (Ji (Yk sl (Ja 0) (K9 (Ja 1)) (K9 (eC (.int hi))))) (.nm 3) Mir.tYes (Jg fAbs (Jd (Jg KZ (Jd (Ja 3) Jb)) Jb)))) (Jh (Jx (.nm 4) (Jc JL (eC (.int c0)) (Jc Qgw (eC (.int c1)) (Ja 1)))) (Jh (KY (Ji (Ja 2)) (.nm 3) (Jx (.nm 4) (Jc Qe0 (Jg KZ (Jd (Jc JL (Jc JL (Jc Qgw (Ja 4) (eC (.int mul))) (Jc Qe0 (Jg KZ (Jd (Ja 3) Jb)) (eC (.int md)))) (eC (.int add))) Jb)) (eC (.int 2147483647))))) (Jv (Qfc (Jd (JS Qt5 (JZ [3] (Ji (Ja 2)) (.nm 3) (Mir.tB (Jc opGe (Ja 3) (Jc Qt6 (eC (.int 10)) (eC (.int 18))))) (Ja 3))) (Jd (Ja 4) Jb)))))))
theorem Qrx {a:Int} (h:0<=a) (h2:a<18446744073709551616):Qlu a=true:=by
 unfold Qlu
 rw [decide_eq_true (by omega),decide_eq_true h2] <;> rfl
theorem Qzi {c0 c1 mul md add hi base:Int} (h0:0<=c0) (h1:0<=c1) (h1':c1<18446744073709551616) (hm:0<=mul) (hm':mul<18446744073709551616) (hd:0<md) (hb:0<=base) {S:Store} (w:Wf S) (ns:List Int) (hl:ns.length<=63) :
  Tr (Qzk c0 c1 mul md add hi [.lsr (ns.map W.int),.int base] S) λv S'=>v=.ref (S.next+1)/\Deal (S.next+1) S.next S'/\S'.next=S.next+2/\∀ m,m<S.next->S'.get m=S.get m:=by
 unfold Qzk fnOf
 show Tr (Out.bind _ _) _
 refine Tr.bind ?_
 show Tr (Out.bind _ _) _
 refine Tr.bind ?_
 show Tr (Out.bind _ _) _
 refine Tr.bind ?_
 show Tr (Out.bind _ _) _
 refine Tr.bind ?_
 have lc:=Quv ns (some base) (some hi)
 generalize hz:cut ns (some base) (some hi)=zs at lc
 have e1:lcL [3] (Ji (Yk sl (Ja 0) (K9 (Ja 1)) (K9 (eC (.int hi))))) (.nm 3) Mir.tYes (Jg fAbs (Jd (Jg KZ (Jd (Ja 3) Jb)) Jb)) [some (.lsr (ns.map W.int)),some (.int base),none,none,none] S=.ok ((((zs.map W.int)).filter λ_=>true).map absW) S:=by
  refine Qk8 (xs:=zs.map W.int) ?_ ?_ (λx hx=>rfl) (λx hx _=>?_)
  ·simp [Ji,Yk,Ja,Jm,K9,eC,Out.bind,sl,Ym,Kw,Qrj,hz]
  ·rw [List.length_map]
   exact Nat.le_trans lc (Nat.le_trans hl (by decide))
  ·obtain ⟨i,_,rfl⟩:=List.mem_map.mp hx
   simp [Jg,Jd,Jb,Ja,Jm,Jz,JV,Out.bind,KZ,fAbs,absW,absI]
 show Tr (lcL _ _ _ _ _ [some (.lsr (ns.map W.int)),some (.int base),none,none,none] S) _
 rw [e1]
 have e2:(((zs.map W.int)).filter λ_=>true).map absW=(zs.map absI).map W.int:=by
  rw [List.filter_eq_self.mpr (by simp),List.map_map,List.map_map]
  rfl
 rw [e2]
 have nn:∀ z∈zs.map absI,0<=z:=λz hz=>by
  obtain ⟨i,_,rfl⟩:=List.mem_map.mp hz
  exact Qzs i
 have ll:(zs.map absI).length<=63:=by rw [List.length_map]; omega
 generalize hq:zs.map absI=ws at nn ll
 show Tr (Out.bind _ _) _
 refine Tr.bind ?_
 have e3:Jx (.nm 4) (Jc JL (eC (.int c0)) (Jc Qgw (eC (.int c1)) (Ja 1))) [some (.lsr (ns.map W.int)),some (.int base),some (.lst (ws.map W.int)),none,none] S=.ok (.nx [some (.lsr (ns.map W.int)),some (.int base),some (.lst (ws.map W.int)),none,some (.int (c0+c1*base))]) S:=by
  simp [Jx,Jc,eC,Ja,Jm,Jz,Out.bind,JL,Qgw,Qrx h1 h1',JG]
 show Tr (Jx (.nm 4) (Jc JL (eC (.int c0)) (Jc Qgw (eC (.int c1)) (Ja 1))) [some (.lsr (ns.map W.int)),some (.int base),some (.lst (ws.map W.int)),none,none] S) _
 rw [e3]
 show Tr (Out.bind _ _) _
 refine Tr.bind ?_
 have e4:Ji (Ja 2) [some (.lsr (ns.map W.int)),some (.int base),some (.lst (ws.map W.int)),none,some (.int (c0+c1*base))] S=.ok (ws.map W.int,[]) S:=by simp [Ji,Ja,Jm,Out.bind,Ym,Kw]
 unfold KY
 rw [e4]
 refine (Quq (Q:=λf S'=>S'=S/\∃ x3 m,f=.nx [some (.lsr (ns.map W.int)),some (.int base),some (.lst (ws.map W.int)),x3,some (.int m)]/\0<=m)
  (λr d S'=>S'=S/\(∀ x∈r,∃ i,x=W.int i)/\∃ x3 m,d=[some (.lsr (ns.map W.int)),some (.int base),some (.lst (ws.map W.int)),x3,some (.int m)]/\0<=m) ?_ ?_ (ws.map W.int) _ S
  ⟨rfl,λx hx=>by obtain ⟨i,_,rfl⟩:=List.mem_map.mp hx; exact ⟨i,rfl⟩,none,_,rfl,Int.add_nonneg h0 (Int.mul_nonneg h1 hb)⟩).imp ?_
 ·rintro x r d S' ⟨rfl,hx,x3,m,rfl,hm0⟩
  obtain ⟨i,rfl⟩:=hx x (List.mem_cons_self ..)
  refine ⟨rfl,_,rfl,?_⟩
  have e5:Jx (.nm 4) (Jc Qe0 (Jg KZ (Jd (Jc JL (Jc JL (Jc Qgw (Ja 4) (eC (.int mul))) (Jc Qe0 (Jg KZ (Jd (Ja 3) Jb)) (eC (.int md)))) (eC (.int add))) Jb)) (eC (.int 2147483647)))
    [some (.lsr (ns.map W.int)),some (.int base),some (.lst (ws.map W.int)),some (.int i),some (.int m)] S'=.ok (.nx [some (.lsr (ns.map W.int)),some (.int base),some (.lst (ws.map W.int)),some (.int i),some (.int ((m*mul+i % md+add) % 2147483647))]) S':=by
   simp [Jx,Jc,Jg,Jd,Jb,eC,Ja,Jm,Jz,Out.bind,JL,Qgw,Qe0,Qrx hm hm',hd,KZ,JG]
  show Tr (Jx (.nm 4) _ [some (.lsr (ns.map W.int)),some (.int base),some (.lst (ws.map W.int)),some (.int i),some (.int m)] S') _
  rw [e5]
  exact ⟨rfl,λy hy=>hx y (List.mem_cons_of_mem _ hy),_,_,rfl,Int.emod_nonneg _ (by decide)⟩
 ·rintro d S' ⟨rfl,_,x3,m,rfl,hm0⟩
  exact ⟨rfl,rfl,x3,m,rfl,hm0⟩
 ·rintro f S' ⟨rfl,x3,m,rfl,hm0⟩
  show Tr (Out.bind _ _) _
  refine Tr.bind ?_
  show Tr (Out.bind _ _) _
  refine Tr.bind ?_
  show Tr (Out.bind _ _) _
  refine Tr.bind ?_
  show Tr (Out.bind _ _) _
  refine Tr.bind ?_
  show Tr (Out.bind _ _) _
  refine Tr.bind ?_
  have e6:lcL [3] (Ji (Ja 2)) (.nm 3) (Mir.tB (Jc opGe (Ja 3) (Jc Qt6 (eC (.int 10)) (eC (.int 18))))) (Ja 3) [some (.lsr (ns.map W.int)),some (.int base),some (.lst (ws.map W.int)),x3,some (.int m)] S' =
    .ok (((ws.map W.int).filter λx=>match x with | .int i=>decide ((10:Int) ^ 18<=i) | _=>false).map id) S':=by
   refine Qk8 (xs:=ws.map W.int) ?_ ?_ (λx hx=>?_) (λx hx _=>?_)
   ·simp [Ji,Ja,Jm,Out.bind,Ym,Kw]
   ·rw [List.length_map]
    exact Nat.le_trans ll (by decide)
   ·obtain ⟨i,_,rfl⟩:=List.mem_map.mp hx
    simp [Mir.tB,Jc,Ja,Jm,Jz,JV,Out.bind,eC,Qt6,opGe,Xb]
   ·simp [Ja,Jm,Jz,JV]
  show Tr (lcL _ _ _ _ _ [some (.lsr (ns.map W.int)),some (.int base),some (.lst (ws.map W.int)),x3,some (.int m)] S') _
  rw [e6]
  have e7:((ws.map W.int).filter λx=>match x with | .int i=>decide ((10:Int) ^ 18<=i) | _=>false).map id=(ws.filter λi=>decide ((10:Int) ^ 18<=i)).map W.int:=by
   rw [List.map_id,List.filter_map]
   rfl
  rw [e7]
  generalize hv:(ws.filter λi=>decide ((10:Int) ^ 18<=i))=vs
  have hvs:∀ v∈vs,0<=v:=λv hv'=>nn v (by rw [<- hv] at hv'; exact (List.mem_filter.mp hv').1)
  have hvl:vs.length<=63:=by rw [<- hv]; exact Nat.le_trans (List.length_filter_le _ _) ll
  have g1:(S'.new (.lst (vs.map W.int).reverse)).get S'.next=some (.lst (vs.map W.int).reverse):=Qej
  refine ⟨rfl,⟨Nat.succ_ne_self _,Qld (Qld w),vs.reverse,m,Qej,?_,λx hx=>hvs x (List.mem_reverse.mp hx),by rw [List.length_reverse]; omega,hm0⟩,rfl,λj hj=>?_⟩
  ·rw [Y5 (Nat.ne_of_lt (Nat.lt_succ_self _)),g1,List.map_reverse]
  ·rw [Y5 (Nat.ne_of_lt (Nat.lt_succ_of_lt hj)),Y5 (Nat.ne_of_lt hj)]
section
variable {α:Type} {d:Jo} {S:Store} {Q:W->Store->Prop} {QB:Bool->Store->Prop} {QL:List W->Store->Prop} {QF:Fl->Store->Prop}
theorem Ks {r:Out α} {a:α} {S':Store} {Q:α->Store->Prop} (e:r=.ok a S') (h:Q a S'):Tr r Q:=by rw [e]; exact h
theorem Qxt {a:α} {Q:α->Store->Prop} (h:Q a S):Tr (.ok a S) Q:=h
theorem Yc {i:Nat} {w:W} (e:Jm d i=some w) (h:Q w S):Tr (Ja i d S) Q:=by
 unfold Ja
 rw [e]
 exact h
theorem Ye {w:W} (h:Q w S):Tr (eC w d S) Q:=h
theorem Qc5 {f:W->W->Store->Out W} {a b:ME} (h:Tr (a d S) λx S1=>Tr (b d S1) λy S2=>Tr (f x y S2) Q):Tr (Jc f a b d S) Q:=Tr.bind (h.imp λ_ _ k=>Tr.bind k)
theorem Qcc (h:QL [] S):Tr (Jb d S) QL:=h
theorem KR {a:ME} {r:MA} (h:Tr (a d S) λx S1=>Tr (r d S1) λxs S2=>QL (x::xs) S2):Tr (Jd a r d S) QL:=Tr.bind (h.imp λ_ _ k=>Tr.bind k)
theorem Qb5 {f:MF} {a:MA} (h:Tr (a d S) λxs S1=>Tr (f xs S1) Q):Tr (Jg f a d S) Q:=Tr.bind h
theorem Qlh {a:MA} (h:Tr (a d S) λxs S1=>xs.length<=Jy/\Q (.tup xs) S1):Tr (Jt a d S) Q:=Tr.bind (h.imp λxs S1 k=>by show Tr (if Nat.ble xs.length Jy then .ok (.tup xs) S1 else .bad) Q; rw [if_pos (Nat.ble_eq_true_of_le k.1)]; exact k.2)
theorem Qoq {a:MA} (h:Tr (a d S) λxs S1=>xs.length<=Jy/\Q (.lst xs) S1):Tr (Ju a d S) Q:=Tr.bind (h.imp λxs S1 k=>by show Tr (if Nat.ble xs.length Jy then .ok (.lst xs) S1 else .bad) Q; rw [if_pos (Nat.ble_eq_true_of_le k.1)]; exact k.2)
theorem Qno {a:MA} (h:Tr (a d S) λxs S1=>xs.length<=Jy/\Q (.ref S1.next) (S1.new (.lst xs))):Tr (Qfc a d S) Q:=Tr.bind (h.imp λxs S1 k=>by show Tr (if Nat.ble xs.length Jy then .ok (.ref S1.next) (S1.new (.lst xs)) else .bad) Q; rw [if_pos (Nat.ble_eq_true_of_le k.1)]; exact k.2)
theorem Qro {f:W->List W->Store->Out W} {o:ME} {a:MA} (h:Tr (o d S) λx S1=>Mir.isL x S1=true/\Tr (a d S1) λxs S2=>Tr (f x xs S2) Q):Tr (JT f o a d S) Q:=Tr.bind (h.imp λx S1 k=>by rw [if_pos k.1]; exact Tr.bind k.2)
theorem Qrq {a:ME} (h:Tr (a d S) λx S1=>Tr (frz S1 x) Q):Tr (eFrz a d S) Q:=Tr.bind h
theorem Qrp {sup:Nat->List Nat} {ts:List Ty} {a:ME} (h:Tr (a d S) λx S1=>∃ b,Qh5 sup S1 x ts=some b/\Q (.bl b) S1):Tr (KD sup ts a d S) Q:=Tr.bind (h.imp λx S1 ⟨b,e,k⟩=>by rw [e]; exact k)
theorem Qoo {a:ME} (h:Tr (a d S) λx S1=>∃ b,x=.bl b/\QB b S1):Tr (Mir.tB a d S) QB:=Tr.bind (h.imp λx S1 ⟨b,e,k⟩=>by subst e; exact k)
theorem Qnn {a b:MT} (h:Tr (a d S) λx S1=>if x then Tr (b d S1) QB else QB false S1):Tr (Mir.tAnd a b d S) QB:=Tr.bind (h.imp λx S1 k=>by cases x <;> exact k)
theorem Qli (h:QB true S):Tr (Mir.tYes d S) QB:=h
theorem Qlm (h:QF (.nx d) S):Tr (YK d S) QF:=h
theorem Qcb {a b:MS} (h:Tr (a d S) λf S1=>match f with | .nx d1=>Tr (b d1 S1) QF | f=>QF f S1):Tr (Jh a b d S) QF:=Tr.bind (h.imp λf S1 k=>by cases f <;> exact k)
theorem Qd4 {i:Nat} {a:ME} (h:Tr (a d S) λx S1=>QF (.nx (Jz d i (some x))) S1):Tr (Jx (.nm i) a d S) QF:=Tr.bind h
theorem Qjy {i j:Nat} {a:ME} (h:Tr (a d S) λx S1=>∃ y z,x=.tup [y,z]/\QF (.nx (Jz (Jz d i (some y)) j (some z))) S1):Tr (Jx (.tp [.nm i,.nm j]) a d S) QF:=Tr.bind (h.imp λx S1 ⟨y,z,e,k⟩=>by subst e; exact k)
theorem Qnq {a:ME} (h:Tr (a d S) λ_ S1=>QF (.nx d) S1):Tr (JX a d S) QF:=Tr.bind h
theorem Qop {a:ME} (h:Tr (a d S) λx S1=>QF (.rt x) S1):Tr (Jv a d S) QF:=Tr.bind h
theorem Qqj {t:MT} {a b:MS} (h:Tr (t d S) λx S1=>if x then Tr (a d S1) QF else Tr (b d S1) QF):Tr (Yl t a b d S) QF:=Tr.bind (h.imp λx S1 k=>by cases x <;> exact k)
theorem Qos {np n:Nat} {b:MS} {xs:List W} (d:Jo) (hl:xs.length=np) (hd:xs.map some++List.replicate (n-xs.length) none=d) (h:Tr (b d S) λf S1=>match f with | .nx _=>Q .non S1 | .rt w=>Q w S1 | _=>False):Tr (fnOf np n b xs S) Q:=by
 subst hd
 unfold fnOf
 have e:Nat.beq xs.length np=true:=by rw [hl]; exact Nat.beq_refl _
 rw [e]
 refine Tr.bind (h.imp λf S1 k=>?_)
 cases f with
 | nx d=>exact k
 | rt w=>exact k
 | br d=>exact k.elim
 | ct d=>exact k.elim
theorem Qu3 {t:MT} {b:MS} {n:Nat} (h:Tr (t d S) λx S1=>if x then (Tr (b d S1) λf S2=>match f with | .nx d2=>Tr (Qc3 t b n d2 S2) QF | .ct d2=>Tr (Qc3 t b n d2 S2) QF | .br d2=>QF (.nx d2) S2 | .rt w=>QF (.rt w) S2) else QF (.nx d) S1):Tr (Qc3 t b (n+1) d S) QF:=Tr.bind (h.imp λx S1 k=>by
 cases x with
 | false=>exact k
 | true =>
  refine Tr.bind (Tr.imp k λf S2 k2=>?_)
  cases f <;> exact k2)
theorem Qm4 {it:MI} {tg:Tg} {b:MS} (h:Tr (it d S) λp S1=>Tr (YW p.2 tg b p.1 d S1) QF):Tr (KY it tg b d S) QF:=Tr.bind h
theorem Qqi {own:List Nat} {it:MI} {tg:Tg} {c:MT} {e:ME} (h:Tr (lcL own it tg c e d S) λys S1=>Q (.lst ys) S1):Tr (JZ own it tg c e d S) Q:=Tr.bind h
theorem Qln {own:List Nat} {it:MI} {tg:Tg} {c:MT} {e:ME} (h:Tr (it d S) λp S1=>p.1.length<=Jy/\Tr (Kh p.2 tg c e (JV d own) p.1 S1) QL):Tr (lcL own it tg c e d S) QL:=Tr.bind (h.imp λp S1 k=>by rw [if_pos (Nat.ble_eq_true_of_le k.1)]; exact k.2)
theorem Qlj {f:W->Option Int->Option Int->Store->Out W} {a:ME} {lo hi:MO} (h:Tr (a d S) λx S1=>Tr (lo d S1) λl S2=>Tr (hi d S2) λh S3=>Tr (f x l h S3) Q):Tr (Yk f a lo hi d S) Q:=Tr.bind (h.imp λ_ _ k=>Tr.bind (k.imp λ_ _ k2=>Tr.bind k2))
theorem Qll {QO:Option Int->Store->Prop} (h:QO none S):Tr (YJ d S) QO:=h
theorem Qlk {a:ME} {QO:Option Int->Store->Prop} (h:Tr (a d S) λx S1=>∃ i,x=.int i/\QO (some i) S1):Tr (K9 a d S) QO:=Tr.bind (h.imp λx S1 ⟨i,e,k⟩=>by subst e; exact k)
theorem Qz6 {c:Bool} {p q:Prop} (e:c=true) (h:p):(if c=true then p else q):=by rw [if_pos e]; exact h
theorem Qz7 {c:Bool} {p q:Prop} (e:c=false) (h:q):(if c=true then p else q):=by rw [e]; exact h
theorem Qnp {p q:Prop} (h:p):(if true=true then p else q):=h
theorem Qor {p q:Prop} (h:q):(if false=true then p else q):=h
end
structure Left (n k:Nat) (S S':Store):Prop where
 deal:Deal n k S'
 nx:S'.next=S.next
 kp:∀ m,m≠n->m≠k->S'.get m=S.get m
theorem Left.trans {n k:Nat} {S S1 S2:Store} (a:Left n k S S1) (b:Left n k S1 S2):Left n k S S2:=⟨b.deal,b.nx.trans a.nx,λm h1 h2=>(b.kp m h1 h2).trans (a.kp m h1 h2)⟩
def Qqd (dr:MF):Prop:=∀ (n k:Nat) (S:Store) (many:Int),Deal n k S->0<many->many<1073741824->Tr (dr [.ref n,.int many] S) λv S'=>(∃ i:Nat,v=.int i/\(i:Int)<many)/\Left n k S S'
theorem Qwf {a b dv:Int} (ha:0<=a) (ha2:a<18446744073709551616) (hb:0<=b) (hv:0<dv) (hv2:dv<1073741824):Qqd (Qzg a b dv):=λn k S many h h0 h1 =>
 (Qzf ha ha2 hb hv hv2 h h0 h1).imp λv S' ⟨q1,q2,q3,q4⟩=>⟨q1,q2,q3,q4⟩
def QAu (dr:MF):MF:=fnOf 2 2 (Jv (Jc Jk (Ja 1) (Jg dr (Jd (Ja 0) (Jd (Jg Yi (Jd (Ja 1) Jb)) Jb)))))
def Qw3 (dr:MF):MF:=fnOf 2 4 (Jh (Jx (.tp [.nm 2,.nm 3]) (Jt (Jd (Jg Qf9 (Jd (Ja 1) Jb)) (Jd (Qfc Jb) Jb)))) (Jh (Qc3 (Mir.tB (Jc Ku (Ja 2) (Ju Jb))) (JX (JT (m1 Qbs) (Ja 3) (Jd (JT (m1 Qko) (Ja 2) (Jd (Jg dr (Jd (Ja 0) (Jd (Jg Yi (Jd (Ja 2) Jb)) Jb))) Jb)) Jb))) 1000) (Jv (eFrz (Ja 3)))))
theorem Qoc {α:Type} {xs:List α} {i:Nat} (h:i<xs.length):atI xs (i:Int)=xs[i]?:=by
 unfold atI ixN
 rw [if_pos (by omega),if_pos (by omega)]
 simp
theorem Qy2 {n i:Nat} (h:i<n):ixN n (i:Int)=some i:=by
 unfold ixN
 rw [if_pos (by omega),if_pos (by omega)]
 simp
theorem Qnf {α:Type}:∀ {xs:List α} {i:Nat} (h:i<xs.length),(xs[i]::xs.eraseIdx i).Perm xs
 | [],i,h=>absurd h (Nat.not_lt_zero _)
 | x::r,0,h=>by simp
 | x::r,i+1,h=>by
  have h':i<r.length:=Nat.lt_of_succ_lt_succ h
  simp only [List.getElem_cons_succ,List.eraseIdx_cons_succ]
  exact (List.Perm.swap _ _ _).trans ((Qnf h').cons x)
section
variable {dr:MF} {n k:Nat} {S:Store}
local macro_rules | `(tactic| walk_at "Z0")=>`(tactic| (repeat (first | (with_reducible first | refine Qcb ?_ | refine Qd4 ?_ | refine Qjy ?_ | refine Qnq ?_ | refine Qop ?_ | refine Qqj ?_ | refine Qlm ?_ | refine Ye ?_ | refine Qc5 ?_ | refine tr_un ?_ | refine KR ?_ | refine Qcc ?_ | refine Qb5 ?_ | refine Qoo ?_ | refine Qnn ?_ | refine tr_tOr ?_ | refine tr_tNot ?_ | refine Qli ?_ | refine Qro ?_ | refine tr_mtS ?_ | refine Qlj ?_ | refine Qll ?_ | refine Qlk ?_ | refine Qqi ?_ | refine tr_lcM ?_ | refine Qm4 ?_ | refine Qrq ?_ | refine Qlh ?_ | refine Qoq ?_ | refine Qno ?_ | refine Qrp ?_ | refine tr_fmt ?_ | refine tr_and ?_ | refine tr_or ?_ | refine tr_not ?_ | refine tr_iSeq ?_ | refine Qln ?_ | refine tr_fld ?_ | refine Qnp ?_ | refine Qor ?_) | refine Yc rfl ?_ | dsimp only [Bool.false_eq_true,if_true,if_false])))
theorem Qym (hdr:Qqd dr) (h:Deal n k S) {xs:List W} (h0:xs≠[]) (h1:xs.length<1073741824):Tr (QAu dr [.ref n,.lst xs] S) λv S'=>v∈xs/\Left n k S S':=by
 have hp:0<xs.length:=by
  cases xs with
  | nil=>exact absurd rfl h0
  | cons _ _=>exact Nat.succ_pos _
 refine Qos [some (.ref n),some (.lst xs)] rfl rfl ?_
 walk_at "Z0"
 have el:Yi [.lst xs] S=.ok (.int xs.length) S:=by simp [Yi,fLen,KJ]
 refine Ks el ?_
 walk_at "Z0"
 refine (hdr n k S xs.length h (by omega) (by omega)).imp ?_
 rintro v S' ⟨⟨i,rfl,hi⟩,hl⟩
 have hi':i<xs.length:=by omega
 have e:Jk (.lst xs) (.int i) S'=.ok xs[i] S':=by
  simp [Jk,KJ,Qoc hi',Kw,hi']
 exact Ks e ⟨List.getElem_mem hi',hl⟩
theorem Qh1 (hdr:Qqd dr) {a b:Nat} (hab:a≠b) {x1:Option W}:∀ (fuel:Nat) (l f:List W) (S:Store),l.length<fuel->l.length+f.length<=1000->J5 29 l=true->Deal n k S->a≠n->a≠k->b≠n->b≠k->S.get a=some (.lst l)->S.get b=some (.lst f) ->
  Tr (Qc3 (Mir.tB (Jc Ku (Ja 2) (Ju Jb))) (JX (JT (m1 Qbs) (Ja 3) (Jd (JT (m1 Qko) (Ja 2) (Jd (Jg dr (Jd (Ja 0) (Jd (Jg Yi (Jd (Ja 2) Jb)) Jb))) Jb)) Jb))) fuel [some (.ref n),x1,some (.ref a),some (.ref b)] S)
   λfl S'=>fl=.nx [some (.ref n),x1,some (.ref a),some (.ref b)]/\∃ f',(l++f).Perm f'/\S'.get b=some (.lst f')/\Deal n k S'/\S'.next=S.next/\∀ m,m≠n->m≠k->m≠a->m≠b->S'.get m=S.get m
 | 0,l,f,S,h,_,_,_,_,_,_,_,_,_=>absurd h (Nat.not_lt_zero _)
 | fuel+1,l,f,S,h,hlf,hd,D,an,ak,bn,bk,ga,gb=>by
  refine Qu3 ?_
  walk_at "Z0"
  refine ⟨Nat.zero_le _,?_⟩
  have ec:Ku (.ref a) (.lst []) S=.ok (.bl (!l.isEmpty)) S:=by
   have dd:Kz 30 (.lst l)=true:=by simp [Kz,hd]
   cases l with
   | nil=>simp [Ku,rd,ga,eqD,Kz,J5,Yx,eqWs,bW]
   | cons x r=>simp [Ku,rd,ga,eqD,dd,Kz,J5,Yx,eqWs,bW]
  refine Ks ec ⟨_,rfl,?_⟩
  cases l with
  | nil=>exact ⟨rfl,f,by simp,gb,D,rfl,λ_ _ _ _ _=>rfl⟩
  | cons x r =>
   have ib:Mir.isL (.ref b) S=true:=by simp [Mir.isL,gb]
   have ia:Mir.isL (.ref a) S=true:=by simp [Mir.isL,ga]
   have el:Yi [.ref a] S=.ok (.int ((x::r).length:Nat)) S:=by simp [Yi,fLen,KJ,ga]
   show Tr (JX _ _ S) _
   walk_at "Z0"
   refine ⟨ib,?_⟩
   walk_at "Z0"
   refine ⟨ia,?_⟩
   walk_at "Z0"
   refine Ks el ?_
   walk_at "Z0"
   refine (hdr n k S ((x::r).length:Nat) D (by simp only [List.length_cons]; omega) (by simp at hlf ⊢; omega)).imp ?_
   rintro v S1 ⟨⟨i,rfl,hi⟩,L⟩
   have hi':i<(x::r).length:=by omega
   walk_at "Z0"
   have ga1:S1.get a=some (.lst (x::r)):=(L.kp a an ak).trans ga
   have gb1:S1.get b=some (.lst f):=(L.kp b bn bk).trans gb
   have ep:m1 Qko (.ref a) [.int i] S1=.ok (x::r)[i] (S1.put a (.lst ((x::r).eraseIdx i))):=by
    simp only [m1,Qko,ga1,Qy2 hi',List.getElem?_eq_getElem hi']
   refine Ks ep ?_
   walk_at "Z0"
   have gb2:(S1.put a (.lst ((x::r).eraseIdx i))).get b=some (.lst f):=(Qat (Ne.symm hab)).trans gb1
   have ea:m1 Qbs (.ref b) [(x::r)[i]] (S1.put a (.lst ((x::r).eraseIdx i)))=.ok .non ((S1.put a (.lst ((x::r).eraseIdx i))).put b (.lst (f++[(x::r)[i]]))):=by
    have:Nat.blt f.length Jy=true:=by
     show Nat.ble (f.length+1) Jy=true
     exact Nat.ble_eq_true_of_le (Nat.le_trans (show f.length+1<=1001 by simp at hlf; omega) (by decide))
    simp only [m1,Qbs,gb2,this,if_true]
   refine Ks ea ?_
   walk_at "Z0"
   have el2:((x::r).eraseIdx i).length+1=(x::r).length:=by rw [List.length_eraseIdx_of_lt hi']; simp
   have pm:(x::r).Perm ((x::r)[i]::(x::r).eraseIdx i):=(Qnf hi').symm
   have hd2:J5 29 ((x::r).eraseIdx i)=true:=by
    have aux:∀ (l:List W),J5 29 l=true↔∀ y∈l,Kz 29 y=true:=λl=>by
     induction l with
     | nil=>simp [J5]
     | cons y t ih=>simp [J5,ih]
    rw [aux] at hd ⊢
    exact λy hy=>hd y (List.mem_of_mem_eraseIdx hy)
   have D2:Deal n k ((S1.put a (.lst ((x::r).eraseIdx i))).put b (.lst (f++[(x::r)[i]]))):=by
    obtain ⟨xs,c,q1,q2,q3,q4,q5⟩:=L.deal.ex
    exact ⟨D.ne,Qlc gb2 (Qlc ga1 L.deal.wf),xs,c,(Qat (Ne.symm bn)).trans ((Qat (Ne.symm an)).trans q1),(Qat (Ne.symm bk)).trans ((Qat (Ne.symm ak)).trans q2),q3,q4,q5⟩
   refine (Qh1 hdr hab fuel ((x::r).eraseIdx i) (f++[(x::r)[i]]) _ (by omega) (by rw [List.length_append]; simp only [List.length_cons,List.length_nil] at hlf el2 ⊢; omega) hd2 D2 an ak bn bk ((Qat hab).trans (Qfw ga1)) (Qfw gb2)).imp ?_
   rintro fl S' ⟨rfl,f',p1,g1,D3,n3,k3⟩
   refine ⟨rfl,f',?_,g1,D3,n3.trans L.nx,λm h1 h2 h3 h4=>(k3 m h1 h2 h3 h4).trans ((Qat h4).trans ((Qat h3).trans (L.kp m h1 h2)))⟩
   refine List.Perm.trans ?_ p1
   refine (pm.append_right f).trans ?_
   rw [<- List.append_assoc]
   simp only [List.cons_append]
   exact (List.perm_append_singleton _ _).symm
theorem Qvz (hdr:Qqd dr) (h:Deal n k S) {xs:List W} (hl:xs.length<=900) (hd:J5 29 xs=true):Tr (Qw3 dr [.ref n,.lst xs] S) λv S'=>∃ ys,v=.lst ys/\xs.Perm ys/\Deal n k S'/\Keep n k S S'/\S'.next=S.next+2:=by
 obtain ⟨zs,c,q1,q2,q3,q4,q5⟩:=h.ex
 have hn:=h.wf _ _ q1
 have hk:=h.wf _ _ q2
 refine Qos [some (.ref n),some (.lst xs),none,none] rfl rfl ?_
 walk_at "Z0"
 have e1:Qf9 [.lst xs] S=.ok (.ref S.next) (S.new (.lst xs)):=by simp [Qf9,KJ]
 refine Ks e1 ?_
 walk_at "Z0"
 refine ⟨by decide,?_⟩
 walk_at "Z0"
 refine ⟨by show 2<=Jy; decide,_,_,rfl,?_⟩
 walk_at "Z0"
 have D2:Deal n k ((S.new (.lst xs)).new (.lst [])):=⟨h.ne,Qld (Qld h.wf),zs,c,(Y5 (by simp; omega)).trans ((Y5 (by omega)).trans q1),(Y5 (by simp; omega)).trans ((Y5 (by omega)).trans q2),q3,q4,q5⟩
 refine (Qh1 (x1:=some (.lst xs)) hdr (a:=S.next) (b:=S.next+1) (by omega) 1000 xs [] _ (by omega) (by simp; omega) hd D2 (by omega) (by omega) (by omega) (by omega) ((Y5 (by simp)).trans Qej) Qej).imp ?_
 rintro fl S' ⟨rfl,f',p1,g1,D3,n3,k3⟩
 walk_at "Z0"
 have e2:frz S' (.ref (S.next+1))=.ok (.lst f') (S'.drop (S.next+1)):=by simp [frz,g1]
 refine Ks e2 ?_
 obtain ⟨zs2,c2,r1,r2,r3,r4,r5⟩:=D3.ex
 refine ⟨f',rfl,by simpa using p1,⟨h.ne,Qxl g1 D3.wf,zs2,c2,(Qfx (by omega)).trans r1,(Qfx (by omega)).trans r2,r3,r4,r5⟩,⟨?_,λm hm h1 h2=>?_⟩,?_⟩
 ·simp [n3]
  omega
 ·rw [Qfx (by omega),k3 m h1 h2 (by omega) (by omega),Y5 (by simp; omega),Y5 (by omega)]
 ·simp [n3]
end
end ML
abbrev Ua:List Nat:=[115,97,109,101]
abbrev Ub:List Nat:=[111,110,101]
abbrev Uc:List Nat:=[97,110,121]
abbrev Ud:List Nat:=[121,101,115]
abbrev Ue:List Nat:=[108,97,116,101,32,121,101,115]
abbrev Uf:List Nat:=[111,116,104,101,114]
abbrev Ug:List Nat:=[108,97,116,101,32,110,111]
abbrev Uh:List Nat:=[106,111,105,110]
abbrev Ui:List Nat:=[32,116,111,32]
abbrev Uj:List Nat:=[32,98,121,32]
abbrev Uk:List Nat:=[115,116,101,112]
abbrev Ul:List Nat:=[109,97,114,107,115]
abbrev Um:List Nat:=[99,111,117,110,116,101,100]
abbrev Un:List Nat:=[112,97,114,116]
namespace BT
open Mir MW ML
abbrev T:=List Nat
theorem Qdp {m:MF} {xs:List W} {v:W} {S':Store} (h1:Jq xs=true) (h2:m xs E0=.ok v S') (h3:K8 v=true) (S:Store):Jj m xs S=.ok v S:=by
 simp [Jj,h1,h2,purO,h3]
def JW (z:T):List T->Bool
 | []=>false
 | y::r=>if JH y z then true else JW z r
theorem Qcu {a b:List Nat}:JH a b=true↔a=b:=by rw [MW.Qe1]; exact decide_eq_true_iff
theorem Qcr {z:T}:∀ {l:List T},JW z l=true↔z∈l
 | []=>by simp [JW]
 | y::r=>by
  simp only [JW,List.mem_cons]
  cases h:JH y z with
  | true=>simp [(Qcu.mp h).symm]
  | false =>
   have:z≠y:=λe=>by rw [e] at h; rw [Qcu.mpr rfl] at h; cases h
   simp [this,Qcr (l:=r)]
theorem Qpv {z:T}:∀ {l:List T},YS (.str z) (l.map .str)=some (JW z l)
 | []=>rfl
 | y::r=>by
  have e:Yx (.str y) (.str z)=some (JH y z):=by simp [Yx]
  simp only [List.map_cons,YS,e,JW]
  cases JH y z with
  | true=>rfl
  | false=>simpa using Qpv (z:=z) (l:=r)
def LET:T:=[97,98,99,100,101,102,103,104,105,106,107,108,109,110,111,112,113,114,115,116,117,118,119,120,121,122]
def BAR:List T:=[Uc,[98,121],Ub,Ua,[116,111]]
def isNm (z:T):Bool:=if Nat.ble 1 z.length&&Nat.ble z.length 4&&!JW z BAR then z.all (λc=>memN c LET) else false
def KIN:List T:=[Ud,[110,111],Ue,Ug,[119,111,114,100],[115,116,114,105,107,101],[98,97,99,107],[99,117,116]]
def YT:List T:=[[98,97,99,107],[99,117,116],Uh,Un,[119,111,114,100]]
theorem Qg9 {z:T} (h:isNm z=true):1<=z.length/\z.length<=4:=by
 unfold isNm at h
 split at h
 ·rename_i q
  simp only [Bool.and_eq_true] at q
  exact ⟨Nat.le_of_ble_eq_true q.1.1,Nat.le_of_ble_eq_true q.1.2⟩
 ·cases h
theorem Qn6 {z:T} (h:isNm z=true):∀ c∈z,c∈LET:=by
 unfold isNm at h
 split at h
 ·intro c hc
  have:=List.all_eq_true.mp h c hc
  rw [MW.Qq8] at this
  exact of_decide_eq_true this
 ·cases h
inductive Rw where
 | step (k o t:T) (a:Int) | join (x y t:T) (a:Int) | part (o l r:T) (a b:Int)
def Qmw (o:T):Bool:=isNm o || JH o Uc
def Qn0 (t:T):Bool:=isNm t || JH t Ua
def Qmi (t:T):Bool:=isNm t || (JH t Ub || JH t Uf)
def Qfb (a:Int):Bool:=decide (-3<=a)&&decide (a<=3)
def Rw.ok:Rw->Bool
 | .step k o t a=>JW k KIN&&Qmw o&&Qn0 t&&Qfb a
 | .join x y t a=>Qmw x&&Qmw y&&Qmi t&&Qfb a
 | .part o l r a b=>Qmw o&&Qn0 l&&Qn0 r&&Qfb a&&Qfb b
def Rw.tup:Rw->W
 | .step k o t a=>.tup [.str Uk,.str k,.str o,.str t,.int a]
 | .join x y t a=>.tup [.str Uh,.str x,.str y,.str t,.int a]
 | .part o l r a b=>.tup [.str Un,.str o,.str l,.str r,.int a,.int b]
def Rw.ws:Rw->List T
 | .step k o t a=>[k,o,[116,111],t,[98,121],Yh a]
 | .join x y t a=>[Uh,x,y,[116,111],t,[98,121],Yh a]
 | .part o l r a b=>[Un,o,[116,111],l,r,[98,121],Yh a,Yh b]
def Rw.txt (r:Rw):T:=joinL [32] r.ws
def Rw.nms:Rw->List T
 | .step k o t a=>[o,t].filter isNm
 | .join x y t a=>[x,y,t].filter isNm
 | .part o l r a b=>[o,l,r].filter isNm
structure Bk where
 marks:List T
 counted:List T
 keeps:List T
 rows:List Rw
def Bk.heads (b:Bk):List T:=[joinL [32] (Ul::b.marks),joinL [32] (Um::b.counted),joinL [32] ([107,101,101,112,115]::b.keeps)]
def Bk.txt (b:Bk):T:=joinL [10] (b.heads++b.rows.map Rw.txt)
def JQ (w:W) (xs:List W):Prop:=w=.lst xs\/w=.tup xs
section
variable {w:W} {xs:List W} {S:Store}
theorem JQ.it (h:JQ w xs):Ym S w=some (xs,[]):=by rcases h with rfl | rfl <;> rfl
theorem JQ.ty {sup:Nat->List Nat} (h:JQ w xs):Qh5 sup S w [.list,.tuple]=some true:=by rcases h with rfl | rfl <;> rfl
theorem JQ.len (h:JQ w xs):Yi [w] S=.ok (.int xs.length) S:=by rcases h with rfl | rfl <;> simp [Yi,fLen,KJ]
theorem Qoa {n:Nat}:∀ l:List T,J5 n (l.map W.str)=true
 | []=>by simp [J5]
 | x::r=>by simp [J5,Kz,Qoa r]
theorem YG:∀ l:List T,(l.map W.str).all flat=true
 | []=>rfl
 | x::r=>by simp [flat,YG r]
theorem JQ.mem {l:List T} (h:JQ w (l.map .str)) {z:T}:isIn (.str z) w S=some (JW z l):=by
 rcases h with rfl | rfl
 ·show (if Kz 30 (.str z)&&J5 29 (l.map W.str) then YS (.str z) (l.map .str) else none)=_
  rw [Qoa,Qpv]
  rfl
 ·show (if flat (.str z)&&(l.map W.str).all flat then YS (.str z) (l.map .str) else none)=_
  rw [YG,Qpv]
  rfl
theorem J9:∀ l:List T,Jq (l.map W.str)=true
 | []=>by simp [Jq]
 | x::r=>by simp [Jq,K8,J9 r]
theorem JQ.nr (h:JQ w xs) (k:Jq xs=true):K8 w=true:=by rcases h with rfl | rfl <;> simp [K8,k]
theorem Qmq {α:Type} {p:α->Bool}:∀ l:List α,Qb0 (l.map λz=>W.bl (p z))=some (l.all p)
 | []=>rfl
 | c::r=>by
  simp only [List.map_cons,List.all_cons]
  cases p c with
  | true=>simpa [Qb0] using Qmq r
  | false=>simp [Qb0,Qmq r]
theorem Qre:∀ (d:Jo) (i:Nat) (x:Option W),i<d.length->Jm (Jz d i x) i=x
 | [],i,x,h=>absurd h (Nat.not_lt_zero _)
 | y::r,0,x,h=>rfl
 | y::r,i+1,x,h=>Qre r i x (Nat.lt_of_succ_lt_succ h)
theorem Qof {α:Type} {g:α->W} {i:Nat} {own:List Nat} {it:MI} {e:ME} {d:Jo} {l:List α} {p:α->Bool} (hi:it d S=.ok (l.map g,[]) S) (hl:l.length<=900) (he:∀ z∈l,e (Jz (JV d own) i (some (g z))) S=.ok (.bl (p z)) S) :
  Jg K6 (Jd (JZ own it (.nm i) Mir.tYes e) Jb) d S=.ok (.bl (l.all p)) S:=by
 have key:∀ (l:List α) (d:Jo),(∀ z∈l,e (Jz d i (some (g z))) S=.ok (.bl (p z)) S)->Kh [] (.nm i) Mir.tYes e d (l.map g) S=.ok (l.map λz=>W.bl (p z)) S:=by
  intro l
  induction l with
  | nil=>intro d _; rfl
  | cons c r ih =>
   intro d h
   have h1:=h c (List.mem_cons_self ..)
   have h2:=ih d λz hz=>h z (List.mem_cons_of_mem _ hz)
   simp [Kh,Ky,JG,Mir.tYes,Out.bind,h1,h2]
 have hc:Nat.ble (l.map g).length Jy=true:=Nat.ble_eq_true_of_le (by rw [List.length_map]; exact Nat.le_trans hl (by decide))
 have h3:lcL own it (.nm i) Mir.tYes e d S=.ok (l.map λz=>W.bl (p z)) S:=by
  simp only [lcL,hi,Out.bind,hc,if_true]
  exact key l (JV d own) he
 simp [Jg,Jd,Jb,JZ,h3,Out.bind,K6,rd,Qmq,bW]
theorem Qdl {α:Type} {g:α->W} {f:α->W} {i:Nat} {own:List Nat} {it:MI} {c:MT} {e:ME} {d:Jo} {l:List α} {p:α->Bool} (hi:it d S=.ok (l.map g,[]) S) (hl:l.length<=900) (hc:∀ z∈l,c (Jz (JV d own) i (some (g z))) S=.ok (p z) S)
  (he:∀ z∈l,p z=true->e (Jz (JV d own) i (some (g z))) S=.ok (f z) S):JZ own it (.nm i) c e d S=.ok (.lst ((l.filter p).map f)) S:=by
 have key:∀ (l:List α) (d:Jo),(∀ z∈l,c (Jz d i (some (g z))) S=.ok (p z) S)->(∀ z∈l,p z=true->e (Jz d i (some (g z))) S=.ok (f z) S)->Kh [] (.nm i) c e d (l.map g) S=.ok ((l.filter p).map f) S:=by
  intro l
  induction l with
  | nil=>intro d _ _; rfl
  | cons a r ih =>
   intro d h k
   have h1:=h a (List.mem_cons_self ..)
   have h2:=ih d (λz hz=>h z (List.mem_cons_of_mem _ hz)) (λz hz=>k z (List.mem_cons_of_mem _ hz))
   cases q:p a with
   | false=>simp [Kh,Ky,JG,Out.bind,h1,q,h2]
   | true =>
    have h3:=k a (List.mem_cons_self ..) q
    simp [Kh,Ky,JG,Out.bind,h1,q,h2,h3]
 have hb:Nat.ble (l.map g).length Jy=true:=Nat.ble_eq_true_of_le (by rw [List.length_map]; exact Nat.le_trans hl (by decide))
 simp only [JZ,lcL,hi,Out.bind,hb,if_true]
 rw [key l (JV d own) hc he]
theorem Qxf {z:T}:∀ ks:List T,dHas (.str z) (ks.map λk=>(W.str k,W.bl true))=JW z ks
 | []=>rfl
 | k::r=>by
  simp only [List.map_cons,dHas,JW,Qpr,Qxf r]
theorem QBr {i:Nat} {d:Jo} (hi:i<d.length):∀ (l ks:List T),(ks++l).Nodup->ks.length+l.length<=900 ->
  Yu [] (λx ys S2=>match JG (.nm i) x d with
   | none=>.bad
   | some d1=>(Mir.tYes d1 S2).bind λb S3=>if b then (Ja i d1 S3).bind λk S4=>(eC (.bl true) d1 S4).bind λv S5=>if Qum k&&Nat.blt ys.length Jy then .ok (dPut k v ys) S5 else .bad
    else .ok ys S3) (l.map W.str) (ks.map λk=>(W.str k,W.bl true)) S=.ok ((ks++l).map λk=>(W.str k,W.bl true)) S
 | [],ks,_,_=>by simp [Yu,Ky]
 | z::r,ks,hn,hl=>by
  have hz:JW z ks=false:=by
   cases q:JW z ks with
   | false=>rfl
   | true =>
    have:=Qcr.mp q
    rw [List.nodup_append] at hn
    exact absurd rfl (hn.2.2 z this z (List.mem_cons_self ..))
  have hb:Nat.blt (ks.map λk=>(W.str k,W.bl true)).length Jy=true:=Nat.ble_eq_true_of_le (by rw [List.length_map]; simp at hl; exact Nat.le_trans (show ks.length+1<=900 by omega) (by decide))
  have ih:=QBr hi r (ks++[z]) (by simpa using hn) (by simp at hl ⊢; omega)
  have e1:Ja i (Jz d i (some (.str z))) S=.ok (.str z) S:=by simp [Ja,Qre d i _ hi]
  have e2:dPut (.str z) (.bl true) (ks.map λk=>(W.str k,W.bl true))=(ks++[z]).map λk=>(W.str k,W.bl true):=by
   simp [dPut,Qxf,hz]
  simp only [List.map_cons,Yu,Ky,if_true,JG,Mir.tYes,Out.bind,e1,eC,Qum,hb,Bool.and_self,e2]
  have e3:ks++z::r=(ks++[z])++r:=by simp
  rw [e3]
  exact ih
end
end BT
namespace Mir
mutual
def Qen:W->Bool
 | .lst _=>false
 | .lsr _=>false
 | .tup xs=>Yt xs
 | .obj _ fs=>Y0 fs
 | _=>true
def Yt:List W->Bool
 | []=>true
 | x::r=>if Qen x then Yt r else false
def Y0:List (Nat×W)->Bool
 | []=>true
 | (_,x)::r=>if Qen x then Y0 r else false
end
def purV (m:MF):MF:=λxs S=>if Jq (xs.map (rd S)) then (match m (xs.map (rd S)) E0 with
 | .ok v _=>if K8 v&&Qen v then .ok v S else .bad
 | _=>.bad) else .bad
end Mir
namespace MW
open PySem PySem.Spec PyProof.Rows L2 Mir
section
variable {T:Tab} {r:Nat->Option Addr} {G G':Hp}
mutual
theorem RelW.nol (k:∀ b u,G b=some u->(∀ vs,u≠.lst vs)->G' b=some u):∀ {w:Mir.W} {v:V},Qen w=true->RelW T r G w v->RelW T r G' w v
 | _,_,_,.non=>.non
 | _,_,_,.bl b=>.bl b
 | _,_,_,.int i=>.int i
 | _,_,_,.str e h=>.str e h
 | _,_,n,.tup h q=>.tup (by
   rcases h with (h | ⟨o,h⟩) | h
   ·exact .inl (.inl (k _ _ h λvs z=>by cases z))
   ·exact .inl (.inr ⟨o,k _ _ h λvs z=>by cases z⟩)
   ·exact .inr h) (RelWs.nol k (by rw [Qen] at n; exact n) q)
 | _,_,n,.lst h q=>absurd n (by rw [Qen]; decide)
 | _,_,n,.lsr h q=>absurd n (by rw [Qen]; decide)
 | _,_,n,.obj h hc q=>.obj (k _ _ h λvs z=>by cases z) hc (RelFs.nol k (by rw [Qen] at n; exact n) q)
 | _,_,_,.ref h=>.ref h
 | _,_,_,.cls h=>.cls h
theorem RelWs.nol (k:∀ b u,G b=some u->(∀ vs,u≠.lst vs)->G' b=some u):∀ {w:List Mir.W} {v:List V},Yt w=true->RelWs T r G w v->RelWs T r G' w v
 | _,_,_,.nil=>.nil
 | _,_,n,.cons h q=>.cons (RelW.nol k (Qkt (by rw [Yt] at n; exact n)).1 h) (RelWs.nol k (Qkt (by rw [Yt] at n; exact n)).2 q)
theorem RelFs.nol (k:∀ b u,G b=some u->(∀ vs,u≠.lst vs)->G' b=some u):∀ {w:List (Nat×Mir.W)} {v:List (Str×V)},Y0 w=true->RelFs T r G w v->RelFs T r G' w v
 | _,_,_,.nil=>.nil
 | _,_,n,.cons e h q=>.cons e (RelW.nol k (Qkt (by rw [Y0] at n; exact n)).1 h) (RelFs.nol k (Qkt (by rw [Y0] at n; exact n)).2 q)
end
end
section
variable {T:Tab} {w:Wd} {xs:List Mir.W}
def Vw (w:Wd) (b:Addr):Prop:=∃ n ws,w.S.get n=some (.lst ws)/\w.r n=some b
open Classical in
noncomputable def Wd.view (w:Wd):Wd:=⟨λ_=>none,λb=>if Vw w b then w.H b else w.G b,E0,w.H⟩
theorem Vw.at_ {b:Addr} (h:Vw w b):∃ n,At w n b:=let ⟨n,ws,g,e⟩:=h; ⟨n,⟨_,g⟩,e⟩
theorem Vw.gn {b:Addr} (h:Vw w b) (o:Ok T w):w.G b=none/\∃ vs,w.H b=some (.lst vs):=by
 obtain ⟨n,ws,g,e⟩:=h
 obtain ⟨a,e1,e2,vs,e3,_⟩:=o.own n _ g
 rw [e] at e1
 cases e1
 exact ⟨e2,vs,e3⟩
theorem Qrm {b:Addr} (h:Vw w b):w.view.G b=w.H b:=by unfold Wd.view; exact if_pos h
theorem Qol {b:Addr} (h:¬ Vw w b):w.view.G b=w.G b:=by unfold Wd.view; exact if_neg h
theorem Qk6 (o:Ok T w) {b:Addr} {u:HO} (h:w.G b=some u):w.view.G b=some u:=by
 by_cases q:Vw w b
 ·rw [Qrm q]; exact o.ex _ _ h
 ·rw [Qol q]; exact h
theorem Ok.view (o:Ok T w):Ok T w.view where
 ex:=λb u h=>by
  by_cases q:Vw w b
  ·rw [Qrm q] at h; exact h
  ·rw [Qol q] at h; exact o.ex _ _ h
 own:=λn u e=>by cases e
 inj:=λn m a h _=>by cases h.2
 dom:=λn a h=>by cases h
 nd:=List.nodup_nil
 tb:=λc P e=>(o.tb c P e).mv rfl (λ_ _ q=>Qk6 o q) (by
  have nv:¬ Vw w P:=λq=>by
   obtain ⟨n,h⟩:=q.at_
   exact (o.tb c P e).no n h
  rw [Qol nv]
  exact (o.tb c P e).gn) λn h=>by cases h.2
theorem Qnm {n:Nat} {a:Addr}:¬ At w.view n a:=λh=>by cases h.2
open Classical in
noncomputable def Wd.unview (w w0:Wd):Wd:=⟨w.r,λb=>if Vw w b then none else w0.G b,w.S,w0.H⟩
theorem Qz4 {w0:Wd} {b:Addr} (h:Vw w b):(w.unview w0).G b=none:=by unfold Wd.unview; exact if_pos h
theorem Qqg {w0:Wd} {b:Addr} (h:¬ Vw w b):(w.unview w0).G b=w0.G b:=by unfold Wd.unview; exact if_neg h
theorem Qs8 {w0:Wd} (o:Ok T w) (e:Ext w.view w0) {b:Addr} {u:HO} (h:w.G b=some u):(w.unview w0).G b=some u:=by
 by_cases q:Vw w b
 ·rw [(q.gn o).1] at h; cases h
 ·rw [Qqg q]; exact e.ex _ _ (Qk6 o h)
theorem Qw4 {w0:Wd} (o:Ok T w) (e:Ext w.view w0) {b:Addr} (q:Vw w b):∃ vs,w0.G b=some (.lst vs):=by
 obtain ⟨_,vs,h⟩:=q.gn o
 exact ⟨vs,e.ex _ _ (by rw [Qrm q]; exact h)⟩
theorem Ok.unview {w0:Wd} (o:Ok T w) (o0:Ok T w0) (e:Ext w.view w0):Ok T (w.unview w0) where
 ex:=λb u h=>by
  by_cases q:Vw w b
  ·rw [Qz4 q] at h; cases h
  ·rw [Qqg q] at h; exact o0.ex _ _ h
 own:=λn u h=>by
  obtain ⟨a,h1,h2,h3⟩:=o.own n u h
  obtain ⟨x,hx⟩:=h3.some
  rw [hx] at h3
  refine ⟨a,h1,?_,?_⟩
  ·by_cases q:Vw w a
   ·exact Qz4 q
   ·rw [Qqg q]
    exact e.gn a x hx h3.nt (by rw [Qol q]; exact h2) λn=>Qnm
  ·show RelO T w.r (w.unview w0).G u (w0.H a)
   rw [e.fr a x hx h3.nt λn=>Qnm]
   exact h3.mono (Yp.refl _) λb z hz=>Qs8 o e hz
 inj:=o.inj
 dom:=λn a h=>by
  obtain ⟨h1,x,h2⟩:=o.dom n a h
  exact ⟨h1,e.al a x h2⟩
 nd:=o.nd
 tb:=λc P q=>by
  have nv:¬ Vw w P:=λz=>by
   obtain ⟨n,h⟩:=z.at_
   exact (o.tb c P q).no n h
  obtain ⟨ps,h1,h2,h3⟩:=(o0.tb c P q).at_
  refine ⟨⟨ps,h1,h2,λpos cv hc=>?_⟩,by rw [Qqg nv]; exact (o0.tb c P q).gn,λn h=>(o.tb c P q).no n h⟩
  obtain ⟨d,e1,e2⟩:=h3 pos cv hc
  refine ⟨d,e1,?_⟩
  by_cases z:Vw w d
  ·obtain ⟨vs,hv⟩:=Qw4 o e z
   rw [hv] at e2
   cases e2
  ·rw [Qqg z]; exact e2
theorem Ext.unview {w0:Wd} (o:Ok T w) (e:Ext w.view w0):Ext w (w.unview w0) where
 le:=Yp.refl _
 ex:=λb u h=>Qs8 o e h
 fr:=λa u h nt _=>e.fr a u h nt λn=>Qnm
 sub:=λn a h=>.inl h
 al:=e.al
 gn:=λa u h nt hG hn=>by
  have q:¬ Vw w a:=λz=>by
   obtain ⟨n,h⟩:=z.at_
   exact hn n h
  rw [Qqg q]
  exact e.gn a u h nt (by rw [Qol q]; exact hG) λn=>Qnm
theorem Qvn (o:Ok T w) {x:Mir.W} {v:V} (h:w.rel T x v):RelW T w.r w.view.G (rd w.S x) v:=by
 have m:RelW T w.r w.view.G x v:=h.mono (Yp.refl _) λb u q=>Qk6 o q
 cases x with
 | ref n =>
  show RelW T w.r w.view.G (match w.S.get n with | some (.lst xs)=>.lst xs | _=>.ref n) v
  cases g:w.S.get n with
  | none=>exact m
  | some so =>
   cases so with
   | lst ws =>
    obtain ⟨a,vs,rfl,at_,hG,hH,q⟩:=o.lstAt g h
    exact .lst (by rw [Qrm ⟨n,ws,g,at_.2⟩]; exact hH) (q.mono (Yp.refl _) λb u z=>Qk6 o z)
   | ins c fs=>exact m
   | dct _=>exact m
   | dcx _=>exact m
 | _=>exact m
theorem Qo4 (o:Ok T w):∀ {xs:List Mir.W} {vs:List V},w.rels T xs vs->RelWs T w.r w.view.G (xs.map (rd w.S)) vs
 | [],_,.nil=>.nil
 | _::_,_,.cons h q=>.cons (Qvn o h) (Qo4 o q)
theorem Qty {m:MF} {xs:List Mir.W} {Q:VK} {E:XK} (o:Ok T w) (h:Jl T w (purV m xs w.S) (QW T Q) E):Jq (xs.map (rd w.S))=true/\Jl T w.view (m (xs.map (rd w.S)) E0) (QW T Q) E:=by
 unfold purV at h
 cases hn:Jq (xs.map (rd w.S)) with
 | false=>rw [hn] at h; exact h.elim
 | true =>
  rw [hn] at h
  refine ⟨rfl,?_⟩
  have h':Jl T w (match m (xs.map (rd w.S)) E0 with | .ok v _=>if K8 v&&Qen v then .ok v w.S else .bad | _=>.bad) (QW T Q) E:=h
  cases q:m (xs.map (rd w.S)) E0 with
  | bad=>rw [q] at h'; exact h'.elim
  | err c fs S'=>rw [q] at h'; exact h'.elim
  | ok x S' =>
   rw [q] at h'
   have h2:Jl T w (if (K8 x&&Qen x)=true then .ok x w.S else .bad) (QW T Q) E:=h'
   cases hx:(K8 x&&Qen x) with
   | false=>rw [hx] at h2; exact h2.elim
   | true =>
    rw [hx] at h2
    rw [Bool.and_eq_true] at hx
    intro w0 o0 e0 hs v rv
    refine h2 (w.unview w0) (o.unview o0 e0) (Ext.unview o e0) rfl v ?_
    have r1:RelW T w.r w0.G x v:=rv.nor hx.1
    refine r1.nol (λb u hb nl=>?_) hx.2
    by_cases z:Vw w b
    ·obtain ⟨vs,hv⟩:=Qw4 o e0 z
     rw [hv] at hb
     cases hb
     exact absurd rfl (nl vs)
    ·show (w.unview w0).G b=some u
     rw [Qqg z]; exact hb
end
section
variable {T:Tab} {E:XK} {c:Nat} {m:MF} {C:Addr} {w1:Wd} {xs:List Mir.W} {vs:List V} {Q:VK} {x dx:Addr}
theorem QBu (hC:T.cls c=some C) (o1:Ok T w1) (rv:w1.rels T xs vs) (h1:Jl T w1 (purV (Y6 c m) xs w1.S) (QW T Q) E) (hx:w1.H x=none) (hdx:w1.H dx=none) (hne:dx≠x) :
  Kc T m (.ref x::vs) (upd (upd w1.H dx (.own x)) x (.ins C dx [])) (λv H3=>v=.non/\Q (.ref x) H3) E:=by
 obtain ⟨hn,h2⟩:=Qty o1 h1
 exact Qxg (w1:=w1.view) hC o1.view ((Qo4 o1 rv).nor hn) h2 hx hdx hne
end
section
variable {X:Cx} {nm:Nm} {E:XK} {pos p:Pos} {k:Nat} {x:Str} {m:MF} {c:Nat} {e:Expr} {es:List Expr} {a:MA}
theorem Qu0 (G:MkG X.prog X.w X.K X.mg X.base nm k x c m) (hr:Room (k+1) X.A) (ha:WA X nm E (e::es) a) (hg:Gl X x:=by rfl)
  (hdb:(x == ("__debug__" : Str))=false:=by decide) (he:starEach (e::es) X.env=(false,eval e X.env)::starEach es X.env:=by rfl) (hpl:(backTo pos (starEach es X.env)).any (·.1)=false:=by rfl):WE X nm E (.Call (.Name x p) (e::es) [] pos) (Jg (purV (Y6 c m)) a):=by
 obtain ⟨C,f,fd,ps,h1,h2,h3,h4,h5⟩:=G.ex
 refine Yw (pe_make h3 h5 hr hg h2 h4 .nil (Qqr (E:=E)) ha hdb he hpl) fun σ H Q h=>?_
 obtain ⟨w,d,eH,o,re,h⟩:=h
 subst eH
 refine Qev (Qc7 o re h) ?_
 rintro vs H1 ⟨w1,xs,rfl,o1,x1,re1,rv,h1'⟩ x dx hx hdx hne
 rw [List.append_nil]
 exact QBu h1 o1 rv h1' hx hdx hne
end
end MW
namespace MW
open PySem L2 Mir
def tEqP (sup:Nat->List Nat) (tab:List (Nat×MF)) (S:Store):List Mir.W->List Mir.W->Bool
 | [],[]=>true
 | .obj c fs::r,y::s=>(match Qds tab c with
  | some f=>Qdu sup S c y&&(match Jj f [.obj c fs,y] S with | .ok (.bl true) _=>true | _=>false)
  | none=>false)&&tEqP sup tab S r s
 | _,_=>false
def Qsr (sup:Nat->List Nat) (tab:List (Nat×MF)):Mir.W->Mir.W->Store->Out Mir.W:=λx y S=>match x,y with
 | .tup xs,.tup ys=>if tEqP sup tab S xs ys then .ok (.bl false) S else .bad
 | _,_=>.bad
end MW
namespace GT
open PySem PySem.SeqAt
open AutoSeq1 (wpAny_loadPart')
open MeetsSeq MeetsSeq2 MeetsSeq3 SeqRoads2
section
variable {prog:Program} {w:World} {A:Around} {R:Result->Shared->Prop}
theorem Qtb (l b:Addr) (items items2:Array Value) (n n2:Nat) (dd dd2:Option Addr) (sl sl2:Array (Option Value)) (hsz:items.size=items2.size) (I:Nat->Shared->Prop)
  (turn:∀ i (h1:i<items.size) (h2:i<items2.size) s,I i s->wpAny (model prog w) A.in1 (eqBool items[i] items2[i]) (λr s'=>r=true/\I (i+1) s') (λe s'=>R (.error e) s') s)
  (fin:∀ s,I items.size s->R (.ok (.ret (.bool false))) s) {s:Shared} (hl1:s.heap.get? l=some { cls:=.type "tuple",dict:=dd,data:=.seq items n,slots:=sl }) (hb1:s.heap.get? b=some { cls:=.type "tuple",dict:=dd2,data:=.seq items2 n2,slots:=sl2 }) (h:I 0 s) :
  wpAny (model prog w) A.in1 (Builtin.«tuple.__ne__» ⟨[.ref l,.ref b],[]⟩) (GQ.FinOf prog w A R) (λe s'=>R (.error e) s') s:=by
 have f2:=AutoSeq1.sub_tuple_tuple
 have hZ:(items.toList.zip items2.toList).length=items.size:=by simp [hsz]
 have h0:=h
 obtain ⟨hp,g,d,tk,os⟩:=s
 wp_walk using wpAny_loadPart' hl1,wpAny_loadPart' hb1,wpAny_forIn_list _ (λrest b s'=>b.1=none/\∃ i,rest=(items.toList.zip items2.toList).drop i/\i<=items.size/\I i s') _
 case turn =>
  rintro ⟨y,x⟩ rest b s' ⟨hb',i,hz,hi,hI⟩
  have hlt:i<(items.toList.zip items2.toList).length:=by
   rcases Nat.lt_or_ge i (items.toList.zip items2.toList).length with h' | h'
   ·exact h'
   ·rw [List.drop_of_length_le h'] at hz; cases hz
  have h1:i<items.size:=hZ ▸ hlt
  have h2:i<items2.size:=hsz ▸ h1
  rw [List.drop_eq_getElem_cons hlt] at hz
  injection hz with hyx hrest
  have hy:y=items[i]:=by have:=congrArg Prod.fst hyx; simpa using this
  have hx:x=items2[i]:=by have:=congrArg Prod.snd hyx; simpa using this
  subst hy hx
  refine wpAny_bind (wpAny_mono (turn i h1 h2 s' hI) (λr s2 q2=>?_) λ_ _ x=>x)
  obtain ⟨hr,q2⟩:=q2
  subst hr
  wp_walk
  exact ⟨rfl,i+1,hrest,h1,q2⟩
 case fin =>
  rintro ⟨b1,b2⟩ s' ⟨hb',i,hz,hi,hI⟩
  simp only at hb'
  subst hb'
  have hge:items.size<=i:=by
   rcases Nat.lt_or_ge i (items.toList.zip items2.toList).length with h' | h'
   ·rw [List.drop_eq_getElem_cons h'] at hz; cases hz
   ·exact hZ ▸ h'
  have hi':i=items.size:=by omega
  have hR:R (.ok (.ret (.bool false))) s':=fin s' (hi' ▸ hI)
  wp_walk
  simpa [Builtin.Tuple.tupleCompareSizes,hsz] using hR
 case h =>
  exact ⟨rfl,0,rfl,Nat.zero_le _,h0⟩
end
section
variable {prog:Program} {w:World} {A:Around} {E:Value->Shared->Prop} {s:Shared}
theorem rc_tupNe {l b:Addr} {items items2:Array Value} {Q:Value->Shared->Prop} (hsz:items.size=items2.size) (hu:A.units<cLine) (I:Nat->Shared->Prop)
  (hl:s.heap.IsTuple l items) (hb:s.heap.IsTuple b items2)
  (turn:∀ i (h1:i<items.size) (h2:i<items2.size) s,I i s->wpAny (model prog w) A.in1 (eqBool items[i] items2[i]) (λr s'=>r=true/\I (i+1) s') E s)
  (fin:∀ s,I items.size s->Q (.bool false) s) (h:I 0 s):wpAny (model prog w) A (richCompare .NotEq (.ref l) (.ref b)) Q E s:=by
 obtain ⟨⟨cls,dd,data,sl⟩,ho,hc,n,hd⟩:=id hl
 obtain ⟨⟨cls2,dd2,data2,sl2⟩,ho2,hc2,n2,hd2⟩:=id hb
 simp only at hc hd hc2 hd2
 subst hc hd hc2 hd2
 refine wpAny_richCompare_same_room (op:=.NotEq) ⟨_,ho,rfl⟩ ⟨_,ho2,rfl⟩ F.slot_tuple_ne (GQ.call_here F.slot_tuple_ne ⟨_,ho,rfl⟩ F.entry_tuple_ne (F.args_tuple_ne_2 _ _) ?_) hu
 exact Qtb (R:=wants (λv s'=>v≠.notImplemented/\Q v s') E) l b items items2 n n2 dd dd2 sl sl2 hsz I turn (λs' q=>⟨(λx=>nomatch x),fin s' q⟩) ho ho2 h
end
end GT
namespace MW
open PySem PySem.Spec PyProof.Rows L2 Mir
section
variable {X:Cx} {nm:Nm} {E:XK} {sup:Nat->List Nat} {tab:List (Nat×MF)} {k:Nat}
theorem EqC.Jj {P:Program} {w:World} {K:Frag} {mg:Str->Option Value} {base:Heap} {nm:Nm} {k c:Nat} {m:MF} (G:EqC P w K mg base nm k c m):EqC P w K mg base nm k c (Mir.Jj m):=by
 obtain ⟨C,f,fd,ps,h1,h2,h3,h4,h5,h6,h7⟩:=G.ex
 exact ⟨C,f,fd,ps,h1,h2,h3,h4,h5,h6,h7.imp λ_ _ _ _ h=>Qrv h⟩
theorem Qrt {S:Store}:∀ {xs ys:List Mir.W},tEqP sup tab S xs ys=true->xs.length=ys.length
 | [],[],_=>rfl
 | [],_::_,h=>by cases h
 | x::r,[],h=>by cases x <;> cases h
 | x::r,y::s,h=>by
  cases x with
  | obj c fs =>
   unfold tEqP at h
   rw [Bool.and_eq_true] at h
   rw [List.length_cons,List.length_cons,Qrt h.2]
  | _=>cases h
theorem Qtf {S:Store}:∀ {xs ys:List Mir.W} (i:Nat) {x y:Mir.W},tEqP sup tab S xs ys=true->xs[i]?=some x->ys[i]?=some y->∃ c fs f,x=.obj c fs/\Qds tab c=some f/\Qdu sup S c y=true/\∃ S',Jj f [x,y] S=.ok (.bl true) S'
 | [],_,i,x,y,h,h1,h2=>by simp at h1
 | z::r,[],i,x,y,h,h1,h2=>by simp at h2
 | z::r,t::s,i,x,y,h,h1,h2=>by
  cases z with
  | obj c fs =>
   unfold tEqP at h
   rw [Bool.and_eq_true] at h
   cases i with
   | zero =>
    simp at h1 h2
    subst h1 h2
    obtain ⟨h,_⟩:=h
    cases g:Qds tab c with
    | none=>rw [g] at h; cases h
    | some f =>
     rw [g] at h
     have h':(Qdu sup S c t&&(match Jj f [.obj c fs,t] S with | .ok (.bl true) _=>true | _=>false))=true:=h
     rw [Bool.and_eq_true] at h'
     refine ⟨c,fs,f,rfl,g,h'.1,?_⟩
     have q:=h'.2
     split at q
     ·next S' e=>exact ⟨S',e⟩
     ·cases q
   | succ i =>
    simp at h1 h2
    exact Qtf i h.2 h1 h2
  | _=>cases h
theorem Qvq {f:MF} {xs:List Mir.W} {v:Mir.W} {S S':Store} (h:Jj f xs S=.ok v S'):S'=S:=by
 unfold Jj at h
 split at h
 ·cases q:f xs E0 with
  | bad=>rw [q] at h; cases h
  | err c fs z=>
   rw [q] at h
   have h':(if Ko fs=true then Out.err c fs S else .bad)=.ok v S':=h
   split at h' <;> cases h'
  | ok x z =>
   rw [q] at h
   have h':(if K8 x=true then Out.ok x S else .bad)=.ok v S':=h
   split at h'
   ·cases h'; rfl
   ·cases h'
 ·cases h
def LpT (X:Cx) (nm:Nm) (pins:List (Addr×Obj)) (σ:L2.St) (w:Wd) (s':Shared):Prop:=∃ w',Inv X pins σ w'.H s'/\Ok (tb X nm) w'/\Ext w w'/\w'.S=w.S
theorem Qyq (F:SF (tb X nm) sup) (G:EqT X.prog X.w X.K X.mg X.base nm k tab) (hr:Room (k+2) X.A):OpR X (compareOp .NotEq) (Y7 (tb X nm) (Qsr sup tab) E):=by
 rintro pins s σ H x y v u Q I r1 r2 ⟨w,a,b,rfl,o,ra,rb,h⟩
 unfold Qsr at h
 cases a with
 | tup xs =>
  cases b with
  | tup ys =>
   have h':Jl (tb X nm) w (if tEqP sup tab w.S xs ys=true then .ok (.bl false) w.S else .bad) (QW (tb X nm) Q) E:=h
   cases ht:tEqP sup tab w.S xs ys with
   | false=>rw [ht] at h'; exact h'.elim
   | true =>
    rw [ht] at h'
    cases ra with
    | @tup al _ vs1 hs1 q1 =>
    cases rb with
    | @tup bl _ vs2 hs2 q2 =>
    obtain rfl:v=Value.ref al:=r1
    obtain rfl:u=Value.ref bl:=r2
    obtain ⟨its,t1,e1,z1⟩:=I.tuple (Qer o.ex hs1)
    obtain ⟨its2,t2,e2,z2⟩:=I.tuple (Qer o.ex hs2)
    have hl:=Qrt ht
    have hsz:its.toArray.size=its2.toArray.size:=by rw [List.size_toArray,List.size_toArray,<- t1.length,<- t2.length,<- q1.length,<- q2.length]; exact hl
    show wpAny (model X.prog X.w) X.A (richCompare .NotEq (.ref al) (.ref bl)) (EP X pins σ Q) X.xe s
    refine GT.rc_tupNe hsz (by have:=hr.un; omega) (λ_ s'=>LpT X nm pins σ w s') e1 e2 (λi h1 h2 s' q=>?_) (λs' q=>?_) ⟨w,I,o,Ext.refl w,rfl⟩
    ·obtain ⟨w',I',o',x',hS⟩:=q
     have k1:i<its.length:=by simpa using h1
     have k2:i<its2.length:=by simpa using h2
     have g1:its[i]?=some its.toArray[i]:=by rw [List.getElem?_eq_getElem k1] <;> simp
     have g2:its2[i]?=some its2.toArray[i]:=by rw [List.getElem?_eq_getElem k2] <;> simp
     have m1:i<vs1.length:=by rw [t1.length]; exact k1
     have m2:i<vs2.length:=by rw [t2.length]; exact k2
     obtain ⟨u1,hu1,ru1⟩:=t1.get (List.getElem?_eq_getElem m1)
     obtain ⟨u2,hu2,ru2⟩:=t2.get (List.getElem?_eq_getElem m2)
     rw [g1] at hu1
     rw [g2] at hu2
     rw [Option.some.inj hu1,Option.some.inj hu2]
     obtain ⟨x1,hx1,rx1⟩:=q1.getV (List.getElem?_eq_getElem m1)
     obtain ⟨x2,hx2,rx2⟩:=q2.getV (List.getElem?_eq_getElem m2)
     obtain ⟨c,fs,f,rfl,ht',hro,S',hp⟩:=Qtf i ht hx1 hx2
     have hSS:=Qvq hp
     subst hSS
     obtain ⟨C,fa,fd,ps,g1',g2',g3,g4,g5,g6,g7⟩:=(G c f ht').Jj.ex
     have rx1':w'.rel (tb X nm) (.obj c fs) vs1[i]:=rx1.mono x'.le x'.ex
     have rx2':w'.rel (tb X nm) x2 vs2[i]:=rx2.mono x'.le x'.ex
     have gcl:Qdh w'.S (.obj c fs)=some c:=rfl
     obtain ⟨a',C',dx,ws,fs',ea,hH,hC',_,_⟩:=o'.ins gcl rx1'
     obtain rfl:C'=C:=Option.some.inj (hC'.symm.trans g1')
     rw [ea] at ru1 rx1'
     obtain rfl:u1=Value.ref a':=ru1
     obtain ⟨mA,O,_,_,_,_⟩:=ins_get I'.hok hH
     obtain ⟨oD,J,_⟩:=O.look
     have hro':Qdu sup w'.S c x2=true:=by rw [hS]; exact hro
     obtain ⟨tv,ty,nf⟩:=Qns F o' I' rx2' ru2 g1' hro'
     obtain ⟨mF,hF⟩:=I'.fr
     have done:∀ (s2:Shared) ,(∃ w1,Inv X pins σ w1.H s2/\Ok (tb X nm) w1/\Ext w' w1/\w1.S=w'.S)->LpT X nm pins σ w s2:=λs2 ⟨w1,I1,o1,x1,hS1⟩=>⟨w1,I1,o1,x'.trans x1,hS1.trans hS⟩
     by_cases hab:u2=Value.ref a'
     ·subst hab
      exact SeqAt.EqAt.same (A:=X.A.in1) (s:=s') (.ref a') X.prog X.w X.xe _ ⟨rfl,done s' ⟨w',I',o',Ext.refl _,rfl⟩⟩
     ·unfold eqBool
      refine wpAny_holding ?_
      refine wpAny_ite_split (λq=>absurd (eq_of_beq q).symm (λz=>hab (by rw [z]))) (λ_=>?_)
      have hr1:Room (k+1) X.A.in1:=hr.in1
      have hpo:Jl (tb X nm) w' (Jj f [.obj c fs,x2] w'.S) (λr w1=>∃ cc,r=.bl cc/\(λ(cc:Bool) (H':Hp)=>cc=true/\∃ w1,w1.H=H'/\Ok (tb X nm) w1/\Ext w' w1/\w1.S=w'.S) cc w1.H) E:=by
       rw [hS,hp]
       intro w1 o1 x1 hs1
       exact ⟨true,rfl,rfl,w1,rfl,o1,x1,hs1⟩
      let QQ:Bool->Hp->Prop:=λcc H'=>cc=true/\∃ w1,w1.H=H'/\Ok (tb X nm) w1/\Ext w' w1/\w1.S=w'.S
      have rc:wpAny (model X.prog X.w) X.A.in1 (richCompare .Eq (.ref a') u2) (λr s2=>r=Value.bool true/\LpT X nm pins σ w s2) X.xe s' :=
       PySem.W.cmp_K (op:=.Eq) (tb:=tv) (by have:=hr1.un; omega) hF I'.ok.mod.kin J ty nf g2' g3 (thn (Qnu (P0:=E) (A:=X.A.in1) (Q:=QQ) (pins:=pins) (σ:=σ) (hr1.mono (Nat.le_succ _)) rfl g6 g7 o' I' rx1' rx2' rfl ru2 hpo) λr s2 hq=>by
        obtain ⟨cc,H',e,I2,q⟩:=hq
        obtain ⟨rfl,w1,rfl,o1,x1,hS1⟩:=q
        subst e
        exact ⟨rfl,done s2 ⟨w1,I2,o1,x1,hS1⟩⟩)
      refine wpAny_bind (wpAny_mono rc (λv' s2 hv=>?_) λ_ _ z=>z)
      obtain ⟨rfl,q⟩:=hv
      exact wpAny_truthy_bool ⟨rfl,q⟩
    ·obtain ⟨w',I',o',x',hS⟩:=q
     exact ⟨.bl false,w'.H,I',rfl,h' w' o' x' hS _ (.bl _)⟩
  | _=>exact h.elim
 | _=>exact h.elim
end
end MW
namespace G
open PySem PySem.Spec PyProof.Rows L2 Mir MW
abbrev V:=L2.V
theorem Xe:anl.Nodup:=by decide +kernel
def Jw (w:World):Nm:=⟨cnl,anl,Xe,w⟩
theorem Qpl {w:World}:("need_row" : Str)∉(Jw w).an:=(by decide +kernel:("need_row" : Str)∉anl)
abbrev s_0_:List Nat:=[110,111,110,101]
theorem s_0:TL.tl ("none" : Str)=s_0_:=by decide +kernel
abbrev s_1_:List Nat:=[105,110]
theorem s_1:TL.tl ("in" : Str)=s_1_:=by decide +kernel
abbrev s_2_:List Nat:=[111,117,116]
theorem s_2:TL.tl ("out" : Str)=s_2_:=by decide +kernel
abbrev s_3_:List Nat:=[97]
theorem s_3:TL.tl ("a" : Str)=s_3_:=by decide +kernel
abbrev s_4_:List Nat:=[97,98]
theorem s_4:TL.tl ("ab" : Str)=s_4_:=by decide +kernel
abbrev s_5_:List Nat:=[122,122,122,122]
theorem s_5:TL.tl ("zzzz" : Str)=s_5_:=by decide +kernel
abbrev s_6_:List Nat:=Ud
theorem s_6:TL.tl ("yes" : Str)=s_6_:=by decide +kernel
abbrev s_7_:List Nat:=[108,97,116,101]
theorem s_7:TL.tl ("late" : Str)=s_7_:=by decide +kernel
abbrev s_8_:List Nat:=Uh
theorem s_8:TL.tl ("join" : Str)=s_8_:=by decide +kernel
abbrev s_9_:List Nat:=[98]
theorem s_9:TL.tl ("b" : Str)=s_9_:=by decide +kernel
abbrev Qvj:List Nat:=[119,111,114,100]
theorem s_10:TL.tl ("word" : Str)=Qvj:=by decide +kernel
abbrev Qtr:List Nat:=[110,111]
theorem s_11:TL.tl ("no" : Str)=Qtr:=by decide +kernel
abbrev Qvi:List Nat:=[99,117,116]
theorem s_12:TL.tl ("cut" : Str)=Qvi:=by decide +kernel
abbrev Qyd:List Nat:=[98,97,99,107]
theorem s_13:TL.tl ("back" : Str)=Qyd:=by decide +kernel
abbrev Qqq:List Nat:=Un
theorem s_14:TL.tl ("part" : Str)=Qqq:=by decide +kernel
abbrev Qvh:List Nat:=Ue
theorem s_15:TL.tl ("late yes" : Str)=Qvh:=by decide +kernel
abbrev Ql9:List Nat:=Uk
theorem s_16:TL.tl ("step" : Str)=Ql9:=by decide +kernel
abbrev Qvg:List Nat:=Ug
theorem s_17:TL.tl ("late no" : Str)=Qvg:=by decide +kernel
abbrev Qsp:List Nat:=Ub
theorem s_18:TL.tl ("one" : Str)=Qsp:=by decide +kernel
abbrev Qtq:List Nat:=Uc
theorem s_19:TL.tl ("any" : Str)=Qtq:=by decide +kernel
abbrev Qso:List Nat:=Uf
theorem s_20:TL.tl ("other" : Str)=Qso:=by decide +kernel
abbrev Qij:List Nat:=Ua
theorem s_21:TL.tl ("same" : Str)=Qij:=by decide +kernel
abbrev QAe:List Nat:=[115,116,114,105,107,101]
theorem s_22:TL.tl ("strike" : Str)=QAe:=by decide +kernel
abbrev Qyc:List Nat:=[122,122]
theorem s_23:TL.tl ("zz" : Str)=Qyc:=by decide +kernel
abbrev Qd9:List Nat:=[32]
theorem s_24:TL.tl (" " : Str)=Qd9:=by decide +kernel
abbrev Qqp:List Nat:=Ul
theorem s_25:TL.tl ("marks" : Str)=Qqp:=by decide +kernel
abbrev Qqo:List Nat:=Um
theorem s_26:TL.tl ("counted" : Str)=Qqo:=by decide +kernel
abbrev Qqn:List Nat:=[107,101,101,112,115]
theorem s_27:TL.tl ("keeps" : Str)=Qqn:=by decide +kernel
abbrev Qtp:List Nat:=[10]
theorem s_28:TL.tl ("\n" : Str)=Qtp:=by decide +kernel
abbrev Ql8:List Nat:=Ui
theorem s_29:TL.tl (" to " : Str)=Ql8:=by decide +kernel
abbrev Ql7:List Nat:=Uj
theorem s_30:TL.tl (" by " : Str)=Ql7:=by decide +kernel
abbrev Qto:List Nat:=[106,111,105,110,32]
theorem s_31:TL.tl ("join " : Str)=Qto:=by decide +kernel
abbrev Qyb:List Nat:=[116,111]
theorem s_32:TL.tl ("to" : Str)=Qyb:=by decide +kernel
abbrev Qya:List Nat:=[98,121]
theorem s_33:TL.tl ("by" : Str)=Qya:=by decide +kernel
abbrev Qx9:List Nat:=[107,105,110,100]
theorem s_34:TL.tl ("kind" : Str)=Qx9:=by decide +kernel
abbrev Qtn:List Nat:=[111,108,100]
theorem s_35:TL.tl ("old" : Str)=Qtn:=by decide +kernel
abbrev Qtm:List Nat:=[116,104,101,110]
theorem s_36:TL.tl ("then" : Str)=Qtm:=by decide +kernel
abbrev Qqm:List Nat:=[97,100,100]
theorem s_37:TL.tl ("add" : Str)=Qqm:=by decide +kernel
abbrev Qx8:List Nat:=[104,101,114,101]
theorem s_38:TL.tl ("here" : Str)=Qx8:=by decide +kernel
abbrev Qx7:List Nat:=[116,104,101,114,101]
theorem s_39:TL.tl ("there" : Str)=Qx7:=by decide +kernel
abbrev Qx6:List Nat:=[108,101,102,116]
theorem s_40:TL.tl ("left" : Str)=Qx6:=by decide +kernel
abbrev Qx5:List Nat:=[114,105,103,104,116]
theorem s_41:TL.tl ("right" : Str)=Qx5:=by decide +kernel
abbrev Qx4:List Nat:=[109,111,114,101]
theorem s_42:TL.tl ("more" : Str)=Qx4:=by decide +kernel
abbrev Qx3:List Nat:=[112,97,114,116,32]
theorem s_43:TL.tl ("part " : Str)=Qx3:=by decide +kernel
abbrev Qx2:List Nat:=[114,111,119,115]
theorem s_44:TL.tl ("rows" : Str)=Qx2:=by decide +kernel
abbrev Qx1:List Nat:=[109,97,114,107]
theorem s_45:TL.tl ("mark" : Str)=Qx1:=by decide +kernel
structure Zf (w:World) (K:Frag) (mg:Str->Option Value):Prop where
 sf:SF ⟨K,mg,(Jw w)⟩ sup
 b_IndexError:mg "IndexError" = none
 b_KeyError:mg "KeyError" = none
 b_ValueError:mg "ValueError" = none
 b_abs:mg "abs" = none
 b_all:mg "all" = none
 b_any:mg "any" = none
 b_bool:mg "bool" = none
 b_dict:mg "dict" = none
 b_enumerate:mg "enumerate" = none
 b_int:mg "int" = none
 b_isinstance:mg "isinstance" = none
 b_len:mg "len" = none
 b_list:mg "list" = none
 b_max:mg "max" = none
 b_min:mg "min" = none
 b_range:mg "range" = none
 b_repr:mg "repr" = none
 b_set:mg "set" = none
 b_sorted:mg "sorted" = none
 b_str:mg "str" = none
 b_sum:mg "sum" = none
 b_super:mg "super" = none
 b_tuple:mg "tuple" = none
 b_zip:mg "zip" = none
 Ke:GlobC K mg (Jw w) "LETTERS" Ke
 Xc:GlobC K mg (Jw w) "DIGITS" Xc
 JK:GlobC K mg (Jw w) "MOST_LETTERS" JK
 Kr:GlobC K mg (Jw w) "MOST_ADD" Kr
 KN:GlobC K mg (Jw w) "BARRED" KN
 Yj:GlobC K mg (Jw w) "KINDS" Yj
 Kf:GlobC K mg (Jw w) "EDITS" Kf
 KH:GlobC K mg (Jw w) "LEAST_LINES" KH
 g_HEADS:GlobC K mg (Jw w) "HEADS" g_HEADS
 c_Row:ClG K mg (Jw w) "Row" 0
 c_Step:ClG K mg (Jw w) "Step" 1
 c_Join:ClG K mg (Jw w) "Join" 2
 c_Part:ClG K mg (Jw w) "Part" 3
 c_Book:ClG K mg (Jw w) "Book" 4
variable {P:Program} {w:World} {K:Frag} {mg:Str->Option Value} {base:Heap}
def Qd0:MF:=fnOf 2 5 (Jh (Jx (.nm 2) (JZ [3] (Ji (Yk sl (Ja 0) (K9 (Ja 1)) (K9 (eC (.int 61))))) (.nm 3) Mir.tYes (Jg fAbs (Jd (Jg KZ (Jd (Ja 3) Jb)) Jb)))) (Jh (Jx (.nm 4) (Jc JL (eC (.int 32452867)) (Jc Qgw (eC (.int 43)) (Ja 1)))) (Jh (KY (Ji (Ja 2)) (.nm 3) (Jx (.nm 4) (Jc Qe0 (Jg KZ (Jd (Jc JL (Jc JL (Jc Qgw (Ja 4) (eC (.int 48271))) (Jc Qe0 (Jg KZ (Jd (Ja 3) Jb)) (eC (.int 2147483629)))) (eC (.int 23))) Jb)) (eC (.int 2147483647))))) (Jv (Qfc (Jd (JS Qt5 (JZ [3] (Ji (Ja 2)) (.nm 3) (Mir.tB (Jc opGe (Ja 3) (Jc Qt6 (eC (.int 10)) (eC (.int 18))))) (Ja 3))) (Jd (Ja 4) Jb)))))))
theorem Qlz:FnScope ["_law_script", "_law_base", "_law_cells", "_law_cell", "_law_mixed_here"] ["_law_script", "_law_base"] (defScope Qd7):=⟨rfl,rfl,rfl,by decide +kernel,rfl,by decide +kernel,by decide +kernel⟩
theorem Qqz (Z:Zf w K mg) {f:Addr} {fd:FuncData} (F:Fun K "_law_deal" "_law_deal" Qd7 f fd):FnOk P w K mg base CX0 1 f fd ["_law_script", "_law_base"] (Kc ⟨K,mg,(Jw w)⟩ Qd0):=by
 have law_deal_nd:=(Qlz).nd
 refine YB F Qlz rfl rfl λcdv A outer s H E hr=>?_
 have hu:=Yo hr
 have hv:=Yr hr
 exact (Kl (Qs3 (i:=2) rfl law_deal_nd rfl rfl (sw_true rfl rfl rfl (by decide +kernel)) (own:=[("_law_cell",3)]) (vs:=[3]) rfl (by decide) (blkOk_by (N:=["_law_script", "_law_base", "_law_cells", "_law_cell", "_law_mixed_here"]) (sc:=defScope Qd7) (by decide +kernel)) (YC (Qfl (Je 0) (Qb9 (Je 1)) (Qb9 JB))) (λ_ _ _ _ _=>(Yb law_deal_nd)) (λ_ _ _ _ _=>Qb2) (λ_ _ _ _ _=>(Qbm cw_abs Z.b_abs (by decide +kernel) (Jf (Qa0 cw_int Z.b_int (by decide +kernel) (Jf (Je 3) Jp)) Jp)))) (Kl (Qcy (i:=4) law_deal_nd (Kv Yg JB (Kv Qqt JB (Je 1)))) (Kl (Qhd PassesOwn.never rfl (YC (Je 2)) (Yb law_deal_nd) (Kg (Qcy (i:=4) law_deal_nd (Kv Qmd (Qa0 cw_int Z.b_int (by decide +kernel) (Jf (Kv Yg (Kv Yg (Kv Qqt (Je 4) JB) (Kv Qmd (Qa0 cw_int Z.b_int (by decide +kernel) (Jf (Je 3) Jp)) JB)) JB) Jp)) JB)))) (Kg (Yd (Qgg (Jf (Qxn (Qd2 rfl law_deal_nd (own:=[("_law_cell",3)]) (vs:=[3]) rfl (by decide) (blkOk_by (N:=["_law_script", "_law_base", "_law_cells", "_law_cell", "_law_mixed_here"]) (sc:=defScope Qd7) (by decide +kernel)) (YC (Je 2)) (λ_ _ _ _ _=>(Yb law_deal_nd)) (λ_ _ _ _ _=>(Qfj (YL QAy (Je 3) (Kv Qyp JB JB)))) (λ_ _ _ _ _=>(Je 3)))) (Jf (Je 4) Jp))))))))
def Yy:MF:=fnOf 2 3 (Jh (Qc3 (Mir.tAnd (Mir.tB (Jc Ku (Jc Jk (Ja 0) (eC (.int 0))) (Ju Jb))) (Mir.tB (Jc Km (Jc Jk (Jc Jk (Ja 0) (eC (.int 0))) (JS Qil (eC (.int 1)))) (eC (.int 0))))) (JX (JT (m0 mPop) (Jc Jk (Ja 0) (eC (.int 0))) Jb)) 1000) (Jh (Yl (Mir.tB (Jc Ku (Jc Jk (Ja 0) (eC (.int 0))) (Ju Jb))) (Jh (Jx (.nm 2) (JT (m0 mPop) (Jc Jk (Ja 0) (eC (.int 0))) Jb)) (Jh (JX (JT (m1 Qbs) (Jc Jk (Ja 0) (eC (.int 0))) (Jd (Jc Qme (Ja 2) (Ja 1)) Jb))) (Jv (Jc Qe0 (Jg KZ (Jd (Ja 2) Jb)) (Ja 1))))) YK) (Jh (sIdx (Ja 0) (eC (.int 1)) (Jc Qe0 (Jg KZ (Jd (Jc JL (Jc Qgw (Jc Jk (Ja 0) (eC (.int 1))) (eC (.int 48271))) (eC (.int 29))) Jb)) (eC (.int 2147483647)))) (Jv (Jc Qe0 (Jg KZ (Jd (Jc Qme (Jc Jk (Ja 0) (eC (.int 1))) (eC (.int 16))) Jb)) (Ja 1))))))
theorem Qly:FnScope ["_law_deal_here", "_law_many", "_law_left"] ["_law_deal_here", "_law_many"] (defScope Qhs):=⟨rfl,rfl,rfl,by decide +kernel,rfl,by decide +kernel,by decide +kernel⟩
theorem Qqy (Z:Zf w K mg) {f:Addr} {fd:FuncData} (F:Fun K "_law_draw" "_law_draw" Qhs f fd):FnOk P w K mg base CX0 1 f fd ["_law_deal_here", "_law_many"] (Kc ⟨K,mg,(Jw w)⟩ Yy):=by
 have law_draw_nd:=(Qly).nd
 refine YB F Qly rfl rfl λcdv A outer s H E hr=>?_
 have hu:=Yo hr
 have hv:=Yr hr
 exact (Kl (Qnk PassesOwn.never (PW.pt (Qwo (YL (Qmc hu) (Kd (Je 0) JB) (Y4 Jp)) (Qs1 (YL (Qdx hu) (Kd (Kd (Je 0) JB) (Qxm Qqs JB)) JB)))) (Kg (YZ (Qs6 PySem.F.slot_list_pop PySem.F.type_list_pop Qw1 (Kd (Je 0) JB))))) (Kl (Qel (YL (Qmc hu) (Kd (Je 0) JB) (Y4 Jp)) (Kl (Qcy (i:=2) law_draw_nd (Qs6 PySem.F.slot_list_pop PySem.F.type_list_pop Qw1 (Kd (Je 0) JB))) (Kl (YZ (Qep PySem.F.slot_list_append PySem.F.type_list_append Qdq (Kd (Je 0) JB) (Jf (Kv Qt4 (Je 2) (Je 1)) Jp))) (Kg (Yd (Kv Qmd (Qa0 cw_int Z.b_int (by decide +kernel) (Jf (Je 2) Jp)) (Je 1)))))) Qcd) (Kl (Qzt (Je 0) JB (Kv Qmd (Qa0 cw_int Z.b_int (by decide +kernel) (Jf (Kv Yg (Kv Qqt (Kd (Je 0) JB) JB) JB) Jp)) JB)) (Kg (Yd (Kv Qmd (Qa0 cw_int Z.b_int (by decide +kernel) (Jf (Kv Qt4 (Kd (Je 0) JB) JB) Jp)) (Je 1)))))))
def Qee:MF:=fnOf 2 4 (Jh (Jx (.tp [.nm 2,.nm 3]) (Jt (Jd (Jg Qf9 (Jd (Ja 1) Jb)) (Jd (Qfc Jb) Jb)))) (Jh (Qc3 (Mir.tB (Jc Ku (Ja 2) (Ju Jb))) (JX (JT (m1 Qbs) (Ja 3) (Jd (JT (m1 Qko) (Ja 2) (Jd (Jg Yy (Jd (Ja 0) (Jd (Jg Yi (Jd (Ja 2) Jb)) Jb))) Jb)) Jb))) 1000) (Jv (eFrz (Ja 3)))))
theorem Qkf:FnScope ["_law_deal_here", "_law_some", "_law_left", "_law_found"] ["_law_deal_here", "_law_some"] (defScope Qgl):=⟨rfl,rfl,rfl,by decide +kernel,rfl,by decide +kernel,by decide +kernel⟩
theorem Qpb (Z:Zf w K mg) (Yaa:FnG P w K mg base (Jw w) 1 "_law_draw" Yy) {f:Addr} {fd:FuncData} (F:Fun K "_law_mixed" "_law_mixed" Qgl f fd):FnOk P w K mg base CX0 2 f fd ["_law_deal_here", "_law_some"] (Kc ⟨K,mg,(Jw w)⟩ Qee):=by
 have law_mixed_nd:=(Qkf).nd
 refine YB F Qkf rfl rfl λcdv A outer s H E hr=>?_
 have hu:=Yo hr
 have hv:=Yr hr
 exact (Kl (Qoi (i:=2) (j:=3) rfl law_mixed_nd (Jf (Qa0 cw_listM Z.b_list (by decide +kernel) (Jf (Je 1) Jp)) (Jf (Qgg Jp) Jp))) (Kl (Qnk PassesOwn.never (YL (Qmc hu) (Je 2) (Y4 Jp)) (Kg (YZ (Qep PySem.F.slot_list_append PySem.F.type_list_append Qdq (Je 3) (Jf (Qep PySem.F.slot_list_pop PySem.F.type_list_pop Qr7 (Je 2) (Jf (JR Yaa (hr.mono (by decide)) (Jf (Je 0) (Jf (Qbm cw_lenD Z.b_len (by decide +kernel) (Jf (Je 2) Jp)) Jp))) Jp)) Jp))))) (Kg (Yd (Qzz (Je 3))))))
def Qdf:MF:=fnOf 2 3 (Jh (Jx (.nm 2) (Ju (Jd (eC (.str s_0_)) (Jd (eC (.str s_1_)) (Jd (eC (.str s_2_)) (Jd (eC (.str s_3_)) (Jd (eC (.str s_4_)) (Jd (eC (.str s_5_)) (Jd (eC (.str s_6_)) (Jd (eC (.str s_7_)) (Jd (eC (.str s_8_)) (Jd (eC (.str s_9_)) (Jd (eC (.str Qvj)) (Jd (eC (.str Qtr)) (Jd (eC (.str Qvi)) Jb))))))))))))))) (Jv (Yk sl (Jg Qee (Jd (Ja 0) (Jd (Ja 2) Jb))) YJ (K9 (Ja 1)))))
theorem Qke:FnScope ["_law_deal_here", "_law_many", "_law_some"] ["_law_deal_here", "_law_many"] (defScope Qgk):=⟨rfl,rfl,rfl,by decide +kernel,rfl,by decide +kernel,by decide +kernel⟩
theorem Qpa (Z:Zf w K mg) (Yaz:FnG P w K mg base (Jw w) 2 "_law_mixed" Qee) {f:Addr} {fd:FuncData} (F:Fun K "_law_names" "_law_names" Qgk f fd):FnOk P w K mg base CX0 3 f fd ["_law_deal_here", "_law_many"] (Kc ⟨K,mg,(Jw w)⟩ Qdf):=by
 have law_names_nd:=(Qke).nd
 refine YB F Qke rfl rfl λcdv A outer s H E hr=>?_
 have hu:=Yo hr
 have hv:=Yr hr
 exact (Kl (Qcy (i:=2) law_names_nd (Y4 (Jf (JF s_0 (by rfl)) (Jf (JF s_1 (by rfl)) (Jf (JF s_2 (by rfl)) (Jf (JF s_3 (by rfl)) (Jf (JF s_4 (by rfl)) (Jf (JF s_5 (by rfl)) (Jf (JF s_6 (by rfl)) (Jf (JF s_7 (by rfl)) (Jf (JF s_8 (by rfl)) (Jf (JF s_9 (by rfl)) (Jf (JF s_10 (by rfl)) (Jf (JF s_11 (by rfl)) (Jf (JF s_12 (by rfl)) Jp))))))))))))))) (Kg (Yd (Qfl (JR Yaz (hr.mono (by decide)) (Jf (Je 0) (Jf (Je 2) Jp))) Qck (Qb9 (Je 1))))))
def Qef:MF:=fnOf 0 0 (Jv (Ju (Jd (eC (.str Qyd)) (Jd (eC (.str Qvi)) (Jd (eC (.str s_8_)) (Jd (eC (.str Qqq)) (Jd (eC (.str Qvj)) Jb)))))))
theorem Qkh:FnScope [] [] (defScope Qgn):=⟨rfl,rfl,rfl,by decide +kernel,rfl,by decide +kernel,by decide +kernel⟩
theorem Qpd (Z:Zf w K mg) {f:Addr} {fd:FuncData} (F:Fun K "_law_edits" "_law_edits" Qgn f fd):FnOk P w K mg base CX0 1 f fd [] (Kc ⟨K,mg,(Jw w)⟩ Qef):=by
 have law_edits_nd:=(Qkh).nd
 refine YB F Qkh rfl rfl λcdv A outer s H E hr=>?_
 have hu:=Yo hr
 have hv:=Yr hr
 exact (Kg (Yd (Y4 (Jf (JF s_13 (by rfl)) (Jf (JF s_12 (by rfl)) (Jf (JF s_8 (by rfl)) (Jf (JF s_14 (by rfl)) (Jf (JF s_10 (by rfl)) Jp))))))))
def Qbi:MF:=fnOf 2 8 (Jh (Jx (.tp [(.nm 2),(.nm 3),(.nm 4)]) (Jt (Jd (Jc Jk (Ja 0) (eC (.int 0))) (Jd (Jc Jk (Ja 1) (eC (.int 0))) (Jd (Qfc Jb) Jb))))) (Jh (KY (Ji (Jt (Jd (eC (.str s_6_)) (Jd (eC (.str Qvh)) Jb)))) (.nm 5) (JX (JT (m1 Qeg) (Ja 4) (Jd (JZ [6] (Ji (Ja 0)) (.nm 6) (Mir.tB (Jc Qfs (Ja 6) (Ja 1))) (Jt (Jd (eC (.str Ql9)) (Jd (Ja 5) (Jd (Ja 6) (Jd (Ja 3) (Jd (eC (.int 1)) Jb))))))) Jb)))) (Jh (KY (Ji (Jt (Jd (eC (.str Qtr)) (Jd (eC (.str Qvg)) Jb)))) (.nm 5) (JX (JT (m1 Qeg) (Ja 4) (Jd (JZ [6] (Ji (Ja 1)) (.nm 6) Mir.tYes (Jt (Jd (eC (.str Ql9)) (Jd (Ja 5) (Jd (Ja 6) (Jd (Ja 2) (Jd (Jc Qhx (eC (.int 0)) (eC (.int 1))) Jb))))))) Jb)))) (Jh (KY (Ji (Ja 1)) (.nm 6) (JX (JT (m1 Qeg) (Ja 4) (Jd (JZ [7] (Ji (Ja 1)) (.nm 7) Mir.tYes (Jt (Jd (eC (.str s_8_)) (Jd (Ja 6) (Jd (Ja 7) (Jd (eC (.str Qsp)) (Jd (Jc Qhx (eC (.int 0)) (eC (.int 1))) Jb))))))) Jb)))) (Jh (JX (JT (m1 Qeg) (Ja 4) (Jd (JZ [6] (Ji (Ja 0)) (.nm 6) (Mir.tB (Jc Qfs (Ja 6) (Ja 1))) (Jt (Jd (eC (.str s_8_)) (Jd (Ja 6) (Jd (eC (.str Qtq)) (Jd (eC (.str Qso)) (Jd (eC (.int 0)) Jb))))))) Jb))) (Jv (Jc JL (Ja 4) (JZ [6] (Ji (Ja 1)) (.nm 6) Mir.tYes (Jt (Jd (eC (.str Qqq)) (Jd (Ja 6) (Jd (eC (.str Qij)) (Jd (eC (.str Qij)) (Jd (eC (.int 0)) (Jd (eC (.int 1)) Jb)))))))))))))))
theorem Qf6:FnScope ["_law_marks", "_law_counted", "_law_blank", "_law_first", "_law_found", "_law_kind", "_law_mark", "_law_other"] ["_law_marks", "_law_counted"] (defScope Qbk):=⟨rfl,rfl,rfl,by decide +kernel,rfl,by decide +kernel,by decide +kernel⟩
theorem Qk0 (Z:Zf w K mg) {f:Addr} {fd:FuncData} (F:Fun K "_law_good_rows" "_law_good_rows" Qbk f fd):FnOk P w K mg base CX0 1 f fd ["_law_marks", "_law_counted"] (Kc ⟨K,mg,(Jw w)⟩ Qbi):=by
 have law_good_rows_nd:=(Qf6).nd
 refine YB F Qf6 rfl rfl λcdv A outer s H E hr=>?_
 have hu:=Yo hr
 have hv:=Yr hr
 exact (Kl (Qzu (Xf (Jf (Kd (Je 0) JB) (Jf (Kd (Je 1) JB) (Jf (Qgg Jp) Jp)))) (Qwp rfl (Qfk (Yb law_good_rows_nd) (Qfk (Yb law_good_rows_nd) (Qfk (Yb law_good_rows_nd) Qs5))))) (Kl (Qhd PassesOwn.never rfl (YC (Xf (Jf (JF s_6 (by rfl)) (Jf (JF s_15 (by rfl)) Jp)))) (Yb law_good_rows_nd) (Kg (YZ (Qep PySem.F.slot_list_extend PySem.F.type_list_extend Qim (Je 4) (Jf (Qd2 rfl law_good_rows_nd (own:=[("_law_mark",6)]) (vs:=[6]) rfl (by decide) (blkOk_by (N:=["_law_marks", "_law_counted", "_law_blank", "_law_first", "_law_found", "_law_kind", "_law_mark", "_law_other"]) (sc:=defScope Qbk) (by decide +kernel)) (YC (Je 0)) (λ_ _ _ _ _=>(Yb law_good_rows_nd)) (λ_ _ _ _ _=>(Qfj (YL (Qo7 hv) (Je 6) (Je 1)))) (λ_ _ _ _ _=>(Xf (Jf (JF s_16 (by rfl)) (Jf (Je 5) (Jf (Je 6) (Jf (Je 3) (Jf JB Jp)))))))) Jp))))) (Kl (Qhd PassesOwn.never rfl (YC (Xf (Jf (JF s_11 (by rfl)) (Jf (JF s_17 (by rfl)) Jp)))) (Yb law_good_rows_nd) (Kg (YZ (Qep PySem.F.slot_list_extend PySem.F.type_list_extend Qim (Je 4) (Jf (Qd2 rfl law_good_rows_nd (own:=[("_law_mark",6)]) (vs:=[6]) rfl (by decide) (blkOk_by (N:=["_law_marks", "_law_counted", "_law_blank", "_law_first", "_law_found", "_law_kind", "_law_mark", "_law_other"]) (sc:=defScope Qbk) (by decide +kernel)) (YC (Je 1)) (λ_ _ _ _ _=>(Yb law_good_rows_nd)) (λ_ _ _ _ _=>Qb2) (λ_ _ _ _ _=>(Xf (Jf (JF s_16 (by rfl)) (Jf (Je 5) (Jf (Je 6) (Jf (Je 2) (Jf (Kv Qhw JB JB) Jp)))))))) Jp))))) (Kl (Qhd PassesOwn.never rfl (YC (Je 1)) (Yb law_good_rows_nd) (Kg (YZ (Qep PySem.F.slot_list_extend PySem.F.type_list_extend Qim (Je 4) (Jf (Qd2 rfl law_good_rows_nd (own:=[("_law_other",7)]) (vs:=[7]) rfl (by decide) (blkOk_by (N:=["_law_marks", "_law_counted", "_law_blank", "_law_first", "_law_found", "_law_kind", "_law_mark", "_law_other"]) (sc:=defScope Qbk) (by decide +kernel)) (YC (Je 1)) (λ_ _ _ _ _=>(Yb law_good_rows_nd)) (λ_ _ _ _ _=>Qb2) (λ_ _ _ _ _=>(Xf (Jf (JF s_8 (by rfl)) (Jf (Je 6) (Jf (Je 7) (Jf (JF s_18 (by rfl)) (Jf (Kv Qhw JB JB) Jp)))))))) Jp))))) (Kl (YZ (Qep PySem.F.slot_list_extend PySem.F.type_list_extend Qim (Je 4) (Jf (Qd2 rfl law_good_rows_nd (own:=[("_law_mark",6)]) (vs:=[6]) rfl (by decide) (blkOk_by (N:=["_law_marks", "_law_counted", "_law_blank", "_law_first", "_law_found", "_law_kind", "_law_mark", "_law_other"]) (sc:=defScope Qbk) (by decide +kernel)) (YC (Je 0)) (λ_ _ _ _ _=>(Yb law_good_rows_nd)) (λ_ _ _ _ _=>(Qfj (YL (Qo7 hv) (Je 6) (Je 1)))) (λ_ _ _ _ _=>(Xf (Jf (JF s_8 (by rfl)) (Jf (Je 6) (Jf (JF s_19 (by rfl)) (Jf (JF s_20 (by rfl)) (Jf JB Jp)))))))) Jp))) (Kg (Yd (Kv Yg (Je 4) (Qd2 rfl law_good_rows_nd (own:=[("_law_mark",6)]) (vs:=[6]) rfl (by decide) (blkOk_by (N:=["_law_marks", "_law_counted", "_law_blank", "_law_first", "_law_found", "_law_kind", "_law_mark", "_law_other"]) (sc:=defScope Qbk) (by decide +kernel)) (YC (Je 1)) (λ_ _ _ _ _=>(Yb law_good_rows_nd)) (λ_ _ _ _ _=>Qb2) (λ_ _ _ _ _=>(Xf (Jf (JF s_14 (by rfl)) (Jf (Je 6) (Jf (JF s_21 (by rfl)) (Jf (JF s_21 (by rfl)) (Jf JB (Jf JB Jp)))))))))))))))))
def Qc2:MF:=fnOf 0 0 (Jv (Ju (Jd (eC (.str s_6_)) (Jd (eC (.str Qtr)) (Jd (eC (.str Qvh)) (Jd (eC (.str Qvg)) (Jd (eC (.str Qvj)) (Jd (eC (.str QAe)) (Jd (eC (.str Qyd)) (Jd (eC (.str Qvi)) Jb))))))))))
theorem Qkg:FnScope [] [] (defScope Qgm):=⟨rfl,rfl,rfl,by decide +kernel,rfl,by decide +kernel,by decide +kernel⟩
theorem Qpc (Z:Zf w K mg) {f:Addr} {fd:FuncData} (F:Fun K "_law_kinds" "_law_kinds" Qgm f fd):FnOk P w K mg base CX0 1 f fd [] (Kc ⟨K,mg,(Jw w)⟩ Qc2):=by
 have law_kinds_nd:=(Qkg).nd
 refine YB F Qkg rfl rfl λcdv A outer s H E hr=>?_
 have hu:=Yo hr
 have hv:=Yr hr
 exact (Kg (Yd (Y4 (Jf (JF s_6 (by rfl)) (Jf (JF s_11 (by rfl)) (Jf (JF s_15 (by rfl)) (Jf (JF s_17 (by rfl)) (Jf (JF s_10 (by rfl)) (Jf (JF s_22 (by rfl)) (Jf (JF s_13 (by rfl)) (Jf (JF s_12 (by rfl)) Jp)))))))))))
def Qbc:MF:=fnOf 2 2 (Jv (Jc Jk (Ja 1) (Jg Yy (Jd (Ja 0) (Jd (Jg Yi (Jd (Ja 1) Jb)) Jb)))))
theorem Qlx:FnScope ["_law_deal_here", "_law_some"] ["_law_deal_here", "_law_some"] (defScope Qhr):=⟨rfl,rfl,rfl,by decide +kernel,rfl,by decide +kernel,by decide +kernel⟩
theorem Qqx (Z:Zf w K mg) (Yaa:FnG P w K mg base (Jw w) 1 "_law_draw" Yy) {f:Addr} {fd:FuncData} (F:Fun K "_law_pick" "_law_pick" Qhr f fd):FnOk P w K mg base CX0 2 f fd ["_law_deal_here", "_law_some"] (Kc ⟨K,mg,(Jw w)⟩ Qbc):=by
 have law_pick_nd:=(Qlx).nd
 refine YB F Qlx rfl rfl λcdv A outer s H E hr=>?_
 have hu:=Yo hr
 have hv:=Yr hr
 exact (Kg (Yd (Kd (Je 1) (JR Yaa (hr.mono (by decide)) (Jf (Je 0) (Jf (Qbm cw_lenD Z.b_len (by decide +kernel) (Jf (Je 1) Jp)) Jp))))))
def Qd1:MF:=fnOf 3 4 (Jh (Jx (.nm 3) (Jc JL (eC (.int 1)) (Jg Yy (Jd (Ja 0) (Jd (Jc Qhx (Jg Yi (Jd (Ja 1) Jb)) (eC (.int 1))) Jb))))) (Jh (Yl (Mir.tB (KD sup [.int] (Jc Jk (Ja 1) (Ja 3)))) (Jv (Jc JL (Jc JL (Yk sl (Ja 1) YJ (K9 (Ja 3))) (Jt (Jd (Jc Qhx (Jg Yy (Jd (Ja 0) (Jd (eC (.int 3)) Jb))) (eC (.int 1))) Jb))) (Yk sl (Ja 1) (K9 (Jc JL (Ja 3) (eC (.int 1)))) YJ))) YK) (Jh (Yl (Mir.tAnd (Mir.tB (Jc Km (Jc Jk (Ja 1) (eC (.int 0))) (eC (.str Ql9)))) (Mir.tB (Jc Km (Ja 3) (eC (.int 1))))) (Jv (Jc JL (Jc JL (Yk sl (Ja 1) YJ (K9 (eC (.int 1)))) (Jt (Jd (Jg Qbc (Jd (Ja 0) (Jd (Jg (Jj Qc2) Jb) Jb))) Jb))) (Yk sl (Ja 1) (K9 (eC (.int 2))) YJ))) YK) (Jv (Jc JL (Jc JL (Yk sl (Ja 1) YJ (K9 (Ja 3))) (Jt (Jd (Jg Qbc (Jd (Ja 0) (Jd (Ja 2) Jb))) Jb))) (Yk sl (Ja 1) (K9 (Jc JL (Ja 3) (eC (.int 1)))) YJ))))))
theorem Ql1:FnScope ["_law_deal_here", "_law_row", "_law_marks", "_law_at"] ["_law_deal_here", "_law_row", "_law_marks"] (defScope Qht):=⟨rfl,rfl,rfl,by decide +kernel,rfl,by decide +kernel,by decide +kernel⟩
theorem Qq1 (Z:Zf w K mg) (Yaa:FnG P w K mg base (Jw w) 1 "_law_draw" Yy) (Yal:FnG P w K mg base (Jw w) 1 "_law_kinds" Qc2) (Yac:FnG P w K mg base (Jw w) 2 "_law_pick" Qbc) {f:Addr} {fd:FuncData} (F:Fun K "_law_bent" "_law_bent" Qht f fd):FnOk P w K mg base CX0 3 f fd ["_law_deal_here", "_law_row", "_law_marks"] (Kc ⟨K,mg,(Jw w)⟩ Qd1):=by
 have law_bent_nd:=(Ql1).nd
 refine YB F Ql1 rfl rfl λcdv A outer s H E hr=>?_
 have hu:=Yo hr
 have hv:=Yr hr
 exact (Kl (Qcy (i:=3) law_bent_nd (Kv Yg JB (JR Yaa (hr.mono (by decide)) (Jf (Je 0) (Jf (Kv Qhw (Qbm cw_lenD Z.b_len (by decide +kernel) (Jf (Je 1) Jp)) JB) Jp))))) (Kl (Qel (Qm1 (Qh9 Z.sf Z.b_isinstance (Kd (Je 1) (Je 3)) (Qkv Z.b_int (by decide +kernel) rfl))) (Kg (Yd (Kv Yg (Kv Yg (Qfl (Je 1) Qck (Qb9 (Je 3))) (Xf (Jf (Kv Qhw (JR Yaa (hr.mono (by decide)) (Jf (Je 0) (Jf JB Jp))) JB) Jp))) (Qfl (Je 1) (Qb9 (Kv Yg (Je 3) JB)) Qck)))) Qcd) (Kl (Qel (PW.pt (Qwo (YL (Qdx hu) (Kd (Je 1) JB) (JF s_16 (by rfl))) (Qs1 (YL (Qdx hu) (Je 3) JB)))) (Kg (Yd (Kv Yg (Kv Yg (Qfl (Je 1) Qck (Qb9 JB)) (Xf (Jf (JR Yac (hr.mono (by decide)) (Jf (Je 0) (Jf (Qnl (Yal).Jj (hr.mono (by decide))) Jp))) Jp))) (Qfl (Je 1) (Qb9 JB) Qck)))) Qcd) (Kg (Yd (Kv Yg (Kv Yg (Qfl (Je 1) Qck (Qb9 (Je 3))) (Xf (Jf (JR Yac (hr.mono (by decide)) (Jf (Je 0) (Jf (Je 2) Jp))) Jp))) (Qfl (Je 1) (Qb9 (Kv Yg (Je 3) JB)) Qck)))))))
def Qb8:MF:=fnOf 2 7 (Jh (Jx (.tp [.nm 2,.nm 3]) (Jt (Jd (Jg Yy (Jd (Ja 0) (Jd (eC (.int 4)) Jb))) (Jd (Jc Qhx (Jg Yy (Jd (Ja 0) (Jd (eC (.int 7)) Jb))) (eC (.int 3))) Jb)))) (Jh (Jx (.nm 4) (Jc JL (Ja 1) (Ju (Jd (eC (.str Qtq)) Jb)))) (Jh (Yl (Mir.tB (Jc Km (Ja 2) (eC (.int 0)))) (Jv (Jt (Jd (eC (.str s_8_)) (Jd (Jg Qbc (Jd (Ja 0) (Jd (Ja 4) Jb))) (Jd (Jg Qbc (Jd (Ja 0) (Jd (Ja 4) Jb))) (Jd (Jg Qbc (Jd (Ja 0) (Jd (Jc JL (Ja 1) (Ju (Jd (eC (.str Qsp)) (Jd (eC (.str Qso)) Jb)))) Jb))) (Jd (Ja 3) Jb))))))) YK) (Jh (Yl (Mir.tB (Jc Km (Ja 2) (eC (.int 1)))) (Jh (Jx (.tp [.nm 5,.nm 6]) (Jt (Jd (Jg Qbc (Jd (Ja 0) (Jd (Jc JL (Ja 1) (Ju (Jd (eC (.str Qij)) Jb))) Jb))) (Jd (Jg Qbc (Jd (Ja 0) (Jd (Jc JL (Ja 1) (Ju (Jd (eC (.str Qij)) Jb))) Jb))) Jb)))) (Jv (Jt (Jd (eC (.str Qqq)) (Jd (Jg Qbc (Jd (Ja 0) (Jd (Ja 4) Jb))) (Jd (Ja 5) (Jd (Ja 6) (Jd (Ja 3) (Jd (Jc Qhx (Jg Yy (Jd (Ja 0) (Jd (eC (.int 7)) Jb))) (eC (.int 3))) Jb))))))))) YK) (Jv (Jt (Jd (eC (.str Ql9)) (Jd (Jg Qbc (Jd (Ja 0) (Jd (Jg (Jj Qc2) Jb) Jb))) (Jd (Jg Qbc (Jd (Ja 0) (Jd (Ja 4) Jb))) (Jd (Jg Qbc (Jd (Ja 0) (Jd (Jc JL (Ja 1) (Ju (Jd (eC (.str Qij)) Jb))) Jb))) (Jd (Ja 3) Jb)))))))))))
theorem Qhf:FnScope ["_law_deal_here", "_law_marks", "_law_form", "_law_add", "_law_some", "_law_left", "_law_right"] ["_law_deal_here", "_law_marks"] (defScope Qey):=⟨rfl,rfl,rfl,by decide +kernel,rfl,by decide +kernel,by decide +kernel⟩
theorem Qmu (Z:Zf w K mg) (Yaa:FnG P w K mg base (Jw w) 1 "_law_draw" Yy) (Yac:FnG P w K mg base (Jw w) 2 "_law_pick" Qbc) (Yal:FnG P w K mg base (Jw w) 1 "_law_kinds" Qc2) {f:Addr} {fd:FuncData} (F:Fun K "_law_any_row" "_law_any_row" Qey f fd):FnOk P w K mg base CX0 3 f fd ["_law_deal_here", "_law_marks"] (Kc ⟨K,mg,(Jw w)⟩ Qb8):=by
 have law_any_row_nd:=(Qhf).nd
 refine YB F Qhf rfl rfl λcdv A outer s H E hr=>?_
 have hu:=Yo hr
 have hv:=Yr hr
 exact (Kl (Qoi (i:=2) (j:=3) rfl law_any_row_nd (Jf (JR Yaa (hr.mono (by decide)) (Jf (Je 0) (Jf JB Jp))) (Jf (Kv Qhw (JR Yaa (hr.mono (by decide)) (Jf (Je 0) (Jf JB Jp))) JB) Jp))) (Kl (Qcy (i:=4) law_any_row_nd (Kv Yg (Je 1) (Y4 (Jf (JF s_19 (by rfl)) Jp)))) (Kl (Qel (YL (Qdx hu) (Je 2) JB) (Kg (Yd (Xf (Jf (JF s_8 (by rfl)) (Jf (JR Yac (hr.mono (by decide)) (Jf (Je 0) (Jf (Je 4) Jp))) (Jf (JR Yac (hr.mono (by decide)) (Jf (Je 0) (Jf (Je 4) Jp))) (Jf (JR Yac (hr.mono (by decide)) (Jf (Je 0) (Jf (Kv Yg (Je 1) (Y4 (Jf (JF s_18 (by rfl)) (Jf (JF s_20 (by rfl)) Jp)))) Jp))) (Jf (Je 3) Jp)))))))) Qcd) (Kl (Qel (YL (Qdx hu) (Je 2) JB) (Kl (Qoi (i:=5) (j:=6) rfl law_any_row_nd (Jf (JR Yac (hr.mono (by decide)) (Jf (Je 0) (Jf (Kv Yg (Je 1) (Y4 (Jf (JF s_21 (by rfl)) Jp))) Jp))) (Jf (JR Yac (hr.mono (by decide)) (Jf (Je 0) (Jf (Kv Yg (Je 1) (Y4 (Jf (JF s_21 (by rfl)) Jp))) Jp))) Jp))) (Kg (Yd (Xf (Jf (JF s_14 (by rfl)) (Jf (JR Yac (hr.mono (by decide)) (Jf (Je 0) (Jf (Je 4) Jp))) (Jf (Je 5) (Jf (Je 6) (Jf (Je 3) (Jf (Kv Qhw (JR Yaa (hr.mono (by decide)) (Jf (Je 0) (Jf JB Jp))) JB) Jp)))))))))) Qcd) (Kg (Yd (Xf (Jf (JF s_16 (by rfl)) (Jf (JR Yac (hr.mono (by decide)) (Jf (Je 0) (Jf (Qnl (Yal).Jj (hr.mono (by decide))) Jp))) (Jf (JR Yac (hr.mono (by decide)) (Jf (Je 0) (Jf (Je 4) Jp))) (Jf (JR Yac (hr.mono (by decide)) (Jf (Je 0) (Jf (Kv Yg (Je 1) (Y4 (Jf (JF s_21 (by rfl)) Jp))) Jp))) (Jf (Je 3) Jp))))))))))))
def Qce:MF:=fnOf 2 12 (Jh (Jx (.nm 2) (Jg Qdf (Jd (Ja 0) (Jd (Jc JL (eC (.int 2)) (Jg Yy (Jd (Ja 0) (Jd (Jc Qhx (Ja 1) (eC (.int 1))) Jb)))) Jb)))) (Jh (Jx (.nm 3) (JZ [4] (Ji (Yk sl (Ja 2) (K9 (eC (.int 1))) YJ)) (.nm 4) (Mir.tB (Jc opGt (Jg Yy (Jd (Ja 0) (Jd (eC (.int 3)) Jb))) (eC (.int 0)))) (Ja 4))) (Jh (Jx (.nm 5) (JZ [6] (Ji (Jg (Jj Qef) Jb)) (.nm 6) (Mir.tB (Jc opGt (Jg Yy (Jd (Ja 0) (Jd (eC (.int 4)) Jb))) (eC (.int 0)))) (Ja 6))) (Jh (Jx (.nm 7) (eIf (Mir.tB (Jc Ku (Ja 3) (Ju Jb))) (Jg (Jj Qbi) (Jd (Ja 2) (Jd (Ja 3) Jb))) (Ju Jb))) (Jh (KY (Qcs (Jg Yy (Jd (Ja 0) (Jd (eC (.int 3)) Jb)))) (.nm 8) (Jh (Jx (.tp [.nm 9,.nm 10]) (Jt (Jd (Jg Yy (Jd (Ja 0) (Jd (eC (.int 3)) Jb))) (Jd (Jg Yy (Jd (Ja 0) (Jd (Jc JL (Jg Yi (Jd (Ja 7) Jb)) (eC (.int 1))) Jb))) Jb)))) (Yl (Mir.tB (Jc Km (Ja 9) (eC (.int 0)))) (Jx (.nm 7) (Jc JL (Yk sl (Ja 7) YJ (K9 (Ja 10))) (Yk sl (Ja 7) (K9 (Jc JL (Ja 10) (eC (.int 1)))) YJ))) (Yl (Mir.tB (Jc Km (Ja 9) (eC (.int 1)))) (Jx (.nm 7) (Jc JL (Jc JL (Yk sl (Ja 7) YJ (K9 (Ja 10))) (JZ [11] (Ji (Yk sl (Ja 7) (K9 (Ja 10)) (K9 (Jc JL (Ja 10) (eC (.int 1)))))) (.nm 11) Mir.tYes (Jg Qd1 (Jd (Ja 0) (Jd (Ja 11) (Jd (Ja 2) Jb)))))) (Yk sl (Ja 7) (K9 (Jc JL (Ja 10) (eC (.int 1)))) YJ))) (Jx (.nm 7) (Jc JL (Jc JL (Yk sl (Ja 7) YJ (K9 (Ja 10))) (Ju (Jd (Jg Qb8 (Jd (Ja 0) (Jd (Ja 2) Jb))) Jb))) (Yk sl (Ja 7) (K9 (Ja 10)) YJ))))))) (Jh (Yl (Mir.tB (Jc Km (Jg Yy (Jd (Ja 0) (Jd (eC (.int 6)) Jb))) (eC (.int 0)))) (Jx (.nm 7) (JZ [8] (Qcs (Jc JL (eC (.int 1)) (Jg Yy (Jd (Ja 0) (Jd (eC (.int 9)) Jb))))) (.nm 8) Mir.tYes (Jg Qb8 (Jd (Ja 0) (Jd (Ja 2) Jb))))) YK) (Jv (Jt (Jd (Ja 2) (Jd (Ja 3) (Jd (Ja 5) (Jd (Yk sl (Ja 7) YJ (K9 (eC (.int 16)))) Jb))))))))))))
theorem Ql0:FnScope ["_law_deal_here", "_law_most", "_law_marks", "_law_counted", "_law_mark", "_law_keeps", "_law_word", "_law_rows", "_law_turn", "_law_form", "_law_at", "_law_row"] ["_law_deal_here", "_law_most"] (defScope Qc1):=⟨rfl,rfl,rfl,by decide +kernel,rfl,by decide +kernel,by decide +kernel⟩
theorem Qq0 (Z:Zf w K mg) (Yaa:FnG P w K mg base (Jw w) 1 "_law_draw" Yy) (Ya0:FnG P w K mg base (Jw w) 3 "_law_names" Qdf) (Ya1:FnG P w K mg base (Jw w) 1 "_law_edits" Qef) (Ya2:FnG P w K mg base (Jw w) 1 "_law_good_rows" Qbi) (Ya3:FnG P w K mg base (Jw w) 3 "_law_bent" Qd1) (Yas:FnG P w K mg base (Jw w) 3 "_law_any_row" Qb8) {f:Addr} {fd:FuncData} (F:Fun K "_law_book" "_law_book" Qc1 f fd):FnOk P w K mg base CX0 4 f fd ["_law_deal_here", "_law_most"] (Kc ⟨K,mg,(Jw w)⟩ Qce):=by
 have law_book_nd:=(Ql0).nd
 refine YB F Ql0 rfl rfl λcdv A outer s H E hr=>?_
 have hu:=Yo hr
 have hv:=Yr hr
 exact (Kl (Qcy (i:=2) law_book_nd (JR Ya0 (hr.mono (by decide)) (Jf (Je 0) (Jf (Kv Yg JB (JR Yaa (hr.mono (by decide)) (Jf (Je 0) (Jf (Kv Qhw (Je 1) JB) Jp)))) Jp)))) (Kl (Qs3 (i:=3) rfl law_book_nd rfl rfl (sw_true rfl rfl rfl (by decide +kernel)) (own:=[("_law_mark",4)]) (vs:=[4]) rfl (by decide) (blkOk_by (N:=["_law_deal_here", "_law_most", "_law_marks", "_law_counted", "_law_mark", "_law_keeps", "_law_word", "_law_rows", "_law_turn", "_law_form", "_law_at", "_law_row"]) (sc:=defScope Qc1) (by decide +kernel)) (YC (Qfl (Je 2) (Qb9 JB) Qck)) (λ_ _ _ _ _=>(Yb law_book_nd)) (λ_ _ _ _ _=>(Qfj (YL Qt3 (JR Yaa (hr.mono (by decide)) (Jf (Je 0) (Jf JB Jp))) JB))) (λ_ _ _ _ _=>(Je 4))) (Kl (Qs3 (i:=5) rfl law_book_nd rfl rfl (sw_true rfl rfl rfl (by decide +kernel)) (own:=[("_law_word",6)]) (vs:=[6]) rfl (by decide) (blkOk_by (N:=["_law_deal_here", "_law_most", "_law_marks", "_law_counted", "_law_mark", "_law_keeps", "_law_word", "_law_rows", "_law_turn", "_law_form", "_law_at", "_law_row"]) (sc:=defScope Qc1) (by decide +kernel)) (YC (Qnl (Ya1).Jj (hr.mono (by decide)))) (λ_ _ _ _ _=>(Yb law_book_nd)) (λ_ _ _ _ _=>(Qfj (YL Qt3 (JR Yaa (hr.mono (by decide)) (Jf (Je 0) (Jf JB Jp))) JB))) (λ_ _ _ _ _=>(Je 6))) (Kl (Qcy (i:=7) law_book_nd (we_if (YL (Qmc hu) (Je 3) (Y4 Jp)) (JR (Ya2).Jj (hr.mono (by decide)) (Jf (Je 2) (Jf (Je 3) Jp))) (Y4 Jp))) (Kl (Qhd PassesOwn.never rfl (Qe6 (JR Yaa (hr.mono (by decide)) (Jf (Je 0) (Jf JB Jp))) Z.b_range) (Yb law_book_nd) (Kl (Qoi (i:=9) (j:=10) rfl law_book_nd (Jf (JR Yaa (hr.mono (by decide)) (Jf (Je 0) (Jf JB Jp))) (Jf (JR Yaa (hr.mono (by decide)) (Jf (Je 0) (Jf (Kv Yg (Qbm cw_lenD Z.b_len (by decide +kernel) (Jf (Je 7) Jp)) JB) Jp))) Jp))) (Kg (Qel (YL (Qdx hu) (Je 9) JB) (Kg (Qcy (i:=7) law_book_nd (Kv Yg (Qfl (Je 7) Qck (Qb9 (Je 10))) (Qfl (Je 7) (Qb9 (Kv Yg (Je 10) JB)) Qck)))) (Kg (Qel (YL (Qdx hu) (Je 9) JB) (Kg (Qcy (i:=7) law_book_nd (Kv Yg (Kv Yg (Qfl (Je 7) Qck (Qb9 (Je 10))) (Qd2 rfl law_book_nd (own:=[("_law_row",11)]) (vs:=[11]) rfl (by decide) (blkOk_by (N:=["_law_deal_here", "_law_most", "_law_marks", "_law_counted", "_law_mark", "_law_keeps", "_law_word", "_law_rows", "_law_turn", "_law_form", "_law_at", "_law_row"]) (sc:=defScope Qc1) (by decide +kernel)) (YC (Qfl (Je 7) (Qb9 (Je 10)) (Qb9 (Kv Yg (Je 10) JB)))) (λ_ _ _ _ _=>(Yb law_book_nd)) (λ_ _ _ _ _=>Qb2) (λ_ _ _ _ _=>(JR Ya3 (hr.mono (by decide)) (Jf (Je 0) (Jf (Je 11) (Jf (Je 2) Jp))))))) (Qfl (Je 7) (Qb9 (Kv Yg (Je 10) JB)) Qck)))) (Kg (Qcy (i:=7) law_book_nd (Kv Yg (Kv Yg (Qfl (Je 7) Qck (Qb9 (Je 10))) (Y4 (Jf (JR Yas (hr.mono (by decide)) (Jf (Je 0) (Jf (Je 2) Jp))) Jp))) (Qfl (Je 7) (Qb9 (Je 10)) Qck)))))))))) (Kl (Qel (YL (Qdx hu) (JR Yaa (hr.mono (by decide)) (Jf (Je 0) (Jf JB Jp))) JB) (Kg (Qs3 (i:=7) rfl law_book_nd rfl rfl (sw_true rfl rfl rfl (by decide +kernel)) (own:=[("_law_turn",8)]) (vs:=[8]) rfl (by decide) (blkOk_by (N:=["_law_deal_here", "_law_most", "_law_marks", "_law_counted", "_law_mark", "_law_keeps", "_law_word", "_law_rows", "_law_turn", "_law_form", "_law_at", "_law_row"]) (sc:=defScope Qc1) (by decide +kernel)) (Qe6 (Kv Yg JB (JR Yaa (hr.mono (by decide)) (Jf (Je 0) (Jf JB Jp)))) Z.b_range) (λ_ _ _ _ _=>(Yb law_book_nd)) (λ_ _ _ _ _=>Qb2) (λ_ _ _ _ _=>(JR Yas (hr.mono (by decide)) (Jf (Je 0) (Jf (Je 2) Jp)))))) Qcd) (Kg (Yd (Xf (Jf (Je 2) (Jf (Je 3) (Jf (Je 5) (Jf (Qfl (Je 7) Qck (Qb9 JB)) Jp)))))))))))))
def Qbz:MF:=fnOf 2 4 (Jh (Jx (.tp [.nm 2,.nm 3]) (Jt (Jd (Jg Qf9 (Jd (Ja 1) Jb)) (Jd (Qfc Jb) Jb)))) (Jh (Qc3 (Mir.tB (Jc Ku (Ja 2) (Ju Jb))) (JX (JT (m1 Qbs) (Ja 3) (Jd (JT (m1 Qko) (Ja 2) (Jd (Jg Yy (Jd (Ja 0) (Jd (Jg Yi (Jd (Ja 2) Jb)) Jb))) Jb)) Jb))) 1000) (Jv (Ja 3))))
theorem Qhe:FnScope ["_law_deal_here", "_law_some", "_law_left", "_law_found"] ["_law_deal_here", "_law_some"] (defScope Qex):=⟨rfl,rfl,rfl,by decide +kernel,rfl,by decide +kernel,by decide +kernel⟩
theorem Qmt (Z:Zf w K mg) (Yaa:FnG P w K mg base (Jw w) 1 "_law_draw" Yy) {f:Addr} {fd:FuncData} (F:Fun K "_law_mixed" "_law_mixed" Qex f fd):FnOk P w K mg base CX0 2 f fd ["_law_deal_here", "_law_some"] (Kc ⟨K,mg,(Jw w)⟩ Qbz):=by
 have law_mixed_v_nd:=(Qhe).nd
 refine YB F Qhe rfl rfl λcdv A outer s H E hr=>?_
 have hu:=Yo hr
 have hv:=Yr hr
 exact (Kl (Qoi (i:=2) (j:=3) rfl law_mixed_v_nd (Jf (Qa0 cw_listM Z.b_list (by decide +kernel) (Jf (Je 1) Jp)) (Jf (Qgg Jp) Jp))) (Kl (Qnk PassesOwn.never (YL (Qmc hu) (Je 2) (Y4 Jp)) (Kg (YZ (Qep PySem.F.slot_list_append PySem.F.type_list_append Qdq (Je 3) (Jf (Qep PySem.F.slot_list_pop PySem.F.type_list_pop Qr7 (Je 2) (Jf (JR Yaa (hr.mono (by decide)) (Jf (Je 0) (Jf (Qbm cw_lenD Z.b_len (by decide +kernel) (Jf (Je 2) Jp)) Jp))) Jp)) Jp))))) (Kg (Yd (Je 3)))))
def Qas:MF:=fnOf 2 2 (Jv (Ka (KD sup [.str] (Ja 0)) (Jc J8 (Ja 0) (Ja 1))))
theorem Qig:FnScope ["value", "words"] ["value", "words"] (defScope Qfp):=⟨rfl,rfl,rfl,by decide +kernel,rfl,by decide +kernel,by decide +kernel⟩
theorem Qnx (Z:Zf w K mg) {f:Addr} {fd:FuncData} (F:Fun K "is_word_of" "is_word_of" Qfp f fd):FnOk P w K mg base CX0 1 f fd ["value", "words"] (Kc ⟨K,mg,(Jw w)⟩ Qas):=by
 have is_word_of_nd:=(Qig).nd
 refine YB F Qig rfl rfl λcdv A outer s H E hr=>?_
 have hu:=Yo hr
 have hv:=Yr hr
 exact (Kg (Yd (Qe8 (Qh9 Z.sf Z.b_isinstance (Je 0) (Qkv Z.b_str (by decide +kernel) rfl)) (Qeo (Qe7 (Qkn hv) (Je 0) (Je 1))))))
def YX:MF:=fnOf 2 2 (Yl (Mir.tNot (Mir.tB (Ja 0))) sBad YK)
theorem Qkd:FnScope ["is_right", "word"] ["is_right", "word"] (defScope Qgj):=⟨rfl,rfl,rfl,by decide +kernel,rfl,by decide +kernel,by decide +kernel⟩
theorem Qo9 (Z:Zf w K mg) {f:Addr} {fd:FuncData} (F:Fun K "need" "need" Qgj f fd):FnOk P w K mg base CX0 1 f fd ["is_right", "word"] (Kc ⟨K,mg,(Jw w)⟩ YX):=by
 have need_rows_nd:=(Qkd).nd
 refine YB F Qkd rfl rfl λcdv A outer s H E hr=>?_
 have hu:=Yo hr
 have hv:=Yr hr
 exact (Kg (Qel (Qm2 (Qm1 (Je 0))) (Kg Qs4) Qcd))
def Qbd:MF:=fnOf 1 2 (Jh (Yl (Mir.tOr (Mir.tNot (Mir.tB (KD sup [.str] (Ja 0)))) (Mir.tOr (Mir.tNot (Mir.tB (Qhj Xb Xb (eC (.int 1)) (Jg Yi (Jd (Ja 0) Jb)) (eC JK)))) (Mir.tB (Jc J8 (Ja 0) (eC KN))))) (Jv (eC (.bl false))) YK) (Jv (Jg K6 (Jd (JZ [1] (Ji (Ja 0)) (.nm 1) Mir.tYes (Jc J8 (Ja 1) (eC Ke))) Jb))))
theorem Qm7:FnScope ["value", "letter"] ["value"] (defScope Qg7):=⟨rfl,rfl,rfl,by decide +kernel,rfl,by decide +kernel,by decide +kernel⟩
theorem Qss (Z:Zf w K mg) {f:Addr} {fd:FuncData} (F:Fun K "is_name" "is_name" Qg7 f fd):FnOk P w K mg base CX0 1 f fd ["value"] (Kc ⟨K,mg,(Jw w)⟩ Qbd):=by
 have is_name_nd:=(Qm7).nd
 refine YB F Qm7 rfl rfl λcdv A outer s H E hr=>?_
 have hu:=Yo hr
 have hv:=Yr hr
 exact (Kl (Qel (PW.pt (Qqf (Qm2 (Qm1 (Qh9 Z.sf Z.b_isinstance (Je 0) (Qkv Z.b_str (by decide +kernel) rfl)))) (Qqf (Qm2 (Qrk Qo8 Qo8 JB (Qbm cw_lenD Z.b_len (by decide +kernel) (Jf (Je 0) Jp)) (Qgh Z.JK))) (Qoh (YL (Qkn hv) (Je 0) (Qgh Z.KN)))))) (Kg (Yd Qoj)) Qcd) (Kg (Yd (Qbm (cw_all rfl) Z.b_all (by decide +kernel) (Jf (Qd2 rfl is_name_nd (own:=[("letter",1)]) (vs:=[1]) rfl (by decide) (blkOk_by (N:=["value", "letter"]) (sc:=defScope Qg7) (by decide +kernel)) (YC (Je 0)) (λ_ _ _ _ _=>(Yb is_name_nd)) (λ_ _ _ _ _=>Qb2) (λ_ _ _ _ _=>(Qe7 (Qkn hv) (Je 1) (Qgh Z.Ke)))) Jp)))))
def Qch:MF:=fnOf 1 1 (Jv (eOr (Jg (Jj Qbd) (Jd (Ja 0) Jb)) (Jg (Jj Qas) (Jd (Ja 0) (Jd (Jt (Jd (eC (.str Qtq)) Jb)) Jb)))))
theorem Qoz:FnScope ["value"] ["value"] (defScope Qlq):=⟨rfl,rfl,rfl,by decide +kernel,rfl,by decide +kernel,by decide +kernel⟩
theorem Qt7 (Z:Zf w K mg) (Yae:FnG P w K mg base (Jw w) 1 "is_name" Qbd) (Yaf:FnG P w K mg base (Jw w) 1 "is_word_of" Qas) {f:Addr} {fd:FuncData} (F:Fun K "is_old" "is_old" Qlq f fd):FnOk P w K mg base CX0 2 f fd ["value"] (Kc ⟨K,mg,(Jw w)⟩ Qch):=by
 have is_old_nd:=(Qoz).nd
 refine YB F Qoz rfl rfl λcdv A outer s H E hr=>?_
 have hu:=Yo hr
 have hv:=Yr hr
 exact (Kg (Yd (Qzv (JR (Yae).Jj (hr.mono (by decide)) (Jf (Je 0) Jp)) (Qeo (JR (Yaf).Jj (hr.mono (by decide)) (Jf (Je 0) (Jf (Xf (Jf (JF s_19 (by rfl)) Jp)) Jp)))))))
def Qcg:MF:=fnOf 2 2 (Jv (eOr (Jg (Jj Qbd) (Jd (Ja 0) Jb)) (Jg (Jj Qas) (Jd (Ja 0) (Jd (Ja 1) Jb)))))
theorem Qo0:FnScope ["value", "words"] ["value", "words"] (defScope Qlr):=⟨rfl,rfl,rfl,by decide +kernel,rfl,by decide +kernel,by decide +kernel⟩
theorem Qt8 (Z:Zf w K mg) (Yae:FnG P w K mg base (Jw w) 1 "is_name" Qbd) (Yaf:FnG P w K mg base (Jw w) 1 "is_word_of" Qas) {f:Addr} {fd:FuncData} (F:Fun K "is_new" "is_new" Qlr f fd):FnOk P w K mg base CX0 2 f fd ["value", "words"] (Kc ⟨K,mg,(Jw w)⟩ Qcg):=by
 have is_new_nd:=(Qo0).nd
 refine YB F Qo0 rfl rfl λcdv A outer s H E hr=>?_
 have hu:=Yo hr
 have hv:=Yr hr
 exact (Kg (Yd (Qzv (JR (Yae).Jj (hr.mono (by decide)) (Jf (Je 0) Jp)) (Qeo (JR (Yaf).Jj (hr.mono (by decide)) (Jf (Je 0) (Jf (Je 1) Jp)))))))
def Qes:MF:=fnOf 1 1 (Jv (Ka (KD sup [.int] (Ja 0)) (eNot (KD sup [.bool] (Ja 0)))))
theorem Qih:FnScope ["value"] ["value"] (defScope Qfq):=⟨rfl,rfl,rfl,by decide +kernel,rfl,by decide +kernel,by decide +kernel⟩
theorem Qny (Z:Zf w K mg) {f:Addr} {fd:FuncData} (F:Fun K "is_integer" "is_integer" Qfq f fd):FnOk P w K mg base CX0 1 f fd ["value"] (Kc ⟨K,mg,(Jw w)⟩ Qes):=by
 have is_integer_nd:=(Qih).nd
 refine YB F Qih rfl rfl λcdv A outer s H E hr=>?_
 have hu:=Yo hr
 have hv:=Yr hr
 exact (Kg (Yd (Qe8 (Qh9 Z.sf Z.b_isinstance (Je 0) (Qkv Z.b_int (by decide +kernel) rfl)) (Qeo (Qzw (Qh9 Z.sf Z.b_isinstance (Je 0) (Qkv Z.b_bool (by decide +kernel) rfl)))))))
def Qci:MF:=fnOf 1 1 (Jv (Ka (Jg (Jj Qes) (Jd (Ja 0) Jb)) (Qhj Xb Xb (JS Qil (eC Kr)) (Ja 0) (eC Kr))))
theorem Qo1:FnScope ["value"] ["value"] (defScope Qls):=⟨rfl,rfl,rfl,by decide +kernel,rfl,by decide +kernel,by decide +kernel⟩
theorem Qt9 (Z:Zf w K mg) (Ya4:FnG P w K mg base (Jw w) 1 "is_integer" Qes) {f:Addr} {fd:FuncData} (F:Fun K "is_add" "is_add" Qls f fd):FnOk P w K mg base CX0 2 f fd ["value"] (Kc ⟨K,mg,(Jw w)⟩ Qci):=by
 have is_add_nd:=(Qo1).nd
 refine YB F Qo1 rfl rfl λcdv A outer s H E hr=>?_
 have hu:=Yo hr
 have hv:=Yr hr
 exact (Kg (Yd (Qe8 (JR (Ya4).Jj (hr.mono (by decide)) (Jf (Je 0) Jp)) (Qeo (Qu1 Qo8 Qo8 (Qxm Qqs (Qgh Z.Kr)) (Je 0) (Qgh Z.Kr))))))
def Qa6:MF:=fnOf 3 4 (Jh (Mir.sFld 3 (Ja 0) (Ja 1)) (Mir.sFld 4 (Ja 0) (Jg fTuple (Jd (JZ [3] (Ji (Ja 2)) (.nm 3) (Mir.tB (Jg (Jj Qbd) (Jd (Ja 3) Jb))) (Ja 3)) Jb))))
theorem Ql2:FnScope ["self", "text", "names", "name"] ["self", "text", "names"] (defScope Qfr):=⟨rfl,rfl,rfl,by decide +kernel,rfl,by decide +kernel,by decide +kernel⟩
theorem Qq2 (Z:Zf w K mg) (Yae:FnG P w K mg base (Jw w) 1 "is_name" Qbd) {f:Addr} {fd:FuncData} (F:Fun K "__init__" "Row.__init__" Qfr f fd):FnOk P w K mg base CX0 2 f fd ["self", "text", "names"] (Kc ⟨K,mg,(Jw w)⟩ Qa6):=by
 have Row_init_nd:=(Ql2).nd
 refine YB F Ql2 rfl rfl λcdv A outer s H E hr=>?_
 have hu:=Yo hr
 have hv:=Yr hr
 exact (Kl (Qcz Z.sf (k:=3) rfl (Je 0) (Je 1)) (Kg (Qcz Z.sf (k:=4) rfl (Je 0) (Qa0 cw_tuple Z.b_tuple (by decide +kernel) (Jf (Qd2 rfl Row_init_nd (own:=[("name",3)]) (vs:=[3]) rfl (by decide) (blkOk_by (N:=["self", "text", "names", "name"]) (sc:=defScope Qfr) (by decide +kernel)) (YC (Je 2)) (λ_ _ _ _ _=>(Yb Row_init_nd)) (λ_ _ _ _ _=>(Qfj (Qm1 (JR (Yae).Jj (hr.mono (by decide)) (Jf (Je 3) Jp))))) (λ_ _ _ _ _=>(Je 3))) Jp)))))
def Qco:MF:=fnOf 5 6 (Jh (JX (Jg (Jj YX) (Jd (Jg (Jj Qas) (Jd (Ja 1) (Jd (eC Yj) Jb))) (Jd (eC (.str Qx9)) Jb)))) (Jh (JX (Jg (Jj YX) (Jd (Jg (Jj Qch) (Jd (Ja 2) Jb)) (Jd (eC (.str Qtn)) Jb)))) (Jh (JX (Jg (Jj YX) (Jd (Jg (Jj Qcg) (Jd (Ja 3) (Jd (Jt (Jd (eC (.str Qij)) Jb)) Jb))) (Jd (eC (.str Qtm)) Jb)))) (Jh (JX (Jg (Jj YX) (Jd (Jg (Jj Qci) (Jd (Ja 4) Jb)) (Jd (eC (.str Qqm)) Jb)))) (Jh (Mir.sFld 5 (Ja 0) (Ja 1)) (Jh (Mir.sFld 6 (Ja 0) (Ja 2)) (Jh (Mir.sFld 7 (Ja 0) (Ja 3)) (Jh (Mir.sFld 8 (Ja 0) (Ja 4)) (JX (Xd 1 Qa6 (Jd (Qca [(JD (Ja 1)),(eC (.str Qd9)),(JD (Ja 2)),(eC (.str Ql8)),(JD (Ja 3)),(eC (.str Ql7)),(JD (Ja 4))] []) (Jd (Ju (Jd (Ja 2) (Jd (Ja 3) Jb))) Jb))))))))))))
theorem Qkj:NdefX.NScope ["self", "kind", "old", "then", "add", "__class__"] ["self", "kind", "old", "then", "add"] ["__class__"] (defScope Qgo):=NdefX.nscope_by (by decide +kernel)
theorem Qpf (Z:Zf w K mg) (Yaf:FnG P w K mg base (Jw w) 1 "is_word_of" Qas) (Yab:FnG P w K mg base (Jw w) 1 "need_rows" YX) (Yag:FnG P w K mg base (Jw w) 2 "is_old" Qch) (Yah:FnG P w K mg base (Jw w) 2 "is_new" Qcg) (Yai:FnG P w K mg base (Jw w) 2 "is_add" Qci) (Ya5:SupG P w K mg base (Jw w) 2 1 1 "__init__" Qa6) {f D:Addr} {fd:FuncData} (hD:(⟨K,mg,(Jw w)⟩:Tab).cls 1=some D) (F:FunS P K "__init__" "Step.__init__" "self" Qgo f fd D):FnOk P w K mg base CX0 3 f fd ["self", "kind", "old", "then", "add"] (Kc ⟨K,mg,(Jw w)⟩ Qco):=by
 have Step_init_nd:=(Qkj).nd
 refine Qus F Qkj rfl rfl λca cb A outer s H E hr SE=>?_
 have hu:=Yo hr
 have hv:=Yr hr
 exact (Qa8 (YZ (JR (Yab).Jj (hr.mono (by decide)) (Jf (JR (Yaf).Jj (hr.mono (by decide)) (Jf (Je 1) (Jf (Qgh Z.Yj) Jp))) (Jf (JF s_34 (by rfl)) Jp)))) (Qa8 (YZ (JR (Yab).Jj (hr.mono (by decide)) (Jf (JR (Yag).Jj (hr.mono (by decide)) (Jf (Je 2) Jp)) (Jf (JF s_35 (by rfl)) Jp)))) (Qa8 (YZ (JR (Yab).Jj (hr.mono (by decide)) (Jf (JR (Yah).Jj (hr.mono (by decide)) (Jf (Je 3) (Jf (Xf (Jf (JF s_21 (by rfl)) Jp)) Jp))) (Jf (JF s_36 (by rfl)) Jp)))) (Qa8 (YZ (JR (Yab).Jj (hr.mono (by decide)) (Jf (JR (Yai).Jj (hr.mono (by decide)) (Jf (Je 4) Jp)) (Jf (JF s_37 (by rfl)) Jp)))) (Qa8 (Qcz Z.sf (k:=5) rfl (Je 0) (Je 1)) (Qa8 (Qcz Z.sf (k:=6) rfl (Je 0) (Je 2)) (Qa8 (Qcz Z.sf (k:=7) rfl (Je 0) (Je 3)) (Qa8 (Qcz Z.sf (k:=8) rfl (Je 0) (Je 4)) (Qs2 Ya5 hD SE (hr.mono (by decide)) (Jf (Qlf (.cons (Qd3 (Je 1)) (.cons (JF s_24 (by rfl)) (.cons (Qd3 (Je 2)) (.cons (JF s_29 (by rfl)) (.cons (Qd3 (Je 3)) (.cons (JF s_30 (by rfl)) (.cons (Qd3 (Je 4)) .nil)))))))) (Jf (Y4 (Jf (Je 2) (Jf (Je 3) Jp))) Jp)))))))))))
def Qcq:MF:=fnOf 5 6 (Jh (JX (Jg (Jj YX) (Jd (Jg (Jj Qch) (Jd (Ja 1) Jb)) (Jd (eC (.str Qx8)) Jb)))) (Jh (JX (Jg (Jj YX) (Jd (Jg (Jj Qch) (Jd (Ja 2) Jb)) (Jd (eC (.str Qx7)) Jb)))) (Jh (JX (Jg (Jj YX) (Jd (Jg (Jj Qcg) (Jd (Ja 3) (Jd (Jt (Jd (eC (.str Qsp)) (Jd (eC (.str Qso)) Jb))) Jb))) (Jd (eC (.str Qtm)) Jb)))) (Jh (JX (Jg (Jj YX) (Jd (Jg (Jj Qci) (Jd (Ja 4) Jb)) (Jd (eC (.str Qqm)) Jb)))) (Jh (Mir.sFld 9 (Ja 0) (Ja 1)) (Jh (Mir.sFld 10 (Ja 0) (Ja 2)) (Jh (Mir.sFld 7 (Ja 0) (Ja 3)) (Jh (Mir.sFld 8 (Ja 0) (Ja 4)) (JX (Xd 2 Qa6 (Jd (Qca [(eC (.str Qto)),(JD (Ja 1)),(eC (.str Qd9)),(JD (Ja 2)),(eC (.str Ql8)),(JD (Ja 3)),(eC (.str Ql7)),(JD (Ja 4))] []) (Jd (Ju (Jd (Ja 1) (Jd (Ja 2) (Jd (Ja 3) Jb)))) Jb))))))))))))
theorem Qkl:NdefX.NScope ["self", "here", "there", "then", "add", "__class__"] ["self", "here", "there", "then", "add"] ["__class__"] (defScope Qgq):=NdefX.nscope_by (by decide +kernel)
theorem Qph (Z:Zf w K mg) (Yag:FnG P w K mg base (Jw w) 2 "is_old" Qch) (Yab:FnG P w K mg base (Jw w) 1 "need_rows" YX) (Yah:FnG P w K mg base (Jw w) 2 "is_new" Qcg) (Yai:FnG P w K mg base (Jw w) 2 "is_add" Qci) (Ya6:SupG P w K mg base (Jw w) 2 2 2 "__init__" Qa6) {f D:Addr} {fd:FuncData} (hD:(⟨K,mg,(Jw w)⟩:Tab).cls 2=some D) (F:FunS P K "__init__" "Join.__init__" "self" Qgq f fd D):FnOk P w K mg base CX0 3 f fd ["self", "here", "there", "then", "add"] (Kc ⟨K,mg,(Jw w)⟩ Qcq):=by
 have Join_init_nd:=(Qkl).nd
 refine Qus F Qkl rfl rfl λca cb A outer s H E hr SE=>?_
 have hu:=Yo hr
 have hv:=Yr hr
 exact (Qa8 (YZ (JR (Yab).Jj (hr.mono (by decide)) (Jf (JR (Yag).Jj (hr.mono (by decide)) (Jf (Je 1) Jp)) (Jf (JF s_38 (by rfl)) Jp)))) (Qa8 (YZ (JR (Yab).Jj (hr.mono (by decide)) (Jf (JR (Yag).Jj (hr.mono (by decide)) (Jf (Je 2) Jp)) (Jf (JF s_39 (by rfl)) Jp)))) (Qa8 (YZ (JR (Yab).Jj (hr.mono (by decide)) (Jf (JR (Yah).Jj (hr.mono (by decide)) (Jf (Je 3) (Jf (Xf (Jf (JF s_18 (by rfl)) (Jf (JF s_20 (by rfl)) Jp))) Jp))) (Jf (JF s_36 (by rfl)) Jp)))) (Qa8 (YZ (JR (Yab).Jj (hr.mono (by decide)) (Jf (JR (Yai).Jj (hr.mono (by decide)) (Jf (Je 4) Jp)) (Jf (JF s_37 (by rfl)) Jp)))) (Qa8 (Qcz Z.sf (k:=9) rfl (Je 0) (Je 1)) (Qa8 (Qcz Z.sf (k:=10) rfl (Je 0) (Je 2)) (Qa8 (Qcz Z.sf (k:=7) rfl (Je 0) (Je 3)) (Qa8 (Qcz Z.sf (k:=8) rfl (Je 0) (Je 4)) (Qs2 Ya6 hD SE (hr.mono (by decide)) (Jf (Qlf (.cons (JF s_31 (by rfl)) (.cons (Qd3 (Je 1)) (.cons (JF s_24 (by rfl)) (.cons (Qd3 (Je 2)) (.cons (JF s_29 (by rfl)) (.cons (Qd3 (Je 3)) (.cons (JF s_30 (by rfl)) (.cons (Qd3 (Je 4)) .nil))))))))) (Jf (Y4 (Jf (Je 1) (Jf (Je 2) (Jf (Je 3) Jp)))) Jp)))))))))))
def Qcp:MF:=fnOf 6 7 (Jh (JX (Jg (Jj YX) (Jd (Jg (Jj Qch) (Jd (Ja 1) Jb)) (Jd (eC (.str Qtn)) Jb)))) (Jh (JX (Jg (Jj YX) (Jd (Jg (Jj Qcg) (Jd (Ja 2) (Jd (Jt (Jd (eC (.str Qij)) Jb)) Jb))) (Jd (eC (.str Qx6)) Jb)))) (Jh (JX (Jg (Jj YX) (Jd (Jg (Jj Qcg) (Jd (Ja 3) (Jd (Jt (Jd (eC (.str Qij)) Jb)) Jb))) (Jd (eC (.str Qx5)) Jb)))) (Jh (JX (Jg (Jj YX) (Jd (Jg (Jj Qci) (Jd (Ja 4) Jb)) (Jd (eC (.str Qqm)) Jb)))) (Jh (JX (Jg (Jj YX) (Jd (Jg (Jj Qci) (Jd (Ja 5) Jb)) (Jd (eC (.str Qx4)) Jb)))) (Jh (Mir.sFld 6 (Ja 0) (Ja 1)) (Jh (Mir.sFld 11 (Ja 0) (Ja 2)) (Jh (Mir.sFld 12 (Ja 0) (Ja 3)) (Jh (Mir.sFld 8 (Ja 0) (Ja 4)) (Jh (Mir.sFld 13 (Ja 0) (Ja 5)) (JX (Xd 3 Qa6 (Jd (Qca [(eC (.str Qx3)),(JD (Ja 1)),(eC (.str Ql8)),(JD (Ja 2)),(eC (.str Qd9)),(JD (Ja 3)),(eC (.str Ql7)),(JD (Ja 4)),(eC (.str Qd9)),(JD (Ja 5))] []) (Jd (Ju (Jd (Ja 1) (Jd (Ja 2) (Jd (Ja 3) Jb)))) Jb))))))))))))))
theorem Qkk:NdefX.NScope ["self", "old", "left", "right", "add", "more", "__class__"] ["self", "old", "left", "right", "add", "more"] ["__class__"] (defScope Qgp):=NdefX.nscope_by (by decide +kernel)
theorem Qpg (Z:Zf w K mg) (Yag:FnG P w K mg base (Jw w) 2 "is_old" Qch) (Yab:FnG P w K mg base (Jw w) 1 "need_rows" YX) (Yah:FnG P w K mg base (Jw w) 2 "is_new" Qcg) (Yai:FnG P w K mg base (Jw w) 2 "is_add" Qci) (Ya7:SupG P w K mg base (Jw w) 2 3 3 "__init__" Qa6) {f D:Addr} {fd:FuncData} (hD:(⟨K,mg,(Jw w)⟩:Tab).cls 3=some D) (F:FunS P K "__init__" "Part.__init__" "self" Qgp f fd D):FnOk P w K mg base CX0 3 f fd ["self", "old", "left", "right", "add", "more"] (Kc ⟨K,mg,(Jw w)⟩ Qcp):=by
 have Part_init_nd:=(Qkk).nd
 refine Qus F Qkk rfl rfl λca cb A outer s H E hr SE=>?_
 have hu:=Yo hr
 have hv:=Yr hr
 exact (Qa8 (YZ (JR (Yab).Jj (hr.mono (by decide)) (Jf (JR (Yag).Jj (hr.mono (by decide)) (Jf (Je 1) Jp)) (Jf (JF s_35 (by rfl)) Jp)))) (Qa8 (YZ (JR (Yab).Jj (hr.mono (by decide)) (Jf (JR (Yah).Jj (hr.mono (by decide)) (Jf (Je 2) (Jf (Xf (Jf (JF s_21 (by rfl)) Jp)) Jp))) (Jf (JF s_40 (by rfl)) Jp)))) (Qa8 (YZ (JR (Yab).Jj (hr.mono (by decide)) (Jf (JR (Yah).Jj (hr.mono (by decide)) (Jf (Je 3) (Jf (Xf (Jf (JF s_21 (by rfl)) Jp)) Jp))) (Jf (JF s_41 (by rfl)) Jp)))) (Qa8 (YZ (JR (Yab).Jj (hr.mono (by decide)) (Jf (JR (Yai).Jj (hr.mono (by decide)) (Jf (Je 4) Jp)) (Jf (JF s_37 (by rfl)) Jp)))) (Qa8 (YZ (JR (Yab).Jj (hr.mono (by decide)) (Jf (JR (Yai).Jj (hr.mono (by decide)) (Jf (Je 5) Jp)) (Jf (JF s_42 (by rfl)) Jp)))) (Qa8 (Qcz Z.sf (k:=6) rfl (Je 0) (Je 1)) (Qa8 (Qcz Z.sf (k:=11) rfl (Je 0) (Je 2)) (Qa8 (Qcz Z.sf (k:=12) rfl (Je 0) (Je 3)) (Qa8 (Qcz Z.sf (k:=8) rfl (Je 0) (Je 4)) (Qa8 (Qcz Z.sf (k:=13) rfl (Je 0) (Je 5)) (Qs2 Ya7 hD SE (hr.mono (by decide)) (Jf (Qlf (.cons (JF s_43 (by rfl)) (.cons (Qd3 (Je 1)) (.cons (JF s_29 (by rfl)) (.cons (Qd3 (Je 2)) (.cons (JF s_24 (by rfl)) (.cons (Qd3 (Je 3)) (.cons (JF s_30 (by rfl)) (.cons (Qd3 (Je 4)) (.cons (JF s_24 (by rfl)) (.cons (Qd3 (Je 5)) .nil))))))))))) (Jf (Y4 (Jf (Je 1) (Jf (Je 2) (Jf (Je 3) Jp)))) Jp)))))))))))))
def Qbl:MF:=fnOf 1 1 (Jh (Yl (Mir.tB (Jc Km (Jc Jk (Ja 0) (eC (.int 0))) (eC (.str Ql9)))) (Jv (Jg (Jj (Y6 1 Qco)) (Jd (Jc Jk (Ja 0) (eC (.int 1))) (Jd (Jc Jk (Ja 0) (eC (.int 2))) (Jd (Jc Jk (Ja 0) (eC (.int 3))) (Jd (Jc Jk (Ja 0) (eC (.int 4))) Jb)))))) YK) (Jh (Yl (Mir.tB (Jc Km (Jc Jk (Ja 0) (eC (.int 0))) (eC (.str s_8_)))) (Jv (Jg (Jj (Y6 2 Qcq)) (Jd (Jc Jk (Ja 0) (eC (.int 1))) (Jd (Jc Jk (Ja 0) (eC (.int 2))) (Jd (Jc Jk (Ja 0) (eC (.int 3))) (Jd (Jc Jk (Ja 0) (eC (.int 4))) Jb)))))) YK) (Jv (Jg (Jj (Y6 3 Qcp)) (Jd (Jc Jk (Ja 0) (eC (.int 1))) (Jd (Jc Jk (Ja 0) (eC (.int 2))) (Jd (Jc Jk (Ja 0) (eC (.int 3))) (Jd (Jc Jk (Ja 0) (eC (.int 4))) (Jd (Jc Jk (Ja 0) (eC (.int 5))) Jb)))))))))
theorem Qif:FnScope ["_law_row"] ["_law_row"] (defScope Qfo):=⟨rfl,rfl,rfl,by decide +kernel,rfl,by decide +kernel,by decide +kernel⟩
theorem Qnw (Z:Zf w K mg) (Ya8:MkG P w K mg base (Jw w) 3 "Step" 1 Qco) (Ya9:MkG P w K mg base (Jw w) 3 "Join" 2 Qcq) (Yba:MkG P w K mg base (Jw w) 3 "Part" 3 Qcp) {f:Addr} {fd:FuncData} (F:Fun K "_law_row_of" "_law_row_of" Qfo f fd):FnOk P w K mg base CX0 5 f fd ["_law_row"] (Kc ⟨K,mg,(Jw w)⟩ Qbl):=by
 have law_row_of_nd:=(Qif).nd
 refine YB F Qif rfl rfl λcdv A outer s H E hr=>?_
 have hu:=Yo hr
 have hv:=Yr hr
 exact (Kl (Qel (YL (Qdx hu) (Kd (Je 0) JB) (JF s_16 (by rfl))) (Kg (Yd (Qh8 Ya8 (hr.mono (by decide)) (Jf (Kd (Je 0) JB) (Jf (Kd (Je 0) JB) (Jf (Kd (Je 0) JB) (Jf (Kd (Je 0) JB) Jp))))))) Qcd) (Kl (Qel (YL (Qdx hu) (Kd (Je 0) JB) (JF s_8 (by rfl))) (Kg (Yd (Qh8 Ya9 (hr.mono (by decide)) (Jf (Kd (Je 0) JB) (Jf (Kd (Je 0) JB) (Jf (Kd (Je 0) JB) (Jf (Kd (Je 0) JB) Jp))))))) Qcd) (Kg (Yd (Qh8 Yba (hr.mono (by decide)) (Jf (Kd (Je 0) JB) (Jf (Kd (Je 0) JB) (Jf (Kd (Je 0) JB) (Jf (Kd (Je 0) JB) (Jf (Kd (Je 0) JB) Jp))))))))))
def Qaw:MF:=fnOf 1 1 (Jv (KD sup [.list,.tuple] (Ja 0)))
theorem Qhg:FnScope ["value"] ["value"] (defScope Qez):=⟨rfl,rfl,rfl,by decide +kernel,rfl,by decide +kernel,by decide +kernel⟩
theorem Qmv (Z:Zf w K mg) {f:Addr} {fd:FuncData} (F:Fun K "is_sequence" "is_sequence" Qez f fd):FnOk P w K mg base CX0 1 f fd ["value"] (Kc ⟨K,mg,(Jw w)⟩ Qaw):=by
 have is_sequence_nd:=(Qhg).nd
 refine YB F Qhg rfl rfl λcdv A outer s H E hr=>?_
 have hu:=Yo hr
 have hv:=Yr hr
 exact (Kg (Yd (Qxp Z.sf Z.b_isinstance (Je 0) (Qkv Z.b_list (by decide +kernel) rfl) (Qkv Z.b_tuple (by decide +kernel) rfl))))
def Qbr:MF:=fnOf 1 2 (Jv (Jc Km (Jg Yi (Jd (eDc [1] (Ji (Ja 0)) (.nm 1) Mir.tYes (Ja 1) (eC (.bl true))) Jb)) (Jg Yi (Jd (Ja 0) Jb))))
theorem Qii:FnScope ["words", "word"] ["words"] (defScope Qdy):=⟨rfl,rfl,rfl,by decide +kernel,rfl,by decide +kernel,by decide +kernel⟩
theorem Qnz (Z:Zf w K mg) {f:Addr} {fd:FuncData} (F:Fun K "are_unlike" "are_unlike" Qdy f fd):FnOk P w K mg base CX0 1 f fd ["words"] (Kc ⟨K,mg,(Jw w)⟩ Qbr):=by
 have are_unlike_nd:=(Qii).nd
 refine YB F Qii rfl rfl λcdv A outer s H E hr=>?_
 have hu:=Yo hr
 have hv:=Yr hr
 exact (Kg (Yd (Qe7 (Qdx hu) (Qbm cw_lenD Z.b_len (by decide +kernel) (Jf (we_dc rfl are_unlike_nd (own:=[("word",1)]) (vs:=[1]) rfl (by decide) (blkOk_by (N:=["words", "word"]) (sc:=defScope Qdy) (by decide +kernel)) (YC (Je 0)) (λ_ _ _ _ _=>(Yb are_unlike_nd)) (λ_ _ _ _ _=>Qb2) (λ_ _ _ _ _=>(Je 1)) (λ_ _ _ _ _=>Qoj)) Jp)) (Qbm cw_lenD Z.b_len (by decide +kernel) (Jf (Je 0) Jp)))))
def Qbw:MF:=fnOf 1 2 (Jv (Ka (Jg (Jj Qaw) (Jd (Ja 0) Jb)) (Ka (Jg K6 (Jd (JZ [1] (Ji (Ja 0)) (.nm 1) Mir.tYes (Jg (Jj Qbd) (Jd (Ja 1) Jb))) Jb)) (Jg (Jj Qbr) (Jd (Ja 0) Jb)))))
theorem Qki:FnScope ["value", "one"] ["value"] (defScope Qeq):=⟨rfl,rfl,rfl,by decide +kernel,rfl,by decide +kernel,by decide +kernel⟩
theorem Qpe (Z:Zf w K mg) (Yaj:FnG P w K mg base (Jw w) 1 "is_sequence" Qaw) (Yae:FnG P w K mg base (Jw w) 1 "is_name" Qbd) (Yam:FnG P w K mg base (Jw w) 1 "are_unlike" Qbr) {f:Addr} {fd:FuncData} (F:Fun K "are_names" "are_names" Qeq f fd):FnOk P w K mg base CX0 2 f fd ["value"] (Kc ⟨K,mg,(Jw w)⟩ Qbw):=by
 have are_names_nd:=(Qki).nd
 refine YB F Qki rfl rfl λcdv A outer s H E hr=>?_
 have hu:=Yo hr
 have hv:=Yr hr
 exact (Kg (Yd (Qe8 (JR (Yaj).Jj (hr.mono (by decide)) (Jf (Je 0) Jp)) (Qe8 (Qbm (cw_all rfl) Z.b_all (by decide +kernel) (Jf (Qd2 rfl are_names_nd (own:=[("one",1)]) (vs:=[1]) rfl (by decide) (blkOk_by (N:=["value", "one"]) (sc:=defScope Qeq) (by decide +kernel)) (YC (Je 0)) (λ_ _ _ _ _=>(Yb are_names_nd)) (λ_ _ _ _ _=>Qb2) (λ_ _ _ _ _=>(JR (Yae).Jj (hr.mono (by decide)) (Jf (Je 1) Jp)))) Jp)) (Qeo (JR (Yam).Jj (hr.mono (by decide)) (Jf (Je 0) Jp)))))))
def Qaz:MF:=fnOf 2 2 (Yl (Mir.tNot (Mir.tB (Ja 0))) sBad YK)
theorem Qie:FnScope ["is_right", "word"] ["is_right", "word"] (defScope Qfm):=⟨rfl,rfl,rfl,by decide +kernel,rfl,by decide +kernel,by decide +kernel⟩
theorem Qnv (Z:Zf w K mg) {f:Addr} {fd:FuncData} (F:Fun K "need" "need" Qfm f fd):FnOk P w K mg base CX0 1 f fd ["is_right", "word"] (Kc ⟨K,mg,(Jw w)⟩ Qaz):=by
 have need_books_nd:=(Qie).nd
 refine YB F Qie rfl rfl λcdv A outer s H E hr=>?_
 have hu:=Yo hr
 have hv:=Yr hr
 exact (Kg (Qel (Qm2 (Qm1 (Je 0))) (Kg Qs4) Qcd))
def Qa7:MF:=fnOf 5 12 (Jh (JX (Jg (Jj Qaz) (Jd (Ka (Jg (Jj Qbw) (Jd (Ja 1) Jb)) (Jc opGt (Jg Yi (Jd (Ja 1) Jb)) (eC (.int 0)))) (Jd (eC (.str Qqp)) Jb)))) (Jh (JX (Jg (Jj Qaz) (Jd (Ka (Jg (Jj Qbw) (Jd (Ja 2) Jb)) (Jg K6 (Jd (JZ [5] (Ji (Ja 2)) (.nm 5) Mir.tYes (Ka (Jc J8 (Ja 5) (Ja 1)) (Jc Ku (Ja 5) (Jc Jk (Ja 1) (eC (.int 0)))))) Jb))) (Jd (eC (.str Qqo)) Jb)))) (Jh (Jx (.nm 6) (Ka (Jg (Jj Qaw) (Jd (Ja 3) Jb)) (Jg K6 (Jd (JZ [7] (Ji (Ja 3)) (.nm 7) Mir.tYes (Jg (Jj Qas) (Jd (Ja 7) (Jd (eC Kf) Jb)))) Jb)))) (Jh (JX (Jg (Jj Qaz) (Jd (Ka (Ja 6) (Jg (Jj Qbr) (Jd (Ja 3) Jb))) (Jd (eC (.str Qqn)) Jb)))) (Jh (JX (Jg (Jj Qaz) (Jd (Ka (Jg (Jj Qaw) (Jd (Ja 4) Jb)) (Jg K6 (Jd (JZ [8] (Ji (Ja 4)) (.nm 8) Mir.tYes (KD sup [(.own 0)] (Ja 8))) Jb))) (Jd (eC (.str Qx2)) Jb)))) (Jh (JX (Jg (Jj Qaz) (Jd (Jg K6 (Jd (eLcc [8,9] [9] (Ji (Ja 4)) (Ji (JS (fld 4) (Ja 8))) (.nm 8) (.nm 9) Mir.tYes Mir.tYes (Jc J8 (Ja 9) (Ja 1))) Jb)) (Jd (eC (.str Qx1)) Jb)))) (Jh (Mir.sFld 14 (Ja 0) (Jg fTuple (Jd (Ja 1) Jb))) (Jh (Mir.sFld 15 (Ja 0) (Jg fTuple (Jd (JZ [5] (Ji (Ja 1)) (.nm 5) (Mir.tB (Jc J8 (Ja 5) (Ja 2))) (Ja 5)) Jb))) (Jh (Mir.sFld 16 (Ja 0) (Jg fTuple (Jd (JZ [7] (Ji (eC Kf)) (.nm 7) (Mir.tB (Jc J8 (Ja 7) (Ja 3))) (Ja 7)) Jb))) (Jh (Mir.sFld 17 (Ja 0) (Jg fTuple (Jd (Ja 4) Jb))) (Jh (Mir.sFld 18 (Ja 0) (Jc Jk (JS (fld 14) (Ja 0)) (eC (.int 0)))) (Jh (Jx (.nm 10) (Ju (Jd (Ju (Jd (eC (.str Qqp)) (Qg6 (JS (fld 14) (Ja 0)) Jb))) (Jd (Ju (Jd (eC (.str Qqo)) (Qg6 (JS (fld 15) (Ja 0)) Jb))) (Jd (Ju (Jd (eC (.str Qqn)) (Qg6 (JS (fld 16) (Ja 0)) Jb))) Jb))))) (Mir.sFld 19 (Ja 0) (K7 (m1 Qdr) (eC (.str Qtp)) (Jd (Ju (Qg6 (JZ [11] (Ji (Ja 10)) (.nm 11) Mir.tYes (K7 (m1 Qdr) (eC (.str Qd9)) (Jd (Ja 11) Jb))) (Qg6 (JZ [8] (Ji (JS (fld 17) (Ja 0))) (.nm 8) Mir.tYes (JS (fld 3) (Ja 8))) Jb))) Jb)))))))))))))))
theorem Qkm:FnScope ["self", "marks", "counted", "keeps", "rows", "mark", "are_edits", "word", "row", "name", "lines", "words"] ["self", "marks", "counted", "keeps", "rows"] (defScope Qbq):=⟨rfl,rfl,rfl,by decide +kernel,rfl,by decide +kernel,by decide +kernel⟩
theorem Qpi (Z:Zf w K mg) (Yat:FnG P w K mg base (Jw w) 2 "are_names" Qbw) (Yak:FnG P w K mg base (Jw w) 1 "need_books" Qaz) (Yaj:FnG P w K mg base (Jw w) 1 "is_sequence" Qaw) (Yaf:FnG P w K mg base (Jw w) 1 "is_word_of" Qas) (Yam:FnG P w K mg base (Jw w) 1 "are_unlike" Qbr) {f:Addr} {fd:FuncData} (F:Fun K "__init__" "Book.__init__" Qbq f fd):FnOk P w K mg base CX0 3 f fd ["self", "marks", "counted", "keeps", "rows"] (Kc ⟨K,mg,(Jw w)⟩ Qa7):=by
 have Book_init_nd:=(Qkm).nd
 refine YB F Qkm rfl rfl λcdv A outer s H E hr=>?_
 have hu:=Yo hr
 have hv:=Yr hr
 exact (Kl (YZ (JR (Yak).Jj (hr.mono (by decide)) (Jf (Qe8 (JR (Yat).Jj (hr.mono (by decide)) (Jf (Je 1) Jp)) (Qeo (Qe7 Qt3 (Qbm cw_lenD Z.b_len (by decide +kernel) (Jf (Je 1) Jp)) JB))) (Jf (JF s_25 (by rfl)) Jp)))) (Kl (YZ (JR (Yak).Jj (hr.mono (by decide)) (Jf (Qe8 (JR (Yat).Jj (hr.mono (by decide)) (Jf (Je 2) Jp)) (Qeo (Qbm (cw_all rfl) Z.b_all (by decide +kernel) (Jf (Qd2 rfl Book_init_nd (own:=[("mark",5)]) (vs:=[5]) rfl (by decide) (blkOk_by (N:=["self", "marks", "counted", "keeps", "rows", "mark", "are_edits", "word", "row", "name", "lines", "words"]) (sc:=defScope Qbq) (by decide +kernel)) (YC (Je 2)) (λ_ _ _ _ _=>(Yb Book_init_nd)) (λ_ _ _ _ _=>Qb2) (λ_ _ _ _ _=>(Qe8 (Qe7 (Qkn hv) (Je 5) (Je 1)) (Qeo (Qe7 (Qmc hu) (Je 5) (Kd (Je 1) JB)))))) Jp)))) (Jf (JF s_26 (by rfl)) Jp)))) (Kl (Qcy (i:=6) Book_init_nd (Qe8 (JR (Yaj).Jj (hr.mono (by decide)) (Jf (Je 3) Jp)) (Qeo (Qbm (cw_all rfl) Z.b_all (by decide +kernel) (Jf (Qd2 rfl Book_init_nd (own:=[("word",7)]) (vs:=[7]) rfl (by decide) (blkOk_by (N:=["self", "marks", "counted", "keeps", "rows", "mark", "are_edits", "word", "row", "name", "lines", "words"]) (sc:=defScope Qbq) (by decide +kernel)) (YC (Je 3)) (λ_ _ _ _ _=>(Yb Book_init_nd)) (λ_ _ _ _ _=>Qb2) (λ_ _ _ _ _=>(JR (Yaf).Jj (hr.mono (by decide)) (Jf (Je 7) (Jf (Qgh Z.Kf) Jp))))) Jp))))) (Kl (YZ (JR (Yak).Jj (hr.mono (by decide)) (Jf (Qe8 (Je 6) (Qeo (JR (Yam).Jj (hr.mono (by decide)) (Jf (Je 3) Jp)))) (Jf (JF s_27 (by rfl)) Jp)))) (Kl (YZ (JR (Yak).Jj (hr.mono (by decide)) (Jf (Qe8 (JR (Yaj).Jj (hr.mono (by decide)) (Jf (Je 4) Jp)) (Qeo (Qbm (cw_all rfl) Z.b_all (by decide +kernel) (Jf (Qd2 rfl Book_init_nd (own:=[("row",8)]) (vs:=[8]) rfl (by decide) (blkOk_by (N:=["self", "marks", "counted", "keeps", "rows", "mark", "are_edits", "word", "row", "name", "lines", "words"]) (sc:=defScope Qbq) (by decide +kernel)) (YC (Je 4)) (λ_ _ _ _ _=>(Yb Book_init_nd)) (λ_ _ _ _ _=>Qb2) (λ_ _ _ _ _=>(Qh9 Z.sf Z.b_isinstance (Je 8) (Qzn Z.c_Row)))) Jp)))) (Jf (JF s_44 (by rfl)) Jp)))) (Kl (YZ (JR (Yak).Jj (hr.mono (by decide)) (Jf (Qbm (cw_all rfl) Z.b_all (by decide +kernel) (Jf (Qzx rfl Book_init_nd (own:=[("row",8),("name",9)]) (vs:=[8,9]) (vs1:=[9]) rfl (by decide) (by decide) (by decide) (blkOk_by (N:=["self", "marks", "counted", "keeps", "rows", "mark", "are_edits", "word", "row", "name", "lines", "words"]) (sc:=defScope Qbq) (by decide +kernel)) (YC (Je 4)) (λ_ _ _ _ _=>(Yb Book_init_nd)) (λ_ _ _ _ _=>Qb2) (λ_ _ _ _ _=>(YC (Qcl Z.sf (k:=4) rfl (Je 8)))) (λ_ _ _ _ _=>(Yb Book_init_nd)) (λ_ _ _ _ _=>Qb2) (λ_ _ _ _ _=>(Qe7 (Qkn hv) (Je 9) (Je 1)))) Jp)) (Jf (JF s_45 (by rfl)) Jp)))) (Kl (Qcz Z.sf (k:=14) rfl (Je 0) (Qa0 cw_tuple Z.b_tuple (by decide +kernel) (Jf (Je 1) Jp))) (Kl (Qcz Z.sf (k:=15) rfl (Je 0) (Qa0 cw_tuple Z.b_tuple (by decide +kernel) (Jf (Qd2 rfl Book_init_nd (own:=[("mark",5)]) (vs:=[5]) rfl (by decide) (blkOk_by (N:=["self", "marks", "counted", "keeps", "rows", "mark", "are_edits", "word", "row", "name", "lines", "words"]) (sc:=defScope Qbq) (by decide +kernel)) (YC (Je 1)) (λ_ _ _ _ _=>(Yb Book_init_nd)) (λ_ _ _ _ _=>(Qfj (YL (Qkn hv) (Je 5) (Je 2)))) (λ_ _ _ _ _=>(Je 5))) Jp))) (Kl (Qcz Z.sf (k:=16) rfl (Je 0) (Qa0 cw_tuple Z.b_tuple (by decide +kernel) (Jf (Qd2 rfl Book_init_nd (own:=[("word",7)]) (vs:=[7]) rfl (by decide) (blkOk_by (N:=["self", "marks", "counted", "keeps", "rows", "mark", "are_edits", "word", "row", "name", "lines", "words"]) (sc:=defScope Qbq) (by decide +kernel)) (YC (Qgh Z.Kf)) (λ_ _ _ _ _=>(Yb Book_init_nd)) (λ_ _ _ _ _=>(Qfj (YL (Qkn hv) (Je 7) (Je 3)))) (λ_ _ _ _ _=>(Je 7))) Jp))) (Kl (Qcz Z.sf (k:=17) rfl (Je 0) (Qa0 cw_tuple Z.b_tuple (by decide +kernel) (Jf (Je 4) Jp))) (Kl (Qcz Z.sf (k:=18) rfl (Je 0) (Kd (Qcl Z.sf (k:=14) rfl (Je 0)) JB)) (Kl (Qcy (i:=10) Book_init_nd (Y4 (Jf (Y4 (Jf (JF s_25 (by rfl)) (Qlg (Qcl Z.sf (k:=14) rfl (Je 0)) Jp))) (Jf (Y4 (Jf (JF s_26 (by rfl)) (Qlg (Qcl Z.sf (k:=15) rfl (Je 0)) Jp))) (Jf (Y4 (Jf (JF s_27 (by rfl)) (Qlg (Qcl Z.sf (k:=16) rfl (Je 0)) Jp))) Jp))))) (Kg (Qcz Z.sf (k:=19) rfl (Je 0) (Qle PySem.F.slot_str_join PySem.F.type_str_join Qh0 (JF s_28 (by rfl)) (Jf (Y4 (Qlg (Qd2 rfl Book_init_nd (own:=[("words",11)]) (vs:=[11]) rfl (by decide) (blkOk_by (N:=["self", "marks", "counted", "keeps", "rows", "mark", "are_edits", "word", "row", "name", "lines", "words"]) (sc:=defScope Qbq) (by decide +kernel)) (YC (Je 10)) (λ_ _ _ _ _=>(Yb Book_init_nd)) (λ_ _ _ _ _=>Qb2) (λ_ _ _ _ _=>(Qle PySem.F.slot_str_join PySem.F.type_str_join Qh0 (JF s_24 (by rfl)) (Jf (Je 11) Jp)))) (Qlg (Qd2 rfl Book_init_nd (own:=[("row",8)]) (vs:=[8]) rfl (by decide) (blkOk_by (N:=["self", "marks", "counted", "keeps", "rows", "mark", "are_edits", "word", "row", "name", "lines", "words"]) (sc:=defScope Qbq) (by decide +kernel)) (YC (Qcl Z.sf (k:=17) rfl (Je 0))) (λ_ _ _ _ _=>(Yb Book_init_nd)) (λ_ _ _ _ _=>Qb2) (λ_ _ _ _ _=>(Qcl Z.sf (k:=3) rfl (Je 8)))) Jp))) Jp))))))))))))))))
def Qb1:MF:=fnOf 1 3 (Jv (Jt (Jd (Jc Jk (Ja 0) (eC (.int 0))) (Jd (JZ [1] (Ji (Jc Jk (Ja 0) (eC (.int 0)))) (.nm 1) (Mir.tB (Jc J8 (Ja 1) (Jc Jk (Ja 0) (eC (.int 1))))) (Ja 1)) (Jd (Jg Qne (Jd (JZ [2] (Ji (Jc Jk (Ja 0) (eC (.int 2)))) (.nm 2) Mir.tYes (Jg fStr (Jd (Ja 2) Jb))) Jb)) (Jd (Jc Jk (Ja 0) (eC (.int 3))) Jb))))))
theorem Qlv:FnScope ["_law_book_here", "_law_mark", "_law_word"] ["_law_book_here"] (defScope Qd6):=⟨rfl,rfl,rfl,by decide +kernel,rfl,by decide +kernel,by decide +kernel⟩
theorem Qqv (Z:Zf w K mg) {f:Addr} {fd:FuncData} (F:Fun K "_law_told" "_law_told" Qd6 f fd):FnOk P w K mg base CX0 1 f fd ["_law_book_here"] (Kc ⟨K,mg,(Jw w)⟩ Qb1):=by
 have law_told_nd:=(Qlv).nd
 refine YB F Qlv rfl rfl λcdv A outer s H E hr=>?_
 have hu:=Yo hr
 have hv:=Yr hr
 exact (Kg (Yd (Xf (Jf (Kd (Je 0) JB) (Jf (Qd2 rfl law_told_nd (own:=[("_law_mark",1)]) (vs:=[1]) rfl (by decide) (blkOk_by (N:=["_law_book_here", "_law_mark", "_law_word"]) (sc:=defScope Qd6) (by decide +kernel)) (YC (Kd (Je 0) JB)) (λ_ _ _ _ _=>(Yb law_told_nd)) (λ_ _ _ _ _=>(Qfj (YL (Qkn hv) (Je 1) (Kd (Je 0) JB)))) (λ_ _ _ _ _=>(Je 1))) (Jf (Qbm (cw_sortD hu) Z.b_sorted (by decide +kernel) (Jf (Qd2 rfl law_told_nd (own:=[("_law_word",2)]) (vs:=[2]) rfl (by decide) (blkOk_by (N:=["_law_book_here", "_law_mark", "_law_word"]) (sc:=defScope Qd6) (by decide +kernel)) (YC (Kd (Je 0) JB)) (λ_ _ _ _ _=>(Yb law_told_nd)) (λ_ _ _ _ _=>Qb2) (λ_ _ _ _ _=>(Qa0 cw_str Z.b_str (by decide +kernel) (Jf (Je 2) Jp)))) Jp)) (Jf (Kd (Je 0) JB) Jp)))))))
def Qdm:MF:=fnOf 2 2 (Jv (Ka (KD sup [(.own 0)] (Ja 1)) (Jc Km (JS (fld 3) (Ja 0)) (JS (fld 3) (Ja 1)))))
theorem Qo2:FnScope ["self", "other"] ["self", "other"] (defScope Qlt):=⟨rfl,rfl,rfl,by decide +kernel,rfl,by decide +kernel,by decide +kernel⟩
theorem Qua (Z:Zf w K mg) {f:Addr} {fd:FuncData} (F:Fun K "__eq__" "Row.__eq__" Qlt f fd):FnOk P w K mg base CX0 1 f fd ["self", "other"] (Kc ⟨K,mg,(Jw w)⟩ Qdm):=by
 have Row_eq_nd:=(Qo2).nd
 refine YB F Qo2 rfl rfl λcdv A outer s H E hr=>?_
 have hu:=Yo hr
 have hv:=Yr hr
 exact (Kg (Yd (Qe8 (Qh9 Z.sf Z.b_isinstance (Je 1) (Qzn Z.c_Row)) (Qeo (Qe7 (Qdx hu) (Qcl Z.sf (k:=3) rfl (Je 0)) (Qcl Z.sf (k:=3) rfl (Je 1)))))))
def Qpn:MF:=fnOf 2 2 (Jv (Ka (KD sup [(.own 4)] (Ja 1)) (Jc Km (JS (fld 19) (Ja 0)) (JS (fld 19) (Ja 1)))))
theorem Qm9:FnScope ["self", "other"] ["self", "other"] (defScope Qj1):=⟨rfl,rfl,rfl,by decide +kernel,rfl,by decide +kernel,by decide +kernel⟩
theorem Qsu (Z:Zf w K mg) {f:Addr} {fd:FuncData} (F:Fun K "__eq__" "Book.__eq__" Qj1 f fd):FnOk P w K mg base CX0 1 f fd ["self", "other"] (Kc ⟨K,mg,(Jw w)⟩ Qpn):=by
 have Book_eq_nd:=(Qm9).nd
 refine YB F Qm9 rfl rfl λcdv A outer s H E hr=>?_
 have hu:=Yo hr
 have hv:=Yr hr
 exact (Kg (Yd (Qe8 (Qh9 Z.sf Z.b_isinstance (Je 1) (Qzn Z.c_Book)) (Qeo (Qe7 (Qdx hu) (Qcl Z.sf (k:=19) rfl (Je 0)) (Qcl Z.sf (k:=19) rfl (Je 1)))))))
def Qg8:MF:=fnOf 1 1 (Jv (Jg Yi (Jd (JS (fld 17) (Ja 0)) Jb)))
theorem Ql4:FnScope ["self"] ["self"] (defScope Qhv):=⟨rfl,rfl,rfl,by decide +kernel,rfl,by decide +kernel,by decide +kernel⟩
theorem Qq4 (Z:Zf w K mg) {f:Addr} {fd:FuncData} (F:Fun K "__len__" "Book.__len__" Qhv f fd):FnOk P w K mg base CX0 1 f fd ["self"] (Kc ⟨K,mg,(Jw w)⟩ Qg8):=by
 have Book_len_nd:=(Ql4).nd
 refine YB F Ql4 rfl rfl λcdv A outer s H E hr=>?_
 have hu:=Yo hr
 have hv:=Yr hr
 exact (Kg (Yd (Qbm cw_lenD Z.b_len (by decide +kernel) (Jf (Qcl Z.sf (k:=17) rfl (Je 0)) Jp))))
def Qgz:MF:=fnOf 1 1 (Jv (JD (JS (fld 3) (Ja 0))))
theorem Qm8:FnScope ["self"] ["self"] (defScope Qj0):=⟨rfl,rfl,rfl,by decide +kernel,rfl,by decide +kernel,by decide +kernel⟩
theorem Qst (Z:Zf w K mg) {f:Addr} {fd:FuncData} (F:Fun K "__str__" "Row.__str__" Qj0 f fd):FnOk P w K mg base CX0 1 f fd ["self"] (Kc ⟨K,mg,(Jw w)⟩ Qgz):=by
 have Row_str_nd:=(Qm8).nd
 refine YB F Qm8 rfl rfl λcdv A outer s H E hr=>?_
 have hu:=Yo hr
 have hv:=Yr hr
 exact (Kg (Yd (Qm3 (Qd3 (Qcl Z.sf (k:=3) rfl (Je 0))))))
def Qnb:MF:=fnOf 1 1 (Jv (JD (JS (fld 19) (Ja 0))))
theorem Ql3:FnScope ["self"] ["self"] (defScope Qhu):=⟨rfl,rfl,rfl,by decide +kernel,rfl,by decide +kernel,by decide +kernel⟩
theorem Qq3 (Z:Zf w K mg) {f:Addr} {fd:FuncData} (F:Fun K "__str__" "Book.__str__" Qhu f fd):FnOk P w K mg base CX0 1 f fd ["self"] (Kc ⟨K,mg,(Jw w)⟩ Qnb):=by
 have Book_str_nd:=(Ql3).nd
 refine YB F Ql3 rfl rfl λcdv A outer s H E hr=>?_
 have hu:=Yo hr
 have hv:=Yr hr
 exact (Kg (Yd (Qm3 (Qd3 (Qcl Z.sf (k:=19) rfl (Je 0))))))
def Qa4:MF:=fnOf 1 3 (Jh (Jx (.nm 1) (JZ [2] (Ji (Yk sl (Ja 0) (K9 (eC (.int 1))) YJ)) (.nm 2) Mir.tYes (Jg fStr (Jd (Ja 2) Jb)))) (Jh (Yl (Mir.tB (Jc Km (Jc Jk (Ja 0) (eC (.int 0))) (eC (.str Ql9)))) (Jv (Jc JL (Jc JL (Jc JL (Jc JL (Jc JL (Jc JL (Jc Jk (Ja 1) (eC (.int 0))) (eC (.str Qd9))) (Jc Jk (Ja 1) (eC (.int 1)))) (eC (.str Ql8))) (Jc Jk (Ja 1) (eC (.int 2)))) (eC (.str Ql7))) (Jc Jk (Ja 1) (eC (.int 3))))) YK) (Jh (Yl (Mir.tB (Jc Km (Jc Jk (Ja 0) (eC (.int 0))) (eC (.str s_8_)))) (Jv (Jc JL (Jc JL (Jc JL (Jc JL (Jc JL (Jc JL (Jc JL (eC (.str Qto)) (Jc Jk (Ja 1) (eC (.int 0)))) (eC (.str Qd9))) (Jc Jk (Ja 1) (eC (.int 1)))) (eC (.str Ql8))) (Jc Jk (Ja 1) (eC (.int 2)))) (eC (.str Ql7))) (Jc Jk (Ja 1) (eC (.int 3))))) YK) (Jv (K7 (m1 Qdr) (eC (.str Qd9)) (Jd (Ju (Jd (eC (.str Qqq)) (Jd (Jc Jk (Ja 1) (eC (.int 0))) (Jd (eC (.str Qyb)) (Jd (Jc Jk (Ja 1) (eC (.int 1))) (Jd (Jc Jk (Ja 1) (eC (.int 2))) (Jd (eC (.str Qya)) (Jd (Jc Jk (Ja 1) (eC (.int 3))) (Jd (Jc Jk (Ja 1) (eC (.int 4))) Jb))))))))) Jb))))))
theorem Qgt:FnScope ["_law_row", "_law_some", "_law_part"] ["_law_row"] (defScope Qc6):=⟨rfl,rfl,rfl,by decide +kernel,rfl,by decide +kernel,by decide +kernel⟩
theorem Qmf (Z:Zf w K mg) {f:Addr} {fd:FuncData} (F:Fun K "_law_row_text" "_law_row_text" Qc6 f fd):FnOk P w K mg base CX0 1 f fd ["_law_row"] (Kc ⟨K,mg,(Jw w)⟩ Qa4):=by
 have law_row_text_nd:=(Qgt).nd
 refine YB F Qgt rfl rfl λcdv A outer s H E hr=>?_
 have hu:=Yo hr
 have hv:=Yr hr
 exact (Kl (Qs3 (i:=1) rfl law_row_text_nd rfl rfl (sw_true rfl rfl rfl (by decide +kernel)) (own:=[("_law_part",2)]) (vs:=[2]) rfl (by decide) (blkOk_by (N:=["_law_row", "_law_some", "_law_part"]) (sc:=defScope Qc6) (by decide +kernel)) (YC (Qfl (Je 0) (Qb9 JB) Qck)) (λ_ _ _ _ _=>(Yb law_row_text_nd)) (λ_ _ _ _ _=>Qb2) (λ_ _ _ _ _=>(Qa0 cw_str Z.b_str (by decide +kernel) (Jf (Je 2) Jp)))) (Kl (Qel (YL (Qdx hu) (Kd (Je 0) JB) (JF s_16 (by rfl))) (Kg (Yd (Kv Yg (Kv Yg (Kv Yg (Kv Yg (Kv Yg (Kv Yg (Kd (Je 1) JB) (JF s_24 (by rfl))) (Kd (Je 1) JB)) (JF s_29 (by rfl))) (Kd (Je 1) JB)) (JF s_30 (by rfl))) (Kd (Je 1) JB)))) Qcd) (Kl (Qel (YL (Qdx hu) (Kd (Je 0) JB) (JF s_8 (by rfl))) (Kg (Yd (Kv Yg (Kv Yg (Kv Yg (Kv Yg (Kv Yg (Kv Yg (Kv Yg (JF s_31 (by rfl)) (Kd (Je 1) JB)) (JF s_24 (by rfl))) (Kd (Je 1) JB)) (JF s_29 (by rfl))) (Kd (Je 1) JB)) (JF s_30 (by rfl))) (Kd (Je 1) JB)))) Qcd) (Kg (Yd (Qle PySem.F.slot_str_join PySem.F.type_str_join Qh0 (JF s_24 (by rfl)) (Jf (Y4 (Jf (JF s_14 (by rfl)) (Jf (Kd (Je 1) JB) (Jf (JF s_32 (by rfl)) (Jf (Kd (Je 1) JB) (Jf (Kd (Je 1) JB) (Jf (JF s_33 (by rfl)) (Jf (Kd (Je 1) JB) (Jf (Kd (Je 1) JB) Jp))))))))) Jp)))))))
def Qbu:MF:=fnOf 1 3 (Jh (Jx (.nm 1) (Qfc (Jd (K7 (m1 Qdr) (eC (.str Qd9)) (Jd (Jc JL (Ju (Jd (eC (.str Qqp)) Jb)) (Jg Qn8 (Jd (Jc Jk (Ja 0) (eC (.int 0))) Jb))) Jb)) (Jd (K7 (m1 Qdr) (eC (.str Qd9)) (Jd (Jc JL (Ju (Jd (eC (.str Qqo)) Jb)) (Jg Qn8 (Jd (Jc Jk (Ja 0) (eC (.int 1))) Jb))) Jb)) Jb)))) (Jh (JX (JT (m1 Qbs) (Ja 1) (Jd (K7 (m1 Qdr) (eC (.str Qd9)) (Jd (Jc JL (Ju (Jd (eC (.str Qqn)) Jb)) (Jg Qn8 (Jd (Jc Jk (Ja 0) (eC (.int 2))) Jb))) Jb)) Jb))) (Jv (K7 (m1 Qdr) (eC (.str Qtp)) (Jd (Jc JL (Ja 1) (JZ [2] (Ji (Jc Jk (Ja 0) (eC (.int 3)))) (.nm 2) Mir.tYes (Jg (Jj Qa4) (Jd (Ja 2) Jb)))) Jb)))))
theorem Qlw:FnScope ["_law_book_here", "_law_lines", "_law_row"] ["_law_book_here"] (defScope Qfn):=⟨rfl,rfl,rfl,by decide +kernel,rfl,by decide +kernel,by decide +kernel⟩
theorem Qqw (Z:Zf w K mg) (Yan:FnG P w K mg base (Jw w) 1 "_law_row_text" Qa4) {f:Addr} {fd:FuncData} (F:Fun K "_law_text" "_law_text" Qfn f fd):FnOk P w K mg base CX0 2 f fd ["_law_book_here"] (Kc ⟨K,mg,(Jw w)⟩ Qbu):=by
 have law_text_nd:=(Qlw).nd
 refine YB F Qlw rfl rfl λcdv A outer s H E hr=>?_
 have hu:=Yo hr
 have hv:=Yr hr
 exact (Kl (Qcy (i:=1) law_text_nd (Qgg (Jf (Qle PySem.F.slot_str_join PySem.F.type_str_join Qh0 (JF s_24 (by rfl)) (Jf (Kv Yg (Y4 (Jf (JF s_25 (by rfl)) Jp)) (Qa0 cw_list Z.b_list (by decide +kernel) (Jf (Kd (Je 0) JB) Jp))) Jp)) (Jf (Qle PySem.F.slot_str_join PySem.F.type_str_join Qh0 (JF s_24 (by rfl)) (Jf (Kv Yg (Y4 (Jf (JF s_26 (by rfl)) Jp)) (Qa0 cw_list Z.b_list (by decide +kernel) (Jf (Kd (Je 0) JB) Jp))) Jp)) Jp)))) (Kl (YZ (Qep PySem.F.slot_list_append PySem.F.type_list_append Qdq (Je 1) (Jf (Qle PySem.F.slot_str_join PySem.F.type_str_join Qh0 (JF s_24 (by rfl)) (Jf (Kv Yg (Y4 (Jf (JF s_27 (by rfl)) Jp)) (Qa0 cw_list Z.b_list (by decide +kernel) (Jf (Kd (Je 0) JB) Jp))) Jp)) Jp))) (Kg (Yd (Qle PySem.F.slot_str_join PySem.F.type_str_join Qh0 (JF s_28 (by rfl)) (Jf (Kv Yg (Je 1) (Qd2 rfl law_text_nd (own:=[("_law_row",2)]) (vs:=[2]) rfl (by decide) (blkOk_by (N:=["_law_book_here", "_law_lines", "_law_row"]) (sc:=defScope Qfn) (by decide +kernel)) (YC (Kd (Je 0) JB)) (λ_ _ _ _ _=>(Yb law_text_nd)) (λ_ _ _ _ _=>Qb2) (λ_ _ _ _ _=>(JR (Yan).Jj (hr.mono (by decide)) (Jf (Je 2) Jp))))) Jp))))))
def Qb4:MF:=fnOf 2 2 (Yl (Mir.tNot (Mir.tB (Qhj Xb opLt (eC (.int 0)) (Ja 1) (Jg Yi (Jd (JS (fld 17) (Ja 0)) Jb))))) sBad YK)
theorem Qf7:FnScope ["self", "at"] ["self", "at"] (defScope Qdt):=⟨rfl,rfl,rfl,by decide +kernel,rfl,by decide +kernel,by decide +kernel⟩
theorem Qk1 (Z:Zf w K mg) {f:Addr} {fd:FuncData} (F:Fun K "need_row" "Book.need_row" Qdt f fd):FnOk P w K mg base CX0 1 f fd ["self", "at"] (Kc ⟨K,mg,(Jw w)⟩ Qb4):=by
 have Book_need_row_nd:=(Qf7).nd
 refine YB F Qf7 rfl rfl λcdv A outer s H E hr=>?_
 have hu:=Yo hr
 have hv:=Yr hr
 exact (Kg (Qel (Qm2 (Qrk Qo8 QAx JB (Je 1) (Qbm cw_lenD Z.b_len (by decide +kernel) (Jf (Qcl Z.sf (k:=17) rfl (Je 0)) Jp)))) (Kg Qs4) Qcd))
def Qbg:MF:=fnOf 2 2 (Jh (JX (Qpx [(4,(Jj Qb4))] (Ja 0) (Jd (Ja 1) Jb))) (Jv (Jc Jk (JS (fld 17) (Ja 0)) (Ja 1))))
theorem Qgu:FnScope ["self", "at"] ["self", "at"] (defScope Qd8):=⟨rfl,rfl,rfl,by decide +kernel,rfl,by decide +kernel,by decide +kernel⟩
theorem Qmg (Z:Zf w K mg) (Ybb:MtG P w K mg base (Jw w) 1 "need_row" 4 Qb4) {f:Addr} {fd:FuncData} (F:Fun K "__getitem__" "Book.__getitem__" Qd8 f fd):FnOk P w K mg base CX0 2 f fd ["self", "at"] (Kc ⟨K,mg,(Jw w)⟩ Qbg):=by
 have Book_getitem_nd:=(Qgu).nd
 refine YB F Qgu rfl rfl λcdv A outer s H E hr=>?_
 have hu:=Yo hr
 have hv:=Yr hr
 exact (Kl (YZ (Qxj Z.sf (Ybb).Jj Qpl (hr.mono (by decide)) (Je 0) (Jf (Je 1) Jp))) (Kg (Yd (Kd (Qcl Z.sf (k:=17) rfl (Je 0)) (Je 1)))))
def KQ:List (Nat×MF):=[(0,Qdm),(1,Qdm),(2,Qdm),(3,Qdm),(4,Qpn)]
def Qkr:List (Nat×MF):=[(4,Qg8)]
def Qdw:List (Nat×MF):=[(0,Qgz),(1,Qgz),(2,Qgz),(3,Qgz),(4,Qnb)]
def Qug:MF:=fnOf 1 17 (Jh (Jx (.nm 1) (Jg Qd0 (Jd (Ja 0) (Jd (eC (.int 0)) Jb)))) (Jh (KY (Qcs (eC (.int 5))) (.nm 2) (Jh (Jx (.nm 3) (Qfc (Jd (Jg Qce (Jd (Ja 1) (Jd (eC (.int 4)) Jb))) (Jd (Jg Qce (Jd (Ja 1) (Jd (eC (.int 3)) Jb))) Jb)))) (Jh (JX (JT (m1 Qbs) (Ja 3) (Jd (Jt (Jd (Jc Jk (Jc Jk (Ja 3) (eC (.int 0))) (eC (.int 0))) (Jd (Jc Jk (Jc Jk (Ja 3) (eC (.int 0))) (eC (.int 1))) (Jd (Jc Jk (Jc Jk (Ja 3) (eC (.int 0))) (eC (.int 2))) (Jd (Yk sl (Jc Jk (Jc Jk (Ja 3) (eC (.int 0))) (eC (.int 3))) YJ (K9 (JS Qil (eC (.int 1))))) Jb))))) Jb))) (Jh (Jx (.nm 4) (Qfc Jb)) (Jh (KY (Ji (Ja 3)) (.tp [(.nm 5),(.nm 6),(.nm 7),(.nm 8)]) (Jh (Jx (.nm 9) (Qfc (Jd (Jg Qf9 (Jd (Ja 5) Jb)) (Jd (Jg Qbz (Jd (Ja 1) (Jd (Ja 6) Jb))) (Jd (Jg Qbz (Jd (Ja 1) (Jd (Ja 7) Jb))) Jb))))) (Jh (JX (JT (m1 Qbs) (Ja 9) (Jd (eLcM [10] (Ji (Ja 8)) (.nm 10) Mir.tYes (Jg (Jj Qbl) (Jd (Ja 10) Jb))) Jb))) (Jh (Jx (.nm 11) (Jg (purV (Y6 4 Qa7)) (Jd (Jc Jk (Ja 9) (eC (.int 0))) (Jd (Jc Jk (Ja 9) (eC (.int 1))) (Jd (Jc Jk (Ja 9) (eC (.int 2))) (Jd (Jc Jk (Ja 9) (eC (.int 3))) Jb)))))) (Jh (KY (Ji (Ja 9)) (.nm 12) (JX (JT (m1 Qbs) (Ja 12) (Jd (eC (.str Qyc)) Jb)))) (Jh (Jx (.nm 13) (Jg (Jj Qb1) (Jd (Jt (Jd (Ja 5) (Jd (Ja 6) (Jd (Ja 7) (Jd (Ja 8) Jb))))) Jb))) (Jh (Yl (Mir.tB (eRp false (Jt (Jd (JS (fld 14) (Ja 11)) (Jd (JS (fld 15) (Ja 11)) (Jd (JS (fld 16) (Ja 11)) Jb)))) (Jt (Jd (Jg fTuple (Jd (Jc Jk (Ja 13) (eC (.int 0))) Jb)) (Jd (Jg fTuple (Jd (Jc Jk (Ja 13) (eC (.int 1))) Jb)) (Jd (Jg fTuple (Jd (Jc Jk (Ja 13) (eC (.int 2))) Jb)) Jb)))))) (Jv (eC (.bl false))) YK) (Jh (Yl (Mir.tOr (Mir.tB (Jc (Qdz sup KQ) (JS (fld 18) (Ja 11)) (Jc Jk (Ja 5) (eC (.int 0))))) (Mir.tOr (Mir.tB (Jc (Qdz sup KQ) (Jg (Qn9 Qkr) (Jd (Ja 11) Jb)) (Jg Yi (Jd (Ja 8) Jb)))) (Mir.tB (Jc (Qdz sup KQ) (Jg (Qg0 Qdw) (Jd (Ja 11) Jb)) (Jg (Jj Qbu) (Jd (Ja 13) Jb)))))) (Jv (eC (.bl false))) YK) (Jh (Yl (Mir.tB (Jc (Qdz sup KQ) (JZ [14] (Qcs (Jg Yi (Jd (Ja 8) Jb))) (.nm 14) Mir.tYes (Jg (Qg0 Qdw) (Jd (Jc (Qgx 4 (Jj Qbg)) (Ja 11) (Ja 14)) Jb))) (JZ [10] (Ji (Ja 8)) (.nm 10) Mir.tYes (Jg (Jj Qa4) (Jd (Ja 10) Jb))))) (Jv (eC (.bl false))) YK) (Jh (Yl (Mir.tOr (Mir.tNot (Mir.tB (KD sup [.tuple] (JS (fld 17) (Ja 11))))) (Mir.tB (Jc (Qsr sup KQ) (JS (fld 17) (Ja 11)) (Jg fTuple (Jd (JZ [10] (Ji (Ja 8)) (.nm 10) Mir.tYes (Jg (Jj Qbl) (Jd (Ja 10) Jb))) Jb))))) (Jv (eC (.bl false))) YK) (Jh (Yl (Mir.tOr (Mir.tB (Jc (Qem sup KQ) (Ja 11) (Jg (Qg0 Qdw) (Jd (Ja 11) Jb)))) (Mir.tB (Jc (Qem sup KQ) (Ja 11) (JS (fld 17) (Ja 11))))) (Jv (eC (.bl false))) YK) (JX (JT (m1 Qbs) (Ja 4) (Jd (Ja 11) Jb)))))))))))))) (KY (Qcs (eC (.int 3))) (.nm 14) (KY (Qcs (eC (.int 3))) (.nm 15) (Jh (Jx (.nm 16) (Jc (Qem sup KQ) (Jg (Jj Qbu) (Jd (Jg (Jj Qb1) (Jd (Jc Jk (Ja 3) (Ja 14)) Jb)) Jb)) (Jg (Jj Qbu) (Jd (Jg (Jj Qb1) (Jd (Jc Jk (Ja 3) (Ja 15)) Jb)) Jb)))) (Yl (Mir.tOr (Mir.tB (Jc (Qdz sup KQ) (Jc (Qem sup KQ) (Jc Jk (Ja 4) (Ja 14)) (Jc Jk (Ja 4) (Ja 15))) (Ja 16))) (Mir.tB (Jc (Qem sup KQ) (Jc (Qdz sup KQ) (Jc Jk (Ja 4) (Ja 14)) (Jc Jk (Ja 4) (Ja 15))) (Ja 16)))) (Jv (eC (.bl false))) YK))))))))) (Jv (Jc (Qem sup KQ) (Jg (Jj (Y6 4 Qa7)) (Jd (Jt (Jd (eC (.str s_3_)) Jb)) (Jd (Jt Jb) (Jd (Jt Jb) (Jd (Jt Jb) Jb))))) (Jg (Jj (Y6 4 Qa7)) (Jd (Ju (Jd (eC (.str s_3_)) Jb)) (Jd (Ju Jb) (Jd (Ju Jb) (Jd (Ju Jb) Jb)))))))))
theorem Qws:FnScope ["_law_script", "_law_deal_here", "_law_turn", "_law_some", "_law_made", "_law_marks", "_law_counted", "_law_keeps", "_law_rows", "_law_handed", "_law_row", "_law_one", "_law_part", "_law_due", "_law_at", "_law_other", "_law_is_same"] ["_law_script"] (defScope Qlp):=⟨rfl,rfl,rfl,by decide +kernel,rfl,by decide +kernel,by decide +kernel⟩
theorem QAz (Z:Zf w K mg) (Ybc:FnG P w K mg base (Jw w) 1 "_law_deal" Qd0) (Yau:FnG P w K mg base (Jw w) 4 "_law_book" Qce) (Yav:FnG P w K mg base (Jw w) 2 "_law_mixed" Qbz) (Yaw:FnG P w K mg base (Jw w) 5 "_law_row_of" Qbl) (Yao:MkG P w K mg base (Jw w) 3 "Book" 4 Qa7) (Yap:FnG P w K mg base (Jw w) 1 "_law_told" Qb1) (Yad:EqT P w K mg base (Jw w) 1 KQ) (Ybd:SpT P w K mg base (Jw w) "__len__" 1 Qkr) (Yaq:StrT P w K mg base (Jw w) 1 Qdw) (Yar:FnG P w K mg base (Jw w) 2 "_law_text" Qbu) (Ybe:GiG P w K mg base (Jw w) 2 4 Qbg) (Yan:FnG P w K mg base (Jw w) 1 "_law_row_text" Qa4) {f:Addr} {fd:FuncData} (F:Fun K "law" "law" Qlp f fd):FnK P w K mg base 6 f fd ["_law_script"] (Kc ⟨K,mg,(Jw w)⟩ Qug):=by
 have law_nd:=(Qws).nd
 refine QBj F Qws rfl rfl λcdv A outer s H E hG hr=>?_
 have hu:=Yo hr
 have hv:=Yr hr
 exact (Kl (Qcy (i:=1) law_nd (JR Ybc (hr.mono (by decide)) (Jf (Je 0) (Jf JB Jp)))) (Kl (Qhd PassesOwn.never rfl (Qe6 JB Z.b_range) (Yb law_nd) (Kl (Qcy (i:=3) law_nd (Qgg (Jf (JR Yau (hr.mono (by decide)) (Jf (Je 1) (Jf JB Jp))) (Jf (JR Yau (hr.mono (by decide)) (Jf (Je 1) (Jf JB Jp))) Jp)))) (Kl (YZ (Qep PySem.F.slot_list_append PySem.F.type_list_append Qdq (Je 3) (Jf (Xf (Jf (Kd (Kd (Je 3) JB) JB) (Jf (Kd (Kd (Je 3) JB) JB) (Jf (Kd (Kd (Je 3) JB) JB) (Jf (Qfl (Kd (Kd (Je 3) JB) JB) Qck (Qb9 (Qxm Qqs JB))) Jp))))) Jp))) (Kl (Qcy (i:=4) law_nd (Qgg Jp)) (Kl (Qhd PassesOwn.never rfl (YC (Je 3)) (Qwp rfl (Qfk (Yb law_nd) (Qfk (Yb law_nd) (Qfk (Yb law_nd) (Qfk (Yb law_nd) Qs5))))) (Kl (Qcy (i:=9) law_nd (Qgg (Jf (Qa0 cw_listM Z.b_list (by decide +kernel) (Jf (Je 5) Jp)) (Jf (JR Yav (hr.mono (by decide)) (Jf (Je 1) (Jf (Je 6) Jp))) (Jf (JR Yav (hr.mono (by decide)) (Jf (Je 1) (Jf (Je 7) Jp))) Jp))))) (Kl (YZ (Qep PySem.F.slot_list_append PySem.F.type_list_append Qdq (Je 9) (Jf (Qzy rfl law_nd (own:=[("_law_row",10)]) (vs:=[10]) rfl (by decide) (blkOk_by (N:=["_law_script", "_law_deal_here", "_law_turn", "_law_some", "_law_made", "_law_marks", "_law_counted", "_law_keeps", "_law_rows", "_law_handed", "_law_row", "_law_one", "_law_part", "_law_due", "_law_at", "_law_other", "_law_is_same"]) (sc:=defScope Qlp) (by decide +kernel)) (YC (Je 8)) (λ_ _ _ _ _=>(Yb law_nd)) (λ_ _ _ _ _=>Qb2) (λ_ _ _ _ _=>(JR (Yaw).Jj (hr.mono (by decide)) (Jf (Je 10) Jp)))) Jp))) (Kl (Qcy (i:=11) law_nd (Qu0 Yao (hr.mono (by decide)) (Jf (Kd (Je 9) JB) (Jf (Kd (Je 9) JB) (Jf (Kd (Je 9) JB) (Jf (Kd (Je 9) JB) Jp)))))) (Kl (Qhd PassesOwn.never rfl (YC (Je 9)) (Yb law_nd) (Kg (YZ (Qep PySem.F.slot_list_append PySem.F.type_list_append Qdq (Je 12) (Jf (JF s_23 (by rfl)) Jp))))) (Kl (Qcy (i:=13) law_nd (JR (Yap).Jj (hr.mono (by decide)) (Jf (Xf (Jf (Je 5) (Jf (Je 6) (Jf (Je 7) (Jf (Je 8) Jp))))) Jp))) (Kl (Qel (Qxi hG hu Z.b_repr (Xf (Jf (Qcl Z.sf (k:=14) rfl (Je 11)) (Jf (Qcl Z.sf (k:=15) rfl (Je 11)) (Jf (Qcl Z.sf (k:=16) rfl (Je 11)) Jp)))) (Xf (Jf (Qa0 cw_tuple Z.b_tuple (by decide +kernel) (Jf (Kd (Je 13) JB) Jp)) (Jf (Qa0 cw_tuple Z.b_tuple (by decide +kernel) (Jf (Kd (Je 13) JB) Jp)) (Jf (Qa0 cw_tuple Z.b_tuple (by decide +kernel) (Jf (Kd (Je 13) JB) Jp)) Jp))))) (Kg (Yd Qoj)) Qcd) (Kl (Qel (PW.pt (Qqf (YL (Qj3 Z.sf Yad (hr.mono (by decide))) (Qcl Z.sf (k:=18) rfl (Je 11)) (Kd (Je 5) JB)) (Qqf (YL (Qj3 Z.sf Yad (hr.mono (by decide))) (Qbm (cw_lenO Ybd (hr.mono (by decide))) Z.b_len (by decide +kernel) (Jf (Je 11) Jp)) (Qbm cw_lenD Z.b_len (by decide +kernel) (Jf (Je 8) Jp))) (Qoh (YL (Qj3 Z.sf Yad (hr.mono (by decide))) (Qa0 (cw_strO Yaq (hr.mono (by decide))) Z.b_str (by decide +kernel) (Jf (Je 11) Jp)) (JR (Yar).Jj (hr.mono (by decide)) (Jf (Je 13) Jp))))))) (Kg (Yd Qoj)) Qcd) (Kl (Qel (YL (Qj3 Z.sf Yad (hr.mono (by decide))) (Qd2 rfl law_nd (own:=[("_law_at",14)]) (vs:=[14]) rfl (by decide) (blkOk_by (N:=["_law_script", "_law_deal_here", "_law_turn", "_law_some", "_law_made", "_law_marks", "_law_counted", "_law_keeps", "_law_rows", "_law_handed", "_law_row", "_law_one", "_law_part", "_law_due", "_law_at", "_law_other", "_law_is_same"]) (sc:=defScope Qlp) (by decide +kernel)) (Qe6 (Qbm cw_lenD Z.b_len (by decide +kernel) (Jf (Je 8) Jp)) Z.b_range) (λ_ _ _ _ _=>(Yb law_nd)) (λ_ _ _ _ _=>Qb2) (λ_ _ _ _ _=>(Qa0 (cw_strO Yaq (hr.mono (by decide))) Z.b_str (by decide +kernel) (Jf (Qxk (Ybe).Jj (hr.mono (by decide)) (Je 11) (Je 14)) Jp)))) (Qd2 rfl law_nd (own:=[("_law_row",10)]) (vs:=[10]) rfl (by decide) (blkOk_by (N:=["_law_script", "_law_deal_here", "_law_turn", "_law_some", "_law_made", "_law_marks", "_law_counted", "_law_keeps", "_law_rows", "_law_handed", "_law_row", "_law_one", "_law_part", "_law_due", "_law_at", "_law_other", "_law_is_same"]) (sc:=defScope Qlp) (by decide +kernel)) (YC (Je 8)) (λ_ _ _ _ _=>(Yb law_nd)) (λ_ _ _ _ _=>Qb2) (λ_ _ _ _ _=>(JR (Yan).Jj (hr.mono (by decide)) (Jf (Je 10) Jp))))) (Kg (Yd Qoj)) Qcd) (Kl (Qel (PW.pt (Qqf (Qm2 (Qm1 (Qh9 Z.sf Z.b_isinstance (Qcl Z.sf (k:=17) rfl (Je 11)) (Qkv Z.b_tuple (by decide +kernel) rfl)))) (Qoh (YL (Qyq Z.sf Yad (hr.mono (by decide))) (Qcl Z.sf (k:=17) rfl (Je 11)) (Qa0 cw_tuple Z.b_tuple (by decide +kernel) (Jf (Qd2 rfl law_nd (own:=[("_law_row",10)]) (vs:=[10]) rfl (by decide) (blkOk_by (N:=["_law_script", "_law_deal_here", "_law_turn", "_law_some", "_law_made", "_law_marks", "_law_counted", "_law_keeps", "_law_rows", "_law_handed", "_law_row", "_law_one", "_law_part", "_law_due", "_law_at", "_law_other", "_law_is_same"]) (sc:=defScope Qlp) (by decide +kernel)) (YC (Je 8)) (λ_ _ _ _ _=>(Yb law_nd)) (λ_ _ _ _ _=>Qb2) (λ_ _ _ _ _=>(JR (Yaw).Jj (hr.mono (by decide)) (Jf (Je 10) Jp)))) Jp)))))) (Kg (Yd Qoj)) Qcd) (Kl (Qel (PW.pt (Qqf (YL (Qj4 Z.sf Yad (hr.mono (by decide))) (Je 11) (Qa0 (cw_strO Yaq (hr.mono (by decide))) Z.b_str (by decide +kernel) (Jf (Je 11) Jp))) (Qoh (YL (Qj4 Z.sf Yad (hr.mono (by decide))) (Je 11) (Qcl Z.sf (k:=17) rfl (Je 11)))))) (Kg (Yd Qoj)) Qcd) (Kg (YZ (Qep PySem.F.slot_list_append PySem.F.type_list_append Qdq (Je 4) (Jf (Je 11) Jp))))))))))))))) (Kg (Qhd PassesOwn.never rfl (Qe6 JB Z.b_range) (Yb law_nd) (Kg (Qhd PassesOwn.never rfl (Qe6 JB Z.b_range) (Yb law_nd) (Kl (Qcy (i:=16) law_nd (Qe7 (Qj4 Z.sf Yad (hr.mono (by decide))) (JR (Yar).Jj (hr.mono (by decide)) (Jf (JR (Yap).Jj (hr.mono (by decide)) (Jf (Kd (Je 3) (Je 14)) Jp)) Jp)) (JR (Yar).Jj (hr.mono (by decide)) (Jf (JR (Yap).Jj (hr.mono (by decide)) (Jf (Kd (Je 3) (Je 15)) Jp)) Jp)))) (Kg (Qel (PW.pt (Qqf (YL (Qj3 Z.sf Yad (hr.mono (by decide))) (Qe7 (Qj4 Z.sf Yad (hr.mono (by decide))) (Kd (Je 4) (Je 14)) (Kd (Je 4) (Je 15))) (Je 16)) (Qoh (YL (Qj4 Z.sf Yad (hr.mono (by decide))) (Qe7 (Qj3 Z.sf Yad (hr.mono (by decide))) (Kd (Je 4) (Je 14)) (Kd (Je 4) (Je 15))) (Je 16))))) (Kg (Yd Qoj)) Qcd)))))))))))) (Kg (Yd (Qe7 (Qj4 Z.sf Yad (hr.mono (by decide))) (Qh8 Yao (hr.mono (by decide)) (Jf (Xf (Jf (JF s_3 (by rfl)) Jp)) (Jf (Xf Jp) (Jf (Xf Jp) (Jf (Xf Jp) Jp))))) (Qh8 Yao (hr.mono (by decide)) (Jf (Y4 (Jf (JF s_3 (by rfl)) Jp)) (Jf (Y4 Jp) (Jf (Y4 Jp) (Jf (Y4 Jp) Jp))))))))))
theorem facts {h:Heap} (hf:(P.main.file:Str)=hd.file) (htop:(P.main.scope.names.lookup ("super" : Str)).isSome=false) (X:K.In h) (G:h.Ns mainGlobals mg) (c0:QBy hd tbs w K) :
  ∃ fd:FuncData,(∀ (s:Shared) (v:Value),BindsTo s fd ⟨[v],[]⟩ [("_law_script",v)])/\∀ base:Heap,(∀ c T,YH K=some (c,T)->LamX.TabB base mg c T)->FnK P w K mg base 6 (He.fAd K ("law",none)) fd ["_law_script"] (Kc ⟨K,mg,(Jw w)⟩ Qug):=by
 have c:=c0.1
 have Z:Zf w K mg:=⟨sf_ok X G c.sf,He.free_ok X G (c.fact 0 (f:=.fa (.free "IndexError")) rfl),He.free_ok X G (c.fact 1 (f:=.fa (.free "KeyError")) rfl),He.free_ok X G (c.fact 2 (f:=.fa (.free "ValueError")) rfl),He.free_ok X G (c.fact 3 (f:=.fa (.free "abs")) rfl),He.free_ok X G (c.fact 4 (f:=.fa (.free "all")) rfl),He.free_ok X G (c.fact 5 (f:=.fa (.free "any")) rfl),He.free_ok X G (c.fact 6 (f:=.fa (.free "bool")) rfl),He.free_ok X G (c.fact 7 (f:=.fa (.free "dict")) rfl),He.free_ok X G (c.fact 8 (f:=.fa (.free "enumerate")) rfl),He.free_ok X G (c.fact 9 (f:=.fa (.free "int")) rfl),He.free_ok X G (c.fact 10 (f:=.fa (.free "isinstance")) rfl),He.free_ok X G (c.fact 11 (f:=.fa (.free "len")) rfl),He.free_ok X G (c.fact 12 (f:=.fa (.free "list")) rfl),He.free_ok X G (c.fact 13 (f:=.fa (.free "max")) rfl),He.free_ok X G (c.fact 14 (f:=.fa (.free "min")) rfl),He.free_ok X G (c.fact 15 (f:=.fa (.free "range")) rfl),He.free_ok X G (c.fact 16 (f:=.fa (.free "repr")) rfl),He.free_ok X G (c.fact 17 (f:=.fa (.free "set")) rfl),He.free_ok X G (c.fact 18 (f:=.fa (.free "sorted")) rfl),He.free_ok X G (c.fact 19 (f:=.fa (.free "str")) rfl),He.free_ok X G (c.fact 20 (f:=.fa (.free "sum")) rfl),He.free_ok X G (c.fact 21 (f:=.fa (.free "super")) rfl),He.free_ok X G (c.fact 22 (f:=.fa (.free "tuple")) rfl),He.free_ok X G (c.fact 23 (f:=.fa (.free "zip")) rfl),Qfu X G (c.fact 24 (f:=.glob "LETTERS" Ke) rfl),Qfu X G (c.fact 25 (f:=.glob "DIGITS" Xc) rfl),Qfu X G (c.fact 26 (f:=.glob "MOST_LETTERS" JK) rfl),Qfu X G (c.fact 27 (f:=.glob "MOST_ADD" Kr) rfl),Qfu X G (c.fact 28 (f:=.glob "BARRED" KN) rfl),Qfu X G (c.fact 29 (f:=.glob "KINDS" Yj) rfl),Qfu X G (c.fact 30 (f:=.glob "EDITS" Kf) rfl),Qfu X G (c.fact 31 (f:=.glob "LEAST_LINES" KH) rfl),Qfu X G (c.fact 32 (f:=.glob "HEADS" g_HEADS) rfl),Quw Xe X G c (i:=0),Quw Xe X G c (i:=1),Quw Xe X G c (i:=2),Quw Xe X G c (i:=3),Quw Xe X G c (i:=4)⟩
 obtain ⟨fd_law_deal,Ybf⟩:=c.fn 0
 have b_law_deal:=Fun.binds (ps:=["_law_script", "_law_base"]) Ybf λ_ _ _ _ _ _ us hl=>match us,hl with | [_,_],_=>rfl
 obtain ⟨fd_law_draw,Ybg⟩:=c.fn 1
 have b_law_draw:=Fun.binds (ps:=["_law_deal_here", "_law_many"]) Ybg λ_ _ _ _ _ _ us hl=>match us,hl with | [_,_],_=>rfl
 obtain ⟨fd_law_mixed,Ybh⟩:=c.fn 2
 have b_law_mixed:=Fun.binds (ps:=["_law_deal_here", "_law_some"]) Ybh λ_ _ _ _ _ _ us hl=>match us,hl with | [_,_],_=>rfl
 obtain ⟨fd_law_names,Ybi⟩:=c.fn 3
 have b_law_names:=Fun.binds (ps:=["_law_deal_here", "_law_many"]) Ybi λ_ _ _ _ _ _ us hl=>match us,hl with | [_,_],_=>rfl
 obtain ⟨fd_law_edits,Ybj⟩:=c.fn 4
 have b_law_edits:=Fun.binds (ps:=[]) Ybj λ_ _ _ _ _ _ us hl=>match us,hl with | [],_=>rfl
 obtain ⟨fd_law_good_rows,Ybk⟩:=c.fn 5
 have b_law_good_rows:=Fun.binds (ps:=["_law_marks", "_law_counted"]) Ybk λ_ _ _ _ _ _ us hl=>match us,hl with | [_,_],_=>rfl
 obtain ⟨fd_law_kinds,Ybl⟩:=c.fn 6
 have b_law_kinds:=Fun.binds (ps:=[]) Ybl λ_ _ _ _ _ _ us hl=>match us,hl with | [],_=>rfl
 obtain ⟨fd_law_pick,Ybm⟩:=c.fn 7
 have b_law_pick:=Fun.binds (ps:=["_law_deal_here", "_law_some"]) Ybm λ_ _ _ _ _ _ us hl=>match us,hl with | [_,_],_=>rfl
 obtain ⟨fd_law_bent,Ybn⟩:=c.fn 8
 have b_law_bent:=Fun.binds (ps:=["_law_deal_here", "_law_row", "_law_marks"]) Ybn λ_ _ _ _ _ _ us hl=>match us,hl with | [_,_,_],_=>rfl
 obtain ⟨fd_law_any_row,Ybo⟩:=c.fn 9
 have b_law_any_row:=Fun.binds (ps:=["_law_deal_here", "_law_marks"]) Ybo λ_ _ _ _ _ _ us hl=>match us,hl with | [_,_],_=>rfl
 obtain ⟨fd_law_book,Ybp⟩:=c.fn 10
 have b_law_book:=Fun.binds (ps:=["_law_deal_here", "_law_most"]) Ybp λ_ _ _ _ _ _ us hl=>match us,hl with | [_,_],_=>rfl
 obtain ⟨fd_law_mixed_v,Ybq⟩:=c.fn 11
 have b_law_mixed_v:=Fun.binds (ps:=["_law_deal_here", "_law_some"]) Ybq λ_ _ _ _ _ _ us hl=>match us,hl with | [_,_],_=>rfl
 obtain ⟨fd_is_word_of,Ybr⟩:=c.fn 12
 have b_is_word_of:=Fun.binds (ps:=["value", "words"]) Ybr λ_ _ _ _ _ _ us hl=>match us,hl with | [_,_],_=>rfl
 obtain ⟨fd_need_rows,Ybs⟩:=c.fn 13
 have b_need_rows:=Fun.binds (ps:=["is_right", "word"]) Ybs λ_ _ _ _ _ _ us hl=>match us,hl with | [_,_],_=>rfl
 obtain ⟨fd_is_name,Ybt⟩:=c.fn 14
 have b_is_name:=Fun.binds (ps:=["value"]) Ybt λ_ _ _ _ _ _ us hl=>match us,hl with | [_],_=>rfl
 obtain ⟨fd_is_old,Ybu⟩:=c.fn 15
 have b_is_old:=Fun.binds (ps:=["value"]) Ybu λ_ _ _ _ _ _ us hl=>match us,hl with | [_],_=>rfl
 obtain ⟨fd_is_new,Ybv⟩:=c.fn 16
 have b_is_new:=Fun.binds (ps:=["value", "words"]) Ybv λ_ _ _ _ _ _ us hl=>match us,hl with | [_,_],_=>rfl
 obtain ⟨fd_is_integer,Ybw⟩:=c.fn 17
 have b_is_integer:=Fun.binds (ps:=["value"]) Ybw λ_ _ _ _ _ _ us hl=>match us,hl with | [_],_=>rfl
 obtain ⟨fd_is_add,Ybx⟩:=c.fn 18
 have b_is_add:=Fun.binds (ps:=["value"]) Ybx λ_ _ _ _ _ _ us hl=>match us,hl with | [_],_=>rfl
 obtain ⟨fd_Row_init,Yb8⟩:=c.fn 19
 have b_Row_init:=Fun.binds (ps:=["self", "text", "names"]) Yb8 λ_ _ _ _ _ _ us hl=>match us,hl with | [_,_,_],_=>rfl
 obtain ⟨fd_Step_init,Yb9⟩:=c.fnS hf 20
 have b_Step_init:=FunS.binds (ps:=["self", "kind", "old", "then", "add"]) Yb9 λ_ _ _ _ _ _ _ us hl=>match us,hl with | [_,_,_,_,_],_=>rfl
 obtain ⟨fd_Join_init,Yca⟩:=c.fnS hf 21
 have b_Join_init:=FunS.binds (ps:=["self", "here", "there", "then", "add"]) Yca λ_ _ _ _ _ _ _ us hl=>match us,hl with | [_,_,_,_,_],_=>rfl
 obtain ⟨fd_Part_init,Ycb⟩:=c.fnS hf 22
 have b_Part_init:=FunS.binds (ps:=["self", "old", "left", "right", "add", "more"]) Ycb λ_ _ _ _ _ _ _ us hl=>match us,hl with | [_,_,_,_,_,_],_=>rfl
 obtain ⟨fd_law_row_of,Yby⟩:=c.fn 23
 have b_law_row_of:=Fun.binds (ps:=["_law_row"]) Yby λ_ _ _ _ _ _ us hl=>match us,hl with | [_],_=>rfl
 obtain ⟨fd_is_sequence,Ybz⟩:=c.fn 24
 have b_is_sequence:=Fun.binds (ps:=["value"]) Ybz λ_ _ _ _ _ _ us hl=>match us,hl with | [_],_=>rfl
 obtain ⟨fd_are_unlike,Yb0⟩:=c.fn 25
 have b_are_unlike:=Fun.binds (ps:=["words"]) Yb0 λ_ _ _ _ _ _ us hl=>match us,hl with | [_],_=>rfl
 obtain ⟨fd_are_names,Yb1⟩:=c.fn 26
 have b_are_names:=Fun.binds (ps:=["value"]) Yb1 λ_ _ _ _ _ _ us hl=>match us,hl with | [_],_=>rfl
 obtain ⟨fd_need_books,Yb2⟩:=c.fn 27
 have b_need_books:=Fun.binds (ps:=["is_right", "word"]) Yb2 λ_ _ _ _ _ _ us hl=>match us,hl with | [_,_],_=>rfl
 obtain ⟨fd_Book_init,Ycc⟩:=c.fn 28
 have b_Book_init:=Fun.binds (ps:=["self", "marks", "counted", "keeps", "rows"]) Ycc λ_ _ _ _ _ _ us hl=>match us,hl with | [_,_,_,_,_],_=>rfl
 obtain ⟨fd_law_told,Yb3⟩:=c.fn 29
 have b_law_told:=Fun.binds (ps:=["_law_book_here"]) Yb3 λ_ _ _ _ _ _ us hl=>match us,hl with | [_],_=>rfl
 obtain ⟨fd_Row_eq,Ycd⟩:=c.fn 30
 have b_Row_eq:=Fun.binds (ps:=["self", "other"]) Ycd λ_ _ _ _ _ _ us hl=>match us,hl with | [_,_],_=>rfl
 obtain ⟨fd_Book_eq,Yce⟩:=c.fn 31
 have b_Book_eq:=Fun.binds (ps:=["self", "other"]) Yce λ_ _ _ _ _ _ us hl=>match us,hl with | [_,_],_=>rfl
 obtain ⟨fd_Book_len,Ycf⟩:=c.fn 32
 have b_Book_len:=Fun.binds (ps:=["self"]) Ycf λ_ _ _ _ _ _ us hl=>match us,hl with | [_],_=>rfl
 obtain ⟨fd_Row_str,Ycg⟩:=c.fn 33
 have b_Row_str:=Fun.binds (ps:=["self"]) Ycg λ_ _ _ _ _ _ us hl=>match us,hl with | [_],_=>rfl
 obtain ⟨fd_Book_str,Ych⟩:=c.fn 34
 have b_Book_str:=Fun.binds (ps:=["self"]) Ych λ_ _ _ _ _ _ us hl=>match us,hl with | [_],_=>rfl
 obtain ⟨fd_law_row_text,Yb4⟩:=c.fn 35
 have b_law_row_text:=Fun.binds (ps:=["_law_row"]) Yb4 λ_ _ _ _ _ _ us hl=>match us,hl with | [_],_=>rfl
 obtain ⟨fd_law_text,Yb5⟩:=c.fn 36
 have b_law_text:=Fun.binds (ps:=["_law_book_here"]) Yb5 λ_ _ _ _ _ _ us hl=>match us,hl with | [_],_=>rfl
 obtain ⟨fd_Book_need_row,Yci⟩:=c.fn 37
 have b_Book_need_row:=Fun.binds (ps:=["self", "at"]) Yci λ_ _ _ _ _ _ us hl=>match us,hl with | [_,_],_=>rfl
 obtain ⟨fd_Book_getitem,Ycj⟩:=c.fn 38
 have b_Book_getitem:=Fun.binds (ps:=["self", "at"]) Ycj λ_ _ _ _ _ _ us hl=>match us,hl with | [_,_],_=>rfl
 obtain ⟨fd_law,Yb6⟩:=c.fn 39
 have b_law:=Fun.binds (ps:=["_law_script"]) Yb6 λ_ _ _ _ _ _ us hl=>match us,hl with | [_],_=>rfl
 refine ⟨fd_law,λs v=>?_,λbase hTB=>?_⟩
 ·obtain ⟨oc,od,kV,doc,pm,an,cdv,ct,osl,rfl,lk,hcd⟩:=Yb6.ex
  exact .of_eq rfl
 ·
  have Yck:=Qqz (P:=P) (w:=w) (base:=base) Z Ybf
  have Ycl:=Qqy (P:=P) (w:=w) (base:=base) Z Ybg
  have Yaa:FnG P w K mg base (Jw w) 1 "_law_draw" Yy:=Qcf X G c (j:=34) (F:=Ybg) (b:=b_law_draw) (ho:=Ycl)
  have Ycm:=Qpb (P:=P) (w:=w) (base:=base) Z Yaa Ybh
  have Yaz:FnG P w K mg base (Jw w) 2 "_law_mixed" Qee:=Qcf X G c (j:=35) (F:=Ybh) (b:=b_law_mixed) (ho:=Ycm)
  have Ycn:=Qpa (P:=P) (w:=w) (base:=base) Z Yaz Ybi
  have Yco:=Qpd (P:=P) (w:=w) (base:=base) Z Ybj
  have Ycp:=Qk0 (P:=P) (w:=w) (base:=base) Z Ybk
  have Ycq:=Qpc (P:=P) (w:=w) (base:=base) Z Ybl
  have Ycr:=Qqx (P:=P) (w:=w) (base:=base) Z Yaa Ybm
  have Yal:FnG P w K mg base (Jw w) 1 "_law_kinds" Qc2:=Qcf X G c (j:=36) (F:=Ybl) (b:=b_law_kinds) (ho:=Ycq)
  have Yac:FnG P w K mg base (Jw w) 2 "_law_pick" Qbc:=Qcf X G c (j:=37) (F:=Ybm) (b:=b_law_pick) (ho:=Ycr)
  have Ycs:=Qq1 (P:=P) (w:=w) (base:=base) Z Yaa Yal Yac Ybn
  have Yct:=Qmu (P:=P) (w:=w) (base:=base) Z Yaa Yac Yal Ybo
  have Ya0:FnG P w K mg base (Jw w) 3 "_law_names" Qdf:=Qcf X G c (j:=38) (F:=Ybi) (b:=b_law_names) (ho:=Ycn)
  have Ya1:FnG P w K mg base (Jw w) 1 "_law_edits" Qef:=Qcf X G c (j:=39) (F:=Ybj) (b:=b_law_edits) (ho:=Yco)
  have Ya2:FnG P w K mg base (Jw w) 1 "_law_good_rows" Qbi:=Qcf X G c (j:=40) (F:=Ybk) (b:=b_law_good_rows) (ho:=Ycp)
  have Ya3:FnG P w K mg base (Jw w) 3 "_law_bent" Qd1:=Qcf X G c (j:=41) (F:=Ybn) (b:=b_law_bent) (ho:=Ycs)
  have Yas:FnG P w K mg base (Jw w) 3 "_law_any_row" Qb8:=Qcf X G c (j:=42) (F:=Ybo) (b:=b_law_any_row) (ho:=Yct)
  have Ycu:=Qq0 (P:=P) (w:=w) (base:=base) Z Yaa Ya0 Ya1 Ya2 Ya3 Yas Ybp
  have Ycv:=Qmt (P:=P) (w:=w) (base:=base) Z Yaa Ybq
  have Ycw:=Qnx (P:=P) (w:=w) (base:=base) Z Ybr
  have Ycx:=Qo9 (P:=P) (w:=w) (base:=base) Z Ybs
  have Ycy:=Qss (P:=P) (w:=w) (base:=base) Z Ybt
  have Yae:FnG P w K mg base (Jw w) 1 "is_name" Qbd:=Qcf X G c (j:=43) (F:=Ybt) (b:=b_is_name) (ho:=Ycy)
  have Yaf:FnG P w K mg base (Jw w) 1 "is_word_of" Qas:=Qcf X G c (j:=44) (F:=Ybr) (b:=b_is_word_of) (ho:=Ycw)
  have Ycz:=Qt7 (P:=P) (w:=w) (base:=base) Z Yae Yaf Ybu
  have Yc0:=Qt8 (P:=P) (w:=w) (base:=base) Z Yae Yaf Ybv
  have Yc1:=Qny (P:=P) (w:=w) (base:=base) Z Ybw
  have Ya4:FnG P w K mg base (Jw w) 1 "is_integer" Qes:=Qcf X G c (j:=45) (F:=Ybw) (b:=b_is_integer) (ho:=Yc1)
  have Yc2:=Qt9 (P:=P) (w:=w) (base:=base) Z Ya4 Ybx
  have Yb7:=Qq2 (P:=P) (w:=w) (base:=base) Z Yae Yb8
  have Yab:FnG P w K mg base (Jw w) 1 "need_rows" YX:=Qcf X G c (j:=46) (F:=Ybs) (b:=b_need_rows) (ho:=Ycx)
  have Yag:FnG P w K mg base (Jw w) 2 "is_old" Qch:=Qcf X G c (j:=47) (F:=Ybu) (b:=b_is_old) (ho:=Ycz)
  have Yah:FnG P w K mg base (Jw w) 2 "is_new" Qcg:=Qcf X G c (j:=48) (F:=Ybv) (b:=b_is_new) (ho:=Yc0)
  have Yai:FnG P w K mg base (Jw w) 2 "is_add" Qci:=Qcf X G c (j:=49) (F:=Ybx) (b:=b_is_add) (ho:=Yc2)
  have Ya5:SupG P w K mg base (Jw w) 2 1 1 "__init__" Qa6:=Qql Xe X G c (i:=1) (j:=50) (j2:=21) (htop:=htop) (b:=b_Row_init) (ho:=Yb7)
  have Yc3:=Qpf (P:=P) (w:=w) (base:=base) Z Yaf Yab Yag Yah Yai Ya5 (Qek (nd:=Xe) X G c.sf (i:=1) rfl).2 Yb9
  have Ya6:SupG P w K mg base (Jw w) 2 2 2 "__init__" Qa6:=Qql Xe X G c (i:=2) (j:=51) (j2:=21) (htop:=htop) (b:=b_Row_init) (ho:=Yb7)
  have Yc4:=Qph (P:=P) (w:=w) (base:=base) Z Yag Yab Yah Yai Ya6 (Qek (nd:=Xe) X G c.sf (i:=2) rfl).2 Yca
  have Ya7:SupG P w K mg base (Jw w) 2 3 3 "__init__" Qa6:=Qql Xe X G c (i:=3) (j:=52) (j2:=21) (htop:=htop) (b:=b_Row_init) (ho:=Yb7)
  have Yc5:=Qpg (P:=P) (w:=w) (base:=base) Z Yag Yab Yah Yai Ya7 (Qek (nd:=Xe) X G c.sf (i:=3) rfl).2 Ycb
  have Ya8:MkG P w K mg base (Jw w) 3 "Step" 1 Qco:=Qr9 Xe X G c (i:=1) (j:=53) (b:=b_Step_init) (ho:=Yc3)
  have Ya9:MkG P w K mg base (Jw w) 3 "Join" 2 Qcq:=Qr9 Xe X G c (i:=2) (j:=54) (b:=b_Join_init) (ho:=Yc4)
  have Yba:MkG P w K mg base (Jw w) 3 "Part" 3 Qcp:=Qr9 Xe X G c (i:=3) (j:=55) (b:=b_Part_init) (ho:=Yc5)
  have Yc6:=Qnw (P:=P) (w:=w) (base:=base) Z Ya8 Ya9 Yba Yby
  have Yc7:=Qmv (P:=P) (w:=w) (base:=base) Z Ybz
  have Yc8:=Qnz (P:=P) (w:=w) (base:=base) Z Yb0
  have Yaj:FnG P w K mg base (Jw w) 1 "is_sequence" Qaw:=Qcf X G c (j:=56) (F:=Ybz) (b:=b_is_sequence) (ho:=Yc7)
  have Yam:FnG P w K mg base (Jw w) 1 "are_unlike" Qbr:=Qcf X G c (j:=57) (F:=Yb0) (b:=b_are_unlike) (ho:=Yc8)
  have Yc9:=Qpe (P:=P) (w:=w) (base:=base) Z Yaj Yae Yam Yb1
  have Yda:=Qnv (P:=P) (w:=w) (base:=base) Z Yb2
  have Yat:FnG P w K mg base (Jw w) 2 "are_names" Qbw:=Qcf X G c (j:=58) (F:=Yb1) (b:=b_are_names) (ho:=Yc9)
  have Yak:FnG P w K mg base (Jw w) 1 "need_books" Qaz:=Qcf X G c (j:=59) (F:=Yb2) (b:=b_need_books) (ho:=Yda)
  have Ydb:=Qpi (P:=P) (w:=w) (base:=base) Z Yat Yak Yaj Yaf Yam Ycc
  have Ydc:=Qqv (P:=P) (w:=w) (base:=base) Z Yb3
  have Yax:=Qua (P:=P) (w:=w) (base:=base) Z Ycd
  have Ydd:=Qsu (P:=P) (w:=w) (base:=base) Z Yce
  have Yde:=Qq4 (P:=P) (w:=w) (base:=base) Z Ycf
  have Yay:=Qst (P:=P) (w:=w) (base:=base) Z Ycg
  have Ydf:=Qq3 (P:=P) (w:=w) (base:=base) Z Ych
  have Ydg:=Qmf (P:=P) (w:=w) (base:=base) Z Yb4
  have Yan:FnG P w K mg base (Jw w) 1 "_law_row_text" Qa4:=Qcf X G c (j:=60) (F:=Yb4) (b:=b_law_row_text) (ho:=Ydg)
  have Ydh:=Qqw (P:=P) (w:=w) (base:=base) Z Yan Yb5
  have Ydi:=Qk1 (P:=P) (w:=w) (base:=base) Z Yci
  have Ybb:MtG P w K mg base (Jw w) 1 "need_row" 4 Qb4:=QA3 Xe X G c (i:=4) (j:=61) (b:=b_Book_need_row) (ho:=Ydi)
  have Ydj:=Qmg (P:=P) (w:=w) (base:=base) Z Ybb Ycj
  have Ybc:FnG P w K mg base (Jw w) 1 "_law_deal" Qd0:=Qcf X G c (j:=62) (F:=Ybf) (b:=b_law_deal) (ho:=Yck)
  have Yau:FnG P w K mg base (Jw w) 4 "_law_book" Qce:=Qcf X G c (j:=63) (F:=Ybp) (b:=b_law_book) (ho:=Ycu)
  have Yav:FnG P w K mg base (Jw w) 2 "_law_mixed" Qbz:=Qcf X G c (j:=35) (F:=Ybq) (b:=b_law_mixed_v) (ho:=Ycv)
  have Yaw:FnG P w K mg base (Jw w) 5 "_law_row_of" Qbl:=Qcf X G c (j:=64) (F:=Yby) (b:=b_law_row_of) (ho:=Yc6)
  have Yao:MkG P w K mg base (Jw w) 3 "Book" 4 Qa7:=Qr9 Xe X G c (i:=4) (j:=65) (b:=b_Book_init) (ho:=Ydb)
  have Yap:FnG P w K mg base (Jw w) 1 "_law_told" Qb1:=Qcf X G c (j:=66) (F:=Yb3) (b:=b_law_told) (ho:=Ydc)
  have Yad:EqT P w K mg base (Jw w) 1 KQ:=(Qir ((Qpw Xe X G c (i:=0) (j:=75) (j2:=76) (b:=b_Row_eq) (ho:=Yax)).mono (by decide)) (Qir ((Qpw Xe X G c (i:=1) (j:=73) (j2:=74) (b:=b_Row_eq) (ho:=Yax)).mono (by decide)) (Qir ((Qpw Xe X G c (i:=2) (j:=71) (j2:=72) (b:=b_Row_eq) (ho:=Yax)).mono (by decide)) (Qir ((Qpw Xe X G c (i:=3) (j:=69) (j2:=70) (b:=b_Row_eq) (ho:=Yax)).mono (by decide)) (Qir ((Qpw Xe X G c (i:=4) (j:=67) (j2:=68) (b:=b_Book_eq) (ho:=Ydd)).mono (by decide)) Qzd)))))
  have Ybd:SpT P w K mg base (Jw w) "__len__" 1 Qkr:=(Qva ((QAc Xe X G c (i:=4) (j:=77) (b:=b_Book_len) (ho:=Yde)).mono (by decide)) Qxy)
  have Yaq:StrT P w K mg base (Jw w) 1 Qdw:=(Qgi ((Qlo Xe X G c (i:=0) (j:=82) (b:=b_Row_str) (ho:=Yay)).mono (by decide)) (Qgi ((Qlo Xe X G c (i:=1) (j:=81) (b:=b_Row_str) (ho:=Yay)).mono (by decide)) (Qgi ((Qlo Xe X G c (i:=2) (j:=80) (b:=b_Row_str) (ho:=Yay)).mono (by decide)) (Qgi ((Qlo Xe X G c (i:=3) (j:=79) (b:=b_Row_str) (ho:=Yay)).mono (by decide)) (Qgi ((Qlo Xe X G c (i:=4) (j:=78) (b:=b_Book_str) (ho:=Ydf)).mono (by decide)) Qu6)))))
  have Yar:FnG P w K mg base (Jw w) 2 "_law_text" Qbu:=Qcf X G c (j:=83) (F:=Yb5) (b:=b_law_text) (ho:=Ydh)
  have Ybe:GiG P w K mg base (Jw w) 2 4 Qbg:=gi_of Xe X G c (i:=4) (j:=84) (b:=b_Book_getitem) (ho:=Ydj)
  have Ydk:=QAz (P:=P) (w:=w) (base:=base) Z Ybc Yau Yav Yaw Yao Yap Yad Ybd Yaq Yar Ybe Yan Yb6
  exact Ydk
theorem ob_eq (s:PySem.W.SharedT):(frC (HandSHeadRun.getT s) ads [] λK=>((Yz hd K,kT tbs K),Y9 false K (HandSHeadRun.getT s)))=hk.obs s.abs:=Qys (HandSHeadRun.getT_eq s)
end G
namespace G
open Mir MW ML BT
def nmT:MT:=(Mir.tOr (Mir.tNot (Mir.tB (KD sup [.str] (Ja 0)))) (Mir.tOr (Mir.tNot (Mir.tB (Qhj Xb Xb (eC (.int 1)) (Jg Yi (Jd (Ja 0) Jb)) (eC JK)))) (Mir.tB (Jc J8 (Ja 0) (eC KN)))))
theorem QA1 (z:T):Qbd [.str z] E0=.ok (.bl (isNm z)) E0:=by
 have hb:isIn (.str z) KN E0=some (JW z BAR):=by
  show (if flat (.str z)&&([W.str Uc,.str [98,121],.str Ub,.str Ua,.str [116,111]]:List W).all flat then YS (.str z) [W.str Uc,.str [98,121],.str Ub,.str Ua,.str [116,111]] else none)=_
  exact Qpv (l:=BAR)
 have hl:∀ S,Yi [.str z] S=.ok (.int z.length) S:=λS=>rfl
 have test:nmT [some (.str z),none] E0=.ok (!(Nat.ble 1 z.length&&Nat.ble z.length 4&&!JW z BAR)) E0:=by
  have h1:decide ((1:Int)<=z.length)=Nat.ble 1 z.length:=by
   cases h:Nat.ble 1 z.length with
   | true=>exact decide_eq_true (by have:=Nat.le_of_ble_eq_true h; omega)
   | false=>exact decide_eq_false (λq=>by rw [Nat.ble_eq_true_of_le (by omega)] at h; cases h)
  have h4:decide ((z.length:Int)<=4)=Nat.ble z.length 4:=by
   cases h:Nat.ble z.length 4 with
   | true=>exact decide_eq_true (by have:=Nat.le_of_ble_eq_true h; omega)
   | false=>exact decide_eq_false (λq=>by rw [Nat.ble_eq_true_of_le (by omega)] at h; cases h)
  generalize JW z BAR=bb at hb ⊢
  simp only [nmT,Mir.tOr,Mir.tNot,Mir.tB,KD,Ja,Jm,Out.bind,Qh5,Ys,Qxs,bW,Qhj,eC,Jg,Jd,Jb,hl,Xb,JK,h1,h4,Jc,J8,hb]
  cases Nat.ble 1 z.length <;> cases Nat.ble z.length 4 <;> cases bb <;> simp [h4,hb,bW]
 show ((((nmT [some (.str z),none] E0).bind _).bind _).bind _)=_
 rw [test]
 unfold isNm
 cases hq:(Nat.ble 1 z.length&&Nat.ble z.length 4&&!JW z BAR) with
 | false=>rfl
 | true =>
  have hle:z.length<=4:=by
   simp only [Bool.and_eq_true] at hq
   exact Nat.le_of_ble_eq_true hq.1.2
  have hlc:lcL [1] (Ji (Ja 0)) (.nm 1) Mir.tYes (Jc J8 (Ja 1) (eC Ke)) [some (.str z),none] E0=.ok (z.map λc=>.bl (memN c LET)) E0:=by
   have hp:=Qk8 (own:=[1]) (it:=Ji (Ja 0)) (i:=1) (c:=Mir.tYes) (e:=Jc J8 (Ja 1) (eC Ke)) (d:=[some (.str z),none]) (S:=E0) (p:=λ_=>true) (f:=λw=>match w with | .str [c]=>.bl (memN c LET) | _=>.non) (xs:=z.map λc=>.str [c]) rfl (by rw [List.length_map]; exact Nat.le_trans hle (by decide)) (λx _=>rfl) (λx hx _=>by
    obtain ⟨c,_,rfl⟩:=List.mem_map.mp hx
    rfl)
   rw [hp,List.filter_eq_self.mpr (by simp),List.map_map]
   rfl
  have hall:Qb0 (z.map λc=>W.bl (memN c LET))=some (z.all λc=>memN c LET):=by
   clear hq hle hlc test hl hb
   induction z with
   | nil=>rfl
   | cons c r ih =>
    simp only [List.map_cons,List.all_cons]
    cases memN c LET with
    | true=>simpa [Qb0] using ih
    | false=>simp [Qb0,ih]
  have fin:Jg K6 (Jd (JZ [1] (Ji (Ja 0)) (.nm 1) Mir.tYes (Jc J8 (Ja 1) (eC Ke))) Jb) [some (.str z),none] E0=.ok (.bl (z.all λc=>memN c LET)) E0:=by
   simp [Jg,Jd,Jb,JZ,hlc,Out.bind,K6,rd,hall,bW]
  show ((Jg K6 (Jd (JZ [1] (Ji (Ja 0)) (.nm 1) Mir.tYes (Jc J8 (Ja 1) (eC Ke))) Jb) [some (.str z),none] E0).bind _).bind _=_
  rw [fin]
  rfl
theorem Qpk (z:T) (S:Store):Jj Qbd [.str z] S=.ok (.bl (isNm z)) S:=Qdp rfl (QA1 z) rfl S
theorem YG:∀ l:List T,(l.map W.str).all flat=true
 | []=>rfl
 | x::r=>by simp [flat,YG r]
theorem QBf {z:T} {l:List T} {S:Store}:J8 (.str z) (.tup (l.map .str)) S=.ok (.bl (JW z l)) S:=by
 show bW (if flat (.str z)&&(l.map W.str).all flat then YS (.str z) (l.map .str) else none) S=_
 rw [YG,Qpv]
 rfl
theorem J9:∀ l:List T,Jq (l.map W.str)=true
 | []=>by simp [Jq]
 | x::r=>by simp [Jq,K8,J9 r]
theorem Qok (z:T) (l:List T) (S:Store):Jj Qas [.str z,.tup (l.map .str)] S=.ok (.bl (JW z l)) S:=by
 refine Qdp (S':=E0) (by simp [Jq,K8,J9]) ?_ rfl S
 show ((Ka (KD sup [.str] (Ja 0)) (Jc J8 (Ja 0) (Ja 1)) [some (.str z),some (.tup (l.map .str))] E0).bind _).bind _=_
 simp [Ka,KD,Ja,Jm,Out.bind,Qh5,Ys,Qxs,bW,Jc,QBf]
theorem QBc (z:T) (S:Store):Jj Qas [.str z,Yj] S=.ok (.bl (JW z KIN)) S:=Qok z KIN S
theorem inT1 {z y:T}:JW z [y]=JH z y:=by
 have:JH y z=JH z y:=by
  rw [MW.Qe1,MW.Qe1]
  exact decide_eq_decide.mpr ⟨Eq.symm,Eq.symm⟩
 simp [JW,this]
theorem inT2 {z y x:T}:JW z [y,x]=(JH z y || JH z x):=by
 have h:∀ y:T,JH y z=JH z y:=λy=>by
  rw [MW.Qe1,MW.Qe1]
  exact decide_eq_decide.mpr ⟨Eq.symm,Eq.symm⟩
 simp only [JW,h]
 cases JH z y <;> cases JH z x <;> rfl
theorem Qqu (z:T) (S:Store):Jj Qch [.str z] S=.ok (.bl (Qmw z)) S:=by
 refine Qdp (S':=E0) rfl ?_ rfl S
 have h1:=Qpk z E0
 have h2:Jj Qas [.str z,.tup [.str Uc]] E0=.ok (.bl (JH z Uc)) E0:=by rw [<- inT1]; exact Qok z [Uc] E0
 show ((eOr (Jg (Jj Qbd) (Jd (Ja 0) Jb)) (Jg (Jj Qas) (Jd (Ja 0) (Jd (Jt (Jd (eC (.str Uc)) Jb)) Jb))) [some (.str z)] E0).bind _).bind _=_
 unfold Qmw
 cases hn:isNm z <;> simp [eOr,Jg,Jd,Jb,Ja,Jm,Out.bind,h1,hn,Jt,eC,h2,Jy]
theorem Qud (z:T) (S:Store):Jj Qcg [.str z,.tup [.str Ua]] S=.ok (.bl (Qn0 z)) S:=by
 refine Qdp (S':=E0) rfl ?_ rfl S
 have h1:=Qpk z E0
 have h2:Jj Qas [.str z,.tup [.str Ua]] E0=.ok (.bl (JH z Ua)) E0:=by rw [<- inT1]; exact Qok z [Ua] E0
 show ((eOr (Jg (Jj Qbd) (Jd (Ja 0) Jb)) (Jg (Jj Qas) (Jd (Ja 0) (Jd (Ja 1) Jb))) [some (.str z),some (.tup [.str Ua])] E0).bind _).bind _=_
 unfold Qn0
 cases hn:isNm z <;> simp [eOr,Jg,Jd,Jb,Ja,Jm,Out.bind,h1,hn,h2]
theorem Qvv (z:T) (S:Store):Jj Qcg [.str z,.tup [.str Ub,.str Uf]] S=.ok (.bl (Qmi z)) S:=by
 refine Qdp (S':=E0) rfl ?_ rfl S
 have h1:=Qpk z E0
 have h2:Jj Qas [.str z,.tup [.str Ub,.str Uf]] E0=.ok (.bl (JH z Ub || JH z Uf)) E0:=by rw [<- inT2]; exact Qok z [Ub,Uf] E0
 show ((eOr (Jg (Jj Qbd) (Jd (Ja 0) Jb)) (Jg (Jj Qas) (Jd (Ja 0) (Jd (Ja 1) Jb))) [some (.str z),some (.tup [.str Ub,.str Uf])] E0).bind _).bind _=_
 unfold Qmi
 cases hn:isNm z <;> simp [eOr,Jg,Jd,Jb,Ja,Jm,Out.bind,h1,hn,h2]
theorem Qog {a:Int} (h:Qfb a=true) (S:Store):Jj Qci [.int a] S=.ok (.bl true) S:=by
 simp only [Qfb,Bool.and_eq_true,decide_eq_true_eq] at h
 have:a= -3\/a= -2\/a= -1\/a=0\/a=1\/a=2\/a=3:=by omega
 rcases this with rfl | rfl | rfl | rfl | rfl | rfl | rfl <;> rfl
theorem Qn3 (w:T) (S:Store):Jj YX [.bl true,.str w] S=.ok .non S:=rfl
theorem jc {a:ME} {r:List ME} {acc z:List Nat} {d:Jo} {S:Store} (h:a d S=.ok (.str z) S) (hl:acc.length+z.length<=Jy):Qca (a::r) acc d S=Qca r (acc++z) d S:=by
 show ((a d S).bind _)=_
 rw [h]
 show (if Nat.ble (acc.length+z.length) Jy then _ else _)=_
 rw [if_pos (Nat.ble_eq_true_of_le hl)]
theorem fmtS {i:Nat} {z:T} {d:Jo} {S:Store} (h:Jm d i=some (.str z)):JD (Ja i) d S=.ok (.str z) S:=by simp [JD,Ja,h,Out.bind,fmt,Kw]
theorem fmtI {i:Nat} {a:Int} {d:Jo} {S:Store} (h:Jm d i=some (.int a)) (ha:Qfb a=true):JD (Ja i) d S=.ok (.str (Yh a)) S:=by
 simp only [Qfb,Bool.and_eq_true,decide_eq_true_eq] at ha
 have:a.natAbs<1000000000000:=by omega
 simp [JD,Ja,h,Out.bind,fmt,Kw,this]
theorem Qdn {a:Int} (ha:Qfb a=true):(Yh a).length<=2:=by
 simp only [Qfb,Bool.and_eq_true,decide_eq_true_eq] at ha
 have:a= -3\/a= -2\/a= -1\/a=0\/a=1\/a=2\/a=3:=by omega
 rcases this with rfl | rfl | rfl | rfl | rfl | rfl | rfl <;> decide
theorem Qeb {z:T} (h:Qmw z=true):z.length<=5:=by
 rcases Bool.or_eq_true_iff.mp h with h | h
 ·have:=Qg9 h; omega
 ·rw [BT.Qcu.mp h]; decide
theorem Qhz {z:T} (h:Qn0 z=true):z.length<=5:=by
 rcases Bool.or_eq_true_iff.mp h with h | h
 ·have:=Qg9 h; omega
 ·rw [BT.Qcu.mp h]; decide
theorem Qn2 {z:T} (h:Qmi z=true):z.length<=5:=by
 rcases Bool.or_eq_true_iff.mp h with h | h
 ·have:=Qg9 h; omega
 rcases Bool.or_eq_true_iff.mp h with h | h
 ·rw [BT.Qcu.mp h]; decide
 ·rw [BT.Qcu.mp h]; decide
theorem Qrd {z:T} (h:JW z KIN=true):z.length<=8:=(by decide:∀ z∈KIN,z.length<=8) z (Qcr.mp h)
theorem Qdg {n:Nat} (h:n<=90):n<=Jy:=Nat.le_trans h (by decide)
theorem Qyu {xs:List T} {d:Jo} {i j:Nat} {S:Store} (hj:Jm (JV d [i]) j=some (.lst (xs.map .str))) (hd:Jm d j=some (.lst (xs.map .str))) (hi:i<d.length) (hl:xs.length<=90):lcL [i] (Ji (Ja j)) (.nm i) (Mir.tB (Jg (Jj Qbd) (Jd (Ja i) Jb))) (Ja i) d S=.ok ((xs.filter isNm).map .str) S:=by
 have gs:∀ (d:Jo) (i:Nat) (x:Option W),i<d.length->Jm (Jz d i x) i=x:=by
  intro d
  induction d with
  | nil=>intro i x h; exact absurd h (Nat.not_lt_zero _)
  | cons y r ih=>intro i x h; cases i with
   | zero=>rfl
   | succ i=>exact ih i x (Nat.lt_of_succ_lt_succ h)
 have ln:∀ (d:Jo) (i:Nat) (x:Option W),(Jz d i x).length=d.length:=by
  intro d
  induction d with
  | nil=>intro i x; cases i <;> rfl
  | cons y r ih=>intro i x; cases i with
   | zero=>rfl
   | succ i=>simp [Jz,ih]
 have hw:i<(JV d [i]).length:=by show i<(Jz d i none).length; rw [ln]; exact hi
 have hp:=Qk8 (own:=[i]) (it:=Ji (Ja j)) (i:=i) (c:=Mir.tB (Jg (Jj Qbd) (Jd (Ja i) Jb))) (e:=Ja i) (d:=d) (S:=S) (p:=λw=>match w with | .str z=>isNm z | _=>false) (f:=λw=>w) (xs:=xs.map .str) (by simp [Ji,Ja,hd,Out.bind,Ym,Kw]) (by rw [List.length_map]; exact Qdg hl) (λx hx=>by
   obtain ⟨z,_,rfl⟩:=List.mem_map.mp hx
   simp [Mir.tB,Jg,Jd,Jb,Ja,gs _ _ _ hw,Out.bind,Qpk]) (λx hx _=>by
   simp [Ja,gs _ _ _ hw])
 rw [hp,List.filter_map,List.map_id']
 rfl
def Jr:Rw->W
 | .step k o t a=>.obj 1 [(5,.str k),(6,.str o),(7,.str t),(8,.int a),(3,.str (Rw.step k o t a).txt),(4,.tup ((Rw.step k o t a).nms.map .str))]
 | .join x y t a=>.obj 2 [(9,.str x),(10,.str y),(7,.str t),(8,.int a),(3,.str (Rw.join x y t a).txt),(4,.tup ((Rw.join x y t a).nms.map .str))]
 | .part o l r a b=>.obj 3 [(6,.str o),(11,.str l),(12,.str r),(8,.int a),(13,.int b),(3,.str (Rw.part o l r a b).txt),(4,.tup ((Rw.part o l r a b).nms.map .str))]
end G
namespace G
open Mir MW
def Qdj:MS:=(Jx (.tp [(.nm 2),(.nm 3),(.nm 4)]) (Jt (Jd (Jc Jk (Ja 0) (eC (.int 0))) (Jd (Jc Jk (Ja 1) (eC (.int 0))) (Jd (Qfc Jb) Jb)))))
def Qhc:MS:=(JX (JT (m1 Qeg) (Ja 4) (Jd (JZ [6] (Ji (Ja 0)) (.nm 6) (Mir.tB (Jc Qfs (Ja 6) (Ja 1))) (Jt (Jd (eC (.str Ql9)) (Jd (Ja 5) (Jd (Ja 6) (Jd (Ja 3) (Jd (eC (.int 1)) Jb))))))) Jb)))
def Qde:MS:=Qhc
def Qfh:MS:=(KY (Ji (Jt (Jd (eC (.str s_6_)) (Jd (eC (.str Qvh)) Jb)))) (.nm 5) Qde)
def Qhb:MS:=(JX (JT (m1 Qeg) (Ja 4) (Jd (JZ [6] (Ji (Ja 1)) (.nm 6) Mir.tYes (Jt (Jd (eC (.str Ql9)) (Jd (Ja 5) (Jd (Ja 6) (Jd (Ja 2) (Jd (Jc Qhx (eC (.int 0)) (eC (.int 1))) Jb))))))) Jb)))
def Qdd:MS:=Qhb
def Qfg:MS:=(KY (Ji (Jt (Jd (eC (.str Qtr)) (Jd (eC (.str Qvg)) Jb)))) (.nm 5) Qdd)
def Qha:MS:=(JX (JT (m1 Qeg) (Ja 4) (Jd (JZ [7] (Ji (Ja 1)) (.nm 7) Mir.tYes (Jt (Jd (eC (.str s_8_)) (Jd (Ja 6) (Jd (Ja 7) (Jd (eC (.str Qsp)) (Jd (Jc Qhx (eC (.int 0)) (eC (.int 1))) Jb))))))) Jb)))
def Qdc:MS:=Qha
def Qff:MS:=(KY (Ji (Ja 1)) (.nm 6) Qdc)
def Qfe:MS:=(JX (JT (m1 Qeg) (Ja 4) (Jd (JZ [6] (Ji (Ja 0)) (.nm 6) (Mir.tB (Jc Qfs (Ja 6) (Ja 1))) (Jt (Jd (eC (.str s_8_)) (Jd (Ja 6) (Jd (eC (.str Qtq)) (Jd (eC (.str Qso)) (Jd (eC (.int 0)) Jb))))))) Jb)))
def Qfd:MS:=(Jv (Jc JL (Ja 4) (JZ [6] (Ji (Ja 1)) (.nm 6) Mir.tYes (Jt (Jd (eC (.str Qqq)) (Jd (Ja 6) (Jd (eC (.str Qij)) (Jd (eC (.str Qij)) (Jd (eC (.int 0)) (Jd (eC (.int 1)) Jb))))))))))
theorem Qk2:Qbi=fnOf 2 8 (Jh Qdj (Jh Qfh (Jh Qfg (Jh Qff (Jh Qfe Qfd))))):=rfl
def Qp8:MS:=(Jx (.nm 2) (Jg Qdf (Jd (Ja 0) (Jd (Jc JL (eC (.int 2)) (Jg Yy (Jd (Ja 0) (Jd (Jc Qhx (Ja 1) (eC (.int 1))) Jb)))) Jb))))
def Qp7:MS:=(Jx (.nm 3) (JZ [4] (Ji (Yk sl (Ja 2) (K9 (eC (.int 1))) YJ)) (.nm 4) (Mir.tB (Jc opGt (Jg Yy (Jd (Ja 0) (Jd (eC (.int 3)) Jb))) (eC (.int 0)))) (Ja 4)))
def Qp6:MS:=(Jx (.nm 5) (JZ [6] (Ji (Jg (Jj Qef) Jb)) (.nm 6) (Mir.tB (Jc opGt (Jg Yy (Jd (Ja 0) (Jd (eC (.int 4)) Jb))) (eC (.int 0)))) (Ja 6)))
def Qp5:MS:=(Jx (.nm 7) (eIf (Mir.tB (Jc Ku (Ja 3) (Ju Jb))) (Jg (Jj Qbi) (Jd (Ja 2) (Jd (Ja 3) Jb))) (Ju Jb)))
def Qmr:MS:=(Jx (.tp [.nm 9,.nm 10]) (Jt (Jd (Jg Yy (Jd (Ja 0) (Jd (eC (.int 3)) Jb))) (Jd (Jg Yy (Jd (Ja 0) (Jd (Jc JL (Jg Yi (Jd (Ja 7) Jb)) (eC (.int 1))) Jb))) Jb))))
def Qg3:MS:=(Yl (Mir.tB (Jc Km (Ja 9) (eC (.int 0)))) (Jx (.nm 7) (Jc JL (Yk sl (Ja 7) YJ (K9 (Ja 10))) (Yk sl (Ja 7) (K9 (Jc JL (Ja 10) (eC (.int 1)))) YJ))) (Yl (Mir.tB (Jc Km (Ja 9) (eC (.int 1)))) (Jx (.nm 7) (Jc JL (Jc JL (Yk sl (Ja 7) YJ (K9 (Ja 10))) (JZ [11] (Ji (Yk sl (Ja 7) (K9 (Ja 10)) (K9 (Jc JL (Ja 10) (eC (.int 1)))))) (.nm 11) Mir.tYes (Jg Qd1 (Jd (Ja 0) (Jd (Ja 11) (Jd (Ja 2) Jb)))))) (Yk sl (Ja 7) (K9 (Jc JL (Ja 10) (eC (.int 1)))) YJ))) (Jx (.nm 7) (Jc JL (Jc JL (Yk sl (Ja 7) YJ (K9 (Ja 10))) (Ju (Jd (Jg Qb8 (Jd (Ja 0) (Jd (Ja 2) Jb))) Jb))) (Yk sl (Ja 7) (K9 (Ja 10)) YJ)))))
def Qcw:MS:=(Jh Qmr Qg3)
def Qp4:MS:=(KY (Qcs (Jg Yy (Jd (Ja 0) (Jd (eC (.int 3)) Jb)))) (.nm 8) Qcw)
def Qky:MS:=(Yl (Mir.tB (Jc Km (Jg Yy (Jd (Ja 0) (Jd (eC (.int 6)) Jb))) (eC (.int 0)))) (Jx (.nm 7) (JZ [8] (Qcs (Jc JL (eC (.int 1)) (Jg Yy (Jd (Ja 0) (Jd (eC (.int 9)) Jb))))) (.nm 8) Mir.tYes (Jg Qb8 (Jd (Ja 0) (Jd (Ja 2) Jb))))) YK)
def Qew:MS:=(Jv (Jt (Jd (Ja 2) (Jd (Ja 3) (Jd (Ja 5) (Jd (Yk sl (Ja 7) YJ (K9 (eC (.int 16)))) Jb))))))
theorem Qrc:Qce=fnOf 2 12 (Jh Qp8 (Jh Qp7 (Jh Qp6 (Jh Qp5 (Jh Qp4 (Jh Qky Qew)))))):=rfl
def Qja:MS:=(JX (Jg (Jj YX) (Jd (Jg (Jj Qas) (Jd (Ja 1) (Jd (eC Yj) Jb))) (Jd (eC (.str Qx9)) Jb))))
def Qi9:MS:=(JX (Jg (Jj YX) (Jd (Jg (Jj Qch) (Jd (Ja 2) Jb)) (Jd (eC (.str Qtn)) Jb))))
def Qi8:MS:=(JX (Jg (Jj YX) (Jd (Jg (Jj Qcg) (Jd (Ja 3) (Jd (Jt (Jd (eC (.str Qij)) Jb)) Jb))) (Jd (eC (.str Qtm)) Jb))))
def Qi7:MS:=(JX (Jg (Jj YX) (Jd (Jg (Jj Qci) (Jd (Ja 4) Jb)) (Jd (eC (.str Qqm)) Jb))))
def Qi6:MS:=(Mir.sFld 5 (Ja 0) (Ja 1))
def Qi5:MS:=(Mir.sFld 6 (Ja 0) (Ja 2))
def Qi4:MS:=(Mir.sFld 7 (Ja 0) (Ja 3))
def Qi3:MS:=(Mir.sFld 8 (Ja 0) (Ja 4))
def Qi2:MS:=(JX (Xd 1 Qa6 (Jd (Qca [(JD (Ja 1)),(eC (.str Qd9)),(JD (Ja 2)),(eC (.str Ql8)),(JD (Ja 3)),(eC (.str Ql7)),(JD (Ja 4))] []) (Jd (Ju (Jd (Ja 2) (Jd (Ja 3) Jb))) Jb))))
theorem Qqa:Qco=fnOf 5 6 (Jh Qja (Jh Qi9 (Jh Qi8 (Jh Qi7 (Jh Qi6 (Jh Qi5 (Jh Qi4 (Jh Qi3 Qi2)))))))):=rfl
def Qjs:MS:=(JX (Jg (Jj YX) (Jd (Jg (Jj Qch) (Jd (Ja 1) Jb)) (Jd (eC (.str Qx8)) Jb))))
def Qjr:MS:=(JX (Jg (Jj YX) (Jd (Jg (Jj Qch) (Jd (Ja 2) Jb)) (Jd (eC (.str Qx7)) Jb))))
def Qjq:MS:=(JX (Jg (Jj YX) (Jd (Jg (Jj Qcg) (Jd (Ja 3) (Jd (Jt (Jd (eC (.str Qsp)) (Jd (eC (.str Qso)) Jb))) Jb))) (Jd (eC (.str Qtm)) Jb))))
def Qjp:MS:=(JX (Jg (Jj YX) (Jd (Jg (Jj Qci) (Jd (Ja 4) Jb)) (Jd (eC (.str Qqm)) Jb))))
def Qjo:MS:=(Mir.sFld 9 (Ja 0) (Ja 1))
def Qjn:MS:=(Mir.sFld 10 (Ja 0) (Ja 2))
def Qjm:MS:=(Mir.sFld 7 (Ja 0) (Ja 3))
def Qjl:MS:=(Mir.sFld 8 (Ja 0) (Ja 4))
def Qjk:MS:=(JX (Xd 2 Qa6 (Jd (Qca [(eC (.str Qto)),(JD (Ja 1)),(eC (.str Qd9)),(JD (Ja 2)),(eC (.str Ql8)),(JD (Ja 3)),(eC (.str Ql7)),(JD (Ja 4))] []) (Jd (Ju (Jd (Ja 1) (Jd (Ja 2) (Jd (Ja 3) Jb)))) Jb))))
theorem Qqc:Qcq=fnOf 5 6 (Jh Qjs (Jh Qjr (Jh Qjq (Jh Qjp (Jh Qjo (Jh Qjn (Jh Qjm (Jh Qjl Qjk)))))))):=rfl
def Qjj:MS:=(JX (Jg (Jj YX) (Jd (Jg (Jj Qch) (Jd (Ja 1) Jb)) (Jd (eC (.str Qtn)) Jb))))
def Qji:MS:=(JX (Jg (Jj YX) (Jd (Jg (Jj Qcg) (Jd (Ja 2) (Jd (Jt (Jd (eC (.str Qij)) Jb)) Jb))) (Jd (eC (.str Qx6)) Jb))))
def Qjh:MS:=(JX (Jg (Jj YX) (Jd (Jg (Jj Qcg) (Jd (Ja 3) (Jd (Jt (Jd (eC (.str Qij)) Jb)) Jb))) (Jd (eC (.str Qx5)) Jb))))
def Qjg:MS:=(JX (Jg (Jj YX) (Jd (Jg (Jj Qci) (Jd (Ja 4) Jb)) (Jd (eC (.str Qqm)) Jb))))
def Qjf:MS:=(JX (Jg (Jj YX) (Jd (Jg (Jj Qci) (Jd (Ja 5) Jb)) (Jd (eC (.str Qx4)) Jb))))
def Qje:MS:=(Mir.sFld 6 (Ja 0) (Ja 1))
def Qjd:MS:=(Mir.sFld 11 (Ja 0) (Ja 2))
def Qjc:MS:=(Mir.sFld 12 (Ja 0) (Ja 3))
def Qjb:MS:=(Mir.sFld 8 (Ja 0) (Ja 4))
def Qho:MS:=(Mir.sFld 13 (Ja 0) (Ja 5))
def Qhn:MS:=(JX (Xd 3 Qa6 (Jd (Qca [(eC (.str Qx3)),(JD (Ja 1)),(eC (.str Ql8)),(JD (Ja 2)),(eC (.str Qd9)),(JD (Ja 3)),(eC (.str Ql7)),(JD (Ja 4)),(eC (.str Qd9)),(JD (Ja 5))] []) (Jd (Ju (Jd (Ja 1) (Jd (Ja 2) (Jd (Ja 3) Jb)))) Jb))))
theorem Qqb:Qcp=fnOf 6 7 (Jh Qjj (Jh Qji (Jh Qjh (Jh Qjg (Jh Qjf (Jh Qje (Jh Qjd (Jh Qjc (Jh Qjb (Jh Qho Qhn)))))))))):=rfl
def Qdo:MS:=(Yl (Mir.tB (Jc Km (Jc Jk (Ja 0) (eC (.int 0))) (eC (.str Ql9)))) (Jv (Jg (Jj (Y6 1 Qco)) (Jd (Jc Jk (Ja 0) (eC (.int 1))) (Jd (Jc Jk (Ja 0) (eC (.int 2))) (Jd (Jc Jk (Ja 0) (eC (.int 3))) (Jd (Jc Jk (Ja 0) (eC (.int 4))) Jb)))))) YK)
def Qe2:MS:=(Yl (Mir.tB (Jc Km (Jc Jk (Ja 0) (eC (.int 0))) (eC (.str s_8_)))) (Jv (Jg (Jj (Y6 2 Qcq)) (Jd (Jc Jk (Ja 0) (eC (.int 1))) (Jd (Jc Jk (Ja 0) (eC (.int 2))) (Jd (Jc Jk (Ja 0) (eC (.int 3))) (Jd (Jc Jk (Ja 0) (eC (.int 4))) Jb)))))) YK)
def Qm0:MS:=(Jv (Jg (Jj (Y6 3 Qcp)) (Jd (Jc Jk (Ja 0) (eC (.int 1))) (Jd (Jc Jk (Ja 0) (eC (.int 2))) (Jd (Jc Jk (Ja 0) (eC (.int 3))) (Jd (Jc Jk (Ja 0) (eC (.int 4))) (Jd (Jc Jk (Ja 0) (eC (.int 5))) Jb)))))))
theorem Qn4:Qbl=fnOf 1 1 (Jh Qdo (Jh Qe2 Qm0)):=rfl
def Qg5:MS:=(Jv (KD sup [.list,.tuple] (Ja 0)))
theorem Qmy:Qaw=fnOf 1 1 Qg5:=rfl
def Qhm:MS:=(Jv (Jc Km (Jg Yi (Jd (eDc [1] (Ji (Ja 0)) (.nm 1) Mir.tYes (Ja 1) (eC (.bl true))) Jb)) (Jg Yi (Jd (Ja 0) Jb))))
theorem Qod:Qbr=fnOf 1 2 Qhm:=rfl
def Qi1:MS:=(Jv (Ka (Jg (Jj Qaw) (Jd (Ja 0) Jb)) (Ka (Jg K6 (Jd (JZ [1] (Ji (Ja 0)) (.nm 1) Mir.tYes (Jg (Jj Qbd) (Jd (Ja 1) Jb))) Jb)) (Jg (Jj Qbr) (Jd (Ja 0) Jb)))))
theorem Qp9:Qbw=fnOf 1 2 Qi1:=rfl
def Qf4:MS:=(JX (Jg (Jj Qaz) (Jd (Ka (Jg (Jj Qbw) (Jd (Ja 1) Jb)) (Jc opGt (Jg Yi (Jd (Ja 1) Jb)) (eC (.int 0)))) (Jd (eC (.str Qqp)) Jb))))
def Qjw:MS:=(JX (Jg (Jj Qaz) (Jd (Ka (Jg (Jj Qbw) (Jd (Ja 2) Jb)) (Jg K6 (Jd (JZ [5] (Ji (Ja 2)) (.nm 5) Mir.tYes (Ka (Jc J8 (Ja 5) (Ja 1)) (Jc Ku (Ja 5) (Jc Jk (Ja 1) (eC (.int 0)))))) Jb))) (Jd (eC (.str Qqo)) Jb))))
def Qjv:MS:=(Jx (.nm 6) (Ka (Jg (Jj Qaw) (Jd (Ja 3) Jb)) (Jg K6 (Jd (JZ [7] (Ji (Ja 3)) (.nm 7) Mir.tYes (Jg (Jj Qas) (Jd (Ja 7) (Jd (eC Kf) Jb)))) Jb))))
def Qf3:MS:=(JX (Jg (Jj Qaz) (Jd (Ka (Ja 6) (Jg (Jj Qbr) (Jd (Ja 3) Jb))) (Jd (eC (.str Qqn)) Jb))))
def Qju:MS:=(JX (Jg (Jj Qaz) (Jd (Ka (Jg (Jj Qaw) (Jd (Ja 4) Jb)) (Jg K6 (Jd (JZ [8] (Ji (Ja 4)) (.nm 8) Mir.tYes (KD sup [(.own 0)] (Ja 8))) Jb))) (Jd (eC (.str Qx2)) Jb))))
def Qjt:MS:=(JX (Jg (Jj Qaz) (Jd (Jg K6 (Jd (eLcc [8,9] [9] (Ji (Ja 4)) (Ji (JS (fld 4) (Ja 8))) (.nm 8) (.nm 9) Mir.tYes Mir.tYes (Jc J8 (Ja 9) (Ja 1))) Jb)) (Jd (eC (.str Qx1)) Jb))))
def Qf2:MS:=(Mir.sFld 14 (Ja 0) (Jg fTuple (Jd (Ja 1) Jb)))
def Qf1:MS:=(Mir.sFld 15 (Ja 0) (Jg fTuple (Jd (JZ [5] (Ji (Ja 1)) (.nm 5) (Mir.tB (Jc J8 (Ja 5) (Ja 2))) (Ja 5)) Jb)))
def Qf0:MS:=(Mir.sFld 16 (Ja 0) (Jg fTuple (Jd (JZ [7] (Ji (eC Kf)) (.nm 7) (Mir.tB (Jc J8 (Ja 7) (Ja 3))) (Ja 7)) Jb)))
def Qe5:MS:=(Mir.sFld 17 (Ja 0) (Jg fTuple (Jd (Ja 4) Jb)))
def Qe4:MS:=(Mir.sFld 18 (Ja 0) (Jc Jk (JS (fld 14) (Ja 0)) (eC (.int 0))))
def Qe3:MS:=(Jx (.nm 10) (Ju (Jd (Ju (Jd (eC (.str Qqp)) (Qg6 (JS (fld 14) (Ja 0)) Jb))) (Jd (Ju (Jd (eC (.str Qqo)) (Qg6 (JS (fld 15) (Ja 0)) Jb))) (Jd (Ju (Jd (eC (.str Qqn)) (Qg6 (JS (fld 16) (Ja 0)) Jb))) Jb)))))
def Qhp:MS:=(Mir.sFld 19 (Ja 0) (K7 (m1 Qdr) (eC (.str Qtp)) (Jd (Ju (Qg6 (JZ [11] (Ji (Ja 10)) (.nm 11) Mir.tYes (K7 (m1 Qdr) (eC (.str Qd9)) (Jd (Ja 11) Jb))) (Qg6 (JZ [8] (Ji (JS (fld 17) (Ja 0))) (.nm 8) Mir.tYes (JS (fld 3) (Ja 8))) Jb))) Jb)))
theorem Qqe:Qa7=fnOf 5 12 (Jh Qf4 (Jh Qjw (Jh Qjv (Jh Qf3 (Jh Qju (Jh Qjt (Jh Qf2 (Jh Qf1 (Jh Qf0 (Jh Qe5 (Jh Qe4 (Jh Qe3 Qhp)))))))))))):=rfl
def Qp2:MS:=(Jv (Jt (Jd (Jc Jk (Ja 0) (eC (.int 0))) (Jd (JZ [1] (Ji (Jc Jk (Ja 0) (eC (.int 0)))) (.nm 1) (Mir.tB (Jc J8 (Ja 1) (Jc Jk (Ja 0) (eC (.int 1))))) (Ja 1)) (Jd (Jg Qne (Jd (JZ [2] (Ji (Jc Jk (Ja 0) (eC (.int 2)))) (.nm 2) Mir.tYes (Jg fStr (Jd (Ja 2) Jb))) Jb)) (Jd (Jc Jk (Ja 0) (eC (.int 3))) Jb))))))
theorem Qra:Qb1=fnOf 1 3 Qp2:=rfl
def Qbx:MS:=(Jx (.nm 1) (JZ [2] (Ji (Yk sl (Ja 0) (K9 (eC (.int 1))) YJ)) (.nm 2) Mir.tYes (Jg fStr (Jd (Ja 2) Jb))))
def Qgc:MS:=(Yl (Mir.tB (Jc Km (Jc Jk (Ja 0) (eC (.int 0))) (eC (.str Ql9)))) (Jv (Jc JL (Jc JL (Jc JL (Jc JL (Jc JL (Jc JL (Jc Jk (Ja 1) (eC (.int 0))) (eC (.str Qd9))) (Jc Jk (Ja 1) (eC (.int 1)))) (eC (.str Ql8))) (Jc Jk (Ja 1) (eC (.int 2)))) (eC (.str Ql7))) (Jc Jk (Ja 1) (eC (.int 3))))) YK)
def Qgb:MS:=(Yl (Mir.tB (Jc Km (Jc Jk (Ja 0) (eC (.int 0))) (eC (.str s_8_)))) (Jv (Jc JL (Jc JL (Jc JL (Jc JL (Jc JL (Jc JL (Jc JL (eC (.str Qto)) (Jc Jk (Ja 1) (eC (.int 0)))) (eC (.str Qd9))) (Jc Jk (Ja 1) (eC (.int 1)))) (eC (.str Ql8))) (Jc Jk (Ja 1) (eC (.int 2)))) (eC (.str Ql7))) (Jc Jk (Ja 1) (eC (.int 3))))) YK)
def Qga:MS:=(Jv (K7 (m1 Qdr) (eC (.str Qd9)) (Jd (Ju (Jd (eC (.str Qqq)) (Jd (Jc Jk (Ja 1) (eC (.int 0))) (Jd (eC (.str Qyb)) (Jd (Jc Jk (Ja 1) (eC (.int 1))) (Jd (Jc Jk (Ja 1) (eC (.int 2))) (Jd (eC (.str Qya)) (Jd (Jc Jk (Ja 1) (eC (.int 3))) (Jd (Jc Jk (Ja 1) (eC (.int 4))) Jb))))))))) Jb)))
theorem Qeh:Qa4=fnOf 1 3 (Jh Qbx (Jh Qgc (Jh Qgb Qga))):=rfl
def Qkx:MS:=(Jx (.nm 1) (Qfc (Jd (K7 (m1 Qdr) (eC (.str Qd9)) (Jd (Jc JL (Ju (Jd (eC (.str Qqp)) Jb)) (Jg Qn8 (Jd (Jc Jk (Ja 0) (eC (.int 0))) Jb))) Jb)) (Jd (K7 (m1 Qdr) (eC (.str Qd9)) (Jd (Jc JL (Ju (Jd (eC (.str Qqo)) Jb)) (Jg Qn8 (Jd (Jc Jk (Ja 0) (eC (.int 1))) Jb))) Jb)) Jb))))
def Qkw:MS:=(JX (JT (m1 Qbs) (Ja 1) (Jd (K7 (m1 Qdr) (eC (.str Qd9)) (Jd (Jc JL (Ju (Jd (eC (.str Qqn)) Jb)) (Jg Qn8 (Jd (Jc Jk (Ja 0) (eC (.int 2))) Jb))) Jb)) Jb)))
def Qp3:MS:=(Jv (K7 (m1 Qdr) (eC (.str Qtp)) (Jd (Jc JL (Ja 1) (JZ [2] (Ji (Jc Jk (Ja 0) (eC (.int 3)))) (.nm 2) Mir.tYes (Jg (Jj Qa4) (Jd (Ja 2) Jb)))) Jb)))
theorem Qrb:Qbu=fnOf 1 3 (Jh Qkx (Jh Qkw Qp3)):=rfl
def Qdk:MS:=(Yl (Mir.tNot (Mir.tB (Qhj Xb opLt (eC (.int 0)) (Ja 1) (Jg Yi (Jd (JS (fld 17) (Ja 0)) Jb))))) sBad YK)
theorem Qk5:Qb4=fnOf 2 2 Qdk:=rfl
def Qgf:MS:=(JX (Qpx [(4,(Jj Qb4))] (Ja 0) (Jd (Ja 1) Jb)))
def Qk4:MS:=(Jv (Jc Jk (JS (fld 17) (Ja 0)) (Ja 1)))
theorem Qms:Qbg=fnOf 2 2 (Jh Qgf Qk4):=rfl
def Qzq:MS:=(Jx (.nm 1) (Jg Qd0 (Jd (Ja 0) (Jd (eC (.int 0)) Jb))))
def Qka:MS:=(Jx (.nm 3) (Qfc (Jd (Jg Qce (Jd (Ja 1) (Jd (eC (.int 4)) Jb))) (Jd (Jg Qce (Jd (Ja 1) (Jd (eC (.int 3)) Jb))) Jb))))
def Qni:MS:=(JX (JT (m1 Qbs) (Ja 3) (Jd (Jt (Jd (Jc Jk (Jc Jk (Ja 3) (eC (.int 0))) (eC (.int 0))) (Jd (Jc Jk (Jc Jk (Ja 3) (eC (.int 0))) (eC (.int 1))) (Jd (Jc Jk (Jc Jk (Ja 3) (eC (.int 0))) (eC (.int 2))) (Jd (Yk sl (Jc Jk (Jc Jk (Ja 3) (eC (.int 0))) (eC (.int 3))) YJ (K9 (JS Qil (eC (.int 1))))) Jb))))) Jb)))
def Qnh:MS:=(Jx (.nm 4) (Qfc Jb))
def Qfz:MS:=(Jx (.nm 9) (Qfc (Jd (Jg Qf9 (Jd (Ja 5) Jb)) (Jd (Jg Qbz (Jd (Ja 1) (Jd (Ja 6) Jb))) (Jd (Jg Qbz (Jd (Ja 1) (Jd (Ja 7) Jb))) Jb)))))
def Qi0:MS:=(JX (JT (m1 Qbs) (Ja 9) (Jd (eLcM [10] (Ji (Ja 8)) (.nm 10) Mir.tYes (Jg (Jj Qbl) (Jd (Ja 10) Jb))) Jb)))
def Qiz:MS:=(Jx (.nm 11) (Jg (purV (Y6 4 Qa7)) (Jd (Jc Jk (Ja 9) (eC (.int 0))) (Jd (Jc Jk (Ja 9) (eC (.int 1))) (Jd (Jc Jk (Ja 9) (eC (.int 2))) (Jd (Jc Jk (Ja 9) (eC (.int 3))) Jb))))))
def Qk3:MS:=(JX (JT (m1 Qbs) (Ja 12) (Jd (eC (.str Qyc)) Jb)))
def Qda:MS:=Qk3
def Qfy:MS:=(KY (Ji (Ja 9)) (.nm 12) Qda)
def Qiy:MS:=(Jx (.nm 13) (Jg (Jj Qb1) (Jd (Jt (Jd (Ja 5) (Jd (Ja 6) (Jd (Ja 7) (Jd (Ja 8) Jb))))) Jb)))
def Qix:MS:=(Yl (Mir.tB (eRp false (Jt (Jd (JS (fld 14) (Ja 11)) (Jd (JS (fld 15) (Ja 11)) (Jd (JS (fld 16) (Ja 11)) Jb)))) (Jt (Jd (Jg fTuple (Jd (Jc Jk (Ja 13) (eC (.int 0))) Jb)) (Jd (Jg fTuple (Jd (Jc Jk (Ja 13) (eC (.int 1))) Jb)) (Jd (Jg fTuple (Jd (Jc Jk (Ja 13) (eC (.int 2))) Jb)) Jb)))))) (Jv (eC (.bl false))) YK)
def Qiw:MS:=(Yl (Mir.tOr (Mir.tB (Jc (Qdz sup KQ) (JS (fld 18) (Ja 11)) (Jc Jk (Ja 5) (eC (.int 0))))) (Mir.tOr (Mir.tB (Jc (Qdz sup KQ) (Jg (Qn9 Qkr) (Jd (Ja 11) Jb)) (Jg Yi (Jd (Ja 8) Jb)))) (Mir.tB (Jc (Qdz sup KQ) (Jg (Qg0 Qdw) (Jd (Ja 11) Jb)) (Jg (Jj Qbu) (Jd (Ja 13) Jb)))))) (Jv (eC (.bl false))) YK)
def Qiv:MS:=(Yl (Mir.tB (Jc (Qdz sup KQ) (JZ [14] (Qcs (Jg Yi (Jd (Ja 8) Jb))) (.nm 14) Mir.tYes (Jg (Qg0 Qdw) (Jd (Jc (Qgx 4 (Jj Qbg)) (Ja 11) (Ja 14)) Jb))) (JZ [10] (Ji (Ja 8)) (.nm 10) Mir.tYes (Jg (Jj Qa4) (Jd (Ja 10) Jb))))) (Jv (eC (.bl false))) YK)
def Qiu:MS:=(Yl (Mir.tOr (Mir.tNot (Mir.tB (KD sup [.tuple] (JS (fld 17) (Ja 11))))) (Mir.tB (Jc (Qsr sup KQ) (JS (fld 17) (Ja 11)) (Jg fTuple (Jd (JZ [10] (Ji (Ja 8)) (.nm 10) Mir.tYes (Jg (Jj Qbl) (Jd (Ja 10) Jb))) Jb))))) (Jv (eC (.bl false))) YK)
def Qhl:MS:=(Yl (Mir.tOr (Mir.tB (Jc (Qem sup KQ) (Ja 11) (Jg (Qg0 Qdw) (Jd (Ja 11) Jb)))) (Mir.tB (Jc (Qem sup KQ) (Ja 11) (JS (fld 17) (Ja 11))))) (Jv (eC (.bl false))) YK)
def Qhk:MS:=(JX (JT (m1 Qbs) (Ja 4) (Jd (Ja 11) Jb)))
def Qcv:MS:=(Jh Qfz (Jh Qi0 (Jh Qiz (Jh Qfy (Jh Qiy (Jh Qix (Jh Qiw (Jh Qiv (Jh Qiu (Jh Qhl Qhk))))))))))
def Qj9:MS:=(KY (Ji (Ja 3)) (.tp [(.nm 5),(.nm 6),(.nm 7),(.nm 8)]) Qcv)
def Qge:MS:=(Jx (.nm 16) (Jc (Qem sup KQ) (Jg (Jj Qbu) (Jd (Jg (Jj Qb1) (Jd (Jc Jk (Ja 3) (Ja 14)) Jb)) Jb)) (Jg (Jj Qbu) (Jd (Jg (Jj Qb1) (Jd (Jc Jk (Ja 3) (Ja 15)) Jb)) Jb))))
def Qgd:MS:=(Yl (Mir.tOr (Mir.tB (Jc (Qdz sup KQ) (Jc (Qem sup KQ) (Jc Jk (Ja 4) (Ja 14)) (Jc Jk (Ja 4) (Ja 15))) (Ja 16))) (Mir.tB (Jc (Qem sup KQ) (Jc (Qdz sup KQ) (Jc Jk (Ja 4) (Ja 14)) (Jc Jk (Ja 4) (Ja 15))) (Ja 16)))) (Jv (eC (.bl false))) YK)
def Qc8:MS:=(Jh Qge Qgd)
def Qit:MS:=(KY (Qcs (eC (.int 3))) (.nm 15) Qc8)
def Qc9:MS:=Qit
def Qj8:MS:=(KY (Qcs (eC (.int 3))) (.nm 14) Qc9)
def Qg4:MS:=(Jh Qka (Jh Qni (Jh Qnh (Jh Qj9 Qj8))))
def Qzp:MS:=(KY (Qcs (eC (.int 5))) (.nm 2) Qg4)
def Quz:MS:=(Jv (Jc (Qem sup KQ) (Jg (Jj (Y6 4 Qa7)) (Jd (Jt (Jd (eC (.str s_3_)) Jb)) (Jd (Jt Jb) (Jd (Jt Jb) (Jd (Jt Jb) Jb))))) (Jg (Jj (Y6 4 Qa7)) (Jd (Ju (Jd (eC (.str s_3_)) Jb)) (Jd (Ju Jb) (Jd (Ju Jb) (Jd (Ju Jb) Jb)))))))
theorem QBb:Qug=fnOf 1 17 (Jh Qzq (Jh Qzp Quz)):=rfl
end G
namespace G
open Mir MW ML BT
theorem Qsw {fs:List (Nat×W)} {k:Nat} {v:W}:(Qcx fs k v).length<=fs.length+1:=by
 induction fs with
 | nil=>exact Nat.le_refl _
 | cons p r ih =>
  obtain ⟨m,u⟩:=p
  unfold Qcx
  split
  ·simp
  ·simpa using ih
theorem set0 {c k:Nat} {fs:List (Nat×W)} {v:W} (h:fs.length<=90):Qid k (.ref 0) v ⟨1,[(0,.ins c fs)]⟩=some ⟨1,[(0,.ins c (Qcx fs k v))]⟩:=by
 have:Nat.blt fs.length 900=true:=Nat.ble_eq_true_of_le (show fs.length+1<=900 by omega)
 simp [Qid,Store.get,look,this,Store.put,YQ]
theorem Qvl {c:Nat} {fs:List (Nat×W)} {z:T} {xs:List T} (hl:xs.length<=90) (hf:fs.length<=50) :
  Qa6 [.ref 0,.str z,.lst (xs.map .str)] ⟨1,[(0,.ins c fs)]⟩=.ok .non ⟨1,[(0,.ins c (Qcx (Qcx fs 3 (.str z)) 4 (.tup ((xs.filter isNm).map .str))))]⟩:=by
 have h1:=set0 (c:=c) (k:=3) (v:=.str z) (show fs.length<=90 by omega)
 have h2:=set0 (c:=c) (fs:=Qcx fs 3 (.str z)) (k:=4) (v:=.tup ((xs.filter isNm).map .str)) (by have:=Qsw (fs:=fs) (k:=3) (v:=.str z); omega)
 have h3:∀ S,lcL [3] (Ji (Ja 2)) (.nm 3) (Mir.tB (Jg (Jj Qbd) (Jd (Ja 3) Jb))) (Ja 3) [some (.ref 0),some (.str z),some (.lst (xs.map .str)),none] S=.ok ((xs.filter isNm).map .str) S:=λS=>Qyu rfl rfl (Nat.le_of_ble_eq_true rfl) hl
 simp [Qa6,fnOf,Jh,Mir.sFld,Ja,Jm,Out.bind,h1,Jg,Jd,Jb,JZ,h3,fTuple,KJ,h2]
theorem Qqk {c:Nat} {fs:List (Nat×W)} {a:MA} {d:Jo} {z:T} {xs:List T} (h0:Jm d 0=some (.ref 0)) (ha:a d ⟨1,[(0,.ins c fs)]⟩=.ok [.str z,.lst (xs.map .str)] ⟨1,[(0,.ins c fs)]⟩) (hl:xs.length<=90) (hf:fs.length<=50) :
  Xd c Qa6 a d ⟨1,[(0,.ins c fs)]⟩=.ok .non ⟨1,[(0,.ins c (Qcx (Qcx fs 3 (.str z)) 4 (.tup ((xs.filter isNm).map .str))))]⟩:=by
 unfold Xd
 rw [h0]
 simp [Qdh,Store.get,look,ha,Out.bind,Qvl hl hf]
theorem Qr8 {c:Nat} {init:MF} {xs:List W} {fs:List (Nat×W)} (hx:Jq xs=true) (h:init (.ref 0::xs) ⟨1,[(0,.ins c [])]⟩=.ok .non ⟨1,[(0,.ins c fs)]⟩) (hf:Ko fs=true) (S:Store):Jj (Y6 c init) xs S=.ok (.obj c fs) S:=by
 refine Qdp (S':=⟨1,[]⟩) hx ?_ (by simp [K8,hf]) S
 have e:Y6 c init xs E0=((init (.ref 0::xs) ⟨1,[(0,.ins c [])]⟩).bind λy S1=>if Qy4 y then (match S1.get 0 with | some (.ins k fs)=>.ok (.obj k fs) (S1.drop 0) | _=>.bad) else .bad):=rfl
 rw [e,h]
 rfl
section
variable {k o t x y l r:T} {a b:Int}
theorem Qu8 {d:Jo} {S:Store} (h:(Rw.step k o t a).ok=true) (h1:Jm d 1=some (.str k)) (h2:Jm d 2=some (.str o)) (h3:Jm d 3=some (.str t)) (h4:Jm d 4=some (.int a)) :
  Qca [JD (Ja 1),eC (.str [32]),JD (Ja 2),eC (.str Ui),JD (Ja 3),eC (.str Uj),JD (Ja 4)] [] d S=.ok (.str (Rw.step k o t a).txt) S:=by
 simp only [Rw.ok,Bool.and_eq_true] at h
 obtain ⟨⟨⟨q1,q2⟩,q3⟩,q4⟩:=h
 have l1:=Qrd q1
 have l2:=Qeb q2
 have l3:=Qhz q3
 have l4:=Qdn q4
 rw [jc (fmtS h1) (Qdg (by simp; omega)),jc rfl (Qdg (by simp; omega)),jc (fmtS h2) (Qdg (by simp; omega)),jc rfl (Qdg (by simp; omega)),jc (fmtS h3) (Qdg (by simp; omega)),jc rfl (Qdg (by simp; omega)),jc (fmtI h4 q4) (Qdg (by simp; omega))]
 simp [Qca,Rw.txt,Rw.ws,joinL]
theorem Qti (h:(Rw.step k o t a).ok=true) (S:Store):Jj (Y6 1 Qco) [.str k,.str o,.str t,.int a] S=.ok (Jr (.step k o t a)) S:=by
 have hj:=λS=>Qu8 (d:=[some (.ref 0),some (.str k),some (.str o),some (.str t),some (.int a),none]) (S:=S) h rfl rfl rfl rfl
 simp only [Rw.ok,Bool.and_eq_true] at h
 obtain ⟨⟨⟨q1,q2⟩,q3⟩,q4⟩:=h
 refine Qr8 (fs:=[(5,.str k),(6,.str o),(7,.str t),(8,.int a),(3,.str (Rw.step k o t a).txt),(4,.tup ((Rw.step k o t a).nms.map .str))]) rfl ?_ (by simp [Ko,K8,J9]) S
 have hs:=Qqk (c:=1) (fs:=[(5,.str k),(6,.str o),(7,.str t),(8,.int a)]) (a:=Jd (Qca [JD (Ja 1),eC (.str [32]),JD (Ja 2),eC (.str Ui),JD (Ja 3),eC (.str Uj),JD (Ja 4)] []) (Jd (Ju (Jd (Ja 2) (Jd (Ja 3) Jb))) Jb)) (d:=[some (.ref 0),some (.str k),some (.str o),some (.str t),some (.int a),none]) (z:=(Rw.step k o t a).txt) (xs:=[o,t]) rfl (by simp [Jd,Jb,hj,Out.bind,Ju,Ja,Jm,Jy]) (Nat.le_of_ble_eq_true rfl) (Nat.le_of_ble_eq_true rfl)
 have h9:Qi2 [some (.ref 0),some (.str k),some (.str o),some (.str t),some (.int a),none] ⟨1,[(0,.ins 1 [(5,.str k),(6,.str o),(7,.str t),(8,.int a)])]⟩=.ok (.nx [some (.ref 0),some (.str k),some (.str o),some (.str t),some (.int a),none]) ⟨1,[(0,.ins 1 [(5,.str k),(6,.str o),(7,.str t),(8,.int a),(3,.str (Rw.step k o t a).txt),(4,.tup ((Rw.step k o t a).nms.map .str))])]⟩:=by
  show ((Xd 1 Qa6 _ _ _).bind _)=_
  exact (congrArg (λz=>Out.bind z _) hs).trans rfl
 simp [Qqa,Qja,Qi9,Qi8,Qi7,Qi6,Qi5,Qi4,Qi3,fnOf,Jh,JX,Jg,Jd,Jb,Ja,Jm,eC,Out.bind,QBc,q1,Qqu,q2,Qud,q3,Qog q4,Qn3,Jt,Jy,Mir.sFld,set0,Qcx,h9]
theorem Qv6 {d:Jo} {S:Store} (h:(Rw.join x y t a).ok=true) (h1:Jm d 1=some (.str x)) (h2:Jm d 2=some (.str y)) (h3:Jm d 3=some (.str t)) (h4:Jm d 4=some (.int a)) :
  Qca [eC (.str [106,111,105,110,32]),JD (Ja 1),eC (.str [32]),JD (Ja 2),eC (.str Ui),JD (Ja 3),eC (.str Uj),JD (Ja 4)] [] d S=.ok (.str (Rw.join x y t a).txt) S:=by
 simp only [Rw.ok,Bool.and_eq_true] at h
 obtain ⟨⟨⟨q1,q2⟩,q3⟩,q4⟩:=h
 have l1:=Qeb q1
 have l2:=Qeb q2
 have l3:=Qn2 q3
 have l4:=Qdn q4
 rw [jc rfl (Qdg (by simp)),jc (fmtS h1) (Qdg (by simp; omega)),jc rfl (Qdg (by simp; omega)),jc (fmtS h2) (Qdg (by simp; omega)),jc rfl (Qdg (by simp; omega)),jc (fmtS h3) (Qdg (by simp; omega)),jc rfl (Qdg (by simp; omega)),jc (fmtI h4 q4) (Qdg (by simp; omega))]
 simp [Qca,Rw.txt,Rw.ws,joinL]
theorem Quj (h:(Rw.join x y t a).ok=true) (S:Store):Jj (Y6 2 Qcq) [.str x,.str y,.str t,.int a] S=.ok (Jr (.join x y t a)) S:=by
 have hj:=λS=>Qv6 (d:=[some (.ref 0),some (.str x),some (.str y),some (.str t),some (.int a),none]) (S:=S) h rfl rfl rfl rfl
 simp only [Rw.ok,Bool.and_eq_true] at h
 obtain ⟨⟨⟨q1,q2⟩,q3⟩,q4⟩:=h
 refine Qr8 (fs:=[(9,.str x),(10,.str y),(7,.str t),(8,.int a),(3,.str (Rw.join x y t a).txt),(4,.tup ((Rw.join x y t a).nms.map .str))]) rfl ?_ (by simp [Ko,K8,J9]) S
 have hs:=Qqk (c:=2) (fs:=[(9,.str x),(10,.str y),(7,.str t),(8,.int a)]) (a:=Jd (Qca [eC (.str [106,111,105,110,32]),JD (Ja 1),eC (.str [32]),JD (Ja 2),eC (.str Ui),JD (Ja 3),eC (.str Uj),JD (Ja 4)] []) (Jd (Ju (Jd (Ja 1) (Jd (Ja 2) (Jd (Ja 3) Jb)))) Jb)) (d:=[some (.ref 0),some (.str x),some (.str y),some (.str t),some (.int a),none]) (z:=(Rw.join x y t a).txt) (xs:=[x,y,t]) rfl (by simp [Jd,Jb,hj,Out.bind,Ju,Ja,Jm,Jy]) (Nat.le_of_ble_eq_true rfl) (Nat.le_of_ble_eq_true rfl)
 have h9:Qjk [some (.ref 0),some (.str x),some (.str y),some (.str t),some (.int a),none] ⟨1,[(0,.ins 2 [(9,.str x),(10,.str y),(7,.str t),(8,.int a)])]⟩=.ok (.nx [some (.ref 0),some (.str x),some (.str y),some (.str t),some (.int a),none]) ⟨1,[(0,.ins 2 [(9,.str x),(10,.str y),(7,.str t),(8,.int a),(3,.str (Rw.join x y t a).txt),(4,.tup ((Rw.join x y t a).nms.map .str))])]⟩:=by
  show ((Xd 2 Qa6 _ _ _).bind _)=_
  exact (congrArg (λz=>Out.bind z _) hs).trans rfl
 simp [Qqc,Qjs,Qjr,Qjq,Qjp,Qjo,Qjn,Qjm,Qjl,fnOf,Jh,JX,Jg,Jd,Jb,Ja,Jm,eC,Out.bind,q1,Qqu,q2,Qvv,q3,Qog q4,Qn3,Jt,Jy,Mir.sFld,set0,Qcx,h9]
theorem Qvs {d:Jo} {S:Store} (h:(Rw.part o l r a b).ok=true) (h1:Jm d 1=some (.str o)) (h2:Jm d 2=some (.str l)) (h3:Jm d 3=some (.str r)) (h4:Jm d 4=some (.int a)) (h5:Jm d 5=some (.int b)) :
  Qca [eC (.str [112,97,114,116,32]),JD (Ja 1),eC (.str Ui),JD (Ja 2),eC (.str [32]),JD (Ja 3),eC (.str Uj),JD (Ja 4),eC (.str [32]),JD (Ja 5)] [] d S=.ok (.str (Rw.part o l r a b).txt) S:=by
 simp only [Rw.ok,Bool.and_eq_true] at h
 obtain ⟨⟨⟨⟨q1,q2⟩,q3⟩,q4⟩,q5⟩:=h
 have l1:=Qeb q1
 have l2:=Qhz q2
 have l3:=Qhz q3
 have l4:=Qdn q4
 have l5:=Qdn q5
 rw [jc rfl (Qdg (by simp)),jc (fmtS h1) (Qdg (by simp; omega)),jc rfl (Qdg (by simp; omega)),jc (fmtS h2) (Qdg (by simp; omega)),jc rfl (Qdg (by simp; omega)),jc (fmtS h3) (Qdg (by simp; omega)),jc rfl (Qdg (by simp; omega)),jc (fmtI h4 q4) (Qdg (by simp; omega)),jc rfl (Qdg (by simp; omega)),jc (fmtI h5 q5) (Qdg (by simp; omega))]
 simp [Qca,Rw.txt,Rw.ws,joinL]
theorem Qt1 (h:(Rw.part o l r a b).ok=true) (S:Store):Jj (Y6 3 Qcp) [.str o,.str l,.str r,.int a,.int b] S=.ok (Jr (.part o l r a b)) S:=by
 have hj:=λS=>Qvs (d:=[some (.ref 0),some (.str o),some (.str l),some (.str r),some (.int a),some (.int b),none]) (S:=S) h rfl rfl rfl rfl rfl
 simp only [Rw.ok,Bool.and_eq_true] at h
 obtain ⟨⟨⟨⟨q1,q2⟩,q3⟩,q4⟩,q5⟩:=h
 refine Qr8 (fs:=[(6,.str o),(11,.str l),(12,.str r),(8,.int a),(13,.int b),(3,.str (Rw.part o l r a b).txt),(4,.tup ((Rw.part o l r a b).nms.map .str))]) rfl ?_ (by simp [Ko,K8,J9]) S
 have hs:=Qqk (c:=3) (fs:=[(6,.str o),(11,.str l),(12,.str r),(8,.int a),(13,.int b)]) (a:=Jd (Qca [eC (.str [112,97,114,116,32]),JD (Ja 1),eC (.str Ui),JD (Ja 2),eC (.str [32]),JD (Ja 3),eC (.str Uj),JD (Ja 4),eC (.str [32]),JD (Ja 5)] []) (Jd (Ju (Jd (Ja 1) (Jd (Ja 2) (Jd (Ja 3) Jb)))) Jb)) (d:=[some (.ref 0),some (.str o),some (.str l),some (.str r),some (.int a),some (.int b),none]) (z:=(Rw.part o l r a b).txt) (xs:=[o,l,r]) rfl (by simp [Jd,Jb,hj,Out.bind,Ju,Ja,Jm,Jy]) (Nat.le_of_ble_eq_true rfl) (Nat.le_of_ble_eq_true rfl)
 have h9:Qhn [some (.ref 0),some (.str o),some (.str l),some (.str r),some (.int a),some (.int b),none] ⟨1,[(0,.ins 3 [(6,.str o),(11,.str l),(12,.str r),(8,.int a),(13,.int b)])]⟩=.ok (.nx [some (.ref 0),some (.str o),some (.str l),some (.str r),some (.int a),some (.int b),none]) ⟨1,[(0,.ins 3 [(6,.str o),(11,.str l),(12,.str r),(8,.int a),(13,.int b),(3,.str (Rw.part o l r a b).txt),(4,.tup ((Rw.part o l r a b).nms.map .str))])]⟩:=by
  show ((Xd 3 Qa6 _ _ _).bind _)=_
  exact (congrArg (λz=>Out.bind z _) hs).trans rfl
 simp [Qqb,Qjj,Qji,Qjh,Qjg,Qjf,Qje,Qjd,Qjc,Qjb,Qho,fnOf,Jh,JX,Jg,Jd,Jb,Ja,Jm,eC,Out.bind,q1,Qqu,q2,Qud,q3,Qog q4,Qog q5,Qn3,Jt,Jy,Mir.sFld,set0,Qcx,h9]
end
theorem Qvx {z:T} (h:isNm z=true):32∉z/\10∉z:=⟨λq=>absurd (Qn6 h 32 q) (by decide),λq=>absurd (Qn6 h 10 q) (by decide)⟩
theorem Qr5 {z:T} (h:Qmw z=true):32∉z/\10∉z:=by
 rcases Bool.or_eq_true_iff.mp h with h | h
 ·exact Qvx h
 ·rw [BT.Qcu.mp h]; decide
theorem Que {z:T} (h:Qn0 z=true):32∉z/\10∉z:=by
 rcases Bool.or_eq_true_iff.mp h with h | h
 ·exact Qvx h
 ·rw [BT.Qcu.mp h]; decide
theorem Qyx {z:T} (h:Qmi z=true):32∉z/\10∉z:=by
 rcases Bool.or_eq_true_iff.mp h with h | h
 ·exact Qvx h
 rcases Bool.or_eq_true_iff.mp h with h | h
 ·rw [BT.Qcu.mp h]; decide
 ·rw [BT.Qcu.mp h]; decide
theorem Qr6 {a:Int} (h:Qfb a=true):32∉Yh a/\10∉Yh a:=by
 simp only [Qfb,Bool.and_eq_true,decide_eq_true_eq] at h
 have:a= -3\/a= -2\/a= -1\/a=0\/a=1\/a=2\/a=3:=by omega
 rcases this with rfl | rfl | rfl | rfl | rfl | rfl | rfl <;> decide
theorem Qxe {a b:T} {S:Store}:Km (.str a) (.str b) S=.ok (.bl (JH a b)) S:=by simp [Km,rd,eqD,Kz,Yx,bW]
theorem Qyw {a b:T} {S:Store}:Ku (.str a) (.str b) S=.ok (.bl (!JH a b)) S:=by simp [Ku,rd,eqD,Kz,Yx,bW]
theorem Qqh {r:Rw} (h:r.ok=true):r.txt.length<=90:=by
 cases r with
 | step k o t a =>
  simp only [Rw.ok,Bool.and_eq_true] at h
  obtain ⟨⟨⟨q1,q2⟩,q3⟩,q4⟩:=h
  have l1:=Qrd q1
  have l2:=Qeb q2
  have l3:=Qhz q3
  have l4:=Qdn q4
  simp [Rw.txt,Rw.ws,joinL]; omega
 | join x y t a =>
  simp only [Rw.ok,Bool.and_eq_true] at h
  obtain ⟨⟨⟨q1,q2⟩,q3⟩,q4⟩:=h
  have l1:=Qeb q1
  have l2:=Qeb q2
  have l3:=Qn2 q3
  have l4:=Qdn q4
  simp [Rw.txt,Rw.ws,joinL]; omega
 | part o l r a b =>
  simp only [Rw.ok,Bool.and_eq_true] at h
  obtain ⟨⟨⟨⟨q1,q2⟩,q3⟩,q4⟩,q5⟩:=h
  have l1:=Qeb q1
  have l2:=Qhz q2
  have l3:=Qhz q3
  have l4:=Qdn q4
  have l5:=Qdn q5
  simp [Rw.txt,Rw.ws,joinL]; omega
theorem Qr3 (r:Rw):K8 (Jr r)=true:=by cases r <;> simp [Jr,K8,Ko,J9]
end G
namespace BT
open Mir MW ML
section
variable {S:Store}
theorem Qn5 {α γ:Type} {F:W->List γ->Store->Out (List γ)} {g:α->W} {out:α->List γ}:∀ (q:List α) (ys:List γ),(∀ z∈q,∀ ys:List γ,ys.length+(out z).length<=90000->F (g z) ys S=.ok (ys++out z) S)->ys.length+(q.flatMap out).length<=90000->Yu [] F (q.map g) ys S=.ok (ys++q.flatMap out) S
 | [],ys,_,_=>by simp [Yu,Ky]
 | z::r,ys,h,hl=>by
  rw [List.flatMap_cons,List.length_append] at hl
  have h1:=h z (List.mem_cons_self ..) ys (by omega)
  have h2:=Qn5 r (ys++out z) (λa ha=>h a (List.mem_cons_of_mem _ ha)) (by rw [List.length_append]; omega)
  show (F (g z) ys S).bind _=_
  rw [h1]
  show Yu [] F (r.map g) (ys++out z) S=_
  rw [h2,List.flatMap_cons,List.append_assoc]
theorem Qn7 {α γ:Type} {f:α->γ}:∀ l:List α,(l.flatMap λz=>[f z])=l.map f
 | []=>rfl
 | z::r=>by rw [List.flatMap_cons,Qn7 r]; rfl
theorem Qsg {α β:Type} {h:α->List β} {f:α->β->W}:∀ l:List α,(l.flatMap λz=>(h z).map (f z)).length=(l.flatMap h).length
 | []=>rfl
 | z::r=>by rw [List.flatMap_cons,List.flatMap_cons,List.length_append,List.length_append,Qsg r,List.length_map]
theorem Qyy {α β:Type} {g:α->W} {h:α->List β} {k f:α->β->W} {i j:Nat} {vs vs1:List Nat} {it it2:MI} {e:ME} {d:Jo} {l:List α} (hi:it d S=.ok (l.map g,[]) S) (h2:∀ z∈l,it2 (Jz (JV d vs) i (some (g z))) S=.ok ((h z).map (k z),[]) S) (he:∀ z∈l,∀ y∈h z,e (Jz (JV (Jz (JV d vs) i (some (g z))) vs1) j (some (k z y))) S=.ok (f z y) S) (hl:(l.flatMap h).length<=90000):eLcc vs vs1 it it2 (.nm i) (.nm j) Mir.tYes Mir.tYes e d S=.ok (.lst (l.flatMap λz=>(h z).map (f z))) S:=by
 show ((it d S).bind _)=_
 rw [hi]
 show (Yu [] _ (l.map g) [] S).bind _=_
 rw [Qn5 (out:=λz=>(h z).map (f z)) l [] ?_ (by rw [Qsg]; simpa using hl)]
 ·rfl
 intro z hz ys hn
 show ((it2 (Jz (JV d vs) i (some (g z))) S).bind _)=_
 rw [h2 z hz]
 show Yu [] _ ((h z).map (k z)) ys S=_
 rw [Qn5 (out:=λy=>[f z y]) (h z) ys ?_ (by rw [Qn7]; exact hn),Qn7]
 intro y hy ys hn
 have hb:Nat.blt ys.length Jy=true:=Nat.ble_eq_true_of_le (by simp at hn; exact Nat.le_trans (show ys.length+1<=90000 by omega) (by decide))
 show Qks Mir.tYes e (Jz (JV (Jz (JV d vs) i (some (g z))) vs1) j (some (k z y))) ys S=_
 simp [Qks,Mir.tYes,Out.bind,he z hz y hy,hb]
theorem KC {c n:Nat}:∀ (ws:List T),(∀ w∈ws,w.length<=n)->(joinL [c] ws).length<=ws.length*(n+1)
 | [],_=>by simp [joinL]
 | [w],h=>by have:=h w (by simp); simp [joinL]; omega
 | w::v::r,h=>by
  have h1:=h w (by simp)
  have h2:=KC (c:=c) (v::r) (λz hz=>h z (List.mem_cons_of_mem _ hz))
  rw [joinL]
  have e:(w::v::r).length*(n+1)=(v::r).length*(n+1)+(n+1):=by simp [Nat.add_mul]
  rw [e]
  simp only [List.length_append,List.length_cons,List.length_nil] at h2 ⊢
  omega
theorem Qow:∀ l:List T,Qf5 (l.map .str)=some l
 | []=>rfl
 | x::r=>by simp [Qf5,Qow r]
structure MkOk (ml cl kl:List T) (rl:List Rw):Prop where
 ne:ml≠[]
 mn:∀ m∈ml,isNm m=true
 md:ml.Nodup
 mb:ml.length<=20
 cn:∀ c∈cl,c∈ml
 cd:cl.Nodup
 ch:∀ c∈cl,ml.head?≠some c
 kn:∀ k∈kl,k∈YT
 kd:kl.Nodup
 rk:∀ r∈rl,r.ok=true
 rn:∀ r∈rl,∀ n∈r.nms,n∈ml
 rb:rl.length<=500
def Bk.of (ml cl kl:List T) (rl:List Rw):Bk:=⟨ml,ml.filter (JW · cl),YT.filter (JW · kl),rl⟩
theorem Qed {a b:List T} (hn:a.Nodup) (h:∀ x∈a,x∈b):a.length<=b.length:=by
 induction a generalizing b with
 | nil=>exact Nat.zero_le _
 | cons x r ih =>
  have hx:=h x (List.mem_cons_self ..)
  rw [List.nodup_cons] at hn
  have h1:=ih (b:=b.erase x) hn.2 (λy hy=>by
   have:y≠x:=λe=>hn.1 (e ▸ hy)
   exact (List.mem_erase_of_ne this).mpr (h y (List.mem_cons_of_mem _ hy)))
  rw [List.length_erase_of_mem hx] at h1
  have h2:0<b.length:=List.length_pos_of_mem hx
  simp only [List.length_cons]
  omega
theorem JQ.ix0 {w x:W} {xs:List W} (h:JQ w (x::xs)):Jk w (.int 0) S=.ok x S:=by
 rcases h with rfl | rfl <;> simp [Jk,KJ,atI,ixN,Kw]
end
end BT
namespace G
open Mir MW ML BT
section
variable {w:W} {l:List T} {S:Store}
theorem Qtj {xs:List W} (h:JQ w xs) (k:Jq xs=true) (S:Store):Jj Qaw [w] S=.ok (.bl true) S:=by
 refine Qdp (S':=E0) (by simp [Jq,h.nr k]) ?_ rfl S
 simp [Qmy,Qg5,fnOf,Jv,KD,Ja,Jm,Out.bind,h.ty,bW]
theorem Qs9 (h:JQ w (l.map .str)) (hn:l.Nodup) (hl:l.length<=900) (S:Store):Jj Qbr [w] S=.ok (.bl true) S:=by
 refine Qdp (S':=E0.new (.dct (l.map λk=>(W.str k,W.bl true)))) (by simp [Jq,h.nr (J9 l)]) ?_ rfl S
 have hd:=QBr (S:=E0) (i:=1) (d:=[some w,none]) (Nat.le_of_ble_eq_true rfl) l [] (by simpa using hn) (by simpa using hl)
 have he:eDc [1] (Ji (Ja 0)) (.nm 1) Mir.tYes (Ja 1) (eC (.bl true)) [some w,none] E0=.ok (.ref 0) (E0.new (.dct (l.map λk=>(W.str k,W.bl true)))):=by
  show ((Ji (Ja 0) [some w,none] E0).bind _)=_
  have hi:Ji (Ja 0) [some w,none] E0=.ok (l.map .str,[]) E0:=by simp [Ji,Ja,Jm,Out.bind,h.it,Kw]
  rw [hi]
  exact (congrArg (λz:Out (List (W×W))=>z.bind λys S2=>Out.ok (W.ref S2.next) (S2.new (.dct ys))) hd)
 have e1:Yi [.ref 0] (E0.new (.dct (l.map λk=>(W.str k,W.bl true))))=.ok (.int l.length) (E0.new (.dct (l.map λk=>(W.str k,W.bl true)))):=by
  show Out.ok (W.int ((l.map λk=>(W.str k,W.bl true)).length)) _=_
  rw [List.length_map]
 simp [Qod,Qhm,fnOf,Jv,Jc,Jg,Jd,Jb,he,Out.bind,e1,Ja,Jm,h.len,Km,rd,eqD,Kz,Yx,bW]
theorem Quc (h:JQ w (l.map .str)) (hm:∀ m∈l,isNm m=true) (hn:l.Nodup) (hl:l.length<=900) (S:Store):Jj Qbw [w] S=.ok (.bl true) S:=by
 refine Qdp (S':=E0) (by simp [Jq,h.nr (J9 l)]) ?_ rfl S
 have ha:=Qof (S:=E0) (i:=1) (own:=[1]) (it:=Ji (Ja 0)) (e:=Jg (Jj Qbd) (Jd (Ja 1) Jb)) (d:=[some w,none]) (l:=l) (p:=λz=>isNm z) (g:=W.str) (by simp [Ji,Ja,Jm,Out.bind,h.it,Kw]) hl (λz hz=>by
  simp [Jg,Jd,Jb,Ja,JV,Jz,Jm,Out.bind,Qpk])
 have:l.all (λz=>isNm z)=true:=List.all_eq_true.mpr hm
 rw [this] at ha
 have h1:=Qtj h (J9 l) E0
 have h2:=Qs9 h hn hl E0
 have a1:Jg (Jj Qaw) (Jd (Ja 0) Jb) [some w,none] E0=.ok (.bl true) E0:=by simp [Jg,Jd,Jb,Ja,Jm,Out.bind,h1]
 have a2:Jg (Jj Qbr) (Jd (Ja 0) Jb) [some w,none] E0=.ok (.bl true) E0:=by simp [Jg,Jd,Jb,Ja,Jm,Out.bind,h2]
 simp [Qp9,Qi1,fnOf,Jv,Ka,a1,Out.bind,ha,a2]
theorem Qgy (w:T) (S:Store):Jj Qaz [.bl true,.str w] S=.ok .non S:=rfl
end
def JP (b:Bk):W:=.obj 4 [(14,.tup (b.marks.map .str)),(15,.tup (b.counted.map .str)),(16,.tup (b.keeps.map .str)),(17,.tup (b.rows.map Jr)),(18,.str (b.marks.headD [])),(19,.str b.txt)]
def DB (m c k r:W) (x y:Option W):Jo:=[some (.ref 0),some m,some c,some k,some r,none,x,none,none,none,y,none]
theorem Qmj:∀ l:List Rw,Jq (l.map Jr)=true
 | []=>by simp [Jq]
 | x::r=>by simp [Jq,Qr3 x,Qmj r]
section
variable {m c k r:W} {hd:T} {tl cl kl:List T} {rl:List Rw} {x y:Option W} {S:Store}
theorem bi1 (q:MkOk (hd::tl) cl kl rl) (hm:JQ m ((hd::tl).map .str)):Qf4 (DB m c k r x y) S=.ok (.nx (DB m c k r x y)) S:=by
 have h1:=Quc hm q.mn q.md (Nat.le_trans q.mb (by decide)) S
 have h2:=hm.len (S:=S)
 simp [Qf4,JX,Jg,Jd,Jb,Ka,Ja,DB,Jm,Out.bind,h1,h2,Jc,opGt,opLt,eC,Qgy]
theorem bi2 (q:MkOk (hd::tl) cl kl rl) (hm:JQ m ((hd::tl).map .str)) (hc:JQ c (cl.map .str)):Qjw (DB m c k r x y) S=.ok (.nx (DB m c k r x y)) S:=by
 have hl:cl.length<=900:=Nat.le_trans (Qed q.cd q.cn) (Nat.le_trans q.mb (by decide))
 have h1:=Quc hc (λz hz=>q.mn z (q.cn z hz)) q.cd hl S
 have h2:=Qof (S:=S) (i:=5) (own:=[5]) (it:=Ji (Ja 2)) (e:=Ka (Jc J8 (Ja 5) (Ja 1)) (Jc Ku (Ja 5) (Jc Jk (Ja 1) (eC (.int 0))))) (d:=DB m c k r x y) (l:=cl) (p:=λ_=>true) (g:=W.str) (by simp [Ji,Ja,DB,Jm,Out.bind,hc.it,Kw]) hl (λz hz=>by
  have e1:JW z (hd::tl)=true:=Qcr.mpr (q.cn z hz)
  have e2:JH z hd=false:=by
   cases e:JH z hd with
   | false=>rfl
   | true=>exact absurd (by rw [Qcu.mp e]; rfl) (q.ch z hz)
  have e3:=JQ.ix0 (S:=S) hm
  simp [Ka,Jc,Ja,DB,JV,Jz,Jm,Out.bind,J8,hm.mem,e1,bW,eC,e3,Qyw,e2])
 have:cl.all (λ_=>true)=true:=by simp
 rw [this] at h2
 have a1:Jg (Jj Qbw) (Jd (Ja 2) Jb) (DB m c k r x y) S=.ok (.bl true) S:=by simp [Jg,Jd,Jb,Ja,DB,Jm,Out.bind,h1]
 have a2:(Ka (Jg (Jj Qbw) (Jd (Ja 2) Jb)) (Jg K6 (Jd (JZ [5] (Ji (Ja 2)) (.nm 5) Mir.tYes (Ka (Jc J8 (Ja 5) (Ja 1)) (Jc Ku (Ja 5) (Jc Jk (Ja 1) (eC (.int 0)))))) Jb))) (DB m c k r x y) S=.ok (.bl true) S:=by
  simp only [Ka,a1,Out.bind,h2]
 show ((Jg (Jj Qaz) (Jd (Ka (Jg (Jj Qbw) (Jd (Ja 2) Jb)) (Jg K6 (Jd (JZ [5] (Ji (Ja 2)) (.nm 5) Mir.tYes (Ka (Jc J8 (Ja 5) (Ja 1)) (Jc Ku (Ja 5) (Jc Jk (Ja 1) (eC (.int 0)))))) Jb))) _) (DB m c k r x y) S).bind _)=_
 simp [Jg,Jd,Jb,eC,a2,Out.bind,Qgy]
theorem bi3 (q:MkOk (hd::tl) cl kl rl) (hk:JQ k (kl.map .str)):Qjv (DB m c k r x y) S=.ok (.nx (DB m c k r (some (.bl true)) y)) S:=by
 have hl:kl.length<=900:=Nat.le_trans (Qed q.kd q.kn) (by decide)
 have h2:=Qof (S:=S) (i:=7) (own:=[7]) (it:=Ji (Ja 3)) (e:=Jg (Jj Qas) (Jd (Ja 7) (Jd (eC Kf) Jb))) (d:=DB m c k r x y) (l:=kl) (p:=λ_=>true) (g:=W.str) (by simp [Ji,Ja,DB,Jm,Out.bind,hk.it,Kw]) hl (λz hz=>by
  have e1:JW z YT=true:=Qcr.mpr (q.kn z hz)
  have e2:∀ S,Jj Qas [.str z,Kf] S=.ok (.bl true) S:=λS=>(Qok z YT S).trans (by rw [e1])
  simp [Jg,Jd,Jb,Ja,DB,JV,Jz,Jm,Out.bind,eC,e2])
 have:kl.all (λ_=>true)=true:=by simp
 rw [this] at h2
 have h1:=Qtj hk (J9 kl) S
 have a1:Jg (Jj Qaw) (Jd (Ja 3) Jb) (DB m c k r x y) S=.ok (.bl true) S:=by simp [Jg,Jd,Jb,Ja,DB,Jm,Out.bind,h1]
 show ((Ka _ _ (DB m c k r x y) S).bind _)=_
 simp only [Ka,a1,Out.bind,h2]
 rfl
theorem bi4 (q:MkOk (hd::tl) cl kl rl) (hk:JQ k (kl.map .str)):Qf3 (DB m c k r (some (.bl true)) y) S=.ok (.nx (DB m c k r (some (.bl true)) y)) S:=by
 have hl:kl.length<=900:=Nat.le_trans (Qed q.kd q.kn) (by decide)
 have h2:=Qs9 hk q.kd hl S
 simp [Qf3,JX,Jg,Jd,Jb,Ka,Ja,DB,Jm,Out.bind,h2,eC,Qgy]
theorem isrow (r:Rw) (S:Store):Qh5 sup S (Jr r) [.own 0]=some true:=by cases r <;> rfl
theorem bi5 (q:MkOk (hd::tl) cl kl rl) (hr:JQ r (rl.map Jr)):Qju (DB m c k r x y) S=.ok (.nx (DB m c k r x y)) S:=by
 have h2:=Qof (S:=S) (i:=8) (own:=[8]) (it:=Ji (Ja 4)) (e:=KD sup [.own 0] (Ja 8)) (d:=DB m c k r x y) (l:=rl) (p:=λ_=>true) (g:=Jr) (by simp [Ji,Ja,DB,Jm,Out.bind,hr.it,Kw]) (Nat.le_trans q.rb (by decide)) (λz hz=>by
  simp [KD,Ja,DB,JV,Jz,Jm,Out.bind,isrow,bW])
 have:rl.all (λ_=>true)=true:=by simp
 rw [this] at h2
 have h1:=Qtj hr (Qmj rl) S
 have a1:Jg (Jj Qaw) (Jd (Ja 4) Jb) (DB m c k r x y) S=.ok (.bl true) S:=by simp [Jg,Jd,Jb,Ja,DB,Jm,Out.bind,h1]
 have a2:(Ka (Jg (Jj Qaw) (Jd (Ja 4) Jb)) (Jg K6 (Jd (JZ [8] (Ji (Ja 4)) (.nm 8) Mir.tYes (KD sup [.own 0] (Ja 8))) Jb))) (DB m c k r x y) S=.ok (.bl true) S:=by
  simp only [Ka,a1,Out.bind,h2]
 show ((Jg (Jj Qaz) (Jd (Ka (Jg (Jj Qaw) (Jd (Ja 4) Jb)) (Jg K6 (Jd (JZ [8] (Ji (Ja 4)) (.nm 8) Mir.tYes (KD sup [.own 0] (Ja 8))) Jb))) _) (DB m c k r x y) S).bind _)=_
 simp [Jg,Jd,Jb,eC,a2,Out.bind,Qgy]
theorem Qng:∀ {xs:List W},(∀ z∈xs,z=.bl true)->Qb0 xs=some true
 | [],_=>rfl
 | z::r,h=>by
  rw [h z (List.mem_cons_self ..)]
  show Qb0 r=_
  exact Qng λa ha=>h a (List.mem_cons_of_mem _ ha)
theorem QA0 (r:Rw):r.nms.length<=3:=by
 cases r <;> simp only [Rw.nms] <;> exact Nat.le_trans (List.length_filter_le ..) (Nat.le_of_ble_eq_true rfl)
theorem Qwz:∀ l:List Rw,(l.flatMap Rw.nms).length<=3*l.length
 | []=>by simp
 | r::t=>by
  have h1:=QA0 r
  have h2:=Qwz t
  rw [List.flatMap_cons,List.length_append,List.length_cons]
  omega
theorem QAp (r:Rw) (S:Store):fld 4 (Jr r) S=.ok (.tup (r.nms.map .str)) S:=by cases r <;> rfl
theorem rtext (r:Rw) (S:Store):fld 3 (Jr r) S=.ok (.str r.txt) S:=by cases r <;> rfl
theorem bi6 (q:MkOk (hd::tl) cl kl rl) (hm:JQ m ((hd::tl).map .str)) (hr:JQ r (rl.map Jr)):Qjt (DB m c k r x y) S=.ok (.nx (DB m c k r x y)) S:=by
 have h2:=Qyy (S:=S) (i:=8) (j:=9) (vs:=[8,9]) (vs1:=[9]) (it:=Ji (Ja 4)) (it2:=Ji (JS (fld 4) (Ja 8))) (e:=Jc J8 (Ja 9) (Ja 1)) (d:=DB m c k r x y) (l:=rl) (g:=Jr) (h:=Rw.nms) (k:=λ_ z=>W.str z) (f:=λ_ _=>W.bl true) (by simp [Ji,Ja,DB,Jm,Out.bind,hr.it,Kw]) (λz hz=>by
   simp [Ji,JS,Ja,DB,JV,Jz,Jm,Out.bind,QAp,Ym,Kw]) (λz hz n hn=>by
   have e1:JW n (hd::tl)=true:=Qcr.mpr (q.rn z hz n hn)
   simp [Jc,Ja,DB,JV,Jz,Jm,Out.bind,J8,hm.mem,e1,bW]) (by have:=Qwz rl; have:=q.rb; omega)
 have h3:Qb0 (rl.flatMap λz=>z.nms.map λ_=>W.bl true)=some true:=Qng λz hz=>by
  obtain ⟨a,_,ha⟩:=List.mem_flatMap.mp hz
  obtain ⟨b,_,hb⟩:=List.mem_map.mp ha
  exact hb.symm
 have a2:Jg K6 (Jd (eLcc [8,9] [9] (Ji (Ja 4)) (Ji (JS (fld 4) (Ja 8))) (.nm 8) (.nm 9) Mir.tYes Mir.tYes (Jc J8 (Ja 9) (Ja 1))) Jb) (DB m c k r x y) S=.ok (.bl true) S:=by
  simp only [Jg,Jd,Jb,h2,Out.bind,K6,rd,h3,bW]
 show ((Jg (Jj Qaz) (Jd (Jg K6 (Jd (eLcc [8,9] [9] (Ji (Ja 4)) (Ji (JS (fld 4) (Ja 8))) (.nm 8) (.nm 9) Mir.tYes Mir.tYes (Jc J8 (Ja 9) (Ja 1))) Jb)) _) (DB m c k r x y) S).bind _)=_
 rw [show (Jg (Jj Qaz) (Jd (Jg K6 (Jd (eLcc [8,9] [9] (Ji (Ja 4)) (Ji (JS (fld 4) (Ja 8))) (.nm 8) (.nm 9) Mir.tYes Mir.tYes (Jc J8 (Ja 9) (Ja 1))) Jb)) (Jd (eC (.str [109,97,114,107])) Jb)) (DB m c k r x y) S)=.ok .non S from by
  show ((Jd _ _ (DB m c k r x y) S).bind _)=_
  simp only [Jd,a2,Out.bind,eC,Jb]
  exact Qgy _ S]
 rfl
end
def SB (fs:List (Nat×W)):Store:=⟨1,[(0,.ins 4 fs)]⟩
theorem Qtc {w:W} {xs:List W} {S:Store} (h:JQ w xs):fTuple [w] S=.ok (.tup xs) S:=by rcases h with rfl | rfl <;> rfl
theorem QBq (d:Jo) (S:Store):Ji (eC Kf) d S=.ok (YT.map W.str,[]) S:=rfl
section
variable {m c k r:W} {hd:T} {tl cl kl:List T} {rl:List Rw} {x y:Option W} {fs:List (Nat×W)}
theorem bi7 (hm:JQ m ((hd::tl).map .str)):Qf2 (DB m c k r x y) (SB [])=.ok (.nx (DB m c k r x y)) (SB [(14,.tup ((hd::tl).map .str))]):=by
 have h:=set0 (c:=4) (fs:=[]) (k:=14) (v:=.tup ((hd::tl).map .str)) (Nat.le_of_ble_eq_true rfl)
 have e:=Qtc (S:=SB []) hm
 simp only [Qf2,Mir.sFld,Ja,DB,Jm,Out.bind,Jg,Jd,Jb,e]
 simp only [SB] at h ⊢
 rw [h]
 rfl
theorem bi8 (q:MkOk (hd::tl) cl kl rl) (hm:JQ m ((hd::tl).map .str)) (hc:JQ c (cl.map .str)) {v:W}:Qf1 (DB m c k r x y) (SB [(14,v)])=.ok (.nx (DB m c k r x y)) (SB [(14,v),(15,.tup (((hd::tl).filter (JW · cl)).map .str))]):=by
 have h:=set0 (c:=4) (fs:=[(14,v)]) (k:=15) (v:=.tup (((hd::tl).filter (JW · cl)).map .str)) (Nat.le_of_ble_eq_true rfl)
 have p:=Qdl (S:=SB [(14,v)]) (i:=5) (own:=[5]) (it:=Ji (Ja 1)) (c:=Mir.tB (Jc J8 (Ja 5) (Ja 2))) (e:=Ja 5) (d:=DB m c k r x y) (l:=hd::tl) (p:=(JW · cl)) (g:=W.str) (f:=W.str) (by simp [Ji,Ja,DB,Jm,Out.bind,hm.it,Kw]) (Nat.le_trans q.mb (by decide)) (λz hz=>by
  simp [Mir.tB,Jc,Ja,DB,JV,Jz,Jm,Out.bind,J8,hc.mem,bW]) (λz hz _=>by simp [Ja,DB,JV,Jz,Jm])
 simp only [Qf1,Mir.sFld,Ja,DB,Jm,Out.bind,Jg,Jd,Jb] at p ⊢
 rw [p]
 simp only [fTuple,KJ,SB] at h ⊢
 rw [h]
 rfl
theorem bi9 (hk:JQ k (kl.map .str)) {v u:W}:Qf0 (DB m c k r x y) (SB [(14,v),(15,u)])=.ok (.nx (DB m c k r x y)) (SB [(14,v),(15,u),(16,.tup ((YT.filter (JW · kl)).map .str))]):=by
 have h:=set0 (c:=4) (fs:=[(14,v),(15,u)]) (k:=16) (v:=.tup ((YT.filter (JW · kl)).map .str)) (Nat.le_of_ble_eq_true rfl)
 have p:=Qdl (S:=SB [(14,v),(15,u)]) (i:=7) (own:=[7]) (it:=Ji (eC Kf)) (c:=Mir.tB (Jc J8 (Ja 7) (Ja 3))) (e:=Ja 7) (d:=DB m c k r x y) (l:=YT) (p:=(JW · kl)) (g:=W.str) (f:=W.str) (QBq _ _) (by decide) (λz hz=>by
  simp [Mir.tB,Jc,Ja,DB,JV,Jz,Jm,Out.bind,J8,hk.mem,bW]) (λz hz _=>by simp [Ja,DB,JV,Jz,Jm])
 simp only [Qf0,Mir.sFld,Ja,DB,Jm,Out.bind,Jg,Jd,Jb] at p ⊢
 rw [p]
 simp only [fTuple,KJ,SB] at h ⊢
 rw [h]
 rfl
theorem bi10 (hr:JQ r (rl.map Jr)) {v u t:W}:Qe5 (DB m c k r x y) (SB [(14,v),(15,u),(16,t)])=.ok (.nx (DB m c k r x y)) (SB [(14,v),(15,u),(16,t),(17,.tup (rl.map Jr))]):=by
 have h:=set0 (c:=4) (fs:=[(14,v),(15,u),(16,t)]) (k:=17) (v:=.tup (rl.map Jr)) (Nat.le_of_ble_eq_true rfl)
 have e:=Qtc (S:=SB [(14,v),(15,u),(16,t)]) hr
 simp only [Qe5,Mir.sFld,Ja,DB,Jm,Out.bind,Jg,Jd,Jb,e]
 simp only [SB] at h ⊢
 rw [h]
 rfl
theorem bi11 {u t s:W}:Qe4 (DB m c k r x y) (SB [(14,.tup ((hd::tl).map .str)),(15,u),(16,t),(17,s)])=.ok (.nx (DB m c k r x y)) (SB [(14,.tup ((hd::tl).map .str)),(15,u),(16,t),(17,s),(18,.str hd)]):=by
 have h:=set0 (c:=4) (fs:=[(14,.tup ((hd::tl).map .str)),(15,u),(16,t),(17,s)]) (k:=18) (v:=.str hd) (Nat.le_of_ble_eq_true rfl)
 simp [Qe4,Mir.sFld,Ja,DB,Jm,Out.bind,Jc,JS,fld,SB,Store.get,look,Qh2,Kw,eC,Jk,KJ,atI,ixN]
 simp at h
 rw [h]
 rfl
def SF (b:Bk) (hd:T):Store:=SB [(14,.tup (b.marks.map .str)),(15,.tup (b.counted.map .str)),(16,.tup (b.keeps.map .str)),(17,.tup (b.rows.map Jr)),(18,.str hd)]
def Qei (b:Bk):List (List T):=[Ul::b.marks,Um::b.counted,[107,101,101,112,115]::b.keeps]
theorem Qip {n:Nat} (h:n<=900):Nat.ble n Jy=true:=Nat.ble_eq_true_of_le (Nat.le_trans h (by decide))
theorem bi12 {b:Bk} (h1:b.marks.length<=20) (h2:b.counted.length<=20) (h3:b.keeps.length<=20):Qe3 (DB m c k r x y) (SF b hd)=.ok (.nx (DB m c k r x (some (.lst ((Qei b).map λz=>.lst (z.map .str)))))) (SF b hd):=by
 have f1:fld 14 (.ref 0) (SF b hd)=.ok (.tup (b.marks.map .str)) (SF b hd):=rfl
 have f2:fld 15 (.ref 0) (SF b hd)=.ok (.tup (b.counted.map .str)) (SF b hd):=rfl
 have f3:fld 16 (.ref 0) (SF b hd)=.ok (.tup (b.keeps.map .str)) (SF b hd):=rfl
 have g:∀ (l:List T) (w:T),l.length<=20->Nat.ble (W.str w::(l.map W.str++[])).length Jy=true:=λl w h=>Qip (by simp; omega)
 simp only [Qe3,Jx,Ju,Jd,Jb,Qg6,eC,JS,Ja,DB,Jm,Out.bind,f1,f2,f3,KJ,g _ _ h1,g _ _ h2,g _ _ h3,if_true]
 simp [Jy,JG,Jz,Qei]
theorem bi13 {b:Bk} (hs:(Qei b).map (joinL [32])=b.heads) (h1:b.marks.length<=20) (h2:b.counted.length<=20) (h3:b.keeps.length<=20) (h4:b.rows.length<=500) (n1:∀ z∈b.marks,z.length<=8) (n2:∀ z∈b.counted,z.length<=8) (n3:∀ z∈b.keeps,z.length<=8) (hr:∀ r∈b.rows,r.ok=true):Qhp (DB m c k r x (some (.lst ((Qei b).map λz=>.lst (z.map .str))))) (SF b hd)=.ok (.nx (DB m c k r x (some (.lst ((Qei b).map λz=>.lst (z.map .str)))))) (SB [(14,.tup (b.marks.map .str)),(15,.tup (b.counted.map .str)),(16,.tup (b.keeps.map .str)),(17,.tup (b.rows.map Jr)),(18,.str hd),(19,.str b.txt)]):=by
 have lw:∀ (l:List T) (w:T),w.length<=8->l.length<=20->(∀ z∈l,z.length<=8)->(joinL [32] (w::l)).length<=189:=by
  intro l w hw hl hz
  have:=KC (c:=32) (n:=8) (w::l) (by intro v hv; rcases List.mem_cons.mp hv with rfl | h; exact hw; exact hz v h)
  simp only [List.length_cons] at this
  omega
 have hh:∀ z∈Qei b,(joinL [32] z).length<=189:=by
  intro z hz
  simp only [Qei,List.mem_cons,List.not_mem_nil,or_false] at hz
  rcases hz with rfl | rfl | rfl
  ·exact lw _ _ (by decide) h1 n1
  ·exact lw _ _ (by decide) h2 n2
  ·exact lw _ _ (by decide) h3 n3
 have p1:=Qdl (S:=SF b hd) (i:=11) (own:=[11]) (it:=Ji (Ja 10)) (c:=Mir.tYes) (e:=K7 (m1 Qdr) (eC (.str [32])) (Jd (Ja 11) Jb)) (d:=DB m c k r x (some (.lst ((Qei b).map λz=>.lst (z.map .str))))) (l:=Qei b) (p:=λ_=>true) (g:=λz=>.lst (z.map .str)) (f:=λz=>.str (joinL [32] z)) (by simp [Ji,Ja,DB,Jm,Out.bind,Ym,Kw]) (Nat.le_of_ble_eq_true rfl) (λz hz=>rfl) (λz hz _=>by
  have hb:Nat.ble (joinL [32] z).length Jy=true:=Qip (Nat.le_trans (hh z hz) (by decide))
  simp [K7,m1,Qdr,isS,eC,Jd,Jb,Ja,DB,JV,Jz,Jm,Out.bind,KJ,Qow,hb])
 have f1:fld 17 (.ref 0) (SF b hd)=.ok (.tup (b.rows.map Jr)) (SF b hd):=rfl
 have p2:=Qdl (S:=SF b hd) (i:=8) (own:=[8]) (it:=Ji (JS (fld 17) (Ja 0))) (c:=Mir.tYes) (e:=JS (fld 3) (Ja 8)) (d:=DB m c k r x (some (.lst ((Qei b).map λz=>.lst (z.map .str))))) (l:=b.rows) (p:=λ_=>true) (g:=Jr) (f:=λz=>.str z.txt) (by simp [Ji,JS,Ja,DB,Jm,Out.bind,f1,Ym,Kw]) (Nat.le_trans h4 (by decide)) (λz hz=>rfl) (λz hz _=>by
  simp [JS,Ja,DB,JV,Jz,Jm,Out.bind,rtext])
 have hset:=set0 (c:=4) (fs:=[(14,.tup (b.marks.map .str)),(15,.tup (b.counted.map .str)),(16,.tup (b.keeps.map .str)),(17,.tup (b.rows.map Jr)),(18,.str hd)]) (k:=19) (v:=.str b.txt) (Nat.le_of_ble_eq_true rfl)
 have ft:∀ {α:Type} (l:List α),l.filter (λ_=>true)=l:=λl=>List.filter_eq_self.mpr (by simp)
 rw [ft] at p1 p2
 have hall:((Qei b).map λz=>W.str (joinL [32] z))++(b.rows.map λz=>W.str z.txt)=(b.heads++b.rows.map Rw.txt).map .str:=by
  rw [<- hs,List.map_append,List.map_map,List.map_map]; rfl
 have hlen:b.txt.length<=Jy:=by
  have:=KC (c:=10) (n:=189) (b.heads++b.rows.map Rw.txt) (by
   intro z hz
   rcases List.mem_append.mp hz with h | h
   ·rw [<- hs] at h
    obtain ⟨v,hv,rfl⟩:=List.mem_map.mp h
    exact hh v hv
   ·obtain ⟨v,hv,rfl⟩:=List.mem_map.mp h
    exact Nat.le_trans (Qqh (hr v hv)) (by decide))
  have e:(b.heads++b.rows.map Rw.txt).length<=503:=by simp [Bk.heads]; omega
  have:b.txt.length<=503*190:=Nat.le_trans this (Nat.mul_le_mul_right _ e)
  exact Nat.le_trans this (by decide)
 have hb:Nat.ble ((Qei b).map (λz=>W.str (joinL [32] z))++(b.rows.map (λz:Rw=>W.str z.txt)++[])).length Jy=true:=Qip (by simp [Qei]; omega)
 have hj:K7 (m1 Qdr) (eC (.str [10])) (Jd (Ju (Qg6 (JZ [11] (Ji (Ja 10)) (.nm 11) Mir.tYes (K7 (m1 Qdr) (eC (.str [32])) (Jd (Ja 11) Jb))) (Qg6 (JZ [8] (Ji (JS (fld 17) (Ja 0))) (.nm 8) Mir.tYes (JS (fld 3) (Ja 8))) Jb))) Jb) (DB m c k r x (some (.lst ((Qei b).map λz=>.lst (z.map .str))))) (SF b hd)=.ok (.str b.txt) (SF b hd):=by
  have hal:Ju (Qg6 (JZ [11] (Ji (Ja 10)) (.nm 11) Mir.tYes (K7 (m1 Qdr) (eC (.str [32])) (Jd (Ja 11) Jb))) (Qg6 (JZ [8] (Ji (JS (fld 17) (Ja 0))) (.nm 8) Mir.tYes (JS (fld 3) (Ja 8))) Jb)) (DB m c k r x (some (.lst ((Qei b).map λz=>.lst (z.map .str))))) (SF b hd)=.ok (.lst ((b.heads++b.rows.map Rw.txt).map .str)) (SF b hd):=by
   simp only [Ju,Qg6,Jb,p1,p2,Out.bind,KJ,hb,if_true]
   rw [List.append_nil,hall]
  have ht:Nat.ble (joinL [10] (b.heads++b.rows.map Rw.txt)).length Jy=true:=Nat.ble_eq_true_of_le hlen
  simp only [K7,eC,Out.bind,isS,if_true,Jd,Jb,hal,m1,Qdr,KJ,Qow,ht]
  rfl
 have hf:=λ(d:Jo) (h0:Jm d 0=some (.ref 0)) (e:ME) (he:e d (SF b hd)=.ok (.str b.txt) (SF b hd))=>(show Mir.sFld 19 (Ja 0) e d (SF b hd)=.ok (.nx d) ⟨1,[(0,.ins 4 (Qcx [(14,.tup (b.marks.map .str)),(15,.tup (b.counted.map .str)),(16,.tup (b.keeps.map .str)),(17,.tup (b.rows.map Jr)),(18,.str hd)] 19 (.str b.txt)))]⟩ from by
  simp only [Mir.sFld,he,Out.bind,Ja,h0]
  simp only [SF,SB]
  rw [hset])
 exact hf _ rfl _ hj
theorem Y8 {a b:MS} {d d1:Jo} {S S1:Store} {o:Out Fl} (h:a d S=.ok (.nx d1) S1) (k:b d1 S1=o):Jh a b d S=o:=by
 show (a d S).bind _=_
 rw [h]
 exact k
theorem Qze:∀ z∈YT,z.length<=8:=by decide
theorem Qwn (q:MkOk (hd::tl) cl kl rl) (hm:JQ m ((hd::tl).map .str)) (hc:JQ c (cl.map .str)) (hk:JQ k (kl.map .str)) (hr:JQ r (rl.map Jr)) :
  Qa7 [.ref 0,m,c,k,r] (SB [])=.ok .non (SB [(14,.tup ((hd::tl).map .str)),(15,.tup ((Bk.of (hd::tl) cl kl rl).counted.map .str)),(16,.tup ((Bk.of (hd::tl) cl kl rl).keeps.map .str)),(17,.tup (rl.map Jr)),(18,.str hd),(19,.str (Bk.of (hd::tl) cl kl rl).txt)]):=by
 have nm8:∀ z∈hd::tl,z.length<=8:=λz hz=>Nat.le_trans (Qg9 (q.mn z hz)).2 (by decide)
 have run:=Y8 (bi1 (c:=c) (k:=k) (r:=r) (x:=none) (y:=none) (S:=SB []) q hm) (Y8 (bi2 (k:=k) (r:=r) (x:=none) (y:=none) (S:=SB []) q hm hc) (Y8 (bi3 (m:=m) (c:=c) (r:=r) (x:=none) (y:=none) (S:=SB []) q hk) (Y8 (bi4 (m:=m) (c:=c) (r:=r) (y:=none) (S:=SB []) q hk) (Y8 (bi5 (m:=m) (c:=c) (k:=k) (x:=some (.bl true)) (y:=none) (S:=SB []) q hr) (Y8 (bi6 (c:=c) (k:=k) (x:=some (.bl true)) (y:=none) (S:=SB []) q hm hr) (Y8 (bi7 (c:=c) (k:=k) (r:=r) (x:=some (.bl true)) (y:=none) hm) (Y8 (bi8 (k:=k) (r:=r) (x:=some (.bl true)) (y:=none) q hm hc) (Y8 (bi9 (m:=m) (c:=c) (r:=r) (x:=some (.bl true)) (y:=none) hk) (Y8 (bi10 (m:=m) (c:=c) (k:=k) (x:=some (.bl true)) (y:=none) hr) (Y8 bi11 (Y8 (bi12 (b:=Bk.of (hd::tl) cl kl rl) q.mb (Nat.le_trans (List.length_filter_le ..) q.mb) (Nat.le_trans (List.length_filter_le ..) (by decide))) (bi13 (b:=Bk.of (hd::tl) cl kl rl) rfl q.mb (Nat.le_trans (List.length_filter_le ..) q.mb) (Nat.le_trans (List.length_filter_le ..) (by decide)) q.rb nm8 (λz hz=>nm8 z (List.mem_filter.mp hz).1) (λz hz=>Qze z (List.mem_filter.mp hz).1) q.rk))))))))))))
 rw [Qqe]
 exact (congrArg (λz:Out Fl=>z.bind λf S1=>match f with | .nx _=>Out.ok W.non S1 | .rt w=>.ok w S1 | _=>.bad) run).trans rfl
theorem Qp0 (q:MkOk (hd::tl) cl kl rl) (hm:JQ m ((hd::tl).map .str)) (hc:JQ c (cl.map .str)) (hk:JQ k (kl.map .str)) (hr:JQ r (rl.map Jr)) (S:Store):Jj (Y6 4 Qa7) [m,c,k,r] S=.ok (JP (Bk.of (hd::tl) cl kl rl)) S :=
 Qr8 (by simp [Jq,hm.nr (J9 _),hc.nr (J9 _),hk.nr (J9 _),hr.nr (Qmj _)]) (Qwn q hm hc hk hr) (by simp [Ko,K8,Jq,J9,Qmj,Bk.of]) S
end
section
variable {S:Store}
def S3 (xs:List W):Store:=⟨1,[(0,.lst xs)]⟩
end
end G
namespace BT
open Mir MW ML
def fitT (o m:T):Bool:=JW o [Uc,m]
def Qxw (k m:T):Rw->Bool
 | .step k' o t a=>JH k' k&&fitT o m
 | _=>false
def Qy1 (x y:T):Rw->Bool
 | .join x' y' t a=>fitT x' x&&fitT y' y
 | _=>false
def Qyo (m:T):Rw->Bool
 | .part o l r a b=>fitT o m
 | _=>false
def stepR (m:T):Option Rw->W
 | some (.step _ _ t a)=>.tup [.str (if JH t Ua then m else t),.int a]
 | _=>.tup [.str m,.int 0]
def joinR (x y:T):Option Rw->W
 | some (.join _ _ t a)=>.tup [.str (if JH t Ub then x else if JH t Uf then y else t),.int a]
 | _=>.tup [.str x,.int 0]
def partR (bl m:T):Option Rw->W
 | some (.part _ l r a b)=>.tup [.str (if JH l Ua then m else l),.str (if JH r Ua then m else r),.int a,.int b]
 | _=>.tup [.str m,.str bl,.int 0,.int 0]
def Bk.blank (b:Bk):T:=b.marks.headD []
def Bk.step (b:Bk) (k m:T):W:=stepR m (b.rows.find? (Qxw k m))
def Bk.join (b:Bk) (x y:T):W:=joinR x y (b.rows.find? (Qy1 x y))
def Bk.part (b:Bk) (m:T):W:=partR b.blank m (b.rows.find? (Qyo m))
structure Good (b:Bk):Prop where
 ok:MkOk b.marks b.counted b.keeps b.rows
 of:Bk.of b.marks b.counted b.keeps b.rows=b
theorem Qpj:YT.Nodup:=by decide
end BT
namespace G
open Mir MW ML BT
theorem QA2 {r:Rw} (h:r.ok=true):10∉r.txt:=by
 have key:∀ ws:List T,(∀ w∈ws,10∉w)->10∉joinL [32] ws:=by
  intro ws
  induction ws with
  | nil=>intro _; simp [joinL]
  | cons w t ih =>
   intro hw
   cases t with
   | nil=>simpa [joinL] using hw w (by simp)
   | cons v t =>
    rw [joinL]
    have h1:=hw w (by simp)
    have h2:=ih (λz hz=>hw z (List.mem_cons_of_mem _ hz))
    simp [h1,h2]
 refine key r.ws ?_
 cases r with
 | step k o t a =>
  simp only [Rw.ok,Bool.and_eq_true] at h
  obtain ⟨⟨⟨q1,q2⟩,q3⟩,q4⟩:=h
  intro w hw
  simp only [Rw.ws,List.mem_cons,List.not_mem_nil,or_false] at hw
  rcases hw with rfl | rfl | rfl | rfl | rfl | rfl
  ·exact (by decide:∀ z∈KIN,10∉z) _ (Qcr.mp q1)
  ·exact (Qr5 q2).2
  ·decide
  ·exact (Que q3).2
  ·decide
  ·exact (Qr6 q4).2
 | join x y t a =>
  simp only [Rw.ok,Bool.and_eq_true] at h
  obtain ⟨⟨⟨q1,q2⟩,q3⟩,q4⟩:=h
  intro w hw
  simp only [Rw.ws,List.mem_cons,List.not_mem_nil,or_false] at hw
  rcases hw with rfl | rfl | rfl | rfl | rfl | rfl | rfl
  ·decide
  ·exact (Qr5 q1).2
  ·exact (Qr5 q2).2
  ·decide
  ·exact (Qyx q3).2
  ·decide
  ·exact (Qr6 q4).2
 | part o l r a b =>
  simp only [Rw.ok,Bool.and_eq_true] at h
  obtain ⟨⟨⟨⟨q1,q2⟩,q3⟩,q4⟩,q5⟩:=h
  intro w hw
  simp only [Rw.ws,List.mem_cons,List.not_mem_nil,or_false] at hw
  rcases hw with rfl | rfl | rfl | rfl | rfl | rfl | rfl | rfl
  ·decide
  ·exact (Qr5 q1).2
  ·decide
  ·exact (Que q2).2
  ·exact (Que q3).2
  ·decide
  ·exact (Qr6 q4).2
  ·exact (Qr6 q5).2
theorem Qyv:∀ ws:List T,(∀ w∈ws,10∉w)->10∉joinL [32] ws:=by
 intro ws
 induction ws with
 | nil=>intro _; simp [joinL]
 | cons w t ih =>
  intro hw
  cases t with
  | nil=>simpa [joinL] using hw w (by simp)
  | cons v t =>
   rw [joinL]
   have h1:=hw w (by simp)
   have h2:=ih (λz hz=>hw z (List.mem_cons_of_mem _ hz))
   simp [h1,h2]
theorem Qsb {c n k:Nat} {ws:List T} (h:∀ w∈ws,w.length<=n) (hk:ws.length<=k):(joinL [c] ws).length<=k*(n+1):=Nat.le_trans (KC ws h) (Nat.mul_le_mul_right _ hk)
section
variable {b:Bk}
theorem _root_.BT.Good.lines (g:Good b):∀ z∈b.heads++b.rows.map Rw.txt,10∉z/\z.length<=189:=by
 have q:=g.ok
 have nm:∀ z∈b.marks,10∉z/\z.length<=8:=λz hz=>⟨(Qvx (q.mn z hz)).2,Nat.le_trans (Qg9 (q.mn z hz)).2 (by decide)⟩
 have nc:∀ z∈b.counted,10∉z/\z.length<=8:=λz hz=>nm z (q.cn z hz)
 have nk:∀ z∈b.keeps,10∉z/\z.length<=8:=λz hz=>(by decide:∀ z∈YT,10∉z/\z.length<=8) z (q.kn z hz)
 have one:∀ (w:T) (l:List T),10∉w/\w.length<=8->l.length<=20->(∀ z∈l,10∉z/\z.length<=8)->10∉joinL [32] (w::l)/\(joinL [32] (w::l)).length<=189:=λw l hw hl hz=>by
  have h2:∀ v∈w::l,10∉v/\v.length<=8:=by intro v hv; rcases List.mem_cons.mp hv with rfl | h; exact hw; exact hz v h
  exact ⟨Qyv _ λv hv=>(h2 v hv).1,Qsb (n:=8) (k:=21) (λv hv=>(h2 v hv).2) (by simp; omega)⟩
 intro z hz
 rcases List.mem_append.mp hz with h | h
 ·simp only [Bk.heads,List.mem_cons,List.not_mem_nil,or_false] at h
  rcases h with rfl | rfl | rfl
  ·exact one _ _ (by decide) q.mb nm
  ·exact one _ _ (by decide) (Nat.le_trans (Qed q.cd q.cn) q.mb) nc
  ·exact one _ _ (by decide) (Nat.le_trans (Qed q.kd q.kn) (by decide)) nk
 ·obtain ⟨v,hv,rfl⟩:=List.mem_map.mp h
  exact ⟨QA2 (q.rk v hv),Nat.le_trans (Qqh (q.rk v hv)) (by decide)⟩
theorem _root_.BT.Good.short (g:Good b):b.txt.length<=Jy:=by
 have:=Qsb (c:=10) (n:=189) (k:=503) (ws:=b.heads++b.rows.map Rw.txt) (λz hz=>(g.lines z hz).2) (by have:=g.ok.rb; simp [Bk.heads]; omega)
 exact Nat.le_trans this (by decide)
theorem Qub (b:Bk):K8 (JP b)=true:=by simp [JP,K8,Ko,J9,Qmj]
theorem Qmz {n k:Nat} {b:MS} {xs:List W} {v:W} {S S':Store} (hn:fnOf n k b xs S=(b (xs.map some++List.replicate (k-n) none) S).bind λf S1=>match f with | .nx _=>.ok .non S1 | .rt w=>.ok w S1 | _=>.bad) (h:b (xs.map some++List.replicate (k-n) none) S=.ok (.rt v) S'):fnOf n k b xs S=.ok v S':=by
 rw [hn,h]
 rfl
end
section
variable {b:Bk}
theorem ffor {it:MI} {tg:Tg} {body:MS} {d:Jo} {S:Store} {l:List W} {o:Out Fl} (e:it d S=.ok (l,[]) S) (h:YW [] tg body l d S=o):KY it tg body d S=o:=by
 show (it d S).bind _=_
 rw [e]
 exact h
theorem Qu9 {a b:MS} {d:Jo} {S S1:Store} {w:W} (h:a d S=.ok (.rt w) S1):Jh a b d S=.ok (.rt w) S1:=by
 show (a d S).bind _=_
 rw [h]
 rfl
end
theorem fmtA {a:Int} (h:Qfb a=true):fmt (.int a)=some (Yh a):=by
 simp only [Qfb,Bool.and_eq_true,decide_eq_true_eq] at h
 have:a.natAbs<1000000000000:=by omega
 simp [fmt,this]
theorem addS {a b:T} {S:Store} (h:a.length+b.length<=900):JL (.str a) (.str b) S=.ok (.str (a++b)) S:=by
 have:a.length+b.length<=Jy:=Nat.le_trans h (by decide)
 simp [JL,this]
theorem fmtT (z:T):fmt (.str z)=some z:=rfl
theorem Qtu {r:Rw} (h:r.ok=true) (S:Store):Jj Qa4 [r.tup] S=.ok (.str r.txt) S:=by
 have nr:K8 r.tup=true:=by cases r <;> simp [Rw.tup,K8,Jq]
 refine Qdp (S':=E0) (by simp [Jq,nr]) ?_ rfl S
 cases r with
 | step k o t a =>
  simp only [Rw.ok,Bool.and_eq_true] at h
  obtain ⟨⟨⟨q1,q2⟩,q3⟩,q4⟩:=h
  have l1:=Qrd q1
  have l2:=Qeb q2
  have l3:=Qhz q3
  have l4:=Qdn q4
  have s1:Qbx [some (Rw.step k o t a).tup,none,none] E0=.ok (.nx [some (Rw.step k o t a).tup,some (.lst [.str k,.str o,.str t,.str (Yh a)]),none]) E0:=by
   simp [Qbx,Rw.tup,Jx,JZ,lcL,Ji,Yk,Ja,Jm,K9,YJ,eC,sl,cut,sIx,Out.bind,Ym,Kw,Jy,Kh,Ky,JG,JV,Jz,Mir.tYes,Jg,Jd,Jb,fStr,fmtT,fmtA q4]
  rw [Qeh]
  refine Qmz rfl (Y8 s1 (Qu9 ?_))
  have hz:JH Uk Uk=true:=rfl
  simp (config:={maxSteps:=1000000}) [Qgc,Rw.tup,Yl,Mir.tB,Jc,Ja,Jm,eC,Out.bind,Jk,KJ,atI,ixN,Kw,Qxe,hz,Jv]
  rw [addS (by simp; omega)]
  simp only []
  rw [addS (by simp; omega)]
  simp only []
  rw [addS (by simp; omega)]
  simp only []
  rw [addS (by simp; omega)]
  simp only []
  rw [addS (by simp; omega)]
  simp only []
  rw [addS (by simp; omega)]
  simp [Rw.txt,Rw.ws,joinL]
 | join x y t a =>
  simp only [Rw.ok,Bool.and_eq_true] at h
  obtain ⟨⟨⟨q1,q2⟩,q3⟩,q4⟩:=h
  have l1:=Qeb q1
  have l2:=Qeb q2
  have l3:=Qn2 q3
  have l4:=Qdn q4
  have s1:Qbx [some (Rw.join x y t a).tup,none,none] E0=.ok (.nx [some (Rw.join x y t a).tup,some (.lst [.str x,.str y,.str t,.str (Yh a)]),none]) E0:=by
   simp [Qbx,Rw.tup,Jx,JZ,lcL,Ji,Yk,Ja,Jm,K9,YJ,eC,sl,cut,sIx,Out.bind,Ym,Kw,Jy,Kh,Ky,JG,JV,Jz,Mir.tYes,Jg,Jd,Jb,fStr,fmtT,fmtA q4]
  rw [Qeh]
  refine Qmz rfl (Y8 s1 (Y8 (d1:=[some (Rw.join x y t a).tup,some (.lst [.str x,.str y,.str t,.str (Yh a)]),none]) (S1:=E0) rfl (Qu9 ?_)))
  have hz:JH Uh Uh=true:=rfl
  simp (config:={maxSteps:=1000000}) [Qgb,Rw.tup,Yl,Mir.tB,Jc,Ja,Jm,eC,Out.bind,Jk,KJ,atI,ixN,Kw,Qxe,hz,Jv]
  rw [addS (by simp; omega)]
  simp only []
  rw [addS (by simp; omega)]
  simp only []
  rw [addS (by simp; omega)]
  simp only []
  rw [addS (by simp; omega)]
  simp only []
  rw [addS (by simp; omega)]
  simp only []
  rw [addS (by simp; omega)]
  simp only []
  rw [addS (by simp; omega)]
  simp [Rw.txt,Rw.ws,joinL]
 | part o l r a b =>
  have hl:=Qqh h
  simp only [Rw.ok,Bool.and_eq_true] at h
  obtain ⟨⟨⟨⟨q1,q2⟩,q3⟩,q4⟩,q5⟩:=h
  have s1:Qbx [some (Rw.part o l r a b).tup,none,none] E0=.ok (.nx [some (Rw.part o l r a b).tup,some (.lst [.str o,.str l,.str r,.str (Yh a),.str (Yh b)]),none]) E0:=by
   simp [Qbx,Rw.tup,Jx,JZ,lcL,Ji,Yk,Ja,Jm,K9,YJ,eC,sl,cut,sIx,Out.bind,Ym,Kw,Jy,Kh,Ky,JG,JV,Jz,Mir.tYes,Jg,Jd,Jb,fStr,fmtT,fmtA q4,fmtA q5]
  rw [Qeh]
  refine Qmz rfl (Y8 s1 (Y8 (d1:=[some (Rw.part o l r a b).tup,some (.lst [.str o,.str l,.str r,.str (Yh a),.str (Yh b)]),none]) (S1:=E0) rfl (Y8 (d1:=[some (Rw.part o l r a b).tup,some (.lst [.str o,.str l,.str r,.str (Yh a),.str (Yh b)]),none]) (S1:=E0) rfl ?_)))
  have hb:=Qdg hl
  simp only [Rw.txt,Rw.ws] at hb
  simp [Qga,Jv,K7,eC,Out.bind,isS,Jd,Jb,Ju,Jc,Ja,Jm,Jk,KJ,atI,ixN,Kw,Jy,m1,Qdr,Qf5]
  simp [Jy] at hb
  simp [hb,Rw.txt,Rw.ws]
end G
namespace BT
open Mir MW ML
mutual
theorem Qsi:∀ (n:Nat) (w:W),Kz n w=true->Yx w w=some true
 | n,.non,_=>rfl
 | n,.bl a,_=>by simp [Yx]
 | n,.int i,_=>by simp [Yx]
 | n,.str z,_=>by simp [Yx,Qcu.mpr (rfl:z=z)]
 | n,.tup xs,h=>by
  cases n with
  | zero=>simp [Kz] at h
  | succ n=>simp only [Yx]; exact eqWs_refl n xs (by simpa [Kz] using h)
 | n,.lst xs,h=>by
  cases n with
  | zero=>simp [Kz] at h
  | succ n=>simp only [Yx]; exact eqWs_refl n xs (by simpa [Kz] using h)
 | n,.lsr xs,h=>by simp [Kz] at h
 | n,.obj _ _,h=>by simp [Kz] at h
 | n,.ref _,h=>by simp [Kz] at h
 | n,.cls _,h=>by simp [Kz] at h
theorem eqWs_refl:∀ (n:Nat) (xs:List W),J5 n xs=true->eqWs xs xs=some true
 | n,[],_=>by simp [eqWs]
 | n,x::r,h=>by
  simp only [J5,Bool.and_eq_true] at h
  simp only [eqWs,Qsi n x h.1]
  exact eqWs_refl n r h.2
end
def Bk.all (b:Bk):W:=.lst (.tup (b.keeps.map .str)::b.marks.flatMap λm=>[.tup [b.part m,.lst (KIN.map λk=>b.step k m)],.lst (b.marks.map λy=>b.join m y)])
end BT
namespace G
open Mir MW ML BT
section
variable {a e:ME} {r:MA} {d:Jo} {S S1 S2:Store} {x y:W} {xs:List W} {i:Nat}
theorem aC (h:a d S=.ok x S1) (k:r d S1=.ok xs S2):Jd a r d S=.ok (x::xs) S2:=by
 show (a d S).bind _=_
 rw [h]
 show (r d S1).bind _=_
 rw [k]
 rfl
theorem aN:Jb d S=.ok [] S:=rfl
theorem asgR (h:a d S=.ok x S1):Jx (.nm i) a d S=.ok (.nx (Jz d i (some x))) S1:=by
 show (a d S).bind _=_
 rw [h]
 rfl
theorem retR (h:a d S=.ok x S1):Jv a d S=.ok (.rt x) S1:=by
 show (a d S).bind _=_
 rw [h]
 rfl
theorem Qwc (h:a d S=.ok x S1):JX a d S=.ok (.nx d) S1:=by
 show (a d S).bind _=_
 rw [h]
 rfl
theorem lstMR (h:r d S=.ok xs S1) (hl:xs.length<=900):Qfc r d S=.ok (.ref S1.next) (S1.new (.lst xs)):=by
 show (r d S).bind _=_
 rw [h]
 show (if Nat.ble xs.length Jy then _ else _)=_
 rw [Qip hl]
 rfl
theorem Qdi {f:MF} (h:r d S=.ok xs S1):Jg f r d S=f xs S1:=by
 show (r d S).bind _=_
 rw [h]
 rfl
theorem Yn {f:W->W->Store->Out W} (h:a d S=.ok x S1) (k:e d S1=.ok y S2):Jc f a e d S=f x y S2:=by
 show (a d S).bind _=_
 rw [h]
 show (e d S1).bind _=_
 rw [k]
 rfl
theorem mtLR {f:W->List W->Store->Out W} (h:a d S=.ok x S1) (hi:Mir.isL x S1=true) (k:r d S1=.ok xs S2):JT f a r d S=f x xs S2:=by
 show (a d S).bind _=_
 rw [h]
 show (if Mir.isL x S1 then _ else _)=_
 rw [hi]
 show (r d S1).bind _=_
 rw [k]
 rfl
theorem mtSR {f:W->List W->Store->Out W} {z:T} (h:a d S=.ok (.str z) S1) (k:r d S1=.ok xs S2):K7 f a r d S=f (.str z) xs S2:=by
 show (a d S).bind _=_
 rw [h]
 show (r d S1).bind _=_
 rw [k]
 rfl
theorem methR {tab:List (Nat×MF)} {f:MF} {c:Nat} (h:a d S=.ok x S1) (hc:Qdh S1 x=some c) (ht:Qds tab c=some f) (k:r d S1=.ok xs S2):Qpx tab a r d S=f (x::xs) S2:=by
 show (a d S).bind _=_
 rw [h]
 show (match Qdh S1 x with | some c=>_ | none=>_)=_
 rw [hc]
 show (match Qds tab c with | some f=>_ | none=>_)=_
 rw [ht]
 show (r d S1).bind _=_
 rw [k]
 rfl
theorem JM (h:Jm d i=some x):Ja i d S=.ok x S:=by simp [Ja,h]
end
theorem Qwb {tg:Tg} {body:MS} {x:W} {r:List W} {d d1 d2:Jo} {S S1:Store} (ht:JG tg x d=some d1) (hb:body d1 S=.ok (.nx d2) S1):YW [] tg body (x::r) d S=YW [] tg body r d2 S1:=by
 simp only [YW,Ky,if_true,ht,hb,Out.bind]
def tupB (b:Bk):W:=.tup [.lst (b.marks.map .str),.lst (b.counted.map .str),.lst (b.keeps.map .str),.lst (b.rows.map Rw.tup)]
theorem Qq5:∀ l:List Rw,Jq (l.map Rw.tup)=true
 | []=>by simp [Jq]
 | r::t=>by
  have:K8 r.tup=true:=by cases r <;> simp [Rw.tup,K8,Jq]
  simp [Jq,this,Qq5 t]
theorem Qq6 (b:Bk):K8 (tupB b)=true:=by simp [tupB,K8,Jq,J9,Qq5]
section
variable {b:Bk}
theorem Qup {w:T} {l:List T} {e:ME} {d:Jo} {S:Store} (he:e d S=.ok (.lst (l.map .str)) S) (hl:(joinL [32] (w::l)).length<=900) (hn:l.length<=20):K7 (m1 Qdr) (eC (.str [32])) (Jd (Jc JL (Ju (Jd (eC (.str w)) Jb)) (Jg Qn8 (Jd e Jb))) Jb) d S=.ok (.str (joinL [32] (w::l))) S:=by
 have h1:JL (.lst [.str w]) (.lst (l.map .str)) S=.ok (.lst (W.str w::l.map .str)) S:=by
  have:Nat.ble (([W.str w]:List W).length+(l.map W.str).length) Jy=true:=Qip (by simp; omega)
  simp only [JL,rd,this,if_true]
  rfl
 have h2:Qf5 (W.str w::l.map .str)=some (w::l):=Qow (w::l)
 have h3:=Qip hl
 simp [K7,eC,Out.bind,isS,Jd,Jb,Jc,Ju,Jy,Jg,he,Qn8,KJ,h1,m1,Qdr,h2]
 have:(joinL [32] (w::l)).length<=100000:=Nat.le_trans hl (by decide)
 exact this
theorem Qrs (g:Good b) (S:Store):Jj Qbu [tupB b] S=.ok (.str b.txt) S:=by
 have q:=g.ok
 have hs:=g.lines
 have len:∀ z∈b.heads,z.length<=900:=λz hz=>Nat.le_trans (hs z (List.mem_append_left _ hz)).2 (by decide)
 have n2:b.counted.length<=20:=Nat.le_trans (Qed q.cd q.cn) q.mb
 have n3:b.keeps.length<=20:=Nat.le_trans (Qed q.kd q.kn) (by decide)
 have i0:∀ d S,Jm d 0=some (tupB b)->Jc Jk (Ja 0) (eC (.int 0)) d S=.ok (.lst (b.marks.map .str)) S:=λd S h=>by simp [Jc,Ja,h,eC,Out.bind,tupB,Jk,KJ,atI,ixN,Kw]
 have i1:∀ d S,Jm d 0=some (tupB b)->Jc Jk (Ja 0) (eC (.int 1)) d S=.ok (.lst (b.counted.map .str)) S:=λd S h=>by simp [Jc,Ja,h,eC,Out.bind,tupB,Jk,KJ,atI,ixN,Kw]
 have i2:∀ d S,Jm d 0=some (tupB b)->Jc Jk (Ja 0) (eC (.int 2)) d S=.ok (.lst (b.keeps.map .str)) S:=λd S h=>by simp [Jc,Ja,h,eC,Out.bind,tupB,Jk,KJ,atI,ixN,Kw]
 have i3:∀ d S,Jm d 0=some (tupB b)->Jc Jk (Ja 0) (eC (.int 3)) d S=.ok (.lst (b.rows.map Rw.tup)) S:=λd S h=>by simp [Jc,Ja,h,eC,Out.bind,tupB,Jk,KJ,atI,ixN,Kw]
 have h0:=Qup (w:=Ul) (l:=b.marks) (e:=Jc Jk (Ja 0) (eC (.int 0))) (d:=[some (tupB b),none,none]) (S:=E0) (i0 _ _ rfl) (len _ (by simp [Bk.heads])) q.mb
 have h1:=Qup (w:=Um) (l:=b.counted) (e:=Jc Jk (Ja 0) (eC (.int 1))) (d:=[some (tupB b),none,none]) (S:=E0) (i1 _ _ rfl) (len _ (by simp [Bk.heads])) n2
 have h2:=λS=>Qup (w:=[107,101,101,112,115]) (l:=b.keeps) (e:=Jc Jk (Ja 0) (eC (.int 2))) (d:=[some (tupB b),some (.ref 0),none]) (S:=S) (i2 _ _ rfl) (len _ (by simp [Bk.heads])) n3
 refine Qdp (S':=S3 (b.heads.map .str)) (by simp [Jq,Qq6]) ?_ rfl S
 rw [Qrb]
 refine Qmz rfl ?_
 have s1:Qkx [some (tupB b),none,none] E0=.ok (.nx [some (tupB b),some (.ref 0),none]) (S3 [.str (joinL [32] (Ul::b.marks)),.str (joinL [32] (Um::b.counted))]):=by
  exact asgR (lstMR (aC h0 (aC h1 aN)) (Nat.le_of_ble_eq_true rfl))
 refine Y8 s1 ?_
 have s2:Qkw [some (tupB b),some (.ref 0),none] (S3 [.str (joinL [32] (Ul::b.marks)),.str (joinL [32] (Um::b.counted))])=.ok (.nx [some (tupB b),some (.ref 0),none]) (S3 (b.heads.map .str)):=by
  exact Qwc (x:=.non) ((mtLR (f:=m1 Qbs) (x:=.ref 0) (JM rfl) rfl (aC (h2 _) aN)).trans rfl)
 refine Y8 s2 ?_
 have p:=Qdl (S:=S3 (b.heads.map .str)) (i:=2) (own:=[2]) (it:=Ji (Jc Jk (Ja 0) (eC (.int 3)))) (c:=Mir.tYes) (e:=Jg (Jj Qa4) (Jd (Ja 2) Jb)) (d:=[some (tupB b),some (.ref 0),none]) (l:=b.rows) (p:=λ_=>true) (g:=Rw.tup) (f:=λr=>.str r.txt) (by simp [Ji,i3 [some (tupB b),some (.ref 0),none] (S3 (b.heads.map .str)) rfl,Out.bind,Ym,Kw]) (Nat.le_trans q.rb (by decide)) (λ_ _=>rfl) (λr hr _=>by
  simp [Jg,Jd,Jb,Ja,JV,Jz,Jm,Out.bind,Qtu (q.rk r hr)])
 rw [List.filter_eq_self.mpr (by simp)] at p
 have ad:JL (.ref 0) (.lst (b.rows.map λr=>.str r.txt)) (S3 (b.heads.map .str))=.ok (.lst ((b.heads++b.rows.map Rw.txt).map .str)) (S3 (b.heads.map .str)):=by
  have hb:Nat.ble ((b.heads.map W.str).length+(b.rows.map λr=>W.str r.txt).length) Jy=true:=Qip (by have:=q.rb; simp [Bk.heads]; omega)
  have e:b.heads.map W.str++(b.rows.map λr=>W.str r.txt)=(b.heads++b.rows.map Rw.txt).map .str:=by simp [Function.comp_def]
  show (if Nat.ble ((b.heads.map W.str).length+(b.rows.map λr=>W.str r.txt).length) Jy then Out.ok (W.lst (b.heads.map W.str++(b.rows.map λr=>W.str r.txt))) _ else _)=_
  rw [hb,e]
  rfl
 have jn:Qdr (.str [10]) (.lst ((b.heads++b.rows.map Rw.txt).map .str)) (S3 (b.heads.map .str))=.ok (.str b.txt) (S3 (b.heads.map .str)):=by
  have ht:Nat.ble (joinL [10] (b.heads++b.rows.map Rw.txt)).length Jy=true:=Nat.ble_eq_true_of_le g.short
  simp only [Qdr,KJ,Qow,ht,if_true]
  rfl
 exact retR ((mtSR rfl (aC ((Yn (JM rfl) p).trans ad) aN)).trans jn)
theorem Qsx (S:Store):Jj Qc2 [] S=.ok (.lst (KIN.map .str)) S:=rfl
end
theorem hdr:Qqd Yy:=Qwf (a:=48271) (b:=29) (dv:=16) (by decide) (by decide) (by decide) (by decide) (by decide)
theorem Qyn:Qbc=QAu Yy:=rfl
theorem Qv0:Qee=Qw3 Yy:=rfl
theorem Qzj:Qd0=Qzk 32452867 43 48271 2147483629 23 61:=rfl
def Old (ms:List T) (z:T):Prop:=Qmw z=true/\(isNm z=true->z∈ms)
def New (ms:List T) (z:T):Prop:=Qn0 z=true/\(isNm z=true->z∈ms)
def NewJ (ms:List T) (z:T):Prop:=Qmi z=true/\(isNm z=true->z∈ms)
inductive RowM (ms:List T):Rw->Prop where
 | step {k o t:T} {a:Int} (hk:JW k KIN=true) (ho:Old ms o) (ht:New ms t) (ha:Qfb a=true):RowM ms (.step k o t a)
 | join {x y t:T} {a:Int} (hx:Old ms x) (hy:Old ms y) (ht:NewJ ms t) (ha:Qfb a=true):RowM ms (.join x y t a)
 | part {o l r:T} {a b:Int} (ho:Old ms o) (hl:New ms l) (hr:New ms r) (ha:Qfb a=true) (hb:Qfb b=true):RowM ms (.part o l r a b)
theorem RowM.ok {ms:List T} {r:Rw} (h:RowM ms r):r.ok=true:=by
 cases h with
 | step hk ho ht ha=>simp [Rw.ok,hk,ho.1,ht.1,ha]
 | join hx hy ht ha=>simp [Rw.ok,hx.1,hy.1,ht.1,ha]
 | part ho hl hr ha hb=>simp [Rw.ok,ho.1,hl.1,hr.1,ha,hb]
theorem RowM.nms {ms:List T} {r:Rw} (h:RowM ms r):∀ n∈r.nms,n∈ms:=by
 cases h with
 | step hk ho ht ha =>
  intro n hn
  obtain ⟨h1,h2⟩:=List.mem_filter.mp hn
  simp only [List.mem_cons,List.not_mem_nil,or_false] at h1
  rcases h1 with rfl | rfl
  ·exact ho.2 h2
  ·exact ht.2 h2
 | join hx hy ht ha =>
  intro n hn
  obtain ⟨h1,h2⟩:=List.mem_filter.mp hn
  simp only [List.mem_cons,List.not_mem_nil,or_false] at h1
  rcases h1 with rfl | rfl | rfl
  ·exact hx.2 h2
  ·exact hy.2 h2
  ·exact ht.2 h2
 | part ho hl hr ha hb =>
  intro n hn
  obtain ⟨h1,h2⟩:=List.mem_filter.mp hn
  simp only [List.mem_cons,List.not_mem_nil,or_false] at h1
  rcases h1 with rfl | rfl | rfl
  ·exact ho.2 h2
  ·exact hl.2 h2
  ·exact hr.2 h2
structure Marks (ms:List T):Prop where
 ne:ms≠[]
 sub:∀ m∈ms,isNm m=true
 len:ms.length<=13
 nd:ms.Nodup
section
variable {ms:List T}
theorem Marks.old (hm:Marks ms) {z:T} (h:z∈ms):Old ms z:=⟨by simp [Qmw,hm.sub z h],λ_=>h⟩
theorem Marks.new (hm:Marks ms) {z:T} (h:z∈ms):New ms z:=⟨by simp [Qn0,hm.sub z h],λ_=>h⟩
theorem Marks.newJ (hm:Marks ms) {z:T} (h:z∈ms):NewJ ms z:=⟨by simp [Qmi,hm.sub z h],λ_=>h⟩
theorem Marks.ne2 (hm:Marks ms):ms.map W.str≠[]:=λh=>hm.ne (List.map_eq_nil_iff.mp h)
theorem Marks.len2 (hm:Marks ms):(ms.map W.str).length<=1000:=by rw [List.length_map]; exact Nat.le_trans hm.len (by decide)
end
theorem Qkz {a:Int} (h1: -3<=a) (h2:a<=3):Qfb a=true:=by simp [Qfb,h1,h2]
section
variable {n k:Nat} {S:Store} {ms:List T}
theorem pk (h:Deal n k S) {xs:List W} {Q:W->Store->Prop} (h0:xs≠[]) (h1:xs.length<=1000) (q:∀ v S',v∈xs->Left n k S S'->Q v S'):Tr (Qbc [.ref n,.lst xs] S) Q:=by
 rw [Qyn]
 exact (Qym hdr h h0 (by omega)).imp λv S' ⟨a,b⟩=>q v S' a b
theorem dw (h:Deal n k S) {many:Int} {Q:W->Store->Prop} (h0:0<many) (h1:many<1073741824) (q:∀ (i:Nat) S',(i:Int)<many->Left n k S S'->Q (.int i) S'):Tr (Yy [.ref n,.int many] S) Q :=
 (hdr n k S many h h0 h1).imp λv S' ⟨⟨i,e,hi⟩,L⟩=>by subst e; exact q i S' hi L
theorem Qkb {a b:List W} {S:Store} (h:a.length+b.length<=Jy):JL (.lst a) (.lst b) S=.ok (.lst (a++b)) S:=by
 simp only [JL,rd,Nat.ble_eq_true_of_le h,if_true]
theorem Qmn {i j:Int} {S:Store}:Km (.int i) (.int j) S=.ok (.bl (decide (i=j))) S:=by simp [Km,rd,eqD,Kz,Yx,bW]
local macro_rules | `(tactic| walk_at "Z0")=>`(tactic| (repeat (first | (with_reducible first | refine Qcb ?_ | refine Qd4 ?_ | refine Qjy ?_ | refine Qnq ?_ | refine Qop ?_ | refine Qqj ?_ | refine Qlm ?_ | refine Ye ?_ | refine Qc5 ?_ | refine tr_un ?_ | refine KR ?_ | refine Qcc ?_ | refine Qb5 ?_ | refine Qoo ?_ | refine Qnn ?_ | refine tr_tOr ?_ | refine tr_tNot ?_ | refine Qli ?_ | refine Qro ?_ | refine tr_mtS ?_ | refine Qlj ?_ | refine Qll ?_ | refine Qlk ?_ | refine Qqi ?_ | refine tr_lcM ?_ | refine Qm4 ?_ | refine Qrq ?_ | refine Qlh ?_ | refine Qoq ?_ | refine Qno ?_ | refine Qrp ?_ | refine tr_fmt ?_ | refine tr_and ?_ | refine tr_or ?_ | refine tr_not ?_ | refine tr_iSeq ?_ | refine Qln ?_ | refine tr_fld ?_ | refine Qnp ?_ | refine Qor ?_) | refine Yc rfl ?_ | dsimp only [Bool.false_eq_true,if_true,if_false])))
theorem Qnj (h:Deal n k S) (hm:Marks ms):Tr (Qb8 [.ref n,.lst (ms.map .str)] S) λv S'=>(∃ r,v=r.tup/\RowM ms r)/\Left n k S S':=by
 have lm:=hm.len
 have L13:∀ j,j<=20->(ms.map W.str).length+j<=Jy:=λj hj=>Nat.le_trans (show (ms.map W.str).length+j<=33 by rw [List.length_map]; omega) (by decide)
 refine Qos [some (.ref n),some (.lst (ms.map .str)),none,none,none,none,none] rfl rfl ?_
 walk_at "Z0"
 refine dw h (by decide) (by decide) λi S1 hi L1=>?_
 walk_at "Z0"
 refine dw L1.deal (by decide) (by decide) λj S2 hj L2=>?_
 have L2:=L1.trans L2
 walk_at "Z0"
 refine ⟨by show 2<=Jy; decide,_,_,rfl,?_⟩
 walk_at "Z0"
 refine ⟨by show 1<=Jy; decide,?_⟩
 refine Ks (Qkb (L13 1 (by omega))) ?_
 walk_at "Z0"
 have mem1:∀ v∈ms.map W.str++[.str Uc],∃ z,v=.str z/\Old ms z:=λv hv=>(List.mem_append.mp hv).elim (λq=>by obtain ⟨z,hz,rfl⟩:=List.mem_map.mp q; exact ⟨z,rfl,hm.old hz⟩) λq=>⟨_,List.mem_singleton.mp q,rfl,λh=>absurd h (by decide)⟩
 have mem2:∀ v∈ms.map W.str++[.str Ub,.str Uf],∃ z,v=.str z/\NewJ ms z:=λv hv=>(List.mem_append.mp hv).elim (λq=>by obtain ⟨z,hz,rfl⟩:=List.mem_map.mp q; exact ⟨z,rfl,hm.newJ hz⟩) λq=>(List.mem_cons.mp q).elim (λq=>⟨_,q,rfl,λh=>absurd h (by decide)⟩) λq=>⟨_,List.mem_singleton.mp q,rfl,λh=>absurd h (by decide)⟩
 have mem3:∀ v∈ms.map W.str++[.str Ua],∃ z,v=.str z/\New ms z:=λv hv=>(List.mem_append.mp hv).elim (λq=>by obtain ⟨z,hz,rfl⟩:=List.mem_map.mp q; exact ⟨z,rfl,hm.new hz⟩) λq=>⟨_,List.mem_singleton.mp q,rfl,λh=>absurd h (by decide)⟩
 have l1:(ms.map W.str++[W.str Uc]).length<=1000:=by simp; omega
 have l2:(ms.map W.str++[W.str Ub,W.str Uf]).length<=1000:=by simp; omega
 have l3:(ms.map W.str++[W.str Ua]).length<=1000:=by simp; omega
 refine Ks Qmn ⟨_,rfl,?_⟩
 by_cases hi0:(i:Int)=0
 ·rw [decide_eq_true hi0]
  walk_at "Z0"
  refine pk L2.deal (by simp) l1 λx S3 hx L3=>?_
  have L3:=L2.trans L3
  walk_at "Z0"
  refine pk L3.deal (by simp) l1 λy S4 hy L4=>?_
  have L4:=L3.trans L4
  walk_at "Z0"
  refine ⟨by show 2<=Jy; decide,?_⟩
  refine Ks (Qkb (L13 2 (by omega))) ?_
  walk_at "Z0"
  refine pk L4.deal (by simp) l2 λt S5 ht L5=>?_
  have L5:=L4.trans L5
  walk_at "Z0"
  refine ⟨by show 5<=Jy; decide,?_⟩
  walk_at "Z0"
  obtain ⟨x_,rfl,hx_⟩:=mem1 x hx
  obtain ⟨y_,rfl,hy_⟩:=mem1 y hy
  obtain ⟨t_,rfl,ht_⟩:=mem2 t ht
  exact ⟨⟨.join x_ y_ t_ (j-3),rfl,.join hx_ hy_ ht_ (Qkz (by omega) (by omega))⟩,L5⟩
 ·rw [decide_eq_false hi0]
  walk_at "Z0"
  refine Ks Qmn ⟨_,rfl,?_⟩
  by_cases hi1:(i:Int)=1
  ·rw [decide_eq_true hi1]
   walk_at "Z0"
   refine ⟨by show 1<=Jy; decide,?_⟩
   refine Ks (Qkb (L13 1 (by omega))) ?_
   walk_at "Z0"
   refine pk L2.deal (by simp) l3 λx S3 hx L3=>?_
   have L3:=L2.trans L3
   walk_at "Z0"
   refine ⟨by show 1<=Jy; decide,?_⟩
   refine Ks (Qkb (L13 1 (by omega))) ?_
   walk_at "Z0"
   refine pk L3.deal (by simp) l3 λy S4 hy L4=>?_
   have L4:=L3.trans L4
   walk_at "Z0"
   refine ⟨by show 2<=Jy; decide,_,_,rfl,?_⟩
   walk_at "Z0"
   refine pk L4.deal (by simp) l1 λo S5 ho L5=>?_
   have L5:=L4.trans L5
   walk_at "Z0"
   refine dw L5.deal (by decide) (by decide) λj2 S6 hj2 L6=>?_
   have L6:=L5.trans L6
   walk_at "Z0"
   refine ⟨by show 6<=Jy; decide,?_⟩
   walk_at "Z0"
   obtain ⟨o_,rfl,ho_⟩:=mem1 o ho
   obtain ⟨x_,rfl,hx_⟩:=mem3 x hx
   obtain ⟨y_,rfl,hy_⟩:=mem3 y hy
   exact ⟨⟨.part o_ x_ y_ (j-3) (j2-3),rfl,.part ho_ hx_ hy_ (Qkz (by omega) (by omega)) (Qkz (by omega) (by omega))⟩,L6⟩
  ·rw [decide_eq_false hi1]
   walk_at "Z0"
   refine Ks (Qsx _) ?_
   walk_at "Z0"
   refine pk (xs:=KIN.map .str) L2.deal (by decide) (by decide) λx S3 hx L3=>?_
   have L3:=L2.trans L3
   walk_at "Z0"
   refine pk L3.deal (by simp) l1 λo S4 ho L4=>?_
   have L4:=L3.trans L4
   walk_at "Z0"
   refine ⟨by show 1<=Jy; decide,?_⟩
   refine Ks (Qkb (L13 1 (by omega))) ?_
   walk_at "Z0"
   refine pk L4.deal (by simp) l3 λt S5 ht L5=>?_
   have L5:=L4.trans L5
   walk_at "Z0"
   refine ⟨by show 5<=Jy; decide,?_⟩
   walk_at "Z0"
   obtain ⟨x_,hx_,rfl⟩:=List.mem_map.mp hx
   obtain ⟨o_,rfl,ho_⟩:=mem1 o ho
   obtain ⟨t_,rfl,ht_⟩:=mem3 t ht
   exact ⟨⟨.step x_ o_ t_ (j-3),rfl,.step (Qcr.mpr hx_) ho_ ht_ (Qkz (by omega) (by omega))⟩,L5⟩
local macro_rules | `(tactic| walk_at "Z1")=>`(tactic| (repeat (first | (first | (with_reducible first | refine Qcb ?_ | refine Qd4 ?_ | refine Qjy ?_ | refine Qnq ?_ | refine Qop ?_ | refine Qqj ?_ | refine Qlm ?_ | refine Ye ?_ | refine Qc5 ?_ | refine tr_un ?_ | refine KR ?_ | refine Qcc ?_ | refine Qb5 ?_ | refine Qoo ?_ | refine Qnn ?_ | refine tr_tOr ?_ | refine tr_tNot ?_ | refine Qli ?_ | refine Qro ?_ | refine tr_mtS ?_ | refine Qlj ?_ | refine Qll ?_ | refine Qlk ?_ | refine Qqi ?_ | refine tr_lcM ?_ | refine Qm4 ?_ | refine Qrq ?_ | refine Qlh ?_ | refine Qoq ?_ | refine Qno ?_ | refine Qrp ?_ | refine tr_fmt ?_ | refine tr_and ?_ | refine tr_or ?_ | refine tr_not ?_ | refine tr_iSeq ?_ | refine Qln ?_ | refine tr_fld ?_ | refine Qnp ?_ | refine Qor ?_) | refine Yc rfl ?_ | dsimp only [Bool.false_eq_true,if_true,if_false]) | refine Qz6 rfl ?_ | refine Qz7 rfl ?_ | refine ⟨Nat.le_of_ble_eq_true rfl,?_⟩ | refine ⟨_,rfl,?_⟩ | refine ⟨_,_,rfl,?_⟩ | ((fail_if_success (with_reducible refine stopd ?_)); (fail_if_success (with_reducible refine stopp ?_)); refine Ks rfl ?_))))
theorem Qzo (h:Deal n k S) (hm:Marks ms) {row:Rw} (hr:RowM ms row):Tr (Qd1 [.ref n,row.tup,.lst (ms.map .str)] S) λv S'=>(∃ r,v=r.tup/\RowM ms r)/\Left n k S S':=by
 have lm:=hm.len
 refine Qos [some (.ref n),some row.tup,some (.lst (ms.map .str)),none] rfl rfl ?_
 cases hr with
 | @step zk zo zt a hk ho ht ha =>
  walk_at "Z0"
  refine Ks (a:=.int 5) (S':=S) rfl ?_
  walk_at "Z1"
  refine dw h (by decide) (by decide) λi S1 hi L1=>?_
  have hi4:i=0\/i=1\/i=2\/i=3:=by omega
  rcases hi4 with rfl | rfl | rfl | rfl
  ·walk_at "Z1"
   refine pk (xs:=KIN.map .str) L1.deal (by decide) (by decide) λv S2 hv L2=>?_
   obtain ⟨zv,hv2,rfl⟩:=List.mem_map.mp hv
   walk_at "Z1"
   exact ⟨⟨.step zv zo zt a,rfl,.step (Qcr.mpr hv2) ho ht ha⟩,L1.trans L2⟩
  ·walk_at "Z1"
   refine pk L1.deal hm.ne2 hm.len2 λv S2 hv L2=>?_
   obtain ⟨zv,hv2,rfl⟩:=List.mem_map.mp hv
   walk_at "Z1"
   exact ⟨⟨.step zk zv zt a,rfl,.step hk (hm.old hv2) ht ha⟩,L1.trans L2⟩
  ·walk_at "Z1"
   refine pk L1.deal hm.ne2 hm.len2 λv S2 hv L2=>?_
   obtain ⟨zv,hv2,rfl⟩:=List.mem_map.mp hv
   walk_at "Z1"
   exact ⟨⟨.step zk zo zv a,rfl,.step hk ho (hm.new hv2) ha⟩,L1.trans L2⟩
  ·walk_at "Z1"
   refine dw L1.deal (by decide) (by decide) λj S2 hj L2=>?_
   walk_at "Z1"
   exact ⟨⟨.step zk zo zt (j-1),rfl,.step hk ho ht (Qkz (by omega) (by omega))⟩,L1.trans L2⟩
 | @join zx zy zt a hx hy ht ha =>
  walk_at "Z0"
  refine Ks (a:=.int 5) (S':=S) rfl ?_
  walk_at "Z1"
  refine dw h (by decide) (by decide) λi S1 hi L1=>?_
  have hi4:i=0\/i=1\/i=2\/i=3:=by omega
  rcases hi4 with rfl | rfl | rfl | rfl
  ·walk_at "Z1"
   refine pk L1.deal hm.ne2 hm.len2 λv S2 hv L2=>?_
   obtain ⟨zv,hv2,rfl⟩:=List.mem_map.mp hv
   walk_at "Z1"
   exact ⟨⟨.join zv zy zt a,rfl,.join (hm.old hv2) hy ht ha⟩,L1.trans L2⟩
  ·walk_at "Z1"
   refine pk L1.deal hm.ne2 hm.len2 λv S2 hv L2=>?_
   obtain ⟨zv,hv2,rfl⟩:=List.mem_map.mp hv
   walk_at "Z1"
   exact ⟨⟨.join zx zv zt a,rfl,.join hx (hm.old hv2) ht ha⟩,L1.trans L2⟩
  ·walk_at "Z1"
   refine pk L1.deal hm.ne2 hm.len2 λv S2 hv L2=>?_
   obtain ⟨zv,hv2,rfl⟩:=List.mem_map.mp hv
   walk_at "Z1"
   exact ⟨⟨.join zx zy zv a,rfl,.join hx hy (hm.newJ hv2) ha⟩,L1.trans L2⟩
  ·walk_at "Z1"
   refine dw L1.deal (by decide) (by decide) λj S2 hj L2=>?_
   walk_at "Z1"
   exact ⟨⟨.join zx zy zt (j-1),rfl,.join hx hy ht (Qkz (by omega) (by omega))⟩,L1.trans L2⟩
 | @part zo zl zr a b ho hl hr ha hb =>
  walk_at "Z0"
  refine Ks (a:=.int 6) (S':=S) rfl ?_
  walk_at "Z1"
  refine dw h (by decide) (by decide) λi S1 hi L1=>?_
  have hi4:i=0\/i=1\/i=2\/i=3\/i=4:=by omega
  rcases hi4 with rfl | rfl | rfl | rfl | rfl
  ·walk_at "Z1"
   refine pk L1.deal hm.ne2 hm.len2 λv S2 hv L2=>?_
   obtain ⟨zv,hv2,rfl⟩:=List.mem_map.mp hv
   walk_at "Z1"
   exact ⟨⟨.part zv zl zr a b,rfl,.part (hm.old hv2) hl hr ha hb⟩,L1.trans L2⟩
  ·walk_at "Z1"
   refine pk L1.deal hm.ne2 hm.len2 λv S2 hv L2=>?_
   obtain ⟨zv,hv2,rfl⟩:=List.mem_map.mp hv
   walk_at "Z1"
   exact ⟨⟨.part zo zv zr a b,rfl,.part ho (hm.new hv2) hr ha hb⟩,L1.trans L2⟩
  ·walk_at "Z1"
   refine pk L1.deal hm.ne2 hm.len2 λv S2 hv L2=>?_
   obtain ⟨zv,hv2,rfl⟩:=List.mem_map.mp hv
   walk_at "Z1"
   exact ⟨⟨.part zo zl zv a b,rfl,.part ho hl (hm.new hv2) ha hb⟩,L1.trans L2⟩
  ·walk_at "Z1"
   refine dw L1.deal (by decide) (by decide) λj S2 hj L2=>?_
   walk_at "Z1"
   exact ⟨⟨.part zo zl zr (j-1) b,rfl,.part ho hl hr (Qkz (by omega) (by omega)) hb⟩,L1.trans L2⟩
  ·walk_at "Z1"
   refine dw L1.deal (by decide) (by decide) λj S2 hj L2=>?_
   walk_at "Z1"
   exact ⟨⟨.part zo zl zr a (j-1),rfl,.part ho hl hr ha (Qkz (by omega) (by omega))⟩,L1.trans L2⟩
end
theorem extR {e:ME} {d:Jo} {xs ys:List W} {i:Nat} (h0:Jm d i=some (.ref 0)) (he:e d (S3 xs)=.ok (.lst ys) (S3 xs)) (hl:xs.length+ys.length<=900):JX (JT (m1 Qeg) (Ja i) (Jd e Jb)) d (S3 xs)=.ok (.nx d) (S3 (xs++ys)):=by
 have h1:m1 Qeg (.ref 0) [.lst ys] (S3 xs)=.ok .non (S3 (xs++ys)):=by
  show (if Nat.ble (xs.length+ys.length) Jy then _ else _)=_
  rw [Qip hl]
  rfl
 exact Qwc ((mtLR (x:=.ref 0) (JM h0) rfl (aC he aN)).trans h1)
theorem Qlb {D:Option W->Jo} {i:Nat} {body:MS} {f:T->List W} (hD:∀ a x,Jz (D a) i (some x)=D (some x)):∀ (l:List T) (xs:List W) (a:Option W),(∀ z∈l,∀ xs:List W,xs.length+(f z).length<=900->body (D (some (.str z))) (S3 xs)=.ok (.nx (D (some (.str z)))) (S3 (xs++f z)))->xs.length+(l.flatMap f).length<=900->∃ a',YW [] (.nm i) body (l.map .str) (D a) (S3 xs)=.ok (.nx (D a')) (S3 (xs++l.flatMap f))
 | [],xs,a,_,_=>⟨a,by simp [YW,Ky]⟩
 | z::t,xs,a,h,hl=>by
  rw [List.flatMap_cons,List.length_append] at hl
  obtain ⟨a',ih⟩:=Qlb hD t (xs++f z) (some (.str z)) (λy hy=>h y (List.mem_cons_of_mem _ hy)) (by rw [List.length_append]; omega)
  refine ⟨a',(Qwb (d1:=D (some (.str z))) ?_ (h z (List.mem_cons_self ..) xs (by omega))).trans (ih.trans ?_)⟩
  ·show some (Jz (D a) i (some (.str z)))=_
   rw [hD]
  ·rw [List.flatMap_cons,List.append_assoc]
def grA (ms cs:List T) (f k:T):List Rw:=(ms.filter λm=>!JW m cs).map λm=>.step k m f 1
def grB (cs:List T) (q k:T):List Rw:=cs.map λm=>.step k m q (-1)
def grC (cs:List T) (m:T):List Rw:=cs.map λo=>.join m o Ub (-1)
def grD (ms cs:List T):List Rw:=(ms.filter λm=>!JW m cs).map λm=>.join m Uc Uf 0
def grE (cs:List T):List Rw:=cs.map λm=>.part m Ua Ua 0 1
def good (ms cs:List T) (q f:T):List Rw:=(([Ud,Ue]:List T).flatMap (grA ms cs f)++([[110,111],Ug]:List T).flatMap (grB cs q)++cs.flatMap (grC cs)++grD ms cs)++grE cs
theorem Qrg {α β:Type} {f:α->List β} {n:Nat}:∀ l:List α,(∀ z∈l,(f z).length<=n)->(l.flatMap f).length<=l.length*n
 | [],_=>by simp
 | z::t,h=>by
  rw [List.flatMap_cons,List.length_append,List.length_cons,Nat.add_mul,Nat.one_mul]
  have:=h z (List.mem_cons_self ..)
  have:=Qrg t λy hy=>h y (List.mem_cons_of_mem _ hy)
  omega
theorem Qml {α β γ:Type} {f:α->List β} {g:β->γ}:∀ l:List α,(l.flatMap λz=>(f z).map g)=(l.flatMap f).map g
 | []=>rfl
 | z::t=>by rw [List.flatMap_cons,List.flatMap_cons,Qml t,List.map_append]
section
variable {ms cs:List T} {q f:T} {tm tc:List T}
theorem Qv9 (hm:ms=q::tm) (hc:cs=f::tc) (lm:ms.length<=13) (lc:cs.length<=13) (S:Store):Jj Qbi [.lst (ms.map .str),.lst (cs.map .str)] S=.ok (.lst ((good ms cs q f).map Rw.tup)) S:=by
 have la:∀ k,(grA ms cs f k).length<=13:=λk=>by unfold grA; rw [List.length_map]; exact Nat.le_trans (List.length_filter_le ..) lm
 have lb:∀ k,(grB cs q k).length<=13:=λk=>by unfold grB; rw [List.length_map]; exact lc
 have lcc:∀ k,(grC cs k).length<=13:=λk=>by unfold grC; rw [List.length_map]; exact lc
 have ld:(grD ms cs).length<=13:=by unfold grD; rw [List.length_map]; exact Nat.le_trans (List.length_filter_le ..) lm
 have le:(grE cs).length<=13:=by unfold grE; rw [List.length_map]; exact lc
 have l1:(([Ud,Ue]:List T).flatMap (grA ms cs f)).length<=26:=Qrg _ λz _=>la z
 have l2:(([[110,111],Ug]:List T).flatMap (grB cs q)).length<=26:=Qrg _ λz _=>lb z
 have l3:(cs.flatMap (grC cs)).length<=169:=Nat.le_trans (Qrg _ λz _=>lcc z) (by have:=Nat.mul_le_mul_right 13 lc; omega)
 have L1:(([Ud,Ue]:List T).flatMap λk=>(grA ms cs f k).map Rw.tup).length<=26:=by rw [Qml,List.length_map]; exact l1
 have L2:(([[110,111],Ug]:List T).flatMap λk=>(grB cs q k).map Rw.tup).length<=26:=by rw [Qml,List.length_map]; exact l2
 have L3:(cs.flatMap λk=>(grC cs k).map Rw.tup).length<=169:=by rw [Qml,List.length_map]; exact l3
 let E:Option W->Option W->Option W->Jo:=λa b c=>[some (.lst (ms.map .str)),some (.lst (cs.map .str)),some (.str q),some (.str f),some (.ref 0),a,b,c]
 have hin:∀ z S,Qfs (.str z) (.lst (cs.map .str)) S=.ok (.bl (!JW z cs)) S:=λz S=>by
  have:=JQ.mem (S:=S) (w:=.lst (cs.map .str)) (Or.inl rfl) (z:=z)
  simp [Qfs,this,bW]
 have im:∀ a b c S,Ji (Ja 0) (E a b c) S=.ok (ms.map .str,[]) S:=λ_ _ _ _=>rfl
 have ic:∀ a b c S,Ji (Ja 1) (E a b c) S=.ok (cs.map .str,[]) S:=λ_ _ _ _=>rfl
 have s1:Qdj [some (.lst (ms.map .str)),some (.lst (cs.map .str)),none,none,none,none,none,none] E0=.ok (.nx (E none none none)) (S3 []):=by
  have x1:=JQ.ix0 (S:=E0) (w:=.lst (ms.map .str)) (x:=.str q) (xs:=tm.map .str) (Or.inl (by rw [hm]; rfl))
  have x2:=JQ.ix0 (S:=E0) (w:=.lst (cs.map .str)) (x:=.str f) (xs:=tc.map .str) (Or.inl (by rw [hc]; rfl))
  simp [Qdj,E,Jx,Jt,Jd,Jb,Jc,Ja,Jm,eC,Out.bind,x1,x2,Qfc,Jy,JG,Xa,Jz,E0,S3,Store.new] at x1 x2 ⊢
 have s2:∃ a,Qfh (E none none none) (S3 [])=.ok (.nx (E a none none)) (S3 (([Ud,Ue]:List T).flatMap λk=>(grA ms cs f k).map Rw.tup)):=by
  obtain ⟨a',h⟩:=Qlb (D:=λa=>E a none none) (i:=5) (body:=Qde) (f:=λk=>(grA ms cs f k).map Rw.tup) (λ_ _=>rfl) [Ud,Ue] [] none (λz hz xs hx=>by
   refine extR rfl ?_ hx
   have p:=Qdl (S:=S3 xs) (i:=6) (own:=[6]) (it:=Ji (Ja 0)) (c:=Mir.tB (Jc Qfs (Ja 6) (Ja 1))) (e:=Jt (Jd (eC (.str Uk)) (Jd (Ja 5) (Jd (Ja 6) (Jd (Ja 3) (Jd (eC (.int 1)) Jb)))))) (d:=E (some (.str z)) none none) (l:=ms) (p:=λm=>!JW m cs) (g:=W.str) (f:=λm=>(Rw.step z m f 1).tup) (im _ _ _ _) (Nat.le_trans lm (by decide)) (λm hm=>by
    simp [E,Mir.tB,Jc,Ja,JV,Jz,Jm,Out.bind,hin]) (λm hm _=>by
    simp [E,Jt,Jd,Jb,eC,Ja,JV,Jz,Jm,Out.bind,Jy,Rw.tup])
   rw [show (grA ms cs f z).map Rw.tup=(ms.filter λm=>!JW m cs).map λm=>(Rw.step z m f 1).tup by simp [grA,Function.comp_def]]
   exact p) (by simpa using Nat.le_trans L1 (by decide))
  exact ⟨a',by rw [List.nil_append] at h; exact ffor rfl h⟩
 obtain ⟨a5,s2⟩:=s2
 have s3:∃ a,Qfg (E a5 none none) (S3 (([Ud,Ue]:List T).flatMap λk=>(grA ms cs f k).map Rw.tup))=.ok (.nx (E a none none)) (S3 ((([Ud,Ue]:List T).flatMap λk=>(grA ms cs f k).map Rw.tup)++([[110,111],Ug]:List T).flatMap λk=>(grB cs q k).map Rw.tup)):=by
  obtain ⟨a',h⟩:=Qlb (D:=λa=>E a none none) (i:=5) (body:=Qdd) (f:=λk=>(grB cs q k).map Rw.tup) (λ_ _=>rfl) [[110,111],Ug] (([Ud,Ue]:List T).flatMap λk=>(grA ms cs f k).map Rw.tup) a5 (λz hz xs hx=>by
   refine extR rfl ?_ hx
   have p:=Qdl (S:=S3 xs) (i:=6) (own:=[6]) (it:=Ji (Ja 1)) (c:=Mir.tYes) (e:=Jt (Jd (eC (.str Uk)) (Jd (Ja 5) (Jd (Ja 6) (Jd (Ja 2) (Jd (Jc Qhx (eC (.int 0)) (eC (.int 1))) Jb)))))) (d:=E (some (.str z)) none none) (l:=cs) (p:=λ_=>true) (g:=W.str) (f:=λm=>(Rw.step z m q (-1)).tup) (ic _ _ _ _) (Nat.le_trans lc (by decide)) (λm hm=>rfl) (λm hm _=>by
    simp [E,Jt,Jd,Jb,eC,Ja,Jc,Qhx,i2,JV,Jz,Jm,Out.bind,Jy,Rw.tup])
   rw [List.filter_eq_self.mpr (by simp)] at p
   rw [show (grB cs q z).map Rw.tup=cs.map λm=>(Rw.step z m q (-1)).tup by simp [grB,Function.comp_def]]
   exact p) (by omega)
  exact ⟨a',ffor rfl h⟩
 obtain ⟨b5,s3⟩:=s3
 have s4:∃ a,Qff (E b5 none none) (S3 ((([Ud,Ue]:List T).flatMap λk=>(grA ms cs f k).map Rw.tup)++([[110,111],Ug]:List T).flatMap λk=>(grB cs q k).map Rw.tup))=.ok (.nx (E b5 a none)) (S3 ((([Ud,Ue]:List T).flatMap λk=>(grA ms cs f k).map Rw.tup)++(([[110,111],Ug]:List T).flatMap λk=>(grB cs q k).map Rw.tup)++cs.flatMap λk=>(grC cs k).map Rw.tup)):=by
  obtain ⟨a',h⟩:=Qlb (D:=λa=>E b5 a none) (i:=6) (body:=Qdc) (f:=λk=>(grC cs k).map Rw.tup) (λ_ _=>rfl) cs ((([Ud,Ue]:List T).flatMap λk=>(grA ms cs f k).map Rw.tup)++([[110,111],Ug]:List T).flatMap λk=>(grB cs q k).map Rw.tup) none (λz hz xs hx=>by
   refine extR rfl ?_ hx
   have p:=Qdl (S:=S3 xs) (i:=7) (own:=[7]) (it:=Ji (Ja 1)) (c:=Mir.tYes) (e:=Jt (Jd (eC (.str Uh)) (Jd (Ja 6) (Jd (Ja 7) (Jd (eC (.str Ub)) (Jd (Jc Qhx (eC (.int 0)) (eC (.int 1))) Jb)))))) (d:=E b5 (some (.str z)) none) (l:=cs) (p:=λ_=>true) (g:=W.str) (f:=λm=>(Rw.join z m Ub (-1)).tup) (ic _ _ _ _) (Nat.le_trans lc (by decide)) (λm hm=>rfl) (λm hm _=>by
    simp [E,Jt,Jd,Jb,eC,Ja,Jc,Qhx,i2,JV,Jz,Jm,Out.bind,Jy,Rw.tup])
   rw [List.filter_eq_self.mpr (by simp)] at p
   rw [show (grC cs z).map Rw.tup=cs.map λm=>(Rw.join z m Ub (-1)).tup by simp [grC,Function.comp_def]]
   exact p) (by rw [List.length_append]; omega)
  exact ⟨a',ffor (ic _ _ _ _) h⟩
 obtain ⟨b6,s4⟩:=s4
 generalize hX:(([Ud,Ue]:List T).flatMap λk=>(grA ms cs f k).map Rw.tup)++(([[110,111],Ug]:List T).flatMap λk=>(grB cs q k).map Rw.tup)++(cs.flatMap λk=>(grC cs k).map Rw.tup)=X at s4
 have lX:X.length<=221:=by rw [<- hX,List.length_append,List.length_append]; omega
 have s5:Qfe (E b5 b6 none) (S3 X)=.ok (.nx (E b5 b6 none)) (S3 (X++(grD ms cs).map Rw.tup)):=by
  refine extR rfl ?_ (by rw [List.length_map]; omega)
  have p:=Qdl (S:=S3 X) (i:=6) (own:=[6]) (it:=Ji (Ja 0)) (c:=Mir.tB (Jc Qfs (Ja 6) (Ja 1))) (e:=Jt (Jd (eC (.str Uh)) (Jd (Ja 6) (Jd (eC (.str Uc)) (Jd (eC (.str Uf)) (Jd (eC (.int 0)) Jb)))))) (d:=E b5 b6 none) (l:=ms) (p:=λm=>!JW m cs) (g:=W.str) (f:=λm=>(Rw.join m Uc Uf 0).tup) (im _ _ _ _) (Nat.le_trans lm (by decide)) (λm hm=>by
    simp [E,Mir.tB,Jc,Ja,JV,Jz,Jm,Out.bind,hin]) (λm hm _=>by
    simp [E,Jt,Jd,Jb,eC,Ja,JV,Jz,Jm,Out.bind,Jy,Rw.tup])
  rw [show (grD ms cs).map Rw.tup=(ms.filter λm=>!JW m cs).map λm=>(Rw.join m Uc Uf 0).tup by simp [grD,Function.comp_def]]
  exact p
 have s6:Qfd (E b5 b6 none) (S3 (X++(grD ms cs).map Rw.tup))=.ok (.rt (.lst (X++(grD ms cs).map Rw.tup++(grE cs).map Rw.tup))) (S3 (X++(grD ms cs).map Rw.tup)):=by
  have p:=Qdl (S:=S3 (X++(grD ms cs).map Rw.tup)) (i:=6) (own:=[6]) (it:=Ji (Ja 1)) (c:=Mir.tYes) (e:=Jt (Jd (eC (.str Un)) (Jd (Ja 6) (Jd (eC (.str Ua)) (Jd (eC (.str Ua)) (Jd (eC (.int 0)) (Jd (eC (.int 1)) Jb))))))) (d:=E b5 b6 none) (l:=cs) (p:=λ_=>true) (g:=W.str) (f:=λm=>(Rw.part m Ua Ua 0 1).tup) (ic _ _ _ _) (Nat.le_trans lc (by decide)) (λm hm=>rfl) (λm hm _=>by
    simp [E,Jt,Jd,Jb,eC,Ja,JV,Jz,Jm,Out.bind,Jy,Rw.tup])
  rw [List.filter_eq_self.mpr (by simp)] at p
  have e:(cs.map λm=>(Rw.part m Ua Ua 0 1).tup)=(grE cs).map Rw.tup:=by simp [grE,Function.comp_def]
  rw [e] at p
  have ad:JL (.ref 0) (.lst ((grE cs).map Rw.tup)) (S3 (X++(grD ms cs).map Rw.tup))=.ok (.lst (X++(grD ms cs).map Rw.tup++(grE cs).map Rw.tup)) (S3 (X++(grD ms cs).map Rw.tup)):=by
   show (if Nat.ble ((X++(grD ms cs).map Rw.tup).length+((grE cs).map Rw.tup).length) Jy then _ else _)=_
   rw [Qip (by simp only [List.length_append,List.length_map]; omega)]
   rfl
  exact retR ((Yn (JM rfl) p).trans ad)
 have fin:X++(grD ms cs).map Rw.tup++(grE cs).map Rw.tup=(good ms cs q f).map Rw.tup:=by
  rw [<- hX,Qml,Qml,Qml]
  simp only [good,List.map_append]
 rw [fin] at s6
 refine Qdp (S':=S3 (X++(grD ms cs).map Rw.tup)) (by simp [Jq,K8,J9]) ?_ (by simp [K8,Qq5]) S
 rw [Qk2]
 exact Qmz rfl (Y8 s1 (Y8 s2 (Y8 s3 (Y8 s4 (Y8 s5 s6)))))
end
def NAM:List T:=[[110,111,110,101],[105,110],[111,117,116],[97],[97,98],[122,122,122,122],Ud,[108,97,116,101],Uh,[98],[119,111,114,100],[110,111],[99,117,116]]
theorem Qtg:∀ {ys:List W},(∀ y∈ys,∃ z,y=.str z)->∃ ms:List T,ys=ms.map .str
 | [],_=>⟨[],rfl⟩
 | y::t,h=>by
  obtain ⟨z,rfl⟩:=h y (List.mem_cons_self ..)
  obtain ⟨ms,rfl⟩:=Qtg (ys:=t) λx hx=>h x (List.mem_cons_of_mem _ hx)
  exact ⟨z::ms,rfl⟩
def unS:W->T
 | .str z=>z
 | _=>[]
theorem Qmb {l:List T} {ys:List W} (p:(l.map W.str).Perm ys):∃ ms,ys=ms.map .str/\l.Perm ms:=by
 obtain ⟨ms,rfl⟩:=Qtg (ys:=ys) λy hy=>by
  obtain ⟨z,_,rfl⟩:=List.mem_map.mp (p.mem_iff.mpr hy)
  exact ⟨z,rfl⟩
 refine ⟨ms,rfl,?_⟩
 have:=p.map unS
 simpa [List.map_map,Function.comp_def,unS] using this
section
variable {n k:Nat} {S:Store}
local macro_rules | `(tactic| walk_at "Z0")=>`(tactic| (repeat (first | (with_reducible first | refine Qcb ?_ | refine Qd4 ?_ | refine Qjy ?_ | refine Qnq ?_ | refine Qop ?_ | refine Qqj ?_ | refine Qlm ?_ | refine Ye ?_ | refine Qc5 ?_ | refine tr_un ?_ | refine KR ?_ | refine Qcc ?_ | refine Qb5 ?_ | refine Qoo ?_ | refine Qnn ?_ | refine tr_tOr ?_ | refine tr_tNot ?_ | refine Qli ?_ | refine Qro ?_ | refine tr_mtS ?_ | refine Qlj ?_ | refine Qll ?_ | refine Qlk ?_ | refine Qqi ?_ | refine tr_lcM ?_ | refine Qm4 ?_ | refine Qrq ?_ | refine Qlh ?_ | refine Qoq ?_ | refine Qno ?_ | refine Qrp ?_ | refine tr_fmt ?_ | refine tr_and ?_ | refine tr_or ?_ | refine tr_not ?_ | refine tr_iSeq ?_ | refine Qln ?_ | refine tr_fld ?_ | refine Qnp ?_ | refine Qor ?_) | refine Yc rfl ?_ | dsimp only [Bool.false_eq_true,if_true,if_false])))
theorem Qvy (h:Deal n k S) {c:Nat} (h1:1<=c) (h2:c<=13):Tr (Qdf [.ref n,.int c] S) λv S'=>∃ ms,v=.lst (ms.map .str)/\Marks ms/\ms.length=c/\Deal n k S'/\Keep n k S S'/\∀ m∈ms,m∈NAM:=by
 refine Qos [some (.ref n),some (.int c),none] rfl rfl ?_
 walk_at "Z0"
 refine ⟨by show 13<=Jy; decide,?_⟩
 walk_at "Z0"
 rw [Qv0]
 refine (Qvz (xs:=NAM.map .str) hdr h (by decide) (by decide)).imp ?_
 rintro v S' ⟨ys,rfl,p,D,K,_⟩
 obtain ⟨ns,rfl,pn⟩:=Qmb p
 walk_at "Z0"
 have lp:ns.length=13:=pn.length_eq.symm
 refine ⟨_,rfl,?_⟩
 refine Ks (show sl (.lst (ns.map .str)) none (some (c:Int)) S'=.ok (.lst (cut (ns.map .str) none (some (c:Int)))) S' from rfl) ?_
 have ec:cut (ns.map W.str) none (some (c:Int))=(ns.take c).map .str:=by
  have e1:¬((c:Int)<0):=by omega
  have e2:min (c:Int).toNat 13=c:=by omega
  unfold cut sIx
  simp [lp,e1,e2,List.map_take]
 rw [ec]
 refine ⟨ns.take c,rfl,⟨?_,λm hm=>?_,?_,?_⟩,?_,D,K,λm hm=>pn.mem_iff.mpr (List.mem_of_mem_take hm)⟩
 ·intro e
  have:=congrArg List.length e
  rw [List.length_take,lp] at this
  simp at this
  omega
 ·exact (by decide:∀ m∈NAM,isNm m=true) m (pn.mem_iff.mpr (List.mem_of_mem_take hm))
 ·rw [List.length_take]; omega
 ·exact ((pn.nodup_iff).mp (by decide)).sublist (List.take_sublist ..)
 ·rw [List.length_take]; omega
theorem Qsh {l c:List T} (h:c.Sublist l) (hn:l.Nodup):l.filter (JW · c)=c:=by
 induction h with
 | slnil=>rfl
 | @cons c l a h ih =>
  rw [List.nodup_cons] at hn
  have:JW a c=false:=by
   cases q:JW a c with
   | false=>rfl
   | true=>exact absurd (h.subset (Qcr.mp q)) hn.1
  rw [List.filter_cons,this]
  exact ih hn.2
 | @cons_cons c l a h ih =>
  rw [List.nodup_cons] at hn
  have:JW a (a::c)=true:=Qcr.mpr (List.mem_cons_self ..)
  rw [List.filter_cons,this,if_pos rfl]
  congr 1
  rw [<- ih hn.2]
  refine List.filter_congr λz hz=>?_
  rw [ih hn.2]
  have:z≠a:=λe=>hn.1 (e ▸ hz)
  rw [Bool.eq_iff_iff,Qcr,Qcr,List.mem_cons]
  exact ⟨λh=>h.resolve_left this,Or.inr⟩
theorem Qtl (h:Deal n k S) {own:List Nat} {it:MI} {i:Nat} {c:Int} {d:Jo} {l:List T} (hd:Jm (JV d own) 0=some (.ref n)) (h0:i≠0) (hi:i<(JV d own).length) (hc:0<c) (hc2:c<1073741824) (hit:it d S=.ok (l.map .str,[]) S) (hl:l.length<=900) :
  Tr (JZ own it (.nm i) (Mir.tB (Jc opGt (Jg Yy (Jd (Ja 0) (Jd (eC (.int c)) Jb))) (eC (.int 0)))) (Ja i) d S) λv S'=>∃ cs:List T,v=.lst (cs.map .str)/\cs.Sublist l/\Left n k S S':=by
 refine Qqi (Qln (Ks hit ⟨Nat.le_trans (by simpa using hl) (show 900<=Jy by decide),?_⟩))
 refine Tr.imp (Qv3 (Q:=λacc S1=>∃ cs:List T,acc=cs.map .str/\cs.Sublist l/\Left n k S S1) (λrest acc S1=>(∃ dn rs cs:List T,rest=rs.map .str/\l=dn++rs/\acc=cs.map .str/\cs.Sublist dn)/\Left n k S S1) ?_ ?_ (l.map .str) [] S ⟨⟨[],l,[],rfl,rfl,rfl,.slnil⟩,h,rfl,λ_ _ _=>rfl⟩) ?_
 ·rintro x r acc S1 ⟨⟨dn,rs,cs,e1,e2,e3,e4⟩,L⟩
  cases rs with
  | nil=>cases e1
  | cons z rs =>
   rw [List.map_cons] at e1
   injection e1 with e1 e1'
   subst e1 e1' e3
   have g0:Jm (Jz (JV d own) i (some (.str z))) 0=some (.ref n):=by
    have:∀ (d:Jo) (i:Nat) (x:Option W),i≠0->Jm (Jz d i x) 0=Jm d 0:=by
     intro d i x hi
     cases d with
     | nil=>cases i <;> rfl
     | cons y t=>cases i with
      | zero=>exact absurd rfl hi
      | succ i=>rfl
    rw [this _ _ _ h0,hd]
   have gi:Jm (Jz (JV d own) i (some (.str z))) i=some (.str z):=Qre _ _ _ hi
   refine ⟨rfl,_,rfl,?_⟩
   refine Qoo (Qc5 (Qb5 (KR (Yc g0 (KR (Ye (Qcc ?_)))))))
   refine dw L.deal hc hc2 λj S2 hj L2=>?_
   refine Ye ?_
   have L3:=L.trans L2
   by_cases hq:0<j
   ·refine Ks (a:=.bl true) (S':=S2) (by show Out.ok (W.bl (decide ((0:Int)<(j:Int)))) S2=_; rw [decide_eq_true (by omega)]) ⟨true,rfl,Qnp ?_⟩
    refine Yc gi ?_
    exact ⟨⟨dn++[z],rs,cs++[z],rfl,by simp [e2],by simp,e4.append (List.Sublist.refl _)⟩,L3⟩
   ·refine Ks (a:=.bl false) (S':=S2) (by show Out.ok (W.bl (decide ((0:Int)<(j:Int)))) S2=_; rw [decide_eq_false (by omega)]) ⟨false,rfl,Qor ?_⟩
    exact ⟨⟨dn++[z],rs,cs,rfl,by simp [e2],rfl,e4.trans (List.sublist_append_left ..)⟩,L3⟩
 ·rintro acc S1 ⟨⟨dn,rs,cs,e1,e2,e3,e4⟩,L⟩
  have:rs=[]:=by
   cases rs with
   | nil=>rfl
   | cons=>cases e1
  subst this
  exact ⟨rfl,cs,e3,by rw [e2]; simpa using e4,L⟩
 ·rintro v S1 ⟨cs,e,h1,L⟩
  exact ⟨cs,by rw [<- e]; simp,h1,L⟩
end
theorem Quu {α:Type} {l:List α} {a b:Option Int} {x:α} (h:x∈cut l a b):x∈l:=List.mem_of_mem_drop (List.mem_of_mem_take h)
theorem lenA {α:Type} (l:List α) (j:Nat):(cut l none (some (j:Int))).length=min j l.length:=by
 have e:¬((j:Int)<0):=by omega
 simp only [cut,sIx,e,if_false,List.drop_zero,Nat.sub_zero,List.length_take,Int.toNat_natCast]
 omega
theorem lenB {α:Type} (l:List α) (j:Nat):(cut l (some (j:Int)) none).length=l.length-j:=by
 have e:¬((j:Int)<0):=by omega
 simp only [cut,sIx,e,if_false,List.length_take,List.length_drop,Int.toNat_natCast]
 omega
theorem QA7 {α:Type} (l:List α) (j:Nat):(cut l (some ((j:Int)+1)) none).length=l.length-(j+1):=lenB l (j+1)
theorem lenC {α:Type} (l:List α) (j:Nat):(cut l (some (j:Int)) (some ((j:Int)+1))).length<=1:=by
 have e:¬((j:Int)<0):=by omega
 have e2:¬((j:Int)+1<0):=by omega
 have e3:((j:Int)+1).toNat=j+1:=by omega
 simp only [cut,sIx,e,e2,e3,if_false,List.length_take,List.length_drop,Int.toNat_natCast]
 omega
def Qdv (ms:List T) (rs:List Rw):Prop:=∀ r∈rs,RowM ms r
theorem Qdv.cut {ms:List T} {rs:List Rw} (h:Qdv ms rs) (a b:Option Int):Qdv ms (cut rs a b):=λr hr=>h r (Quu hr)
theorem Qdv.app {ms:List T} {a b:List Rw} (h:Qdv ms a) (k:Qdv ms b):Qdv ms (a++b):=λr hr=>(List.mem_append.mp hr).elim (h r) (k r)
theorem QBg {ms cs:List T} {q f:T} (hm:Marks ms) (hq:q∈ms) (hf:f∈ms) (hc:∀ c∈cs,c∈ms):Qdv ms (good ms cs q f):=by
 have any:Old ms Uc:=⟨rfl,λh=>absurd h (by decide)⟩
 have same:New ms Ua:=⟨rfl,λh=>absurd h (by decide)⟩
 have one:NewJ ms Ub:=⟨rfl,λh=>absurd h (by decide)⟩
 have other:NewJ ms Uf:=⟨rfl,λh=>absurd h (by decide)⟩
 intro r hr
 unfold good at hr
 rcases List.mem_append.mp hr with hr | hr
 ·rcases List.mem_append.mp hr with hr | hr
  ·rcases List.mem_append.mp hr with hr | hr
   ·rcases List.mem_append.mp hr with hr | hr
    ·obtain ⟨w,hw,hr⟩:=List.mem_flatMap.mp hr
     obtain ⟨m,h1,rfl⟩:=List.mem_map.mp hr
     have hk:JW w KIN=true:=(by decide:∀ w∈([Ud,Ue]:List T),JW w KIN=true) w hw
     exact .step hk (hm.old (List.mem_filter.mp h1).1) (hm.new hf) (by decide)
    ·obtain ⟨w,hw,hr⟩:=List.mem_flatMap.mp hr
     obtain ⟨m,h1,rfl⟩:=List.mem_map.mp hr
     have hk:JW w KIN=true:=(by decide:∀ w∈([[110,111],Ug]:List T),JW w KIN=true) w hw
     exact .step hk (hm.old (hc m h1)) (hm.new hq) (by decide)
   ·obtain ⟨w,hw,hr⟩:=List.mem_flatMap.mp hr
    obtain ⟨m,h1,rfl⟩:=List.mem_map.mp hr
    exact .join (hm.old (hc w hw)) (hm.old (hc m h1)) one (by decide)
  ·obtain ⟨m,h1,rfl⟩:=List.mem_map.mp hr
   exact .join (hm.old (List.mem_filter.mp h1).1) any other (by decide)
 ·obtain ⟨m,h1,rfl⟩:=List.mem_map.mp hr
  exact .part (hm.old (hc m h1)) same same (by decide) (by decide)
theorem Qwa {ms cs:List T} {q f:T} (lm:ms.length<=13) (lc:cs.length<=13):(good ms cs q f).length<=300:=by
 have la:∀ k,(grA ms cs f k).length<=13:=λk=>by unfold grA; rw [List.length_map]; exact Nat.le_trans (List.length_filter_le ..) lm
 have lb:∀ k,(grB cs q k).length<=13:=λk=>by unfold grB; rw [List.length_map]; exact lc
 have lcc:∀ k,(grC cs k).length<=13:=λk=>by unfold grC; rw [List.length_map]; exact lc
 have ld:(grD ms cs).length<=13:=by unfold grD; rw [List.length_map]; exact Nat.le_trans (List.length_filter_le ..) lm
 have le:(grE cs).length<=13:=by unfold grE; rw [List.length_map]; exact lc
 have l1:(([Ud,Ue]:List T).flatMap (grA ms cs f)).length<=26:=Qrg _ λz _=>la z
 have l2:(([[110,111],Ug]:List T).flatMap (grB cs q)).length<=26:=Qrg _ λz _=>lb z
 have l3:(cs.flatMap (grC cs)).length<=169:=Nat.le_trans (Qrg _ λz _=>lcc z) (by have:=Nat.mul_le_mul_right 13 lc; omega)
 unfold good
 rw [List.length_append,List.length_append,List.length_append,List.length_append]
 omega
section
variable {n k:Nat} {S:Store} {ms:List T}
theorem Qtv {tg:Tg} {e:ME} {d:Jo} {xs:List W} {p:W->Prop} (h:Deal n k S) (hp:∀ x∈xs,p x) (he:∀ x S1,p x->Left n k S S1->∃ d1,JG tg x d=some d1/\Tr (e d1 S1) λv S2=>(∃ r,v=Rw.tup r/\RowM ms r)/\Left n k S1 S2) :
  Tr (Kh [] tg Mir.tYes e d xs S) λv S'=>∃ rs,v=rs.map Rw.tup/\Qdv ms rs/\rs.length=xs.length/\Left n k S S':=by
 refine Tr.imp (Qv3 (Q:=λacc S1=>∃ rs,acc=rs.map Rw.tup/\Qdv ms rs/\rs.length=xs.length/\Left n k S S1) (λrest acc S1=>(∀ x∈rest,p x)/\∃ rs,acc=rs.map Rw.tup/\Qdv ms rs/\rs.length+rest.length=xs.length/\Left n k S S1) ?_ ?_ xs [] S ⟨hp,[],rfl,λ_ h=>absurd h (by simp),by simp,h,rfl,λ_ _ _=>rfl⟩) ?_
 ·rintro x r acc S1 ⟨hq,rs,rfl,h1,h2,L⟩
  obtain ⟨d1,e1,t1⟩:=he x S1 (hq x (List.mem_cons_self ..)) L
  refine ⟨rfl,d1,e1,Qli (Qnp (t1.imp ?_))⟩
  rintro v S2 ⟨⟨r1,rfl,hr1⟩,L2⟩
  refine ⟨λy hy=>hq y (List.mem_cons_of_mem _ hy),rs++[r1],by simp,h1.app (λz hz=>by rw [List.mem_singleton.mp hz]; exact hr1),?_,L.trans L2⟩
  simp only [List.length_append,List.length_cons,List.length_nil] at h2 ⊢
  omega
 ·rintro acc S1 ⟨_,rs,h1,h2,h3,L⟩
  exact ⟨rfl,rs,h1,h2,by simpa using h3,L⟩
 ·rintro v S1 ⟨rs,e,h1,h2,L⟩
  exact ⟨rs,by rw [<- e]; simp,h1,h2,L⟩
theorem Qyh {own:List Nat} {it:MI} {tg:Tg} {e:ME} {d:Jo} {xs:List W} {p:W->Prop} (h:Deal n k S) (hit:it d S=.ok (xs,[]) S) (hl:xs.length<=900) (hp:∀ x∈xs,p x) (he:∀ x S1,p x->Left n k S S1->∃ d1,JG tg x (JV d own)=some d1/\Tr (e d1 S1) λv S2=>(∃ r,v=Rw.tup r/\RowM ms r)/\Left n k S1 S2) :
  Tr (JZ own it tg Mir.tYes e d S) λv S'=>∃ rs,v=.lst (rs.map Rw.tup)/\Qdv ms rs/\rs.length=xs.length/\Left n k S S':=by
 refine Qqi (Qln (Ks hit ⟨Nat.le_trans hl (show 900<=Jy by decide),?_⟩))
 refine (Qtv h hp he).imp ?_
 rintro v S1 ⟨rs,rfl,h1,h2,L⟩
 exact ⟨rs,rfl,h1,h2,L⟩
def DK (n:Nat) (c:W) (ms:List T) (cs ks:W) (rs:List Rw) (a b e:Option W):Jo:=[some (.ref n),some c,some (.lst (ms.map .str)),some cs,none,some ks,none,some (.lst (rs.map Rw.tup)),a,b,e,none]
theorem Qgr {rs:List Rw} {a b:Option Int} {S:Store}:sl (.lst (rs.map Rw.tup)) a b S=.ok (.lst ((cut rs a b).map Rw.tup)) S:=by
 show Out.ok (W.lst (cut (rs.map Rw.tup) a b)) S=_
 rw [Qrj]
theorem Qjx {a b:List Rw} {S:Store} (h:a.length+b.length<=900):JL (.lst (a.map Rw.tup)) (.lst (b.map Rw.tup)) S=.ok (.lst ((a++b).map Rw.tup)) S:=by
 rw [Qkb (by rw [List.length_map,List.length_map]; exact Nat.le_trans h (by decide)),List.map_append]
theorem body5 (h:Deal n k S) (hm:Marks ms) {c cs ks:W} {rs:List Rw} (hr:Qdv ms rs) (hl:rs.length<=400) {a b e:Option W}:Tr (Qcw (DK n c ms cs ks rs a b e) S) λf S'=>∃ rs' b' e',f=.nx (DK n c ms cs ks rs' a b' e')/\Qdv ms rs'/\rs'.length<=rs.length+1/\Deal n k S':=by
 have len:∀ x y,(cut rs x y).length<=rs.length:=λx y=>Quv ..
 refine Qcb ?_
 refine Qjy (Qlh (KR (Qb5 (KR (Yc rfl (KR (Ye (Qcc ?_))))))))
 refine dw h (by decide) (by decide) λi S1 hi L1=>?_
 refine KR (Qb5 (KR (Yc rfl (KR (Qc5 (Qb5 (KR (Yc rfl (Qcc ?_)))))))))
 have el:Yi [.lst (rs.map Rw.tup)] S1=.ok (.int rs.length) S1:=by simp [Yi,fLen,KJ]
 refine Ks el (Ye (Ks (a:=.int (rs.length+1)) (S':=S1) rfl (Qcc ?_)))
 refine dw L1.deal (by omega) (by omega) λj S2 hj L2=>?_
 refine Qcc ⟨by show 2<=Jy; decide,_,_,rfl,?_⟩
 have L:=L1.trans L2
 show Tr (Qg3 (DK n c ms cs ks rs a (some (.int i)) (some (.int j))) S2) _
 refine Qqj (Qoo (Qc5 (Yc rfl (Ye (Ks Qmn ⟨_,rfl,?_⟩)))))
 by_cases h0:(i:Int)=0
 ·rw [decide_eq_true h0]
  refine Qnp ?_
  refine Qd4 (Qc5 (Qlj (Yc rfl (Qll (Qlk (Yc rfl ⟨_,rfl,Ks Qgr ?_⟩))))))
  refine Qlj (Yc rfl (Qlk (Qc5 (Yc rfl (Ye (Ks (a:=.int (j+1)) (S':=S2) rfl ⟨_,rfl,Qll (Ks Qgr ?_)⟩))))))
  have t1:=lenA rs j
  have t2:=QA7 rs j
  refine Ks (Qjx (by omega)) ?_
  refine ⟨_,_,_,rfl,(hr.cut _ _).app (hr.cut _ _),?_,L.deal⟩
  rw [List.length_append]
  omega
 rw [decide_eq_false h0]
 refine Qor ?_
 refine Qqj (Qoo (Qc5 (Yc rfl (Ye (Ks Qmn ⟨_,rfl,?_⟩)))))
 by_cases h1:(i:Int)=1
 ·rw [decide_eq_true h1]
  refine Qnp ?_
  refine Qd4 (Qc5 (Qc5 (Qlj (Yc rfl (Qll (Qlk (Yc rfl ⟨_,rfl,Ks Qgr ?_⟩)))))))
  have it:Ji (Yk sl (Ja 7) (K9 (Ja 10)) (K9 (Jc JL (Ja 10) (eC (.int 1))))) (DK n c ms cs ks rs a (some (.int i)) (some (.int j))) S2=.ok ((cut rs (some (j:Int)) (some ((j:Int)+1))).map Rw.tup,[]) S2:=by
   have:Yk sl (Ja 7) (K9 (Ja 10)) (K9 (Jc JL (Ja 10) (eC (.int 1)))) (DK n c ms cs ks rs a (some (.int i)) (some (.int j))) S2=.ok (.lst ((cut rs (some (j:Int)) (some ((j:Int)+1))).map Rw.tup)) S2:=by
    rw [<- Qgr]
    rfl
   simp only [Ji,this,Out.bind,Ym,Kw]
  have t1:=lenA rs j
  have t2:=QA7 rs j
  have t3:=lenC rs j
  refine (Qyh (p:=λx=>∃ r,x=Rw.tup r/\RowM ms r) (ms:=ms) L.deal it (by rw [List.length_map]; omega) (λx hx=>by
   obtain ⟨r,h1,rfl⟩:=List.mem_map.mp hx
   exact ⟨r,rfl,hr r (Quu h1)⟩) (λx S3 hx L3=>by
   obtain ⟨r,rfl,h1⟩:=hx
   refine ⟨_,rfl,?_⟩
   refine Qb5 (KR (Yc rfl (KR (Yc rfl (KR (Yc rfl (Qcc ?_)))))))
   exact Qzo L3.deal hm h1)).imp ?_
  rintro v S3 ⟨r3,rfl,hr3,l3,L3⟩
  rw [List.length_map] at l3
  refine Ks (Qjx (by omega)) ?_
  refine Qlj (Yc rfl (Qlk (Qc5 (Yc rfl (Ye (Ks (a:=.int (j+1)) (S':=S3) rfl ⟨_,rfl,Qll (Ks Qgr ?_)⟩))))))
  refine Ks (Qjx (by rw [List.length_append]; omega)) ?_
  refine ⟨_,_,_,rfl,((hr.cut _ _).app hr3).app (hr.cut _ _),?_,L3.deal⟩
  rw [List.length_append,List.length_append]
  omega
 rw [decide_eq_false h1]
 refine Qor ?_
 refine Qd4 (Qc5 (Qc5 (Qlj (Yc rfl (Qll (Qlk (Yc rfl ⟨_,rfl,Ks Qgr ?_⟩)))))))
 refine Qoq (KR (Qb5 (KR (Yc rfl (KR (Yc rfl (Qcc ?_)))))))
 have t1:=lenA rs j
 have t2:=lenB rs j
 refine (Qnj L.deal hm).imp ?_
 rintro v S3 ⟨⟨r,rfl,hr1⟩,L3⟩
 refine Qcc ⟨by show 1<=Jy; decide,?_⟩
 refine Ks (Qjx (b:=[r]) (by simp; omega)) ?_
 refine Qlj (Yc rfl (Qlk (Yc rfl ⟨_,rfl,Qll (Ks Qgr ?_)⟩)))
 refine Ks (Qjx (by simp; omega)) ?_
 refine ⟨_,_,_,rfl,((hr.cut _ _).app (λz hz=>by rw [List.mem_singleton.mp hz]; exact hr1)).app (hr.cut _ _),?_,L3.deal⟩
 rw [List.length_append,List.length_append,List.length_cons,List.length_nil]
 omega
theorem QA5 (hm:Marks ms) {c cs ks:W}:∀ (ts:List W) (rs:List Rw) (a b e:Option W) (S:Store),Deal n k S->Qdv ms rs->rs.length+ts.length<=400->Tr (YW [] (.nm 8) Qcw ts (DK n c ms cs ks rs a b e) S) λf S'=>∃ rs' a' b' e',f=.nx (DK n c ms cs ks rs' a' b' e')/\Qdv ms rs'/\rs'.length<=400/\Deal n k S'
 | [],rs,a,b,e,S,h,hr,hl=>⟨rs,a,b,e,rfl,hr,by simpa using hl,h⟩
 | t::ts,rs,a,b,e,S,h,hr,hl=>by
  show Tr ((Qcw (DK n c ms cs ks rs (some t) b e) S).bind _) _
  rw [List.length_cons] at hl
  refine Tr.bind ((body5 h hm hr (by omega)).imp ?_)
  rintro f S1 ⟨rs',b',e',rfl,h1,h2,h3⟩
  exact QA5 hm ts rs' (some t) b' e' S1 h3 h1 (by omega)
theorem Qj2:∀ (n:Nat) (lo:Int),(Qea lo n).length=n
 | 0,_=>rfl
 | n+1,lo=>by simp [Qea,Qj2 n]
theorem ifT {t:MT} {a b:ME} {d:Jo} {S S1:Store} (h:t d S=.ok true S1):eIf t a b d S=a d S1:=by
 show (t d S).bind _=_
 rw [h]
 rfl
theorem t_ne {d:Jo} {S:Store} {w:W} (h:Jm d 3=some w) (hn:Ku w (.lst []) S=.ok (.bl true) S):Mir.tB (Jc Ku (Ja 3) (Ju Jb)) d S=.ok true S:=by simp [Mir.tB,Jc,Ja,h,Ju,Jb,Out.bind,hn]
theorem Qwl (h:Deal n k S) {c:Nat} (hc:2<=c) (hc2:c<=13):Tr (Qce [.ref n,.int c] S) λv S'=>∃ b,v=tupB b/\Good b/\b.marks.length<=c/\b.rows.length<=16/\Marks b.marks/\Qdv b.marks b.rows/\(2<=b.marks.length/\∀ m∈b.marks,m∈NAM)/\Deal n k S':=by
 rw [Qrc]
 refine Qos [some (.ref n),some (.int c),none,none,none,none,none,none,none,none,none,none] rfl rfl ?_
 refine Qcb (Qd4 (Qb5 (KR (Yc rfl (KR (Qc5 (Ye (Qb5 (KR (Yc rfl (KR (Qc5 (Yc rfl (Ye (Ks (a:=.int ((c:Int)-1)) (S':=S) rfl (Qcc ?_))))))))))))))))
 refine dw h (by omega) (by omega) λi S1 hi L1=>?_
 have e2:(2:Int)+(i:Int)=((2+i:Nat):Int):=by omega
 refine Ks (a:=.int ((2+i:Nat):Int)) (S':=S1) (by rw [<- e2]; rfl) (Qcc ?_)
 refine (Qvy L1.deal (by omega) (by omega)).imp ?_
 rintro _ S2 ⟨ms,rfl,hm,lm,D2,_,hnam⟩
 obtain ⟨q,tm,e⟩:∃ q tm,ms=q::tm:=by
  cases ms with
  | nil=>exact absurd rfl hm.ne
  | cons q tm=>exact ⟨q,tm,rfl⟩
 have hd:=hm.nd
 have l13:=hm.len
 refine Qcb (Qd4 ?_)
 refine (Qtl (n:=n) (k:=k) (l:=tm) D2 rfl (by decide) (Nat.le_of_ble_eq_true rfl) (by decide) (by decide) ?_ (by rw [e] at l13; simp at l13; omega)).imp ?_
 ·have ec:cut (ms.map W.str) (some 1) none=tm.map .str:=by
   rw [Qrj,e]
   congr 1
   have:min (1:Int).toNat (tm.length+1)=1:=by omega
   simp [cut,sIx,this]
  have:Yk sl (Ja 2) (K9 (eC (.int 1))) YJ (Jz [some (.ref n),some (.int c),none,none,none,none,none,none,none,none,none,none] 2 (some (.lst (ms.map .str)))) S2=.ok (.lst (tm.map .str)) S2:=by
   rw [<- ec]
   rfl
  simp only [Ji,this,Out.bind,Ym,Kw]
 rintro _ S3 ⟨cs,rfl,hcs,L3⟩
 refine Qcb (Qd4 ?_)
 refine (Qtl (n:=n) (k:=k) (l:=YT) L3.deal rfl (by decide) (Nat.le_of_ble_eq_true rfl) (by decide) (by decide) rfl (by decide)).imp ?_
 rintro _ S4 ⟨ks,rfl,hks,L4⟩
 have csub:∀ z∈cs,z∈ms:=λz hz=>by rw [e]; exact List.mem_cons_of_mem _ (hcs.subset hz)
 have lcs:cs.length<=13:=by
  have:=hcs.length_le
  rw [e] at l13
  simp at l13
  omega
 have ndm:(q::tm).Nodup:=by rw [<- e]; exact hd
 have ndc:cs.Nodup:=(List.nodup_cons.mp ndm).2.sublist hcs
 have goodb:∀ rs:List Rw,Qdv ms rs->rs.length<=500->Good ⟨ms,cs,ks,rs⟩:=λrs h1 h2=>by
  refine ⟨⟨hm.ne,hm.sub,hm.nd,Nat.le_trans hm.len (by decide),csub,ndc,λz hz=>?_,λz hz=>hks.subset hz,Qpj.sublist hks,λr hr=>(h1 r hr).ok,λr hr=>(h1 r hr).nms,h2⟩,?_⟩
  ·show ms.head?≠some z
   rw [e]
   intro hh
   injection hh with hh
   exact (List.nodup_cons.mp ndm).1 (hh ▸ hcs.subset hz)
  ·show Bk.mk ms (ms.filter (JW · cs)) (YT.filter (JW · ks)) rs=_
   rw [Qsh (l:=ms) (by rw [e]; exact hcs.cons q) hd,Qsh hks Qpj]
 refine Qcb (Qd4 ?_)
 have t4:Tr (eIf (Mir.tB (Jc Ku (Ja 3) (Ju Jb))) (Jg (Jj Qbi) (Jd (Ja 2) (Jd (Ja 3) Jb))) (Ju Jb) [some (.ref n),some (.int c),some (.lst (ms.map .str)),some (.lst (cs.map .str)),none,some (.lst (ks.map .str)),none,none,none,none,none,none] S4) λv S'=>∃ rs,v=.lst (rs.map Rw.tup)/\Qdv ms rs/\rs.length<=300/\S'=S4:=by
  cases hcc:cs with
  | nil=>exact ⟨[],rfl,λ_ h=>absurd h (by simp),by simp,rfl⟩
  | cons f tc =>
   have ne:Ku (.lst ((f::tc).map .str)) (.lst []) S4=.ok (.bl true) S4:=by
    have h1:Kz 30 (.lst ((f::tc).map W.str))=true:=by
     show J5 29 _=true
     exact Qoa _
    have h2:Yx (.lst ((f::tc).map W.str)) (.lst [])=some false:=by simp [Yx,eqWs]
    simp only [Ku,rd,eqD,h1,h2]
    simp [Kz,J5,bW]
   have gr:=Qv9 (ms:=ms) (cs:=f::tc) e rfl l13 (by rw [<- hcc]; exact lcs) S4
   have x1:(Mir.tB (Jc Ku (Ja 3) (Ju Jb))) [some (.ref n),some (.int c),some (.lst (ms.map .str)),some (.lst ((f::tc).map .str)),none,some (.lst (ks.map .str)),none,none,none,none,none,none] S4=.ok true S4:=t_ne rfl ne
   have x2:eIf (Mir.tB (Jc Ku (Ja 3) (Ju Jb))) (Jg (Jj Qbi) (Jd (Ja 2) (Jd (Ja 3) Jb))) (Ju Jb) [some (.ref n),some (.int c),some (.lst (ms.map .str)),some (.lst ((f::tc).map .str)),none,some (.lst (ks.map .str)),none,none,none,none,none,none] S4=.ok (.lst ((good ms (f::tc) q f).map Rw.tup)) S4:=by
    rw [ifT x1]
    exact (Qdi (aC (JM rfl) (aC (JM rfl) aN))).trans gr
   refine Ks x2 ⟨_,rfl,?_,?_,rfl⟩
   ·rw [hcc] at csub
    exact QBg hm (by rw [e]; exact List.mem_cons_self ..) (csub f (List.mem_cons_self ..)) csub
   ·exact Qwa l13 (by rw [<- hcc]; exact lcs)
 refine t4.imp ?_
 rintro _ S5 ⟨rs,rfl,hrs,lrs,rfl⟩
 have D4:=L4.deal
 refine Qcb (Qm4 ?_)
 refine Tr.bind (Qb5 (KR (Yc rfl (KR (Ye (Qcc ?_))))))
 refine dw D4 (by decide) (by decide) λj S6 hj L6=>?_
 have hj2:Qj6 (j:Int)=true:=by simp [Qj6]; omega
 show Tr (if Qj6 (j:Int) then Out.ok (Qea 0 (j:Int).toNat,[]) S6 else Out.bad) _
 rw [hj2]
 refine Qxt ?_
 refine (QA5 hm (c:=.int c) (cs:=.lst (cs.map .str)) (ks:=.lst (ks.map .str)) (Qea 0 (j:Int).toNat) rs none none none S6 L6.deal hrs (by rw [Qj2]; omega)).imp ?_
 rintro _ S7 ⟨r7,a7,b7,e7,rfl,h7,l7,D7⟩
 show Tr (Jh Qky Qew (DK n (.int c) ms (.lst (cs.map .str)) (.lst (ks.map .str)) r7 a7 b7 e7) S7) _
 have fin:∀ (rs:List Rw) (a b e:Option W) (S':Store),Qdv ms rs->Deal n k S'->Tr (Qew (DK n (.int c) ms (.lst (cs.map .str)) (.lst (ks.map .str)) rs a b e) S') λf S1=>match f with | .nx _=>False | .rt w=>(∃ b,w=tupB b/\Good b/\b.marks.length<=c/\b.rows.length<=16/\Marks b.marks/\Qdv b.marks b.rows/\(2<=b.marks.length/\∀ m∈b.marks,m∈NAM)/\Deal n k S1) | _=>False:=by
  intro rs a b e S' h1 h2
  refine Qop (Qlh (KR (Yc rfl (KR (Yc rfl (KR (Yc rfl (KR (Qlj (Yc rfl (Qll (Qlk (Ye ⟨_,rfl,Ks Qgr (Qcc ⟨by show 4<=Jy; decide,?_⟩)⟩)))))))))))))
  have l16:=lenA rs 16
  have l16:(cut rs none (some 16)).length<=16:=by rw [show (16:Int)=((16:Nat):Int) from rfl,l16]; omega
  exact ⟨⟨ms,cs,ks,cut rs none (some 16)⟩,rfl,goodb _ (h1.cut _ _) (by omega),by show ms.length<=c; omega,l16,hm,h1.cut _ _,⟨by show 2<=ms.length; omega,hnam⟩,h2⟩
 have fin2:∀ (rs:List Rw) (a b e:Option W) (S':Store),Qdv ms rs->Deal n k S'->Tr (Qew (DK n (.int c) ms (.lst (cs.map .str)) (.lst (ks.map .str)) rs a b e) S') λf S1=>match f with | .nx _=>(∃ b,W.non=tupB b/\Good b/\b.marks.length<=c/\b.rows.length<=16/\Marks b.marks/\Qdv b.marks b.rows/\(2<=b.marks.length/\∀ m∈b.marks,m∈NAM)/\Deal n k S1) | .rt w=>(∃ b,w=tupB b/\Good b/\b.marks.length<=c/\b.rows.length<=16/\Marks b.marks/\Qdv b.marks b.rows/\(2<=b.marks.length/\∀ m∈b.marks,m∈NAM)/\Deal n k S1) | _=>False:=λrs a b e S' h1 h2=>(fin rs a b e S' h1 h2).imp λf S1 h=>by
   cases f with
   | nx d=>exact h.elim
   | rt w=>exact h
   | br d=>exact h.elim
   | ct d=>exact h.elim
 refine Qcb (Qqj (Qoo (Qc5 (Qb5 (KR (Yc rfl (KR (Ye (Qcc ?_)))))))))
 refine dw D7 (by decide) (by decide) λp S8 hp L8=>?_
 refine Ye (Ks Qmn ⟨_,rfl,?_⟩)
 by_cases hp0:(p:Int)=0
 ·rw [decide_eq_true hp0]
  refine Qnp (Qd4 ?_)
  refine Qqi (Qln ?_)
  refine Tr.bind (Qc5 (Ye (Qb5 (KR (Yc rfl (KR (Ye (Qcc ?_))))))))
  refine dw L8.deal (by decide) (by decide) λj2 S9 hj9 L9=>?_
  have e9:JL (.int 1) (.int (j2:Int)) S9=.ok (.int (1+(j2:Int))) S9:=rfl
  rw [e9]
  refine Qxt ?_
  have hj3:Qj6 (1+(j2:Int))=true:=by simp [Qj6]; omega
  simp only [hj3,if_true]
  refine Qxt ⟨by rw [Qj2]; exact Nat.le_trans (show (1+(j2:Int)).toNat<=900 by omega) (by decide),?_⟩
  refine (Qtv (ms:=ms) (p:=λ_=>True) L9.deal (λ_ _=>trivial) (λx Sa _ La=>⟨_,rfl,?_⟩)).imp ?_
  ·refine Qb5 (KR (Yc rfl (KR (Yc rfl (Qcc ?_)))))
   exact Qnj La.deal hm
  rintro v Sb ⟨r9,rfl,h9,_,L9b⟩
  exact fin2 r9 a7 b7 e7 Sb h9 L9b.deal
 ·rw [decide_eq_false hp0]
  refine Qor (Qlm ?_)
  exact fin2 r7 a7 b7 e7 S8 h7 L8.deal
theorem Qwm (h:Deal n k S) {c:Nat} (hc:2<=c) (hc2:c<=13):Tr (Qce [.ref n,.int c] S) λv S'=>∃ b,v=tupB b/\Good b/\b.marks.length<=c/\b.rows.length<=16/\Marks b.marks/\Qdv b.marks b.rows/\Deal n k S' :=
 (Qwl h hc hc2).imp λ_ _ ⟨b,e,g,l,r,m1,m2,_,D⟩=>⟨b,e,g,l,r,m1,m2,D⟩
theorem Qux (h:Deal n k S) {c:Nat} (hc:2<=c) (hc2:c<=13):Tr (Qce [.ref n,.int c] S) λv S'=>∃ b,v=tupB b/\Good b/\b.marks.length<=c/\b.rows.length<=16/\Deal n k S' :=
 (Qwm h hc hc2).imp λ_ _ ⟨b,e,g,l,r,_,_,D⟩=>⟨b,e,g,l,r,D⟩
end
theorem tB5 {a:ME} {x:Bool} {d:Jo} {S S1:Store} (h:a d S=.ok (.bl x) S1):Mir.tB a d S=.ok x S1:=by
 show (Out.bind _ _)=_
 rw [h]
 rfl
theorem if5 {t:MT} {a b:MS} {x:Bool} {d:Jo} {S S1:Store} (h:t d S=.ok x S1):Yl t a b d S=(if x then a d S1 else b d S1):=by
 show (Out.bind _ _)=_
 rw [h]
 rfl
theorem tOr5 {p q:MT} {d:Jo} {S:Store} {x y:Bool} (h:p d S=.ok x S) (k:q d S=.ok y S):Mir.tOr p q d S=.ok (x || y) S:=by
 show (Out.bind _ _)=_
 rw [h]
 cases x
 ·exact k
 ·rfl
theorem Qz8 {p:MT} {d:Jo} {S S1:Store} {x:Bool} (h:p d S=.ok x S1):Mir.tNot p d S=.ok (!x) S1:=by
 show (Out.bind (p d S) _)=_
 rw [h]
 rfl
theorem for5 {gd:Gd} {tg:Tg} {body:MS} {t:W} {ts:List W} {d d1 d2:Jo} {S S1:Store} (hs:Ky S gd=true) (ht:JG tg t d=some d1) (h:body d1 S=.ok (.nx d2) S1):YW gd tg body (t::ts) d S=YW gd tg body ts d2 S1:=by
 show (if Ky S gd then match JG tg t d with | none=>Out.bad | some d1=>(body d1 S).bind λf S1=>match f with | .nx d2=>YW gd tg body ts d2 S1 | .ct d2=>YW gd tg body ts d2 S1 | .br d2=>.ok (.nx d2) S1 | .rt w=>.ok (.rt w) S1 else .bad)=_
 rw [hs,ht]
 show (body d1 S).bind _=_
 rw [h]
 rfl
theorem QBi {gd:Gd} {tg:Tg} {body:MS} {d:Jo} {S:Store} (hs:Ky S gd=true):YW gd tg body [] d S=.ok (.nx d) S:=by
 show (if Ky S gd then Out.ok (Fl.nx d) S else .bad)=_
 rw [hs]
 rfl
theorem Qvd {it:MI} {tg:Tg} {b:MS} {d:Jo} {S S1:Store} {l:List W} {gd:Gd} (h:it d S=.ok (l,gd) S1):KY it tg b d S=YW gd tg b l d S1:=by
 show (it d S).bind _=_
 rw [h]
 rfl
theorem seq5 {p:Nat} {l:List W} {a:ME} {d:Jo} {S S1:Store} (ha:a d S=.ok (.ref p) S1) (h:S1.get p=some (.lst l)):Ji a d S=.ok (l,[.l p l]) S1:=by
 show (a d S).bind _=_
 rw [ha]
 show Kw (Ym S1 (.ref p)) S1=_
 have e:Ym S1 (.ref p)=some (l,[.l p l]):=by
  show (match S1.get p with | some (.lst xs)=>some (xs,[GE.l p xs]) | _=>none)=_
  rw [h]
 rw [e]
 rfl
theorem idx5 {p:Nat} {l:List W} {i:Nat} {w:W} {a c:ME} {d:Jo} {S:Store} (ha:a d S=.ok (.ref p) S) (hc:c d S=.ok (.int (i:Int)) S) (h:S.get p=some (.lst l)) (e:l[i]?=some w):Jc Jk a c d S=.ok w S:=by
 rw [Yn ha hc]
 show (match KJ S (.ref p) with | some xs=>Kw (atI xs (i:Int)) S | none=>.bad)=_
 have q:KJ S (.ref p)=some l:=by
  show (match S.get p with | some (.lst xs)=>some xs | _=>none)=_
  rw [h]
 rw [q]
 show Kw (atI l (i:Int)) S=_
 rw [Qoc (List.getElem?_eq_some_iff.mp e).1,e]
 rfl
theorem app5 {p:Nat} {l:List W} {w:W} {S:Store} (h:S.get p=some (.lst l)) (hl:l.length<=900):m1 Qbs (.ref p) [w] S=.ok .non (S.put p (.lst (l++[w]))):=by
 show (match S.get p with | some (.lst xs)=>if Nat.blt xs.length Jy then Out.ok W.non (S.put p (.lst (xs++[w]))) else .bad | _=>.bad)=_
 rw [h]
 show (if Nat.blt l.length Jy then Out.ok W.non (S.put p (.lst (l++[w]))) else .bad)=_
 have:Nat.blt l.length Jy=true:=Nat.ble_eq_true_of_le (Nat.le_trans (Nat.succ_le_succ hl) (by decide))
 rw [this]
 rfl
theorem isL5 {p:Nat} {l:List W} {S:Store} (h:S.get p=some (.lst l)):Mir.isL (.ref p) S=true:=by
 show (match S.get p with | some (.lst _)=>true | _=>false)=true
 rw [h]
theorem apx5 {p i:Nat} {l:List W} {w:W} {e:ME} {d:Jo} {S S1:Store} (hi:Jm d i=some (.ref p)) (h:S.get p=some (.lst l)) (he:e d S=.ok w S1) (h1:S1.get p=some (.lst l)) (hl:l.length<=900):JX (JT (m1 Qbs) (Ja i) (Jd e Jb)) d S=.ok (.nx d) (S1.put p (.lst (l++[w]))) :=
 Qwc ((mtLR (JM hi) (isL5 h) (aC he aN)).trans (app5 h1 hl))
theorem Qrn {α:Type} {D:α->Jo} {P:α->Store->Prop} {a c:MS} {d:Jo} {S:Store} {Q:Fl->Store->Prop} (h:Tr (a d S) λf S'=>∃ x,f=.nx (D x)/\P x S') (k:∀ x S',P x S'->Tr (c (D x) S') Q):Tr (Jh a c d S) Q:=by
 refine Qcb (h.imp ?_)
 rintro f S' ⟨x,rfl,p⟩
 exact k x S' p
theorem Qn1:∀ l:List T,Yt (l.map W.str)=true
 | []=>rfl
 | _::r=>by
  show (if Qen (W.str _) then Yt (r.map W.str) else false)=true
  rw [Qn1 r]
  rfl
theorem Qyt (r:Rw):Qen (Jr r)=true:=by
 cases r <;> (show (if Qen _ then _ else _)=true; simp only [Qen,Y0,Qn1,if_true])
theorem Qr4:∀ l:List Rw,Yt (l.map Jr)=true
 | []=>rfl
 | x::r=>by
  show (if Qen (Jr x) then Yt (r.map Jr) else false)=true
  rw [Qyt,Qr4 r]
  rfl
theorem Qvu (b:Bk):Qen (JP b)=true:=by
 unfold JP
 simp only [Qen,Y0,Qn1,Qr4,if_true]
theorem Qyj {f:MF} {xs ys:List W} {v:W} {S:Store} (e:xs.map (rd S)=ys) (h:Jj f ys S=.ok v S) (nl:Qen v=true):purV f xs S=.ok v S:=by
 subst e
 have h0:(if Jq (xs.map (rd S))=true then purO S (f (xs.map (rd S)) E0) else Out.bad)=.ok v S:=h
 show (if Jq (xs.map (rd S))=true then (match f (xs.map (rd S)) E0 with | .ok v _=>if (K8 v&&Qen v)=true then Out.ok v S else .bad | _=>.bad) else .bad)=_
 cases hn:Jq (xs.map (rd S)) with
 | false=>rw [hn] at h0; cases h0
 | true =>
  rw [hn] at h0
  have h1:purO S (f (xs.map (rd S)) E0)=.ok v S:=h0
  show (match f (xs.map (rd S)) E0 with | .ok v _=>if (K8 v&&Qen v)=true then Out.ok v S else .bad | _=>.bad)=_
  cases q:f (xs.map (rd S)) E0 with
  | bad=>rw [q] at h1; cases h1
  | err c fs z =>
   rw [q] at h1
   have h2:(if Ko fs=true then Out.err c fs S else .bad)=.ok v S:=h1
   split at h2 <;> cases h2
  | ok x z =>
   rw [q] at h1
   have h2:(if K8 x=true then Out.ok x S else .bad)=.ok v S:=h1
   cases hx:K8 x with
   | false=>rw [hx] at h2; cases h2
   | true =>
    rw [hx] at h2
    injection h2 with h3
    subst h3
    show (if (K8 x&&Qen x)=true then Out.ok x S else .bad)=_
    rw [hx,nl]
    rfl
theorem rd5 {p:Nat} {l:List W} {S:Store} (h:S.get p=some (.lst l)):rd S (.ref p)=.lst l:=by
 show (match S.get p with | some (.lst xs)=>W.lst xs | _=>W.ref p)=_
 rw [h]
def Qw2 (dr:MF):MF:=fnOf 2 4 (Jh (Jx (.tp [.nm 2,.nm 3]) (Jt (Jd (Jg Qf9 (Jd (Ja 1) Jb)) (Jd (Qfc Jb) Jb)))) (Jh (Qc3 (Mir.tB (Jc Ku (Ja 2) (Ju Jb))) (JX (JT (m1 Qbs) (Ja 3) (Jd (JT (m1 Qko) (Ja 2) (Jd (Jg dr (Jd (Ja 0) (Jd (Jg Yi (Jd (Ja 2) Jb)) Jb))) Jb)) Jb))) 1000) (Jv (Ja 3))))
theorem Qsv:Qbz=Qw2 Yy:=rfl
section
variable {n k:Nat} {S:Store}
theorem Qpm (h:Deal n k S) {xs:List W} (hl:xs.length<=900) (hd:J5 29 xs=true):Tr (Qbz [.ref n,.lst xs] S) λv S'=>∃ ys,v=.ref (S.next+1)/\xs.Perm ys/\S'.get (S.next+1)=some (.lst ys)/\Deal n k S'/\Keep n k S S'/\S'.next=S.next+2:=by
 rw [Qsv]
 unfold Qw2
 obtain ⟨zs,c,q1,q2,q3,q4,q5⟩:=h.ex
 have hn:=h.wf _ _ q1
 have hk:=h.wf _ _ q2
 refine Qos [some (.ref n),some (.lst xs),none,none] rfl rfl ?_
 have e1:Qf9 [.lst xs] S=.ok (.ref S.next) (S.new (.lst xs)):=by simp [Qf9,KJ]
 refine Qcb ?_
 refine Qjy (Qlh (KR (Qb5 (KR (Yc (w:=.lst xs) rfl (Qcc (Ks e1 ?_)))))))
 refine KR (Ks (a:=.ref (S.new (.lst xs)).next) (S':=(S.new (.lst xs)).new (.lst [])) rfl (Qcc ?_))
 refine ⟨by show 2<=Jy; decide,_,_,rfl,?_⟩
 have D2:Deal n k ((S.new (.lst xs)).new (.lst [])):=⟨h.ne,Qld (Qld h.wf),zs,c,(Y5 (by simp; omega)).trans ((Y5 (by omega)).trans q1),(Y5 (by simp; omega)).trans ((Y5 (by omega)).trans q2),q3,q4,q5⟩
 refine Qcb ?_
 refine (Qh1 (x1:=some (.lst xs)) hdr (a:=S.next) (b:=S.next+1) (by omega) 1000 xs [] _ (by omega) (by simp; omega) hd D2 (by omega) (by omega) (by omega) (by omega) ((Y5 (by simp)).trans Qej) Qej).imp ?_
 rintro fl S' ⟨rfl,f',p1,g1,D3,n3,k3⟩
 refine Ks (a:=.rt (.ref (S.next+1))) (S':=S') rfl ?_
 refine ⟨f',rfl,by simpa using p1,g1,D3,⟨?_,λm hm h1 h2=>?_⟩,?_⟩
 ·simp [n3]
  omega
 ·rw [k3 m h1 h2 (by omega) (by omega),Y5 (by simp; omega),Y5 (by omega)]
 ·simp [n3]
end
end G
namespace ML
open Mir MW BT
section
variable {α:Type} {d:Jo} {S:Store} {Q:W->Store->Prop} {QF:Fl->Store->Prop}
theorem Qur {β:Type} {g:β->W} {tg:Tg} {body:MS} {P:Jo->Store->Prop}:∀ (l:List β) (d:Jo) (S:Store),(∀ x∈l,∀ d S,P d S->∃ d1,JG tg (g x) d=some d1/\Tr (body d1 S) λf S'=>∃ d',f=.nx d'/\P d' S')->P d S->Tr (YW [] tg body (l.map g) d S) λf S'=>∃ d',f=.nx d'/\P d' S'
 | [],d,S,_,h=>⟨d,rfl,h⟩
 | x::t,d,S,h,k=>by
  obtain ⟨d1,e,h1⟩:=h x (List.mem_cons_self ..) d S k
  show Tr (if Ky S [] then match JG tg (g x) d with | none=>.bad | some d1=>(body d1 S).bind _ else .bad) _
  rw [e]
  refine Tr.bind (h1.imp ?_)
  rintro f S1 ⟨d2,rfl,k2⟩
  exact Qur t d2 S1 (λy hy=>h y (List.mem_cons_of_mem _ hy)) k2
end
end ML
namespace BT
open Mir MW ML
theorem Qsz:(YT.map W.str).Pairwise λa b=>leW a b=true:=by decide +kernel
theorem Qs0:∀ a∈YT,∀ b∈YT,alW (.str a) (.str b)=true:=by decide +kernel
end BT
namespace G
open Mir MW ML BT
section
variable {b:Bk} {S:Store}
theorem Qsq {r:Rw} (h:r.ok=true) (S:Store):Jj Qbl [r.tup] S=.ok (Jr r) S:=by
 have nr:K8 r.tup=true:=by cases r <;> simp [Rw.tup,K8,Jq]
 refine Qdp (S':=E0) (by show (if K8 r.tup=true then Jq [] else false)=true; rw [nr]; rfl) ?_ (Qr3 r) S
 rw [Qn4]
 let d0:Jo:=[some r.tup]
 cases r with
 | step k o t a =>
  have mk:Jg (Jj (Y6 1 Qco)) (Jd (Jc Jk (Ja 0) (eC (.int 1))) (Jd (Jc Jk (Ja 0) (eC (.int 2))) (Jd (Jc Jk (Ja 0) (eC (.int 3))) (Jd (Jc Jk (Ja 0) (eC (.int 4))) Jb)))) [some (Rw.step k o t a).tup] E0=.ok (Jr (.step k o t a)) E0:=(Qdi (xs:=[.str k,.str o,.str t,.int a]) (S1:=E0) rfl).trans (Qti h E0)
  have s1:Qdo [some (Rw.step k o t a).tup] E0=.ok (.rt (Jr (.step k o t a))) E0:=(if5 (x:=true) rfl).trans (retR mk)
  exact Qmz rfl (Qu9 s1)
 | join x y t a =>
  have mk:Jg (Jj (Y6 2 Qcq)) (Jd (Jc Jk (Ja 0) (eC (.int 1))) (Jd (Jc Jk (Ja 0) (eC (.int 2))) (Jd (Jc Jk (Ja 0) (eC (.int 3))) (Jd (Jc Jk (Ja 0) (eC (.int 4))) Jb)))) [some (Rw.join x y t a).tup] E0=.ok (Jr (.join x y t a)) E0:=(Qdi (xs:=[.str x,.str y,.str t,.int a]) (S1:=E0) rfl).trans (Quj h E0)
  have s1:Qdo [some (Rw.join x y t a).tup] E0=.ok (.nx [some (Rw.join x y t a).tup]) E0:=(if5 (x:=false) rfl).trans rfl
  have s2:Qe2 [some (Rw.join x y t a).tup] E0=.ok (.rt (Jr (.join x y t a))) E0:=(if5 (x:=true) rfl).trans (retR mk)
  exact Qmz rfl (Y8 s1 (Qu9 s2))
 | part o l q a c =>
  have mk:Jg (Jj (Y6 3 Qcp)) (Jd (Jc Jk (Ja 0) (eC (.int 1))) (Jd (Jc Jk (Ja 0) (eC (.int 2))) (Jd (Jc Jk (Ja 0) (eC (.int 3))) (Jd (Jc Jk (Ja 0) (eC (.int 4))) (Jd (Jc Jk (Ja 0) (eC (.int 5))) Jb))))) [some (Rw.part o l q a c).tup] E0=.ok (Jr (.part o l q a c)) E0:=(Qdi (xs:=[.str o,.str l,.str q,.int a,.int c]) (S1:=E0) rfl).trans (Qt1 h E0)
  have s1:Qdo [some (Rw.part o l q a c).tup] E0=.ok (.nx [some (Rw.part o l q a c).tup]) E0:=(if5 (x:=false) rfl).trans rfl
  have s2:Qe2 [some (Rw.part o l q a c).tup] E0=.ok (.nx [some (Rw.part o l q a c).tup]) E0:=(if5 (x:=false) rfl).trans rfl
  exact Qmz rfl (Y8 s1 (Y8 s2 (retR mk)))
theorem QBa {α:Type} {gd:Gd} {g:α->W} {f:α->W} {tg:Tg} {c:MT} {e:ME} {p:α->Bool} {D:α->Jo} (hs:Ky S gd=true):∀ (l:List α) (d:Jo),(∀ z∈l,JG tg (g z) d=some (D z))->(∀ z∈l,c (D z) S=.ok (p z) S)->(∀ z∈l,p z=true->e (D z) S=.ok (f z) S)->Kh gd tg c e d (l.map g) S=.ok ((l.filter p).map f) S
 | [],d,_,_,_=>by show (if Ky S gd then _ else _)=_; rw [hs]; rfl
 | x::r,d,h0,h1,h2=>by
  have i1:=QBa (f:=f) (p:=p) hs r d (λz hz=>h0 z (List.mem_cons_of_mem _ hz)) (λz hz=>h1 z (List.mem_cons_of_mem _ hz)) (λz hz=>h2 z (List.mem_cons_of_mem _ hz))
  have t1:=h0 x List.mem_cons_self
  have c1:=h1 x List.mem_cons_self
  rw [List.map_cons]
  show (if Ky S gd then (match JG tg (g x) d with | none=>Out.bad | some d1=>(c d1 S).bind _) else _)=_
  rw [hs,t1]
  show (c (D x) S).bind _=_
  rw [c1]
  cases q:p x with
  | false =>
   show Kh gd tg c e d (r.map g) S=_
   rw [i1,List.filter_cons,q]
   rfl
  | true =>
   show (e (D x) S).bind _=_
   rw [h2 x List.mem_cons_self q]
   show (Kh gd tg c e d (r.map g) S).bind _=_
   rw [i1,List.filter_cons,q]
   rfl
theorem lcL5 {α:Type} {gd:Gd} {g:α->W} {f:α->W} {tg:Tg} {own:List Nat} {it:MI} {c:MT} {e:ME} {d:Jo} {l:List α} {p:α->Bool} {D:α->Jo} (hs:Ky S gd=true) (hi:it d S=.ok (l.map g,gd) S) (hl:l.length<=900) (ht:∀ z∈l,JG tg (g z) (JV d own)=some (D z))
  (hc:∀ z∈l,c (D z) S=.ok (p z) S) (he:∀ z∈l,p z=true->e (D z) S=.ok (f z) S):lcL own it tg c e d S=.ok ((l.filter p).map f) S:=by
 have k:=QBa (g:=g) (f:=f) (tg:=tg) (c:=c) (e:=e) (p:=p) (D:=D) hs l (JV d own) ht hc he
 show (it d S).bind _=_
 rw [hi]
 show (if (l.map g).length.ble Jy=true then Kh gd tg c e (JV d own) (l.map g) S else Out.bad)=_
 rw [Nat.ble_eq_true_of_le (show (l.map g).length<=Jy by rw [List.length_map]; exact Nat.le_trans hl (by decide))]
 exact k
theorem eLc5 {own:List Nat} {it:MI} {tg:Tg} {c:MT} {e:ME} {d:Jo} {ys:List W} (h:lcL own it tg c e d S=.ok ys S):JZ own it tg c e d S=.ok (.lst ys) S:=by
 show (lcL own it tg c e d S).bind _=_
 rw [h]
 rfl
theorem eLcM5 {own:List Nat} {it:MI} {tg:Tg} {c:MT} {e:ME} {d:Jo} {ys:List W} (h:lcL own it tg c e d S=.ok ys S):eLcM own it tg c e d S=.ok (.ref S.next) (S.new (.lst ys)):=by
 show (lcL own it tg c e d S).bind _=_
 rw [h]
 rfl
theorem it5 {a:ME} {d:Jo} {l:List W} (h:a d S=.ok (.lst l) S):Ji a d S=.ok (l,[]) S:=by
 show (a d S).bind _=_
 rw [h]
 rfl
theorem Qrz {i j:Nat} {d:Jo} (D:Rw->Jo) (hi:Jm d i=some (.lst (b.rows.map Rw.tup))) (g:Good b) (ht:∀ r∈b.rows,JG (.nm j) r.tup (JV d [j])=some (D r)) (hv:∀ r,Jm (D r) j=some r.tup) :
  lcL [j] (Ji (Ja i)) (.nm j) Mir.tYes (Jg (Jj Qbl) (Jd (Ja j) Jb)) d S=.ok (b.rows.map Jr) S:=by
 have:=lcL5 (S:=S) (gd:=[]) (g:=Rw.tup) (f:=Jr) (tg:=.nm j) (own:=[j]) (it:=Ji (Ja i)) (c:=Mir.tYes) (e:=Jg (Jj Qbl) (Jd (Ja j) Jb)) (d:=d) (l:=b.rows) (p:=λ_=>true) (D:=D) rfl (it5 (JM hi)) (Nat.le_trans g.ok.rb (by decide)) ht (λ_ _=>rfl) λr hr _=>(Qdi (xs:=[r.tup]) (S1:=S) (aC (JM (hv r)) aN)).trans (Qsq (g.ok.rk r hr) S)
 rw [List.filter_eq_self.mpr (by simp)] at this
 exact this
theorem Qg1 (n:Nat):∀ l:List T,J5 n (l.map W.str)=true
 | []=>rfl
 | e::r=>by
  show (Kz n (.str e)&&J5 n (r.map W.str))=true
  rw [Qg1 n r]
  cases n <;> rfl
theorem sort5 (g:Good b) (S:Store):Qne [.lst (b.keeps.map .str)] S=.ok (.lst (b.keeps.map .str)) S:=by
 have ke:b.keeps=YT.filter (JW · b.keeps):=by
  have:=congrArg Bk.keeps g.of
  exact this.symm
 have sub:b.keeps.Sublist YT:=by
  have h:=List.filter_sublist (l:=YT) (p:=(JW · b.keeps))
  rw [<- ke] at h
  exact h
 have pw:(b.keeps.map W.str).Pairwise λa b=>leW a b=true:=Qsz.sublist (sub.map _)
 have srt:Qoy (b.keeps.map .str)=b.keeps.map .str:=by
  unfold Qoy
  exact List.mergeSort_of_pairwise pw
 have mem:∀ z∈b.keeps,z∈YT:=λz hz=>sub.subset hz
 have len:b.keeps.length<=5:=by
  have:=sub.length_le
  exact Nat.le_trans this (by decide)
 have ok:Qic (b.keeps.map .str)=true:=by
  unfold Qic
  rw [Bool.and_eq_true,Bool.and_eq_true,Bool.and_eq_true,Bool.or_eq_true]
  refine ⟨Qg1 29 _,?_,.inr ?_,?_⟩
  ·refine List.all_eq_true.mpr λa ha=>List.all_eq_true.mpr λc hc=>?_
   obtain ⟨x,hx,rfl⟩:=List.mem_map.mp ha
   obtain ⟨y,hy,rfl⟩:=List.mem_map.mp hc
   exact Qs0 x (mem x hx) y (mem y hy)
  ·refine List.all_eq_true.mpr λa ha=>?_
   obtain ⟨x,hx,rfl⟩:=List.mem_map.mp ha
   rfl
  ·rw [List.length_map]
   exact Nat.ble_eq_true_of_le (by omega)
 show (if Qic (b.keeps.map W.str) then Out.ok (W.lst (Qoy (b.keeps.map W.str))) S else .bad)=_
 rw [ok,srt]
 rfl
end
end G
namespace BT
open Mir MW ML
structure Shw5 (n c:Nat) (x:W):Prop where
 d:Kz n x=true
 s:shW x=true
 z:szW x<=c
theorem Qry {α:Type} {n c:Nat} {f:α->W}:∀ {l:List α},(∀ x∈l,Shw5 n c (f x))->J5 n (l.map f)=true/\shWs (l.map f)=true/\szWs (l.map f)<=l.length*(c+2)
 | [],_=>⟨rfl,rfl,Nat.zero_le _⟩
 | x::r,h=>by
  obtain ⟨h1,h2,h3⟩:=h x List.mem_cons_self
  obtain ⟨i1,i2,i3⟩:=Qry (l:=r) λy hy=>h y (List.mem_cons_of_mem _ hy)
  rw [List.map_cons,List.length_cons]
  refine ⟨?_,?_,?_⟩
  ·show (Kz n (f x)&&J5 n (r.map f))=true
   rw [h1,i1]
   rfl
  ·show (shW (f x)&&shWs (r.map f))=true
   rw [h2,i2]
   rfl
  ·show szW (f x)+2+szWs (r.map f)<=_
   rw [Nat.succ_mul]
   omega
theorem Shw5.tup {α:Type} {n c k:Nat} {f:α->W} {l:List α} (h:∀ x∈l,Shw5 n c (f x)) (hl:l.length<=k):Shw5 (n+1) (k*(c+2)+3) (.tup (l.map f)):=by
 obtain ⟨i1,i2,i3⟩:=Qry h
 refine ⟨i1,i2,?_⟩
 show szWs (l.map f)+3<=_
 have:=Nat.mul_le_mul_right (c+2) hl
 omega
theorem Qvc {n:Nat} {z:T} (h:∀ c∈z,c<128) (hl:z.length<=8):Shw5 n 82 (.str z):=⟨by cases n <;> rfl,by
 show okS z=true
 unfold okS
 have a:z.all (λc=>Nat.blt c 128)=true:=List.all_eq_true.mpr λc hc=>Nat.ble_eq_true_of_le (h c hc)
 rw [a]
 exact Nat.ble_eq_true_of_le (Nat.le_trans hl (by decide)),by
 show 10*z.length+2<=82
 omega⟩
end BT
namespace G
open Mir MW ML BT
section
variable {b c:Bk} {S:Store}
theorem ti5 (i:Nat) (w:W) (h:([.lst (b.marks.map .str),.lst (b.counted.map .str),.lst (b.keeps.map .str),.lst (b.rows.map Rw.tup)]:List W)[i]?=some w) {a:ME} {d:Jo} (ha:a d S=.ok (tupB b) S):Jc Jk a (eC (.int (i:Int))) d S=.ok w S:=by
 rw [Yn (y:=.int (i:Int)) ha rfl]
 show Kw (atI ([.lst (b.marks.map .str),.lst (b.counted.map .str),.lst (b.keeps.map .str),.lst (b.rows.map Rw.tup)]:List W) (i:Int)) S=_
 rw [Qoc (List.getElem?_eq_some_iff.mp h).1,h]
 rfl
theorem in5 {z:T} {l:List T} {S:Store}:J8 (.str z) (.lst (l.map .str)) S=.ok (.bl (JW z l)) S:=by
 have:=JQ.mem (S:=S) (w:=.lst (l.map .str)) (Or.inl rfl) (z:=z)
 simp [J8,this,bW]
theorem Qrr (g:Good b) (S:Store):Jj Qb1 [tupB b] S=.ok (tupB b) S:=by
 refine Qdp (S':=E0) (by simp [Jq,Qq6]) ?_ (Qq6 _) S
 rw [Qra]
 let d0:Jo:=[some (tupB b),none,none]
 have v0:∀ d:Jo,Jm d 0=some (tupB b)->Ja 0 d E0=.ok (tupB b) E0:=λd h=>JM h
 have c1:=lcL5 (S:=E0) (gd:=[]) (g:=W.str) (f:=W.str) (tg:=.nm 1) (own:=[1]) (it:=Ji (Jc Jk (Ja 0) (eC (.int 0)))) (c:=Mir.tB (Jc J8 (Ja 1) (Jc Jk (Ja 0) (eC (.int 1))))) (e:=Ja 1) (d:=d0) (l:=b.marks) (p:=(JW · b.counted)) (D:=λz=>[some (tupB b),some (.str z),none]) rfl (it5 (ti5 0 _ rfl (v0 d0 rfl))) (Nat.le_trans g.ok.mb (by decide)) (λ_ _=>rfl)
  (λz _=>tB5 ((Yn (x:=.str z) (y:=.lst (b.counted.map .str)) (JM rfl) (ti5 1 _ rfl (v0 _ rfl))).trans in5)) (λz _ _=>JM rfl)
 have ce:b.marks.filter (JW · b.counted)=b.counted:=congrArg Bk.counted g.of
 rw [ce] at c1
 have kl:b.keeps.length<=900:=by
  have:=congrArg Bk.keeps g.of
  have h:=List.length_filter_le (JW · b.keeps) YT
  have e:b.keeps.length=(YT.filter (JW · b.keeps)).length:=congrArg List.length this.symm
  rw [e]
  exact Nat.le_trans h (by decide)
 have c2:=lcL5 (S:=E0) (gd:=[]) (g:=W.str) (f:=W.str) (tg:=.nm 2) (own:=[2]) (it:=Ji (Jc Jk (Ja 0) (eC (.int 2)))) (c:=Mir.tYes) (e:=Jg fStr (Jd (Ja 2) Jb)) (d:=d0) (l:=b.keeps) (p:=λ_=>true) (D:=λz=>[some (tupB b),none,some (.str z)]) rfl (it5 (ti5 2 _ rfl (v0 d0 rfl))) kl (λ_ _=>rfl) (λ_ _=>rfl) (λz _ _=>(Qdi (xs:=[.str z]) (S1:=E0) (aC (JM rfl) aN)).trans rfl)
 rw [List.filter_eq_self.mpr (by simp)] at c2
 have c3:Jg Qne (Jd (JZ [2] (Ji (Jc Jk (Ja 0) (eC (.int 2)))) (.nm 2) Mir.tYes (Jg fStr (Jd (Ja 2) Jb))) Jb) d0 E0=.ok (.lst (b.keeps.map .str)) E0:=(Qdi (xs:=[.lst (b.keeps.map .str)]) (S1:=E0) (aC (eLc5 c2) aN)).trans (sort5 g E0)
 have i0:Jc Jk (Ja 0) (eC (.int 0)) d0 E0=.ok (.lst (b.marks.map .str)) E0:=ti5 0 _ rfl (v0 d0 rfl)
 have i3:Jc Jk (Ja 0) (eC (.int 3)) d0 E0=.ok (.lst (b.rows.map Rw.tup)) E0:=ti5 3 _ rfl (v0 d0 rfl)
 have as:=aC i0 (aC (eLc5 c1) (aC c3 (aC i3 (aN (d:=d0) (S:=E0)))))
 have tp:Jt (Jd (Jc Jk (Ja 0) (eC (.int 0))) (Jd (JZ [1] (Ji (Jc Jk (Ja 0) (eC (.int 0)))) (.nm 1) (Mir.tB (Jc J8 (Ja 1) (Jc Jk (Ja 0) (eC (.int 1))))) (Ja 1)) (Jd (Jg Qne (Jd (JZ [2] (Ji (Jc Jk (Ja 0) (eC (.int 2)))) (.nm 2) Mir.tYes (Jg fStr (Jd (Ja 2) Jb))) Jb)) (Jd (Jc Jk (Ja 0) (eC (.int 3))) Jb)))) d0 E0=.ok (tupB b) E0:=by
  show (Out.bind _ _)=_
  rw [as]
  rfl
 exact Qmz rfl (retR tp)
theorem neS5 {x:T} {S:Store}:Qdz sup KQ (.str x) (.str x) S=.ok (.bl false) S:=by
 show Out.ok (W.bl (!JH x x)) S=_
 rw [Qcu.mpr rfl]
 rfl
theorem neI5 {i:Int} {S:Store}:Qdz sup KQ (.int i) (.int i) S=.ok (.bl false) S:=by
 show Out.ok (W.bl (!decide (i=i))) S=_
 rw [decide_eq_true rfl]
 rfl
theorem neL5 {l:List T} {S:Store}:Qdz sup KQ (.lst (l.map .str)) (.lst (l.map .str)) S=.ok (.bl false) S:=by
 have hd:Kz 30 (.lst (l.map W.str))=true:=Qg1 29 l
 have e:Yx (.lst (l.map W.str)) (.lst (l.map W.str))=some true:=Qsi 30 _ hd
 show bW ((if (Kz 30 (W.lst (l.map W.str))&&Kz 30 (W.lst (l.map W.str))) then Yx (W.lst (l.map W.str)) (W.lst (l.map W.str)) else none).map (! ·)) S=_
 rw [hd,e]
 rfl
theorem QBp (b c:Bk) (S:Store):Qem sup KQ (JP b) (JP c) S=.ok (.bl (JH b.txt c.txt)) S:=rfl
theorem neBk5 (b c:Bk) (S:Store):Qdz sup KQ (JP b) (JP c) S=.ok (.bl (!JH b.txt c.txt)) S:=rfl
theorem QBo (b:Bk) (z:T) (S:Store):Qem sup KQ (JP b) (.str z) S=.ok (.bl false) S:=rfl
theorem QBn (b:Bk) (l:List W) (S:Store):Qem sup KQ (JP b) (.tup l) S=.ok (.bl false) S:=rfl
theorem neB5 (x:Bool) (S:Store):Qdz sup KQ (.bl x) (.bl x) S=.ok (.bl false) S:=by cases x <;> rfl
theorem eqNB5 (x:Bool) (S:Store):Qem sup KQ (.bl (!x)) (.bl x) S=.ok (.bl false) S:=by cases x <;> rfl
theorem strR5 (r:Rw) (S:Store):Qg0 Qdw [Jr r] S=.ok (.str r.txt) S:=by cases r <;> rfl
theorem Qwq (b:Bk) (S:Store):Qg0 Qdw [JP b] S=.ok (.str b.txt) S:=rfl
theorem lenO5 {n:Int} {S:Store} (h:decide (0<=n)=true) (k:decide (n<1000000)=true):((Out.ok (W.int n) S).bind λr S1=>match r with | .int i=>if decide (0<=i)&&decide (i<1000000) then Out.ok (W.int i) S1 else .bad | _=>.bad)=Out.ok (W.int n) S:=by
 simp only [Out.bind,h,k,Bool.and_self,if_true]
theorem QA6 (g:Good b) (S:Store):Qn9 Qkr [JP b] S=.ok (.int (b.rows.length:Int)) S:=by
 have h:Qg8 [JP b] S=.ok (.int (b.rows.length:Int)) S:=by
  show Out.ok (W.int ((b.rows.map Jr).length)) S=_
  rw [List.length_map]
 have e1:Qn9 Qkr [JP b] S=(Qg8 [JP b] S).bind λr S1=>match r with | .int i=>if decide (0<=i)&&decide (i<1000000) then .ok (.int i) S1 else .bad | _=>.bad:=rfl
 have:=g.ok.rb
 rw [e1,h]
 exact lenO5 (decide_eq_true (by omega)) (decide_eq_true (by omega))
theorem QAo (r:Rw):Qdm [Jr r,Jr r] E0=.ok (.bl (JH r.txt r.txt)) E0:=by cases r <;> rfl
theorem neT5 (l:List Rw) (S:Store):Qsr sup KQ (.tup (l.map Jr)) (.tup (l.map Jr)) S=.ok (.bl false) S:=by
 have key:∀ l:List Rw,tEqP sup KQ S (l.map Jr) (l.map Jr)=true:=by
  intro l
  induction l with
  | nil=>rfl
  | cons r t ih =>
   have pe:Jj Qdm [Jr r,Jr r] S=.ok (.bl true) S:=by
    refine Qdp (S':=E0) (by show (if K8 (Jr r)=true then (if K8 (Jr r)=true then Jq [] else false) else false)=true; rw [Qr3]; rfl) ?_ rfl S
    rw [QAo,Qcu.mpr rfl]
   rw [List.map_cons]
   cases r with
   | step k o q a =>
    show (((Qdu sup S 1 (Jr (.step k o q a)))&&(match Jj Qdm [Jr (.step k o q a),Jr (.step k o q a)] S with | .ok (.bl true) _=>true | _=>false))&&tEqP sup KQ S (t.map Jr) (t.map Jr))=true
    rw [pe,ih]
    rfl
   | join x y q a =>
    show (((Qdu sup S 2 (Jr (.join x y q a)))&&(match Jj Qdm [Jr (.join x y q a),Jr (.join x y q a)] S with | .ok (.bl true) _=>true | _=>false))&&tEqP sup KQ S (t.map Jr) (t.map Jr))=true
    rw [pe,ih]
    rfl
   | part o x y a e =>
    show (((Qdu sup S 3 (Jr (.part o x y a e)))&&(match Jj Qdm [Jr (.part o x y a e),Jr (.part o x y a e)] S with | .ok (.bl true) _=>true | _=>false))&&tEqP sup KQ S (t.map Jr) (t.map Jr))=true
    rw [pe,ih]
    rfl
 show (if tEqP sup KQ S (l.map Jr) (l.map Jr) then Out.ok (W.bl false) S else .bad)=_
 rw [key]
 rfl
end
theorem Ql5:∀ l:List T,JC (l.map W.str) (l.map W.str)=true
 | []=>rfl
 | z::r=>by
  show (if JH z z then JC (r.map W.str) (r.map W.str) else false)=true
  rw [Qcu.mpr rfl,Ql5 r]
  rfl
theorem Ql6:∀ l:List Nat,JC (l.map W.ref) (l.map W.ref)=true
 | []=>rfl
 | z::r=>by
  show (if Nat.beq z z then JC (r.map W.ref) (r.map W.ref) else false)=true
  rw [Nat.beq_refl,Ql6 r]
  rfl
theorem Qvf (r:Rw):Qfa r.tup r.tup=true:=by
 cases r <;> simp [Rw.tup,Qfa,JC,Qcu]
theorem Qo3:∀ l:List Rw,JC (l.map Rw.tup) (l.map Rw.tup)=true
 | []=>rfl
 | z::r=>by
  show (if Qfa z.tup z.tup then JC (r.map Rw.tup) (r.map Rw.tup) else false)=true
  rw [Qvf,Qo3 r]
  rfl
theorem Qx0 (b:Bk):Qfa (tupB b) (tupB b)=true:=by
 unfold tupB
 simp only [Qfa,JC,Ql5,Qo3,if_true]
structure I5 (n k p q:Nat) (L acc:List W) (S:Store):Prop where
 deal:Deal n k S
 gp:S.get p=some (.lst L)
 gq:S.get q=some (.lst acc)
 pn:p≠n
 pk:p≠k
 qn:q≠n
 qk:q≠k
 pq:p≠q
section
variable {n k p q:Nat} {L acc:List W} {S S':Store} {b:Bk}
theorem Qis (h:Deal n k S):n<S.next/\k<S.next:=by
 obtain ⟨xs,c,h1,h2,_⟩:=h.ex
 exact ⟨h.wf _ _ h1,h.wf _ _ h2⟩
theorem Qmp (h:Deal n k S) (o:SO):Deal n k (S.new o):=by
 obtain ⟨xs,c,h1,h2,h3⟩:=h.ex
 have l:=Qis h
 exact ⟨h.ne,Qld h.wf,xs,c,(Y5 (by omega)).trans h1,(Y5 (by omega)).trans h2,h3⟩
theorem Qmo {a:Nat} {o u:SO} (h:Deal n k S) (hq:S.get a=some o) (h1:a≠n) (h2:a≠k):Deal n k (S.put a u):=by
 obtain ⟨xs,c,a,b,c'⟩:=h.ex
 exact ⟨h.ne,Qlc hq h.wf,xs,c,(Qat (Ne.symm h1)).trans a,(Qat (Ne.symm h2)).trans b,c'⟩
theorem I5.lt (I:I5 n k p q L acc S):n<S.next/\k<S.next/\p<S.next/\q<S.next:=⟨(Qis I.deal).1,(Qis I.deal).2,I.deal.wf _ _ I.gp,I.deal.wf _ _ I.gq⟩
theorem I5.new (I:I5 n k p q L acc S) (o:SO):I5 n k p q L acc (S.new o):=by
 have l:=I.lt
 exact ⟨Qmp I.deal o,(Y5 (by omega)).trans I.gp,(Y5 (by omega)).trans I.gq,I.pn,I.pk,I.qn,I.qk,I.pq⟩
theorem I5.put (I:I5 n k p q L acc S) {a:Nat} {o u:SO} (hg:S.get a=some o) (h1:a≠n) (h2:a≠k) (h3:a≠p) (h4:a≠q):I5 n k p q L acc (S.put a u) :=
 ⟨Qmo I.deal hg h1 h2,(Qat (Ne.symm h3)).trans I.gp,(Qat (Ne.symm h4)).trans I.gq,I.pn,I.pk,I.qn,I.qk,I.pq⟩
theorem I5.keep (I:I5 n k p q L acc S) (D:Deal n k S') (K:Keep n k S S'):I5 n k p q L acc S':=by
 have l:=I.lt
 exact ⟨D,(K.kp p l.2.2.1 I.pn I.pk).trans I.gp,(K.kp q l.2.2.2 I.qn I.qk).trans I.gq,I.pn,I.pk,I.qn,I.qk,I.pq⟩
abbrev E5 (x0:Option W) (n:Nat) (x2:Option W) (p q:Nat) (b:Bk) (y9 y10 y11 y12 y13 y14 y15 y16:Option W):Jo:=[x0,some (.ref n),x2,some (.ref p),some (.ref q),some (.lst (b.marks.map .str)),some (.lst (b.counted.map .str)),some (.lst (b.keeps.map .str)),some (.lst (b.rows.map Rw.tup)),y9,y10,y11,y12,y13,y14,y15,y16]
variable {x0 x2 y9 y10 y11 y12 y13 y14 y15 y16:Option W}
structure H5 (b:Bk) (m:Nat) (cl kl:List T) (S:Store):Prop where
 pc:b.counted.Perm cl
 pk:b.keeps.Perm kl
 g1:S.get m=some (.lst (b.marks.map .str))
 g2:S.get (m+2)=some (.lst (cl.map .str))
 g3:S.get (m+4)=some (.lst (kl.map .str))
 gh:S.get (m+5)=some (.lst ([m,m+2,m+4].map W.ref))
 nx:S.next=m+6
theorem s1_tr (g:Good b) (I:I5 n k p q L acc S):Tr (Qfz (E5 x0 n x2 p q b y9 y10 y11 y12 y13 y14 y15 y16) S) λf S'=>∃ z:List T×List T,f=.nx (E5 x0 n x2 p q b (some (.ref (S.next+5))) y10 y11 y12 y13 y14 y15 y16)/\(H5 b S.next z.1 z.2 S'/\I5 n k p q L acc S'):=by
 let d:=E5 x0 n x2 p q b y9 y10 y11 y12 y13 y14 y15 y16
 have l0:=I.lt
 let S1:=S.new (.lst (b.marks.map .str))
 have e1:Jg Qf9 (Jd (Ja 5) Jb) d S=.ok (.ref S.next) S1:=(Qdi (xs:=[.lst (b.marks.map .str)]) (S1:=S) (aC (JM rfl) aN)).trans rfl
 have I1:I5 n k p q L acc S1:=I.new _
 have kl9:b.keeps.length<=900:=by
  have e:b.keeps.length=(YT.filter (JW · b.keeps)).length:=congrArg List.length (congrArg Bk.keeps g.of).symm
  rw [e]
  exact Nat.le_trans (List.length_filter_le (JW · b.keeps) YT) (by decide)
 have cl9:b.counted.length<=900:=by
  have e:b.counted.length=(b.marks.filter (JW · b.counted)).length:=congrArg List.length (congrArg Bk.counted g.of).symm
  rw [e]
  exact Nat.le_trans (List.length_filter_le (JW · b.counted) b.marks) (Nat.le_trans g.ok.mb (by decide))
 unfold Qfz
 refine Qd4 (Tr.bind ?_)
 with_reducible refine KR (Ks e1 ?_)
 with_reducible refine KR (Qb5 (KR (Yc (w:=.ref n) rfl (KR (Yc (w:=.lst (b.counted.map .str)) rfl (Qcc ?_))))))
 refine (Qpm I1.deal (xs:=b.counted.map .str) (by rw [List.length_map]; exact cl9) (Qg1 29 _)).imp ?_
 rintro _ S2 ⟨ys,rfl,pm,gy,D2,K2,nx2⟩
 obtain ⟨cl,rfl,pc⟩:=Qmb pm
 have I2:I5 n k p q L acc S2:=I1.keep D2 K2
 with_reducible refine KR (Qb5 (KR (Yc (w:=.ref n) rfl (KR (Yc (w:=.lst (b.keeps.map .str)) rfl (Qcc ?_))))))
 refine (Qpm D2 (xs:=b.keeps.map .str) (by rw [List.length_map]; exact kl9) (Qg1 29 _)).imp ?_
 rintro _ S3 ⟨zs,rfl,pm2,gz,D3,K3,nx3⟩
 obtain ⟨kl,rfl,pk⟩:=Qmb pm2
 have I3:I5 n k p q L acc S3:=I2.keep D3 K3
 have n1:S1.next=S.next+1:=rfl
 refine Qcc ?_
 have e2:S1.next+1=S.next+2:=rfl
 have e3:S2.next+1=S.next+4:=by omega
 rw [e2] at gy
 rw [e3] at gz
 have n3:S3.next=S.next+5:=by omega
 let S4:=S3.new (.lst ([S.next,S.next+2,S.next+4].map W.ref))
 have g1:S3.get S.next=some (.lst (b.marks.map .str)):=(K3.kp _ (by omega) (by omega) (by omega)).trans ((K2.kp _ (by omega) (by omega) (by omega)).trans Qej)
 have g2:S3.get (S.next+2)=some (.lst (cl.map .str)):=(K3.kp _ (by omega) (by omega) (by omega)).trans gy
 have fin:(if Nat.ble [W.ref S.next,.ref (S1.next+1),.ref (S2.next+1)].length Jy then Out.ok (W.ref S3.next) (S3.new (.lst [W.ref S.next,.ref (S1.next+1),.ref (S2.next+1)])) else .bad)=Out.ok (W.ref (S.next+5)) S4:=by
  rw [e2,e3,n3]
  rfl
 refine Ks fin ⟨(cl,kl),rfl,⟨pc,pk,(Y5 (by omega)).trans g1,(Y5 (by omega)).trans g2,(Y5 (by omega)).trans gz,?_,by show S3.next+1=_; omega⟩,I3.new _⟩
 have:=Qej (S:=S3) (o:=.lst ([S.next,S.next+2,S.next+4].map W.ref))
 rw [n3] at this
 exact this
theorem QAm (g:Good b) {m:Nat} {cl kl:List T} (H:H5 b m cl kl S):Qi0 (E5 x0 n x2 p q b (some (.ref (m+5))) y10 y11 y12 y13 y14 y15 y16) S=.ok (.nx (E5 x0 n x2 p q b (some (.ref (m+5))) y10 y11 y12 y13 y14 y15 y16)) ((S.new (.lst (b.rows.map Jr))).put (m+5) (.lst ([m,m+2,m+4,m+6].map W.ref))):=by
 let d:=E5 x0 n x2 p q b (some (.ref (m+5))) y10 y11 y12 y13 y14 y15 y16
 have lc:=Qrz (S:=S) (i:=8) (j:=10) (d:=d) (λr=>E5 x0 n x2 p q b (some (.ref (m+5))) (some r.tup) y11 y12 y13 y14 y15 y16) rfl g (λ_ _=>rfl) (λ_=>rfl)
 have e:=eLcM5 lc
 have nx:=H.nx
 have h1:(S.new (.lst (b.rows.map Jr))).get (m+5)=some (.lst ([m,m+2,m+4].map W.ref)):=(Y5 (by omega)).trans H.gh
 have a:=apx5 (p:=m+5) (i:=9) (d:=d) rfl H.gh e h1 (show 3<=900 by decide)
 rw [nx] at a
 exact a
theorem Qxz (g:Good b) {cl kl:List T} (pc:b.counted.Perm cl) (pk:b.keeps.Perm kl):MkOk b.marks cl kl b.rows/\Bk.of b.marks cl kl b.rows=b:=by
 refine ⟨⟨g.ok.ne,g.ok.mn,g.ok.md,g.ok.mb,λc h=>g.ok.cn c (pc.mem_iff.mpr h),(pc.nodup_iff).mp g.ok.cd,λc h=>g.ok.ch c (pc.mem_iff.mpr h),λc h=>g.ok.kn c (pk.mem_iff.mpr h),(pk.nodup_iff).mp g.ok.kd,g.ok.rk,g.ok.rn,g.ok.rb⟩,?_⟩
 have e1:∀ z,JW z cl=JW z b.counted:=λz=>by rw [Bool.eq_iff_iff,Qcr,Qcr]; exact pc.mem_iff.symm
 have e2:∀ z,JW z kl=JW z b.keeps:=λz=>by rw [Bool.eq_iff_iff,Qcr,Qcr]; exact pk.mem_iff.symm
 have h1:b.marks.filter (JW · cl)=b.marks.filter (JW · b.counted):=List.filter_congr λz _=>e1 z
 have h2:YT.filter (JW · kl)=YT.filter (JW · b.keeps):=List.filter_congr λz _=>e2 z
 have h3:=g.of
 unfold Bk.of at h3 ⊢
 rw [h1,h2]
 exact h3
theorem Quy (g:Good b) {cl kl:List T} (pc:b.counted.Perm cl) (pk:b.keeps.Perm kl) (S:Store):Jj (Y6 4 Qa7) [.lst (b.marks.map .str),.lst (cl.map .str),.lst (kl.map .str),.lst (b.rows.map Jr)] S=.ok (JP b) S:=by
 obtain ⟨ok,of⟩:=Qxz g pc pk
 have ne:=g.ok.ne
 cases e:b.marks with
 | nil=>exact absurd e ne
 | cons x t =>
  rw [e] at ok of
  have:=Qp0 (hd:=x) (tl:=t) (cl:=cl) (kl:=kl) (rl:=b.rows) ok (Or.inl rfl) (Or.inl rfl) (Or.inl rfl) (Or.inl rfl) S
  rw [of] at this
  exact this
theorem QAl (g:Good b) {m:Nat} {cl kl:List T} (pc:b.counted.Perm cl) (pk:b.keeps.Perm kl) (gh:S.get (m+5)=some (.lst ([m,m+2,m+4,m+6].map W.ref))) (g1:S.get m=some (.lst (b.marks.map .str))) (g2:S.get (m+2)=some (.lst (cl.map .str))) (g3:S.get (m+4)=some (.lst (kl.map .str))) (g4:S.get (m+6)=some (.lst (b.rows.map Jr))) :
  Qiz (E5 x0 n x2 p q b (some (.ref (m+5))) y10 y11 y12 y13 y14 y15 y16) S=.ok (.nx (E5 x0 n x2 p q b (some (.ref (m+5))) y10 (some (JP b)) y12 y13 y14 y15 y16)) S:=by
 let d:=E5 x0 n x2 p q b (some (.ref (m+5))) y10 y11 y12 y13 y14 y15 y16
 have v:Ja 9 d S=.ok (.ref (m+5)) S:=JM rfl
 have i0:Jc Jk (Ja 9) (eC (.int 0)) d S=.ok (.ref m) S:=idx5 (i:=0) v rfl gh rfl
 have i1:Jc Jk (Ja 9) (eC (.int 1)) d S=.ok (.ref (m+2)) S:=idx5 (i:=1) v rfl gh rfl
 have i2:Jc Jk (Ja 9) (eC (.int 2)) d S=.ok (.ref (m+4)) S:=idx5 (i:=2) v rfl gh rfl
 have i3:Jc Jk (Ja 9) (eC (.int 3)) d S=.ok (.ref (m+6)) S:=idx5 (i:=3) v rfl gh rfl
 have e:[W.ref m,.ref (m+2),.ref (m+4),.ref (m+6)].map (rd S)=[.lst (b.marks.map .str),.lst (cl.map .str),.lst (kl.map .str),.lst (b.rows.map Jr)]:=by
  show [rd S (.ref m),rd S (.ref (m+2)),rd S (.ref (m+4)),rd S (.ref (m+6))]=_
  rw [rd5 g1,rd5 g2,rd5 g3,rd5 g4]
 exact asgR ((Qdi (xs:=[.ref m,.ref (m+2),.ref (m+4),.ref (m+6)]) (S1:=S) (aC i0 (aC i1 (aC i2 (aC i3 aN))))).trans (Qyj e (Quy g pc pk S) (Qvu b)))
theorem QAk {m:Nat} {y11:Option W}:∀ (ts:List Nat) (S:Store) (y12:Option W),I5 n k p q L acc S->S.get (m+5)=some (.lst ([m,m+2,m+4,m+6].map W.ref))->(∀ a∈ts,a≠m+5/\a≠n/\a≠k/\a≠p/\a≠q/\∃ l,S.get a=some (.lst l)/\l.length<=600)->ts.Nodup ->
  ∃ z S',YW [.l (m+5) ([m,m+2,m+4,m+6].map W.ref)] (.nm 12) Qda (ts.map W.ref) (E5 x0 n x2 p q b y9 y10 y11 y12 y13 y14 y15 y16) S=.ok (.nx (E5 x0 n x2 p q b y9 y10 y11 z y13 y14 y15 y16)) S'/\I5 n k p q L acc S'
 | [],S,y12,I,gh,_,_=>by
  have st:Ky S [.l (m+5) ([m,m+2,m+4,m+6].map W.ref)]=true:=by
   show (if (match S.get (m+5) with | some (.lst ys)=>JC ys ([m,m+2,m+4,m+6].map W.ref) | _=>false) then true else false)=true
   rw [gh]
   show (if JC ([m,m+2,m+4,m+6].map W.ref) ([m,m+2,m+4,m+6].map W.ref) then true else false)=true
   rw [Ql6]
   rfl
  exact ⟨y12,S,QBi st,I⟩
 | a::r,S,y12,I,gh,h,nd=>by
  have st:Ky S [.l (m+5) ([m,m+2,m+4,m+6].map W.ref)]=true:=by
   show (if (match S.get (m+5) with | some (.lst ys)=>JC ys ([m,m+2,m+4,m+6].map W.ref) | _=>false) then true else false)=true
   rw [gh]
   show (if JC ([m,m+2,m+4,m+6].map W.ref) ([m,m+2,m+4,m+6].map W.ref) then true else false)=true
   rw [Ql6]
   rfl
  obtain ⟨a1,a2,a3,a4,a5,l,ga,hl⟩:=h a List.mem_cons_self
  let d1:=E5 x0 n x2 p q b y9 y10 y11 (some (.ref a)) y13 y14 y15 y16
  have bd:Qda d1 S=.ok (.nx d1) (S.put a (.lst (l++[.str [122,122]]))):=apx5 (p:=a) (i:=12) (d:=d1) rfl ga rfl ga (by omega)
  obtain ⟨z,S',e,I'⟩:=QAk r (S.put a (.lst (l++[.str [122,122]]))) (some (.ref a)) (I.put ga a2 a3 a4 a5) ((Qat (Ne.symm a1)).trans gh) (λc hc=>by
   obtain ⟨c1,c2,c3,c4,c5,lc,gc,hlc⟩:=h c (List.mem_cons_of_mem _ hc)
   have ca:c≠a:=λz=>(List.nodup_cons.mp nd).1 (z ▸ hc)
   exact ⟨c1,c2,c3,c4,c5,lc,(Qat ca).trans gc,hlc⟩) (List.nodup_cons.mp nd).2
  exact ⟨z,S',(for5 (d1:=d1) st rfl bd).trans e,I'⟩
end
theorem inM5 {k:Nat} (h:k<=1000):Qj6 (k:Int)=true:=by
 have h1:decide ((-1000000:Int)<(k:Int))=true:=decide_eq_true (by omega)
 have h2:decide ((k:Int)<1000000)=true:=decide_eq_true (by omega)
 unfold Qj6
 rw [h1,h2]
 decide
theorem Qtw {hi:ME} {d:Jo} {S S1:Store} {j:Int} (h:hi d S=.ok (.int j) S1) (hj:Qj6 j=true):Qcs hi d S=.ok (Qea 0 j.toNat,[]) S1:=by
 unfold Qcs
 rw [h]
 simp only [Out.bind,hj,if_true]
theorem QAs {hi:ME} {d:Jo} {S S1:Store} {j:Nat} (h:hi d S=.ok (.int (j:Int)) S1) (hj:j<=1000):Qcs hi d S=.ok ((List.range j).map λ(i:Nat)=>W.int (i:Int),[]) S1:=by
 have rw5:∀ (n lo:Nat),Qea (lo:Int) n=(List.range' lo n).map λ(i:Nat)=>W.int (i:Int):=by
  intro n
  induction n with
  | zero=>intro lo; rfl
  | succ n ih =>
   intro lo
   rw [List.range'_succ,List.map_cons,<- ih (lo+1)]
   rfl
 have e0:Qea 0 j=(List.range j).map λ(i:Nat)=>W.int (i:Int):=by
  rw [List.range_eq_range']
  exact rw5 j 0
 have r:=Qtw h (inM5 hj)
 rw [Int.toNat_natCast,e0] at r
 exact r
theorem un5 {f:W->Store->Out W} {a:ME} {x:W} {d:Jo} {S S1:Store} (h:a d S=.ok x S1):JS f a d S=f x S1:=by
 show (Out.bind (a d S) _)=_
 rw [h]
 rfl
section
variable {n k p q:Nat} {L acc:List W} {S S':Store} {b:Bk} {x0 x2 y9 y10 y11 y12 y13 y14 y15 y16:Option W}
theorem need5 {i:Nat} (h:i<b.rows.length) (S:Store):Jj Qb4 [JP b,.int (i:Int)] S=.ok .non S:=by
 refine Qdp (S':=E0) (by simp [Jq,Qub,K8]) ?_ rfl S
 rw [Qk5]
 let d0:Jo:=[some (JP b),some (.int (i:Int))]
 have e:Qhj Xb opLt (eC (.int 0)) (Ja 1) (Jg Yi (Jd (JS (fld 17) (Ja 0)) Jb)) d0 E0=.ok (.bl (decide ((0:Int)<=(i:Int))&&decide ((i:Int)<(b.rows.length:Int)))) E0:=by
  show (match W.bl (decide ((0:Int)<=(i:Int))) with | .bl true=>Out.ok (W.bl (decide ((i:Int)<((b.rows.map Jr).length:Int)))) E0 | .bl false=>.ok (.bl false) E0 | _=>.bad)=_
  rw [List.length_map]
  cases decide ((0:Int)<=(i:Int)) <;> rfl
 rw [decide_eq_true (show (0:Int)<=(i:Int) by omega),decide_eq_true (show (i:Int)<(b.rows.length:Int) by omega)] at e
 have s1:Qdk d0 E0=.ok (.nx d0) E0:=(if5 (Qz8 (tB5 e))).trans rfl
 show (Qdk d0 E0).bind _=_
 rw [s1]
 rfl
theorem get5 {i:Nat} {r:Rw} (h:b.rows[i]?=some r) (S:Store):Jj Qbg [JP b,.int (i:Int)] S=.ok (Jr r) S:=by
 have hi:i<b.rows.length:=(List.getElem?_eq_some_iff.mp h).1
 refine Qdp (S':=E0) (by simp [Jq,Qub,K8]) ?_ (Qr3 r) S
 rw [Qms]
 let d0:Jo:=[some (JP b),some (.int (i:Int))]
 have s1:Qgf d0 E0=.ok (.nx d0) E0:=Qwc ((methR (c:=4) (x:=JP b) (xs:=[.int (i:Int)]) (S1:=E0) (JM rfl) rfl rfl (aC (JM rfl) aN)).trans (need5 hi E0))
 have e1:JS (fld 17) (Ja 0) d0 E0=.ok (.tup (b.rows.map Jr)) E0:=(un5 (x:=JP b) (JM rfl)).trans rfl
 have e2:Jc Jk (JS (fld 17) (Ja 0)) (Ja 1) d0 E0=.ok (Jr r) E0:=by
  rw [Yn (y:=.int (i:Int)) e1 (JM rfl)]
  show Kw (atI (b.rows.map Jr) (i:Int)) E0=_
  rw [Qoc (by rw [List.length_map]; exact hi),List.getElem?_map,h]
  rfl
 exact Qmz rfl (Y8 s1 (retR e2))
def rtx5 (b:Bk) (i:Nat):T:=((b.rows[i]?).map Rw.txt).getD []
theorem Qyg (b:Bk):(List.range b.rows.length).map (λi=>W.str (rtx5 b i))=(b.rows.map Rw.txt).map W.str:=by
 apply List.ext_getElem
 ·simp
 ·intro i h1 h2
  have hi:i<b.rows.length:=by simpa using h1
  simp [rtx5,List.getElem?_eq_getElem hi]
abbrev EF (x0:Option W) (n:Nat) (x2:Option W) (p q:Nat) (b:Bk) (y9 y10 y12 y13 y14 y15 y16:Option W):Jo:=E5 x0 n x2 p q b y9 y10 (some (JP b)) y12 y13 y14 y15 y16
theorem QAj (g:Good b) (S:Store):Qiy (EF x0 n x2 p q b y9 y10 y12 y13 y14 y15 y16) S=.ok (.nx (EF x0 n x2 p q b y9 y10 y12 (some (tupB b)) y14 y15 y16)) S:=by
 let d:=EF x0 n x2 p q b y9 y10 y12 y13 y14 y15 y16
 have as:Jd (Ja 5) (Jd (Ja 6) (Jd (Ja 7) (Jd (Ja 8) Jb))) d S=.ok [.lst (b.marks.map .str),.lst (b.counted.map .str),.lst (b.keeps.map .str),.lst (b.rows.map Rw.tup)] S:=aC (JM rfl) (aC (JM rfl) (aC (JM rfl) (aC (JM rfl) aN)))
 have tp:Jt (Jd (Ja 5) (Jd (Ja 6) (Jd (Ja 7) (Jd (Ja 8) Jb)))) d S=.ok (tupB b) S:=by
  show (Out.bind _ _)=_
  rw [as]
  rfl
 exact asgR ((Qdi (xs:=[tupB b]) (S1:=S) (aC tp aN)).trans (Qrr g S))
theorem rpF5 {a e:ME} {d:Jo} {S S1 S2:Store} {l:List W} (h1:a d S=.ok (.tup l) S1) (h2:e d S1=.ok (.tup l) S2) (hr:rpOk (.tup l)=true) (hs:JC l l=true):eRp false a e d S=.ok (.bl false) S2:=by
 show (Out.bind (a d S) _)=_
 rw [h1]
 show (if rpOk (.tup l) then ((e d S1).bind λy S2=>if Qfa (.tup l) (rd S2 y) then Out.ok (W.bl false) S2 else .bad) else .bad)=_
 rw [hr,if_pos rfl,h2]
 show (if Qfa (.tup l) (.tup l) then Out.ok (W.bl false) S2 else .bad)=_
 have:Qfa (.tup l) (.tup l)=true:=by simp only [Qfa]; exact hs
 rw [this]
 rfl
abbrev hd5 (b:Bk):List W:=[b.marks,b.counted,b.keeps].map λ(l:List T)=>W.tup (l.map .str)
theorem QAn (g:Good b):rpOk (.tup (hd5 b))=true:=by
 have nm:∀ m∈b.marks,(∀ c∈m,c<128)/\m.length<=8:=λm hm=>⟨λc hc=>(by decide:∀ c∈LET,c<128) c (Qn6 (g.ok.mn m hm) c hc),Nat.le_trans (Qg9 (g.ok.mn m hm)).2 (by decide)⟩
 have kn:∀ m∈b.keeps,(∀ c∈m,c<128)/\m.length<=8:=λm hm=>(by decide +kernel:∀ m∈YT,(∀ c∈m,c<128)/\m.length<=8) m (g.ok.kn m hm)
 have lc:b.counted.length<=20:=by
  have e:b.counted.length=(b.marks.filter (JW · b.counted)).length:=congrArg List.length (congrArg Bk.counted g.of).symm
  rw [e]
  exact Nat.le_trans (List.length_filter_le (JW · b.counted) b.marks) g.ok.mb
 have lk:b.keeps.length<=20:=by
  have e:b.keeps.length=(YT.filter (JW · b.keeps)).length:=congrArg List.length (congrArg Bk.keeps g.of).symm
  rw [e]
  exact Nat.le_trans (List.length_filter_le (JW · b.keeps) YT) (by decide)
 have in1:∀ l∈[b.marks,b.counted,b.keeps],Shw5 29 1683 (W.tup (l.map .str)):=λl hl=>by
  have key:(∀ z∈l,(∀ c∈z,c<128)/\z.length<=8)/\l.length<=20:=by
   simp only [List.mem_cons,List.not_mem_nil,or_false] at hl
   rcases hl with rfl | rfl | rfl
   ·exact ⟨nm,g.ok.mb⟩
   ·exact ⟨λz hz=>nm z (g.ok.cn z hz),lc⟩
   ·exact ⟨kn,lk⟩
  exact Shw5.tup (n:=28) (c:=82) (k:=20) (λz hz=>Qvc (key.1 z hz).1 (key.1 z hz).2) key.2
 have o:=Shw5.tup (n:=29) (c:=1683) (k:=3) (f:=λ(l:List T)=>W.tup (l.map .str)) in1 (Nat.le_refl 3)
 unfold rpOk
 rw [Bool.and_eq_true,Bool.and_eq_true]
 exact ⟨⟨o.d,o.s⟩,Nat.ble_eq_true_of_le (Nat.le_trans o.z (by decide))⟩
theorem Qve (b:Bk):JC (hd5 b) (hd5 b)=true:=by
 show JC [.tup (b.marks.map .str),.tup (b.counted.map .str),.tup (b.keeps.map .str)] [.tup (b.marks.map .str),.tup (b.counted.map .str),.tup (b.keeps.map .str)]=true
 simp only [Qfa,JC,Ql5,if_true]
theorem QAi (g:Good b) (S:Store):Qix (EF x0 n x2 p q b y9 y10 y12 (some (tupB b)) y14 y15 y16) S=.ok (.nx (EF x0 n x2 p q b y9 y10 y12 (some (tupB b)) y14 y15 y16)) S:=by
 let d:=EF x0 n x2 p q b y9 y10 y12 (some (tupB b)) y14 y15 y16
 have v11:Ja 11 d S=.ok (JP b) S:=JM rfl
 have v13:Ja 13 d S=.ok (tupB b) S:=JM rfl
 have f1:JS (fld 14) (Ja 11) d S=.ok (.tup (b.marks.map .str)) S:=(un5 v11).trans rfl
 have f2:JS (fld 15) (Ja 11) d S=.ok (.tup (b.counted.map .str)) S:=(un5 v11).trans rfl
 have f3:JS (fld 16) (Ja 11) d S=.ok (.tup (b.keeps.map .str)) S:=(un5 v11).trans rfl
 have i0:Jc Jk (Ja 13) (eC (.int 0)) d S=.ok (.lst (b.marks.map .str)) S:=ti5 0 _ rfl v13
 have i1:Jc Jk (Ja 13) (eC (.int 1)) d S=.ok (.lst (b.counted.map .str)) S:=ti5 1 _ rfl v13
 have i2:Jc Jk (Ja 13) (eC (.int 2)) d S=.ok (.lst (b.keeps.map .str)) S:=ti5 2 _ rfl v13
 have c0:Jg fTuple (Jd (Jc Jk (Ja 13) (eC (.int 0))) Jb) d S=.ok (.tup (b.marks.map .str)) S:=(Qdi (xs:=[.lst (b.marks.map .str)]) (S1:=S) (aC i0 aN)).trans rfl
 have c1:Jg fTuple (Jd (Jc Jk (Ja 13) (eC (.int 1))) Jb) d S=.ok (.tup (b.counted.map .str)) S:=(Qdi (xs:=[.lst (b.counted.map .str)]) (S1:=S) (aC i1 aN)).trans rfl
 have c2:Jg fTuple (Jd (Jc Jk (Ja 13) (eC (.int 2))) Jb) d S=.ok (.tup (b.keeps.map .str)) S:=(Qdi (xs:=[.lst (b.keeps.map .str)]) (S1:=S) (aC i2 aN)).trans rfl
 have t1:Jt (Jd (JS (fld 14) (Ja 11)) (Jd (JS (fld 15) (Ja 11)) (Jd (JS (fld 16) (Ja 11)) Jb))) d S=.ok (.tup (hd5 b)) S:=by
  have e:Jd (JS (fld 14) (Ja 11)) (Jd (JS (fld 15) (Ja 11)) (Jd (JS (fld 16) (Ja 11)) Jb)) d S=.ok (hd5 b) S:=aC f1 (aC f2 (aC f3 aN))
  show (Out.bind _ _)=_
  rw [e]
  rfl
 have t2:Jt (Jd (Jg fTuple (Jd (Jc Jk (Ja 13) (eC (.int 0))) Jb)) (Jd (Jg fTuple (Jd (Jc Jk (Ja 13) (eC (.int 1))) Jb)) (Jd (Jg fTuple (Jd (Jc Jk (Ja 13) (eC (.int 2))) Jb)) Jb))) d S=.ok (.tup (hd5 b)) S:=by
  have e:Jd (Jg fTuple (Jd (Jc Jk (Ja 13) (eC (.int 0))) Jb)) (Jd (Jg fTuple (Jd (Jc Jk (Ja 13) (eC (.int 1))) Jb)) (Jd (Jg fTuple (Jd (Jc Jk (Ja 13) (eC (.int 2))) Jb)) Jb)) d S=.ok (hd5 b) S:=aC c0 (aC c1 (aC c2 aN))
  show (Out.bind _ _)=_
  rw [e]
  rfl
 exact (if5 (tB5 (rpF5 t1 t2 (QAn g) (Qve b)))).trans rfl
theorem QAh (g:Good b) (S:Store):Qiw (EF x0 n x2 p q b y9 y10 y12 (some (tupB b)) y14 y15 y16) S=.ok (.nx (EF x0 n x2 p q b y9 y10 y12 (some (tupB b)) y14 y15 y16)) S:=by
 let d:=EF x0 n x2 p q b y9 y10 y12 (some (tupB b)) y14 y15 y16
 have v11:Ja 11 d S=.ok (JP b) S:=JM rfl
 have f1:JS (fld 18) (Ja 11) d S=.ok (.str (b.marks.headD [])) S:=(un5 v11).trans rfl
 have i0:Jc Jk (Ja 5) (eC (.int 0)) d S=.ok (.str (b.marks.headD [])) S:=by
  rw [Yn (x:=.lst (b.marks.map .str)) (y:=.int 0) (JM rfl) rfl]
  have ne:=g.ok.ne
  cases h:b.marks with
  | nil=>exact absurd h ne
  | cons x t=>exact JQ.ix0 (Or.inl rfl)
 have a1:Mir.tB (Jc (Qdz sup KQ) (JS (fld 18) (Ja 11)) (Jc Jk (Ja 5) (eC (.int 0)))) d S=.ok false S:=tB5 ((Yn f1 i0).trans neS5)
 have l1:Jg (Qn9 Qkr) (Jd (Ja 11) Jb) d S=.ok (.int (b.rows.length:Int)) S:=(Qdi (xs:=[JP b]) (S1:=S) (aC v11 aN)).trans (QA6 g S)
 have l2:Jg Yi (Jd (Ja 8) Jb) d S=.ok (.int (b.rows.length:Int)) S:=by
  refine (Qdi (xs:=[.lst (b.rows.map Rw.tup)]) (S1:=S) (aC (JM rfl) aN)).trans ?_
  show Out.ok (W.int ((b.rows.map Rw.tup).length)) S=_
  rw [List.length_map]
 have a2:Mir.tB (Jc (Qdz sup KQ) (Jg (Qn9 Qkr) (Jd (Ja 11) Jb)) (Jg Yi (Jd (Ja 8) Jb))) d S=.ok false S:=tB5 ((Yn l1 l2).trans neI5)
 have t1:Jg (Qg0 Qdw) (Jd (Ja 11) Jb) d S=.ok (.str b.txt) S:=(Qdi (xs:=[JP b]) (S1:=S) (aC v11 aN)).trans (Qwq b S)
 have t2:Jg (Jj Qbu) (Jd (Ja 13) Jb) d S=.ok (.str b.txt) S:=(Qdi (xs:=[tupB b]) (S1:=S) (aC (JM rfl) aN)).trans (Qrs g S)
 have a3:Mir.tB (Jc (Qdz sup KQ) (Jg (Qg0 Qdw) (Jd (Ja 11) Jb)) (Jg (Jj Qbu) (Jd (Ja 13) Jb))) d S=.ok false S:=tB5 ((Yn t1 t2).trans neS5)
 exact (if5 (tOr5 a1 (tOr5 a2 a3))).trans rfl
theorem QAg (g:Good b) (hr:b.rows.length<=16) (S:Store):Qiv (EF x0 n x2 p q b y9 y10 y12 (some (tupB b)) y14 y15 y16) S=.ok (.nx (EF x0 n x2 p q b y9 y10 y12 (some (tupB b)) y14 y15 y16)) S:=by
 let d:=EF x0 n x2 p q b y9 y10 y12 (some (tupB b)) y14 y15 y16
 have l2:Jg Yi (Jd (Ja 8) Jb) d S=.ok (.int (b.rows.length:Int)) S:=by
  refine (Qdi (xs:=[.lst (b.rows.map Rw.tup)]) (S1:=S) (aC (JM rfl) aN)).trans ?_
  show Out.ok (W.int ((b.rows.map Rw.tup).length)) S=_
  rw [List.length_map]
 have wl2:Jg Yi (Jd (Ja 8) Jb) (JV d [14]) S=.ok (.int (b.rows.length:Int)) S:=by
  refine (Qdi (xs:=[.lst (b.rows.map Rw.tup)]) (S1:=S) (aC (JM rfl) aN)).trans ?_
  show Out.ok (W.int ((b.rows.map Rw.tup).length)) S=_
  rw [List.length_map]
 have el:∀ i∈List.range b.rows.length,Jg (Qg0 Qdw) (Jd (Jc (Qgx 4 (Jj Qbg)) (Ja 11) (Ja 14)) Jb) (EF x0 n x2 p q b y9 y10 y12 (some (tupB b)) (some (.int (i:Int))) y15 y16) S=.ok (.str (rtx5 b i)) S:=λi hi=>by
  have hi:i<b.rows.length:=List.mem_range.mp hi
  have hg:b.rows[i]?=some b.rows[i]:=List.getElem?_eq_getElem hi
  have e1:Jc (Qgx 4 (Jj Qbg)) (Ja 11) (Ja 14) (EF x0 n x2 p q b y9 y10 y12 (some (tupB b)) (some (.int (i:Int))) y15 y16) S=.ok (Jr b.rows[i]) S:=(Yn (x:=JP b) (y:=.int (i:Int)) (JM rfl) (JM rfl)).trans (get5 hg S)
  have e2:rtx5 b i=b.rows[i].txt:=by unfold rtx5; rw [hg]; rfl
  rw [e2]
  exact (Qdi (xs:=[Jr b.rows[i]]) (S1:=S) (aC e1 aN)).trans (strR5 _ S)
 have c1:=lcL5 (S:=S) (gd:=[]) (g:=λ(i:Nat)=>W.int (i:Int)) (f:=λi=>W.str (rtx5 b i)) (tg:=.nm 14) (own:=[14]) (it:=Qcs (Jg Yi (Jd (Ja 8) Jb))) (c:=Mir.tYes) (e:=Jg (Qg0 Qdw) (Jd (Jc (Qgx 4 (Jj Qbg)) (Ja 11) (Ja 14)) Jb)) (d:=d) (l:=List.range b.rows.length) (p:=λ_=>true) (D:=λi=>EF x0 n x2 p q b y9 y10 y12 (some (tupB b)) (some (.int (i:Int))) y15 y16) rfl (QAs l2 (by omega)) (by rw [List.length_range]; omega) (λ_ _=>rfl) (λ_ _=>rfl) (λi hi _=>el i hi)
 rw [List.filter_eq_self.mpr (by simp),Qyg] at c1
 have c2:=lcL5 (S:=S) (gd:=[]) (g:=Rw.tup) (f:=λr=>W.str r.txt) (tg:=.nm 10) (own:=[10]) (it:=Ji (Ja 8)) (c:=Mir.tYes) (e:=Jg (Jj Qa4) (Jd (Ja 10) Jb)) (d:=d) (l:=b.rows) (p:=λ_=>true) (D:=λr=>EF x0 n x2 p q b y9 (some r.tup) y12 (some (tupB b)) y14 y15 y16) rfl (it5 (JM rfl)) (by omega) (λ_ _=>rfl) (λ_ _=>rfl) (λr hr _=>(Qdi (xs:=[r.tup]) (S1:=S) (aC (JM rfl) aN)).trans (Qtu (g.ok.rk r hr) S))
 rw [List.filter_eq_self.mpr (by simp)] at c2
 have em:(b.rows.map λr=>W.str r.txt)=(b.rows.map Rw.txt).map W.str:=by rw [List.map_map]; rfl
 rw [em] at c2
 exact (if5 (tB5 ((Yn (eLc5 c1) (eLc5 c2)).trans neL5))).trans rfl
theorem QAf (g:Good b) (S:Store):Qiu (EF x0 n x2 p q b y9 y10 y12 (some (tupB b)) y14 y15 y16) S=.ok (.nx (EF x0 n x2 p q b y9 y10 y12 (some (tupB b)) y14 y15 y16)) S:=by
 let d:=EF x0 n x2 p q b y9 y10 y12 (some (tupB b)) y14 y15 y16
 have f1:JS (fld 17) (Ja 11) d S=.ok (.tup (b.rows.map Jr)) S:=(un5 (x:=JP b) (JM rfl)).trans rfl
 have a1:Mir.tB (KD sup [.tuple] (JS (fld 17) (Ja 11))) d S=.ok true S:=by
  have e:KD sup [.tuple] (JS (fld 17) (Ja 11)) d S=.ok (.bl true) S:=by
   show (Out.bind (JS (fld 17) (Ja 11) d S) _)=_
   rw [f1]
   rfl
  exact tB5 e
 have lc:=Qrz (S:=S) (i:=8) (j:=10) (d:=d) (λr=>EF x0 n x2 p q b y9 (some r.tup) y12 (some (tupB b)) y14 y15 y16) rfl g (λ_ _=>rfl) (λ_=>rfl)
 have c:Jg fTuple (Jd (JZ [10] (Ji (Ja 8)) (.nm 10) Mir.tYes (Jg (Jj Qbl) (Jd (Ja 10) Jb))) Jb) d S=.ok (.tup (b.rows.map Jr)) S:=(Qdi (xs:=[.lst (b.rows.map Jr)]) (S1:=S) (aC (eLc5 lc) aN)).trans rfl
 have a2:=tB5 ((Yn (f:=Qsr sup KQ) f1 c).trans (neT5 b.rows S))
 exact (if5 (tOr5 (Qz8 a1) a2)).trans rfl
theorem Qye (S:Store):Qhl (EF x0 n x2 p q b y9 y10 y12 (some (tupB b)) y14 y15 y16) S=.ok (.nx (EF x0 n x2 p q b y9 y10 y12 (some (tupB b)) y14 y15 y16)) S:=by
 let d:=EF x0 n x2 p q b y9 y10 y12 (some (tupB b)) y14 y15 y16
 have v11:Ja 11 d S=.ok (JP b) S:=JM rfl
 have t1:Jg (Qg0 Qdw) (Jd (Ja 11) Jb) d S=.ok (.str b.txt) S:=(Qdi (xs:=[JP b]) (S1:=S) (aC v11 aN)).trans (Qwq b S)
 have f1:JS (fld 17) (Ja 11) d S=.ok (.tup (b.rows.map Jr)) S:=(un5 v11).trans rfl
 have a1:Mir.tB (Jc (Qem sup KQ) (Ja 11) (Jg (Qg0 Qdw) (Jd (Ja 11) Jb))) d S=.ok false S:=tB5 ((Yn v11 t1).trans (QBo b b.txt S))
 have a2:Mir.tB (Jc (Qem sup KQ) (Ja 11) (JS (fld 17) (Ja 11))) d S=.ok false S:=tB5 ((Yn v11 f1).trans (QBn b _ S))
 exact (if5 (tOr5 a1 a2)).trans rfl
theorem turn5 (g:Good b) (hr:b.rows.length<=16) (I:I5 n k p q L acc S) (ha:acc.length<=100) (y9 y10 y11 y12 y13 y14 y15 y16:Option W) :
  Tr (Qcv (E5 x0 n x2 p q b y9 y10 y11 y12 y13 y14 y15 y16) S) λf S'=>∃ z9 z10 z11 z12 z13 z14 z15 z16,f=.nx (E5 x0 n x2 p q b z9 z10 z11 z12 z13 z14 z15 z16)/\I5 n k p q L (acc++[JP b]) S':=by
 have l0:=I.lt
 unfold Qcv
 with_reducible refine Qrn (s1_tr g I) λz S1 h1=>?_
 obtain ⟨cl,kl⟩:=z
 obtain ⟨H,I1⟩:=h1
 let m:=S.next
 have H:H5 b m cl kl S1:=H
 have nx:=H.nx
 let S2:=(S1.new (.lst (b.rows.map Jr))).put (m+5) (.lst ([m,m+2,m+4,m+6].map W.ref))
 refine Qcb (Ks (QAm g H) ?_)
 have gh1:(S1.new (.lst (b.rows.map Jr))).get (m+5)=some (.lst ([m,m+2,m+4].map W.ref)):=(Y5 (by omega)).trans H.gh
 have I2:I5 n k p q L acc S2:=(I1.new _).put gh1 (by omega) (by omega) (by omega) (by omega)
 have gh:S2.get (m+5)=some (.lst ([m,m+2,m+4,m+6].map W.ref)):=Qfw gh1
 have g1:S2.get m=some (.lst (b.marks.map .str)):=(Qat (by omega)).trans ((Y5 (by omega)).trans H.g1)
 have g2:S2.get (m+2)=some (.lst (cl.map .str)):=(Qat (by omega)).trans ((Y5 (by omega)).trans H.g2)
 have g3:S2.get (m+4)=some (.lst (kl.map .str)):=(Qat (by omega)).trans ((Y5 (by omega)).trans H.g3)
 have g4:S2.get (m+6)=some (.lst (b.rows.map Jr)):=by
  refine (Qat (by omega)).trans ?_
  have:=Qej (S:=S1) (o:=.lst (b.rows.map Jr))
  rw [nx] at this
  exact this
 refine Qcb (Ks (QAl g H.pc H.pk gh g1 g2 g3 g4) ?_)
 have lm:(b.marks.map W.str).length<=600:=by rw [List.length_map]; exact Nat.le_trans g.ok.mb (by decide)
 have lcl:(cl.map W.str).length<=600:=by
  rw [List.length_map,<- H.pc.length_eq]
  have e:b.counted.length=(b.marks.filter (JW · b.counted)).length:=congrArg List.length (congrArg Bk.counted g.of).symm
  rw [e]
  exact Nat.le_trans (List.length_filter_le (JW · b.counted) b.marks) (Nat.le_trans g.ok.mb (by decide))
 have lkl:(kl.map W.str).length<=600:=by
  rw [List.length_map,<- H.pk.length_eq]
  have e:b.keeps.length=(YT.filter (JW · b.keeps)).length:=congrArg List.length (congrArg Bk.keeps g.of).symm
  rw [e]
  exact Nat.le_trans (List.length_filter_le (JW · b.keeps) YT) (by decide)
 have lrl:(b.rows.map Jr).length<=600:=by rw [List.length_map]; omega
 obtain ⟨z12,S4,e4,I4⟩:=QAk (b:=b) (x0:=x0) (x2:=x2) (y9:=some (.ref (m+5))) (y10:=y10) (y11:=some (JP b)) (y13:=y13) (y14:=y14) (y15:=y15) (y16:=y16) (m:=m) [m,m+2,m+4,m+6] S2 y12 I2 gh (λa ha=>by
  simp only [List.mem_cons,List.not_mem_nil,or_false] at ha
  rcases ha with rfl | rfl | rfl | rfl
  ·exact ⟨by omega,by omega,by omega,by omega,by omega,_,g1,lm⟩
  ·exact ⟨by omega,by omega,by omega,by omega,by omega,_,g2,lcl⟩
  ·exact ⟨by omega,by omega,by omega,by omega,by omega,_,g3,lkl⟩
  ·exact ⟨by omega,by omega,by omega,by omega,by omega,_,g4,lrl⟩) (by
  refine List.nodup_cons.mpr ⟨?_,List.nodup_cons.mpr ⟨?_,List.nodup_cons.mpr ⟨?_,List.nodup_cons.mpr ⟨List.not_mem_nil,List.nodup_nil⟩⟩⟩⟩ <;> (simp only [List.mem_cons,List.not_mem_nil,or_false]; omega))
 have it:Ji (Ja 9) (E5 x0 n x2 p q b (some (.ref (m+5))) y10 (some (JP b)) y12 y13 y14 y15 y16) S2=.ok ([m,m+2,m+4,m+6].map W.ref,[.l (m+5) ([m,m+2,m+4,m+6].map W.ref)]) S2:=seq5 (JM rfl) gh
 have s4:Qfy (E5 x0 n x2 p q b (some (.ref (m+5))) y10 (some (JP b)) y12 y13 y14 y15 y16) S2=.ok (.nx (EF x0 n x2 p q b (some (.ref (m+5))) y10 z12 y13 y14 y15 y16)) S4:=by
  unfold Qfy
  exact (Qvd it).trans e4
 refine Qcb (Ks s4 ?_)
 refine Qcb (Ks (QAj g S4) ?_)
 refine Qcb (Ks (QAi g S4) ?_)
 refine Qcb (Ks (QAh g S4) ?_)
 with_reducible refine Qcb (Ks (QAg g hr S4) ?_)
 refine Qcb (Ks (QAf g S4) ?_)
 refine Qcb (Ks (Qye S4) ?_)
 have s11:Qhk (EF x0 n x2 p q b (some (.ref (m+5))) y10 z12 (some (tupB b)) y14 y15 y16) S4=.ok (.nx (EF x0 n x2 p q b (some (.ref (m+5))) y10 z12 (some (tupB b)) y14 y15 y16)) (S4.put q (.lst (acc++[JP b]))):=apx5 (p:=q) (i:=4) rfl I4.gq (JM rfl) I4.gq (by omega)
 refine Ks s11 ⟨_,_,_,_,_,_,_,_,rfl,?_⟩
 exact ⟨Qmo I4.deal I4.gq I4.qn I4.qk,(Qat I4.pq).trans I4.gp,Qfw I4.gq,I4.pn,I4.pk,I4.qn,I4.qk,I4.pq⟩
end
theorem QBs {α:Type} (l:List α):cut l none (some (-1))=l.dropLast:=by
 unfold cut
 show (l.drop 0).take (sIx l.length l.length (some (-1))-0)=l.dropLast
 have:sIx l.length l.length (some (-1))=l.length-1:=by
  show (if (-1:Int)<0 then ((-1:Int)+(l.length:Int)).toNat else min (-1:Int).toNat l.length)=_
  rw [if_pos (by decide)]
  omega
 rw [this,Nat.sub_zero,List.drop_zero,List.dropLast_eq_take]
theorem sub5 {b:Bk} (g:Good b) {rs:List Rw} (sub:∀ r∈rs,r∈b.rows) (hl:rs.length<=500):Good ⟨b.marks,b.counted,b.keeps,rs⟩:=by
 refine ⟨⟨g.ok.ne,g.ok.mn,g.ok.md,g.ok.mb,g.ok.cn,g.ok.cd,g.ok.ch,g.ok.kn,g.ok.kd,λr h=>g.ok.rk r (sub r h),λr h=>g.ok.rn r (sub r h),hl⟩,?_⟩
 have h1:b.marks.filter (JW · b.counted)=b.counted:=congrArg Bk.counted g.of
 have h2:YT.filter (JW · b.keeps)=b.keeps:=congrArg Bk.keeps g.of
 show (⟨b.marks,b.marks.filter (JW · b.counted),YT.filter (JW · b.keeps),rs⟩:Bk)=_
 rw [h1,h2]
abbrev less (b:Bk):Bk:=⟨b.marks,b.counted,b.keeps,b.rows.dropLast⟩
section
variable {n k p q:Nat} {S S':Store} {x0 x2:Option W} {b0 b1:Bk}
abbrev L5 (b0 b1:Bk):List W:=[tupB b0,tupB b1,tupB (less b0)]
abbrev M5 (b0 b1:Bk):List W:=[JP b0,JP b1,JP (less b0)]
def B5 (b0 b1:Bk) (i:Nat):Bk:=if i=0 then b0 else if i=1 then b1 else less b0
theorem L5_at {i:Nat} (h:i<3):(L5 b0 b1)[i]?=some (tupB (B5 b0 b1 i)):=by
 match i,h with
 | 0,_=>rfl
 | 1,_=>rfl
 | 2,_=>rfl
theorem QBz {i:Nat} (h:i<3):(M5 b0 b1)[i]?=some (JP (B5 b0 b1 i)):=by
 match i,h with
 | 0,_=>rfl
 | 1,_=>rfl
 | 2,_=>rfl
theorem Qwr {acc:List W} (I:I5 n k p q (L5 b0 b1) acc S):Ky S [.l p (L5 b0 b1)]=true:=by
 show (if (match S.get p with | some (.lst ys)=>JC ys (L5 b0 b1) | _=>false) then true else false)=true
 rw [I.gp]
 show (if JC [tupB b0,tupB b1,tupB (less b0)] [tupB b0,tupB b1,tupB (less b0)] then true else false)=true
 simp only [JC,Qx0,if_true]
theorem pair5 (G:∀ i,Good (B5 b0 b1 i)) (I:I5 n k p q (L5 b0 b1) (M5 b0 b1) S) {i j:Nat} (hi:i<3) (hj:j<3) {d:Jo} (d3:Jm d 3=some (.ref p)) (d4:Jm d 4=some (.ref q)) (d14:Jm d 14=some (.int (i:Int))) (d15:Jm d 15=some (.int (j:Int))) (hd:∀ w,Jm (Jz d 16 (some w)) 3=some (.ref p)/\Jm (Jz d 16 (some w)) 4=some (.ref q)/\Jm (Jz d 16 (some w)) 14=some (.int (i:Int))/\Jm (Jz d 16 (some w)) 15=some (.int (j:Int))/\Jm (Jz d 16 (some w)) 16=some w) :
  ∃ w,Qc8 d S=.ok (.nx (Jz d 16 (some w))) S:=by
 let x:=B5 b0 b1 i
 let y:=B5 b0 b1 j
 let e:=JH x.txt y.txt
 have tx:∀ {z:Nat} (hz:z<3) (v:Nat),Jm d v=some (.int (z:Int))->Jg (Jj Qbu) (Jd (Jg (Jj Qb1) (Jd (Jc Jk (Ja 3) (Ja v)) Jb)) Jb) d S=.ok (.str (B5 b0 b1 z).txt) S:=λ{z} hz v hv=>by
  have i1:Jc Jk (Ja 3) (Ja v) d S=.ok (tupB (B5 b0 b1 z)) S:=idx5 (JM d3) (JM hv) I.gp (L5_at hz)
  have i2:Jg (Jj Qb1) (Jd (Jc Jk (Ja 3) (Ja v)) Jb) d S=.ok (tupB (B5 b0 b1 z)) S:=(Qdi (xs:=[tupB (B5 b0 b1 z)]) (S1:=S) (aC i1 aN)).trans (Qrr (G z) S)
  exact (Qdi (xs:=[tupB (B5 b0 b1 z)]) (S1:=S) (aC i2 aN)).trans (Qrs (G z) S)
 have s1:Qge d S=.ok (.nx (Jz d 16 (some (.bl e)))) S:=asgR ((Yn (tx hi 14 d14) (tx hj 15 d15)).trans rfl)
 let d1:=Jz d 16 (some (.bl e))
 obtain ⟨h3,h4,h14,h15,h16⟩:=hd (.bl e)
 have m1:Jc Jk (Ja 4) (Ja 14) d1 S=.ok (JP x) S:=idx5 (JM h4) (JM h14) I.gq (QBz hi)
 have m2:Jc Jk (Ja 4) (Ja 15) d1 S=.ok (JP y) S:=idx5 (JM h4) (JM h15) I.gq (QBz hj)
 have q1:Jc (Qem sup KQ) (Jc Jk (Ja 4) (Ja 14)) (Jc Jk (Ja 4) (Ja 15)) d1 S=.ok (.bl e) S:=(Yn m1 m2).trans (QBp x y S)
 have q2:Jc (Qdz sup KQ) (Jc Jk (Ja 4) (Ja 14)) (Jc Jk (Ja 4) (Ja 15)) d1 S=.ok (.bl (!e)) S:=(Yn m1 m2).trans (neBk5 x y S)
 have a1:=tB5 ((Yn (f:=Qdz sup KQ) (e:=Ja 16) q1 (JM h16)).trans (neB5 e S))
 have a2:=tB5 ((Yn (f:=Qem sup KQ) (e:=Ja 16) q2 (JM h16)).trans (eqNB5 e S))
 have s2:Qgd d1 S=.ok (.nx d1) S:=(if5 (tOr5 a1 a2)).trans rfl
 exact ⟨.bl e,Y8 s1 s2⟩
theorem QAw (G:∀ i,Good (B5 b0 b1 i)) (I:I5 n k p q (L5 b0 b1) (M5 b0 b1) S) (y5 y6 y7 y8 y9 y10 y11 y12 y13 y14 y15 y16:Option W) :
  ∃ z14 z15 z16,Qj8 [x0,some (.ref n),x2,some (.ref p),some (.ref q),y5,y6,y7,y8,y9,y10,y11,y12,y13,y14,y15,y16] S=.ok (.nx [x0,some (.ref n),x2,some (.ref p),some (.ref q),y5,y6,y7,y8,y9,y10,y11,y12,y13,z14,z15,z16]) S:=by
 have inner:∀ (i:Nat),i<3->∀ (js:List Nat),(∀ j∈js,j<3)->∀ y15 y16:Option W,∃ z15 z16,YW [] (.nm 15) Qc8 (js.map λ(j:Nat)=>W.int (j:Int)) [x0,some (.ref n),x2,some (.ref p),some (.ref q),y5,y6,y7,y8,y9,y10,y11,y12,y13,some (.int (i:Int)),y15,y16] S=.ok (.nx [x0,some (.ref n),x2,some (.ref p),some (.ref q),y5,y6,y7,y8,y9,y10,y11,y12,y13,some (.int (i:Int)),z15,z16]) S:=by
  intro i hi js
  induction js with
  | nil=>intro _ y15 y16; exact ⟨y15,y16,rfl⟩
  | cons j r ih =>
   intro h y15 y16
   obtain ⟨w,e⟩:=pair5 (d:=[x0,some (.ref n),x2,some (.ref p),some (.ref q),y5,y6,y7,y8,y9,y10,y11,y12,y13,some (.int (i:Int)),some (.int (j:Int)),y16]) G I hi (h j List.mem_cons_self) rfl rfl rfl rfl λw=>⟨rfl,rfl,rfl,rfl,rfl⟩
   obtain ⟨z15,z16,e2⟩:=ih (λc hc=>h c (List.mem_cons_of_mem _ hc)) (some (.int (j:Int))) (some w)
   exact ⟨z15,z16,(for5 (d1:=[x0,some (.ref n),x2,some (.ref p),some (.ref q),y5,y6,y7,y8,y9,y10,y11,y12,y13,some (.int (i:Int)),some (.int (j:Int)),y16]) rfl rfl e).trans e2⟩
 have outer:∀ (is:List Nat),(∀ i∈is,i<3)->∀ y14 y15 y16:Option W,∃ z14 z15 z16,YW [] (.nm 14) Qc9 (is.map λ(j:Nat)=>W.int (j:Int)) [x0,some (.ref n),x2,some (.ref p),some (.ref q),y5,y6,y7,y8,y9,y10,y11,y12,y13,y14,y15,y16] S=.ok (.nx [x0,some (.ref n),x2,some (.ref p),some (.ref q),y5,y6,y7,y8,y9,y10,y11,y12,y13,z14,z15,z16]) S:=by
  intro is
  induction is with
  | nil=>intro _ y14 y15 y16; exact ⟨y14,y15,y16,rfl⟩
  | cons i r ih =>
   intro h y14 y15 y16
   obtain ⟨w15,w16,e⟩:=inner i (h i List.mem_cons_self) [0,1,2] (by decide) y15 y16
   have bd:Qc9 [x0,some (.ref n),x2,some (.ref p),some (.ref q),y5,y6,y7,y8,y9,y10,y11,y12,y13,some (.int (i:Int)),y15,y16] S=.ok (.nx [x0,some (.ref n),x2,some (.ref p),some (.ref q),y5,y6,y7,y8,y9,y10,y11,y12,y13,some (.int (i:Int)),w15,w16]) S:=by
    unfold Qc9 Qit
    exact (Qvd (l:=[0,1,2].map λ(j:Nat)=>W.int (j:Int)) (gd:=[]) rfl).trans e
   obtain ⟨z14,z15,z16,e2⟩:=ih (λc hc=>h c (List.mem_cons_of_mem _ hc)) (some (.int (i:Int))) w15 w16
   exact ⟨z14,z15,z16,(for5 rfl rfl bd).trans e2⟩
 obtain ⟨z14,z15,z16,e⟩:=outer [0,1,2] (by decide) y14 y15 y16
 refine ⟨z14,z15,z16,?_⟩
 unfold Qj8
 exact (Qvd (l:=[0,1,2].map λ(j:Nat)=>W.int (j:Int)) (gd:=[]) rfl).trans e
theorem big5 (h:Deal n k S) (y3 y4 y5 y6 y7 y8 y9 y10 y11 y12 y13 y14 y15 y16:Option W) :
  Tr (Qg4 [x0,some (.ref n),x2,y3,y4,y5,y6,y7,y8,y9,y10,y11,y12,y13,y14,y15,y16] S) λf S'=>∃ d',f=.nx d'/\(∃ z3 z4 z5 z6 z7 z8 z9 z10 z11 z12 z13 z14 z15 z16,d'=[x0,some (.ref n),x2,z3,z4,z5,z6,z7,z8,z9,z10,z11,z12,z13,z14,z15,z16])/\Deal n k S':=by
 unfold Qg4
 let D1:Bk×Bk×Nat->Jo:=λz=>[x0,some (.ref n),x2,some (.ref z.2.2),y4,y5,y6,y7,y8,y9,y10,y11,y12,y13,y14,y15,y16]
 have s1:Tr (Qka [x0,some (.ref n),x2,y3,y4,y5,y6,y7,y8,y9,y10,y11,y12,y13,y14,y15,y16] S) λf S'=>∃ z:Bk×Bk×Nat,f=.nx (D1 z)/\(Good z.1/\Good z.2.1/\z.1.rows.length<=16/\z.2.1.rows.length<=16/\Deal n k S'/\S'.get z.2.2=some (.lst [tupB z.1,tupB z.2.1])/\z.2.2≠n/\z.2.2≠k):=by
  unfold Qka
  refine Qd4 (Tr.bind ?_)
  with_reducible refine KR (Qb5 (KR (Yc (w:=.ref n) rfl (KR (Ye (Qcc ?_))))))
  refine (Qux (c:=4) h (by decide) (by decide)).imp ?_
  rintro _ S1 ⟨b0,rfl,g0,_,r0,A1⟩
  have A1:Deal n k S1:=by first | exact A1 | exact A1.1
  with_reducible refine KR (Qb5 (KR (Yc (w:=.ref n) rfl (KR (Ye (Qcc ?_))))))
  refine (Qux (c:=3) A1 (by decide) (by decide)).imp ?_
  rintro _ S2 ⟨b1,rfl,g1,_,r1,A2⟩
  have A2:Deal n k S2:=by first | exact A2 | exact A2.1
  have l:=Qis A2
  refine Qcc (Ks (a:=.ref S2.next) (S':=S2.new (.lst [tupB b0,tupB b1])) rfl ⟨(b0,b1,S2.next),rfl,g0,g1,r0,r1,Qmp A2 _,Qej,by show S2.next≠n; omega,by show S2.next≠k; omega⟩)
 with_reducible refine Qrn s1 λz S1 h1=>?_
 obtain ⟨b0,b1,p⟩:=z
 have g0:Good b0:=h1.1
 have g1:Good b1:=h1.2.1
 have r0:b0.rows.length<=16:=h1.2.2.1
 have r1:b1.rows.length<=16:=h1.2.2.2.1
 have A1:Deal n k S1:=h1.2.2.2.2.1
 have gp:S1.get p=some (.lst [tupB b0,tupB b1]):=h1.2.2.2.2.2.1
 have pn:p≠n:=h1.2.2.2.2.2.2.1
 have pk:p≠k:=h1.2.2.2.2.2.2.2
 let d1:Jo:=D1 (b0,b1,p)
 have v3:Jc Jk (Ja 3) (eC (.int 0)) d1 S1=.ok (tupB b0) S1:=idx5 (i:=0) (JM rfl) rfl gp rfl
 have j0:Jc Jk (Jc Jk (Ja 3) (eC (.int 0))) (eC (.int 0)) d1 S1=.ok (.lst (b0.marks.map .str)) S1:=ti5 0 _ rfl v3
 have j1:Jc Jk (Jc Jk (Ja 3) (eC (.int 0))) (eC (.int 1)) d1 S1=.ok (.lst (b0.counted.map .str)) S1:=ti5 1 _ rfl v3
 have j2:Jc Jk (Jc Jk (Ja 3) (eC (.int 0))) (eC (.int 2)) d1 S1=.ok (.lst (b0.keeps.map .str)) S1:=ti5 2 _ rfl v3
 have j3:Jc Jk (Jc Jk (Ja 3) (eC (.int 0))) (eC (.int 3)) d1 S1=.ok (.lst (b0.rows.map Rw.tup)) S1:=ti5 3 _ rfl v3
 have j4:Yk sl (Jc Jk (Jc Jk (Ja 3) (eC (.int 0))) (eC (.int 3))) YJ (K9 (JS Qil (eC (.int 1)))) d1 S1=.ok (.lst (b0.rows.dropLast.map Rw.tup)) S1:=by
  show (Out.bind (Jc Jk (Jc Jk (Ja 3) (eC (.int 0))) (eC (.int 3)) d1 S1) _)=_
  rw [j3]
  show Out.ok (W.lst (cut (b0.rows.map Rw.tup) none (some (-1)))) S1=_
  rw [QBs,List.map_dropLast]
 have tp:Jt (Jd (Jc Jk (Jc Jk (Ja 3) (eC (.int 0))) (eC (.int 0))) (Jd (Jc Jk (Jc Jk (Ja 3) (eC (.int 0))) (eC (.int 1))) (Jd (Jc Jk (Jc Jk (Ja 3) (eC (.int 0))) (eC (.int 2))) (Jd (Yk sl (Jc Jk (Jc Jk (Ja 3) (eC (.int 0))) (eC (.int 3))) YJ (K9 (JS Qil (eC (.int 1))))) Jb)))) d1 S1=.ok (tupB (less b0)) S1:=by
  have e:=aC j0 (aC j1 (aC j2 (aC j4 (aN (d:=d1) (S:=S1)))))
  show (Out.bind _ _)=_
  rw [e]
  rfl
 let S2:=S1.put p (.lst (L5 b0 b1))
 have s2:Qni d1 S1=.ok (.nx d1) S2:=apx5 (p:=p) (i:=3) (d:=d1) rfl gp tp gp (show 2<=900 by decide)
 refine Qcb (Ks s2 ?_)
 have A2:Deal n k S2:=Qmo A1 gp pn pk
 have gp2:S2.get p=some (.lst (L5 b0 b1)):=Qfw gp
 let q:=S2.next
 let S3:=S2.new (.lst [])
 let d3:Jo:=[x0,some (.ref n),x2,some (.ref p),some (.ref q),y5,y6,y7,y8,y9,y10,y11,y12,y13,y14,y15,y16]
 have s3:Qnh d1 S2=.ok (.nx d3) S3:=rfl
 refine Qcb (Ks s3 ?_)
 have lt:=Qis A2
 have lp:=A2.wf _ _ gp2
 have I3:I5 n k p q (L5 b0 b1) [] S3:=⟨Qmp A2 _,(Y5 (by omega)).trans gp2,Qej,pn,pk,by show S2.next≠n; omega,by show S2.next≠k; omega,by show p≠S2.next; omega⟩
 have gl:Good (less b0):=sub5 g0 (λr h=>(List.dropLast_sublist _).subset h) (by rw [List.length_dropLast]; omega)
 have rl:(less b0).rows.length<=16:=by show b0.rows.dropLast.length<=16; rw [List.length_dropLast]; omega
 have it:Ji (Ja 3) d3 S3=.ok (L5 b0 b1,[.l p (L5 b0 b1)]) S3:=seq5 (JM rfl) I3.gp
 have s4:Tr (Qj9 d3 S3) λf S'=>∃ z5 z6 z7 z8 z9 z10 z11 z12 z13 z14 z15 z16,f=.nx [x0,some (.ref n),x2,some (.ref p),some (.ref q),z5,z6,z7,z8,z9,z10,z11,z12,z13,z14,z15,z16]/\I5 n k p q (L5 b0 b1) (M5 b0 b1) S':=by
  unfold Qj9
  rw [Qvd it]
  have go:∀ {b:Bk} {acc:List W} {ts:List W} {d:Jo} {S:Store} {Q:Fl->Store->Prop} (y9 y10 y11 y12 y13 y14 y15 y16:Option W),Good b->b.rows.length<=16->I5 n k p q (L5 b0 b1) acc S->acc.length<=100->JG (.tp [(.nm 5),(.nm 6),(.nm 7),(.nm 8)]) (tupB b) d=some (E5 x0 n x2 p q b y9 y10 y11 y12 y13 y14 y15 y16) ->
    (∀ z9 z10 z11 z12 z13 z14 z15 z16 S1,I5 n k p q (L5 b0 b1) (acc++[JP b]) S1->Tr (YW [.l p (L5 b0 b1)] (.tp [(.nm 5),(.nm 6),(.nm 7),(.nm 8)]) Qcv ts (E5 x0 n x2 p q b z9 z10 z11 z12 z13 z14 z15 z16) S1) Q) ->
    Tr (YW [.l p (L5 b0 b1)] (.tp [(.nm 5),(.nm 6),(.nm 7),(.nm 8)]) Qcv (tupB b::ts) d S) Q:=by
   intro b acc ts d S Q y9 y10 y11 y12 y13 y14 y15 y16 g r I ha hst k5
   have t:=(turn5 (x0:=x0) (x2:=x2) g r I ha y9 y10 y11 y12 y13 y14 y15 y16).out
   obtain ⟨f,S1,e,z9,z10,z11,z12,z13,z14,z15,z16,rfl,I1⟩:=t
   rw [for5 (Qwr I) hst e]
   exact k5 z9 z10 z11 z12 z13 z14 z15 z16 S1 I1
  refine go y9 y10 y11 y12 y13 y14 y15 y16 g0 r0 I3 (Nat.zero_le _) rfl λz9 z10 z11 z12 z13 z14 z15 z16 S4 I4=>?_
  refine go z9 z10 z11 z12 z13 z14 z15 z16 g1 r1 I4 (show 1<=100 by decide) rfl λz9 z10 z11 z12 z13 z14 z15 z16 S5 I5'=>?_
  refine go z9 z10 z11 z12 z13 z14 z15 z16 gl rl I5' (show 2<=100 by decide) rfl λz9 z10 z11 z12 z13 z14 z15 z16 S6 I6=>?_
  exact Ks (QBi (Qwr I6)) ⟨_,_,_,_,_,_,_,_,_,_,_,_,rfl,I6⟩
 obtain ⟨f4,S4,e4,z5,z6,z7,z8,z9,z10,z11,z12,z13,z14,z15,z16,rfl,I4⟩:=s4.out
 refine Qcb (Ks e4 ?_)
 have GA:∀ i,Good (B5 b0 b1 i):=λi=>by
  unfold B5
  split
  ·exact g0
  ·split
   ·exact g1
   ·exact gl
 obtain ⟨w14,w15,w16,e5⟩:=QAw (x0:=x0) (x2:=x2) GA I4 z5 z6 z7 z8 z9 z10 z11 z12 z13 z14 z15 z16
 exact Ks e5 ⟨_,rfl,⟨_,_,_,_,_,_,_,_,_,_,_,_,_,_,rfl⟩,I4.deal⟩
end
theorem QA4 (m c k r:W) (hm:JQ m ([[97]].map .str)) (hc:JQ c (([]:List T).map .str)) (hk:JQ k (([]:List T).map .str)) (hr:JQ r (([]:List Rw).map Jr)) (S:Store):Jj (Y6 4 Qa7) [m,c,k,r] S=.ok (JP (Bk.of [[97]] [] [] [])) S :=
 Qp0 (hd:=[97]) (tl:=[]) (cl:=[]) (kl:=[]) (rl:=[]) ⟨by simp,by decide,by simp,by decide,λc h=>absurd h List.not_mem_nil,List.nodup_nil,λc h=>absurd h List.not_mem_nil,λc h=>absurd h List.not_mem_nil,List.nodup_nil,λc h=>absurd h List.not_mem_nil,λc h=>absurd h List.not_mem_nil,Nat.zero_le _⟩ hm hc hk hr S
theorem end5 (d:Jo) (S:Store):Quz d S=.ok (.rt (.bl true)) S:=by
 have e1:Jg (Jj (Y6 4 Qa7)) (Jd (Jt (Jd (eC (.str [97])) Jb)) (Jd (Jt Jb) (Jd (Jt Jb) (Jd (Jt Jb) Jb)))) d S=.ok (JP (Bk.of [[97]] [] [] [])) S:=(Qdi (xs:=[.tup [.str [97]],.tup [],.tup [],.tup []]) (S1:=S) rfl).trans (QA4 _ _ _ _ (Or.inr rfl) (Or.inr rfl) (Or.inr rfl) (Or.inr rfl) S)
 have e2:Jg (Jj (Y6 4 Qa7)) (Jd (Ju (Jd (eC (.str [97])) Jb)) (Jd (Ju Jb) (Jd (Ju Jb) (Jd (Ju Jb) Jb)))) d S=.ok (JP (Bk.of [[97]] [] [] [])) S:=(Qdi (xs:=[.lst [.str [97]],.lst [],.lst [],.lst []]) (S1:=S) rfl).trans (QA4 _ _ _ _ (Or.inl rfl) (Or.inl rfl) (Or.inl rfl) (Or.inl rfl) S)
 exact retR ((Yn e1 e2).trans ((QBp _ _ S).trans (by rw [Qcu.mpr rfl])))
theorem Qv4:∀ ns:List Int,ns.length<=63->∃ S',Qug [.lsr (ns.map W.int)] S0=.ok (.bl true) S':=λns hl=>by
 have w0:Wf S0:=λm o e=>by cases e
 have key:Tr (Qug [.lsr (ns.map W.int)] S0) λv _=>v=.bl true:=by
  rw [QBb]
  refine Qos [some (.lsr (ns.map W.int)),none,none,none,none,none,none,none,none,none,none,none,none,none,none,none,none] rfl rfl ?_
  refine Qcb (Qd4 (Qb5 (KR (Yc rfl (KR (Ye (Qcc ?_)))))))
  rw [Qzj]
  refine (Qzi (by decide) (by decide) (by decide) (by decide) (by decide) (by decide) (by decide) w0 ns hl).imp ?_
  rintro _ S1 ⟨rfl,hD,_⟩
  refine Qcb (Qm4 (Ks (a:=(([0,1,2,3,4]:List Int).map W.int,[])) rfl ?_))
  refine (Qur (P:=λd S=>(∃ b2 b3 b4 b5 b6 b7 b8 b9 b10 b11 b12 b13 b14 b15 b16,d=[some (.lsr (ns.map W.int)),some (.ref _),b2,b3,b4,b5,b6,b7,b8,b9,b10,b11,b12,b13,b14,b15,b16])/\Deal _ _ S) _ _ _ ?_ ⟨⟨_,_,_,_,_,_,_,_,_,_,_,_,_,_,_,rfl⟩,hD⟩).imp ?_
  ·rintro i _ _ _ ⟨⟨b2,b3,b4,b5,b6,b7,b8,b9,b10,b11,b12,b13,b14,b15,b16,rfl⟩,hD⟩
   refine ⟨_,rfl,(big5 hD _ _ _ _ _ _ _ _ _ _ _ _ _ _).imp ?_⟩
   rintro f S2 ⟨d',rfl,⟨z3,z4,z5,z6,z7,z8,z9,z10,z11,z12,z13,z14,z15,z16,rfl⟩,hD2⟩
   exact ⟨_,rfl,⟨_,_,_,_,_,_,_,_,_,_,_,_,_,_,_,rfl⟩,hD2⟩
  ·rintro f S2 ⟨d',rfl,⟨b2,b3,b4,b5,b6,b7,b8,b9,b10,b11,b12,b13,b14,b15,b16,rfl⟩,hD2⟩
   exact Ks (end5 _ S2) rfl
 obtain ⟨v,S',e,rfl⟩:=key.out
 exact ⟨S',e⟩
end G
open PySem PySem.W PySem.Calls PyProof.Rows
theorem PySem.Challenge.cw_forkpolls_k05_books_made_holds : PySem.Challenge.rw_forkpolls_k05_books_made.Holds := by
 w_on; o_law
 refine HandSHeadRun.head_any (r:=OpenLaw.row PySem.Challenge.rw_forkpolls_k05_books_made) (q:=view (OpenLaw.row PySem.Challenge.rw_forkpolls_k05_books_made).prog [60]) (H:=G.hk) (ob:=λs=>MW.frC (HandSHeadRun.getT s) G.ads [] λK=>((MW.Yz G.hd K,MW.kT G.tbs K),MW.Y9 false K (HandSHeadRun.getT s))) (M:=12000) (loose:=G.nms) (d:=HandSHeadRun.topDef (OpenLaw.row PySem.Challenge.rw_forkpolls_k05_books_made).prog 60) (kwd:=[]) G.ob_eq
  (by kernel_rfl) (λs=>by kernel_rfl) G.run (by kernel_rfl) (by kernel_rfl) (by kernel_rfl) (by rfl) (by first | assumption | decide +kernel) (by decide +kernel) ⟨rfl,rfl,rfl,rfl,rfl,by decide +kernel⟩ ?hw ?hc
 case hw=>w_witness2
 case hc =>
  refine MW.Qs7 (l:=PySem.Challenge.rw_forkpolls_k05_books_made) (n:=63) (k:=6) (x:= "_law_script") rfl (by decide) (by kernel_rfl) ⟨rfl,by decide,by decide⟩ ?F
  intro w mg fa h Y G0 hmg0
  obtain ⟨K,KX,c,ct,tt⟩:=Y
  have hmg:mg ("law" : PySem.Str)=some (.ref fa):=by
   have e:(HandSHeadRun.topDef (OpenLaw.row PySem.Challenge.rw_forkpolls_k05_books_made).prog 60).name=("law" : PySem.Str):=by kernel_rfl
   rw [<- e]
   exact hmg0
  obtain ⟨fd,hb,hF⟩:=G.facts (P:=PySem.Challenge.rw_forkpolls_k05_books_made.prog) (w:=w) rfl (by decide +kernel) KX G0 c
  have e:=hmg.symm.trans (He.glo_ok KX G0 (c.1.fact 33 (f:=.fa (.glo "law")) rfl))
  cases e
  exact ⟨K,fd,_,KX,tt,hb,λH a ns hl hT hS=>MW.QBl G.Qv4 H a ns hl hT hS,λbase _ _ hTB=>hF base hTB⟩
