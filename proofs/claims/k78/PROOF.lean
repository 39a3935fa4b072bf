import PyProof.Rows.All
import Wide.All
import OpenK.AllK
import Wide.FinOn
import HandS.ForMost
import HandS.Wide
import HandS.EndBits
import HandS.ForExc
import HandS.NoneIn
import HandS.Lambda
import KE.KDictKeyed
import KE.KDictWalk
import HandS.TupAny
import HandS.TupMul
import HandS.Zip
import HandS.Dict
import HandS.TupLen
import PyProof.Rows.SeqItemCall
import KE.DataEq
import HandS.Deep
import HandS.Style
import HandS.Defaults
import PyProof.ReprRoads
import PyProof.ReprLen
import HandS.SortInts
import KE.SortData
import HandS.AnyAll
import HandS.IsInst
import HandS.Iter
import KE.DataFind
import HandS.Conv
import KE.KUnpackStar
import HandS.ExcValue
import KE.GoesMore
import KE.GoesEnumKw
import HandS.SortKw
import KE.KDictItemsList
import HandS.ExcOwn
import HandS.TryOnly
import PyProof.ExcBaseAll.ZeroDivisionError
import HandS.Flow
import KE.KDictCopyH
import HandS.DictComp
import KE.KDictPairs
import KE.DataMinMax
import KE.GoesEnum
import HandS.TupLe
import HandS.Sort
import HandS.TupSets
import PyProof.WalksMore
import PyProof.SeqIndex
import HandS.HeadHook3
import HandS.Text
import HandS.FStr
import HandS.RaiseMore
import PyProof.StrLawsRepr
import KE.KTryMore
import KE.KExcIs
import HandS.ExcIs
import HandS.ExcField
import KE.KDictSum
import PyProof.WalkInts
import PyProof.StrLaws
import HandS.StrMore
import HandS.Exc
import HandS.Set
import HandS.ExcInit
import KE.KExcInit
import PyProof.ExcBaseAll.LookupError
import HandS.ClsMeth
import HandS.EndTab
import KE.KNestM
import KE.KMinKey
import PyProof.StrLawsFirst
import KE.IntTextLaws
import PyProof.Rows.ReprOcc
import KE.KIntText
import PyProof.Rows.StrRev
import KE.KLam
import PySem.Challenge.RW_crossmarks_k78_shares_written_and_read
set_option Elab.async false
set_option linter.all false
set_option maxRecDepth 100000
namespace Xm
open PySem PySem.Spec PyProof.Rows L2
abbrev D:=PyData
structure Kx where
 K:PySem.W.Frag
 P:Program
 w:World
 mg:Str→Option Value
abbrev kxOf (X:Cx):Kx:=⟨X.K,X.prog,X.w,X.mg⟩
structure Ex where
 cls:Str
 fs:List (Str × D)
inductive Ob where
 | nkd (ps:List (Option Key × D))
 | exc (x:Ex)
 | fnc (a:Addr)
inductive Slot where
 | no
 | dat (d:D)
 | own (xs:List D)
 | pen (xs:List D)
 | dct (kvs:List (D × D))
 | pdc (kvs:List (D × D))
 | obj (o:Ob)
abbrev AS:=List Slot
abbrev EF:=AS→Option (D × AS)
abbrev BF:=AS→Option (Bool × AS)
abbrev LF:=AS→Option (List D × AS)
structure Ct where
 H0:Hp
 F0:Hp
 pen:Option Addr
 W:WX
 tb:Option Str:=none
 pl:Option Addr:=pen
theorem same_rd {F G:Hp} {a:Addr} {u:HO} (e:Same F G) (h:Rd F a u):Rd G a u:=by
 rcases h with h | ⟨o,h⟩
 ·exact .inl (e _ _ h)
 ·exact .inr ⟨o,e _ _ h⟩
def TupQ (K:PySem.W.Frag) (H:Hp) (a:Addr) (xs:List V):Prop:=
 (∃ o:Obj,H a=some (.frz o (.tup xs))∧o.dict=none)∨
  ∃ (o:Obj) (its:Array Value) (n:Nat),K.lookup a=some o∧o.cls=.type "tuple" ∧ o.dict=none∧o.data=.seq its n∧its.size ≤ sizeLine∧Vals xs its.toList
theorem TupQ.sq {K:PySem.W.Frag} {H:Hp} {a:Addr} {xs:List V} (h:TupQ K H a xs):SqT K H a xs:=by
 rcases h with ⟨o,h,_⟩ | ⟨o,its,n,h1,h2,_,h3,h4,h5⟩
 ·exact .inl (.inr ⟨o,h⟩)
 ·exact .inr ⟨o,its,n,h1,h2,h3,h4,h5⟩
theorem TupQ.up {K:PySem.W.Frag} {F G:Hp} {a:Addr} {xs:List V} (h:TupQ K F a xs) (e:Same F G):TupQ K G a xs:=by
 rcases h with ⟨o,h,d⟩ | h
 ·exact .inl ⟨o,e _ _ h,d⟩
 ·exact .inr h
theorem sqt_up {K:Kx} {F G:Hp} {a:Addr} {xs:List V} (e:Same F G) (h:TupQ K.K F a xs):SqT K.K G a xs:=(h.up e).sq
abbrev tupO (its:List Value):Obj:={ cls:=.type "tuple", data:=.seq its.toArray }
theorem TupQ.new {K:PySem.W.Frag} {H:Hp} {a:Addr} {xs:List V} {its:List Value} (h:H a=some (.frz (tupO its) (.tup xs))):TupQ K H a xs:=.inl ⟨_,h,rfl⟩
theorem tupN_ok {P:Program} {w:World} {H:Hp} {h:Heap} {a:Addr} {xs:List V} {its:List Value} (hz:xs.length ≤ sizeLine) (r:Vals xs its) (e:h.get? a=some (tupO its)):ObjOk P w H h a (.frz (tupO its) (.tup xs)):=⟨e,hz,its,r,⟨_,e,rfl,_,rfl⟩⟩
theorem sql_up {K:Kx} {F G:Hp} {a:Addr} {xs:List V} (e:Same F G) (h:SqL K.K F a xs):SqL K.K G a xs:=by
 rcases h with h | h
 ·exact .inl (same_rd e h)
 ·exact .inr h
mutual
def keyOf:D→Option NestedKey
 | .none=>some .none
 | .bool b=>some (.num (if b=true then 1 else 0))
 | .int i=>some (.num i)
 | .str x=>some (.text x)
 | .tuple ds=>(keysOf ds).map .tup
 | .list _=>none
 | .dict _=>none
def keysOf:List D→Option (List NestedKey)
 | []=>some []
 | d::ds=>(keyOf d).bind fun k=>(keysOf ds).map (k::·)
end
def keyD:Key→D
 | .inl i=>.int i
 | .inr x=>.str x
abbrev Row:=NestedKey × Addr × V
def dtO (K:Kx) (a:Addr) (rows:List Row):HO:=.ext fun h=>(a == sysModules)=false∧(rows.map (·.1)).Nodup∧∃ (o:Obj) (es:Array DictEntry) (ep:Nat) (xs:List (NestedKey × Addr × Value)),
 h.get? a=some o∧o.ExactDict∧o.data=.dict es ep∧es.toList=xs.map (entryOfKey (nestedKind K.P K.w))∧Paired (fun (r:Row) (x:NestedKey × Addr × Value)=>r.1=x.1∧r.2.1=x.2.1∧RelV r.2.2 x.2.2) rows xs
mutual
inductive Dp (K:Kx) (H:Hp):V→D→Prop
 | non:Dp K H .non .none
 | bl (b:Bool):Dp K H (.bl b) (.bool b)
 | int (i:Int):Dp K H (.int i) (.int i)
 | str (x:Str):Dp K H (.str x) (.str x)
 | lst {a:Addr} {xs:List V} {ds:List D}:SqL K.K H a xs→DpAll K H xs ds→Dp K H (.ref a) (.list ds)
 | tup {a:Addr} {xs:List V} {ds:List D}:TupQ K.K H a xs→DpAll K H xs ds→Dp K H (.ref a) (.tuple ds)
 | dtp {a:Addr} {od:Obj} {rows:List Row} {kvs:List (D × D)} {ks vs:List D} {ws:List V}:H a=some (.frz od (dtO K a rows))→ks=kvs.map (·.1)→vs=kvs.map (·.2)→rows.length ≤ sizeLine→keysOf ks=some (rows.map (·.1))→(∀ r ∈ rows,r.1.depth ≤ 8)→
   ws=rows.map (fun r=>V.ref r.2.1)→DpAll K H ws ks→DpAll K H (rows.map (·.2.2)) vs→Dp K H (.ref a) (.dict kvs)
 | dky {a:Addr} {od:Obj} {ps:List (Key × V)} {kvs:List (D × D)} {vs:List D}:H a=some (.frz od (.dK ps))→kvs.map (·.1)=ps.map (fun p=>keyD p.1)→vs=kvs.map (·.2)→ps.length ≤ sizeLine→DpAll K H (ps.map (·.2)) vs→Dp K H (.ref a) (.dict kvs)
inductive DpAll (K:Kx) (H:Hp):List V→List D→Prop
 | nil:DpAll K H [] []
 | cons {v:V} {vs:List V} {d:D} {ds:List D}:Dp K H v d→DpAll K H vs ds→DpAll K H (v::vs) (d::ds)
end
mutual
theorem Dp_up {K:Kx} {F G:Hp} {d:D} {v:V} (h:Dp K F v d) (e:Same F G):Dp K G v d:=match h with
 | .non=>.non
 | .bl b=>.bl b
 | .int i=>.int i
 | .str x=>.str x
 | .lst hs ha=>.lst (sql_up e hs) (DpAll_up ha e)
 | .tup hs ha=>.tup (hs.up e) (DpAll_up ha e)
 | .dtp ha e1 e2 hl hk hd e3 h1 h2=>.dtp (e _ _ ha) e1 e2 hl hk hd e3 (DpAll_up h1 e) (DpAll_up h2 e)
 | .dky ha e1 e2 hl h2=>.dky (e _ _ ha) e1 e2 hl (DpAll_up h2 e)
theorem DpAll_up {K:Kx} {F G:Hp} {ds:List D} {vs:List V} (h:DpAll K F vs ds) (e:Same F G):DpAll K G vs ds:=match h with
 | .nil=>.nil
 | .cons h1 h2=>.cons (Dp_up h1 e) (DpAll_up h2 e)
end
theorem DpAll_len {K:Kx} {F:Hp}:∀ {vs:List V} {ds:List D},DpAll K F vs ds→vs.length=ds.length
 | _,_,.nil=>rfl
 | _,_,.cons _ h=>by simp [DpAll_len h]
theorem DpAll_get {K:Kx} {F:Hp}:∀ {vs:List V} {ds:List D} {i:Nat} {d:D},DpAll K F vs ds→ds[i]?=some d→∃ v,vs[i]?=some v∧Dp K F v d
 | _,_,_,_,.nil,e=>by simp at e
 | _,_,0,_,.cons h _,e=>by simp at e; subst e; exact ⟨_,rfl,h⟩
 | _,_,i + 1,_,.cons _ h,e=>by
  obtain ⟨v,h1,h2⟩:=DpAll_get (i:=i) h (by simpa using e)
  exact ⟨v,by simpa using h1,h2⟩
theorem DpAll_app {K:Kx} {F:Hp}:∀ {vs us:List V} {ds es:List D},DpAll K F vs ds→DpAll K F us es→DpAll K F (vs++us) (ds++es)
 | _,_,_,_,.nil,h=>h
 | _,_,_,_,.cons h1 h2,h=>.cons h1 (DpAll_app h2 h)
theorem DpAll_set {K:Kx} {F:Hp}:∀ {vs:List V} {ds:List D} {v:V} {d:D} (i:Nat),DpAll K F vs ds→Dp K F v d→DpAll K F (vs.set i v) (ds.set i d)
 | _,_,_,_,_,.nil,_=>.nil
 | _,_,_,_,0,.cons _ h2,h=>.cons h h2
 | _,_,_,_,i + 1,.cons h1 h2,h=>.cons h1 (DpAll_set i h2 h)
theorem DpAll_take {K:Kx} {F:Hp}:∀ {vs:List V} {ds:List D} (n:Nat),DpAll K F vs ds→DpAll K F (vs.take n) (ds.take n)
 | _,_,0,_=>.nil
 | _,_,_ + 1,.nil=>.nil
 | _,_,n + 1,.cons h1 h2=>.cons h1 (DpAll_take n h2)
theorem DpAll_drop {K:Kx} {F:Hp}:∀ {vs:List V} {ds:List D} (n:Nat),DpAll K F vs ds→DpAll K F (vs.drop n) (ds.drop n)
 | _,_,0,h=>h
 | _,_,_ + 1,.nil=>.nil
 | _,_,n + 1,.cons h1 h2=>DpAll_drop n h2
structure Gr (F H F' H':Hp):Prop where
 ff:Same F F'
 fh:Same F' H'
 hh:Same H H'
 nw:∀ a,F' a≠none→F a≠none∨H a=none
theorem Gr.refl {F H:Hp} (e:Same F H):Gr F H F H:=⟨Same.refl _,e,Same.refl _,fun _ h=>.inl h⟩
theorem same_upd {H:Hp} {p:Addr} {o:HO} (h:H p=none):Same H (upd H p o):=fun b x e=>by
 rw [upd_ne (ne_of_none e h)]
 exact e
theorem upd_mono {F H:Hp} {p:Addr} {o:HO} (e:Same F H) (h:H p=none):Same (upd F p o) (upd H p o):=fun b x q=>by
 by_cases hb:b=p
 ·subst hb
  rw [upd_same] at q ⊢
  exact q
 ·rw [upd_ne hb] at q ⊢
  exact e b x q
theorem Gr.new {F H:Hp} {p:Addr} {o:HO} (e:Same F H) (h:H p=none):Gr F H (upd F p o) (upd H p o):=
 ⟨same_upd (e.free h),upd_mono e h,same_upd h,fun a q=>by
  by_cases ha:a=p
  ·subst ha; exact .inr h
  ·rw [upd_ne ha] at q; exact .inl q⟩
def Lst (K:Kx) (F H:Hp) (a:Addr) (xs:List D):Prop:=F a=none∧∃ vs,H a=some (.lst vs)∧DpAll K F vs xs
def DR (K:Kx) (F:Hp) (a:Addr) (u:HO) (kvs:List (D × D)):Prop:=
 (∃ rows:List Row,u=dtO K a rows∧rows.length ≤ sizeLine∧keysOf (kvs.map (·.1))=some (rows.map (·.1))∧(∀ r ∈ rows,r.1.depth ≤ 8)∧DpAll K F (rows.map fun r=>V.ref r.2.1) (kvs.map (·.1))∧DpAll K F (rows.map (·.2.2)) (kvs.map (·.2)))∨
 ∃ ps:List (Key × V),u=.dK ps∧kvs.map (·.1)=ps.map (fun p=>keyD p.1)∧ps.length ≤ sizeLine∧DpAll K F (ps.map (·.2)) (kvs.map (·.2))
def Dct (K:Kx) (F H:Hp) (a:Addr) (kvs:List (D × D)):Prop:=F a=none∧∃ u,H a=some u∧DR K F a u kvs
theorem DR.up {K:Kx} {F G:Hp} {a:Addr} {u:HO} {kvs:List (D × D)} (h:DR K F a u kvs) (e:Same F G):DR K G a u kvs:=by
 rcases h with ⟨rows,h1,h2,h3,h4,h5,h6⟩ | ⟨ps,h1,h2,h3,h4⟩
 ·exact .inl ⟨rows,h1,h2,h3,h4,DpAll_up h5 e,DpAll_up h6 e⟩
 ·exact .inr ⟨ps,h1,h2,h3,DpAll_up h4 e⟩
def ExOk (K:Kx) (F:Hp) (x:Ex) (cls:Value) (d:Option Addr):Prop:=
 K.mg x.cls=some cls∧((x.fs=[]∧d=none)∨∃ (dd:Addr) (fs:List (Str × V)),d=some dd∧F dd=some (.xd fs)∧fs.map (·.1)=x.fs.map (·.1)∧DpAll K F (fs.map (·.2)) (x.fs.map (·.2)))
theorem ExOk.up {K:Kx} {F G:Hp} {x:Ex} {cls:Value} {d:Option Addr} (h:ExOk K F x cls d) (e:Same F G):ExOk K G x cls d:=by
 obtain ⟨h1,h2 | ⟨dd,fs,e1,e2,e3,e4⟩⟩:=h
 ·exact ⟨h1,.inl h2⟩
 ·exact ⟨h1,.inr ⟨dd,fs,e1,e _ _ e2,e3,DpAll_up e4 e⟩⟩
def keptO (cls:Value) (d:Option Addr) (a:Addr):HO:=.ext fun h=>∃ (oe:Obj) (vs:Array Value),h.get? a=some oe∧Zc cls d oe∧oe.data=.fields vs
def nkO (K:Kx) (a:Addr) (rows:List (Option Key × V)):HO:=.ext fun h=>(a == sysModules)=false∧∃ vs:List (Option Key × Value),Paired (fun (r:Option Key × V) (v:Option Key × Value)=>r.1=v.1∧RelV r.2 v.2) rows vs∧h.DictOf (noneKind K.P K.w) a vs
def ObOk (K:Kx) (F:Hp) (a:Addr):Ob→Prop
 | .nkd ps=>∃ (od:Obj) (rows:List (Option Key × V)),F a=some (.frz od (nkO K a rows))∧rows.map (·.1)=ps.map (·.1)∧DpAll K F (rows.map (·.2)) (ps.map (·.2))
 | .exc x=>∃ (cls:Value) (d:Option Addr),F a=some (keptO cls d a)∧ExOk K F x cls d
 | .fnc f=>a=f
theorem ObOk.up {K:Kx} {F G:Hp} {a:Addr}:∀ {o:Ob},ObOk K F a o→Same F G→ObOk K G a o
 | .nkd ps,⟨od,rows,h1,h2,h3⟩,e=>⟨od,rows,e _ _ h1,h2,DpAll_up h3 e⟩
 | .exc x,⟨cls,d,h1,h2⟩,e=>⟨cls,d,e _ _ h1,h2.up e⟩
 | .fnc f,h,_=>h
def PenAt (C:Ct) (a:Addr):Prop:=C.pl=some a∧(C.H0 a=none∨C.pen=some a)
def SlotOk (K:Kx) (C:Ct) (F H:Hp):Slot→Option (Option V)→Prop
 | .no,_=>True
 | .dat d,x=>∃ v,x=some (some v)∧Dp K F v d
 | .own xs,x=>∃ a,x=some (some (.ref a))∧C.H0 a=none∧Lst K F H a xs
 | .pen xs,x=>∃ a,x=some (some (.ref a))∧PenAt C a∧Lst K F H a xs
 | .dct kvs,x=>∃ a,x=some (some (.ref a))∧C.H0 a=none∧Dct K F H a kvs
 | .pdc kvs,x=>∃ a,x=some (some (.ref a))∧PenAt C a∧Dct K F H a kvs
 | .obj o,x=>∃ a,x=some (some (.ref a))∧ObOk K F a o
def Slot.mu:Slot→Bool
 | .no=>false
 | .dat _=>false
 | .own _=>true
 | .pen _=>true
 | .dct _=>true
 | .pdc _=>true
 | .obj _=>false
def Mu (st:AS) (i:Nat):Prop:=∃ s:Slot,st[i]?=some s∧s.mu=true
def TabOk (C:Ct) (F H:Hp):Prop:=∀ q,C.tb=some q→∃ (P:Addr) (ps:Array Value),C.pen=some P∧C.F0 P=none∧H P=some (.tbl ps)∧TriplesOk ps.toList∧∀ (pos:Pos) (cv:Value),codeAmong pos ps.toList=some cv→∃ c,cv=.ref c∧F c=some (LamX.CodeO c q)
theorem TabOk.up {C:Ct} {F F' H H':Hp} (h:TabOk C F H) (ff:Same F F') (hh:∀ P ps,C.pen=some P→H P=some (.tbl ps)→H' P=some (.tbl ps)):TabOk C F' H':=fun q e=>by
 obtain ⟨P,ps,h1,h2,h4,h5,h6⟩:=h q e
 refine ⟨P,ps,h1,h2,hh P ps h1 h4,h5,fun pos cv hc=>?_⟩
 obtain ⟨c,e1,e2⟩:=h6 pos cv hc
 exact ⟨c,e1,ff _ _ e2⟩
structure Rel (K:Kx) (C:Ct) (F:Hp) (st:AS) (σ:L2.St) (H:Hp):Prop where
 len:st.length=σ.length
 f0:Same C.F0 F
 fh:Same F H
 old:∀ a o,C.H0 a=some o→C.pen≠some a→H a=some o
 new:∀ a,C.F0 a=none→C.H0 a≠none→F a=none
 slot:∀ (i:Nat) (s:Slot),st[i]?=some s→SlotOk K C F H s σ[i]?
 apart:∀ (i j:Nat) (a:Addr),Mu st i→Mu st j→σ[i]?=some (some (.ref a))→σ[j]?=some (some (.ref a))→i=j
 penh:∀ p,C.pen=some p→C.H0 p≠none
 pent:∀ p,C.pen=some p→H p≠none
 tab:TabOk C F H
section
variable {K:Kx} {C:Ct} {F F' H H':Hp} {st:AS} {σ:L2.St}
theorem Lst.grow {a:Addr} {xs:List D} (h:Lst K F H a xs) (g:Gr F H F' H'):Lst K F' H' a xs:=by
 obtain ⟨h1,vs,h2,h3⟩:=h
 refine ⟨?_,vs,g.hh _ _ h2,DpAll_up h3 g.ff⟩
 cases e:F' a with
 | none=>rfl
 | some o=>
  rcases g.nw a (by rw [e]; simp) with z | z
  ·exact absurd h1 z
  ·rw [h2] at z; cases z
theorem Dct.grow {a:Addr} {kvs:List (D × D)} (h:Dct K F H a kvs) (g:Gr F H F' H'):Dct K F' H' a kvs:=by
 obtain ⟨h1,u,h2,h3⟩:=h
 refine ⟨?_,u,g.hh _ _ h2,h3.up g.ff⟩
 cases e:F' a with
 | none=>rfl
 | some o=>
  rcases g.nw a (by rw [e]; simp) with z | z
  ·exact absurd h1 z
  ·rw [h2] at z; cases z
theorem Rel.grow (R:Rel K C F st σ H) (g:Gr F H F' H'):Rel K C F' st σ H' where
 len:=R.len
 f0:=R.f0.trans g.ff
 fh:=g.fh
 old:=fun a o h hp=>g.hh _ _ (R.old a o h hp)
 new:=fun a h0 h1=>by
  have hF:=R.new a h0 h1
  cases e:F' a with
  | none=>rfl
  | some o=>
   rcases g.nw a (by rw [e]; simp) with z | z
   ·exact absurd hF z
   ·by_cases hp:C.pen=some a
    ·exfalso
     exact R.pent a hp z
    ·cases q:C.H0 a with
     | none=>exact absurd q h1
     | some u=>rw [R.old a u q hp] at z; cases z
 slot:=fun i s h=>by
  have q:=R.slot i s h
  cases s with
  | no=>trivial
  | dat d=>
   obtain ⟨v,h1,h2⟩:=q
   exact ⟨v,h1,Dp_up h2 g.ff⟩
  | own xs=>
   obtain ⟨a,h1,h2,h3⟩:=q
   exact ⟨a,h1,h2,h3.grow g⟩
  | pen xs=>
   obtain ⟨a,h1,h2,h3⟩:=q
   exact ⟨a,h1,h2,h3.grow g⟩
  | dct kvs=>
   obtain ⟨a,h1,h2,h3⟩:=q
   exact ⟨a,h1,h2,h3.grow g⟩
  | pdc kvs=>
   obtain ⟨a,h1,h2,h3⟩:=q
   exact ⟨a,h1,h2,h3.grow g⟩
  | obj o=>
   obtain ⟨a,h1,h2⟩:=q
   exact ⟨a,h1,h2.up g.ff⟩
 apart:=R.apart
 penh:=R.penh
 pent:=fun p hp=>by
  cases e:H p with
  | none=>exact absurd e (R.pent p hp)
  | some o=>rw [g.hh _ _ e]; simp
 tab:=R.tab.up g.ff fun P ps _ e=>g.hh _ _ e
end
end Xm
set_option maxHeartbeats 2000000
namespace Xm
open PySem PySem.Spec PyProof.Rows L2
section
variable {X:Cx}
def rSlN (K:PySem.W.Frag):V→Option Int→Option Int→Hp→VK→Prop:=fun x lo hi H Q=>∃ a xs,x=.ref a∧SqT K H a xs∧
 (HT.sIx xs.length 0 lo=0∧HT.sIx xs.length xs.length hi=xs.length→Q (.ref a) H)∧(¬ (HT.sIx xs.length 0 lo=0∧HT.sIx xs.length xs.length hi=xs.length)→∀ (p:Addr) (its:List Value),H p=none→Q (.ref p) (upd H p (.frz (tupO its) (.tup (cutV xs lo hi)))))
theorem sl_tupN:SlR X (rSlN X.K):=by
 intro pins s σ H x v vl vu lo hi sl Q I rx hs pl pu h
 obtain ⟨a,xs,rfl,hx,q1,q2⟩:=h
 cases rx
 obtain ⟨its,r,ht,hz⟩:=I.tuple hx
 have hlen:its.toArray.size=xs.length:=by rw [List.size_toArray]; exact r.length.symm
 refine ⟨"tuple", _,PyProof.Rows.slot_tuple_getitem.lookup,ht.typeIs,?_⟩
 by_cases hw:HT.sIx xs.length 0 lo=0∧HT.sIx xs.length xs.length hi=xs.length
 ·exact getItem_tuple_whole ht hs pl pu (by rw [hlen]; exact hw) ⟨.ref a,H,I,rfl,q1 hw⟩
 ·refine HT.getItem_tuple_cut ht hs pl pu (by rw [hlen]; exact hw) ?_ (by rw [hlen]; exact hz)
  rw [hlen]
  exact ⟨.ref s.heap.objs.size,_,I.laid (t':=s.toks) (fun b ob q=>Heap.get?_push_of_some _ q) (Nat.le_refl _) (tupN_ok (Nat.le_trans (cutV_length xs lo hi) hz) ((r.drop (HT.sIx xs.length 0 lo)).take (HT.sIx xs.length xs.length hi - HT.sIx xs.length 0 lo)) (Heap.get?_push_size _ rfl)),rfl,q2 hw _ _ (I.hok.fresh (Nat.le_refl _))⟩
def rCatN (K:PySem.W.Frag):R2:=fun x y H Q=>∃ a b xs ys,x=.ref a∧y=.ref b∧SqT K H a xs∧SqT K H b ys∧xs.length + ys.length ≤ sizeLine∧
 (xs=[]→Q (.ref b) H)∧(xs≠[]→ys=[]→Q (.ref a) H)∧(xs≠[]→ys≠[]→∀ (p:Addr) (its:List Value),H p=none→Q (.ref p) (upd H p (.frz (tupO its) (.tup (xs++ys)))))
theorem op_catN:OpR X (binaryOp .Add) (rCatN X.K):=by
 intro pins s σ H x y v u Q I rx ry h
 obtain ⟨a,b,xs,ys,rfl,rfl,ha,hb,hz,q0,q1,q2⟩:=h
 cases rx
 cases ry
 obtain ⟨its,r1,p1,_⟩:=I.tuple ha
 obtain ⟨its2,r2,p2,_⟩:=I.tuple hb
 by_cases hx:xs=[]
 ·subst hx
  cases r1
  exact cat_tup0 p1 p2 ⟨.ref b,H,I,rfl,q0 rfl⟩
 ·refine HT.cat_tup p1 p2 (fun z=>hx (r1.nil_iff.mp z)) (fun z=>⟨.ref a,H,I,rfl,q1 hx (r2.nil_iff.mp z)⟩) (fun z=>?_) (by rw [← r1.length,← r2.length]; exact hz)
  exact ⟨.ref s.heap.objs.size,_,I.laid (t':=s.toks) (fun b ob q=>Heap.get?_push_of_some _ q) (Nat.le_refl _) (tupN_ok (by rw [List.length_append]; exact hz) (r1.append r2) (Heap.get?_push_size _ rfl)),rfl,q2 hx (fun w=>z (r2.nil_iff.mpr w)) _ _ (I.hok.fresh (Nat.le_refl _))⟩
end
end Xm
namespace Xm
open PySem PySem.Spec PyProof.Rows L2 RZ
end Xm
namespace Xm
open PySem PySem.Spec PyProof.Rows L2
section
variable {X:Cx} {pins:List (Addr × Obj)} {σ:L2.St} {H:Hp} {s:Shared}
mutual
theorem Dp.nested (I:Inv X pins σ H s):∀ (d:D) (v:V) (u:Value) (k:NestedKey),keyOf d=some k→Dp (kxOf X) H v d→RelV v u→NestedIs s.heap k u
 | .none,_,_,_,e,h,r=>by
  cases h
  cases r
  cases e
  exact .none
 | .bool b,_,_,_,e,h,r=>by
  cases h
  cases r
  cases e
  exact .bool rfl
 | .int i,_,_,_,e,h,r=>by
  cases h
  obtain ⟨t,rfl⟩:=r
  cases e
  exact .int i t
 | .str x,_,_,_,e,h,r=>by
  cases h
  obtain ⟨t,rfl⟩:=r
  cases e
  exact .text x t
 | .tuple ds,_,_,k,e,h,r=>by
  cases h with
  | tup hs ha=>
   cases r
   obtain ⟨its,rv,⟨o,ho,hc,n,hd⟩,_⟩:=I.tuple hs.sq
   obtain ⟨ks,ek,rfl⟩:=Option.map_eq_some_iff.mp e
   exact .tup ho hc hd (by simpa using Dp.nestedAll I ds _ its ks ek ha rv)
 | .list _,_,_,_,e,_,_=>by cases e
 | .dict _,_,_,_,e,_,_=>by cases e
theorem Dp.nestedAll (I:Inv X pins σ H s):∀ (ds:List D) (vs:List V) (us:List Value) (ks:List NestedKey),keysOf ds=some ks→DpAll (kxOf X) H vs ds→Vals vs us→NestedAll s.heap ks us
 | [],_,_,_,e,h,r=>by
  cases h
  cases r
  cases e
  exact .nil
 | d::ds,_,_,ks,e,h,r=>by
  cases h with
  | cons h1 h2=>
   cases r with
   | cons r1 r2=>
    simp only [keysOf] at e
    obtain ⟨k,e1,e⟩:=Option.bind_eq_some_iff.mp e
    obtain ⟨ks',e2,rfl⟩:=Option.map_eq_some_iff.mp e
    exact .cons (Dp.nested I d _ _ k e1 h1 r1) (Dp.nestedAll I ds _ _ ks' e2 h2 r2)
end
end
def atomK:D→Bool
 | .int _=>true
 | .str _=>true
 | _=>false
def tupK:D→Bool
 | .tuple ds=>match keysOf ds with
  | some ks=>decide ((NestedKey.tup ks).depth ≤ 8)
  | none=>false
 | _=>false
def keyN:Key→NestedKey
 | .inl i=>.num i
 | .inr x=>.text x
theorem keyOf_keyD (k:Key):keyOf (keyD k)=some (keyN k):=by cases k <;> rfl
theorem keyN_inj {a b:Key} (h:keyN a=keyN b):a=b:=by
 cases a <;> cases b <;> simp [keyN] at h <;> rw [h]
theorem atomK_key {d:D} (h:atomK d=true):∃ k,d=keyD k:=by
 cases d with
 | int i=>exact ⟨.inl i,rfl⟩
 | str x=>exact ⟨.inr x,rfl⟩
 | _=>cases h
theorem tupK_key {d:D} (h:tupK d=true):∃ ds k,d=.tuple ds∧keyOf d=some k∧k.depth ≤ 8:=by
 cases d with
 | tuple ds=>
  have h:(match keysOf ds with | some ks=>decide ((NestedKey.tup ks).depth ≤ 8) | none=>false)=true:=h
  cases e:keysOf ds with
  | none=>rw [e] at h; cases h
  | some ks=>
   rw [e] at h
   exact ⟨ds,.tup ks,rfl,by simp [keyOf,e],of_decide_eq_true h⟩
 | _=>cases h
theorem tup_not_atom {d:D} (h:tupK d=true):atomK d=false:=by
 cases d <;> first | rfl | cases h
def dFind (kvs:List (D × D)) (k:D):Option D:=(kvs.find? fun p=>decide (keyOf p.1=keyOf k)).map (·.2)
def dGet (kvs:List (D × D)) (k:D):Option (Option D):=if (atomK k && kvs.all fun p=>atomK p.1) || (tupK k && kvs.all fun p=>tupK p.1) then some (dFind kvs k) else none
def OptR (K:Kx) (F:Hp):Option D→Option Value→Prop
 | some d,some w=>∃ v,RelV v w∧Dp K F v d
 | none,none=>True
 | _,_=>False
def PairR {κ:Type} (K:Kx) (F:Hp) (kf:κ→NestedKey) (p:D × D) (q:κ × Value):Prop:=keyOf p.1=some (kf q.1)∧∃ v,RelV v q.2∧Dp K F v p.2
theorem find_rel {κ:Type} [DecidableEq κ] {K:Kx} {F:Hp} {kf:κ→NestedKey} (inj:∀ a b,kf a=kf b→a=b) {kvs:List (D × D)} {vs:List (κ × Value)} {kd:D} {k:κ} (r:Paired (PairR K F kf) kvs vs) (ek:keyOf kd=some (kf k)):OptR K F (dFind kvs kd) (valueAt vs k):=by
 unfold dFind valueAt
 induction r with
 | nil=>exact True.intro
 | @cons p q ps qs h t ih=>
  by_cases e:q.1=k
  ·have e2:decide (keyOf p.1=keyOf kd)=true:=decide_eq_true (by rw [h.1,ek,e])
   rw [List.find?_cons_of_pos (p:=fun p:D × D=>decide (keyOf p.1=keyOf kd)) e2,List.find?_cons_of_pos (p:=fun kv:κ × Value=>decide (kv.1=k)) (decide_eq_true e)]
   exact h.2
  ·have e2:¬ decide (keyOf p.1=keyOf kd)=true:=fun z=>e (inj _ _ (Option.some.inj (by rw [← h.1,← ek]; exact of_decide_eq_true z)))
   rw [List.find?_cons_of_neg (p:=fun p:D × D=>decide (keyOf p.1=keyOf kd)) e2,List.find?_cons_of_neg (p:=fun kv:κ × Value=>decide (kv.1=k)) (by simpa using e)]
   exact ih
structure MixAt (K:Kx) (F:Hp) (h:Heap) (a:Addr) (kvs:List (D × D)) (vs:List (Key × Value)):Prop where
 sm:(a == sysModules)=false
 len:vs.length ≤ sizeLine
 at_:h.DictOf (mixKind K.P K.w) a vs
 rel:Paired (PairR K F keyN) kvs vs
structure NestAt (K:Kx) (F:Hp) (h:Heap) (a:Addr) (kvs:List (D × D)) (vs:List (NestedKey × Value)):Prop where
 sm:(a == sysModules)=false
 len:vs.length ≤ sizeLine
 at_:h.DictKeyed (nestedKind K.P K.w) a vs
 rel:Paired (PairR K F id) kvs vs
section
variable {X:Cx} {pins:List (Addr × Obj)} {σ:L2.St} {H F:Hp} {s:Shared} {a:Addr} {u:HO} {kvs:List (D × D)}
theorem mix_empty {h:Heap} {P:Program} {w:World} {o:Obj} {es:Array DictEntry} {ep:Nat} (ho:h.get? a=some o) (hx:o.ExactDict) (hd:o.data=.dict es ep) (he:es.toList=[]):h.DictOf (mixKind P w) a []:=by
 have:es=#[]:=by cases es; simpa using he
 subst this
 exact ⟨o,#[],ep,ho,hx,hd,fun j hj=>by simp at hj,by rw [show (#[]:Array DictEntry).toList=[] from rfl]; exact .nil,List.nodup_nil⟩
theorem pair_keys {ps:List (Key × V)} {vs:List (Key × Value)} {kvs:List (D × D)} (r:KV ps vs) (e:kvs.map (·.1)=ps.map (fun p=>keyD p.1)) (h:DpAll (kxOf X) F (ps.map (·.2)) (kvs.map (·.2))):Paired (PairR (kxOf X) F keyN) kvs vs:=by
 induction r generalizing kvs with
 | nil=>
  cases kvs with
  | nil=>exact .nil
  | cons p q=>cases e
 | @cons p q ps qs hq t ih=>
  cases kvs with
  | nil=>cases e
  | cons k ks=>
   simp only [List.map_cons] at e h
   obtain ⟨e1,e2⟩:=List.cons.inj e
   cases h with
   | cons h1 h2=>exact .cons ⟨by rw [e1,keyOf_keyD,hq.1],p.2,hq.2,h1⟩ (ih e2 h2)
theorem rows_pair {rows:List Row} {xs:List (NestedKey × Addr × Value)} {kvs:List (D × D)} (r:Paired (fun (r:Row) (x:NestedKey × Addr × Value)=>r.1=x.1∧r.2.1=x.2.1∧RelV r.2.2 x.2.2) rows xs) (ek:keysOf (kvs.map (·.1))=some (rows.map (·.1)))
  (h:DpAll (kxOf X) F (rows.map (·.2.2)) (kvs.map (·.2))):Paired (PairR (kxOf X) F id) kvs (pairsH xs):=by
 induction r generalizing kvs with
 | nil=>
  cases kvs with
  | nil=>exact .nil
  | cons p q=>cases h
 | @cons p q ps qs hq t ih=>
  cases kvs with
  | nil=>cases h
  | cons k ks=>
   simp only [List.map_cons,keysOf] at ek h
   obtain ⟨k0,e1,e⟩:=Option.bind_eq_some_iff.mp ek
   obtain ⟨ks',e2,e3⟩:=Option.map_eq_some_iff.mp e
   obtain ⟨e4,e5⟩:=List.cons.inj e3
   cases h with
   | cons h1 h2=>exact .cons ⟨by rw [e1,e4,hq.1]; rfl,p.2.2,hq.2.2,h1⟩ (ih (by rw [e2,e5]) h2)
theorem rd_ok (I:Inv X pins σ H s) (hu:Rd H a u):ObjOk X.prog X.w H s.heap a u:=by
 rcases hu with hu | ⟨o,hu⟩
 ·exact I.hok a _ hu
 ·exact (show ObjOk X.prog X.w H s.heap a (.frz o u) from I.hok a _ hu).2
theorem dr_mix (I:Inv X pins σ H s) (hu:Rd H a u) (dr:DR (kxOf X) F a u kvs) (c:(kvs.all fun p=>atomK p.1)=true):∃ vs,MixAt (kxOf X) F s.heap a kvs vs:=by
 rcases dr with ⟨rows,rfl,h2,h3,h4,h5,h6⟩ | ⟨ps,rfl,h2,h3,h4⟩
 ·obtain ⟨⟨sm,nd,o,es,ep,xs,ho,hx,hd,he,pr⟩,_⟩:=rd_ok I hu
  cases kvs with
  | nil=>
   have:rows=[]:=by
    cases rows with
    | nil=>rfl
    | cons r rs=>cases h6
   subst this
   cases pr
   exact ⟨[],sm,Nat.zero_le _,mix_empty ho hx hd he,.nil⟩
  | cons p ps=>
   exfalso
   obtain ⟨k,ek⟩:=atomK_key (by simpa using (List.all_eq_true.mp c) p (.head _))
   cases rows with
   | nil=>cases h6
   | cons r rs=>
    simp only [List.map_cons] at h5
    cases h5 with
    | cons h7 h8=>
     rw [ek] at h7
     cases k <;> cases h7
 ·obtain ⟨z,hd,vs,rel,dd⟩:=dk_rd I.hok hu
  exact ⟨vs,hd,by rw [← rel.length]; exact z,dd,pair_keys rel h2 h4⟩
theorem vals_all {rows:List Row} {xs:List (NestedKey × Addr × Value)} {ks:List D} (I:Inv X pins σ H s) (fh:Same F H) (r:Paired (fun (r:Row) (x:NestedKey × Addr × Value)=>r.1=x.1∧r.2.1=x.2.1∧RelV r.2.2 x.2.2) rows xs) (ek:keysOf ks=some (rows.map (·.1))) (hd:∀ r ∈ rows,r.1.depth ≤ 8)
  (h:DpAll (kxOf X) F (rows.map fun r=>V.ref r.2.1) ks):∀ x ∈ xs,(nestedKind X.prog X.w).is s.heap x.1 x.2.1:=by
 induction r generalizing ks with
 | nil=>exact fun x hx=>nomatch hx
 | @cons p q ps qs hq t ih=>
  cases ks with
  | nil=>cases h
  | cons k ks=>
   simp only [List.map_cons,keysOf] at ek h
   obtain ⟨k0,e1,e⟩:=Option.bind_eq_some_iff.mp ek
   obtain ⟨ks',e2,e3⟩:=Option.map_eq_some_iff.mp e
   obtain ⟨e4,e5⟩:=List.cons.inj e3
   cases h with
   | cons h1 h2=>
    intro x hx
    rcases List.mem_cons.mp hx with z | hx
    ·subst z
     refine ⟨?_,by rw [← hq.1]; exact hd p (.head _)⟩
     rw [← hq.1,← hq.2.1,← e4]
     exact Dp.nested I k _ _ k0 e1 (Dp_up h1 fh) rfl
    ·exact ih (by rw [e2,e5]) (fun r hr=>hd r (.tail _ hr)) h2 x hx
theorem rows_keys {rows:List Row} {xs:List (NestedKey × Addr × Value)} (pr:Paired (fun (r:Row) (x:NestedKey × Addr × Value)=>r.1=x.1∧r.2.1=x.2.1∧RelV r.2.2 x.2.2) rows xs):rows.map (·.1)=xs.map (·.1):=by
 induction pr with
 | nil=>rfl
 | cons h t ih=>simp only [List.map_cons,h.1,ih]
theorem dr_nest (I:Inv X pins σ H s) (fh:Same F H) (hu:Rd H a u) (dr:DR (kxOf X) F a u kvs) (c:(kvs.all fun p=>tupK p.1)=true):∃ vs,NestAt (kxOf X) F s.heap a kvs vs:=by
 rcases dr with ⟨rows,rfl,h2,h3,h4,h5,h6⟩ | ⟨ps,rfl,h2,h3,h4⟩
 ·obtain ⟨⟨sm,nd,o,es,ep,xs,ho,hx,hd,he,pr⟩,_⟩:=rd_ok I hu
  have hn:(xs.map (·.1)).Nodup:=by rw [← rows_keys pr]; exact nd
  exact ⟨pairsH xs,sm,by rw [pairsH_length,← pr.length]; exact h2,⟨xs,⟨o,es,ep,ho,hx,hd,he,vals_all I fh pr h3 h4 h5,hn⟩,rfl⟩,rows_pair pr h3 h6⟩
 ·obtain ⟨z,sm,vs,rel,dd⟩:=dk_rd I.hok hu
  cases kvs with
  | nil=>
   have:ps=[]:=by
    cases ps with
    | nil=>rfl
    | cons r rs=>cases h2
   subst this
   cases rel
   obtain ⟨o,es,ep,ho,hx,hd,_,pr,_⟩:=dd
   have he:es.toList=[]:=by
    have:=pr.length
    simpa using this
   exact ⟨[],sm,Nat.zero_le _,⟨[],⟨o,es,ep,ho,hx,hd,by simpa using he,(fun x hx=>nomatch hx),List.nodup_nil⟩,rfl⟩,.nil⟩
  | cons p q=>
   exfalso
   have:=tup_not_atom (by simpa using (List.all_eq_true.mp c) p (.head _))
   cases ps with
   | nil=>cases h2
   | cons r rs=>
    simp only [List.map_cons] at h2
    rw [(List.cons.inj h2).1] at this
    cases hk:r.1 <;> rw [hk] at this <;> cases this
end
theorem dGet_cases {kvs:List (D × D)} {k:D} {o:Option D} (e:dGet kvs k=some o):o=dFind kvs k∧((atomK k=true∧(kvs.all fun p=>atomK p.1)=true)∨(tupK k=true∧(kvs.all fun p=>tupK p.1)=true)):=by
 unfold dGet at e
 split at e
 ·rename_i h
  cases e
  simp only [Bool.or_eq_true,Bool.and_eq_true] at h
  exact ⟨rfl,h⟩
 ·cases e
theorem OptR.isSome {K:Kx} {F:Hp} {o:Option D} {x:Option Value} (h:OptR K F o x):o.isSome=x.isSome:=by
 cases o <;> cases x <;> first | rfl | exact h.elim
theorem room_nested {P:Program} {w:World} {A:Around} (h:A.units + 65 < cLine):(nestedKind P w).room A.in1:=by
 show A.in1.units + 8 < cLine
 have:A.in1.units=A.units + 1:=rfl
 omega
section
variable {X:Cx} {pins:List (Addr × Obj)} {σ:L2.St} {H F:Hp} {s:Shared} {a:Addr} {u:HO} {kvs:List (D × D)} {A:Around} {E Q:Value→Shared→Prop} {k:D} {yv:V} {y:Value} {o:Option D}
theorem key_mix {d:D} {v:V} {y:Value} {F:Hp} {K:Kx} (h:atomK d=true) (hd:Dp K F v d) (r:RelV v y):∃ q:Key,d=keyD q∧RelV (kV q) y:=by
 obtain ⟨q,rfl⟩:=atomK_key h
 cases q <;> (cases hd; exact ⟨_,rfl,r⟩)
theorem key_nest (I:Inv X pins σ H s) (fh:Same F H) (h:tupK k=true) (hd:Dp (kxOf X) F yv k) (r:RelV yv y):∃ (b:Addr) (q:NestedKey),y=.ref b∧keyOf k=some q∧(nestedKind X.prog X.w).is s.heap q b:=by
 obtain ⟨ds,q,rfl,e,hl⟩:=tupK_key h
 have hd2:=Dp_up hd fh
 have n:=Dp.nested I _ _ _ q e hd2 r
 cases hd with
 | tup hs ha=>
  cases r
  exact ⟨_,q,rfl,e,n,hl⟩
theorem d_item {d:D} (I:Inv X pins σ H s) (fh:Same F H) (ha:Rd H a u) (dr:DR (kxOf X) F a u kvs) (hk:Dp (kxOf X) F yv k) (ry:RelV yv y) (e:dGet kvs k=some (some d)) :
  ∃ v w,RelV v w∧Dp (kxOf X) F v d∧∀ {A:Around} {E Q:Value→Shared→Prop},A.units + 65 < cLine→(∀ s',Inv X pins σ H s'→Q w s')→wpAny (model X.prog X.w) A (getItem (.ref a) y) Q E s:=by
 obtain ⟨eo,⟨h1,h2⟩ | ⟨h1,h2⟩⟩:=dGet_cases e
 ·obtain ⟨vs,m⟩:=dr_mix I ha dr h2
  obtain ⟨q,rfl,rq⟩:=key_mix h1 hk ry
  have fr:=find_rel (fun _ _=>keyN_inj) m.rel (keyOf_keyD q)
  rw [← eo] at fr
  cases ew:valueAt vs q with
  | none=>rw [ew] at fr; exact fr.elim
  | some w=>
   rw [ew] at fr
   obtain ⟨v,rv,dv⟩:=fr
   exact ⟨v,w,rv,dv,fun hu h=>wpAny_getItem_of (kV_is rq) m.at_.mapOf ew (h _ (I.tok _))⟩
 ·obtain ⟨vs,m⟩:=dr_nest I fh ha dr h2
  obtain ⟨b,q,rfl,eq,hq⟩:=key_nest I fh h1 hk ry
  have fr:=find_rel (kf:=id) (fun _ _ z=>z) m.rel eq
  rw [← eo] at fr
  cases ew:valueAt vs q with
  | none=>rw [ew] at fr; exact fr.elim
  | some w=>
   rw [ew] at fr
   obtain ⟨v,rv,dv⟩:=fr
   exact ⟨v,w,rv,dv,fun hu h=>getItem_keyed (room_nested hu) hq m.at_ ew (h _ (I.tok _))⟩
theorem dr_obj (I:Inv X pins σ H s) (ha:Rd H a u) (dr:DR (kxOf X) F a u kvs):s.TypeIs (.ref a) "dict" ∧ (∃ ob,s.heap.get? a=some ob∧ob.dict=none)∧(a == sysModules)=false:=by
 rcases dr with ⟨rows,rfl,h2,h3,h4,h5,h6⟩ | ⟨ps,rfl,h2,h3,h4⟩
 ·obtain ⟨⟨sm,nd,o,es,ep,xs,ho,hx,hd,he,pr⟩,_⟩:=rd_ok I ha
  exact ⟨⟨o,ho,hx.1⟩,⟨o,ho,hx.2.1⟩,sm⟩
 ·obtain ⟨z,hd,vs,rel,dd⟩:=dk_rd I.hok ha
  refine ⟨dd.typeIs,?_,hd⟩
  obtain ⟨ob,_,_,h1,h2,_⟩:=dd
  exact ⟨ob,h1,h2.2.1⟩
theorem d_len {Q:Value→Shared→Prop} (I:Inv X pins σ H s) (fh:Same F H) (ha:Rd H a u) (dr:DR (kxOf X) F a u kvs) (h:∀ t s',Inv X pins σ H s'→Q (.int kvs.length t) s'):wpAny (model X.prog X.w) A (call (.builtin "len") [.ref a]) Q E s:=by
 rcases dr with ⟨rows,rfl,h2,h3,h4,h5,h6⟩ | ⟨ps,rfl,h2,h3,h4⟩
 ·obtain ⟨⟨sm,nd,o,es,ep,xs,ho,hx,hd,he,pr⟩,_⟩:=rd_ok I ha
  have hn:(xs.map (·.1)).Nodup:=by rw [← rows_keys pr]; exact nd
  have hl:kvs.length=xs.length:=by
   rw [← pr.length]
   have:=DpAll_len h6
   simpa using this.symm
  refine call_len_dictH (knd:=nestedKind X.prog X.w) sm ⟨o,es,ep,ho,hx,hd,he,vals_all I fh pr h3 h4 h5,hn⟩ (by rw [← pr.length]; rw [sizeLine_eq] at h2; omega) ?_
  rw [← hl]
  exact h _ _ (I.tok _)
 ·have hl:kvs.length=ps.length:=by
   have:=congrArg List.length h2
   simpa using this
  rw [hl] at h
  exact L2.d_len I ha h
theorem d_in (hu:A.units + 65 < cLine) (I:Inv X pins σ H s) (fh:Same F H) (ha:Rd H a u) (dr:DR (kxOf X) F a u kvs) (hk:Dp (kxOf X) F yv k) (ry:RelV yv y) (e:dGet kvs k=some o)
  (h:∀ s',Inv X pins σ H s'→Q (.bool o.isSome) s'):wpAny (model X.prog X.w) A (compareOp .In y (.ref a)) Q E s:=by
 obtain ⟨eo,⟨h1,h2⟩ | ⟨h1,h2⟩⟩:=dGet_cases e
 ·obtain ⟨vs,m⟩:=dr_mix I ha dr h2
  obtain ⟨q,rfl,rq⟩:=key_mix h1 hk ry
  have fr:=(find_rel (fun _ _=>keyN_inj) m.rel (keyOf_keyD q)).isSome
  rw [← eo] at fr
  refine wpAny_in_of (kV_is rq) m.sm m.at_.mapOf ?_
  rw [← fr]
  exact h _ (I.tok _)
 ·obtain ⟨vs,m⟩:=dr_nest I fh ha dr h2
  obtain ⟨b,q,rfl,eq,hq⟩:=key_nest I fh h1 hk ry
  have fr:=(find_rel (kf:=id) (fun _ _ z=>z) m.rel eq).isSome
  rw [← eo] at fr
  refine in_keyed (room_nested hu) hq m.sm m.at_ ?_
  show Q (.bool (valueAt vs q).isSome) _
  rw [show (valueAt vs q).isSome=o.isSome from fr.symm]
  exact h _ (I.tok _)
end
theorem dp_dr {K:Kx} {F:Hp} {a:Addr} {kvs:List (D × D)} (h:Dp K F (.ref a) (.dict kvs)):∃ od u,F a=some (.frz od u)∧DR K F a u kvs:=by
 cases h with
 | dtp ha e1 e2 hl hk hd e3 h1 h2=>
  subst e1 e2 e3
  exact ⟨_,_,ha,.inl ⟨_,rfl,hl,hk,hd,h1,h2⟩⟩
 | dky ha e1 e2 hl h2=>
  subst e2
  exact ⟨_,_,ha,.inr ⟨_,rfl,e1,hl,h2⟩⟩
theorem dp_dict {K:Kx} {F:Hp} {v:V} {kvs:List (D × D)} (h:Dp K F v (.dict kvs)):∃ a,v=.ref a:=by
 cases h <;> exact ⟨_,rfl⟩
def RDict (K:Kx) (F H:Hp) (x:V) (kvs:List (D × D)):Prop:=∃ a u,x=.ref a∧Rd H a u∧DR K F a u kvs∧Same F H
theorem rdict_of {K:Kx} {F H:Hp} {v:V} {kvs:List (D × D)} (h:Dp K F v (.dict kvs)) (fh:Same F H):RDict K F H v kvs:=by
 obtain ⟨a,rfl⟩:=dp_dict h
 obtain ⟨od,u,hu,dr⟩:=dp_dr h
 exact ⟨a,u,rfl,.inr ⟨od,fh _ _ hu⟩,dr,fh⟩
def rIxD (K:Kx):R2:=fun x y H Q=>∃ F kvs k d,RDict K F H x kvs∧Dp K F y k∧dGet kvs k=some (some d)∧∀ v,Dp K F v d→Q v H
def rInD (K:Kx):R2:=fun y x H Q=>∃ F kvs k o,RDict K F H x kvs∧Dp K F y k∧dGet kvs k=some o∧Q (.bl o.isSome) H
section
variable {X:Cx}
theorem ix_dict (hu:X.A.units + 65 < cLine):IxR X (rIxD (kxOf X)):=by
 intro value slice pins s σ H x y v u Q I rx ry h hs
 obtain ⟨F,kvs,k,d,⟨a,o,rfl,ha,dr,fh⟩,hk,e,q⟩:=h
 cases rx
 obtain ⟨v,w,rv,dv,go⟩:=d_item I fh ha dr hk ry e
 exact subscriptTail_builtinR (x:=w) (dr_obj I ha dr).1 PySem.F.slot_dict_getitem.lookup (go hu fun s' I'=>⟨rfl,v,H,I',rv,q v dv⟩) hs
theorem op_inD (hu:X.A.units + 65 < cLine):OpR X (compareOp .In) (rInD (kxOf X)):=by
 intro pins s σ H y x u v Q I ry rx h
 obtain ⟨F,kvs,k,o,⟨a,ob,rfl,ha,dr,fh⟩,hk,e,q⟩:=h
 cases rx
 exact Xm.d_in hu I fh ha dr hk ry e fun s' I'=>⟨.bl _,H,I',rfl,q⟩
theorem call_lenD:CallR X (.builtin "len") (fun xs H Q=>∃ x F kvs,xs=[x]∧RDict (kxOf X) F H x kvs∧Q (.int kvs.length) H):=by
 intro pins s σ H xs us Q I r h
 obtain ⟨x,F,kvs,rfl,⟨a,ob,rfl,ha,dr,fh⟩,q⟩:=h
 obtain ⟨u,rfl,rx⟩:=vals1 r
 cases rx
 exact Xm.d_len I fh ha dr fun t s' I'=>⟨.int kvs.length,H,I',⟨t,rfl⟩,q⟩
end
end Xm
namespace Xm
open PySem PySem.Spec PyProof.Rows L2
section
variable (K:Kx) (C:Ct)
def dOf (f:EF):TE:=fun σ H Q=>∃ F st r,Rel K C F st σ H∧f st=some r∧∀ v H' F',Same F F'→Rel K C F' r.2 σ H'→Dp K F' v r.1→Q v H'
def nOf (f:LF):TE:=fun σ H Q=>∃ F st r,Rel K C F st σ H∧f st=some r∧∀ (a:Addr) (vs:List V) H' F',Same F F'→Rel K C F' r.2 σ H'→C.H0 a=none→F' a=none→H' a=some (.lst vs)→
 (∀ j,Mu r.2 j→σ[j]?≠some (some (.ref a)))→DpAll K F' vs r.1→Q (.ref a) H'
def bOf (f:BF):TT:=fun σ H Q=>∃ F st r,Rel K C F st σ H∧f st=some r∧∀ H' F',Same F F'→Rel K C F' r.2 σ H'→Q r.1 H'
def aOf (f:LF):TA:=fun σ H Q=>∃ F st r,Rel K C F st σ H∧f st=some r∧∀ vs H' F',Same F F'→Rel K C F' r.2 σ H'→DpAll K F' vs r.1→Q vs H'
end
section
variable {X:Cx} {e:Expr} {es:List Expr}
theorem pe_wk {t t':TE} (h:PE X e t) (w:∀ σ H Q,t' σ H Q→t σ H Q):PE X e t':=⟨fun pins s σ H Q I q=>h.run pins s σ H Q I (w σ H Q q)⟩
theorem pt_wk {t t':TT} (h:PT X e t) (w:∀ σ H Q,t' σ H Q→t σ H Q):PT X e t':=⟨fun pins s σ H Q I q=>h.run pins s σ H Q I (w σ H Q q)⟩
theorem pw_wk {t t':TT} (h:PW X e t) (w:∀ σ H Q,t' σ H Q→t σ H Q):PW X e t':=⟨fun wh pins s σ H Q I q=>h.run wh pins s σ H Q I (w σ H Q q)⟩
theorem pa_wk {t t':TA} (h:PA X es t) (w:∀ σ H Q,t' σ H Q→t σ H Q):PA X es t':=⟨fun pos pins s σ H Q I q=>h.run pos pins s σ H Q I (w σ H Q q)⟩
theorem ps_wk {st:Stmt} {t t':TS} (h:PS X st t) (w:∀ D σ H,t' D σ H→t D σ H):PS X st t':=⟨fun pins s σ H D I q=>h.run pins s σ H D I (w D σ H q)⟩
theorem pss_wk {st:List Stmt} {t t':TS} (h:PSs X st t) (w:∀ D σ H,t' D σ H→t D σ H):PSs X st t':=⟨fun pins s σ H D I q=>h.run pins s σ H D I (w D σ H q)⟩
theorem pg_wk {t t':TG} (h:PG X e t) (w:∀ v σ H Q,t' v σ H Q→t v σ H Q):PG X e t':=⟨fun pins s σ H v u Q I r q=>h.run pins s σ H v u Q I r (w v σ H Q q)⟩
theorem pi_wk {tg:Expr} {t t':TI} (h:PI X tg e t) (w:∀ σ H Q,t' σ H Q→t σ H Q):PI X tg e t':=⟨fun pins s σ H Q I q=>h.run pins s σ H Q I (w σ H Q q)⟩
end
def cst (d:D):EF:=fun st=>some (d,st)
def rd (i:Nat):EF:=fun st=>match st[i]? with
 | some (.dat d)=>some (d,st)
 | some (.own xs)=>some (.list xs,st.set i (.dat (.list xs)))
 | _=>none
section
variable {K:Kx} {C:Ct} {F F' H H':Hp} {st:AS} {σ:L2.St}
theorem mu_set_dat {i j:Nat} {d:D} (h:Mu (st.set i (.dat d)) j):Mu st j∧j≠i:=by
 obtain ⟨s,h,hm⟩:=h
 by_cases e:j=i
 ·subst e
  exfalso
  rw [List.getElem?_set_self'] at h
  cases q:st[j]? with
  | none=>rw [q] at h; simp at h
  | some u=>rw [q] at h; simp at h; subst h; cases hm
 ·rw [List.getElem?_set_ne (Ne.symm e)] at h
  exact ⟨⟨s,h,hm⟩,e⟩
theorem Rel.freeze {i:Nat} {xs:List D} (R:Rel K C F st σ H) (h:st[i]?=some (.own xs)) :
  ∃ v F',σ[i]?=some (some v)∧Same F F'∧Rel K C F' (st.set i (.dat (.list xs))) σ H∧Dp K F' v (.list xs):=by
 obtain ⟨a,ha,h0,hF,vs,hH,hv⟩:=R.slot i _ h
 have hff:Same F (upd F a (.lst vs)):=same_upd hF
 have hd:Dp K (upd F a (.lst vs)) (.ref a) (.list xs):=.lst (.inl (.inl upd_same)) (DpAll_up hv hff)
 have hi:i < st.length:=(List.getElem?_eq_some_iff.mp h).1
 refine ⟨.ref a,upd F a (.lst vs),ha,hff,⟨?_,R.f0.trans hff,?_,R.old,?_,?_,?_,R.penh,R.pent,R.tab.up hff fun _ _ _ e=>e⟩,hd⟩
 ·rw [List.length_set]; exact R.len
 ·intro b o e
  by_cases hb:b=a
  ·subst hb; rw [upd_same] at e; cases e; exact hH
  ·rw [upd_ne hb] at e; exact R.fh _ _ e
 ·intro b hb0 hb1
  have hb:b≠a:=fun z=>by subst z; exact hb1 h0
  rw [upd_ne hb]
  exact R.new b hb0 hb1
 ·intro j s hj
  by_cases e:j=i
  ·subst e
   rw [List.getElem?_set_self hi] at hj
   cases hj
   exact ⟨_,ha,hd⟩
  ·rw [List.getElem?_set_ne (Ne.symm e)] at hj
   have q:=R.slot j s hj
   cases s with
   | no=>trivial
   | dat d=>obtain ⟨v,q1,q2⟩:=q; exact ⟨v,q1,Dp_up q2 hff⟩
   | own ys=>
    obtain ⟨b,q1,q2,q3,us,q4,q5⟩:=q
    have hb:b≠a:=fun z=>by
     subst z
     exact e (R.apart j i b ⟨_,hj,rfl⟩ ⟨_,h,rfl⟩ q1 ha)
    exact ⟨b,q1,q2,by rw [upd_ne hb]; exact q3,us,q4,DpAll_up q5 hff⟩
   | pen ys=>
    obtain ⟨b,q1,q2,q3,us,q4,q5⟩:=q
    have hb:b≠a:=fun z=>by
     subst z
     exact e (R.apart j i b ⟨_,hj,rfl⟩ ⟨_,h,rfl⟩ q1 ha)
    exact ⟨b,q1,q2,by rw [upd_ne hb]; exact q3,us,q4,DpAll_up q5 hff⟩
   | dct kvs=>
    obtain ⟨b,q1,q2,q3,u,q4,q5⟩:=q
    have hb:b≠a:=fun z=>by
     subst z
     exact e (R.apart j i b ⟨_,hj,rfl⟩ ⟨_,h,rfl⟩ q1 ha)
    exact ⟨b,q1,q2,by rw [upd_ne hb]; exact q3,u,q4,q5.up hff⟩
   | pdc kvs=>
    obtain ⟨b,q1,q2,q3,u,q4,q5⟩:=q
    have hb:b≠a:=fun z=>by
     subst z
     exact e (R.apart j i b ⟨_,hj,rfl⟩ ⟨_,h,rfl⟩ q1 ha)
    exact ⟨b,q1,q2,by rw [upd_ne hb]; exact q3,u,q4,q5.up hff⟩
   | obj o=>
    obtain ⟨b,q1,q2⟩:=q
    exact ⟨b,q1,q2.up hff⟩
 ·intro j k b hj hk
  exact R.apart j k b (mu_set_dat hj).1 (mu_set_dat hk).1
theorem rel_mono_slots {st':AS} (R:Rel K C F st σ H) (hl:st'.length=st.length) (h:∀ (i:Nat) (s:Slot),st'[i]?=some s→s=.no∨st[i]?=some s):Rel K C F st' σ H where
 len:=hl.trans R.len
 f0:=R.f0
 fh:=R.fh
 old:=R.old
 new:=R.new
 slot:=fun i s e=>by
  rcases h i s e with z | z
  ·subst z; trivial
  ·exact R.slot i s z
 apart:=fun i j a hi hj=>R.apart i j a (by
   obtain ⟨s,e,m⟩:=hi
   rcases h i _ e with z | z
   ·subst z; cases m
   ·exact ⟨s,z,m⟩) (by
   obtain ⟨s,e,m⟩:=hj
   rcases h j _ e with z | z
   ·subst z; cases m
   ·exact ⟨s,z,m⟩)
 penh:=R.penh
 pent:=R.pent
 tab:=R.tab
end
section
variable {X:Cx} {C:Ct} {pos:Pos}
theorem xd_c {e:Expr} {v:V} {d:D} (h:PE X e (tC v)) (hd:∀ F,Dp (kxOf X) F v d):PE X e (dOf (kxOf X) C (cst d)):=pe_wk h fun σ H Q q=>by
 obtain ⟨F,st,r,R,e,k⟩:=q
 cases e
 exact k v H F (Same.refl _) R (hd F)
theorem xd_int {i j}:PE X (.Constant (.int i) j pos) (dOf (kxOf X) C (cst (.int i))):=xd_c pe_int fun _=>.int i
theorem xd_bl {b j}:PE X (.Constant (.bool b) j pos) (dOf (kxOf X) C (cst (.bool b))):=xd_c pe_bl fun _=>.bl b
theorem xd_non {j}:PE X (.Constant .none j pos) (dOf (kxOf X) C (cst .none)):=xd_c pe_non fun _=>.non
theorem xd_str {x j}:PE X (.Constant (.str x) j pos) (dOf (kxOf X) C (cst (.str x))):=xd_c pe_str fun _=>.str x
theorem xd_rd {i:Nat} {e:Expr} (h:PE X e (tVar i)):PE X e (dOf (kxOf X) C (rd i)):=pe_wk h fun σ H Q q=>by
 obtain ⟨F,st,r,R,e,k⟩:=q
 unfold rd at e
 split at e
 ·rename_i d hd
  cases e
  obtain ⟨v,h1,h2⟩:=R.slot i _ hd
  exact ⟨v,h1,k v H F (Same.refl _) R h2⟩
 ·rename_i xs hx
  cases e
  obtain ⟨v,F',h1,h2,h3,h4⟩:=R.freeze hx
  exact ⟨v,h1,k v H F' h2 h3 h4⟩
 ·cases e
end
def bin2 (k:D→D→Option D) (f g:EF):EF:=fun st=>(f st).bind fun a=>(g a.2).bind fun b=>(k a.1 b.1).map fun z=>(z,b.2)
def Ok2 (K:Kx) (r:R2) (k:D→D→Option D):Prop:=
 ∀ (F H:Hp) (x y:V) (a b z:D) (Q:VK),Same F H→Dp K F x a→Dp K F y b→k a b=some z→(∀ v F' H',Gr F H F' H'→Dp K F' v z→Q v H')→r x y H Q
theorem bin2_ok {K:Kx} {C:Ct} {r:R2} {k:D→D→Option D} {f g:EF} (ok:Ok2 K r k) {σ:L2.St} {H:Hp} {Q:VK} (q:dOf K C (bin2 k f g) σ H Q):tOp r (dOf K C f) (dOf K C g) σ H Q:=by
 obtain ⟨F,st,w,R,e,q⟩:=q
 unfold bin2 at e
 obtain ⟨a,ea,e⟩:=Option.bind_eq_some_iff.mp e
 obtain ⟨b,eb,e⟩:=Option.bind_eq_some_iff.mp e
 obtain ⟨z,ez,e⟩:=Option.map_eq_some_iff.mp e
 cases e
 refine ⟨F,st,a,R,ea,fun v H1 F1 s1 R1 d1=>?_⟩
 refine ⟨F1,a.2,b,R1,eb,fun u H2 F2 s2 R2 d2=>?_⟩
 exact ok F2 H2 v u a.1 b.1 z Q R2.fh (Dp_up d1 s2) d2 ez fun y F3 H3 g d3=>q y H3 F3 ((s1.trans s2).trans g.ff) (R2.grow g) d3
section
variable {X:Cx} {C:Ct} {pos:Pos} {a b:Expr} {f g:EF} {r:R2} {k:D→D→Option D}
theorem xd_op {op:Operator} (ho:OpR X (binaryOp op) r) (ok:Ok2 (kxOf X) r k) (ha:PE X a (dOf (kxOf X) C f)) (hb:PE X b (dOf (kxOf X) C g)):PE X (.BinOp a op b pos) (dOf (kxOf X) C (bin2 k f g)):=
 pe_wk (pe_op ho ha hb) fun _ _ _ q=>bin2_ok ok q
theorem xd_cmp {op:CmpOp} (ho:OpR X (compareOp op) r) (ok:Ok2 (kxOf X) r k) (ha:PE X a (dOf (kxOf X) C f)) (hb:PE X b (dOf (kxOf X) C g)) (hm:behindInMarks op b=false):PE X (.Compare a [op] [b] pos) (dOf (kxOf X) C (bin2 k f g)):=
 pe_wk (pe_cmpR ho ha hb hm) fun _ _ _ q=>bin2_ok ok q
theorem xd_ix (hr:IxR X r) (ok:Ok2 (kxOf X) r k) (ha:PE X a (dOf (kxOf X) C f)) (hb:PE X b (dOf (kxOf X) C g)) (hs:PlainIx b):PE X (.Subscript a b pos) (dOf (kxOf X) C (bin2 k f g)):=
 pe_wk (pe_ix hr ha hb hs) fun _ _ _ q=>bin2_ok ok q
end
section
variable {X:Cx} {pins:List (Addr × Obj)} {σ:L2.St} {H:Hp} {s:Shared}
mutual
theorem Dp.reads (I:Inv X pins σ H s):∀ (d:D) (v:V) (u:Value),d.plain=true→Dp (kxOf X) H v d→RelV v u→∃ as,Reads s.heap u d as
 | .none,_,_,_,h,r=>by
  cases h
  cases r
  exact ⟨_,Reads.none⟩
 | .bool b,_,_,_,h,r=>by
  cases h
  cases r
  exact ⟨_,Reads.bool b⟩
 | .int i,_,_,_,h,r=>by
  cases h
  obtain ⟨t,rfl⟩:=r
  exact ⟨_,Reads.int i t⟩
 | .str x,_,_,_,h,r=>by
  cases h
  obtain ⟨t,rfl⟩:=r
  exact ⟨_,Reads.str x t⟩
 | .list ds,_,_,c,h,r=>by
  cases h with
  | lst hs ha=>
   cases r
   obtain ⟨its,rv,⟨o,n,ho,hc,_,hd⟩,_⟩:=I.list hs
   obtain ⟨as,hr⟩:=Dp.readsAll I ds _ its (by simpa [PyData.plain] using c) ha rv
   exact ⟨_,Reads.list ho hc hd hr⟩
 | .tuple ds,_,_,c,h,r=>by
  cases h with
  | tup hs ha=>
   cases r
   obtain ⟨its,rv,⟨o,ho,hc,n,hd⟩,_⟩:=I.tuple hs.sq
   obtain ⟨as,hr⟩:=Dp.readsAll I ds _ its (by simpa [PyData.plain] using c) ha rv
   exact ⟨_,Reads.tuple ho hc hd hr⟩
 | .dict _,_,_,c,_,_=>by simp [PyData.plain] at c
theorem Dp.readsAll (I:Inv X pins σ H s):∀ (ds:List D) (vs:List V) (us:List Value),PyData.plainAll ds=true→DpAll (kxOf X) H vs ds→Vals vs us→∃ as,ReadsAll s.heap us ds as
 | [],_,_,_,h,r=>by
  cases h
  cases r
  exact ⟨_,ReadsAll.nil⟩
 | d::ds,_,_,c,h,r=>by
  have c2:d.plain=true∧PyData.plainAll ds=true:=by simpa [PyData.plainAll] using c
  cases h with
  | cons h1 h2=>
   cases r with
   | cons r1 r2=>
    obtain ⟨as,q1⟩:=Dp.reads I d _ _ c2.1 h1 r1
    obtain ⟨bs,q2⟩:=Dp.readsAll I ds _ _ c2.2 h2 r2
    exact ⟨_,ReadsAll.cons q1 q2⟩
end
theorem canLay_sh {d:D} (h:SeqAt.shaped d=true):d.plain=true:=PyData.plain_of_canLay0 d (SeqAt.canLay_of_shaped h)
def rEqD (K:Kx):R2:=fun x y H Q=>∃ d e,Dp K H x d∧Dp K H y e∧SeqAt.shaped d=true∧SeqAt.shaped e=true∧Q (.bl (PyData.eqv d e)) H
def rNeD (K:Kx):R2:=fun x y H Q=>∃ d e,Dp K H x d∧Dp K H y e∧SeqAt.shaped d=true∧SeqAt.shaped e=true∧Q (.bl (!PyData.eqv d e)) H
theorem op_eqD (hu:X.A.units + 64 < cLine):OpR X (compareOp .Eq) (rEqD (kxOf X)):=by
 intro pins s σ H x y v u Q I rx ry h
 obtain ⟨d,e,hd,he,sd,se,q⟩:=h
 obtain ⟨as,r1⟩:=Dp.reads I d x v (canLay_sh sd) hd rx
 obtain ⟨bs,r2⟩:=Dp.reads I e y u (canLay_sh se) he ry
 exact SeqAt.compareEq_shaped r1 r2 sd se hu ⟨.bl _,H,I,rfl,q⟩
theorem op_neD (hu:X.A.units + 64 < cLine):OpR X (compareOp .NotEq) (rNeD (kxOf X)):=by
 intro pins s σ H x y v u Q I rx ry h
 obtain ⟨d,e,hd,he,sd,se,q⟩:=h
 obtain ⟨as,r1⟩:=Dp.reads I d x v (canLay_sh sd) hd rx
 obtain ⟨bs,r2⟩:=Dp.reads I e y u (canLay_sh se) he ry
 exact SeqAt.compareNe_shaped r1 r2 sd se hu ⟨.bl _,H,I,rfl,q⟩
end
def kAdd:D→D→Option D
 | .int i,.int j=>some (.int (i + j))
 | _,_=>none
def kSub:D→D→Option D
 | .int i,.int j=>some (.int (i - j))
 | _,_=>none
def kMul:D→D→Option D
 | .int i,.int j=>if i.natAbs.log2 + j.natAbs.log2 < 1000000 then some (.int (i * j)) else none
 | _,_=>none
def kDiv:D→D→Option D
 | .int i,.int j=>if j≠0∧j.natAbs.log2 < 9000 then some (.int (i.fdiv j)) else none
 | _,_=>none
def kMod:D→D→Option D
 | .int i,.int j=>if j≠0 then some (.int (i.fmod j)) else none
 | _,_=>none
def kPow:D→D→Option D
 | .int i,.int j=>if 0 ≤ j∧j ≤ 1000000∧i.natAbs < 2 ^ 64 then some (.int (i ^ j.toNat)) else none
 | _,_=>none
def kLt:D→D→Option D
 | .int i,.int j=>some (.bool (decide (i < j)))
 | _,_=>none
def kLe:D→D→Option D
 | .int i,.int j=>some (.bool (decide (i ≤ j)))
 | _,_=>none
def kGt:D→D→Option D
 | .int i,.int j=>some (.bool (decide (j < i)))
 | _,_=>none
def kGe:D→D→Option D
 | .int i,.int j=>some (.bool (decide (j ≤ i)))
 | _,_=>none
def kEqD:D→D→Option D:=fun a b=>if SeqAt.shaped a=true∧SeqAt.shaped b=true then some (.bool (PyData.eqv a b)) else none
def kNeD:D→D→Option D:=fun a b=>if SeqAt.shaped a=true∧SeqAt.shaped b=true then some (.bool (!PyData.eqv a b)) else none
def kEq:D→D→Option D
 | .str x,.str y=>some (.bool (decide (x=y)))
 | a,b=>kEqD a b
def kNe:D→D→Option D
 | .str x,.str y=>some (.bool (!decide (x=y)))
 | a,b=>kNeD a b
def kIsNot:D→D→Option D
 | .none,.none=>some (.bool false)
 | _,.none=>some (.bool true)
 | _,_=>none
theorem dp_int {K:Kx} {F:Hp} {v:V} {i:Int} (h:Dp K F v (.int i)):v=.int i:=by cases h; rfl
theorem dp_bl {K:Kx} {F:Hp} {v:V} {i:Bool} (h:Dp K F v (.bool i)):v=.bl i:=by cases h; rfl
theorem dp_str {K:Kx} {F:Hp} {v:V} {i:Str} (h:Dp K F v (.str i)):v=.str i:=by cases h; rfl
section
variable {K:Kx}
theorem okI0 {k:D→D→Option D} {g:Int→Int→V} {gd:Int→Int→D} (hk:∀ a b z,k a b=some z→∃ i j,a=.int i∧b=.int j∧z=gd i j) (hg:∀ F i j,Dp K F (g i j) (gd i j)):Ok2 K (rI0 g) k:=by
 intro F H x y a b z Q fh ha hb e q
 obtain ⟨i,j,rfl,rfl,rfl⟩:=hk a b z e
 exact ⟨i,j,dp_int ha,dp_int hb,q _ F H (Gr.refl fh) (hg F i j)⟩
theorem okI {k:D→D→Option D} {c:Int→Int→Prop} {g:Int→Int→V} {gd:Int→Int→D} (hk:∀ a b z,k a b=some z→∃ i j,a=.int i∧b=.int j∧z=gd i j∧c i j) (hg:∀ F i j,Dp K F (g i j) (gd i j)):Ok2 K (rI c g) k:=by
 intro F H x y a b z Q fh ha hb e q
 obtain ⟨i,j,rfl,rfl,rfl,hc⟩:=hk a b z e
 exact ⟨i,j,dp_int ha,dp_int hb,hc,q _ F H (Gr.refl fh) (hg F i j)⟩
theorem ok_sub:Ok2 K (rI0 fun i j=>.int (i - j)) kSub:=okI0 (gd:=fun i j=>.int (i - j)) (fun a b z e=>by unfold kSub at e; split at e <;> cases e; exact ⟨_,_,rfl,rfl,rfl⟩) fun _ _ _=>.int _
theorem ok_lt:Ok2 K (rI0 fun i j=>.bl (decide (i < j))) kLt:=okI0 (gd:=fun i j=>.bool (decide (i < j))) (fun a b z e=>by unfold kLt at e; split at e <;> cases e; exact ⟨_,_,rfl,rfl,rfl⟩) fun _ _ _=>.bl _
theorem ok_le:Ok2 K (rI0 fun i j=>.bl (decide (i ≤ j))) kLe:=okI0 (gd:=fun i j=>.bool (decide (i ≤ j))) (fun a b z e=>by unfold kLe at e; split at e <;> cases e; exact ⟨_,_,rfl,rfl,rfl⟩) fun _ _ _=>.bl _
theorem ok_gt:Ok2 K (rI0 fun i j=>.bl (decide (j < i))) kGt:=okI0 (gd:=fun i j=>.bool (decide (j < i))) (fun a b z e=>by unfold kGt at e; split at e <;> cases e; exact ⟨_,_,rfl,rfl,rfl⟩) fun _ _ _=>.bl _
theorem ok_ge:Ok2 K (rI0 fun i j=>.bl (decide (j ≤ i))) kGe:=okI0 (gd:=fun i j=>.bool (decide (j ≤ i))) (fun a b z e=>by unfold kGe at e; split at e <;> cases e; exact ⟨_,_,rfl,rfl,rfl⟩) fun _ _ _=>.bl _
theorem ok_mul:Ok2 K (rI CMulW fun i j=>.int (i * j)) kMul:=okI (gd:=fun i j=>.int (i * j)) (fun a b z e=>by
 unfold kMul at e; split at e
 ·split at e <;> cases e
  rename_i h
  exact ⟨_,_,rfl,rfl,rfl,h⟩
 ·cases e) fun _ _ _=>.int _
theorem ok_pow:Ok2 K (rI CPow fun i j=>.int (i ^ j.toNat)) kPow:=okI (gd:=fun i j=>.int (i ^ j.toNat)) (fun a b z e=>by
 unfold kPow at e; split at e
 ·split at e <;> cases e
  rename_i h
  exact ⟨_,_,rfl,rfl,rfl,h⟩
 ·cases e) fun _ _ _=>.int _
def CDivG (_ j:Int):Prop:=j≠0∧j.natAbs.log2 < 9000
theorem op_fdivG {X:Cx}:OpR X (binaryOp .FloorDiv) (rI CDivG fun i j=>.int (i.fdiv j)):=opI fun i j _ _ _ _ _ hc q=>floordiv_int hc.1 q (.inl (PyProof.noPylong_of_log2 hc.2))
theorem ok_div:Ok2 K (rI CDivG fun i j=>.int (i.fdiv j)) kDiv:=okI (gd:=fun i j=>.int (i.fdiv j)) (fun a b z e=>by
 unfold kDiv at e; split at e
 ·split at e <;> cases e
  rename_i h
  exact ⟨_,_,rfl,rfl,rfl,h⟩
 ·cases e) fun _ _ _=>.int _
theorem ok_mod:Ok2 K (rI (fun _ j=>j≠0) fun i j=>.int (i.fmod j)) kMod:=okI (gd:=fun i j=>.int (i.fmod j)) (fun a b z e=>by
 unfold kMod at e; split at e
 ·split at e <;> cases e
  rename_i h
  exact ⟨_,_,rfl,rfl,rfl,h⟩
 ·cases e) fun _ _ _=>.int _
theorem ok_eqD:Ok2 K (rEqD K) kEqD:=by
 intro F H x y a b z Q fh ha hb e q
 unfold kEqD at e
 split at e <;> cases e
 rename_i h
 exact ⟨a,b,Dp_up ha fh,Dp_up hb fh,h.1,h.2,q _ F H (Gr.refl fh) (.bl _)⟩
theorem ok_neD:Ok2 K (rNeD K) kNeD:=by
 intro F H x y a b z Q fh ha hb e q
 unfold kNeD at e
 split at e <;> cases e
 rename_i h
 exact ⟨a,b,Dp_up ha fh,Dp_up hb fh,h.1,h.2,q _ F H (Gr.refl fh) (.bl _)⟩
theorem dec_strV (x y:Str):decide (V.str x=V.str y)=decide (x=y):=by
 by_cases h:x=y
 ·subst h; simp
 ·rw [decide_eq_false h,decide_eq_false fun z=>h (V.str.inj z)]
theorem ok_eq:Ok2 K (fun x y H Q=>rEq x y H Q∨rEqD K x y H Q) kEq:=by
 intro F H x y a b z Q fh ha hb e q
 unfold kEq at e
 split at e
 ·cases e
  cases dp_str ha
  cases dp_str hb
  exact .inl ⟨rfl,by rw [dec_strV]; exact q _ F H (Gr.refl fh) (.bl _)⟩
 ·exact .inr (ok_eqD F H x y a b z Q fh ha hb e q)
theorem ok_ne:Ok2 K (fun x y H Q=>rNe x y H Q∨rNeD K x y H Q) kNe:=by
 intro F H x y a b z Q fh ha hb e q
 unfold kNe at e
 split at e
 ·cases e
  cases dp_str ha
  cases dp_str hb
  exact .inl ⟨rfl,by rw [dec_strV]; exact q _ F H (Gr.refl fh) (.bl _)⟩
 ·exact .inr (ok_neD F H x y a b z Q fh ha hb e q)
theorem dp_non_iff {F:Hp} {v:V} {d:D} (h:Dp K F v d):v=.non↔d=.none:=by
 cases h <;> simp
theorem ok_isnot:Ok2 K (fun x y H Q=>y=.non∧Q (.bl (!decide (x=.non))) H) kIsNot:=by
 intro F H x y a b z Q fh ha hb e q
 unfold kIsNot at e
 split at e
 ·cases e
  cases ha
  cases hb
  exact ⟨rfl,q _ F H (Gr.refl fh) (.bl false)⟩
 ·rename_i hne
  cases e
  cases hb
  have hx:x≠.non:=fun z=>hne (dp_non_iff ha |>.mp z)
  rw [decide_eq_false hx]
  exact ⟨rfl,q _ F H (Gr.refl fh) (.bl true)⟩
 ·cases e
end
section
variable {X:Cx} {C:Ct} {pos:Pos} {a b:Expr} {f g:EF}
theorem xd_sub (ha:PE X a (dOf (kxOf X) C f)) (hb:PE X b (dOf (kxOf X) C g)):PE X (.BinOp a .Sub b pos) (dOf (kxOf X) C (bin2 kSub f g)):=xd_op op_sub ok_sub ha hb
theorem xd_mul (ha:PE X a (dOf (kxOf X) C f)) (hb:PE X b (dOf (kxOf X) C g)):PE X (.BinOp a .Mult b pos) (dOf (kxOf X) C (bin2 kMul f g)):=xd_op op_mulW ok_mul ha hb
theorem xd_div (ha:PE X a (dOf (kxOf X) C f)) (hb:PE X b (dOf (kxOf X) C g)):PE X (.BinOp a .FloorDiv b pos) (dOf (kxOf X) C (bin2 kDiv f g)):=xd_op op_fdivG ok_div ha hb
theorem xd_mod (ha:PE X a (dOf (kxOf X) C f)) (hb:PE X b (dOf (kxOf X) C g)):PE X (.BinOp a .Mod b pos) (dOf (kxOf X) C (bin2 kMod f g)):=xd_op op_modN ok_mod ha hb
theorem xd_pow (ha:PE X a (dOf (kxOf X) C f)) (hb:PE X b (dOf (kxOf X) C g)):PE X (.BinOp a .Pow b pos) (dOf (kxOf X) C (bin2 kPow f g)):=xd_op op_pow ok_pow ha hb
theorem xd_gt (ha:PE X a (dOf (kxOf X) C f)) (hb:PE X b (dOf (kxOf X) C g)):PE X (.Compare a [.Gt] [b] pos) (dOf (kxOf X) C (bin2 kGt f g)):=xd_cmp op_gt ok_gt ha hb (nomark _)
theorem xd_eq (hu:X.A.units + 64 < cLine) (ha:PE X a (dOf (kxOf X) C f)) (hb:PE X b (dOf (kxOf X) C g)):PE X (.Compare a [.Eq] [b] pos) (dOf (kxOf X) C (bin2 kEq f g)):=xd_cmp (op_eq.or (op_eqD hu)) ok_eq ha hb (nomark _)
theorem xd_isnot (ha:PE X a (dOf (kxOf X) C f)) (hb:PE X b (dOf (kxOf X) C g)):PE X (.Compare a [.IsNot] [b] pos) (dOf (kxOf X) C (bin2 kIsNot f g)):=xd_cmp op_notN ok_isnot ha hb (nomark _)
end
def un1 (k:D→Option D) (f:EF):EF:=fun st=>(f st).bind fun a=>(k a.1).map fun z=>(z,a.2)
def Ok1 (K:Kx) (r:V→Hp→VK→Prop) (k:D→Option D):Prop:=
 ∀ (F H:Hp) (x:V) (a z:D) (Q:VK),Same F H→Dp K F x a→k a=some z→(∀ v F' H',Gr F H F' H'→Dp K F' v z→Q v H')→r x H Q
theorem un1_ok {K:Kx} {C:Ct} {r:V→Hp→VK→Prop} {k:D→Option D} {f:EF} (ok:Ok1 K r k) {σ:L2.St} {H:Hp} {Q:VK} (q:dOf K C (un1 k f) σ H Q):dOf K C f σ H fun x H1=>r x H1 Q:=by
 obtain ⟨F,st,w,R,e,q⟩:=q
 unfold un1 at e
 obtain ⟨a,ea,e⟩:=Option.bind_eq_some_iff.mp e
 obtain ⟨z,ez,e⟩:=Option.map_eq_some_iff.mp e
 cases e
 refine ⟨F,st,a,R,ea,fun v H1 F1 s1 R1 d1=>?_⟩
 exact ok F1 H1 v a.1 z Q R1.fh d1 ez fun y F3 H3 g d3=>q y H3 F3 (s1.trans g.ff) (R1.grow g) d3
def kNeg:D→Option D
 | .int i=>some (.int (-i))
 | _=>none
section
variable {X:Cx} {C:Ct} {pos:Pos} {a b:Expr} {f g:EF}
theorem xd_neg (ha:PE X a (dOf (kxOf X) C f)):PE X (.UnaryOp .USub a pos) (dOf (kxOf X) C (un1 kNeg f)):=pe_wk (pe_un un_neg ha) fun σ H Q q=>un1_ok (k:=kNeg) (fun F H x a z Q fh ha e q=>by
 unfold kNeg at e; split at e <;> cases e
 exact ⟨_,dp_int ha,q _ F H (Gr.refl fh) (.int _)⟩) q
theorem xd_b1 {id:String} {x:Str} {p:Pos} {r:List V→Hp→VK→Prop} {k:D→Option D} (hc:CallR X (.builtin id) r) (ok:Ok1 (kxOf X) (fun v=>r [v]) k) (hm:X.mg x=none) (hv:bootBuiltins x=some (.builtin id)) (ha:PE X a (dOf (kxOf X) C f))
  (hg:Gl X x) (hn:x ≠ "__name__" := by decide) (hdb:(x == ("__debug__" : Str))=false:=by decide)
  (he:starEach [a] X.env=(false,eval a X.env)::starEach [] X.env:=by rfl) (hpl:(backTo pos (starEach [] X.env)).any (·.1)=false:=by rfl):PE X (.Call (.Name x p) [a] [] pos) (dOf (kxOf X) C (un1 k f)):=
 pe_wk (pe_callB hc hg hm hv (pa_cons ha pa_nil he) hn hdb he hpl) fun σ H Q q=>un1_ok ok q
theorem xd_t1 {T:String} {x:Str} {p:Pos} {r:List V→Hp→VK→Prop} {k:D→Option D} (hc:CallR X (.type T) r) (ok:Ok1 (kxOf X) (fun v=>r [v]) k) (hm:X.mg x=none) (hv:bootBuiltins x=some (.type T)) (ha:PE X a (dOf (kxOf X) C f))
  (hg:Gl X x) (hn:x ≠ "__name__" := by decide) (hdb:(x == ("__debug__" : Str))=false:=by decide)
  (he:starEach [a] X.env=(false,eval a X.env)::starEach [] X.env:=by rfl) (hpl:(backTo pos (starEach [] X.env)).any (·.1)=false:=by rfl):PE X (.Call (.Name x p) [a] [] pos) (dOf (kxOf X) C (un1 k f)):=
 pe_wk (pe_callTy hc hg hm hv (pa_cons ha pa_nil he) hn hdb he hpl) fun σ H Q q=>un1_ok ok q
end
def kAbs:D→Option D
 | .int i=>some (.int (if i < 0 then -i else i))
 | _=>none
theorem cr_or {X:Cx} {id:String} {r r':List V→Hp→VK→Prop} (h:CallR X (.builtin id) r) (h':CallR X (.builtin id) r'):CallR X (.builtin id) (fun xs H Q=>r xs H Q∨r' xs H Q):=fun pins s σ H xs us Q I rv q=>q.elim (fun q=>h pins s σ H xs us Q I rv q) fun q=>h' pins s σ H xs us Q I rv q
def kLen:D→Option D
 | .list xs=>some (.int xs.length)
 | .tuple xs=>some (.int xs.length)
 | .dict kvs=>some (.int kvs.length)
 | _=>none
def kInt:D→Option D
 | .int i=>some (.int i)
 | .bool b=>some (.int (if b then 1 else 0))
 | _=>none
def kList:D→Option D
 | .list xs=>some (.list xs)
 | .tuple xs=>some (.list xs)
 | _=>none
def kTuple:D→Option D
 | .list xs=>some (.tuple xs)
 | .tuple xs=>some (.tuple xs)
 | _=>none
section
variable {X:Cx} {C:Ct} {pos p:Pos} {a b:Expr} {f g:EF}
theorem xd_abs (hm:X.mg "abs" = none) (ha:PE X a (dOf (kxOf X) C f)) (hg:Gl X "abs" := by rfl) (he:starEach [a] X.env=(false,eval a X.env)::starEach [] X.env:=by rfl):PE X (.Call (.Name "abs" p) [a] [] pos) (dOf (kxOf X) C (un1 kAbs f)):=
 xd_b1 call_abs (fun F H x a z Q fh ha e q=>by
  unfold kAbs at e; split at e <;> cases e
  exact ⟨_,by rw [dp_int ha],q _ F H (Gr.refl fh) (.int _)⟩) hm (by decide +kernel) ha hg (he:=he)
theorem xd_len (hm:X.mg "len" = none) (ha:PE X a (dOf (kxOf X) C f)) (hg:Gl X "len" := by rfl) (he:starEach [a] X.env=(false,eval a X.env)::starEach [] X.env:=by rfl):PE X (.Call (.Name "len" p) [a] [] pos) (dOf (kxOf X) C (un1 kLen f)):=
 xd_b1 (cr_or call_len_seq call_lenD) (fun F H x a z Q fh ha e q=>by
  unfold kLen at e; split at e <;> cases e
  ·cases ha with
   | lst hs hv=>exact .inl ⟨_,_,rfl,.inl (sql_up fh hs),by rw [DpAll_len hv]; exact q _ F H (Gr.refl fh) (.int _)⟩
  ·cases ha with
   | tup hs hv=>exact .inl ⟨_,_,rfl,.inr (sqt_up fh hs),by rw [DpAll_len hv]; exact q _ F H (Gr.refl fh) (.int _)⟩
  ·exact .inr ⟨_,F,_,rfl,rdict_of ha fh,q _ F H (Gr.refl fh) (.int _)⟩) hm (by decide +kernel) ha hg (he:=he)
theorem xd_toint (hm:X.mg "int" = none) (ha:PE X a (dOf (kxOf X) C f)) (hg:Gl X "int" := by rfl) (he:starEach [a] X.env=(false,eval a X.env)::starEach [] X.env:=by rfl):PE X (.Call (.Name "int" p) [a] [] pos) (dOf (kxOf X) C (un1 kInt f)):=
 xd_t1 call_int1 (fun F H x a z Q fh ha e q=>by
  unfold kInt at e; split at e <;> cases e
  ·exact .inl ⟨_,by rw [dp_int ha],q _ F H (Gr.refl fh) (.int _)⟩
  ·exact .inr ⟨_,by rw [dp_bl ha],q _ F H (Gr.refl fh) (.int _)⟩) hm (by decide +kernel) ha hg (he:=he)
end
def nilA:LF:=fun st=>some ([],st)
def consA (f:EF) (g:LF):LF:=fun st=>(f st).bind fun a=>(g a.2).map fun b=>(a.1::b.1,b.2)
def tupF (g:LF):EF:=fun st=>(g st).bind fun b=>if b.1.length ≤ sizeLine then some (.tuple b.1,b.2) else none
def lstF (g:LF):EF:=fun st=>(g st).bind fun b=>if b.1.length ≤ sizeLine then some (.list b.1,b.2) else none
def newF (g:LF):LF:=fun st=>(g st).bind fun b=>if b.1.length ≤ sizeLine then some b else none
section
variable {X:Cx} {C:Ct} {pos:Pos} {e:Expr} {es:List Expr} {f:EF} {g:LF}
theorem xa_nil:PA X [] (aOf (kxOf X) C nilA):=pa_wk pa_nil fun σ H Q q=>by
 obtain ⟨F,st,w,R,e,q⟩:=q
 cases e
 exact q [] H F (Same.refl _) R .nil
theorem xa_cons (ha:PE X e (dOf (kxOf X) C f)) (hr:PA X es (aOf (kxOf X) C g)) (hs:starEach (e::es) X.env=(false,eval e X.env)::starEach es X.env:=by rfl):PA X (e::es) (aOf (kxOf X) C (consA f g)):=
 pa_wk (pa_cons ha hr hs) fun σ H Q q=>by
  obtain ⟨F,st,w,R,e,q⟩:=q
  obtain ⟨a,ea,e⟩:=Option.bind_eq_some_iff.mp e
  obtain ⟨b,eb,e⟩:=Option.map_eq_some_iff.mp e
  cases e
  refine ⟨F,st,a,R,ea,fun v H1 F1 s1 R1 d1=>?_⟩
  exact ⟨F1,a.2,b,R1,eb,fun vs H2 F2 s2 R2 d2=>q (v::vs) H2 F2 (s1.trans s2) R2 (.cons (Dp_up d1 s2) d2)⟩
theorem pe_tupN {x1:Nat} {t:TA} (h:PA X es t):PE X (.Tuple es x1 pos) (fun σ H Q=>t σ H fun xs H1=>xs.length ≤ sizeLine∧∀ (p:Addr) (its:List Value),H1 p=none→Q (.ref p) (upd H1 p (.frz (tupO its) (.tup xs)))):=by
 refine ⟨fun pins s σ H Q I hq=>?_⟩
 refine wpAny_Tuple_spliced (thn (h.run pos pins s σ H _ I hq) fun us s1 ⟨xs,H1,I1,r,z,q⟩=>⟨by rw [← r.length]; exact z,?_⟩)
 exact ⟨.ref s1.heap.objs.size,_,I1.laid (t':=s1.toks) (fun b u e=>Heap.get?_push_of_some _ e) (Nat.le_refl _) (tupN_ok z r (Heap.get?_push_size _ rfl)),rfl,q _ us (I1.hok.fresh (Nat.le_refl _))⟩
theorem xd_tup {x1} (h:PA X es (aOf (kxOf X) C g)):PE X (.Tuple es x1 pos) (dOf (kxOf X) C (tupF g)):=pe_wk (pe_tupN h) fun σ H Q q=>by
 obtain ⟨F,st,w,R,e,q⟩:=q
 obtain ⟨b,eb,e⟩:=Option.bind_eq_some_iff.mp e
 split at e <;> cases e
 rename_i hl
 refine ⟨F,st,b,R,eb,fun vs H1 F1 s1 R1 d1=>⟨by rw [DpAll_len d1]; exact hl,fun p its hp=>?_⟩⟩
 have gr:=Gr.new (o:=.frz (tupO its) (.tup vs)) R1.fh hp
 exact q _ _ _ (s1.trans gr.ff) (R1.grow gr) (.tup (TupQ.new upd_same) (DpAll_up d1 gr.ff))
theorem xd_lst (h:PA X es (aOf (kxOf X) C g)):PE X (.List es pos) (dOf (kxOf X) C (lstF g)):=pe_wk (pe_lst h) fun σ H Q q=>by
 obtain ⟨F,st,w,R,e,q⟩:=q
 obtain ⟨b,eb,e⟩:=Option.bind_eq_some_iff.mp e
 split at e <;> cases e
 rename_i hl
 refine ⟨F,st,b,R,eb,fun vs H1 F1 s1 R1 d1=>⟨by rw [DpAll_len d1]; exact hl,fun p hp=>?_⟩⟩
 have gr:=Gr.new (o:=.lst vs) R1.fh hp
 exact q _ _ _ (s1.trans gr.ff) (R1.grow gr) (.lst (.inl (.inl upd_same)) (DpAll_up d1 gr.ff))
end
def kIx:D→D→Option D
 | .list xs,.int i=>atI xs i
 | .tuple xs,.int i=>atI xs i
 | .dict kvs,k=>(dGet kvs k).bind id
 | _,_=>none
theorem atI_dp {K:Kx} {F:Hp} {vs:List V} {ds:List D} {i:Int} {d:D} (h:DpAll K F vs ds) (e:atI ds i=some d):∃ v,atI vs i=some v∧Dp K F v d:=by
 unfold atI at e ⊢
 rw [DpAll_len h]
 obtain ⟨j,ej,e⟩:=Option.bind_eq_some_iff.mp e
 obtain ⟨v,h1,h2⟩:=DpAll_get h e
 exact ⟨v,by rw [ej]; exact h1,h2⟩
theorem ok_ix {K:Kx}:Ok2 K (fun x y H Q=>(rIxL K.K x y H Q∨rIxT K.K x y H Q)∨rIxD K x y H Q) kIx:=by
 intro F H x y a b z Q fh ha hb e q
 unfold kIx at e
 split at e
 ·cases ha with
  | lst hs hv=>
   obtain ⟨v,h1,h2⟩:=atI_dp hv e
   exact .inl (.inl ⟨_,_,_,v,rfl,dp_int hb,sql_up fh hs,h1,q v F H (Gr.refl fh) h2⟩)
 ·cases ha with
  | tup hs hv=>
   obtain ⟨v,h1,h2⟩:=atI_dp hv e
   exact .inl (.inr ⟨_,_,_,v,rfl,dp_int hb,sqt_up fh hs,h1,q v F H (Gr.refl fh) h2⟩)
 ·obtain ⟨o,eo,e⟩:=Option.bind_eq_some_iff.mp e
  obtain rfl:o=some z:=e
  exact .inr ⟨F,_,_,z,rdict_of ha fh,hb,eo,fun v dv=>q v F H (Gr.refl fh) dv⟩
 ·cases e
theorem ix_or {X:Cx} {r r':R2} (h:IxR X r) (h':IxR X r'):IxR X (fun x y H Q=>r x y H Q∨r' x y H Q):=fun value slice pins s σ H x y v u Q I rx ry q hs=>
 q.elim (fun q=>h value slice pins s σ H x y v u Q I rx ry q hs) fun q=>h' value slice pins s σ H x y v u Q I rx ry q hs
section
variable {X:Cx} {C:Ct} {pos:Pos} {a b:Expr} {f g:EF}
theorem xd_item (hu:X.A.units + 65 < cLine) (ha:PE X a (dOf (kxOf X) C f)) (hb:PE X b (dOf (kxOf X) C g)) (hs:PlainIx b:=by exact fun _ _=>rfl):PE X (.Subscript a b pos) (dOf (kxOf X) C (bin2 kIx f g)):=xd_ix (ix_or (ix_or ix_list ix_tup) (ix_dict hu)) ok_ix ha hb hs
end
def muC (st:AS) (i:Nat):Option (List D):=match st[i]? with
 | some (.own xs)=>some xs
 | some (.pen xs)=>some xs
 | _=>none
def putM (st:AS) (i:Nat) (xs:List D):AS:=match st[i]? with
 | some (.own _)=>st.set i (.own xs)
 | some (.pen _)=>st.set i (.pen xs)
 | _=>st
section
variable {K:Kx} {C:Ct} {F F' H H':Hp} {st:AS} {σ:L2.St}
theorem mu_of {i:Nat} {xs:List D} (h:muC st i=some xs):st[i]?=some (.own xs)∨st[i]?=some (.pen xs):=by
 unfold muC at h
 split at h <;> cases h
 ·exact .inl (by assumption)
 ·exact .inr (by assumption)
theorem mu_Mu {i:Nat} {xs:List D} (h:muC st i=some xs):Mu st i:=(mu_of h).elim (fun e=>⟨_,e,rfl⟩) fun e=>⟨_,e,rfl⟩
theorem Rel.mu {i:Nat} {xs:List D} (R:Rel K C F st σ H) (h:muC st i=some xs):∃ a,σ[i]?=some (some (.ref a))∧Lst K F H a xs∧(C.H0 a=none∨C.pen=some a):=by
 rcases mu_of h with e | e
 ·obtain ⟨a,h1,h2,h3⟩:=R.slot i _ e
  exact ⟨a,h1,h3,.inl h2⟩
 ·obtain ⟨a,h1,h2,h3⟩:=R.slot i _ e
  exact ⟨a,h1,h3,h2.2⟩
theorem putM_len (i:Nat) (xs:List D):(putM st i xs).length=st.length:=by
 unfold putM
 split <;> simp
theorem Rel.put {i:Nat} {xs ys:List D} {a:Addr} {us:List V} (R:Rel K C F st σ H) (h:muC st i=some xs) (ha:σ[i]?=some (some (.ref a))) (hu:DpAll K F us ys):Rel K C F (putM st i ys) σ (upd H a (.lst us)):=by
 obtain ⟨b,h1,⟨hF,vs,hH,hv⟩,h3⟩:=R.mu h
 rw [ha] at h1
 cases h1
 have hm:Mu st i:=mu_Mu h
 have hi:i < st.length:=by
  rcases mu_of h with e | e <;> exact (List.getElem?_eq_some_iff.mp e).1
 have put_ne:∀ j,j≠i→(putM st i ys)[j]?=st[j]?:=fun j e=>by
  unfold putM
  split <;> first | rfl | rw [List.getElem?_set_ne (Ne.symm e)]
 have put_eq:(st[i]?=some (.own xs)∧(putM st i ys)[i]?=some (.own ys))∨(st[i]?=some (.pen xs)∧(putM st i ys)[i]?=some (.pen ys)):=by
  rcases mu_of h with e | e
  ·refine .inl ⟨e,?_⟩
   unfold putM
   rw [e]
   exact List.getElem?_set_self hi
  ·refine .inr ⟨e,?_⟩
   unfold putM
   rw [e]
   exact List.getElem?_set_self hi
 have mu_back:∀ j,Mu (putM st i ys) j→Mu st j:=fun j hj=>by
  by_cases e:j=i
  ·subst e; exact hm
  ·unfold Mu at hj ⊢
   rw [put_ne j e] at hj
   exact hj
 refine ⟨(putM_len i ys).trans R.len,R.f0,fun b o e=>?_,fun b o e hp=>?_,R.new,fun j s hj=>?_,fun j k b hj hk=>R.apart j k b (mu_back j hj) (mu_back k hk),R.penh,fun p hp=>?_,R.tab.up (Same.refl _) fun P ps _ e=>(upd_ne (fun z=>by subst z; rw [hH] at e; cases e)).trans e⟩
 ·rw [upd_ne (fun z=>by subst z; rw [hF] at e; cases e)]
  exact R.fh b o e
 ·have hb:b≠a:=fun z=>by
   subst z
   rcases h3 with q | q
   ·rw [q] at e; cases e
   ·exact hp q
  rw [upd_ne hb]
  exact R.old b o e hp
 ·by_cases e:j=i
  ·subst e
   rcases put_eq with ⟨e1,e2⟩ | ⟨e1,e2⟩
   ·rw [e2] at hj
    cases hj
    obtain ⟨b,q1,q2,q3⟩:=R.slot j _ e1
    rw [ha] at q1
    cases q1
    exact ⟨a,ha,q2,hF,us,upd_same,hu⟩
   ·rw [e2] at hj
    cases hj
    obtain ⟨b,q1,q2,q3⟩:=R.slot j _ e1
    rw [ha] at q1
    cases q1
    exact ⟨a,ha,q2,hF,us,upd_same,hu⟩
  ·rw [put_ne j e] at hj
   have q:=R.slot j s hj
   cases s with
   | no=>trivial
   | dat d=>exact q
   | own zs=>
    obtain ⟨b,q1,q2,q3,ws,q4,q5⟩:=q
    have hb:b≠a:=fun z=>by
     subst z
     exact e (R.apart j i b ⟨_,hj,rfl⟩ hm q1 ha)
    exact ⟨b,q1,q2,q3,ws,by rw [upd_ne hb]; exact q4,q5⟩
   | pen zs=>
    obtain ⟨b,q1,q2,q3,ws,q4,q5⟩:=q
    have hb:b≠a:=fun z=>by
     subst z
     exact e (R.apart j i b ⟨_,hj,rfl⟩ hm q1 ha)
    exact ⟨b,q1,q2,q3,ws,by rw [upd_ne hb]; exact q4,q5⟩
   | dct kvs=>
    obtain ⟨b,q1,q2,q3,w,q4,q5⟩:=q
    have hb:b≠a:=fun z=>by
     subst z
     exact e (R.apart j i b ⟨_,hj,rfl⟩ hm q1 ha)
    exact ⟨b,q1,q2,q3,w,by rw [upd_ne hb]; exact q4,q5⟩
   | pdc kvs=>
    obtain ⟨b,q1,q2,q3,w,q4,q5⟩:=q
    have hb:b≠a:=fun z=>by
     subst z
     exact e (R.apart j i b ⟨_,hj,rfl⟩ hm q1 ha)
    exact ⟨b,q1,q2,q3,w,by rw [upd_ne hb]; exact q4,q5⟩
   | obj o=>exact q
 ·by_cases e:p=a
  ·subst e; rw [upd_same]; simp
  ·rw [upd_ne e]; exact R.pent p hp
end
def ixM (i:Nat) (g:EF):EF:=fun st=>(muC st i).bind fun _=>(g st).bind fun b=>(muC b.2 i).bind fun xs=>(kIx (.list xs) b.1).map fun z=>(z,b.2)
def lenM (i:Nat):EF:=fun st=>(muC st i).map fun xs=>(.int xs.length,st)
section
variable {X:Cx} {C:Ct} {pos p apos:Pos} {a b:Expr} {f g:EF}
theorem xd_itemM {i:Nat} (ha:PE X a (tVar i)) (hb:PE X b (dOf (kxOf X) C g)) (hs:PlainIx b:=by exact fun _ _=>rfl):PE X (.Subscript a b pos) (dOf (kxOf X) C (ixM i g)):=
 pe_wk (pe_ix ix_list ha hb hs) fun σ H Q q=>by
  obtain ⟨F,st,w,R,e,q⟩:=q
  obtain ⟨x0,e0,e⟩:=Option.bind_eq_some_iff.mp e
  obtain ⟨b,eb,e⟩:=Option.bind_eq_some_iff.mp e
  obtain ⟨xs,ex,e⟩:=Option.bind_eq_some_iff.mp e
  obtain ⟨z,ez,e⟩:=Option.map_eq_some_iff.mp e
  cases e
  obtain ⟨p,h1,_,_⟩:=R.mu e0
  refine ⟨.ref p,h1,F,st,b,R,eb,fun y H1 F1 s1 R1 d1=>?_⟩
  obtain ⟨p',h1',⟨hF,vs,hH,hv⟩,_⟩:=R1.mu ex
  rw [h1] at h1'
  cases h1'
  unfold kIx at ez
  split at ez
  ·rename_i e1 e2
   cases e1
   obtain ⟨v,h2,h3⟩:=atI_dp hv ez
   exact ⟨p,vs,_,v,rfl,dp_int (e2 ▸ d1),.inl (.inl hH),h2,q v H1 F1 s1 R1 h3⟩
  ·rename_i e1 _
   cases e1
  ·rename_i e1
   cases e1
  ·cases ez
end
end Xm
namespace Xm
open PySem PySem.Spec PyProof.Rows L2
def valB (f:EF):BF:=fun st=>(f st).bind fun a=>match a.1 with
 | .bool b=>some (b,a.2)
 | _=>none
def andB (f g:BF):BF:=fun st=>(f st).bind fun a=>if a.1=true then g a.2 else some (false,a.2)
def orB (f g:BF):BF:=fun st=>(f st).bind fun a=>if a.1=true then some (true,a.2) else g a.2
def notB (f:BF):BF:=fun st=>(f st).map fun a=>(!a.1,a.2)
def boolE (f:BF):EF:=fun st=>(f st).map fun a=>(.bool a.1,a.2)
def ifE (c:BF) (f g:EF):EF:=fun st=>(c st).bind fun a=>if a.1=true then f a.2 else g a.2
section
variable {X:Cx} {C:Ct} {pos:Pos} {a b c e:Expr} {rest:List Expr} {f g:EF} {u v:BF}
theorem xt_val (h:PE X e (dOf (kxOf X) C f)) (he:∀ whole,isTrue e X.env whole=(do let v ← whole; standAt e.pos; holding [v] (truthy v)):=by intro _; rfl):PT X e (bOf (kxOf X) C (valB f)):=pt_wk (pt_val h he) fun σ H Q q=>by
 obtain ⟨F,st,w,R,e,q⟩:=q
 obtain ⟨a,ea,e⟩:=Option.bind_eq_some_iff.mp e
 split at e
 ·rename_i b hb
  cases e
  exact ⟨F,st,a,R,ea,fun v H1 F1 s1 R1 d1=>⟨b,dp_bl (hb ▸ d1),q H1 F1 s1 R1⟩⟩
 ·cases e
theorem xt_cmp {op:CmpOp} {r:R2} {k:D→D→Option D} (ho:OpR X (compareOp op) r) (ok:Ok2 (kxOf X) r k) (ha:PE X a (dOf (kxOf X) C f)) (hb:PE X b (dOf (kxOf X) C g)) (hm:behindInMarks op b=false):PT X (.Compare a [op] [b] pos) (bOf (kxOf X) C (valB (bin2 k f g))):=
 pt_wk (pt_cmpR ho ha hb hm) fun σ H Q q=>by
  obtain ⟨F,st,w,R,e,q⟩:=q
  obtain ⟨a,ea,e⟩:=Option.bind_eq_some_iff.mp e
  split at e
  ·rename_i b hb
   cases e
   refine bin2_ok (C:=C) ok ⟨F,st,a,R,ea,fun v H1 F1 s1 R1 d1=>⟨b,dp_bl (hb ▸ d1),q H1 F1 s1 R1⟩⟩
  ·cases e
theorem xt_lt (ha:PE X a (dOf (kxOf X) C f)) (hb:PE X b (dOf (kxOf X) C g)):PT X (.Compare a [.Lt] [b] pos) (bOf (kxOf X) C (valB (bin2 kLt f g))):=xt_cmp op_lt ok_lt ha hb (nomark _)
theorem xt_gt (ha:PE X a (dOf (kxOf X) C f)) (hb:PE X b (dOf (kxOf X) C g)):PT X (.Compare a [.Gt] [b] pos) (bOf (kxOf X) C (valB (bin2 kGt f g))):=xt_cmp op_gt ok_gt ha hb (nomark _)
theorem xt_ge (ha:PE X a (dOf (kxOf X) C f)) (hb:PE X b (dOf (kxOf X) C g)):PT X (.Compare a [.GtE] [b] pos) (bOf (kxOf X) C (valB (bin2 kGe f g))):=xt_cmp op_ge ok_ge ha hb (nomark _)
theorem xt_eq (hu:X.A.units + 64 < cLine) (ha:PE X a (dOf (kxOf X) C f)) (hb:PE X b (dOf (kxOf X) C g)):PT X (.Compare a [.Eq] [b] pos) (bOf (kxOf X) C (valB (bin2 kEq f g))):=xt_cmp (op_eq.or (op_eqD hu)) ok_eq ha hb (nomark _)
theorem xt_ne (hu:X.A.units + 64 < cLine) (ha:PE X a (dOf (kxOf X) C f)) (hb:PE X b (dOf (kxOf X) C g)):PT X (.Compare a [.NotEq] [b] pos) (bOf (kxOf X) C (valB (bin2 kNe f g))):=xt_cmp (op_ne.or (op_neD hu)) ok_ne ha hb (nomark _)
theorem xt_isnot (ha:PE X a (dOf (kxOf X) C f)) (hb:PE X b (dOf (kxOf X) C g)):PT X (.Compare a [.IsNot] [b] pos) (bOf (kxOf X) C (valB (bin2 kIsNot f g))):=xt_cmp op_notN ok_isnot ha hb (nomark _)
theorem andB_ok {K:Kx} {σ:L2.St} {H:Hp} {Q:Bool→Hp→Prop} (q:bOf K C (andB u v) σ H Q):tAnd (bOf K C u) (bOf K C v) σ H Q:=by
 obtain ⟨F,st,w,R,e,q⟩:=q
 obtain ⟨a,ea,e⟩:=Option.bind_eq_some_iff.mp e
 refine ⟨F,st,a,R,ea,fun H1 F1 s1 R1=>?_⟩
 dsimp only
 split
 ·rename_i h
  rw [if_pos h] at e
  exact ⟨F1,a.2,w,R1,e,fun H2 F2 s2 R2=>q H2 F2 (s1.trans s2) R2⟩
 ·rename_i h
  rw [if_neg h] at e
  cases e
  exact q H1 F1 s1 R1
theorem orB_ok {K:Kx} {σ:L2.St} {H:Hp} {Q:Bool→Hp→Prop} (q:bOf K C (orB u v) σ H Q):tOr (bOf K C u) (bOf K C v) σ H Q:=by
 obtain ⟨F,st,w,R,e,q⟩:=q
 obtain ⟨a,ea,e⟩:=Option.bind_eq_some_iff.mp e
 refine ⟨F,st,a,R,ea,fun H1 F1 s1 R1=>?_⟩
 dsimp only
 split
 ·rename_i h
  rw [if_pos h] at e
  cases e
  exact q H1 F1 s1 R1
 ·rename_i h
  rw [if_neg h] at e
  exact ⟨F1,a.2,w,R1,e,fun H2 F2 s2 R2=>q H2 F2 (s1.trans s2) R2⟩
theorem xw_and1 (ha:PT X a (bOf (kxOf X) C u)):PW X (.BoolOp .And [a] pos) (bOf (kxOf X) C u):=pw_and1 ha
theorem xw_or1 (ha:PT X a (bOf (kxOf X) C u)):PW X (.BoolOp .Or [a] pos) (bOf (kxOf X) C u):=pw_or1 ha
theorem xw_and (ha:PT X a (bOf (kxOf X) C u)) (hb:PW X (.BoolOp .And (b::rest) pos) (bOf (kxOf X) C v)):PW X (.BoolOp .And (a::b::rest) pos) (bOf (kxOf X) C (andB u v)):=pw_wk (pw_and ha hb) fun _ _ _ q=>andB_ok q
theorem xw_or (ha:PT X a (bOf (kxOf X) C u)) (hb:PW X (.BoolOp .Or (b::rest) pos) (bOf (kxOf X) C v)):PW X (.BoolOp .Or (a::b::rest) pos) (bOf (kxOf X) C (orB u v)):=pw_wk (pw_or ha hb) fun _ _ _ q=>orB_ok q
theorem xt_w (h:PW X e (bOf (kxOf X) C u)):PT X e (bOf (kxOf X) C u):=h.pt
theorem xt_not (ha:PT X a (bOf (kxOf X) C u)):PT X (.UnaryOp .Not a pos) (bOf (kxOf X) C (notB u)):=pt_wk (pt_not ha) fun σ H Q q=>by
 obtain ⟨F,st,w,R,e,q⟩:=q
 obtain ⟨a,ea,e⟩:=Option.map_eq_some_iff.mp e
 cases e
 exact ⟨F,st,a,R,ea,fun H1 F1 s1 R1=>q H1 F1 s1 R1⟩
theorem valB_ok {K:Kx} {σ:L2.St} {H:Hp} {Q:VK} {st:AS} {F:Hp} {w:Bool × AS} (R:Rel K C F st σ H) (e:valB f st=some w) (q:∀ H' F',Same F F'→Rel K C F' w.2 σ H'→Q (.bl w.1) H'):dOf K C f σ H Q:=by
 obtain ⟨a,ea,e⟩:=Option.bind_eq_some_iff.mp e
 split at e
 ·rename_i b hb
  cases e
  exact ⟨F,st,a,R,ea,fun v H1 F1 s1 R1 d1=>by
   have hv:=dp_bl (hb ▸ d1)
   subst hv
   exact q H1 F1 s1 R1⟩
 ·cases e
theorem xd_one {op} (h:PE X a (dOf (kxOf X) C f)):PE X (.BoolOp op [a] pos) (dOf (kxOf X) C (boolE (valB f))):=pe_wk (pe_one h) fun σ H Q q=>by
 obtain ⟨F,st,w,R,e,q⟩:=q
 obtain ⟨a,ea,e⟩:=Option.map_eq_some_iff.mp e
 cases e
 exact valB_ok R ea fun H1 F1 s1 R1=>q _ H1 F1 s1 R1 (.bl _)
theorem xd_and (ha:PE X a (dOf (kxOf X) C f)) (hb:PE X (.BoolOp .And (b::rest) pos) (dOf (kxOf X) C (boolE v))):PE X (.BoolOp .And (a::b::rest) pos) (dOf (kxOf X) C (boolE (andB (valB f) v))):=pe_wk (pe_and ha hb) fun σ H Q q=>by
 obtain ⟨F,st,w,R,e,q⟩:=q
 obtain ⟨a,ea,e⟩:=Option.map_eq_some_iff.mp e
 cases e
 obtain ⟨b,eb,e⟩:=Option.bind_eq_some_iff.mp ea
 refine valB_ok R eb fun H1 F1 s1 R1=>⟨b.1,rfl,?_⟩
 split
 ·rename_i h
  rw [if_pos h] at e
  refine ⟨F1,b.2,(.bool a.1,a.2),R1,by unfold boolE; rw [e]; rfl,fun v H2 F2 s2 R2 d2=>q v H2 F2 (s1.trans s2) R2 d2⟩
 ·rename_i h
  rw [if_neg h] at e
  cases e
  exact q _ H1 F1 s1 R1 (.bl _)
theorem xd_not (ha:PE X a (dOf (kxOf X) C f)):PE X (.UnaryOp .Not a pos) (dOf (kxOf X) C (boolE (notB (valB f)))):=pe_wk (pe_not ha) fun σ H Q q=>by
 obtain ⟨F,st,w,R,e,q⟩:=q
 obtain ⟨a,ea,e⟩:=Option.map_eq_some_iff.mp e
 cases e
 obtain ⟨b,eb,e⟩:=Option.map_eq_some_iff.mp ea
 cases e
 exact valB_ok R eb fun H1 F1 s1 R1=>⟨b.1,rfl,q _ H1 F1 s1 R1 (.bl _)⟩
theorem xd_if (hc:PT X c (bOf (kxOf X) C u)) (ha:PE X a (dOf (kxOf X) C f)) (hb:PE X b (dOf (kxOf X) C g)):PE X (.IfExp c a b pos) (dOf (kxOf X) C (ifE u f g)):=pe_wk (pe_ifExp hc ha hb) fun σ H Q q=>by
 obtain ⟨F,st,w,R,e,q⟩:=q
 obtain ⟨b,eb,e⟩:=Option.bind_eq_some_iff.mp e
 refine ⟨F,st,b,R,eb,fun H1 F1 s1 R1=>?_⟩
 dsimp only
 split
 ·rename_i h
  rw [if_pos h] at e
  exact ⟨F1,b.2,w,R1,e,fun v H2 F2 s2 R2 d2=>q v H2 F2 (s1.trans s2) R2 d2⟩
 ·rename_i h
  rw [if_neg h] at e
  exact ⟨F1,b.2,w,R1,e,fun v H2 F2 s2 R2 d2=>q v H2 F2 (s1.trans s2) R2 d2⟩
end
inductive RV where
 | val (d:D)
 | new (xs:List D)
 | dct (kvs:List (D × D))
 | exc (x:Ex)
inductive Fl where
 | nx
 | ret (r:RV)
 | brk
 | cont
abbrev SF:=AS→Option (Fl × AS)
def ROk (K:Kx) (C:Ct) (F H:Hp) (v:V):RV→Prop
 | .val d=>Dp K F v d
 | .new xs=>∃ a,v=.ref a∧C.H0 a=none∧Lst K F H a xs
 | .dct kvs=>∃ a,v=.ref a∧C.H0 a=none∧Dct K F H a kvs
 | .exc _=>False
def RetQ (K:Kx) (C:Ct) (Z:Ends) (F:Hp) (st:AS):RV→Prop
 | .exc x=>∀ cls d σ' H' F',Same F F'→Rel K C F' st σ' H'→ExOk K F' x cls d→C.W cls d σ' H'
 | .val d=>∀ v σ' H' F',Same F F'→Rel K C F' st σ' H'→ROk K C F' H' v (.val d)→Z.rt v H'
 | .new xs=>∀ v σ' H' F',Same F F'→Rel K C F' st σ' H'→ROk K C F' H' v (.new xs)→Z.rt v H'
 | .dct kvs=>∀ v σ' H' F',Same F F'→Rel K C F' st σ' H'→ROk K C F' H' v (.dct kvs)→Z.rt v H'
theorem RetQ.up {K:Kx} {C:Ct} {Z:Ends} {F F':Hp} {st:AS} {r:RV} (q:RetQ K C Z F st r) (e:Same F F'):RetQ K C Z F' st r:=by
 cases r with
 | exc x=>exact fun cls d σ' H' F2 s2=>q cls d σ' H' F2 (e.trans s2)
 | val d=>exact fun v σ' H' F2 s2=>q v σ' H' F2 (e.trans s2)
 | new d=>exact fun v σ' H' F2 s2=>q v σ' H' F2 (e.trans s2)
 | dct d=>exact fun v σ' H' F2 s2=>q v σ' H' F2 (e.trans s2)
section
variable (K:Kx) (C:Ct)
def sOf (g:SF):TS:=fun Z σ H=>∃ F st w,Rel K C F st σ H∧g st=some w∧match w.1 with
 | .nx=>∀ σ' H' F',Same F F'→Rel K C F' w.2 σ' H'→Z.nx σ' H'
 | .brk=>∀ σ' H' F',Same F F'→Rel K C F' w.2 σ' H'→Z.bk σ' H'
 | .cont=>∀ σ' H' F',Same F F'→Rel K C F' w.2 σ' H'→Z.ct σ' H'
 | .ret r=>RetQ K C Z F w.2 r
def gOf (u:D→AS→Option AS) (ts:List Nat):TG:=fun v σ H Q=>∃ F st d st',Rel K C F st σ H∧Dp K F v d∧u d st=some st'∧∀ σ' H' F',Same F F'→Rel K C F' st' σ' H'→σ'.length=σ.length→(∀ j,j ∉ ts→σ'[j]?=σ[j]?)→Q σ' H'
end
def seqS (f g:SF):SF:=fun st=>(f st).bind fun w=>match w.1 with
 | .nx=>g w.2
 | _=>some w
def skipS:SF:=fun st=>some (.nx,st)
def retS (f:EF):SF:=fun st=>(f st).map fun a=>(.ret (.val a.1),a.2)
def retN (g:LF):SF:=fun st=>(g st).map fun a=>(.ret (.new a.1),a.2)
def dropS (f:EF):SF:=fun st=>(f st).map fun a=>(.nx,a.2)
def ifS (c:BF) (f g:SF):SF:=fun st=>(c st).bind fun a=>if a.1=true then f a.2 else g a.2
def setD (i:Nat) (d:D) (st:AS):Option AS:=match st[i]? with
 | some (.pen _)=>none
 | some _=>some (st.set i (.dat d))
 | none=>none
def setO (i:Nat) (xs:List D) (st:AS):Option AS:=match st[i]? with
 | some (.pen _)=>none
 | some _=>some (st.set i (.own xs))
 | none=>none
def asgS (i:Nat) (f:EF):SF:=fun st=>(f st).bind fun a=>(setD i a.1 a.2).map fun st'=>(.nx,st')
def asgN (i:Nat) (g:LF):SF:=fun st=>(g st).bind fun a=>(setO i a.1 a.2).map fun st'=>(.nx,st')
section
variable {K:Kx} {C:Ct} {F F' H H':Hp} {st:AS} {σ:L2.St}
theorem Rel.setD {i:Nat} {d:D} {v:V} {st':AS} (R:Rel K C F st σ H) (h:setD i d st=some st') (hv:Dp K F v d):Rel K C F st' (σ.set i (some v)) H:=by
 have e:st'=st.set i (.dat d)∧i < st.length:=by
  unfold Xm.setD at h
  split at h <;> cases h
  exact ⟨rfl,(List.getElem?_eq_some_iff.mp ‹_›).1⟩
 obtain ⟨rfl,hi⟩:=e
 have hiσ:i < σ.length:=by rw [← R.len]; exact hi
 refine ⟨by rw [List.length_set,List.length_set]; exact R.len,R.f0,R.fh,R.old,R.new,fun j s hj=>?_,fun j k b hj hk e1 e2=>?_,R.penh,R.pent,R.tab⟩
 ·by_cases e:j=i
  ·subst e
   rw [List.getElem?_set_self hi] at hj
   cases hj
   exact ⟨v,List.getElem?_set_self hiσ,hv⟩
  ·rw [List.getElem?_set_ne (Ne.symm e)] at hj
   rw [List.getElem?_set_ne (Ne.symm e)]
   exact R.slot j s hj
 ·obtain ⟨m1,n1⟩:=mu_set_dat hj
  obtain ⟨m2,n2⟩:=mu_set_dat hk
  rw [List.getElem?_set_ne (Ne.symm n1)] at e1
  rw [List.getElem?_set_ne (Ne.symm n2)] at e2
  exact R.apart j k b m1 m2 e1 e2
theorem Rel.setO {i:Nat} {xs:List D} {a:Addr} {st':AS} (R:Rel K C F st σ H) (h:setO i xs st=some st') (h0:C.H0 a=none) (hl:Lst K F H a xs) (hap:∀ j,Mu st j→σ[j]?≠some (some (.ref a))) :
  Rel K C F st' (σ.set i (some (.ref a))) H:=by
 have e:st'=st.set i (.own xs)∧i < st.length:=by
  unfold Xm.setO at h
  split at h <;> cases h
  exact ⟨rfl,(List.getElem?_eq_some_iff.mp ‹_›).1⟩
 obtain ⟨rfl,hi⟩:=e
 have hiσ:i < σ.length:=by rw [← R.len]; exact hi
 have back:∀ j,j≠i→Mu (st.set i (.own xs)) j→Mu st j:=fun j e h=>by
  unfold Mu at h ⊢
  rw [List.getElem?_set_ne (Ne.symm e)] at h
  exact h
 refine ⟨by rw [List.length_set,List.length_set]; exact R.len,R.f0,R.fh,R.old,R.new,fun j s hj=>?_,fun j k b hj hk e1 e2=>?_,R.penh,R.pent,R.tab⟩
 ·by_cases e:j=i
  ·subst e
   rw [List.getElem?_set_self hi] at hj
   cases hj
   exact ⟨a,List.getElem?_set_self hiσ,h0,hl⟩
  ·rw [List.getElem?_set_ne (Ne.symm e)] at hj
   rw [List.getElem?_set_ne (Ne.symm e)]
   exact R.slot j s hj
 ·by_cases ej:j=i
  ·subst ej
   by_cases ek:k=j
   ·exact ek.symm
   ·rw [List.getElem?_set_self hiσ] at e1
    rw [List.getElem?_set_ne (Ne.symm ek)] at e2
    cases e1
    exact absurd e2 (hap k (back k ek hk))
  ·by_cases ek:k=i
   ·subst ek
    rw [List.getElem?_set_self hiσ] at e2
    rw [List.getElem?_set_ne (Ne.symm ej)] at e1
    cases e2
    exact absurd e1 (hap j (back j ej hj))
   ·rw [List.getElem?_set_ne (Ne.symm ej)] at e1
    rw [List.getElem?_set_ne (Ne.symm ek)] at e2
    exact R.apart j k b (back j ej hj) (back k ek hk) e1 e2
end
section
variable {X:Cx} {C:Ct} {pos:Pos} {e:Expr} {st:Stmt} {sts:List Stmt} {f:EF} {g:LF} {s u:SF} {c:BF}
theorem xs_nil:PSs X [] (sOf (kxOf X) C skipS):=pss_wk pss_nil fun Z σ H q=>by
 obtain ⟨F,st,w,R,e,q⟩:=q
 cases e
 exact q σ H F (Same.refl _) R
theorem seqS_ok {K:Kx} {Z:Ends} {σ:L2.St} {H:Hp} (q:sOf K C (seqS s u) Z σ H):tSeq (sOf K C s) (sOf K C u) Z σ H:=by
 obtain ⟨F,st,w,R,e,q⟩:=q
 obtain ⟨a,ea,e⟩:=Option.bind_eq_some_iff.mp e
 refine ⟨F,st,a,R,ea,?_⟩
 obtain ⟨fl,st1⟩:=a
 cases fl with
 | nx=>
  intro σ1 H1 F1 s1 R1
  refine ⟨F1,st1,w,R1,e,?_⟩
  obtain ⟨fl2,st2⟩:=w
  cases fl2 with
  | nx=>exact fun σ2 H2 F2 s2 R2=>q σ2 H2 F2 (s1.trans s2) R2
  | brk=>exact fun σ2 H2 F2 s2 R2=>q σ2 H2 F2 (s1.trans s2) R2
  | cont=>exact fun σ2 H2 F2 s2 R2=>q σ2 H2 F2 (s1.trans s2) R2
  | ret r=>exact RetQ.up q s1
 | brk=>cases e; exact q
 | cont=>cases e; exact q
 | ret r=>cases e; exact q
theorem xs_cons (h1:PS X st (sOf (kxOf X) C s)) (h2:PSs X sts (sOf (kxOf X) C u)):PSs X (st::sts) (sOf (kxOf X) C (seqS s u)):=pss_wk (pss_cons h1 h2) fun _ _ _ q=>seqS_ok q
theorem xs_one (h1:PS X st (sOf (kxOf X) C s)):PSs X [st] (sOf (kxOf X) C s):=pss_one h1
theorem xs_ret (he:PE X e (dOf (kxOf X) C f)):PS X (.Return (some e) pos) (sOf (kxOf X) C (retS f)):=ps_wk (ps_ret he) fun Z σ H q=>by
 obtain ⟨F,st,w,R,e,q⟩:=q
 obtain ⟨a,ea,e⟩:=Option.map_eq_some_iff.mp e
 cases e
 exact ⟨F,st,a,R,ea,fun v H1 F1 s1 R1 d1=>q v σ H1 F1 s1 R1 d1⟩
theorem xs_retN (he:PE X e (nOf (kxOf X) C g)):PS X (.Return (some e) pos) (sOf (kxOf X) C (retN g)):=ps_wk (ps_ret he) fun Z σ H q=>by
 obtain ⟨F,st,w,R,e,q⟩:=q
 obtain ⟨a,ea,e⟩:=Option.map_eq_some_iff.mp e
 cases e
 exact ⟨F,st,a,R,ea,fun p vs H1 F1 s1 R1 h0 h1 h2 _ d1=>q _ σ H1 F1 s1 R1 ⟨p,rfl,h0,h1,vs,h2,d1⟩⟩
theorem xs_if {t:Expr} {a b:List Stmt} (hc:PT X t (bOf (kxOf X) C c)) (ha:PSs X a (sOf (kxOf X) C s)) (hb:PSs X b (sOf (kxOf X) C u)):PS X (.If t a b pos) (sOf (kxOf X) C (ifS c s u)):=ps_wk (ps_if hc ha hb) fun Z σ H q=>by
 obtain ⟨F,st,w,R,e,q⟩:=q
 obtain ⟨a,ea,e⟩:=Option.bind_eq_some_iff.mp e
 refine ⟨F,st,a,R,ea,fun H1 F1 s1 R1=>?_⟩
 have fin:∀ g:SF,g a.2=some w→sOf (kxOf X) C g Z σ H1:=fun g eg=>by
  refine ⟨F1,a.2,w,R1,eg,?_⟩
  obtain ⟨fl2,st2⟩:=w
  cases fl2 with
  | nx=>exact fun σ2 H2 F2 s2 R2=>q σ2 H2 F2 (s1.trans s2) R2
  | brk=>exact fun σ2 H2 F2 s2 R2=>q σ2 H2 F2 (s1.trans s2) R2
  | cont=>exact fun σ2 H2 F2 s2 R2=>q σ2 H2 F2 (s1.trans s2) R2
  | ret r=>exact RetQ.up q s1
 dsimp only
 split
 ·rename_i h
  rw [if_pos h] at e
  exact fin s e
 ·rename_i h
  rw [if_neg h] at e
  exact fin u e
theorem xs_set {i:Nat} {x:Str} {pos':Pos} (hN:X.N.Nodup) (he:PE X e (dOf (kxOf X) C f)) (hi:X.N[i]?=some x) (hx:Loc X.env.scope x) (hs:swapsWith e (some (.Name x pos')) pos.line X.env=pure false:=by rfl) (hf:X.fn x=true∨X.env.scope.names.lookup x=some .local:=by first | exact .inl rfl | exact .inr rfl | assumption) :
  PS X (.Assign [.Name x pos'] e pos) (sOf (kxOf X) C (asgS i f)):=ps_wk (ps_set hN hi hx he hs hf) fun Z σ H q=>by
 obtain ⟨F,st,w,R,e,q⟩:=q
 obtain ⟨a,ea,e⟩:=Option.bind_eq_some_iff.mp e
 obtain ⟨st',es,e⟩:=Option.map_eq_some_iff.mp e
 cases e
 exact ⟨F,st,a,R,ea,fun v H1 F1 s1 R1 d1=>q _ H1 F1 s1 (R1.setD es d1)⟩
theorem xs_setN {i:Nat} {x:Str} {pos':Pos} (hN:X.N.Nodup) (he:PE X e (nOf (kxOf X) C g)) (hi:X.N[i]?=some x) (hx:Loc X.env.scope x) (hs:swapsWith e (some (.Name x pos')) pos.line X.env=pure false:=by rfl) (hf:X.fn x=true∨X.env.scope.names.lookup x=some .local:=by first | exact .inl rfl | exact .inr rfl | assumption) :
  PS X (.Assign [.Name x pos'] e pos) (sOf (kxOf X) C (asgN i g)):=ps_wk (ps_set hN hi hx he hs hf) fun Z σ H q=>by
 obtain ⟨F,st,w,R,e,q⟩:=q
 obtain ⟨a,ea,e⟩:=Option.bind_eq_some_iff.mp e
 obtain ⟨st',es,e⟩:=Option.map_eq_some_iff.mp e
 cases e
 exact ⟨F,st,a,R,ea,fun p vs H1 F1 s1 R1 h0 h1 h2 h3 d1=>q _ H1 F1 s1 (R1.setO es h0 ⟨h1,vs,h2,d1⟩ h3)⟩
end
end Xm
namespace Xm
open PySem PySem.Spec PyProof.Rows L2
structure ItOk (K:Kx) (F:Hp) (J:It) (ds:List D):Prop where
 go:∀ i H,i < ds.length→Same F H→J.go i H
 stop:∀ H,Same F H→J.stop ds.length H
 yld:∀ i H x H' d,ds[i]?=some d→Same F H→J.yld i H x H'→∃ G:Hp,(∀ a o,G a=some o→H' a=some o∧H a=none)∧Same H H'∧∀ F1,Same F F1→Same G F1→Dp K F1 x d
def over (G F:Hp):Hp:=fun a=>match F a with
 | some o=>some o
 | none=>G a
theorem over_gr {G F H H':Hp} (fh:Same F H) (hg:∀ a o,G a=some o→H' a=some o∧H a=none) (hh:Same H H'):Gr F H (over G F) H'∧Same G (over G F):=by
 refine ⟨⟨fun a o e=>?_,fun a o e=>?_,hh,fun a e=>?_⟩,fun a o e=>?_⟩
 ·unfold over; rw [e]
 ·unfold over at e
  split at e
  ·rename_i u hu
   cases e
   exact hh _ _ (fh _ _ hu)
  ·exact (hg a o e).1
 ·unfold over at e
  split at e
  ·rename_i u hu
   exact .inl (by rw [hu]; simp)
  ·cases q:G a with
   | none=>exact absurd q e
   | some o=>exact .inr (hg a o q).2
 ·unfold over
  have:=(hg a o e).2
  rw [fh.free this]
  exact e
def iOf (K:Kx) (C:Ct) (f:LF):TI:=fun σ H R=>∃ F st r,Rel K C F st σ H∧f st=some r∧∀ J H' F',Same F F'→Rel K C F' r.2 σ H'→ItOk K F' J r.1→R J H'
def itD (f:EF):LF:=fun st=>(f st).bind fun a=>match a.1 with
 | .list xs=>some (xs,a.2)
 | .tuple xs=>some (xs,a.2)
 | _=>none
theorem itl_ok {K:Kx} {F:Hp} {a:Addr} {vs:List V} {ds:List D} (hs:SqL K.K F a vs) (hv:DpAll K F vs ds):ItOk K F (Itl K.K a) ds where
 go:=fun i H hi e=>⟨vs,vs[i]'(by rw [DpAll_len hv]; exact hi),sql_up e hs,by simp⟩
 stop:=fun H e=>⟨vs,sql_up e hs,by rw [DpAll_len hv]; exact Nat.le_refl _⟩
 yld:=fun i H x H' d hd e y=>by
  obtain ⟨rfl,y⟩:=y
  obtain ⟨v,h1,h2⟩:=DpAll_get hv hd
  have:=y vs (sql_up e hs)
  rw [h1] at this
  cases this
  exact ⟨fun _=>none,fun _ _ z=>(nomatch z),Same.refl _,fun F1 s1 _=>Dp_up h2 s1⟩
theorem itt_ok {K:Kx} {F:Hp} {a:Addr} {vs:List V} {ds:List D} (hs:TupQ K.K F a vs) (hv:DpAll K F vs ds):ItOk K F (Itt K.K a) ds where
 go:=fun i H hi e=>⟨vs,vs[i]'(by rw [DpAll_len hv]; exact hi),sqt_up e hs,by simp⟩
 stop:=fun H e=>⟨vs,sqt_up e hs,by rw [DpAll_len hv]; exact Nat.le_refl _⟩
 yld:=fun i H x H' d hd e y=>by
  obtain ⟨rfl,y⟩:=y
  obtain ⟨v,h1,h2⟩:=DpAll_get hv hd
  have:=y vs (sqt_up e hs)
  rw [h1] at this
  cases this
  exact ⟨fun _=>none,fun _ _ z=>(nomatch z),Same.refl _,fun F1 s1 _=>Dp_up h2 s1⟩
theorem itr_ok {K:Kx} {F:Hp} {lo:Int} {n:Nat}:ItOk K F (Itr lo n) ((List.range n).map fun (k:Nat)=>.int (lo + (k:Int))) where
 go:=fun i H hi _=>by
  have:i < n:=by simpa using hi
  exact this
 stop:=fun H _=>by show n ≤ _; simp
 yld:=fun i H x H' d hd _ y=>by
  obtain ⟨rfl,rfl⟩:=y
  rw [List.getElem?_map] at hd
  obtain ⟨k,hk,rfl⟩:=Option.map_eq_some_iff.mp hd
  have hk2:k=i:=by
   rw [List.getElem?_range (by
    have:=(List.getElem?_eq_some_iff.mp hk).1
    simpa using this)] at hk
   exact (Option.some.inj hk).symm
  subst hk2
  exact ⟨fun _=>none,fun _ _ z=>(nomatch z),Same.refl _,fun F1 _ _=>.int _⟩
def rngD (lo hi:Int):List D:=(List.range (hi - lo).toNat).map fun (k:Nat)=>.int (lo + (k:Int))
def itR1 (f:EF):LF:=fun st=>(f st).bind fun a=>match a.1 with
 | .int j=>if -(2 ^ 62) ≤ j∧j < 2 ^ 62 then some (rngD 0 j,a.2) else none
 | _=>none
section
variable {X:Cx} {C:Ct} {pos p:Pos} {tg e a b:Expr} {f g:EF}
def iSeq (K:Kx) (tl:TE):TI:=fun σ H R=>tl σ H fun x H1=>∃ a,x=.ref a∧((∃ xs,SqL K.K H1 a xs)∧R (Itl K.K a) H1∨(∃ xs,SqT K.K H1 a xs)∧R (Itt K.K a) H1)
theorem xi_seq0 {l:Expr} {tl:TE} (hl:PE X l tl):PI X tg l (iSeq (kxOf X) tl):=by
 refine ⟨fun pins s σ H R I h=>?_⟩
 refine thn (hl.run pins s σ H _ I h) fun v s1 ⟨x,H1,I1,r1,a,ex,q1⟩=>?_
 subst ex
 cases r1
 rcases q1 with ⟨⟨xs,hq⟩,q⟩ | ⟨⟨xs,hq⟩,q⟩
 ·obtain ⟨its,rv,pl,hz⟩:=I1.list hq
  refine wpAny_pyIter_list pl.isList ?_
  refine ⟨s1.heap.objs.size,[s1.heap.objs.size],_,_,H1,rfl,I1.kept (t':=s1.toks) fun b o e=>Heap.get?_push_of_some _ e,turn_list a _,⟨_,Heap.get?_push_size _ rfl,rfl,rfl⟩,fun b hb=>?_,q⟩
  obtain rfl:b=s1.heap.objs.size:=by simpa using hb
  exact I1.fpOk (Nat.le_refl _) (I1.hok.fresh (Nat.le_refl _))
 ·obtain ⟨its,rv,pl,hz⟩:=I1.tuple hq
  refine wpAny_pyIter_tuple (show s1.heap.IsTuple a its.toArray from pl) ?_
  refine ⟨s1.heap.objs.size,[s1.heap.objs.size],_,_,H1,rfl,I1.kept (t':=s1.toks) fun b o e=>Heap.get?_push_of_some _ e,turn_tuple a _,⟨_,Heap.get?_push_size _ rfl,rfl,rfl⟩,fun b hb=>?_,q⟩
  obtain rfl:b=s1.heap.objs.size:=by simpa using hb
  exact I1.fpOk (Nat.le_refl _) (I1.hok.fresh (Nat.le_refl _))
theorem xi_seq (h:PE X e (dOf (kxOf X) C f)):PI X tg e (iOf (kxOf X) C (itD f)):=pi_wk (xi_seq0 h) fun σ H R q=>by
 obtain ⟨F,st,w,Rl,ew,q⟩:=q
 obtain ⟨a,ea,ew⟩:=Option.bind_eq_some_iff.mp ew
 refine ⟨F,st,a,Rl,ea,fun v H1 F1 s1 R1 d1=>?_⟩
 split at ew
 ·rename_i xs hx
  cases ew
  rw [hx] at d1
  cases d1 with
  | lst hs hv=>exact ⟨_,rfl,.inl ⟨⟨_,sql_up R1.fh hs⟩,q _ H1 F1 s1 R1 (itl_ok hs hv)⟩⟩
 ·rename_i xs hx
  cases ew
  rw [hx] at d1
  cases d1 with
  | tup hs hv=>exact ⟨_,rfl,.inr ⟨⟨_,sqt_up R1.fh hs⟩,q _ H1 F1 s1 R1 (itt_ok hs hv)⟩⟩
 ·cases ew
theorem xi_range1 (hm:X.mg "range" = none) (ha:PE X a (dOf (kxOf X) C f)) (hg:Gl X "range" := by rfl) (hs:starEach [a] X.env=[(false,eval a X.env)]:=by rfl):PI X tg (.Call (.Name "range" p) [a] [] pos) (iOf (kxOf X) C (itR1 f)):=
 pi_wk (pi_range1 hg hm (pa_cons ha pa_nil hs) hs) fun σ H R q=>by
  obtain ⟨F,st,w,Rl,ew,q⟩:=q
  obtain ⟨a,ea,ew⟩:=Option.bind_eq_some_iff.mp ew
  refine ⟨F,st,a,Rl,ea,fun v H1 F1 s1 R1 d1=>?_⟩
  split at ew
  ·rename_i j hj
   split at ew
   ·rename_i hb
    cases ew
    rw [hj] at d1
    refine ⟨j,by rw [dp_int d1],hb.1,hb.2,?_⟩
    have z:=q (Itr 0 j.toNat) H1 F1 s1 R1 (by
     unfold rngD
     rw [Int.sub_zero]
     exact itr_ok)
    exact z
   ·cases ew
  ·cases ew
end
def nilT:List D→AS→Option AS:=fun ds st=>match ds with
 | []=>some st
 | _=>none
def consT (u:D→AS→Option AS) (w:List D→AS→Option AS):List D→AS→Option AS:=fun ds st=>match ds with
 | d::r=>(u d st).bind fun st'=>w r st'
 | []=>none
def gsOf (K:Kx) (C:Ct) (u:List D→AS→Option AS) (ts:List Nat):TGs:=fun vs σ H Q=>∃ F st ds st',Rel K C F st σ H∧DpAll K F vs ds∧u ds st=some st'∧∀ σ' H' F',Same F F'→Rel K C F' st' σ' H'→σ'.length=σ.length→(∀ j,j ∉ ts→σ'[j]?=σ[j]?)→Q σ' H'
section
variable {X:Cx} {C:Ct} {pos p:Pos} {e:Expr} {es:List Expr}
theorem pgs_wk {t t':TGs} (h:PGs X es t) (w:∀ v σ H Q,t' v σ H Q→t v σ H Q):PGs X es t':=⟨fun pins s σ H v u Q I r q=>h.run pins s σ H v u Q I r (w v σ H Q q)⟩
theorem xg_name {i:Nat} {x:Str} (hN:X.N.Nodup) (hi:X.N[i]?=some x) (hx:Loc X.env.scope x) (hf:X.fn x=true∨X.env.scope.names.lookup x=some .local:=by first | exact .inl rfl | exact .inr rfl | assumption):PG X (.Name x pos) (gOf (kxOf X) C (setD i) [i]):=
 pg_wk (pg_name hN hi hx hf) fun v σ H Q q=>by
  obtain ⟨F,st,d,st',R,hd,e,q⟩:=q
  exact q _ H F (Same.refl _) (R.setD e hd) (List.length_set ..) fun j hj=>List.getElem?_set_ne fun z=>hj (by simp [z])
theorem xg_nil:PGs X [] (gsOf (kxOf X) C nilT []):=pgs_wk pgs_nil fun v σ H Q q=>by
 obtain ⟨F,st,ds,st',R,hd,e,q⟩:=q
 unfold nilT at e
 split at e <;> cases e
 cases hd
 exact ⟨rfl,q σ H F (Same.refl _) R rfl fun _ _=>rfl⟩
theorem xg_cons {ts ts':List Nat} {u:D→AS→Option AS} {w:List D→AS→Option AS} (h1:PG X e (gOf (kxOf X) C u ts)) (h2:PGs X es (gsOf (kxOf X) C w ts')) (hs:(assignEach (e::es) X.env).map (·.2)=assign e X.env::(assignEach es X.env).map (·.2):=by rfl):PGs X (e::es) (gsOf (kxOf X) C (consT u w) (ts++ts')):=
 pgs_wk (pgs_cons h1 h2 hs) fun v σ H Q q=>by
  obtain ⟨F,st,ds,st',R,hd,e,q⟩:=q
  unfold consT at e
  split at e
  ·rename_i d r
   obtain ⟨st1,e1,e2⟩:=Option.bind_eq_some_iff.mp e
   cases hd with
   | cons hd1 hd2=>exact ⟨_,_,rfl,F,st,d,st1,R,hd1,e1,fun σ1 H1 F1 s1 R1 l1 k1=>⟨F1,st1,r,st',R1,DpAll_up hd2 s1,e2,fun σ2 H2 F2 s2 R2 l2 k2=>q σ2 H2 F2 (s1.trans s2) R2 (l2.trans l1) fun j hj=>by
    rw [List.mem_append] at hj
    rw [k2 j fun z=>hj (.inr z),k1 j fun z=>hj (.inl z)]⟩⟩
  ·cases e
end
def loopS (u:D→AS→Option AS) (b:SF):List D→AS→Option (Fl × AS)
 | [],st=>some (.nx,st)
 | d::ds,st=>(u d st).bind fun st1=>(b st1).bind fun w=>match w.1 with
  | .nx=>loopS u b ds w.2
  | .cont=>loopS u b ds w.2
  | .brk=>some (.nx,w.2)
  | .ret r=>some (.ret r,w.2)
def forS (it:LF) (u:D→AS→Option AS) (b:SF):SF:=fun st=>(it st).bind fun a=>loopS u b a.1 a.2
section
variable {X:Cx} {C:Ct} {pos:Pos}
theorem xs_for {ts:List Nat} {tg iter:Expr} {body:List Stmt} {it:LF} {u:D→AS→Option AS} {b:SF} (hp:PassesOwn (model X.prog X.w) X.A X.env X.xe) (hc:X.calm=true) (hi:PI X tg iter (iOf (kxOf X) C it)) (hg:PG X tg (gOf (kxOf X) C u ts)) (hb:PSs X body (sOf (kxOf X) C b))
  (hs:∀ x,foldedSetIterable iter X.env x=pure x:=by intro _; rfl):PS X (.For tg iter body [] pos) (sOf (kxOf X) C (forS it u b)):=ps_wk (ps_for hp hc hi hg hb hs) fun Z σ H q=>by
 obtain ⟨F,st,w,R,e,q⟩:=q
 obtain ⟨a,ea,e⟩:=Option.bind_eq_some_iff.mp e
 refine ⟨F,st,a,R,ea,fun J H1 F1 s1 R1 J1=>?_⟩
 refine ⟨fun i m σ H=>m=a.1.length - i∧i ≤ a.1.length∧∃ F2 st2,Same F1 F2∧Rel (kxOf X) C F2 st2 σ H∧loopS u b (a.1.drop i) st2=some w,⟨a.1.length,by simp,Nat.zero_le _,F1,a.2,Same.refl _,R1,e⟩,?_⟩
 rintro i m σ2 H2 ⟨rfl,hi,F2,st2,s2,R2,e2⟩
 by_cases hlt:i < a.1.length
 ·refine .inr ⟨J1.go i H2 hlt (s2.trans R2.fh),?_⟩
  have hd:a.1[i]?=some a.1[i]:=List.getElem?_eq_getElem hlt
  rw [List.drop_eq_getElem_cons hlt] at e2
  obtain ⟨st3,e3,e4⟩:=Option.bind_eq_some_iff.mp e2
  obtain ⟨v,ev,e5⟩:=Option.bind_eq_some_iff.mp e4
  refine ⟨fun σ' H'=>∃ F4,Same F2 F4∧Rel (kxOf X) C F4 v.2 σ' H'∧loopS u b (a.1.drop (i + 1)) v.2=some w,fun σ' H' ⟨F4,s4,R4,e6⟩=>⟨a.1.length - (i + 1),by omega,rfl,hlt,F4,v.2,s2.trans s4,R4,e6⟩,fun x H3 hy=>?_⟩
  obtain ⟨G,hG,hh,hx⟩:=J1.yld i H2 x H3 _ hd (s2.trans R2.fh) hy
  obtain ⟨gr,sg⟩:=over_gr R2.fh hG hh
  refine ⟨over G F2,st2,_,st3,R2.grow gr,hx _ (s2.trans gr.ff) sg,e3,fun σ4 H4 F4 s4 R4 _ _=>?_⟩
  refine ⟨F4,st3,v,R4,ev,?_⟩
  have up:Same F1 F4:=(s2.trans gr.ff).trans s4
  obtain ⟨fl,st5⟩:=v
  cases fl with
  | nx=>exact fun σ5 H5 F5 s5 R5=>⟨F5,(gr.ff.trans s4).trans s5,R5,e5⟩
  | cont=>exact fun σ5 H5 F5 s5 R5=>⟨F5,(gr.ff.trans s4).trans s5,R5,e5⟩
  | brk=>
   cases e5
   exact fun σ5 H5 F5 s5 R5=>q σ5 H5 F5 ((s1.trans up).trans s5) R5
  | ret r=>
   cases e5
   exact RetQ.up q (s1.trans up)
 ·have e3:i=a.1.length:=by omega
  subst e3
  rw [List.drop_length] at e2
  cases e2
  exact .inl ⟨J1.stop H2 (s2.trans R2.fh),q σ2 H2 F2 (s1.trans s2) R2⟩
def whileN (c:BF) (b:SF):Nat→AS→Option (Fl × AS)
 | 0,_=>none
 | n + 1,st=>(c st).bind fun a=>if a.1=true then (b a.2).bind fun w=>match w.1 with
   | .nx=>whileN c b n w.2
   | .cont=>whileN c b n w.2
   | .brk=>some (.nx,w.2)
   | .ret r=>some (.ret r,w.2)
  else some (.nx,a.2)
def whileS (c:BF) (b:SF) (n:AS→Nat):SF:=fun st=>whileN c b (n st) st
theorem xs_while {t:Expr} {body:List Stmt} {c:BF} {b:SF} (n:AS→Nat) (hp:PassesOwn (model X.prog X.w) X.A X.env X.xe) (hc:PT X t (bOf (kxOf X) C c)) (hb:PSs X body (sOf (kxOf X) C b)):PS X (.While t body [] pos) (sOf (kxOf X) C (whileS c b n)):=ps_wk (ps_while hp hc hb) fun Z σ H q=>by
 obtain ⟨F,st,w,R,e,q⟩:=q
 refine ⟨fun m σ H=>∃ F2 st2,Same F F2∧Rel (kxOf X) C F2 st2 σ H∧whileN c b m st2=some w,⟨n st,F,st,Same.refl _,R,e⟩,?_⟩
 rintro m σ2 H2 ⟨F2,st2,s2,R2,e2⟩
 cases m with
 | zero=>cases e2
 | succ m=>
  obtain ⟨a,ea,e2⟩:=Option.bind_eq_some_iff.mp e2
  refine ⟨F2,st2,a,R2,ea,fun H3 F3 s3 R3=>?_⟩
  dsimp only
  split
  ·rename_i h
   rw [if_pos h] at e2
   obtain ⟨v,ev,e5⟩:=Option.bind_eq_some_iff.mp e2
   refine ⟨fun σ' H'=>∃ F4,Same F F4∧Rel (kxOf X) C F4 v.2 σ' H'∧whileN c b m v.2=some w,fun σ' H' ⟨F4,s4,R4,e6⟩=>⟨m,Nat.lt_succ_self m,F4,v.2,s4,R4,e6⟩,F3,a.2,v,R3,ev,?_⟩
   have up:Same F F3:=s2.trans s3
   obtain ⟨fl,st5⟩:=v
   cases fl with
   | nx=>exact fun σ5 H5 F5 s5 R5=>⟨F5,up.trans s5,R5,e5⟩
   | cont=>exact fun σ5 H5 F5 s5 R5=>⟨F5,up.trans s5,R5,e5⟩
   | brk=>
    cases e5
    exact fun σ5 H5 F5 s5 R5=>q σ5 H5 F5 (up.trans s5) R5
   | ret r=>
    cases e5
    exact RetQ.up q up
  ·rename_i h
   rw [if_neg h] at e2
   cases e2
   exact q σ2 H3 F3 (s2.trans s3) R3
end
end Xm
namespace Xm
open PySem PySem.Spec PyProof.Rows L2
section
variable {K:Kx} {C:Ct} {F F' H H':Hp} {st:AS} {σ τ:L2.St}
theorem Rel.freezeO {a:Addr} {o:HO} (R:Rel K C F st σ H) (h0:C.H0 a=none) (hF:F a=none) (hH:H a=some o) (hap:∀ j,Mu st j→σ[j]?≠some (some (.ref a))) :
  Same F (upd F a o)∧Rel K C (upd F a o) st σ H:=by
 have hff:Same F (upd F a o):=same_upd hF
 refine ⟨hff,⟨R.len,R.f0.trans hff,?_,R.old,?_,?_,R.apart,R.penh,R.pent,R.tab.up hff fun _ _ _ e=>e⟩⟩
 ·intro b o e
  by_cases hb:b=a
  ·subst hb; rw [upd_same] at e; cases e; exact hH
  ·rw [upd_ne hb] at e; exact R.fh _ _ e
 ·intro b hb0 hb1
  have hb:b≠a:=fun z=>by subst z; exact hb1 h0
  rw [upd_ne hb]
  exact R.new b hb0 hb1
 ·intro j s hj
  have q:=R.slot j s hj
  cases s with
  | no=>trivial
  | dat d=>obtain ⟨v,q1,q2⟩:=q; exact ⟨v,q1,Dp_up q2 hff⟩
  | own ys=>
   obtain ⟨b,q1,q2,q3,us,q4,q5⟩:=q
   have hb:b≠a:=fun z=>by subst z; exact hap j ⟨_,hj,rfl⟩ q1
   exact ⟨b,q1,q2,by rw [upd_ne hb]; exact q3,us,q4,DpAll_up q5 hff⟩
  | pen ys=>
   obtain ⟨b,q1,q2,q3,us,q4,q5⟩:=q
   have hb:b≠a:=fun z=>by subst z; exact hap j ⟨_,hj,rfl⟩ q1
   exact ⟨b,q1,q2,by rw [upd_ne hb]; exact q3,us,q4,DpAll_up q5 hff⟩
  | dct kvs=>
   obtain ⟨b,q1,q2,q3,u,q4,q5⟩:=q
   have hb:b≠a:=fun z=>by subst z; exact hap j ⟨_,hj,rfl⟩ q1
   exact ⟨b,q1,q2,by rw [upd_ne hb]; exact q3,u,q4,q5.up hff⟩
  | pdc kvs=>
   obtain ⟨b,q1,q2,q3,u,q4,q5⟩:=q
   have hb:b≠a:=fun z=>by subst z; exact hap j ⟨_,hj,rfl⟩ q1
   exact ⟨b,q1,q2,by rw [upd_ne hb]; exact q3,u,q4,q5.up hff⟩
  | obj o=>
   obtain ⟨b,q1,q2⟩:=q
   exact ⟨b,q1,q2.up hff⟩
theorem Rel.freezeNew {a:Addr} {vs:List V} {xs:List D} (R:Rel K C F st σ H) (h0:C.H0 a=none) (hF:F a=none) (hH:H a=some (.lst vs)) (hap:∀ j,Mu st j→σ[j]?≠some (some (.ref a))) (hv:DpAll K F vs xs) :
  Same F (upd F a (.lst vs))∧Rel K C (upd F a (.lst vs)) st σ H∧Dp K (upd F a (.lst vs)) (.ref a) (.list xs):=by
 obtain ⟨hff,R2⟩:=R.freezeO h0 hF hH hap
 exact ⟨hff,R2,.lst (.inl (.inl upd_same)) (DpAll_up hv hff)⟩
theorem Rel.slots (R:Rel K C F st σ H) (hl:τ.length=σ.length) (h:∀ i:Nat,st[i]?≠some Slot.no→τ[i]?=σ[i]?):Rel K C F st τ H where
 len:=R.len.trans hl.symm
 f0:=R.f0
 fh:=R.fh
 old:=R.old
 new:=R.new
 slot:=fun i s e=>by
  cases s with
  | no=>trivial
  | dat d=>rw [h i (by rw [e]; simp)]; exact R.slot i _ e
  | own xs=>rw [h i (by rw [e]; simp)]; exact R.slot i _ e
  | pen xs=>rw [h i (by rw [e]; simp)]; exact R.slot i _ e
  | dct xs=>rw [h i (by rw [e]; simp)]; exact R.slot i _ e
  | pdc xs=>rw [h i (by rw [e]; simp)]; exact R.slot i _ e
  | obj o=>rw [h i (by rw [e]; simp)]; exact R.slot i _ e
 apart:=fun i j a hi hj e1 e2=>by
  have nn:∀ k:Nat,Mu st k→st[k]?≠some Slot.no:=fun k hk z=>by
   obtain ⟨s,e,m⟩:=hk
   rw [z] at e
   cases e
   cases m
  rw [h i (nn i hi)] at e1
  rw [h j (nn j hj)] at e2
  exact R.apart i j a hi hj e1 e2
 penh:=R.penh
 pent:=R.pent
 tab:=R.tab
theorem wipe_get {vs:List Nat} {i:Nat}:(wipe σ vs)[i]?=if i ∈ vs∧i < σ.length then some none else σ[i]?:=by
 induction vs with
 | nil=>simp [wipe]
 | cons v vs ih=>
  unfold wipe
  by_cases e:v=i
  ·subst e
   by_cases hv:v < σ.length
   ·rw [List.getElem?_set_self (by rw [wipe_length]; exact hv),if_pos ⟨by simp,hv⟩]
   ·rw [if_neg (fun z=>hv z.2),List.getElem?_eq_none_iff.mpr (by rw [List.length_set,wipe_length]; omega),List.getElem?_eq_none_iff.mpr (by omega)]
  ·rw [List.getElem?_set_ne e,ih]
   by_cases hm:i ∈ vs
   ·by_cases hi:i < σ.length
    ·rw [if_pos ⟨hm,hi⟩,if_pos ⟨by simp [hm],hi⟩]
    ·rw [if_neg (fun z=>hi z.2),if_neg (fun z=>hi z.2)]
   ·rw [if_neg (fun z=>hm z.1),if_neg (fun z=>(List.mem_cons.mp z.1).elim (fun q=>e q.symm) hm)]
theorem wipe_eq {vs ts:List Nat} (hl:τ.length=(wipe σ vs).length) (h:∀ j,j ∉ ts→τ[j]?=(wipe σ vs)[j]?) (hts:∀ j ∈ ts,j ∈ vs):wipe τ vs=wipe σ vs:=by
 refine List.ext_getElem? fun i=>?_
 rw [wipe_length] at hl
 by_cases hi:i ∈ vs
 ·by_cases hb:i < σ.length
  ·rw [wipe_get,wipe_get,if_pos ⟨hi,by omega⟩,if_pos ⟨hi,hb⟩]
  ·rw [List.getElem?_eq_none_iff.mpr (by rw [wipe_length]; omega),List.getElem?_eq_none_iff.mpr (by rw [wipe_length]; omega)]
 ·rw [wipe_get,if_neg (fun z=>hi z.1),h i fun z=>hi (hts i z)]
abbrev Ct.atO (C:Ct) (D:Addr) (o:HO):Ct:={ C with H0:=upd C.H0 D o }
abbrev Ct.at (C:Ct) (D:Addr) (vs:List V):Ct:=C.atO D (.lst vs)
structure Aside (C:Ct) (F:Hp) (st:AS) (σ:L2.St) (a:Addr):Prop where
 h0:C.H0 a=none
 f:F a=none
 pn:C.pen≠some a
 ap:∀ j,Mu st j→σ[j]?≠some (some (.ref a))
theorem Rel.into {a:Addr} {u:HO} (R:Rel K C F st σ H) (A:Aside C F st σ a) (hH:H a=some u):Rel K (C.atO a u) F st σ H where
 len:=R.len
 f0:=R.f0
 fh:=R.fh
 old:=fun b o e hp=>by
  by_cases hb:b=a
  ·subst hb
   have e':upd C.H0 b u b=some o:=e
   rw [upd_same] at e'
   cases e'
   exact hH
  ·have e':upd C.H0 a u b=some o:=e
   rw [upd_ne hb] at e'
   exact R.old b o e' hp
 new:=fun b h1 h2=>by
  by_cases hb:b=a
  ·subst hb; exact A.f
  ·have h2':upd C.H0 a u b≠none:=h2
   rw [upd_ne hb] at h2'
   exact R.new b h1 h2'
 slot:=fun i s e=>by
  have q:=R.slot i s e
  cases s with
  | no=>trivial
  | dat d=>exact q
  | own ys=>
   obtain ⟨b,q1,q2,q3⟩:=q
   have hb:b≠a:=fun z=>by subst z; exact A.ap i (⟨_,e,rfl⟩) q1
   exact ⟨b,q1,(upd_ne hb).trans q2,q3⟩
  | pen ys=>
   obtain ⟨b,q1,q2,q3⟩:=q
   have hb:b≠a:=fun z=>by subst z; exact A.ap i (⟨_,e,rfl⟩) q1
   exact ⟨b,q1,⟨q2.1,q2.2.imp (fun h=>(upd_ne hb).trans h) id⟩,q3⟩
  | pdc ys=>
   obtain ⟨b,q1,q2,q3⟩:=q
   have hb:b≠a:=fun z=>by subst z; exact A.ap i (⟨_,e,rfl⟩) q1
   exact ⟨b,q1,⟨q2.1,q2.2.imp (fun h=>(upd_ne hb).trans h) id⟩,q3⟩
  | obj o=>exact q
  | dct ys=>
   obtain ⟨b,q1,q2,q3⟩:=q
   have hb:b≠a:=fun z=>by subst z; exact A.ap i ⟨_,e,rfl⟩ q1
   exact ⟨b,q1,(upd_ne hb).trans q2,q3⟩
 apart:=R.apart
 penh:=fun p hp=>by
  by_cases hb:p=a
  ·subst hb; exact absurd hp A.pn
  ·show upd C.H0 a u p≠none
   rw [upd_ne hb]
   exact R.penh p hp
 pent:=R.pent
 tab:=R.tab
theorem Rel.outof {a:Addr} {u:HO} (R:Rel K (C.atO a u) F st σ H) (h0:C.H0 a=none) (hf:C.F0 a=none) (hp:C.pen≠some a):Rel K C F st σ H∧Aside C F st σ a∧H a=some u:=by
 have sa:upd C.H0 a u a=some u:=upd_same
 have hF:F a=none:=R.new a hf (by show upd C.H0 a u a≠none; rw [sa]; simp)
 refine ⟨⟨R.len,R.f0,R.fh,fun b o e hp'=>?_,fun b h1 h2=>?_,fun i s e=>?_,R.apart,fun p hp'=>?_,R.pent,R.tab⟩,⟨h0,hF,hp,fun j hj e=>?_⟩,R.old a _ sa hp⟩
 ·have hb:b≠a:=fun z=>by subst z; rw [h0] at e; cases e
  exact R.old b o ((upd_ne hb).trans e) hp'
 ·have hb:b≠a:=fun z=>by subst z; exact h2 h0
  exact R.new b h1 (by show upd C.H0 a u b≠none; rw [upd_ne hb]; exact h2)
 ·have q:=R.slot i s e
  cases s with
  | no=>trivial
  | dat d=>exact q
  | own ys=>
   obtain ⟨b,q1,q2,q3⟩:=q
   have hb:b≠a:=fun z=>by
    subst z
    have q2':upd C.H0 b u b=none:=q2
    rw [upd_same] at q2'
    cases q2'
   exact ⟨b,q1,(upd_ne hb).symm.trans q2,q3⟩
  | pen ys=>
   obtain ⟨b,q1,q2,q3⟩:=q
   refine ⟨b,q1,⟨q2.1,q2.2.imp (fun h=>?_) id⟩,q3⟩
   have hb:b≠a:=fun z=>by
    subst z
    have h':upd C.H0 b u b=none:=h
    rw [upd_same] at h'
    cases h'
   exact (upd_ne hb).symm.trans h
  | pdc ys=>
   obtain ⟨b,q1,q2,q3⟩:=q
   refine ⟨b,q1,⟨q2.1,q2.2.imp (fun h=>?_) id⟩,q3⟩
   have hb:b≠a:=fun z=>by
    subst z
    have h':upd C.H0 b u b=none:=h
    rw [upd_same] at h'
    cases h'
   exact (upd_ne hb).symm.trans h
  | obj o=>exact q
  | dct ys=>
   obtain ⟨b,q1,q2,q3⟩:=q
   have hb:b≠a:=fun z=>by
    subst z
    have q2':upd C.H0 b u b=none:=q2
    rw [upd_same] at q2'
    cases q2'
   exact ⟨b,q1,(upd_ne hb).symm.trans q2,q3⟩
 ·have hb:p≠a:=fun z=>by subst z; exact hp hp'
  have q:=R.penh p hp'
  have q':upd C.H0 a u p≠none:=q
  rw [upd_ne hb] at q'
  exact q'
 ·obtain ⟨s,hx,hm⟩:=hj
  have q:=R.slot j _ hx
  cases s with
  | no=>cases hm
  | dat d=>cases hm
  | obj o=>cases hm
  | pen xs=>
   obtain ⟨b,q1,q2,q3⟩:=q
   rw [e] at q1
   cases q1
   rcases q2.2 with z | z
   ·have z':upd C.H0 a u a=none:=z
    rw [upd_same] at z'
    cases z'
   ·exact hp z
  | pdc xs=>
   obtain ⟨b,q1,q2,q3⟩:=q
   rw [e] at q1
   cases q1
   rcases q2.2 with z | z
   ·have z':upd C.H0 a u a=none:=z
    rw [upd_same] at z'
    cases z'
   ·exact hp z
  | own xs=>
   obtain ⟨b,q1,q2,q3⟩:=q
   rw [e] at q1
   cases q1
   have q2':upd C.H0 a u a=none:=q2
   rw [upd_same] at q2'
   cases q2'
  | dct xs=>
   obtain ⟨b,q1,q2,q3⟩:=q
   rw [e] at q1
   cases q1
   have q2':upd C.H0 a u a=none:=q2
   rw [upd_same] at q2'
   cases q2'
theorem Rel.write {a:Addr} {o:HO} (R:Rel K C F st σ H) (A:Aside C F st σ a):Rel K C F st σ (upd H a o) where
 len:=R.len
 f0:=R.f0
 fh:=fun b u e=>by
  have hb:b≠a:=fun z=>by subst z; rw [A.f] at e; cases e
  rw [upd_ne hb]; exact R.fh b u e
 old:=fun b u e hp=>by
  have hb:b≠a:=fun z=>by subst z; rw [A.h0] at e; cases e
  rw [upd_ne hb]; exact R.old b u e hp
 new:=R.new
 slot:=fun i s e=>by
  have q:=R.slot i s e
  cases s with
  | no=>trivial
  | dat d=>exact q
  | own ys=>
   obtain ⟨b,q1,q2,q3,us,q4,q5⟩:=q
   have hb:b≠a:=fun z=>by subst z; exact A.ap i (⟨_,e,rfl⟩) q1
   exact ⟨b,q1,q2,q3,us,by rw [upd_ne hb]; exact q4,q5⟩
  | pen ys=>
   obtain ⟨b,q1,q2,q3,us,q4,q5⟩:=q
   have hb:b≠a:=fun z=>by subst z; exact A.ap i (⟨_,e,rfl⟩) q1
   exact ⟨b,q1,q2,q3,us,by rw [upd_ne hb]; exact q4,q5⟩
  | dct ys=>
   obtain ⟨b,q1,q2,q3,us,q4,q5⟩:=q
   have hb:b≠a:=fun z=>by subst z; exact A.ap i ⟨_,e,rfl⟩ q1
   exact ⟨b,q1,q2,q3,us,by rw [upd_ne hb]; exact q4,q5⟩
  | pdc ys=>
   obtain ⟨b,q1,q2,q3,us,q4,q5⟩:=q
   have hb:b≠a:=fun z=>by subst z; exact A.ap i ⟨_,e,rfl⟩ q1
   exact ⟨b,q1,q2,q3,us,by rw [upd_ne hb]; exact q4,q5⟩
  | obj o=>exact q
 apart:=R.apart
 penh:=R.penh
 pent:=fun p hp=>by
  by_cases hb:p=a
  ·subst hb; rw [upd_same]; simp
  ·rw [upd_ne hb]; exact R.pent p hp
 tab:=R.tab.up (Same.refl _) fun P ps h1 e=>(upd_ne (fun z:P=a=>A.pn (by rw [← z]; exact h1))).trans e
theorem Rel.aside {a:Addr} (R:Rel K C F st σ H) (h:H a=none):Aside C F st σ a∧C.F0 a=none:=by
 have hF:F a=none:=R.fh.free h
 have hpn:C.pen≠some a:=fun z=>R.pent a z h
 refine ⟨⟨?_,hF,hpn,fun j hj e=>?_⟩,R.f0.free hF⟩
 ·cases q:C.H0 a with
  | none=>rfl
  | some o=>rw [R.old a o q hpn] at h; cases h
 ·obtain ⟨s,hx,hm⟩:=hj
  have q:=R.slot j _ hx
  cases s with
  | no=>cases hm
  | dat d=>cases hm
  | obj o=>cases hm
  | own xs=>
   obtain ⟨b,q1,q2,q3,us,q4,q5⟩:=q
   rw [e] at q1
   cases q1
   rw [h] at q4; cases q4
  | pen xs=>
   obtain ⟨b,q1,q2,q3,us,q4,q5⟩:=q
   rw [e] at q1
   cases q1
   rw [h] at q4; cases q4
  | dct xs=>
   obtain ⟨b,q1,q2,q3,us,q4,q5⟩:=q
   rw [e] at q1
   cases q1
   rw [h] at q4; cases q4
  | pdc xs=>
   obtain ⟨b,q1,q2,q3,us,q4,q5⟩:=q
   rw [e] at q1
   cases q1
   rw [h] at q4; cases q4
end
def listE (g:LF):EF:=fun st=>(g st).map fun a=>(.list a.1,a.2)
section
variable {X:Cx} {C:Ct} {pos:Pos} {e:Expr} {es:List Expr} {g:LF}
theorem xd_new (h:PE X e (nOf (kxOf X) C g)):PE X e (dOf (kxOf X) C (listE g)):=pe_wk h fun σ H Q q=>by
 obtain ⟨F,st,w,R,e,q⟩:=q
 obtain ⟨a,ea,e⟩:=Option.map_eq_some_iff.mp e
 cases e
 refine ⟨F,st,a,R,ea,fun p vs H1 F1 s1 R1 h0 h1 h2 h3 d1=>?_⟩
 obtain ⟨k1,k2,k3⟩:=R1.freezeNew h0 h1 h2 h3 d1
 exact q _ H1 _ (s1.trans k1) k2 k3
theorem xn_lst (h:PA X es (aOf (kxOf X) C g)):PE X (.List es pos) (nOf (kxOf X) C (newF g)):=pe_wk (pe_lst h) fun σ H Q q=>by
 obtain ⟨F,st,w,R,e,q⟩:=q
 obtain ⟨b,eb,e⟩:=Option.bind_eq_some_iff.mp e
 split at e <;> cases e
 rename_i hl
 refine ⟨F,st,w,R,eb,fun vs H1 F1 s1 R1 d1=>⟨by rw [DpAll_len d1]; exact hl,fun p hp=>?_⟩⟩
 obtain ⟨A,hf⟩:=R1.aside hp
 exact q p vs _ F1 s1 (R1.write A) A.h0 A.f upd_same A.ap d1
end
def clr (st:AS):List Nat→AS
 | []=>st
 | v::vs=>(clr st vs).set v .no
theorem clr_len (st:AS):∀ vs,(clr st vs).length=st.length
 | []=>rfl
 | v::vs=>by unfold clr; rw [List.length_set,clr_len]
theorem clr_get {st:AS} {vs:List Nat} {i:Nat}:(clr st vs)[i]?=if i ∈ vs∧i < st.length then some .no else st[i]?:=by
 induction vs with
 | nil=>simp [clr]
 | cons v vs ih=>
  unfold clr
  by_cases e:v=i
  ·subst e
   by_cases hv:v < st.length
   ·rw [List.getElem?_set_self (by rw [clr_len]; exact hv),if_pos ⟨by simp,hv⟩]
   ·rw [if_neg (fun z=>hv z.2),List.getElem?_eq_none_iff.mpr (by rw [List.length_set,clr_len]; omega),List.getElem?_eq_none_iff.mpr (by omega)]
  ·rw [List.getElem?_set_ne e,ih]
   by_cases hm:i ∈ vs
   ·by_cases hi:i < st.length
    ·rw [if_pos ⟨hm,hi⟩,if_pos ⟨by simp [hm],hi⟩]
    ·rw [if_neg (fun z=>hi z.2),if_neg (fun z=>hi z.2)]
   ·rw [if_neg (fun z=>hm z.1),if_neg (fun z=>(List.mem_cons.mp z.1).elim (fun q=>e q.symm) hm)]
def noS:Option Slot→Bool
 | some .no=>true
 | _=>false
def allNo (st:AS) (vs:List Nat):Bool:=vs.all fun i=>noS st[i]?
theorem allNo_iff {st:AS} {vs:List Nat} (h:allNo st vs=true):∀ i ∈ vs,st[i]?=some Slot.no:=fun i hi=>by
 have q:=List.all_eq_true.mp h i hi
 unfold noS at q
 split at q
 ·assumption
 ·cases q
def yesB:BF:=fun st=>some (true,st)
def compL (u:D→AS→Option AS) (tt:BF) (te:EF) (vs:List Nat):List D→AS→Option (List D × AS)
 | [],st=>some ([],st)
 | d::ds,st=>(u d st).bind fun st1=>(tt st1).bind fun c=>if c.1=true then (te c.2).bind fun x=>(compL u tt te vs ds (clr x.2 vs)).map fun r=>(x.1::r.1,r.2)
  else compL u tt te vs ds (clr c.2 vs)
def compF (it:LF) (u:D→AS→Option AS) (tt:BF) (te:EF) (vs:List Nat):LF:=fun st=>(it st).bind fun a=>if allNo a.2 vs=true∧a.1.length ≤ sizeLine then compL u tt te vs a.1 a.2 else none
section
variable {X:Cx} {C:Ct} {pos:Pos}
theorem Rel.clr {K:Kx} {C:Ct} {F H:Hp} {st:AS} {σ:L2.St} {vs:List Nat} (R:Rel K C F st σ H):Rel K C F (Xm.clr st vs) (wipe σ vs) H:=by
 have R1:Rel K C F (Xm.clr st vs) σ H:=rel_mono_slots R (clr_len st vs) fun i s e=>by
  rw [clr_get] at e
  split at e
  ·cases e; exact .inl rfl
  ·exact .inr e
 refine R1.slots (wipe_length σ vs) fun i hi=>?_
 rw [wipe_get,if_neg]
 rintro ⟨z1,z2⟩
 exact hi (by rw [clr_get,if_pos ⟨z1,by rw [R.len]; exact z2⟩])
theorem lc_ok {K:Kx} {it:LF} {u:D→AS→Option AS} {ts:List Nat} {tt:BF} {te:EF} {vs:List Nat} {σ:L2.St} {H:Hp} {Q:VK} (hts:∀ j ∈ ts,j ∈ vs)
  (hg:TG) (ht:TT) (he:TE) (kg:∀ C v σ H Q,gOf K C u ts v σ H Q→hg v σ H Q) (kt:∀ C σ H Q,bOf K C tt σ H Q→ht σ H Q) (ke:∀ C σ H Q,dOf K C te σ H Q→he σ H Q)
  (q:nOf K C (compF it u tt te vs) σ H Q):tLc (iOf K C it) hg ht he vs σ H Q:=by
 obtain ⟨F,st,w,R,e,q⟩:=q
 obtain ⟨a,ea,e⟩:=Option.bind_eq_some_iff.mp e
 split at e
 ·rename_i hno
  obtain ⟨hno,hlen⟩:=hno
  have hno':=allNo_iff hno
  refine ⟨F,st,a,R,ea,fun J H1 F1 s1 R1 J1=>fun Dd hD=>?_⟩
  obtain ⟨A1,hF0⟩:=R1.aside hD
  have Rw:∀ {F2 st2 H2},Rel K C F2 st2 σ H2→(∀ i ∈ vs,st2[i]?=some Slot.no)→Rel K C F2 st2 (wipe σ vs) H2:=fun R2 hn=>R2.slots (wipe_length σ vs) fun i hi=>by
   rw [wipe_get,if_neg]
   rintro ⟨z1,z2⟩
   exact hi (hn i z1)
  have apW:∀ {st2:AS},(∀ j,Mu st2 j→σ[j]?≠some (some (.ref Dd)))→∀ j,Mu st2 j→(wipe σ vs)[j]?≠some (some (.ref Dd)):=fun h j hj z=>by
   rw [wipe_get] at z
   split at z
   ·cases z
   ·exact h j hj z
  refine ⟨fun i m H=>m=a.1.length - i∧i ≤ a.1.length∧∃ F2 st2 vsa dsa rest,Same F1 F2∧Rel K C F2 st2 (wipe σ vs) H∧H Dd=some (.lst vsa)∧Aside C F2 st2 (wipe σ vs) Dd∧DpAll K F2 vsa dsa∧dsa.length ≤ i∧
   (∀ i ∈ vs,st2[i]?=some Slot.no)∧compL u tt te vs (a.1.drop i) st2=some (rest,w.2)∧dsa++rest=w.1,
   ⟨a.1.length,by simp,Nat.zero_le _,F1,a.2,[],[],w.1,Same.refl _,Rw (R1.write A1) hno',upd_same,⟨A1.h0,A1.f,A1.pn,apW A1.ap⟩,.nil,Nat.le_refl _,hno',e,rfl⟩,?_⟩
  rintro i m H2 ⟨rfl,hi,F2,st2,vsa,dsa,rest,s2,R2,h2,A2,d2,hl2,n2,e2,w2⟩
  by_cases hlt:i < a.1.length
  ·refine .inr ⟨J1.go i H2 hlt (s2.trans R2.fh),?_⟩
   have hd:a.1[i]?=some a.1[i]:=List.getElem?_eq_getElem hlt
   rw [List.drop_eq_getElem_cons hlt] at e2
   obtain ⟨st3,e3,e4⟩:=Option.bind_eq_some_iff.mp e2
   obtain ⟨c,ec,e5⟩:=Option.bind_eq_some_iff.mp e4
   refine ⟨fun H'=>∃ F4 st4 vsb dsb rest,Same F1 F4∧Rel K C F4 st4 (wipe σ vs) H'∧H' Dd=some (.lst vsb)∧Aside C F4 st4 (wipe σ vs) Dd∧DpAll K F4 vsb dsb∧dsb.length ≤ i + 1∧
    (∀ i ∈ vs,st4[i]?=some Slot.no)∧compL u tt te vs (a.1.drop (i + 1)) st4=some (rest,w.2)∧dsb++rest=w.1,fun H' ⟨F4,st4,vsb,dsb,rest,k⟩=>⟨a.1.length - (i + 1),by omega,rfl,hlt,F4,st4,vsb,dsb,rest,k⟩,fun x H3 hy=>?_⟩
   obtain ⟨G,hG,hh,hx⟩:=J1.yld i H2 x H3 _ hd (s2.trans R2.fh) hy
   obtain ⟨gr,sg⟩:=over_gr R2.fh hG hh
   have R3:=(R2.into A2 h2).grow gr
   refine kg (C.at Dd vsa) x (wipe σ vs) H3 _ ⟨over G F2,st2,_,st3,R3,hx _ (s2.trans gr.ff) sg,e3,fun σ4 H4 F4 s4 R4 l4 k4=>⟨wipe_eq l4 k4 hts,?_⟩⟩
   have up4:Same F1 F4:=(s2.trans gr.ff).trans s4
   have w4:wipe σ4 vs=wipe σ vs:=wipe_eq l4 k4 hts
   have no_of:∀ (stx:AS),stx.length=σ4.length→∀ j ∈ vs,(Xm.clr stx vs)[j]?=some Slot.no:=fun stx hlx j hj=>by
    rw [clr_get,if_pos]
    refine ⟨hj,?_⟩
    have z:=(List.getElem?_eq_some_iff.mp (n2 j hj)).1
    have z2:=R2.len
    rw [hlx,l4]
    omega
   refine kt (C.at Dd vsa) σ4 H4 _ ⟨F4,st3,c,R4,ec,fun H5 F5 s5 R5=>?_⟩
   have up5:Same F1 F5:=up4.trans s5
   have u25:Same F2 F5:=(gr.ff.trans s4).trans s5
   dsimp only
   split
   ·rename_i hc
    rw [if_pos hc] at e5
    obtain ⟨y,ey,e6⟩:=Option.bind_eq_some_iff.mp e5
    obtain ⟨r,er,e7⟩:=Option.map_eq_some_iff.mp e6
    obtain ⟨e8,e9⟩:=Prod.mk.inj e7
    subst e8
    have er:compL u tt te vs (a.1.drop (i + 1)) (Xm.clr y.2 vs)=some (r.1,w.2):=by rw [er,← e9]
    refine ke (C.at Dd vsa) σ4 H5 _ ⟨F5,c.2,y,R5,ey,fun yv H6 F6 s6 R6 dy=>?_⟩
    obtain ⟨R7,A7,h7⟩:=R6.outof A1.h0 hF0 A1.pn
    refine ⟨vsa,h7,by rw [DpAll_len d2]; exact Nat.lt_of_le_of_lt hl2 (Nat.lt_of_lt_of_le hlt hlen),?_⟩
    have R8:=(R7.write (o:=.lst (vsa++[yv])) A7).clr (vs:=vs)
    rw [w4] at R8
    refine ⟨F6,Xm.clr y.2 vs,vsa++[yv],dsa++[y.1],r.1,up5.trans s6,R8,upd_same,⟨A7.h0,A7.f,A7.pn,fun j hj z=>?_⟩,DpAll_app (DpAll_up d2 (u25.trans s6)) (.cons dy .nil),by rw [List.length_append,List.length_singleton]; omega,no_of _ R6.len,er,by rw [List.append_assoc]; exact w2⟩
    rw [← w4,wipe_get] at z
    split at z
    ·cases z
    ·rename_i hz
     refine A7.ap j ?_ z
     unfold Mu at hj ⊢
     have hlx:=R6.len
     rw [clr_get,if_neg (fun q=>hz ⟨q.1,by omega⟩)] at hj
     exact hj
   ·rename_i hc
    rw [if_neg hc] at e5
    obtain ⟨R7,A7,h7⟩:=R5.outof A1.h0 hF0 A1.pn
    have R8:=R7.clr (vs:=vs)
    rw [w4] at R8
    refine ⟨F5,Xm.clr c.2 vs,vsa,dsa,rest,up5,R8,h7,⟨A7.h0,A7.f,A7.pn,fun j hj z=>?_⟩,DpAll_up d2 u25,by omega,no_of _ R5.len,e5,w2⟩
    rw [← w4,wipe_get] at z
    split at z
    ·cases z
    ·rename_i hz
     refine A7.ap j ?_ z
     unfold Mu at hj ⊢
     have hlx:=R5.len
     rw [clr_get,if_neg (fun q=>hz ⟨q.1,by omega⟩)] at hj
     exact hj
  ·have e3:i=a.1.length:=by omega
   subst e3
   rw [List.drop_length] at e2
   cases e2
   have w3:dsa=w.1:=by rw [List.append_nil] at w2; exact w2
   have Rb:Rel K C F2 w.2 σ H2:=R2.slots (wipe_length σ vs).symm fun i hi=>by
    rw [wipe_get,if_neg]
    rintro ⟨z1,z2⟩
    exact hi (n2 i z1)
   refine .inl ⟨J1.stop H2 (s2.trans R2.fh),q Dd vsa H2 F2 (s1.trans s2) Rb A2.h0 A2.f h2 (fun j hj z=>?_) (w3 ▸ d2)⟩
   refine A2.ap j hj ?_
   rw [wipe_get,if_neg]
   ·exact z
   ·rintro ⟨z1,z2⟩
    have z3:=n2 j z1
    obtain ⟨s0,hx,hm⟩:=hj
    rw [z3] at hx
    cases hx
    cases hm
 ·cases e
end
section
variable {X:Cx} {C:Ct} {pos:Pos} {elt tg iter:Expr} {ifs:List Expr} {scope:Scope} {own:List (Str × Nat)} {it:LF} {u:D→AS→Option AS} {ts:List Nat} {tt:BF} {te:EF} {vs:List Nat}
theorem xn_lc (hN:X.N.Nodup) (hi:PI X tg iter (iOf (kxOf X) C it)) (ok:BlkOk X.N X.env.scope scope own)
  (hg:∀ (C:Ct) (s:Shared) (H:Hp) (c:Addr) (cl:List (Str × Addr)) (fp:List Addr),PG (X.blk s H scope (compEnvC scope cl c X.env) fp) tg (gOf (kxOf X) C u ts))
  (ht:∀ (C:Ct) (s:Shared) (H:Hp) (c:Addr) (cl:List (Str × Addr)) (fp:List Addr),PTs (X.blk s H scope (compEnvC scope cl c X.env) fp) ifs (bOf (kxOf X) C tt))
  (he:∀ (C:Ct) (s:Shared) (H:Hp) (c:Addr) (cl:List (Str × Addr)) (fp:List Addr),PE (X.blk s H scope (compEnvC scope cl c X.env) fp) elt (dOf (kxOf X) C te))
  (hvs:own.map (·.2)=vs:=by rfl) (hts:∀ j ∈ ts,j ∈ vs:=by decide) (hc:X.calm=true:=by rfl) (hs:∀ x,foldedSetIterable iter X.env x=pure x:=by intro _; rfl) :
  PE X (.ListComp elt [⟨tg,iter,ifs,0⟩] scope pos) (nOf (kxOf X) C (compF it u tt te vs)):=by
 subst hvs
 exact pe_wk (pe_lc (g:=fun v σ H Q=>∃ C,gOf (kxOf X) C u ts v σ H Q) (tt:=fun σ H Q=>∃ C,bOf (kxOf X) C tt σ H Q) (te:=fun σ H Q=>∃ C,dOf (kxOf X) C te σ H Q) hc hN hi ok
  (fun s H c cl fp=>⟨fun pins s1 σ H1 v uu Q I r ⟨C1,q⟩=>(hg C1 s H c cl fp).run pins s1 σ H1 v uu Q I r q⟩)
  (fun s H c cl fp=>⟨fun pins s1 σ H1 Q I ⟨C1,q⟩=>(ht C1 s H c cl fp).run pins s1 σ H1 Q I q⟩)
  (fun s H c cl fp=>⟨fun pins s1 σ H1 Q I ⟨C1,q⟩=>(he C1 s H c cl fp).run pins s1 σ H1 Q I q⟩) hs)
  fun σ H Q q=>lc_ok hts _ _ _ (fun C _ _ _ _ k=>⟨C,k⟩) (fun C _ _ _ k=>⟨C,k⟩) (fun C _ _ _ k=>⟨C,k⟩) q
theorem xts_nil {Y:Cx} {K:Kx} {C:Ct}:PTs Y [] (bOf K C yesB):=⟨fun pins s σ H Q I q=>pts_nil.run pins s σ H Q I (by
 obtain ⟨F,st,w,R,e,q⟩:=q
 cases e
 exact q H F (Same.refl _) R)⟩
theorem xts_one {Y:Cx} {t:TT} {c:Expr} (h:PT Y c t):PTs Y [c] t:=pts_one h
end
end Xm
namespace Xm
open PySem PySem.Spec PyProof.Rows L2
section
variable {X:Cx} {C:Ct} {pos p apos cpos:Pos} {o e:Expr} {g:EF}
end
def setM (i:Nat) (f g:EF):SF:=fun st=>(muC st i).bind fun _=>(f st).bind fun a=>(muC a.2 i).bind fun _=>(g a.2).bind fun b=>(muC b.2 i).bind fun xs=>match b.1 with
 | .int k=>(ixN xs.length k).map fun j=>(.nx,putM b.2 i (xs.set j a.1))
 | _=>none
section
variable {X:Cx} {C:Ct} {pos spos:Pos} {o ix e:Expr} {f g:EF}
theorem xs_setItem {i:Nat} (ho:PE X o (tVar i)) (hx:PE X ix (dOf (kxOf X) C g)) (he:PE X e (dOf (kxOf X) C f))
  (ha:∀ v,assign (.Subscript o ix spos) X.env v=(do
   let ov ← holding [v] (eval o X.env)
   let iv ← holding [v,ov] (eval ix X.env)
   standAt spos
   holding [v,ov,iv] (setItem ov iv v)
   release [v,ov,iv] []):=by intro _; rfl)
  (hs:swapsWithSole [.Subscript o ix spos] e pos.line X.env=pure false:=by rfl) (hw:swappedStores [.Subscript o ix spos] e X.env=pure none:=by rfl)
  (h1:(assignEach [.Subscript o ix spos] X.env).map (·.2)=[assign (.Subscript o ix spos) X.env]:=by rfl):PS X (.Assign [.Subscript o ix spos] e pos) (sOf (kxOf X) C (setM i f g)):=
 ps_wk (ps_asg he (pg_sub ho hx set_list ha) hs hw h1) fun Z σ H q=>by
  obtain ⟨F,st,w,R,e,q⟩:=q
  obtain ⟨x0,e0,e⟩:=Option.bind_eq_some_iff.mp e
  obtain ⟨a,ea,e⟩:=Option.bind_eq_some_iff.mp e
  obtain ⟨y0,e1,e⟩:=Option.bind_eq_some_iff.mp e
  obtain ⟨b,eb,e⟩:=Option.bind_eq_some_iff.mp e
  obtain ⟨xs,ex,e⟩:=Option.bind_eq_some_iff.mp e
  split at e
  ·rename_i k hk
   obtain ⟨j,ej,e⟩:=Option.map_eq_some_iff.mp e
   cases e
   refine ⟨F,st,a,R,ea,fun v H1 F1 s1 R1 d1=>?_⟩
   obtain ⟨p,h1,⟨hF0,vs0,hH0,hv0⟩,_⟩:=R1.mu e1
   refine ⟨.ref p,h1,F1,a.2,b,R1,eb,fun u H2 F2 s2 R2 d2=>?_⟩
   obtain ⟨p',h1',⟨hF,vs,hH,hv⟩,_⟩:=R2.mu ex
   rw [h1] at h1'
   cases h1'
   rw [hk] at d2
   exact ⟨p,vs,k,j,rfl,dp_int d2,hH,by rw [DpAll_len hv]; exact ej,q σ _ F2 (s1.trans s2) (R2.put ex h1 (DpAll_set j hv (Dp_up d1 s2)))⟩
  ·cases e
end
abbrev CXM (P:Program) (w:World):CXT:=L2.CX P w
structure FnG (P:Program) (w:World) (K:PySem.W.Frag) (mg:Str→Option Value) (base:Heap) (CX:CXT) (k:Nat) (f:Addr) (fd:FuncData) (ps:List Str) (sp:Sp):Prop where
 arity:∀ vs H Q E,sp vs H Q E→vs.length=ps.length
 go:∀ (A:Around) (outer:List Env) (s:Shared) (H:Hp) (args:Args) (us:List Value) (vs:List V) (Q:VK) (E:XK),Room k A→A.guards=some []→Env0 P w K mg base A outer s H→
  BindsTo s fd args (ps.zip us)→Vals vs us→sp vs H Q E→codeAny (model P w) A (.call (.ref f) args) (CR CX outer P w H s Q E) s
section
variable {P:Program} {w:World} {K:PySem.W.Frag} {mg:Str→Option Value} {base:Heap} {CX:CXT} {k j:Nat} {f:Addr} {fd:FuncData} {ps N:List Str} {sp:Sp}
end
section
variable {X:Cx} {CX:CXT} {k:Nat} {f:Addr} {fd:FuncData} {ps:List Str} {sp:Sp} {dvs:List V} {ds:List Value} {E:XK} {x:Str} {p pos:Pos} {e:Expr} {es:List Expr} {t:TA}
theorem runG {pins:List (Addr × Obj)} {σ:L2.St} {H:Hp} {s:Shared} {Q:VK} {us:List Value} {vs:List V} (G:FnG X.prog X.w X.K X.mg X.base CX k f fd ps sp) (hr:Room k X.A) (gd:X.A.guards=some []) (hb:Binds X.K fd ps ds) (hd:Vals dvs ds)
  (hx:Passes CX X E) (I:Inv X pins σ H s) (r:Vals vs us) (h:sp (vs++dvs) H Q E):wpAny (model X.prog X.w) X.A (call (.ref f) us) (EP X pins σ Q) X.xe s:=by
 have r2:Vals (vs++dvs) (us++ds):=r.append hd
 have hl:(us++ds).length=ps.length:=by rw [← r2.length,G.arity _ _ _ _ h]
 refine wpAny_call (codeAny_mono (G.go X.A X.stack s H ⟨us,[]⟩ (us++ds) (vs++dvs) Q E hr gd I.env0 (hb s us I.kIn hl) r2 h) fun res s' hq=>?_)
 match res,hq with
 | .error e,hq=>exact hx pins σ H s e s' I hq
 | .ok (.ret u),hq=>exact I.after hq
theorem pe_callG (G:FnG X.prog X.w X.K X.mg X.base CX k f fd ps sp) (hr:Room k X.A) (gd:X.A.guards=some []) (hm:X.mg x=some (.ref f)) (hk:PySem.W.keepIn X.K (.ref f)=true) (hb:Binds X.K fd ps ds) (hd:Vals dvs ds) (hx:Passes CX X E)
  (ha:PA X (e::es) t) (hg:Gl X x) (he:starEach (e::es) X.env=(false,eval e X.env)::starEach es X.env) (hpl:(backTo pos (starEach es X.env)).any (·.1)=false) (hdb:(x == ("__debug__" : Str))=false) :
  PE X (.Call (.Name x p) (e::es) [] pos) (tCall sp dvs E t):=by
 refine ⟨fun pins s σ H Q I h=>wpAny_Call_Name_kw (ld_glob I hg hm ?_ hdb)⟩
 refine PySem.W.callWith_K (h₀:=X.base) I.ok.mod.kin hk (thn (ha.run pos pins s σ H _ I h) fun us s1 ⟨vs,H1,I1,r,q⟩=>?_) he hpl
 exact ⟨I1.kIn,runG G hr gd hb hd hx I1 r q⟩
end
def RvOk (K:Kx) (H F' H':Hp) (v:V):RV→Prop
 | .val d=>Dp K F' v d
 | .new xs=>∃ a,v=.ref a∧H a=none∧Lst K F' H' a xs
 | .dct kvs=>∃ a,v=.ref a∧H a=none∧Dct K F' H' a kvs
 | .exc _=>False
def spP (K:Kx) (n:Nat) (mf:List D→Option RV):Sp:=fun vs H Q E=>vs.length=n∧∃ F ds r,Same F H∧DpAll K F vs ds∧mf ds=some r∧(∀ v F' H',Gr F H F' H'→RvOk K H F' H' v r→Q v H')∧
 ∀ x,r=.exc x→∀ cls d F' H',Gr F H F' H'→ExOk K F' x cls d→E cls d H'
structure GrP (p:Addr) (F H F' H':Hp):Prop where
 ff:Same F F'
 fh:Same F' H'
 hh:∀ a o,a≠p→H a=some o→H' a=some o
 nw:∀ a,F' a≠none→F a≠none∨H a=none
def spQ (K:Kx) (n:Nat) (mf:List D→List D→Option (RV × List D)):Sp:=fun vs H Q _=>vs.length=n∧∃ F p vs' us xs ds r,vs=.ref p::vs'∧Same F H∧F p=none∧H p=some (.lst us)∧DpAll K F us xs∧DpAll K F vs' ds∧mf xs ds=some r∧(∀ x,r.1≠.exc x)∧
 ∀ v F' H' us',GrP p F H F' H'→F' p=none→H' p=some (.lst us')→DpAll K F' us' r.2→RvOk K H F' H' v r.1→Q v H'
def st0 (n:Nat) (ds:List D):AS:=ds.map Slot.dat++List.replicate (n - ds.length) Slot.no
def st1 (n:Nat) (xs:List D) (ds:List D):AS:=Slot.pen xs::(ds.map Slot.dat++List.replicate (n - ds.length - 1) Slot.no)
def Leaves (g:SF) (st:AS) (r:RV) (last:AS→Prop):Prop:=∃ st',(g st=some (.ret r,st')∨(g st=some (.nx,st')∧r=.val .none))∧last st'
section
variable {P:Program} {w:World} {K:Kx} {mg:Str→Option Value} {base:Heap} {CX:CXT} {k:Nat} {f:Addr} {fd:FuncData} {ps N:List Str} {W:WX}
theorem start_get {N:List Str} {vs:List V} (h:vs.length ≤ N.length) {i:Nat} {v:V} (e:vs[i]?=some v):(L2.start N vs)[i]?=some (some v):=by
 unfold L2.start
 have hi:=(List.getElem?_eq_some_iff.mp e).1
 rw [List.getElem?_append_left (by simpa using hi),List.getElem?_map,e]
 rfl
theorem start_len {N:List Str} {vs:List V} (h:vs.length ≤ N.length):(L2.start N vs).length=N.length:=by
 unfold L2.start
 rw [List.length_append,List.length_map,List.length_replicate]
 omega
theorem rel0 {F H:Hp} {vs:List V} {ds:List D} (fh:Same F H) (h:DpAll K F vs ds) (hl:vs.length ≤ N.length):Rel K ⟨H,F,none,W,none,none⟩ F (st0 N.length ds) (L2.start N vs) H where
 len:=by
  unfold st0
  rw [start_len hl,List.length_append,List.length_map,List.length_replicate,← DpAll_len h]
  omega
 f0:=Same.refl _
 fh:=fh
 old:=fun a o e _=>e
 new:=fun a e _=>e
 slot:=fun i s e=>by
  unfold st0 at e
  by_cases hi:i < ds.length
  ·rw [List.getElem?_append_left (by simpa using hi),List.getElem?_map] at e
   obtain ⟨d,hd,rfl⟩:=Option.map_eq_some_iff.mp e
   obtain ⟨v,h1,h2⟩:=DpAll_get h hd
   exact ⟨v,start_get hl h1,h2⟩
  ·rw [List.getElem?_append_right (by simpa using hi),List.getElem?_replicate] at e
   split at e <;> cases e
   trivial
 apart:=fun i j a hi _ _ _=>by
  exfalso
  have no:∀ s,(st0 N.length ds)[i]?=some s→(∃ d,s=.dat d)∨s=.no:=fun s e=>by
   unfold st0 at e
   by_cases hi:i < ds.length
   ·rw [List.getElem?_append_left (by simpa using hi),List.getElem?_map] at e
    obtain ⟨d,hd,rfl⟩:=Option.map_eq_some_iff.mp e
    exact .inl ⟨d,rfl⟩
   ·rw [List.getElem?_append_right (by simpa using hi),List.getElem?_replicate] at e
    split at e <;> cases e
    exact .inr rfl
  obtain ⟨s0,e,hm⟩:=hi
  rcases no _ e with ⟨d,z⟩ | z <;> (subst z; cases hm)
 penh:=fun p e=>nomatch e
 pent:=fun p e=>nomatch e
 tab:=fun q e=>nomatch e
theorem Rel.gr {F H F' H':Hp} {st:AS} {σ:L2.St} (R:Rel K ⟨H,F,none,W,none,none⟩ F' st σ H'):Gr F H F' H':=
 ⟨R.f0,R.fh,fun a o e=>R.old a o e (fun z=>nomatch z),fun a e=>by
  by_cases hF:F a=none
  ·by_cases hH:H a=none
   ·exact .inr hH
   ·exact absurd (R.new a hF hH) e
  ·exact .inl hF⟩
theorem rel1 {F H:Hp} {p:Addr} {us vs:List V} {xs ds:List D} (fh:Same F H) (hp:F p=none) (hH:H p=some (.lst us)) (hu:DpAll K F us xs) (h:DpAll K F vs ds) (hl:vs.length + 1 ≤ N.length) :
  Rel K ⟨H,F,some p,W,none,some p⟩ F (st1 N.length xs ds) (L2.start N (.ref p::vs)) H where
 len:=by
  unfold st1
  rw [start_len (by simpa using hl),List.length_cons,List.length_append,List.length_map,List.length_replicate,← DpAll_len h]
  omega
 f0:=Same.refl _
 fh:=fh
 old:=fun a o e _=>e
 new:=fun a e _=>e
 slot:=fun i s e=>by
  unfold st1 at e
  cases i with
  | zero=>
   cases e
   exact ⟨p,start_get (by simpa using hl) rfl,⟨rfl,.inr rfl⟩,hp,us,hH,hu⟩
  | succ i=>
   rw [List.getElem?_cons_succ] at e
   by_cases hi:i < ds.length
   ·rw [List.getElem?_append_left (by simpa using hi),List.getElem?_map] at e
    obtain ⟨d,hd,rfl⟩:=Option.map_eq_some_iff.mp e
    obtain ⟨v,h1,h2⟩:=DpAll_get h hd
    exact ⟨v,start_get (vs:=.ref p::vs) (by simpa using hl) (by rw [List.getElem?_cons_succ]; exact h1),h2⟩
   ·rw [List.getElem?_append_right (by simpa using hi),List.getElem?_replicate] at e
    split at e <;> cases e
    trivial
 apart:=fun i j a hi hj _ _=>by
  have z:∀ i,Mu (st1 N.length xs ds) i→i=0:=fun i hi=>by
   cases i with
   | zero=>rfl
   | succ i=>
    exfalso
    have no:∀ s,(st1 N.length xs ds)[i + 1]?=some s→(∃ d,s=.dat d)∨s=.no:=fun s e=>by
     unfold st1 at e
     rw [List.getElem?_cons_succ] at e
     by_cases hi:i < ds.length
     ·rw [List.getElem?_append_left (by simpa using hi),List.getElem?_map] at e
      obtain ⟨d,hd,rfl⟩:=Option.map_eq_some_iff.mp e
      exact .inl ⟨d,rfl⟩
     ·rw [List.getElem?_append_right (by simpa using hi),List.getElem?_replicate] at e
      split at e <;> cases e
      exact .inr rfl
    obtain ⟨s0,e,hm⟩:=hi
    rcases no _ e with ⟨d,z⟩ | z <;> (subst z; cases hm)
  rw [z i hi,z j hj]
 penh:=fun q e=>by
  cases e
  show H p≠none
  rw [hH]; simp
 pent:=fun q e=>by
  cases e
  rw [hH]; simp
 tab:=fun q e=>nomatch e
theorem Rel.grP {p:Addr} {F H F' H':Hp} {st:AS} {σ:L2.St} (R:Rel K ⟨H,F,some p,W,none,some p⟩ F' st σ H'):GrP p F H F' H':=
 ⟨R.f0,R.fh,fun a o n e=>R.old a o e (fun z=>n (Option.some.inj z).symm),fun a e=>by
  by_cases hF:F a=none
  ·by_cases hH:H a=none
   ·exact .inr hH
   ·exact absurd (R.new a hF hH) e
  ·exact .inl hF⟩
end
def callP (mf:List D→Option RV) (dvs:List D) (g:LF):AS→Option (RV × AS):=fun st=>(g st).bind fun a=>(mf (a.1++dvs)).map fun r=>(r,a.2)
def rvD (c:AS→Option (RV × AS)):EF:=fun st=>(c st).bind fun r=>match r.1 with
 | .val d=>some (d,r.2)
 | .new xs=>some (.list xs,r.2)
 | .dct _=>none
 | .exc _=>none
def rvN (c:AS→Option (RV × AS)):LF:=fun st=>(c st).bind fun r=>match r.1 with
 | .new xs=>some (xs,r.2)
 | _=>none
def callQ (mf:List D→List D→Option (RV × List D)) (i:Nat) (g:LF):AS→Option (RV × AS):=fun st=>(muC st i).bind fun _=>(g st).bind fun a=>(muC a.2 i).bind fun xs=>(mf xs a.1).map fun r=>(r.1,putM a.2 i r.2)
section
variable {K:Kx} {C:Ct} {mf:List D→Option RV} {mq:List D→List D→Option (RV × List D)} {g:LF} {n:Nat} {σ:L2.St} {H:Hp} {Q:VK} {dvs:List V} {dds:List D} {E:XK}
theorem callP_d (hd:∀ F,DpAll K F dvs dds) (hn:∀ st r,g st=some r→(r.1++dds).length=n) (q:dOf K C (rvD (callP mf dds g)) σ H Q):tCall (spP K n mf) dvs E (aOf K C g) σ H Q:=by
 obtain ⟨F,st,w,R,e,q⟩:=q
 obtain ⟨c,ec,e⟩:=Option.bind_eq_some_iff.mp e
 obtain ⟨a,ea,ec⟩:=Option.bind_eq_some_iff.mp ec
 obtain ⟨r,er,ec⟩:=Option.map_eq_some_iff.mp ec
 cases ec
 refine ⟨F,st,a,R,ea,fun vs H1 F1 s1 R1 d1=>?_⟩
 have dd:=DpAll_app d1 (hd F1)
 refine ⟨by rw [DpAll_len dd]; exact hn st a ea,F1,_,r,R1.fh,dd,er,fun v F2 H2 gr ok=>?_,fun x hx=>by subst hx; cases e⟩
 have R2:=R1.grow gr
 cases r with
 | val d=>cases e; exact q v H2 F2 (s1.trans gr.ff) R2 ok
 | new xs=>
  cases e
  obtain ⟨p,rfl,hp,hF,us,hH,hu⟩:=ok
  obtain ⟨A,_⟩:=R1.aside hp
  obtain ⟨k1,k2,k3⟩:=R2.freezeNew A.h0 hF hH (fun j hj=>A.ap j hj) hu
  exact q _ H2 _ ((s1.trans gr.ff).trans k1) k2 k3
 | dct kvs=>cases e
 | exc x=>cases e
theorem callP_n (hd:∀ F,DpAll K F dvs dds) (hn:∀ st r,g st=some r→(r.1++dds).length=n) (q:nOf K C (rvN (callP mf dds g)) σ H Q):tCall (spP K n mf) dvs E (aOf K C g) σ H Q:=by
 obtain ⟨F,st,w,R,e,q⟩:=q
 obtain ⟨c,ec,e⟩:=Option.bind_eq_some_iff.mp e
 obtain ⟨a,ea,ec⟩:=Option.bind_eq_some_iff.mp ec
 obtain ⟨r,er,ec⟩:=Option.map_eq_some_iff.mp ec
 cases ec
 refine ⟨F,st,a,R,ea,fun vs H1 F1 s1 R1 d1=>?_⟩
 have dd:=DpAll_app d1 (hd F1)
 refine ⟨by rw [DpAll_len dd]; exact hn st a ea,F1,_,r,R1.fh,dd,er,fun v F2 H2 gr ok=>?_,fun x hx=>by subst hx; cases e⟩
 have R2:=R1.grow gr
 cases r with
 | val d=>cases e
 | dct d=>cases e
 | exc d=>cases e
 | new xs=>
  cases e
  obtain ⟨p,rfl,hp,hF,us,hH,hu⟩:=ok
  obtain ⟨A,_⟩:=R1.aside hp
  exact q p us H2 F2 (s1.trans gr.ff) R2 A.h0 hF hH (fun j hj=>A.ap j hj) hu
theorem Rel.growP {F F' H':Hp} {st:AS} {i:Nat} {xs ys:List D} {p:Addr} {us us':List V} (R:Rel K C F st σ H) (hx:muC st i=some xs) (hs:σ[i]?=some (some (.ref p))) (hH:H p=some (.lst us)) (gr:GrP p F H F' H') (hF':F' p=none) (hH':H' p=some (.lst us')) (hu:DpAll K F us xs) (hu':DpAll K F' us' ys) :
  Rel K C F' (putM st i ys) σ H':=by
 have g2:Gr F H F' (upd H' p (.lst us)):=⟨gr.ff,fun a o e=>by
   have hb:a≠p:=fun z=>by subst z; rw [hF'] at e; cases e
   rw [upd_ne hb]; exact gr.fh a o e,fun a o e=>by
   by_cases hb:a=p
   ·subst hb; rw [upd_same]; rw [hH] at e; exact e
   ·rw [upd_ne hb]; exact gr.hh a o hb e,gr.nw⟩
 have R2:=(R.grow g2).put hx hs hu'
 rw [upd_upd] at R2
 have e:upd H' p (.lst us')=H':=by
  funext a
  by_cases hb:a=p
  ·subst hb; rw [upd_same,hH']
  ·rw [upd_ne hb]
 rw [e] at R2
 exact R2
theorem putM_apart {st:AS} {i:Nat} {xs ys:List D} {z:Addr} (ex:muC st i=some xs) (ap:∀ j,Mu st j→σ[j]?≠some (some (.ref z))):∀ j,Mu (putM st i ys) j→σ[j]?≠some (some (.ref z)):=fun j hj=>by
 refine ap j ?_
 by_cases ej:j=i
 ·subst ej; exact mu_Mu ex
 ·unfold Mu at hj ⊢
  have:(putM st i ys)[j]?=st[j]?:=by
   unfold putM
   split <;> first | rfl | rw [List.getElem?_set_ne (Ne.symm ej)]
  rw [this] at hj
  exact hj
theorem callQ_d {i:Nat} (hn:∀ st r,g st=some r→r.1.length + 1=n) (q:dOf K C (rvD (callQ mq i g)) σ H Q):tCall (spQ K n mq) [] E (tCons (tVar i) (aOf K C g)) σ H Q:=by
 obtain ⟨F,st,w,R,e,q⟩:=q
 obtain ⟨c,ec,e⟩:=Option.bind_eq_some_iff.mp e
 obtain ⟨x0,e0,ec⟩:=Option.bind_eq_some_iff.mp ec
 obtain ⟨a,ea,ec⟩:=Option.bind_eq_some_iff.mp ec
 obtain ⟨xs,ex,ec⟩:=Option.bind_eq_some_iff.mp ec
 obtain ⟨r,er,ec⟩:=Option.map_eq_some_iff.mp ec
 obtain ⟨r1,r2⟩:=r
 cases ec
 obtain ⟨p,hp,_,_⟩:=R.mu e0
 refine ⟨.ref p,hp,F,st,a,R,ea,fun vs H1 F1 s1 R1 d1=>?_⟩
 obtain ⟨p',hp',⟨hF,us,hH,hu⟩,_⟩:=R1.mu ex
 rw [hp] at hp'
 cases hp'
 rw [List.append_nil]
 refine ⟨by rw [List.length_cons,DpAll_len d1]; exact hn st a ea,F1,p,vs,us,xs,a.1,(r1,r2),rfl,R1.fh,hF,hH,hu,d1,er,fun x hx=>?_,fun v F2 H2 us' gr k1 k2 k3 ok=>?_⟩
 ·dsimp only at hx e
  subst hx
  cases e
 have R2:=R1.growP ex hp hH gr k1 k2 hu k3
 dsimp only at e ok
 cases r1 with
 | val d=>cases e; exact q v H2 F2 (s1.trans gr.ff) R2 ok
 | exc x=>cases e
 | new zs=>
  cases e
  obtain ⟨z,rfl,hz,hFz,ws,hHz,hw⟩:=ok
  obtain ⟨A,_⟩:=R1.aside hz
  obtain ⟨k4,k5,k6⟩:=R2.freezeNew A.h0 hFz hHz (putM_apart ex A.ap) hw
  exact q _ H2 _ ((s1.trans gr.ff).trans k4) k5 k6
 | dct zs=>cases e
end
end Xm
namespace Xm
open PySem PySem.Spec PyProof.Rows L2
def kIn:D→D→Option D
 | a,.list xs=>if SeqAt.shaped a=true∧SeqAt.shaped (.list xs)=true then some (.bool (xs.any fun z=>PyData.eqv z a)) else none
 | a,.tuple xs=>if SeqAt.shaped a=true∧SeqAt.shaped (.tuple xs)=true then some (.bool (xs.any fun z=>PyData.eqv z a)) else none
 | a,.dict kvs=>(dGet kvs a).map fun o=>.bool o.isSome
 | _,_=>none
def rInAny (K:Kx):R2:=fun x y H Q=>∃ d ds,Dp K H x d∧(Dp K H y (.list ds)∧SeqAt.shaped (.list ds)=true∨Dp K H y (.tuple ds)∧SeqAt.shaped (.tuple ds)=true)∧SeqAt.shaped d=true∧Q (.bl (ds.any fun z=>PyData.eqv z d)) H
section
variable {X:Cx}
theorem op_inAny (hu:X.A.units + 65 < cLine):OpR X (compareOp .In) (rInAny (kxOf X)):=by
 intro pins s σ H x y v u Q I rx ry h
 obtain ⟨d,ds,hd,he,sd,q⟩:=h
 obtain ⟨as,r1⟩:=Dp.reads I d x v (canLay_sh sd) hd rx
 rcases he with ⟨he,se⟩ | ⟨he,se⟩
 ·obtain ⟨bs,r2⟩:=Dp.reads I (.list ds) y u (canLay_sh se) he ry
  exact SeqAt.in_list_reads r2 r1 (SeqAt.canLay_of_shaped se) (SeqAt.canLay_of_shaped sd) (room_in_shaped sd hu) ⟨.bl _,H,I,rfl,q⟩
 ·obtain ⟨bs,r2⟩:=Dp.reads I (.tuple ds) y u (canLay_sh se) he ry
  exact SeqAt.in_tuple_reads r2 r1 (SeqAt.canLay_of_shaped se) (SeqAt.canLay_of_shaped sd) (room_in_shaped sd hu) ⟨.bl _,H,I,rfl,q⟩
theorem ok_in {K:Kx}:Ok2 K (fun x y H Q=>rInAny K x y H Q∨rInD K x y H Q) kIn:=by
 intro F H x y a b z Q fh ha hb e q
 unfold kIn at e
 split at e
 ·split at e <;> cases e
  rename_i h
  exact .inl ⟨a,_,Dp_up ha fh,.inl ⟨Dp_up hb fh,h.2⟩,h.1,q _ F H (Gr.refl fh) (.bl _)⟩
 ·split at e <;> cases e
  rename_i h
  exact .inl ⟨a,_,Dp_up ha fh,.inr ⟨Dp_up hb fh,h.2⟩,h.1,q _ F H (Gr.refl fh) (.bl _)⟩
 ·obtain ⟨o,eo,e⟩:=Option.map_eq_some_iff.mp e
  cases e
  exact .inr ⟨F,_,_,o,rdict_of hb fh,ha,eo,q _ F H (Gr.refl fh) (.bl _)⟩
 ·cases e
variable {C:Ct} {pos:Pos} {a b:Expr} {f g:EF}
theorem xt_in (hu:X.A.units + 65 < cLine) (ha:PE X a (dOf (kxOf X) C f)) (hb:PE X b (dOf (kxOf X) C g)) (hm:behindInMarks .In b=false:=by rfl):PT X (.Compare a [.In] [b] pos) (bOf (kxOf X) C (valB (bin2 kIn f g))):=xt_cmp ((op_inAny hu).or (op_inD hu)) ok_in ha hb hm
end
def cutX {α:Type} (xs:List α) (lo hi:Option Int):List α:=(xs.drop (HT.sIx xs.length 0 lo)).take (HT.sIx xs.length xs.length hi - HT.sIx xs.length 0 lo)
theorem cut_dp {K:Kx} {F:Hp} {vs:List V} {ds:List D} {lo hi:Option Int} (h:DpAll K F vs ds):DpAll K F (cutV vs lo hi) (cutX ds lo hi):=by
 unfold cutV cutX
 rw [DpAll_len h]
 exact DpAll_take _ (DpAll_drop _ h)
abbrev OF:=AS→Option (Option Int × AS)
def oOf (K:Kx) (C:Ct) (f:OF):TO:=fun σ H Q=>∃ F st r,Rel K C F st σ H∧f st=some r∧∀ H' F',Same F F'→Rel K C F' r.2 σ H'→Q r.1 H'
def noO:OF:=fun st=>some (none,st)
def someO (f:EF):OF:=fun st=>(f st).bind fun a=>match a.1 with
 | .int i=>some (some i,a.2)
 | _=>none
def cutF (f:EF) (lo hi:OF):EF:=fun st=>(f st).bind fun a=>(lo a.2).bind fun l=>(hi l.2).bind fun h=>match a.1 with
 | .list xs=>some (.list (cutX xs l.1 h.1),h.2)
 | .tuple xs=>some (.tuple (cutX xs l.1 h.1),h.2)
 | _=>none
def revF (f:EF):EF:=fun st=>(f st).bind fun a=>match a.1 with
 | .list xs=>some (.list xs.reverse,a.2)
 | _=>none
section
variable {X:Cx} {C:Ct} {pos p2:Pos} {e:Expr} {lo hi:Option Expr} {f:EF} {l h:OF}
theorem po_wk {t t':TO} {o:Option Expr} (h:PO X o t) (w:∀ σ H Q,t' σ H Q→t σ H Q):PO X o t':=⟨fun pins s σ H Q I q=>h.run pins s σ H Q I (w σ H Q q)⟩
theorem xo_none:PO X none (oOf (kxOf X) C noO):=po_wk po_none fun σ H Q q=>by
 obtain ⟨F,st,w,R,e,q⟩:=q
 cases e
 exact q H F (Same.refl _) R
theorem xo_some (he:PE X e (dOf (kxOf X) C f)):PO X (some e) (oOf (kxOf X) C (someO f)):=po_wk (po_some he) fun σ H Q q=>by
 obtain ⟨F,st,w,R,e,q⟩:=q
 obtain ⟨a,ea,e⟩:=Option.bind_eq_some_iff.mp e
 split at e
 ·rename_i i hi
  cases e
  exact ⟨F,st,a,R,ea,fun v H1 F1 s1 R1 d1=>⟨i,dp_int (hi ▸ d1),q H1 F1 s1 R1⟩⟩
 ·cases e
theorem cut_whole {α:Type} {xs:List α} {lo hi:Option Int} (h:HT.sIx xs.length 0 lo=0∧HT.sIx xs.length xs.length hi=xs.length):cutX xs lo hi=xs:=by
 unfold cutX
 rw [h.1,h.2]
 simp
theorem xd_slice (he:PE X e (dOf (kxOf X) C f)) (hl:PO X lo (oOf (kxOf X) C l)) (hh:PO X hi (oOf (kxOf X) C h)):PE X (.Subscript e (.Slice lo hi none p2) pos) (dOf (kxOf X) C (cutF f l h)):=
 pe_wk (pe_slice (sl_list.or sl_tupN) he hl hh) fun σ H Q q=>by
  obtain ⟨F,st,w,R,e,q⟩:=q
  obtain ⟨a,ea,e⟩:=Option.bind_eq_some_iff.mp e
  obtain ⟨b,eb,e⟩:=Option.bind_eq_some_iff.mp e
  obtain ⟨c,ec,e⟩:=Option.bind_eq_some_iff.mp e
  refine ⟨F,st,a,R,ea,fun v H1 F1 s1 R1 d1=>⟨F1,a.2,b,R1,eb,fun H2 F2 s2 R2=>⟨F2,b.2,c,R2,ec,fun H3 F3 s3 R3=>?_⟩⟩⟩
  have up:Same F F3:=(s1.trans s2).trans s3
  have d3:=Dp_up d1 (s2.trans s3)
  split at e
  ·rename_i xs hx
   cases e
   rw [hx] at d3
   cases d3 with
   | lst hs hv=>
    rename_i a0 vs0
    refine .inl ⟨_,_,rfl,sql_up R3.fh hs,fun p hp=>?_⟩
    have gr:=Gr.new (o:=.lst (cutV vs0 b.1 c.1)) R3.fh hp
    exact q _ _ _ (up.trans gr.ff) (R3.grow gr) (.lst (.inl (.inl upd_same)) (DpAll_up (cut_dp hv) gr.ff))
  ·rename_i xs hx
   cases e
   rw [hx] at d3
   cases d3 with
   | tup hs hv=>
    rename_i a0 vs0
    refine .inr ⟨_,_,rfl,sqt_up R3.fh hs,fun hw=>?_,fun hw p its hp=>?_⟩
    ·refine q _ H3 F3 up R3 ?_
     rw [DpAll_len hv] at hw
     rw [cut_whole hw]
     exact .tup hs hv
    ·have gr:=Gr.new (o:=.frz (tupO its) (.tup (cutV vs0 b.1 c.1))) R3.fh hp
     exact q _ _ _ (up.trans gr.ff) (R3.grow gr) (.tup (TupQ.new upd_same) (DpAll_up (cut_dp hv) gr.ff))
  ·cases e
end
def rCatL (K:Kx):R2:=fun x y H Q=>∃ a b xs ys,x=.ref a∧y=.ref b∧SqL K.K H a xs∧SqL K.K H b ys∧xs.length + ys.length ≤ sizeLine∧∀ p,H p=none→Q (.ref p) (upd H p (.lst (xs++ys)))
theorem op_catL {X:Cx}:OpR X (binaryOp .Add) (rCatL (kxOf X)):=by
 intro pins s σ H x y v u Q I rx ry h
 obtain ⟨a,b,xs,ys,rfl,rfl,ha,hb,hz,q⟩:=h
 cases rx
 cases ry
 obtain ⟨its,r,⟨⟨c1,d1,t1,sl1⟩,n,e,hc,_,hd⟩,_⟩:=I.list ha
 obtain ⟨its2,r2,⟨⟨c2,d2,t2,sl2⟩,n2,e2,hc2,_,hd2⟩,_⟩:=I.list hb
 dsimp only at hc hd hc2 hd2
 subst hc hd hc2 hd2
 have l1:=r.length
 have l2:=r2.length
 have ea:its.toArray++its2.toArray=(its++its2).toArray:=by simp
 refine concat_meets ⟨_,e,rfl⟩ ⟨_,e2,rfl⟩ noFill_list_add seq_list_add PySem.F.slot_list_add PySem.F.entry_list_add (PySem.F.args_list_add_2 _ _) (list_addW a b its.toArray its2.toArray n n2 d1 d2 sl1 sl2 (by rw [List.size_toArray,List.size_toArray]; omega)) ⟨e,e2,?_⟩
 rw [ea]
 exact ⟨.ref _,_,I.lnew (t':=s.toks) (r.append r2) (by rw [List.length_append]; omega),rfl,q _ I.fresh⟩
def kCat:D→D→Option D
 | .int i,.int j=>some (.int (i + j))
 | .tuple xs,.tuple ys=>if xs.length + ys.length ≤ sizeLine then some (.tuple (xs++ys)) else none
 | .list xs,.list ys=>if xs.length + ys.length ≤ sizeLine then some (.list (xs++ys)) else none
 | _,_=>none
theorem ok_cat {K:Kx}:Ok2 K (fun x y H Q=>rI0 (fun i j=>.int (i + j)) x y H Q∨rCatN K.K x y H Q∨rCatL K x y H Q) kCat:=by
 intro F H x y a b z Q fh ha hb e q
 unfold kCat at e
 split at e
 ·cases e
  exact .inl ⟨_,_,dp_int ha,dp_int hb,q _ F H (Gr.refl fh) (.int _)⟩
 ·split at e <;> cases e
  rename_i hl
  cases ha with
  | tup hs hv=>
   rename_i a0 vs0
   cases hb with
   | tup hs2 hv2=>
    rename_i a1 vs1
    refine .inr (.inl ⟨_,_,_,_,rfl,rfl,sqt_up fh hs,sqt_up fh hs2,by rw [DpAll_len hv,DpAll_len hv2]; exact hl,fun h0=>?_,fun h0 h1=>?_,fun h0 h1 p its hp=>?_⟩)
    ·subst h0
     cases hv
     exact q _ F H (Gr.refl fh) (.tup hs2 hv2)
    ·subst h1
     cases hv2
     rw [List.append_nil] at q
     exact q _ F H (Gr.refl fh) (.tup hs hv)
    ·have gr:=Gr.new (o:=.frz (tupO its) (.tup (vs0++vs1))) fh hp
     exact q _ _ _ gr (.tup (TupQ.new upd_same) (DpAll_up (DpAll_app hv hv2) gr.ff))
 ·split at e <;> cases e
  rename_i hl
  cases ha with
  | lst hs hv=>
   rename_i a0 vs0
   cases hb with
   | lst hs2 hv2=>
    rename_i a1 vs1
    refine .inr (.inr ⟨_,_,_,_,rfl,rfl,sql_up fh hs,sql_up fh hs2,by rw [DpAll_len hv,DpAll_len hv2]; exact hl,fun p hp=>?_⟩)
    have gr:=Gr.new (o:=.lst (vs0++vs1)) fh hp
    exact q _ _ _ gr (.lst (.inl (.inl upd_same)) (DpAll_up (DpAll_app hv hv2) gr.ff))
 ·cases e
section
variable {X:Cx} {C:Ct} {pos:Pos} {a b:Expr} {f g:EF}
theorem xd_cat (ha:PE X a (dOf (kxOf X) C f)) (hb:PE X b (dOf (kxOf X) C g)):PE X (.BinOp a .Add b pos) (dOf (kxOf X) C (bin2 kCat f g)):=xd_op (op_add.or (op_catN.or op_catL)) ok_cat ha hb
end
def ArN (g:LF) (n:Nat):Prop:=∀ st r,g st=some r→r.1.length=n
theorem ar_nil:ArN nilA 0:=fun st r e=>by cases e; rfl
theorem ar_cons {f:EF} {g:LF} {n:Nat} (h:ArN g n):ArN (consA f g) (n + 1):=fun st r e=>by
 obtain ⟨a,ea,e⟩:=Option.bind_eq_some_iff.mp e
 obtain ⟨b,eb,e⟩:=Option.map_eq_some_iff.mp e
 cases e
 rw [List.length_cons,h _ _ eb]
section
variable {X:Cx} {C:Ct} {k n m:Nat} {f:Addr} {fd:FuncData} {ps:List Str} {x y:Str} {p p1 pos:Pos} {e:Expr} {es:List Expr} {g:LF} {mf:List D→Option RV} {mq:List D→List D→Option (RV × List D)} {dvs:List V} {dds:List D} {ds:List Value}
theorem xd_callP (G:FnG X.prog X.w X.K X.mg X.base (CXM X.prog X.w) k f fd ps (spP (kxOf X) n mf)) (hr:Room k X.A) (gd:X.A.guards=some []) (hm:X.mg x=some (.ref f)) (hk:PySem.W.keepIn X.K (.ref f)=true) (hb:Binds X.K fd ps ds) (hv:Vals dvs ds) (hd:∀ F,DpAll (kxOf X) F dvs dds)
  (ha:PA X (e::es) (aOf (kxOf X) C g)) (hn:ArN g m) (hnm:m + dds.length=n:=by rfl) (hg:Gl X x:=by rfl) (he:starEach (e::es) X.env=(false,eval e X.env)::starEach es X.env:=by rfl) (hpl:(backTo pos (starEach es X.env)).any (·.1)=false:=by rfl) (hdb:(x == ("__debug__" : Str))=false:=by decide) :
  PE X (.Call (.Name x p) (e::es) [] pos) (dOf (kxOf X) C (rvD (callP mf dds g))):=
 pe_wk (pe_callG (E:=E0) G hr gd hm hk hb hv passL ha hg he hpl hdb) fun _ _ _ q=>callP_d hd (fun st r er=>by rw [List.length_append,hn st r er]; exact hnm) q
theorem xn_callP (G:FnG X.prog X.w X.K X.mg X.base (CXM X.prog X.w) k f fd ps (spP (kxOf X) n mf)) (hr:Room k X.A) (gd:X.A.guards=some []) (hm:X.mg x=some (.ref f)) (hk:PySem.W.keepIn X.K (.ref f)=true) (hb:Binds X.K fd ps ds) (hv:Vals dvs ds) (hd:∀ F,DpAll (kxOf X) F dvs dds)
  (ha:PA X (e::es) (aOf (kxOf X) C g)) (hn:ArN g m) (hnm:m + dds.length=n:=by rfl) (hg:Gl X x:=by rfl) (he:starEach (e::es) X.env=(false,eval e X.env)::starEach es X.env:=by rfl) (hpl:(backTo pos (starEach es X.env)).any (·.1)=false:=by rfl) (hdb:(x == ("__debug__" : Str))=false:=by decide) :
  PE X (.Call (.Name x p) (e::es) [] pos) (nOf (kxOf X) C (rvN (callP mf dds g))):=
 pe_wk (pe_callG (E:=E0) G hr gd hm hk hb hv passL ha hg he hpl hdb) fun _ _ _ q=>callP_n hd (fun st r er=>by rw [List.length_append,hn st r er]; exact hnm) q
theorem xd_callQ {i:Nat} (G:FnG X.prog X.w X.K X.mg X.base (CXM X.prog X.w) k f fd ps (spQ (kxOf X) n mq)) (hr:Room k X.A) (gd:X.A.guards=some []) (hm:X.mg x=some (.ref f)) (hk:PySem.W.keepIn X.K (.ref f)=true) (hb:Binds X.K fd ps [])
  (ho:PE X e (tVar i)) (ha:PA X es (aOf (kxOf X) C g)) (hn:ArN g m) (hnm:m + 1=n:=by rfl) (hg:Gl X x:=by rfl) (he:starEach (e::es) X.env=(false,eval e X.env)::starEach es X.env:=by rfl) (hpl:(backTo pos (starEach es X.env)).any (·.1)=false:=by rfl) (hdb:(x == ("__debug__" : Str))=false:=by decide) :
  PE X (.Call (.Name x p) (e::es) [] pos) (dOf (kxOf X) C (rvD (callQ mq i g))):=
 pe_wk (pe_callG (E:=E0) G hr gd hm hk hb .nil passL (pa_cons ho ha he) hg he hpl hdb) fun _ _ _ q=>callQ_d (fun st r er=>by rw [hn st r er]; exact hnm) q
end
def par2 (i j:Nat) (g:LF):SF:=fun st=>(g st).bind fun a=>match a.1 with
 | [x,y]=>(setD i x a.2).bind fun s1=>(setD j y s1).map fun s2=>(.nx,s2)
 | _=>none
def par3 (i j l:Nat) (g:LF):SF:=fun st=>(g st).bind fun a=>match a.1 with
 | [x,y,z]=>(setD i x a.2).bind fun s1=>(setD j y s1).bind fun s2=>(setD l z s2).map fun s3=>(.nx,s3)
 | _=>none
section
variable {X:Cx} {C:Ct} {pos px py pz pt:Pos} {a b c:Expr} {g:LF} {i j l:Nat} {x y z:Str} {kt k2 pt2}
theorem xs_par2 (hN:X.N.Nodup) (ha:PA X [a,b] (aOf (kxOf X) C g)) (hi:X.N[i]?=some x) (hj:X.N[j]?=some y) (hij:i≠j) (hx:X.env.scope.names.lookup x=some .local) (hy:X.env.scope.names.lookup y=some .local)
  (hw:swappedStores [.Tuple [.Name x px,.Name y py] kt pt] (.Tuple [a,b] k2 pt2) X.env=pure (some [x,y]))
  (hs:swapsWithSole [.Tuple [.Name x px,.Name y py] kt pt] (.Tuple [a,b] k2 pt2) pos.line X.env=pure false:=by rfl) (hc:X.calm=true:=by rfl) :
  PS X (.Assign [.Tuple [.Name x px,.Name y py] kt pt] (.Tuple [a,b] k2 pt2) pos) (sOf (kxOf X) C (par2 i j g)):=
 ps_wk (ps_par hc hN hi hj hij hx hy ha hw hs) fun Z σ H q=>by
  obtain ⟨F,st,w,R,e,q⟩:=q
  obtain ⟨r,er,e⟩:=Option.bind_eq_some_iff.mp e
  refine ⟨F,st,r,R,er,fun vs H1 F1 s1 R1 d1=>?_⟩
  split at e
  ·rename_i u v huv
   obtain ⟨t1,e1,e⟩:=Option.bind_eq_some_iff.mp e
   obtain ⟨t2,e2,e⟩:=Option.map_eq_some_iff.mp e
   cases e
   rw [huv] at d1
   cases d1 with
   | cons d2 d3=>
    cases d3 with
    | cons d4 d5=>
     cases d5
     exact ⟨_,_,rfl,q _ H1 F1 s1 ((R1.setD e1 d2).setD e2 d4)⟩
  ·cases e
end
def asgT (f:EF) (u:D→AS→Option AS):SF:=fun st=>(f st).bind fun a=>(u a.1 a.2).map fun s=>(.nx,s)
section
variable {X:Cx} {C:Ct} {pos:Pos} {tg e:Expr} {f:EF} {u:D→AS→Option AS} {ts:List Nat}
theorem xs_asg (he:PE X e (dOf (kxOf X) C f)) (hg:PG X tg (gOf (kxOf X) C u ts)) (hs:swapsWithSole [tg] e pos.line X.env=pure false:=by rfl) (hw:swappedStores [tg] e X.env=pure none:=by rfl)
  (h1:(assignEach [tg] X.env).map (·.2)=[assign tg X.env]:=by rfl):PS X (.Assign [tg] e pos) (sOf (kxOf X) C (asgT f u)):=ps_wk (ps_asg he hg hs hw h1) fun Z σ H q=>by
 obtain ⟨F,st,w,R,e,q⟩:=q
 obtain ⟨a,ea,e⟩:=Option.bind_eq_some_iff.mp e
 obtain ⟨st',es,e⟩:=Option.map_eq_some_iff.mp e
 cases e
 exact ⟨F,st,a,R,ea,fun v H1 F1 s1 R1 d1=>⟨F1,a.2,a.1,st',R1,d1,es,fun σ' H' F' s2 R2 _ _=>q σ' H' F' (s1.trans s2) R2⟩⟩
end
section
variable {X:Cx} {C:Ct} {pos spos py:Pos} {elt tg iter:Expr} {ifs:List Expr} {scope:Scope} {own:List (Str × Nat)} {it:LF} {u:D→AS→Option AS} {ts:List Nat} {tt:BF} {te:EF} {i:Nat} {y:Str} {vs:List Nat}
theorem xs_setLcD (hN:X.N.Nodup) (hi:PI X tg iter (iOf (kxOf X) C it)) (ok:BlkOk X.N X.env.scope scope own)
  (hg:∀ (C:Ct) (s:Shared) (H:Hp) (c:Addr) (cl:List (Str × Addr)) (fp:List Addr),PG (X.blk s H scope (compEnvC scope cl c X.env) fp) tg (gOf (kxOf X) C u ts))
  (ht:∀ (C:Ct) (s:Shared) (H:Hp) (c:Addr) (cl:List (Str × Addr)) (fp:List Addr),PTs (X.blk s H scope (compEnvC scope cl c X.env) fp) ifs (bOf (kxOf X) C tt))
  (he:∀ (C:Ct) (s:Shared) (H:Hp) (c:Addr) (cl:List (Str × Addr)) (fp:List Addr),PE (X.blk s H scope (compEnvC scope cl c X.env) fp) elt (dOf (kxOf X) C te))
  (hy:X.N[i]?=some y) (hyl:X.env.scope.names.lookup y=some .local) (hsw:swapsWith (.ListComp elt [⟨tg,iter,ifs,0⟩] scope pos) (some (.Name y py)) spos.line X.env=pure true)
  (hvs:own.map (·.2)=vs:=by rfl) (hts:∀ j ∈ ts,j ∈ vs:=by decide) (hc:X.calm=true:=by rfl) (hs:∀ x,foldedSetIterable iter X.env x=pure x:=by intro _; rfl) :
  PS X (.Assign [.Name y py] (.ListComp elt [⟨tg,iter,ifs,0⟩] scope pos) spos) (sOf (kxOf X) C (asgS i (listE (compF it u tt te vs)))):=by
 subst hvs
 exact ps_wk (ps_setLc (g:=fun v σ H Q=>∃ C,gOf (kxOf X) C u ts v σ H Q) (tt:=fun σ H Q=>∃ C,bOf (kxOf X) C tt σ H Q) (te:=fun σ H Q=>∃ C,dOf (kxOf X) C te σ H Q) hc hN hy hyl hsw hi ok
  (fun s H c cl fp=>⟨fun pins s1 σ H1 v uu Q I r ⟨C1,q⟩=>(hg C1 s H c cl fp).run pins s1 σ H1 v uu Q I r q⟩)
  (fun s H c cl fp=>⟨fun pins s1 σ H1 Q I ⟨C1,q⟩=>(ht C1 s H c cl fp).run pins s1 σ H1 Q I q⟩)
  (fun s H c cl fp=>⟨fun pins s1 σ H1 Q I ⟨C1,q⟩=>(he C1 s H c cl fp).run pins s1 σ H1 Q I q⟩) hs)
  fun Z σ H q=>by
   obtain ⟨F,st,w,R,e,q⟩:=q
   obtain ⟨b,eb,e⟩:=Option.bind_eq_some_iff.mp e
   obtain ⟨st',es,e⟩:=Option.map_eq_some_iff.mp e
   obtain ⟨a,ea,eb⟩:=Option.map_eq_some_iff.mp eb
   cases e
   cases eb
   exact lc_ok hts _ _ _ (fun C _ _ _ _ k=>⟨C,k⟩) (fun C _ _ _ k=>⟨C,k⟩) (fun C _ _ _ k=>⟨C,k⟩) ⟨F,st,a,R,ea,fun p vs H1 F1 s1 R1 h0 h1 h2 h3 d1=>by
    obtain ⟨k1,k2,k3⟩:=R1.freezeNew h0 h1 h2 h3 d1
    exact q _ H1 _ (s1.trans k1) (k2.setD es k3)⟩
end
end Xm
namespace Xm
open PySem PySem.Spec PyProof.Rows L2
theorem dpa_ints {K:Kx} {F:Hp}:∀ ns:List Int,DpAll K F (ns.map V.int) (ns.map PyData.int)
 | []=>.nil
 | n::ns=>.cons (.int n) (dpa_ints ns)
end Xm
namespace Xm
open PySem PySem.Spec PyProof.Rows L2
def GlobD (K:PySem.W.Frag) (mg:Str→Option Value) (x:Str) (d:D):Prop:=∃ v u,mg x=some u∧RelV v u∧∀ P w F,Dp ⟨K,P,w,mg⟩ F v d
structure Has (P:Program) (w:World) (K:PySem.W.Frag) (mg:Str→Option Value) (base:Heap) (k:Nat) (x:Str) (n:Nat) (dds:List D) (mf:List D→Option RV):Prop where
 ex:∃ (f:Addr) (fd:FuncData) (ps:List Str) (dvs:List V) (ds:List Value),FnG P w K mg base (CXM P w) k f fd ps (spP ⟨K,P,w,mg⟩ n mf)∧mg x=some (.ref f)∧PySem.W.keepIn K (.ref f)=true∧Binds K fd ps ds∧Vals dvs ds∧∀ F,DpAll ⟨K,P,w,mg⟩ F dvs dds
structure HasQ (P:Program) (w:World) (K:PySem.W.Frag) (mg:Str→Option Value) (base:Heap) (k:Nat) (x:Str) (n:Nat) (mq:List D→List D→Option (RV × List D)):Prop where
 ex:∃ (f:Addr) (fd:FuncData) (ps:List Str),FnG P w K mg base (CXM P w) k f fd ps (spQ ⟨K,P,w,mg⟩ n mq)∧mg x=some (.ref f)∧PySem.W.keepIn K (.ref f)=true∧Binds K fd ps []
section
variable {X:Cx} {C:Ct} {j k n m:Nat} {x:Str} {p pos:Pos} {e:Expr} {es:List Expr} {g:LF} {mf:List D→Option RV} {mq:List D→List D→Option (RV × List D)} {dds:List D} {d:D}
theorem xd_glob (h:GlobD X.K X.mg x d) (hg:Gl X x:=by rfl) (hd:(x == ("__debug__" : Str))=false:=by decide):PE X (.Name x pos) (dOf (kxOf X) C (cst d)):=by
 obtain ⟨v,u,h1,h2,h3⟩:=h
 exact xd_c (pe_glob hg h1 h2 hd) (h3 _ _)
theorem xd_call (h:Has X.prog X.w X.K X.mg X.base j x n dds mf) (hr:Room k X.A) (gd:X.A.guards=some []) (hjk:j ≤ k) (ha:PA X (e::es) (aOf (kxOf X) C g)) (hn:ArN g m) (hnm:m + dds.length=n:=by rfl) (hg:Gl X x:=by rfl)
  (he:starEach (e::es) X.env=(false,eval e X.env)::starEach es X.env:=by rfl) (hpl:(backTo pos (starEach es X.env)).any (·.1)=false:=by rfl) (hdb:(x == ("__debug__" : Str))=false:=by decide) :
  PE X (.Call (.Name x p) (e::es) [] pos) (dOf (kxOf X) C (rvD (callP mf dds g))):=by
 obtain ⟨f,fd,ps,dvs,ds,G,hm,hk,hb,hv,hd⟩:=h.ex
 exact xd_callP G (hr.mono hjk) gd hm hk hb hv hd ha hn hnm hg he hpl hdb
theorem xn_call (h:Has X.prog X.w X.K X.mg X.base j x n dds mf) (hr:Room k X.A) (gd:X.A.guards=some []) (hjk:j ≤ k) (ha:PA X (e::es) (aOf (kxOf X) C g)) (hn:ArN g m) (hnm:m + dds.length=n:=by rfl) (hg:Gl X x:=by rfl)
  (he:starEach (e::es) X.env=(false,eval e X.env)::starEach es X.env:=by rfl) (hpl:(backTo pos (starEach es X.env)).any (·.1)=false:=by rfl) (hdb:(x == ("__debug__" : Str))=false:=by decide) :
  PE X (.Call (.Name x p) (e::es) [] pos) (nOf (kxOf X) C (rvN (callP mf dds g))):=by
 obtain ⟨f,fd,ps,dvs,ds,G,hm,hk,hb,hv,hd⟩:=h.ex
 exact xn_callP G (hr.mono hjk) gd hm hk hb hv hd ha hn hnm hg he hpl hdb
theorem xd_callM {i:Nat} (h:HasQ X.prog X.w X.K X.mg X.base j x n mq) (hr:Room k X.A) (gd:X.A.guards=some []) (hjk:j ≤ k) (ho:PE X e (tVar i)) (ha:PA X es (aOf (kxOf X) C g)) (hn:ArN g m) (hnm:m + 1=n:=by rfl) (hg:Gl X x:=by rfl)
  (he:starEach (e::es) X.env=(false,eval e X.env)::starEach es X.env:=by rfl) (hpl:(backTo pos (starEach es X.env)).any (·.1)=false:=by rfl) (hdb:(x == ("__debug__" : Str))=false:=by decide) :
  PE X (.Call (.Name x p) (e::es) [] pos) (dOf (kxOf X) C (rvD (callQ mq i g))):=by
 obtain ⟨f,fd,ps,G,hm,hk,hb⟩:=h.ex
 exact xd_callQ G (hr.mono hjk) gd hm hk hb ho ha hn hnm hg he hpl hdb
end
theorem Room.u65 {k:Nat} {A:Around} (r:Room k A):A.units + 65 < cLine:=by have:=r.un; omega
abbrev Dn (K:PySem.W.Frag) (x:Str) (st:Stmt) (dvs:List V) (f:Addr) (fd:FuncData):Prop:=FunD K x x (defArgs st) (defBody st) (defScope st) dvs [] f fd
section
variable {P:Program} {w:World} {K:PySem.W.Frag} {mg:Str→Option Value} {base:Heap} {CX:CXT} {k j:Nat} {f:Addr} {fd:FuncData} {ps N:List Str} {sp:Sp} {dvs:List V}
theorem fnG_ofD {x:Str} {st:Stmt} (T:Dn K x st dvs f fd) (S:FnScope N ps (defScope st)) (ar:∀ vs H Q E,sp vs H Q E→vs.length=ps.length)
  (body:∀ (cdv:Value) (A:Around) (outer:List Env) (s:Shared) (H:Hp) (vs:List V) (Q:VK) (E:XK),Room k (A.deeper (envOfC x (defScope st) s.heap.objs.size f cdv))→A.guards=some []→sp vs H Q E→
   ∃ t,PSs (cxOf CX P w K mg base N x (defScope st) f cdv A outer s H E) (defBody st) t∧t { nx:=fun _ H'=>Q .non H',rt:=Q } (L2.start N vs) H):FnG P w K mg base CX (k + 1) f fd ps sp:=by
 obtain ⟨oc,od,dV,kV,doc,pm,an,cdv,ct,osl,rfl,lk,hcd,_,_⟩:=T.ex
 refine ⟨ar,fun A outer s H args us vs Q E room guards env bind rel want=>?_⟩
 have inHeap:∀ b o,base.get? b=some o→s.heap.get? b=some o:=fun b o e=>(env.bs b o e).1
 have written:K.In s.heap:=env.mod.kin.keeps inHeap
 have param:∀ y ∈ ps.zip us,(defScope st).names.lookup y.1=some .local∨((defScope st).names.lookup y.1=some .cell∧((cellsFrom (s.heap.objs.size + 1) (defScope st).names []).lookup y.1).isSome=true):=by
  intro y hy
  rcases S.par y.1 (List.of_mem_zip hy).1 with q | q
  ·exact .inl q
  ·exact .inr ⟨q,PySem.W.cellsFrom_some _ _ _ (.inl q)⟩
 refine codeAny_call_function room.depth (written _ _ lk) rfl S.co S.gen rfl (PySem.W.codeRec_of written hcd) (bind _ _ _ _ ?_)
 refine wpAny_newFunctionEnv_cells S.kind param fun en hen s1 inC=>?_
 subst hen
 refine ⟨(env.mod.nolimit.keeps inHeap).keeps inC.toInCall.keep,codeAny_func ?_⟩
 obtain ⟨t,pss,ht⟩:=body cdv A outer s H vs Q E (room.deeper _) guards want
 have I0:=inv_start (CX:=CX) (qual:=x) (f:=f) (cd:=cdv) (E:=E) S room.hd env (ar _ _ _ _ want) rel inC
 refine wpAny_mono (pss.run [] s1 (L2.start N vs) H _ I0 ht) (fun fl s' hs=>?_) fun _ _ z=>z
 cases fl with
 | ret u=>
  obtain ⟨v,σ',H',J,rv,q⟩:=hs
  exact ⟨v,H',J.os,J.bare,J.base,J.hok,rv,q⟩
 | next=>
  obtain ⟨σ',H',J,q⟩:=hs
  exact ⟨V.non,H',J.os,J.bare,J.base,J.hok,rfl,q⟩
 | brk=>
  obtain ⟨_,_,_,q⟩:=hs
  exact q.elim
 | cont=>
  obtain ⟨_,_,_,q⟩:=hs
  exact q.elim
theorem defX {x:Str} {st:Stmt} {n:Nat} {mf:List D→Option RV} (g:SF) (T:Dn K x st dvs f fd) (S:FnScope N ps (defScope st)) (hn:n=ps.length) (hn2:n ≤ N.length)
  (law:∀ ds r,ds.length=n→mf ds=some r→Leaves g (st0 N.length ds) r fun _=>True)
  (body:∀ (C:Ct) (cdv:Value) (A:Around) (outer:List Env) (s:Shared) (H:Hp) (E:XK),C.W=(fun cls d _ H=>E cls d H)→Room k (A.deeper (envOfC x (defScope st) s.heap.objs.size f cdv))→(A.deeper (envOfC x (defScope st) s.heap.objs.size f cdv)).guards=some []→
   PSs (cxOf CX P w K mg base N x (defScope st) f cdv A outer s H E) (defBody st) (sOf ⟨K,P,w,mg⟩ C g)):FnG P w K mg base CX (k + 1) f fd ps (spP ⟨K,P,w,mg⟩ n mf):=by
 refine fnG_ofD T S (fun vs H Q E h=>h.1.trans hn) fun cdv A outer s H vs Q E room guards want=>?_
 obtain ⟨hl,F,ds,r,fh,hd,hm,q,qx⟩:=want
 refine ⟨_,body ⟨H,F,none,fun cls d _ H=>E cls d H,none,none⟩ cdv A outer s H E rfl room guards,?_⟩
 obtain ⟨st',hg,_⟩:=law ds r ((DpAll_len hd).symm.trans hl) hm
 have R0:Rel ⟨K,P,w,mg⟩ ⟨H,F,none,fun cls d _ H=>E cls d H,none,none⟩ F (st0 N.length ds) (L2.start N vs) H:=rel0 fh hd (by omega)
 rcases hg with hg | ⟨hg,rfl⟩
 ·refine ⟨F,_,_,R0,hg,?_⟩
  cases r with
  | val d=>exact fun v σ' H' F' s1 R1 ok=>q v F' H' R1.gr ok
  | new xs=>exact fun v σ' H' F' s1 R1 ok=>q v F' H' R1.gr ok
  | dct xs=>exact fun v σ' H' F' s1 R1 ok=>q v F' H' R1.gr ok
  | exc x=>exact fun cls d σ' H' F' s1 R1 ok=>qx x rfl cls d F' H' R1.gr ok
 ·exact ⟨F,_,_,R0,hg,fun σ' H' F' s1 R1=>q .non F' H' R1.gr .non⟩
theorem defP {x:Str} {st:Stmt} {n:Nat} {mf:List D→Option RV} (g:SF) (T:Dn K x st dvs f fd) (S:FnScope N ps (defScope st)) (hn:n=ps.length) (hn2:n ≤ N.length)
  (law:∀ ds r,ds.length=n→mf ds=some r→Leaves g (st0 N.length ds) r fun _=>True)
  (body:∀ (C:Ct) (cdv:Value) (A:Around) (outer:List Env) (s:Shared) (H:Hp) (E:XK),Room k (A.deeper (envOfC x (defScope st) s.heap.objs.size f cdv))→(A.deeper (envOfC x (defScope st) s.heap.objs.size f cdv)).guards=some []→
   PSs (cxOf CX P w K mg base N x (defScope st) f cdv A outer s H E).nox (defBody st) (sOf ⟨K,P,w,mg⟩ C g)):FnG P w K mg base CX (k + 1) f fd ps (spP ⟨K,P,w,mg⟩ n mf):=
 defX g T S hn hn2 law fun C cdv A outer s H E _ room guards=>(body C cdv A outer s H E room guards).nox
theorem defQ {x:Str} {st:Stmt} {n:Nat} {mf:List D→List D→Option (RV × List D)} (g:SF) (T:Dn K x st dvs f fd) (S:FnScope N ps (defScope st)) (hn:n=ps.length) (hn2:n ≤ N.length)
  (law:∀ xs ds r,ds.length + 1=n→mf xs ds=some r→Leaves g (st1 N.length xs ds) r.1 fun st'=>st'[0]?=some (.pen r.2))
  (body:∀ (C:Ct) (cdv:Value) (A:Around) (outer:List Env) (s:Shared) (H:Hp) (E:XK),Room k (A.deeper (envOfC x (defScope st) s.heap.objs.size f cdv))→(A.deeper (envOfC x (defScope st) s.heap.objs.size f cdv)).guards=some []→
   PSs (cxOf CX P w K mg base N x (defScope st) f cdv A outer s H E).nox (defBody st) (sOf ⟨K,P,w,mg⟩ C g)):FnG P w K mg base CX (k + 1) f fd ps (spQ ⟨K,P,w,mg⟩ n mf):=by
 refine fnG_ofD T S (fun vs H Q E h=>h.1.trans hn) fun cdv A outer s H vs Q E room guards want=>?_
 obtain ⟨hl,F,p,vs',us,xs,ds,r,rfl,fh,hp,hH,hu,hd,hm,nx,q⟩:=want
 refine ⟨_,(body ⟨H,F,some p,fun cls d _ H=>E cls d H,none,some p⟩ cdv A outer s H E room guards).nox,?_⟩
 have hl':vs'.length + 1=n:=by simpa using hl
 obtain ⟨st',hg,hlast⟩:=law xs ds r (by rw [← DpAll_len hd]; exact hl') hm
 have R0:Rel ⟨K,P,w,mg⟩ ⟨H,F,some p,fun cls d _ H=>E cls d H,none,some p⟩ F (st1 N.length xs ds) (L2.start N (.ref p::vs')) H:=rel1 fh hp hH hu hd (by omega)
 rcases hg with hg | ⟨hg,hr⟩
 ·refine ⟨F,_,_,R0,hg,?_⟩
  have fin:∀ v (σ':L2.St) (H' F':Hp),Same F F'→Rel ⟨K,P,w,mg⟩ ⟨H,F,some p,fun cls d _ H=>E cls d H,none,some p⟩ F' st' σ' H'→RvOk ⟨K,P,w,mg⟩ H F' H' v r.1→Q v H':=fun v σ' H' F' s1 R1 ok=>by
   obtain ⟨a,h1,h2,h3,us',h4,h5⟩:=R1.slot 0 _ hlast
   cases h2.1
   exact q v F' H' us' R1.grP h3 h4 h5 ok
  cases hr:r.1 with
  | val d=>exact fun v σ' H' F' s1 R1 ok=>fin v σ' H' F' s1 R1 (by rw [hr]; exact ok)
  | new xs=>exact fun v σ' H' F' s1 R1 ok=>fin v σ' H' F' s1 R1 (by rw [hr]; exact ok)
  | dct xs=>exact fun v σ' H' F' s1 R1 ok=>fin v σ' H' F' s1 R1 (by rw [hr]; exact ok)
  | exc x=>exact absurd hr (nx x)
 ·refine ⟨F,_,_,R0,hg,fun σ' H' F' s1 R1=>?_⟩
  obtain ⟨a,h1,h2,h3,us',h4,h5⟩:=R1.slot 0 _ hlast
  cases h2.1
  refine q .non F' H' us' R1.grP h3 h4 h5 ?_
  rw [hr]
  exact .non
end
section
variable {K:PySem.W.Frag} {x:Str} {st:Stmt} {f:Addr} {oc kV doc pm cdv ct:Value} {od an:Option Addr} {osl:Array (Option Value)}
theorem dn_mk (l:K.lookup f=some ⟨oc,od,.func (PySem.W.fnOf x x (defArgs st) (defBody st) (defScope st) .none kV doc pm an cdv ct),osl⟩) (c:PySem.W.codeIn K cdv x=true) (k:PySem.W.keepIn K (.ref f)=true) :
  Dn K x st [] f (PySem.W.fnOf x x (defArgs st) (defBody st) (defScope st) .none kV doc pm an cdv ct):=⟨⟨oc,od,.none,kV,doc,pm,an,cdv,ct,osl,rfl,l,c,.inl ⟨rfl,rfl⟩,.inl rfl⟩,k⟩
theorem globI {mg:Str→Option Value} {i:Int} {t:Tok} (m:mg x=some (.int i t)):GlobD K mg x (.int i):=⟨.int i,.int i t,m,⟨t,rfl⟩,fun _ _ F=>.int i⟩
end
end Xm
namespace Xm
open PySem PySem.Spec PyProof.Rows L2
def Rp (d:D):Prop:=d.showable=true∧d.canLay0=true∧d.depth ≤ 64∧d.shown.length ≤ sizeLine
instance (d:D):Decidable (Rp d):=by unfold Rp; infer_instance
def isSeq:D→Bool
 | .list _=>true
 | .tuple _=>true
 | _=>false
mutual
def tupE:D→Bool
 | .none | .bool _ | .int _ | .str _=>true
 | .tuple ds=>tupEs ds
 | .list _=>false
 | .dict kvs=>kvs.isEmpty
def tupEs:List D→Bool
 | []=>true
 | d::ds=>tupE d && tupEs ds
end
def RpG (d:D):Prop:=d.showable=true∧(d.plain=true∨tupE d=true)∧d.depth ≤ 64∧d.shown.length ≤ sizeLine
instance (d:D):Decidable (RpG d):=by unfold RpG; infer_instance
def kRepr (d:D):Option D:=match d with
 | .int i=>if i.natAbs.log2 < 1920 then some (.str (toString i)) else none
 | d=>if isSeq d=true∧Rp d then some (.str d.shown) else if RpG d then some (.str d.shown) else none
theorem rp_g {d:D} (h:Rp d):RpG d:=⟨h.1,.inl (PyData.plain_of_canLay0 d h.2.1),h.2.2.1,h.2.2.2⟩
theorem kRepr_eq {d z:D} (h:kRepr d=some z):(∃ i:Int,d=.int i∧i.natAbs.log2 < 1920∧z=.str (toString i))∨((∀ i,d≠.int i)∧RpG d∧z=.str d.shown):=by
 unfold kRepr at h
 split at h
 ·rename_i i
  split at h <;> cases h
  exact .inl ⟨i,rfl,by assumption,rfl⟩
 ·rename_i hn
  split at h
  ·cases h
   rename_i hr
   exact .inr ⟨fun i e=>hn i e,rp_g hr.2,rfl⟩
  ·split at h <;> cases h
   rename_i hr
   exact .inr ⟨fun i e=>hn i e,hr,rfl⟩
def rReprA (K:Kx):List V→Hp→VK→Prop:=fun xs H Q=>(∃ i,xs=[.int i]∧i.natAbs.log2 < 1920∧Q (.str (toString i)) H)∨∃ v d,xs=[v]∧Dp K H v d∧(∀ i,d≠.int i)∧RpG d∧Q (.str d.shown) H
section
variable {X:Cx} {pins:List (Addr × Obj)} {σ:L2.St} {H:Hp} {s:Shared}
mutual
theorem Dp.readsE (I:Inv X pins σ H s):∀ (d:D) (v:V) (u:Value),tupE d=true→Dp (kxOf X) H v d→RelV v u→∃ as,Reads s.heap u d as∧sysModules ∉ as
 | .none,_,_,_,h,r=>by
  cases h
  cases r
  exact ⟨_,Reads.none,by simp⟩
 | .bool b,_,_,_,h,r=>by
  cases h
  cases r
  exact ⟨_,Reads.bool b,by simp⟩
 | .int i,_,_,_,h,r=>by
  cases h
  obtain ⟨t,rfl⟩:=r
  exact ⟨_,Reads.int i t,by simp⟩
 | .str x,_,_,_,h,r=>by
  cases h
  obtain ⟨t,rfl⟩:=r
  exact ⟨_,Reads.str x t,by simp⟩
 | .list ds,_,_,c,_,_=>by simp [tupE] at c
 | .tuple ds,_,_,c,h,r=>by
  cases h with
  | tup hs ha=>
   cases r
   obtain ⟨its,rv,⟨o,ho,hc,n,hd⟩,_⟩:=I.tuple hs.sq
   obtain ⟨as,hr,hn⟩:=Dp.readsEs I ds _ its (by simpa [tupE] using c) ha rv
   exact ⟨_,Reads.tuple ho hc hd hr,hn⟩
 | .dict kvs,_,_,c,h,r=>by
  have c2:kvs=[]:=by simpa [tupE] using c
  subst c2
  cases h with
  | @dtp a od rows _ ks vs ws h1 e1 e2 hl hk hd e3 h2 h3=>
   cases r
   subst e1
   have hrows:rows=[]:=by
    cases rows with
    | nil=>rfl
    | cons r rs=>simp [keysOf] at hk
   subst hrows
   obtain ⟨⟨hsm,_,o,es,ep,xs,g1,g2,g3,g4,g5⟩,_⟩:=rd_ok I (.inr ⟨_,h1⟩)
   cases g5
   have hes:es.toList=[]:=g4
   refine ⟨_,Reads.dict g1 g2.1 g3 (as:=[]) (bs:=[]) (by rw [hes]; exact .nil) (by rw [hes]; exact .nil),?_⟩
   simp only [List.nil_append,List.append_nil,List.mem_singleton]
   intro z
   rw [← z] at hsm
   simp at hsm
  | @dky a od ps _ vs h1 e1 e2 hl h2=>
   cases r
   have hps:ps=[]:=by
    cases ps with
    | nil=>rfl
    | cons p ps=>simp at e1
   subst hps
   obtain ⟨_,hsm,vs,kv,o,es,ep,g1,g2,g3,g4⟩:=dk_rd I.hok (.inr ⟨_,h1⟩)
   cases kv
   have hes:es.toList=[]:=by
    have g5:=g4.2.1
    generalize es.toList=l at g5
    cases g5
    rfl
   refine ⟨_,Reads.dict g1 g2.1 g3 (as:=[]) (bs:=[]) (by rw [hes]; exact .nil) (by rw [hes]; exact .nil),?_⟩
   simp only [List.nil_append,List.append_nil,List.mem_singleton]
   intro z
   rw [← z] at hsm
   simp at hsm
theorem Dp.readsEs (I:Inv X pins σ H s):∀ (ds:List D) (vs:List V) (us:List Value),tupEs ds=true→DpAll (kxOf X) H vs ds→Vals vs us→∃ as,ReadsAll s.heap us ds as∧sysModules ∉ as
 | [],_,_,_,h,r=>by
  cases h
  cases r
  exact ⟨_,ReadsAll.nil,by simp⟩
 | d::ds,_,_,c,h,r=>by
  have c2:tupE d=true∧tupEs ds=true:=by simpa [tupEs] using c
  cases h with
  | cons h1 h2=>
   cases r with
   | cons r1 r2=>
    obtain ⟨as,q1,n1⟩:=Dp.readsE I d _ _ c2.1 h1 r1
    obtain ⟨bs,q2,n2⟩:=Dp.readsEs I ds _ _ c2.2 h2 r2
    exact ⟨_,ReadsAll.cons q1 q2,by simp [n1,n2]⟩
end
mutual
theorem hasDict_plain:∀ d:D,d.plain=true→d.hasDict=false
 | .none,_=>rfl
 | .bool _,_=>rfl
 | .int _,_=>rfl
 | .str _,_=>rfl
 | .list xs,h=>by simpa [PyData.hasDict] using hasDict_plains xs (by simpa [PyData.plain] using h)
 | .tuple xs,h=>by simpa [PyData.hasDict] using hasDict_plains xs (by simpa [PyData.plain] using h)
 | .dict _,h=>by simp [PyData.plain] at h
theorem hasDict_plains:∀ ds:List D,PyData.plainAll ds=true→PyData.hasDictAll ds=false
 | [],_=>rfl
 | d::ds,h=>by
  have c2:d.plain=true∧PyData.plainAll ds=true:=by simpa [PyData.plainAll] using h
  simp [PyData.hasDictAll,hasDict_plain d c2.1,hasDict_plains ds c2.2]
end
end
theorem Room.u200 {k:Nat} {A:Around} (r:Room k A):A.units + 200 < cLine:=by have:=r.un; omega
section
variable {X:Cx} {C:Ct} {pos p:Pos} {a:Expr} {f:EF}
theorem call_reprA (hu:X.A.units + 200 < cLine) (gd:X.A.guards=some []):CallR X (.builtin "repr") (rReprA (kxOf X)):=by
 intro pins s σ H xs us Q I r h
 rcases h with ⟨i,rfl,hz,q⟩ | ⟨v,d,rfl,hd,hni,⟨h1,h2,h3,h4⟩,q⟩
 ·obtain ⟨u,rfl,t,rfl⟩:=vals1 r
  exact PySem.P.repr_of_int hz ⟨.str _,H,I.tok _,⟨_,rfl⟩,q⟩
 ·obtain ⟨u,rfl,rx⟩:=vals1 r
  have rd:∃ as,Reads s.heap u d as∧(d.hasDict=true→sysModules ∉ as):=by
   rcases h2 with h2 | h2
   ·obtain ⟨as,e⟩:=Dp.reads I d v u h2 hd rx
    exact ⟨as,e,fun z=>by rw [hasDict_plain d h2] at z; cases z⟩
   ·obtain ⟨as,e,n⟩:=Dp.readsE I d v u h2 hd rx
    exact ⟨as,e,fun _=>n⟩
  obtain ⟨as,rd,hsm⟩:=rd
  cases v with
  | ref a=>
   cases rx
   refine repr_of_reads' rd h1 hsm gd (by omega) (fun b o e=>e) (fun h' u tk kept=>?_) h4
   exact ⟨.str d.shown,H,I.kept (t':=tk) kept,⟨_,rfl⟩,q⟩
  | non=>
   cases rx
   cases hd
   exact PySem.P.repr_of_none ⟨.str _,H,I.tok _,⟨_,rfl⟩,q⟩
  | bl b=>
   cases rx
   cases hd
   exact PySem.P.repr_of_bool ⟨.str _,H,I.tok _,⟨_,rfl⟩,q⟩
  | int i=>
   cases hd
   exact absurd rfl (hni i)
  | str x=>
   obtain ⟨t,rfl⟩:=rx
   cases hd
   exact PySem.P.repr_of_str ⟨.str _,H,I.tok _,⟨_,rfl⟩,q⟩ h4
  | byt b=>cases hd
  | flt b=>cases hd
  | ty n=>cases hd
theorem xd_repr (hu:X.A.units + 200 < cLine) (gd:X.A.guards=some []) (hm:X.mg "repr" = none) (ha:PE X a (dOf (kxOf X) C f)) (hg:Gl X "repr" := by rfl) (he:starEach [a] X.env=(false,eval a X.env)::starEach [] X.env:=by rfl):PE X (.Call (.Name "repr" p) [a] [] pos) (dOf (kxOf X) C (un1 kRepr f)):=
 xd_b1 (call_reprA hu gd) (fun F H x d z Q fh hx e q=>by
  rcases kRepr_eq e with ⟨i,rfl,hi,rfl⟩ | ⟨hn,hr,rfl⟩
  ·exact .inl ⟨_,by rw [dp_int hx],hi,q _ F H (Gr.refl fh) (.str _)⟩
  ·exact .inr ⟨x,d,rfl,Dp_up hx fh,hn,hr,q _ F H (Gr.refl fh) (.str _)⟩) hm (by decide +kernel) ha hg (he:=he)
end
def arr {α:Type} (z:α) (src:List (Nat ⊕ Nat)) (us ws:List α):List α:=src.map fun x=>match x with
 | .inl j=>us.getD j z
 | .inr j=>ws.getD j z
theorem vals_getD {vs:List V} {us:List Value} (r:Vals vs us) (j:Nat):RelV (vs.getD j .non) (us.getD j .none):=by
 induction r generalizing j with
 | nil=>rfl
 | cons h t ih=>cases j with
  | zero=>exact h
  | succ j=>exact ih j
theorem vals_arr {vs zs:List V} {us ws:List Value} (r:Vals vs us) (s:Vals zs ws):∀ src:List (Nat ⊕ Nat),Vals (arr .non src vs zs) (arr .none src us ws)
 | []=>.nil
 | .inl j::src=>.cons (vals_getD r j) (vals_arr r s src)
 | .inr j::src=>.cons (vals_getD s j) (vals_arr r s src)
theorem dpa_getD {K:Kx} {F:Hp} {vs:List V} {ds:List D} (r:DpAll K F vs ds) (j:Nat):Dp K F (vs.getD j .non) (ds.getD j .none):=by
 cases h:ds[j]? with
 | none=>
  have h1:ds.length ≤ j:=List.getElem?_eq_none_iff.mp h
  have h2:vs.length ≤ j:=by rw [DpAll_len r]; exact h1
  rw [List.getD_eq_getElem?_getD,List.getD_eq_getElem?_getD,h,List.getElem?_eq_none_iff.mpr h2]
  exact .non
 | some d=>
  obtain ⟨v,h1,h2⟩:=DpAll_get r h
  rw [List.getD_eq_getElem?_getD,List.getD_eq_getElem?_getD,h,h1]
  exact h2
theorem dpa_arr {K:Kx} {F:Hp} {vs zs:List V} {ds es:List D} (r:DpAll K F vs ds) (s:DpAll K F zs es):∀ src:List (Nat ⊕ Nat),DpAll K F (arr .non src vs zs) (arr .none src ds es)
 | []=>.nil
 | .inl j::src=>.cons (dpa_getD r j) (dpa_arr r s src)
 | .inr j::src=>.cons (dpa_getD s j) (dpa_arr r s src)
structure HasK (P:Program) (w:World) (K:PySem.W.Frag) (mg:Str→Option Value) (base:Heap) (k:Nat) (x:Str) (m:Nat) (n:Nat) (ks:List Str) (src:List (Nat ⊕ Nat)) (mf:List D→Option RV):Prop where
 ex:∃ (f:Addr) (fd:FuncData) (ps:List Str),FnG P w K mg base (CXM P w) k f fd ps (spP ⟨K,P,w,mg⟩ m mf)∧mg x=some (.ref f)∧PySem.W.keepIn K (.ref f)=true∧src.length=m∧
  ∀ (s:Shared) (us ws:List Value),K.In s.heap→us.length=n→ws.length=ks.length→BindsTo s fd ⟨us,ks.zip ws⟩ (ps.zip (arr .none src us ws))
def callK (mf:List D→Option RV) (src:List (Nat ⊕ Nat)) (g h:LF):AS→Option (RV × AS):=fun st=>(g st).bind fun a=>(h a.2).bind fun b=>(mf (arr .none src a.1 b.1)).map fun r=>(r,b.2)
def tCallX (sp:Sp) (src:List (Nat ⊕ Nat)) (n m:Nat) (t tk:TA):TE:=fun σ H Q=>t σ H fun vs H1=>tk σ H1 fun zs H2=>vs.length=n∧zs.length=m∧sp (arr .non src vs zs) H2 Q E0
theorem callK_d {K:Kx} {C:Ct} {mf:List D→Option RV} {src:List (Nat ⊕ Nat)} {g h:LF} {n m:Nat} {σ:L2.St} {H:Hp} {Q:VK} (hn:ArN g n) (hm:ArN h m) (q:dOf K C (rvD (callK mf src g h)) σ H Q):tCallX (spP K src.length mf) src n m (aOf K C g) (aOf K C h) σ H Q:=by
 obtain ⟨F,st,w,R,e,q⟩:=q
 obtain ⟨c,ec,e⟩:=Option.bind_eq_some_iff.mp e
 obtain ⟨a,ea,ec⟩:=Option.bind_eq_some_iff.mp ec
 obtain ⟨b,eb,ec⟩:=Option.bind_eq_some_iff.mp ec
 obtain ⟨r,er,ec⟩:=Option.map_eq_some_iff.mp ec
 cases ec
 refine ⟨F,st,a,R,ea,fun vs H1 F1 s1 R1 d1=>⟨F1,a.2,b,R1,eb,fun zs H2 F2 s2 R2 d2=>?_⟩⟩
 have dd:=dpa_arr (DpAll_up d1 s2) d2 src
 refine ⟨by rw [DpAll_len d1]; exact hn st a ea,by rw [DpAll_len d2]; exact hm a.2 b eb,by unfold arr; rw [List.length_map],F2,_,r,R2.fh,dd,er,fun v F3 H3 gr ok=>?_,fun x hx=>by subst hx; cases e⟩
 have R3:=R2.grow gr
 cases r with
 | val d=>cases e; exact q v H3 F3 ((s1.trans s2).trans gr.ff) R3 ok
 | exc x=>cases e
 | dct kvs=>cases e
 | new xs=>
  cases e
  obtain ⟨p,rfl,hp,hF,us,hH,hu⟩:=ok
  obtain ⟨A,_⟩:=R2.aside hp
  obtain ⟨k1,k2,k3⟩:=R3.freezeNew A.h0 hF hH (fun j hj=>A.ap j hj) hu
  exact q _ H3 _ (((s1.trans s2).trans gr.ff).trans k1) k2 k3
section
variable {X:Cx} {C:Ct} {j k n m:Nat} {x:Str} {p pos kpos:Pos} {e:Expr} {es:List Expr} {kws:List Keyword} {g h:LF} {f:EF} {mf:List D→Option RV} {ks:List Str} {src:List (Nat ⊕ Nat)} {nm:Option Str}
theorem pk_wk {t t':TA} (h:PK X kws t) (w:∀ σ H Q,t' σ H Q→t σ H Q):PK X kws t':=⟨fun pos pins s σ H Q I q=>h.run pos pins s σ H Q I (w σ H Q q)⟩
theorem xk_nil:PK X [] (aOf (kxOf X) C nilA):=pk_wk pk_nil fun σ H Q q=>by
 obtain ⟨F,st,w,R,e,q⟩:=q
 cases e
 exact q [] H F (Same.refl _) R .nil
theorem xk_cons (ha:PE X e (dOf (kxOf X) C f)) (hr:PK X kws (aOf (kxOf X) C g)):PK X (⟨nm,e,kpos⟩::kws) (aOf (kxOf X) C (consA f g)):=pk_wk (pk_cons ha hr) fun σ H Q q=>by
 obtain ⟨F,st,w,R,e,q⟩:=q
 obtain ⟨a,ea,e⟩:=Option.bind_eq_some_iff.mp e
 obtain ⟨b,eb,e⟩:=Option.map_eq_some_iff.mp e
 cases e
 refine ⟨F,st,a,R,ea,fun v H1 F1 s1 R1 d1=>?_⟩
 exact ⟨F1,a.2,b,R1,eb,fun vs H2 F2 s2 R2 d2=>q (v::vs) H2 F2 (s1.trans s2) R2 (.cons (Dp_up d1 s2) d2)⟩
theorem runGK {f:Addr} {fd:FuncData} {ps:List Str} {sp:Sp} {pins:List (Addr × Obj)} {σ:L2.St} {H:Hp} {s:Shared} {Q:VK} {us ws rs:List Value} {vs:List V} (G:FnG X.prog X.w X.K X.mg X.base (CXM X.prog X.w) k f fd ps sp) (hr:Room k X.A) (gd:X.A.guards=some [])
  (hb:BindsTo s fd ⟨us,ks.zip ws⟩ (ps.zip rs)) (I:Inv X pins σ H s) (r:Vals vs rs) (h:sp vs H Q E0):wpAny (model X.prog X.w) X.A (call (.ref f) us (ks.zip ws)) (EP X pins σ Q) X.xe s:=by
 refine wpAny_call (codeAny_mono (G.go X.A X.stack s H ⟨us,ks.zip ws⟩ rs vs Q E0 hr gd I.env0 hb r h) fun res s' hq=>?_)
 match res,hq with
 | .error e,hq=>exact passL pins σ H s e s' I hq
 | .ok (.ret u),hq=>exact I.after hq
theorem xd_callK0 (hh:HasK X.prog X.w X.K X.mg X.base j x m 0 ks src mf) (hr:Room k X.A) (gd:X.A.guards=some []) (hjk:j ≤ k) (hkw:PK X kws (aOf (kxOf X) C h)) (hm:ArN h ks.length) (hg:Gl X x:=by rfl)
  (hall:(backToKw pos (keywordEach kws X.env)).all (·.1.isSome)=true:=by rfl) (hks:(backToKw pos (keywordEach kws X.env)).filterMap (·.1)=ks:=by rfl) (hdb:(x == ("__debug__" : Str))=false:=by decide)
  (hpl:((backTo pos (starEach [] X.env)).any (·.1) || (backToKw pos (keywordEach kws X.env)).any (·.1.isNone))=false:=by rfl) :
  PE X (.Call (.Name x p) [] kws pos) (dOf (kxOf X) C (rvD (callK mf src nilA h))):=by
 obtain ⟨f,fd,ps,G,hmg,hk,hsrc,hb⟩:=hh.ex
 subst hsrc
 refine pe_wk (t:=tCallX (spP (kxOf X) src.length mf) src 0 ks.length (aOf (kxOf X) C nilA) (aOf (kxOf X) C h)) ⟨fun pins s σ H Q I q=>?_⟩ fun _ _ _ q=>callK_d ar_nil hm q
 obtain ⟨F,st,w,R,e,q⟩:=q
 cases e
 have q0:=q [] H F (Same.refl _) R .nil
 refine wpAny_Call_Name_kw (ld_glob I hg hmg ?_ hdb)
 refine PySem.W.callWith_KW0 (h₀:=X.base) I.ok.mod.kin hk hall (thn (hkw.run pos pins s σ H _ I q0) fun ws s2 ⟨zs,H2,I2,rz,l1,l2,q2⟩=>⟨I2.kIn,?_⟩) hpl
 rw [hks]
 exact runGK (us:=[]) G (hr.mono hjk) gd (hb s2 [] ws I2.kIn rfl (rz.length.symm.trans l2)) I2 (vals_arr .nil rz src) q2
end
theorem dn_kw {K:PySem.W.Frag} {x:Str} {st:Stmt} {f:Addr} {fd:FuncData} {ps ks:List Str} {src:List (Nat ⊕ Nat)} {n:Nat} (T:Dn K x st [] f fd)
  (h:∀ (kV doc pm:Value) (an:Option Addr) (cdv ct:Value) (us ws:List Value),us.length=n→ws.length=ks.length→bindArgs (PySem.W.fnOf x x (defArgs st) (defBody st) (defScope st) .none kV doc pm an cdv ct) ⟨us,ks.zip ws⟩=pure (ps.zip (arr .none src us ws))) :
  ∀ (s:Shared) (us ws:List Value),K.In s.heap→us.length=n→ws.length=ks.length→BindsTo s fd ⟨us,ks.zip ws⟩ (ps.zip (arr .none src us ws)):=by
 obtain ⟨oc,od,dV,kV,doc,pm,an,cdv,ct,osl,rfl,lk,hcd,hD,hK⟩:=T.ex
 rcases hD with ⟨_,rfl⟩ | ⟨e,_⟩
 ·exact fun s us ws _ l1 l2=>.of_eq (h kV doc pm an cdv ct us ws l1 l2)
 ·exact absurd rfl e
end Xm
namespace Xm
open PySem PySem.Spec PyProof.Rows L2
def bN (k:List D→Option D) (g:LF):EF:=fun st=>(g st).bind fun a=>(k a.1).map fun z=>(z,a.2)
def OkN (K:Kx) (r:List V→Hp→VK→Prop) (k:List D→Option D):Prop:=
 ∀ (F H:Hp) (vs:List V) (ds:List D) (z:D) (Q:VK),Same F H→DpAll K F vs ds→k ds=some z→(∀ v F' H',Gr F H F' H'→Dp K F' v z→Q v H')→r vs H Q
section
variable {X:Cx} {C:Ct} {pos p:Pos} {e:Expr} {es:List Expr} {g:LF}
theorem xd_bN {id:String} {x:Str} {r:List V→Hp→VK→Prop} {k:List D→Option D} (hc:CallR X (.builtin id) r) (ok:OkN (kxOf X) r k) (hm:X.mg x=none) (hv:bootBuiltins x=some (.builtin id)) (ha:PA X (e::es) (aOf (kxOf X) C g))
  (hg:Gl X x) (hn:x ≠ "__name__" := by decide) (hdb:(x == ("__debug__" : Str))=false:=by decide)
  (he:starEach (e::es) X.env=(false,eval e X.env)::starEach es X.env:=by rfl) (hpl:(backTo pos (starEach es X.env)).any (·.1)=false:=by rfl):PE X (.Call (.Name x p) (e::es) [] pos) (dOf (kxOf X) C (bN k g)):=
 pe_wk (pe_callB hc hg hm hv ha hn hdb he hpl) fun σ H Q q=>by
  obtain ⟨F,st,w,R,e,q⟩:=q
  obtain ⟨a,ea,e⟩:=Option.bind_eq_some_iff.mp e
  obtain ⟨z,ez,e⟩:=Option.map_eq_some_iff.mp e
  cases e
  exact ⟨F,st,a,R,ea,fun vs H1 F1 s1 R1 d1=>ok F1 H1 vs a.1 z Q R1.fh d1 ez fun v F2 H2 gr hv=>q v H2 F2 (s1.trans gr.ff) (R1.grow gr) hv⟩
end
def kMin2:List D→Option D
 | [.int i,.int j]=>some (.int (if j < i then j else i))
 | _=>none
def kMax2:List D→Option D
 | [.int i,.int j]=>some (.int (if j > i then j else i))
 | _=>none
theorem dpa2 {K:Kx} {F:Hp} {vs:List V} {i j:Int} (h:DpAll K F vs [.int i,.int j]):vs=[.int i,.int j]:=by
 cases h with
 | cons h1 h=>
  cases h with
  | cons h2 h=>
   cases h
   rw [dp_int h1,dp_int h2]
section
variable {X:Cx} {C:Ct} {pos p:Pos} {a b:Expr} {f:EF} {g:LF}
theorem xd_max2 (hcl:X.calm=true) (hm:X.mg "max" = none) (ha:PA X [a,b] (aOf (kxOf X) C g)) (hg:Gl X "max" := by rfl) (he:starEach [a,b] X.env=(false,eval a X.env)::starEach [b] X.env:=by rfl) (hpl:(backTo pos (starEach [b] X.env)).any (·.1)=false:=by rfl) :
  PE X (.Call (.Name "max" p) [a,b] [] pos) (dOf (kxOf X) C (bN kMax2 g)):=xd_bN (call_max2 hcl) (fun F H vs ds z Q fh hd ez q=>by
 unfold kMax2 at ez
 split at ez <;> cases ez
 exact ⟨_,_,dpa2 hd,q _ F H (Gr.refl fh) (.int _)⟩) hm (by decide +kernel) ha hg (he:=he) (hpl:=hpl)
end
section
variable {X:Cx} {C:Ct} {pos p:Pos} {a:Expr} {f:EF}
end
def unpT (n:Nat) (w:List D→AS→Option AS):D→AS→Option AS:=fun d st=>match d with
 | .tuple ds=>if ds.length=n then w ds st else none
 | .list ds=>if ds.length=n then w ds st else none
 | _=>none
section
variable {X:Cx} {C:Ct} {pos:Pos} {es:List Expr}
theorem xg_unp {k n:Nat} {ts:List Nat} {w:List D→AS→Option AS} (h:PGs X es (gsOf (kxOf X) C w ts)) (hc:X.calm=true:=by rfl)
  (hn:(assignEach es X.env).length=n:=by rfl) (hst:(assignEach es X.env).findIdx? (·.1)=none:=by rfl):PG X (.Tuple es k pos) (gOf (kxOf X) C (unpT n w) ts):=by
 refine ⟨fun pins s σ H v u Q I r q=>?_⟩
 obtain ⟨F,st,d,st',R,hd,e,q⟩:=q
 unfold unpT at e
 split at e
 ·split at e
  ·rename_i ds hl
   cases hd with
   | tup hs hv=>exact (pg_tup hc h hn hst).run pins s σ H _ u Q I r ⟨_,_,rfl,sqt_up R.fh hs,by rw [DpAll_len hv]; exact hl,F,st,ds,st',R,hv,e,q⟩
  ·cases e
 ·split at e
  ·rename_i ds hl
   cases hd with
   | lst hs hv=>exact (pg_unl hc h hn hst).run pins s σ H _ u Q I r ⟨_,_,rfl,sql_up R.fh hs,by rw [DpAll_len hv]; exact hl,F,st,ds,st',R,hv,e,q⟩
  ·cases e
 ·cases e
end
section
variable {X:Cx}
end
theorem dpa_rep {K:Kx} {F:Hp} {vs:List V} {ds:List D} (h:DpAll K F vs ds):∀ n:Nat,DpAll K F (List.replicate n vs).flatten (List.replicate n ds).flatten
 | 0=>.nil
 | n + 1=>by
  rw [List.replicate_succ,List.replicate_succ,List.flatten_cons,List.flatten_cons]
  exact DpAll_app h (dpa_rep h n)
section
variable {X:Cx} {C:Ct} {pos:Pos} {a b:Expr} {f g:EF}
end
end Xm
namespace Xm
open PySem PySem.Spec PyProof.Rows L2
def npB:Slot→Bool
 | .pen _=>false
 | _=>true
def npO:Option Slot→Bool
 | some s=>npB s
 | none=>false
section
variable {f g:EF} {u v c:BF} {a b:LF} {s t:SF} {st:AS} {i j l:Nat} {k:D→D→Option D} {h:D→Option D} {d:D}
@[simp] theorem e_cst:cst d st=some (d,st):=rfl
@[simp] theorem e_rd:rd i st=(match st[i]? with
 | some (.dat d)=>some (d,st)
 | some (.own xs)=>some (.list xs,st.set i (.dat (.list xs)))
 | _=>none):=rfl
@[simp] theorem e_bin2:bin2 k f g st=(f st).bind fun a=>(g a.2).bind fun b=>(k a.1 b.1).map fun z=>(z,b.2):=rfl
@[simp] theorem e_un1:un1 h f st=(f st).bind fun a=>(h a.1).map fun z=>(z,a.2):=rfl
@[simp] theorem e_nilA:nilA st=some ([],st):=rfl
@[simp] theorem e_consA:consA f a st=(f st).bind fun x=>(a x.2).map fun y=>(x.1::y.1,y.2):=rfl
@[simp] theorem e_tupF:tupF a st=(a st).bind fun b=>if b.1.length ≤ sizeLine then some (.tuple b.1,b.2) else none:=rfl
@[simp] theorem e_lstF:lstF a st=(a st).bind fun b=>if b.1.length ≤ sizeLine then some (.list b.1,b.2) else none:=rfl
@[simp] theorem e_newF:newF a st=(a st).bind fun b=>if b.1.length ≤ sizeLine then some b else none:=rfl
@[simp] theorem e_muC:muC st i=(match st[i]? with
 | some (.own xs)=>some xs
 | some (.pen xs)=>some xs
 | _=>none):=rfl
@[simp] theorem e_putM {xs:List D}:putM st i xs=(match st[i]? with
 | some (.own _)=>st.set i (.own xs)
 | some (.pen _)=>st.set i (.pen xs)
 | _=>st):=rfl
@[simp] theorem e_ixM:ixM i g st=(muC st i).bind fun _=>(g st).bind fun b=>(muC b.2 i).bind fun xs=>(kIx (.list xs) b.1).map fun z=>(z,b.2):=rfl
@[simp] theorem e_lenM:lenM i st=(muC st i).map fun xs=>(.int xs.length,st):=rfl
@[simp] theorem e_valB:valB f st=(f st).bind fun a=>(match a.1 with
 | .bool b=>some (b,a.2)
 | _=>none):=rfl
@[simp] theorem e_andB:andB u v st=(u st).bind fun a=>if a.1=true then v a.2 else some (false,a.2):=rfl
@[simp] theorem e_orB:orB u v st=(u st).bind fun a=>if a.1=true then some (true,a.2) else v a.2:=rfl
@[simp] theorem e_notB:notB u st=(u st).map fun a=>(!a.1,a.2):=rfl
@[simp] theorem e_boolE:boolE u st=(u st).map fun a=>(.bool a.1,a.2):=rfl
@[simp] theorem e_ifE:ifE c f g st=(c st).bind fun a=>if a.1=true then f a.2 else g a.2:=rfl
@[simp] theorem e_seqS:seqS s t st=(s st).bind fun w=>(match w.1 with
 | .nx=>t w.2
 | _=>some w):=rfl
@[simp] theorem e_skipS:skipS st=some (.nx,st):=rfl
@[simp] theorem e_retS:retS f st=(f st).map fun a=>(.ret (.val a.1),a.2):=rfl
@[simp] theorem e_retN:retN a st=(a st).map fun a=>(.ret (.new a.1),a.2):=rfl
@[simp] theorem e_dropS:dropS f st=(f st).map fun a=>(.nx,a.2):=rfl
@[simp] theorem e_ifS:ifS c s t st=(c st).bind fun a=>if a.1=true then s a.2 else t a.2:=rfl
@[simp] theorem npO_some {s:Slot}:npO (some s)=npB s:=rfl
@[simp] theorem npB_no:npB .no=true:=rfl
@[simp] theorem npB_dat:npB (.dat d)=true:=rfl
@[simp] theorem npB_own {xs:List D}:npB (.own xs)=true:=rfl
@[simp] theorem e_setD:setD i d st=if npO st[i]?=true then some (st.set i (.dat d)) else none:=by
 unfold setD
 cases h:st[i]? with
 | none=>rfl
 | some s=>cases s <;> rfl
@[simp] theorem e_setO {xs:List D}:setO i xs st=if npO st[i]?=true then some (st.set i (.own xs)) else none:=by
 unfold setO
 cases h:st[i]? with
 | none=>rfl
 | some s=>cases s <;> rfl
@[simp] theorem e_asgS:asgS i f st=(f st).bind fun a=>(setD i a.1 a.2).map fun st'=>(.nx,st'):=rfl
@[simp] theorem e_asgN:asgN i a st=(a st).bind fun b=>(setO i b.1 b.2).map fun st'=>(.nx,st'):=rfl
@[simp] theorem e_setM:setM i f g st=(muC st i).bind fun _=>(f st).bind fun a=>(muC a.2 i).bind fun _=>(g a.2).bind fun b=>(muC b.2 i).bind fun xs=>(match b.1 with
 | .int k=>(ixN xs.length k).map fun j=>(.nx,putM b.2 i (xs.set j a.1))
 | _=>none):=rfl
@[simp] theorem e_par2:par2 i j a st=(a st).bind fun a=>(match a.1 with
 | [x,y]=>(setD i x a.2).bind fun s1=>(setD j y s1).map fun s2=>(.nx,s2)
 | _=>none):=rfl
@[simp] theorem e_par3:par3 i j l a st=(a st).bind fun a=>(match a.1 with
 | [x,y,z]=>(setD i x a.2).bind fun s1=>(setD j y s1).bind fun s2=>(setD l z s2).map fun s3=>(.nx,s3)
 | _=>none):=rfl
@[simp] theorem e_callP {mf:List D→Option RV} {dvs:List D}:callP mf dvs a st=(a st).bind fun a=>(mf (a.1++dvs)).map fun r=>(r,a.2):=rfl
@[simp] theorem e_callQ {mf:List D→List D→Option (RV × List D)}:callQ mf i a st=(muC st i).bind fun _=>(a st).bind fun a=>(muC a.2 i).bind fun xs=>(mf xs a.1).map fun r=>(r.1,putM a.2 i r.2):=rfl
@[simp] theorem e_rvD {c:AS→Option (RV × AS)}:rvD c st=(c st).bind fun r=>(match r.1 with
 | .val d=>some (d,r.2)
 | .new xs=>some (.list xs,r.2)
 | .dct _=>none
 | .exc _=>none):=rfl
@[simp] theorem e_rvN {c:AS→Option (RV × AS)}:rvN c st=(c st).bind fun r=>(match r.1 with
 | .new xs=>some (xs,r.2)
 | _=>none):=rfl
@[simp] theorem e_yesB:yesB st=some (true,st):=rfl
@[simp] theorem e_listE:listE a st=(a st).map fun a=>(.list a.1,a.2):=rfl
@[simp] theorem e_st0 {n:Nat} {ds:List D}:st0 n ds=ds.map Slot.dat++List.replicate (n - ds.length) Slot.no:=rfl
@[simp] theorem e_st1 {n:Nat} {xs ds:List D}:st1 n xs ds=Slot.pen xs::(ds.map Slot.dat++List.replicate (n - ds.length - 1) Slot.no):=rfl
@[simp] theorem e_itD:itD f st=(f st).bind fun a=>(match a.1 with
 | .list xs=>some (xs,a.2)
 | .tuple xs=>some (xs,a.2)
 | _=>none):=rfl
@[simp] theorem e_noO:noO st=some (none,st):=rfl
@[simp] theorem e_someO:someO f st=(f st).bind fun a=>(match a.1 with
 | .int i=>some (some i,a.2)
 | _=>none):=rfl
@[simp] theorem e_cutF {x y:OF}:cutF f x y st=(f st).bind fun a=>(x a.2).bind fun l=>(y l.2).bind fun h=>(match a.1 with
 | .list xs=>some (.list (cutX xs l.1 h.1),h.2)
 | .tuple xs=>some (.tuple (cutX xs l.1 h.1),h.2)
 | _=>none):=rfl
@[simp] theorem e_itR1:itR1 f st=(f st).bind fun a=>(match a.1 with
 | .int j=>if -(2 ^ 62) ≤ j∧j < 2 ^ 62 then some (rngD 0 j,a.2) else none
 | _=>none):=rfl
@[simp] theorem e_revF:revF f st=(f st).bind fun a=>(match a.1 with
 | .list xs=>some (.list xs.reverse,a.2)
 | _=>none):=rfl
end
section
variable {i j:Int} {a b:D} {xs ys:List D}
@[simp] theorem k_add:kAdd (.int i) (.int j)=some (.int (i + j)):=rfl
@[simp] theorem k_cat:kCat (.int i) (.int j)=some (.int (i + j)):=rfl
@[simp] theorem k_sub:kSub (.int i) (.int j)=some (.int (i - j)):=rfl
@[simp] theorem k_lt:kLt (.int i) (.int j)=some (.bool (decide (i < j))):=rfl
@[simp] theorem k_le:kLe (.int i) (.int j)=some (.bool (decide (i ≤ j))):=rfl
@[simp] theorem k_gt:kGt (.int i) (.int j)=some (.bool (decide (j < i))):=rfl
@[simp] theorem k_ge:kGe (.int i) (.int j)=some (.bool (decide (j ≤ i))):=rfl
@[simp] theorem k_neg:kNeg (.int i)=some (.int (-i)):=rfl
@[simp] theorem k_abs:kAbs (.int i)=some (.int (i.natAbs:Int)):=by
 show some (PyData.int (if i < 0 then -i else i))=_
 congr 2
 split <;> omega
@[simp] theorem k_lenL:kLen (.list xs)=some (.int xs.length):=rfl
@[simp] theorem k_lenT:kLen (.tuple xs)=some (.int xs.length):=rfl
@[simp] theorem k_list:kList (.list xs)=some (.list xs):=rfl
@[simp] theorem k_listT:kList (.tuple xs)=some (.list xs):=rfl
@[simp] theorem k_tupL:kTuple (.list xs)=some (.tuple xs):=rfl
@[simp] theorem k_tupT:kTuple (.tuple xs)=some (.tuple xs):=rfl
@[simp] theorem k_intB {x:Bool}:kInt (.bool x)=some (.int (if x then 1 else 0)):=rfl
@[simp] theorem k_eqStr {x y:Str}:kEq (.str x) (.str y)=some (.bool (decide (x=y))):=rfl
@[simp] theorem k_neStr {x y:Str}:kNe (.str x) (.str y)=some (.bool (!decide (x=y))):=rfl
@[simp] theorem k_eqI:kEq (.int i) (.int j)=some (.bool (i == j)):=by
 show kEqD _ _=_
 unfold kEqD
 rw [if_pos ⟨rfl,rfl⟩]
 simp only [PyData.eqv]
@[simp] theorem k_neI:kNe (.int i) (.int j)=some (.bool (!(i == j))):=by
 show kNeD _ _=_
 unfold kNeD
 rw [if_pos ⟨rfl,rfl⟩]
 simp only [PyData.eqv]
theorem k_mod (h:j≠0):kMod (.int i) (.int j)=some (.int (i.fmod j)):=if_pos h
@[simp] theorem ix_L:kIx (.list xs) (.int i)=atI xs i:=rfl
@[simp] theorem ix_T:kIx (.tuple xs) (.int i)=atI xs i:=rfl
end
section
variable {α:Type} {x y z:α} {l:List α}
@[simp] theorem at_0:atI (x::l) 0=some x:=atI_nat (j:=0) rfl
@[simp] theorem at_1:atI (x::y::l) 1=some y:=atI_nat (j:=1) rfl
@[simp] theorem at_2:atI (x::y::z::l) 2=some z:=atI_nat (j:=2) rfl
theorem at_n {n:Nat} {xs:List α} (h:xs[n]?=some x):atI xs (n:Int)=some x:=atI_nat h
@[simp] theorem ixN_0 {n:Nat}:ixN (n + 1) 0=some 0:=by unfold ixN; rw [if_pos (by omega),if_pos (by omega)]; rfl
@[simp] theorem ixN_1 {n:Nat}:ixN (n + 1 + 1) 1=some 1:=by unfold ixN; rw [if_pos (by omega),if_pos (by omega)]; rfl
@[simp] theorem ixN_2 {n:Nat}:ixN (n + 1 + 1 + 1) 2=some 2:=by unfold ixN; rw [if_pos (by omega),if_pos (by omega)]; rfl
end
theorem sl_le {n:Nat} (h:n ≤ 1000000):n ≤ sizeLine:=by rw [sizeLine_eq]; omega
@[simp] theorem sl_iff:sizeLine=16777216:=sizeLine_eq
def Sm (i:Int):Prop:=i.natAbs < 2 ^ 4000
instance (i:Int):Decidable (Sm i):=by unfold Sm; infer_instance
theorem log2_sm {i:Int} (h:Sm i):i.natAbs.log2 < 4000:=PySem.Flt.log2_lt_of (by omega) h
theorem k_mul {i j:Int} (hi:Sm i) (hj:Sm j):kMul (.int i) (.int j)=some (.int (i * j)):=by
 have h1:=log2_sm hi
 have h2:=log2_sm hj
 exact if_pos (show i.natAbs.log2 + j.natAbs.log2 < 1000000 by omega)
def Sd (j:Int):Prop:=j.natAbs.log2 < 9000
instance (i:Int):Decidable (Sd i):=by unfold Sd; infer_instance
theorem k_div {i j:Int} (h0:j≠0) (hj:Sd j):kDiv (.int i) (.int j)=some (.int (i.fdiv j)):=if_pos ⟨h0,hj⟩
theorem sd_le {i j:Int} (h:i.natAbs ≤ j.natAbs) (hj:Sd j):Sd i:=by
 unfold Sd at *
 by_cases h0:i.natAbs=0
 ·rw [h0]; decide
 ·have h1:2 ^ i.natAbs.log2 ≤ j.natAbs:=Nat.le_trans (Nat.log2_self_le h0) h
  have h2:=(Nat.le_log2 (n:=j.natAbs) (by omega)).mpr h1
  omega
theorem sm_of {i:Int} {k:Nat} (h:i.natAbs < 2 ^ k) (hk:k ≤ 4000):Sm i:=Nat.lt_of_lt_of_le h (Nat.pow_le_pow_right (by omega) hk)
theorem sd_of {i:Int} (h:Sm i):Sd i:=by
 have:=log2_sm h
 unfold Sd
 omega
def sh (q:Rat):D:=.tuple [.int q.num,.int q.den]
def toQ:D→Option Rat
 | .tuple [.int a,.int b]=>if 0 < b∧Int.gcd a b=1 then some (Rat.divInt a b) else none
 | _=>none
theorem q_num_den (q:Rat):Rat.divInt q.num q.den=q:=by
 exact Rat.num_divInt_den q
@[simp] theorem toQ_sh (q:Rat):toQ (sh q)=some q:=by
 unfold toQ sh
 have h1:(0:Int) < q.den:=by have:=q.den_pos; omega
 have h2:Int.gcd q.num q.den=1:=q.reduced
 simp only
 rw [if_pos ⟨h1,h2⟩,q_num_den]
theorem cut_take {α:Type} (l:List α) (k:Nat):cutX l none (some (k:Int))=l.take k:=by
 unfold cutX
 rw [HT.sIx_none,HT.sIx_nat,List.drop_zero,Nat.sub_zero]
 by_cases h:k ≤ l.length
 ·rw [Nat.min_eq_left h]
 ·rw [Nat.min_eq_right (by omega),List.take_of_length_le (Nat.le_refl _),List.take_of_length_le (by omega)]
end Xm
namespace Xm
open PySem PySem.Spec PyProof.Rows L2
def SmQ (q:Rat):Prop:=Sm q.num∧Sm q.den
instance (q:Rat):Decidable (SmQ q):=by unfold SmQ; infer_instance
def mf_common:List D→Option RV
 | [.int a,.int b]=>some (.val (.int (Int.gcd a b)))
 | _=>none
def ms_common:AS→Nat:=fun st=>match st[1]? with
 | some (Slot.dat (.int b))=>b.natAbs + 1
 | _=>0
def g_common:SF:=(seqS (par2 0 1 (consA (un1 kAbs (rd 0)) (consA (un1 kAbs (rd 1)) nilA))) (seqS (whileS (valB (bin2 kNe (rd 1) (cst (.int 0)))) (par2 0 1 (consA (rd 1) (consA (bin2 kMod (rd 0) (rd 1)) nilA))) ms_common) (retS (rd 0))))
theorem fmod_nat (a b:Nat):Int.fmod (a:Int) (b:Int)=((a % b:Nat):Int):=by
 rw [Int.fmod_eq_emod_of_nonneg _ (by omega)]
 rfl
theorem common_loop:∀ (n a b:Nat),b < n→∃ c:Nat,whileN (valB (bin2 kNe (rd 1) (cst (.int 0)))) (par2 0 1 (consA (rd 1) (consA (bin2 kMod (rd 0) (rd 1)) nilA))) n [Slot.dat (.int a),Slot.dat (.int b)]=some (.nx,[Slot.dat (.int (Nat.gcd a b)),Slot.dat (.int c)])
 | 0,a,b,h=>by omega
 | n + 1,a,b,h=>by
  by_cases hb:b=0
  ·subst hb
   exact ⟨0,by simp [whileN]⟩
  ·obtain ⟨c,hc⟩:=common_loop n b (a % b) (by have:=Nat.mod_lt a (by omega:b > 0); omega)
   refine ⟨c,?_⟩
   have hb':((b:Int)=0)=False:=by simp; omega
   have hm:kMod (.int (a:Int)) (.int (b:Int))=some (.int ((a % b:Nat):Int)):=by rw [k_mod (by omega),fmod_nat]
   have hg:Nat.gcd a b=Nat.gcd b (a % b):=by rw [Nat.gcd_comm a b,Nat.gcd_rec b a,Nat.gcd_comm]
   rw [hg,← hc]
   simp [whileN,hb',hm,hb]
theorem e_common:∀ ds r,ds.length=2→mf_common ds=some r→Leaves g_common (st0 2 ds) r fun _=>True:=by
 intro ds r hlen h
 clear hlen
 unfold mf_common at h
 split at h <;> cases h
 rename_i a b
 obtain ⟨c,hc⟩:=common_loop (b.natAbs + 1) a.natAbs b.natAbs (by omega)
 refine ⟨[Slot.dat (.int (Int.gcd a b)),Slot.dat (.int c)],.inl ?_,trivial⟩
 simp [g_common,whileS,ms_common,hc,Int.gcd]
theorem fdiv_neg' (a b:Int):a.fdiv (-b)=(-a).fdiv b:=by
 rw [show a.fdiv (-b)=(-(-a)).fdiv (-b) by rw [Int.neg_neg],Int.neg_fdiv_neg]
theorem sh_divInt {t b:Int} (hb:b≠0):sh (Rat.divInt t b)=.tuple [.int (t.fdiv (if b < 0 then -(Int.gcd t b:Int) else Int.gcd t b)),.int (b.fdiv (if b < 0 then -(Int.gcd t b:Int) else Int.gcd t b))]:=by
 have hg:(0:Int) < Int.gcd t b:=by
  have:=Int.gcd_pos_of_ne_zero_right t hb
  omega
 have d1:(Int.gcd t b:Int)∣t:=Int.gcd_dvd_left ..
 have d2:(Int.gcd t b:Int)∣b:=Int.gcd_dvd_right ..
 unfold sh
 rw [Rat.num_divInt,Rat.den_divInt,if_neg hb,Int.gcd_comm b t]
 have e2:((b.natAbs / Int.gcd t b:Nat):Int)=(b.natAbs:Int) / (Int.gcd t b:Int):=rfl
 rw [e2]
 split
 ·rename_i hneg
  rw [fdiv_neg',fdiv_neg',Int.fdiv_eq_ediv_of_nonneg _ (by omega),Int.fdiv_eq_ediv_of_nonneg _ (by omega),Int.sign_eq_neg_one_of_neg hneg]
  have:(b.natAbs:Int)=-b:=by omega
  rw [this]
  simp
 ·rename_i hpos
  rw [Int.fdiv_eq_ediv_of_nonneg _ (by omega),Int.fdiv_eq_ediv_of_nonneg _ (by omega),Int.sign_eq_one_of_pos (by omega)]
  have:(b.natAbs:Int)=b:=by omega
  rw [this]
  simp
theorem sd_gcd {t b:Int} (hb:b≠0) (h:Sd b):Sd (Int.gcd t b:Int):=by
 refine sd_le ?_ h
 have:Int.gcd t b∣b.natAbs:=Int.natAbs_dvd_natAbs.mpr (Int.gcd_dvd_right ..) |> fun z=>by simpa using z
 have:=Nat.le_of_dvd (by omega) this
 simpa using this
end Xm
namespace Xm
open PySem PySem.Spec PyProof.Rows L2
def GQ (k:Nat) (q:Rat):Prop:=0 ≤ q∧q ≤ 1 / 2∧q.den < 2 ^ k
instance (k:Nat) (q:Rat):Decidable (GQ k q):=by unfold GQ; infer_instance
def qs:List D→Option (List Rat)
 | []=>some []
 | d::ds=>(toQ d).bind fun q=>(qs ds).map fun r=>q::r
end Xm
namespace Xm
open PySem PySem.Spec PyProof.Rows L2
structure Rk (k n:Nat) (d:D):Prop where
 sh:d.showable=true
 cl:d.canLay0=true
 dp:d.depth ≤ k
 sz:d.shown.length ≤ n
theorem Rk.mono {j k m n:Nat} {d:D} (h:Rk j m d) (l:j ≤ k) (l2:m ≤ n):Rk k n d:=⟨h.sh,h.cl,Nat.le_trans h.dp l,Nat.le_trans h.sz l2⟩
theorem Rk.rp {k n:Nat} {d:D} (h:Rk k n d) (hk:k ≤ 64) (hn:n ≤ 16777216):Rp d:=⟨h.sh,h.cl,Nat.le_trans h.dp hk,by rw [sizeLine_eq]; exact Nat.le_trans h.sz hn⟩
theorem Rk.int {i:Int} (h:i.natAbs < 2 ^ 1900):Rk 0 600 (.int i):=by
 refine ⟨?_,rfl,Nat.le_refl 0,?_⟩
 ·show decide (i.natAbs.log2 < 1920)=true
  by_cases h0:i.natAbs=0
  ·rw [h0]
   decide
  ·exact decide_eq_true (Nat.lt_of_lt_of_le ((Nat.log2_lt h0).mpr h) (by omega))
 ·simp only [PyData.shown]
  have e:(2:Nat) ^ 1900 ≤ 10 ^ 599:=by decide +kernel
  rw [PySem.ofString_length]
  exact int_text_length_le10 (k:=599) (by omega) (Nat.lt_of_lt_of_le h e)
theorem Rk.none:Rk 0 600 .none:=⟨rfl,rfl,Nat.le_refl 0,by decide⟩
theorem rk_all {k n:Nat}:∀ {ds:List D},(∀ d ∈ ds,Rk k n d)→PyData.showableAll ds=true∧PyData.canLayAll0 ds=true∧PyData.depthAll ds ≤ k∧((PyData.shownAll ds).map (·.length)).sum ≤ ds.length * n∧(PyData.shownAll ds).length=ds.length
 | [],_=>⟨rfl,rfl,Nat.zero_le k,by simp [PyData.shownAll],rfl⟩
 | d::ds,h=>by
  have h1:=h d (.head _)
  obtain ⟨a1,a2,a3,a4,a5⟩:=rk_all (fun x hx=>h x (.tail _ hx))
  refine ⟨by simp [PyData.showableAll,h1.sh,a1],by simp [PyData.canLayAll0,h1.cl,a2],by simpa [PyData.depthAll] using Nat.max_le.mpr ⟨h1.dp,a3⟩,?_,by simp [PyData.shownAll,a5]⟩
  have:=h1.sz
  simp only [PyData.shownAll,List.map_cons,List.sum_cons,List.length_cons,Nat.add_mul,Nat.one_mul]
  omega
theorem Rk.tuple {k n:Nat} {ds:List D} (h:∀ d ∈ ds,Rk k n d):Rk (k + 1) (ds.length * n + 2 * ds.length + 3) (.tuple ds):=by
 obtain ⟨a1,a2,a3,a4,a5⟩:=rk_all h
 refine ⟨by simpa [PyData.showable] using a1,by simpa [PyData.canLay0] using a2,by simp [PyData.depth,a3],?_⟩
 have:=tupleText_len_le (PyData.shownAll ds)
 simp only [PyData.shown]
 omega
theorem Rk.list {k n:Nat} {ds:List D} (h:∀ d ∈ ds,Rk k n d):Rk (k + 1) (ds.length * n + 2 * ds.length + 3) (.list ds):=by
 obtain ⟨a1,a2,a3,a4,a5⟩:=rk_all h
 refine ⟨by simpa [PyData.showable] using a1,by simpa [PyData.canLay0] using a2,by simp [PyData.depth,a3],?_⟩
 have:=listText_len_le (PyData.shownAll ds)
 simp only [PyData.shown]
 omega
theorem k_reprT {k n:Nat} {ds:List D} (h:Rk k n (.tuple ds)) (hk:k ≤ 64) (hn:n ≤ 16777216):kRepr (.tuple ds)=some (.str (PyData.shown (.tuple ds))):=if_pos ⟨rfl,h.rp hk hn⟩
theorem k_reprL {k n:Nat} {ds:List D} (h:Rk k n (.list ds)) (hk:k ≤ 64) (hn:n ≤ 16777216):kRepr (.list ds)=some (.str (PyData.shown (.list ds))):=if_pos ⟨rfl,h.rp hk hn⟩
section
variable {f:EF} {a b:LF} {st:AS} {n:Nat} {w:List D→AS→Option AS} {d:D} {ds:List D} {i j:Int} {k:List D→Option D}
@[simp] theorem e_bN:bN k a st=(a st).bind fun x=>(k x.1).map fun z=>(z,x.2):=rfl
@[simp] theorem k_min2:kMin2 [.int i,.int j]=some (.int (min i j)):=by
 rw [show min i j=if j < i then j else i by split <;> omega]
 rfl
@[simp] theorem k_max2:kMax2 [.int i,.int j]=some (.int (max i j)):=by
 rw [show max i j=if j > i then j else i by split <;> omega]
 rfl
@[simp] theorem e_unpT_l:unpT n w (.list ds) st=if ds.length=n then w ds st else none:=rfl
@[simp] theorem e_unpT_t:unpT n w (.tuple ds) st=if ds.length=n then w ds st else none:=rfl
@[simp] theorem e_callK {mf:List D→Option RV} {src:List (Nat ⊕ Nat)}:callK mf src a b st=(a st).bind fun x=>(b x.2).bind fun y=>(mf (arr .none src x.1 y.1)).map fun r=>(r,y.2):=rfl
@[simp] theorem arr_nil {us ws:List D}:arr .none [] us ws=([]:List D):=rfl
@[simp] theorem arr_inl {us ws:List D} {m:Nat} {src:List (Nat ⊕ Nat)}:arr .none (.inl m::src) us ws=us.getD m .none::arr .none src us ws:=rfl
@[simp] theorem arr_inr {us ws:List D} {m:Nat} {src:List (Nat ⊕ Nat)}:arr .none (.inr m::src) us ws=ws.getD m .none::arr .none src us ws:=rfl
end
theorem itR1_nat {f:EF} {st st':AS} {k:Nat} (h:f st=some (.int (k:Int),st')) (hk:k ≤ 1000000):itR1 f st=some (rngD 0 k,st'):=by
 have key:∀ j:Int,j < 1000001→0 ≤ j→itR1 f st=(f st).bind fun a=>(match a.1 with
  | .int j=>if -(2 ^ 62) ≤ j∧j < 2 ^ 62 then some (rngD 0 j,a.2) else none
  | _=>none):=fun _ _ _=>rfl
 have gen:∀ j:Int,f st=some (.int j,st')→j < 1000001→0 ≤ j→itR1 f st=some (rngD 0 j,st'):=fun j h h1 h2=>by
  rw [key j h1 h2,h]
  simp only [Option.bind_some]
  rw [if_pos (by omega)]
 exact gen k h (by omega) (by omega)
theorem rng_len (a b:Int):(rngD a b).length=(b - a).toNat:=by unfold rngD; simp
end Xm
namespace Xm
open PySem PySem.Spec PyProof.Rows L2
section
variable {X:Cx} {C:Ct} {pos p apos cpos:Pos} {o e:Expr} {f g:EF}
end
def boolsD:List D→Option (List Bool)
 | []=>some []
 | .bool b::r=>(boolsD r).map (b::·)
 | _=>none
def kAll:D→Option D
 | .list xs=>(boolsD xs).map fun bs=>.bool (bs.all id)
 | _=>none
theorem bools_dp {K:Kx} {F:Hp}:∀ {ds:List D} {bs:List Bool} {vs:List V},boolsD ds=some bs→DpAll K F vs ds→vs=bs.map V.bl
 | [],bs,vs,e,h=>by
  cases e
  cases h
  rfl
 | d::ds,bs,vs,e,h=>by
  cases h with
  | cons h1 h2=>
   cases d with
   | bool b=>
    obtain ⟨r,hr,rfl⟩:=Option.map_eq_some_iff.mp (show (boolsD ds).map (b::·)=some bs from e)
    rw [dp_bl h1,bools_dp hr h2]
    rfl
   | _=>cases e
section
variable {X:Cx} {C:Ct} {pos p:Pos} {a:Expr} {f:EF}
theorem xd_all (hc:X.calm=true) (hm:X.mg "all" = none) (ha:PE X a (dOf (kxOf X) C f)) (hg:Gl X "all" := by rfl) (he:starEach [a] X.env=(false,eval a X.env)::starEach [] X.env:=by rfl):PE X (.Call (.Name "all" p) [a] [] pos) (dOf (kxOf X) C (un1 kAll f)):=
 xd_b1 (cr_all hc) (fun F H x a z Q fh ha e q=>by
  unfold kAll at e; split at e
  ·obtain ⟨bs,hb,rfl⟩:=Option.map_eq_some_iff.mp e
   cases ha with
   | lst hs hv=>
    cases bools_dp hb hv
    exact ⟨_,bs,rfl,sql_up fh hs,q _ F H (Gr.refl fh) (.bl _)⟩
  ·cases e) hm (by decide +kernel) ha hg (he:=he)
end
def tyD:D→String
 | .none => "NoneType"
 | .bool _ => "bool"
 | .int _ => "int"
 | .str _ => "str"
 | .list _ => "list"
 | .tuple _ => "tuple"
 | .dict _ => "dict"
def isaT (t T:String):Bool:=t == T || (t == "bool" && T == "int")
def kIsa (T:String) (d:D):Option D:=some (.bool (isaT (tyD d) T))
def tys:List String:=["NoneType", "bool", "int", "str", "list", "tuple", "dict"]
def rIsaD (K:Kx):List V→Hp→VK→Prop:=fun xs H Q=>∃ (x c:V) (d:D) (u:Value) (b:Bool),xs=[x,c]∧ClsV c u∧Dp K H x d∧PySem.W.kitOne K.K (.type (tyD d)) u=some b∧Q (.bl b) H
theorem tyD_mem (d:D):tyD d ∈ tys:=by cases d <;> simp [tyD,tys]
theorem kit_dp {X:Cx} {pins:List (Addr × Obj)} {σ:L2.St} {H:Hp} {s:Shared} {x:V} {d:D} {u:Value} (I:Inv X pins σ H s) (h:Dp (kxOf X) H x d) (rx:RelV x u):∃ P:Heap→Prop,PySem.W.KitX X.K u (.type (tyD d)) P∧P s.heap∧u≠.builtin "__main__.__loader__#opaque" := by
 cases h with
 | non=>exact kit_of I rx (.base .non)
 | bl b=>exact kit_of I rx (.base (.bl b))
 | int i=>exact kit_of I rx (.base (.int i))
 | str x=>exact kit_of I rx (.base (.str x))
 | lst hs hv=>
  refine kit_of I rx ?_
  rcases hs with (h | ⟨o,h⟩) | ⟨o,its,n,h1,h2,_⟩
  ·exact .base (.lst h)
  ·exact .base (.frz h)
  ·exact .kList h1 h2
 | tup hs hv=>
  refine kit_of I rx ?_
  rcases hs.sq with (h | ⟨o,h⟩) | ⟨o,its,n,h1,h2,_⟩
  ·exact .base (.tup h)
  ·exact .fTuple h
  ·exact .kTuple h1 h2
 | dky h1 h2 h3 h4 h5=>exact kit_of I rx (.fDict h1)
 | @dtp a od rows kvs ks vs ws h1 _ _ _ _ _ _ _ _=>
  cases (show u=Value.ref a from rx)
  obtain ⟨⟨_,_,o,es,ep,xs,g1,g2,_⟩,_⟩:=rd_ok I (.inr ⟨_,h1⟩)
  exact ⟨_,PySem.W.kitx_dict,⟨o,g1,g2.1⟩,fun z=>nomatch z⟩
theorem call_isaD {X:Cx}:CallR X (.builtin "isinstance") (rIsaD (kxOf X)):=by
 intro pins s σ H xs us Q I r h
 obtain ⟨x,c,d,u,b,rfl,k,hd,e,q⟩:=h
 obtain ⟨u1,u2,rfl,r1,r2⟩:=vals2 r
 have e2:=k.eq r2
 subst e2
 obtain ⟨P,Z,p,hx⟩:=kit_dp I hd r1
 exact PySem.W.kia_one Z I.kIn p e hx fun tk=>⟨.bl b,H,I.tok tk,rfl,q⟩
def IsaOk (K:Kx) (T:String):Prop:=∀ t ∈ tys,PySem.W.kitOne K.K (.type t) (.type T)=some (isaT t T)
section
variable {X:Cx} {C:Ct} {pos p p2:Pos} {a:Expr} {f:EF}
theorem xd_isa {x:Str} {T:String} (hT:IsaOk (kxOf X) T) (hv:bootBuiltins x=some (.type T)) (hm:X.mg "isinstance" = none) (hx:X.mg x=none) (ha:PE X a (dOf (kxOf X) C f)) (hg:Gl X "isinstance" := by rfl) (hg2:Gl X x:=by rfl) (hn:x ≠ "__name__" := by decide) (hd:(x == ("__debug__" : Str))=false:=by decide)
  (he:starEach [a,.Name x p2] X.env=(false,eval a X.env)::starEach [.Name x p2] X.env:=by rfl) (he2:starEach [.Name x p2] X.env=(false,eval (.Name x p2) X.env)::starEach [] X.env:=by rfl) (hpl:(backTo pos (starEach [.Name x p2] X.env)).any (·.1)=false:=by rfl) :
  PE X (.Call (.Name "isinstance" p) [a,.Name x p2] [] pos) (dOf (kxOf X) C (un1 (kIsa T) f)):=
 pe_wk (pe_callB call_isaD hg hm (by decide +kernel) (pa_cons ha (pa_cons (pe_bltn (v:=.ty T) hg2 hx hv rfl hn hd) pa_nil he2) he) (he:=he) (hpl:=hpl)) fun σ H Q q=>by
  obtain ⟨F,st,w,R,e,q⟩:=q
  obtain ⟨a,ea,e⟩:=Option.bind_eq_some_iff.mp e
  obtain ⟨z,ez,e⟩:=Option.map_eq_some_iff.mp e
  cases e
  cases ez
  refine ⟨F,st,a,R,ea,fun v H1 F1 s1 R1 d1=>?_⟩
  exact ⟨v,.ty T,_,_,_,rfl,.ty T,Dp_up d1 R1.fh,hT _ (tyD_mem _),q _ H1 F1 s1 R1 (.bl _)⟩
end
theorem isa_int {K:Kx}:IsaOk K "int" := by
 intro t ht
 simp only [tys,List.mem_cons,List.not_mem_nil,or_false] at ht
 rcases ht with rfl | rfl | rfl | rfl | rfl | rfl | rfl <;> rfl
theorem isa_bool {K:Kx}:IsaOk K "bool" := by
 intro t ht
 simp only [tys,List.mem_cons,List.not_mem_nil,or_false] at ht
 rcases ht with rfl | rfl | rfl | rfl | rfl | rfl | rfl <;> rfl
theorem isa_tuple {K:Kx}:IsaOk K "tuple" := by
 intro t ht
 simp only [tys,List.mem_cons,List.not_mem_nil,or_false] at ht
 rcases ht with rfl | rfl | rfl | rfl | rfl | rfl | rfl <;> rfl
theorem isa_str {K:Kx}:IsaOk K "str" := by
 intro t ht
 simp only [tys,List.mem_cons,List.not_mem_nil,or_false] at ht
 rcases ht with rfl | rfl | rfl | rfl | rfl | rfl | rfl <;> rfl
def chE (k k':D→D→Option D) (f g h:EF):EF:=fun st=>(f st).bind fun a=>(g a.2).bind fun b=>(k a.1 b.1).bind fun z=>match z with
 | .bool true=>(h b.2).bind fun c=>(k' b.1 c.1).map fun y=>(y,c.2)
 | .bool false=>some (.bool false,b.2)
 | _=>none
section
variable {X:Cx} {C:Ct} {pos:Pos} {a b c:Expr} {f g h:EF} {r r':R2} {k k':D→D→Option D}
theorem chE_ok {K:Kx} (ok:Ok2 K r k) (ok':Ok2 K r' k') {σ:L2.St} {H:Hp} {Q:VK} (q:dOf K C (chE k k' f g h) σ H Q):tChain r r' (dOf K C f) (dOf K C g) (dOf K C h) σ H Q:=by
 obtain ⟨F,st,w,R,e,q⟩:=q
 obtain ⟨a,ea,e⟩:=Option.bind_eq_some_iff.mp e
 obtain ⟨b,eb,e⟩:=Option.bind_eq_some_iff.mp e
 obtain ⟨z,ez,e⟩:=Option.bind_eq_some_iff.mp e
 refine ⟨F,st,a,R,ea,fun x H1 F1 s1 R1 d1=>⟨F1,a.2,b,R1,eb,fun y H2 F2 s2 R2 d2=>?_⟩⟩
 refine ok F2 H2 x y a.1 b.1 z _ R2.fh (Dp_up d1 s2) d2 ez fun v F3 H3 gr hv=>?_
 have R3:=R2.grow gr
 split at e
 ·obtain ⟨c,ec,e⟩:=Option.bind_eq_some_iff.mp e
  obtain ⟨u,eu,e⟩:=Option.map_eq_some_iff.mp e
  cases e
  refine ⟨true,dp_bl hv,?_⟩
  rw [if_pos rfl]
  exact ⟨F3,b.2,c,R3,ec,fun w H4 F4 s4 R4 d4=>ok' F4 H4 y w b.1 c.1 u _ R4.fh (Dp_up d2 (gr.ff.trans s4)) d4 eu fun v5 F5 H5 gr5 hv5=>q v5 H5 F5 ((((s1.trans s2).trans gr.ff).trans s4).trans gr5.ff) (R4.grow gr5) hv5⟩
 ·cases e
  refine ⟨false,dp_bl hv,?_⟩
  rw [if_neg (by decide)]
  exact q _ H3 F3 ((s1.trans s2).trans gr.ff) R3 (.bl _)
 ·cases e
end
@[simp] theorem e_chE {k k':D→D→Option D} {f g h:EF} {st:AS}:chE k k' f g h st=(f st).bind fun a=>(g a.2).bind fun b=>(k a.1 b.1).bind fun z=>(match z with
 | .bool true=>(h b.2).bind fun c=>(k' b.1 c.1).map fun y=>(y,c.2)
 | .bool false=>some (.bool false,b.2)
 | _=>none):=rfl
@[simp] theorem k_isa {T:String} {d:D}:kIsa T d=some (.bool (isaT (tyD d) T)):=rfl
end Xm
namespace Xm
open PySem PySem.Spec PyProof.Rows L2
def rest (old:AS):List Nat→AS→AS
 | [],st=>st
 | v::vs,st=>(rest old vs st).set v (old[v]?.getD .no)
section
variable {X:Cx} {C:Ct} {pos:Pos} {elt tg iter:Expr} {ifs:List Expr} {scope:Scope} {own:List (Str × Nat)} {it:LF} {u:D→AS→Option AS} {ts:List Nat} {tt:BF} {te:EF} {vs:List Nat}
end
section
variable {X:Cx} {C:Ct} {pos spos py:Pos} {elt tg iter:Expr} {ifs:List Expr} {scope:Scope} {own:List (Str × Nat)} {it:LF} {u:D→AS→Option AS} {ts:List Nat} {tt:BF} {te:EF} {i:Nat} {y:Str} {vs:List Nat}
end
end Xm
namespace HT
open PySem PySem.Spec PyProof.Rows
section
variable {prog:Program} {w:World} {A:Around} {E:Value→Shared→Prop} {s:Shared}
end
end HT
namespace Xm
open PySem PySem.Spec PyProof.Rows L2 RZ
def revA (f:EF):EF:=fun st=>(f st).bind fun a=>match a.1 with
 | .list xs=>some (.list xs.reverse,a.2)
 | .tuple xs=>some (.tuple xs.reverse,a.2)
 | _=>none
section
variable {X:Cx} {C:Ct} {pos p2:Pos} {e:Expr} {f:EF}
end
def toNew (f:EF):LF:=fun st=>(f st).bind fun a=>match a.1 with
 | .list xs=>some (xs,a.2)
 | .tuple xs=>some (xs,a.2)
 | _=>none
section
variable {X:Cx} {C:Ct} {pos p p2 pos2:Pos} {a:Expr} {f:EF}
end
def prD:List D→List D→List D
 | x::xs,y::ys=>.tuple [x,y]::prD xs ys
 | _,_=>[]
def itZip (f g:EF):LF:=fun st=>(f st).bind fun a=>(g a.2).bind fun b=>match a.1,b.1 with
 | .list xs,.list ys=>some (prD xs ys,b.2)
 | .tuple xs,.tuple ys=>some (prD xs ys,b.2)
 | _,_=>none
section
variable {X:Cx} {C:Ct} {pos p tpos:Pos} {elts:List Expr} {kk:Nat} {a b:Expr} {f g:EF}
end
section
variable {f g:EF} {st:AS}
@[simp] theorem e_revA:revA f st=(f st).bind fun a=>(match a.1 with
 | .list xs=>some (.list xs.reverse,a.2)
 | .tuple xs=>some (.tuple xs.reverse,a.2)
 | _=>none):=rfl
@[simp] theorem e_toNew:toNew f st=(f st).bind fun a=>(match a.1 with
 | .list xs=>some (xs,a.2)
 | .tuple xs=>some (xs,a.2)
 | _=>none):=rfl
@[simp] theorem e_itZip:itZip f g st=(f st).bind fun a=>(g a.2).bind fun b=>(match a.1,b.1 with
 | .list xs,.list ys=>some (prD xs ys,b.2)
 | .tuple xs,.tuple ys=>some (prD xs ys,b.2)
 | _,_=>none):=rfl
end
end Xm
namespace Xm
open PySem PySem.Spec PyProof.Rows L2
def augS (i:Nat) (f:EF):SF:=fun st=>match st[i]? with
 | some (.dat (.int a))=>(f st).bind fun b=>match b.1 with
  | .int j=>(setD i (.int (a + j)) b.2).map fun st'=>(.nx,st')
  | _=>none
 | _=>none
section
variable {X:Cx} {C:Ct} {pos:Pos} {e:Expr} {f:EF}
end
@[simp] theorem e_augS {i:Nat} {f:EF} {st:AS}:augS i f st=(match st[i]? with
 | some (.dat (.int a))=>(f st).bind fun b=>(match b.1 with
  | .int j=>(setD i (.int (a + j)) b.2).map fun st'=>(.nx,st')
  | _=>none)
 | _=>none):=rfl
def revM (i:Nat):EF:=fun st=>(muC st i).map fun xs=>(.none,putM st i xs.reverse)
section
variable {X:Cx} {C:Ct} {apos cpos:Pos} {o:Expr}
end
@[simp] theorem e_revM {i:Nat} {st:AS}:revM i st=(muC st i).map fun xs=>(.none,putM st i xs.reverse):=rfl
def reprM (i:Nat):EF:=fun st=>(muC st i).bind fun xs=>(kRepr (.list xs)).map fun z=>(z,st)
section
variable {X:Cx} {C:Ct} {pos p:Pos} {a:Expr}
end
@[simp] theorem e_reprM {i:Nat} {st:AS}:reprM i st=(muC st i).bind fun xs=>(kRepr (.list xs)).map fun z=>(z,st):=rfl
end Xm
namespace Xm
open PySem PySem.Spec PyProof.Rows L2
def runP (g:SF) (N:Nat):List D→Option RV:=fun ds=>(g (st0 N ds)).bind fun w=>match w.1 with
 | .ret r=>some r
 | .nx=>some (.val .none)
 | _=>none
def runQ (g:SF) (N:Nat):List D→List D→Option (RV × List D):=fun xs ds=>(g (st1 N xs ds)).bind fun w=>match w.2[0]? with
 | some (Slot.pen ys)=>(match w.1 with
  | .ret r=>some (r,ys)
  | .nx=>some (.val .none,ys)
  | _=>none)
 | _=>none
theorem runP_ok {g:SF} {N n:Nat}:∀ ds r,ds.length=n→runP g N ds=some r→Leaves g (st0 N ds) r fun _=>True:=by
 intro ds r _ h
 obtain ⟨w,hw,h⟩:=Option.bind_eq_some_iff.mp h
 obtain ⟨fl,st'⟩:=w
 cases fl with
 | ret r'=>cases h; exact ⟨st',.inl hw,trivial⟩
 | nx=>cases h; exact ⟨st',.inr ⟨hw,rfl⟩,trivial⟩
 | brk=>cases h
 | cont=>cases h
theorem runQ_ok {g:SF} {N n:Nat}:∀ xs ds r,ds.length + 1=n→runQ g N xs ds=some r→Leaves g (st1 N xs ds) r.1 fun st'=>st'[0]?=some (.pen r.2):=by
 intro xs ds r _ h
 obtain ⟨w,hw,h⟩:=Option.bind_eq_some_iff.mp h
 obtain ⟨fl,st'⟩:=w
 dsimp only at h
 split at h
 ·rename_i ys hy
  cases fl with
  | ret r'=>cases h; exact ⟨st',.inl hw,hy⟩
  | nx=>cases h; exact ⟨st',.inr ⟨hw,rfl⟩,hy⟩
  | brk=>cases h
  | cont=>cases h
 ·cases h
theorem runP_of {g:SF} {N:Nat} {ds:List D} {r:RV} {st':AS} (h:g (st0 N ds)=some (.ret r,st')):runP g N ds=some r:=by
 unfold runP
 rw [h]
 rfl
theorem runP_map {g:SF} {N:Nat} {ds:List D} {r:RV} (h:(g (st0 N ds)).map (·.1)=some (.ret r)):runP g N ds=some r:=by
 obtain ⟨w,hw,e⟩:=Option.map_eq_some_iff.mp h
 obtain ⟨fl,st'⟩:=w
 cases e
 exact runP_of hw
theorem runQ_of {g:SF} {N:Nat} {xs ds ys:List D} {r:RV} {st':AS} (h:g (st1 N xs ds)=some (.ret r,st')) (hy:st'[0]?=some (.pen ys)):runQ g N xs ds=some (r,ys):=by
 unfold runQ
 rw [h]
 simp only [Option.bind_some,hy]
theorem runQ_map {g:SF} {N:Nat} {xs ds ys:List D} {r:RV} (h:(g (st1 N xs ds)).map (fun w=>(w.1,w.2[0]?))=some (.ret r,some (.pen ys))):runQ g N xs ds=some (r,ys):=by
 obtain ⟨w,hw,e⟩:=Option.map_eq_some_iff.mp h
 obtain ⟨fl,st'⟩:=w
 obtain ⟨e1,e2⟩:=Prod.mk.inj e
 dsimp only at e1 e2
 subst e1
 exact runQ_of hw e2
def wt:Slot→Nat
 | .dat (.int i)=>i.natAbs
 | .own xs=>xs.length
 | .pen xs=>xs.length
 | _=>0
def msAll (st:AS):Nat:=1 + (st.map wt).sum
end Xm
namespace Xm
open PySem PySem.Spec PyProof.Rows L2
def clrS (vs:List Nat) (b:SF):SF:=fun st=>(b st).map fun w=>match w.1 with
 | .nx=>(.nx,clr w.2 vs)
 | .cont=>(.cont,clr w.2 vs)
 | _=>w
theorem Rel.clrN {K:Kx} {C:Ct} {F H:Hp} {st:AS} {σ:L2.St} (R:Rel K C F st σ H) (vs:List Nat):Rel K C F (Xm.clr st vs) σ H:=
 rel_mono_slots R (clr_len st vs) fun i s h=>by
  rw [clr_get] at h
  split at h
  ·cases h; exact .inl rfl
  ·exact .inr h
theorem clrS_ok {K:Kx} {C:Ct} {vs:List Nat} {b:SF} {Z:Ends} {σ:L2.St} {H:Hp} (q:sOf K C (clrS vs b) Z σ H):sOf K C b Z σ H:=by
 obtain ⟨F,st,w,R,e,q⟩:=q
 obtain ⟨v,ev,e⟩:=Option.map_eq_some_iff.mp e
 refine ⟨F,st,v,R,ev,?_⟩
 obtain ⟨fl,s2⟩:=v
 cases fl with
 | nx=>cases e; exact fun σ' H' F' s1 R1=>q σ' H' F' s1 (R1.clrN vs)
 | cont=>cases e; exact fun σ' H' F' s1 R1=>q σ' H' F' s1 (R1.clrN vs)
 | brk=>cases e; exact q
 | ret r=>cases e; exact q
section
variable {X:Cx} {C:Ct} {s:Stmt} {ss:List Stmt} {b:SF}
theorem xs_clr (vs:List Nat) (h:PS X s (sOf (kxOf X) C b)):PS X s (sOf (kxOf X) C (clrS vs b)):=ps_wk h fun _ _ _ q=>clrS_ok q
theorem xss_clr (vs:List Nat) (h:PSs X ss (sOf (kxOf X) C b)):PSs X ss (sOf (kxOf X) C (clrS vs b)):=pss_wk h fun _ _ _ q=>clrS_ok q
end
def Wp {α:Type} (f:AS→Option (α × AS)) (st:AS) (Q:α→AS→Prop):Prop:=∃ a s,f st=some (a,s)∧Q a s
theorem ex_of {α:Type} {k:Option α} {z:α} {P:α→Prop} (h:k=some z) (q:P z):∃ z,k=some z∧P z:=⟨z,h,q⟩
theorem ite_t {b:Bool} {P R:Prop} (h:b=true) (p:P):if b=true then P else R:=by rw [if_pos h]; exact p
theorem ite_f {b:Bool} {P R:Prop} (h:b=false) (p:R):if b=true then P else R:=by rw [if_neg (by rw [h]; exact Bool.false_ne_true)]; exact p
theorem ex_bool {x:Bool} {P:Bool→Prop} (q:P x):∃ b,PyData.bool x=.bool b∧P b:=⟨x,rfl,q⟩
theorem ex_int {x:Int} {P:Int→Prop} (q:P x):∃ b,PyData.int x=.int b∧P b:=⟨x,rfl,q⟩
theorem ex_new {x:List D} {P:List D→Prop} (q:P x):∃ b,RV.new x=.new b∧P b:=⟨x,rfl,q⟩
theorem np_and {o:Option Slot} {P:Prop} (h:npO o=true) (q:P):npO o=true∧P:=⟨h,q⟩
theorem len_and {n:Nat} {P:Prop} (h:n ≤ sizeLine) (q:P):n ≤ sizeLine∧P:=⟨h,q⟩
theorem mu_and {st:AS} {i:Nat} {xs:List D} {P:List D→Prop} (h:muC st i=some xs) (q:P xs):∃ ys,muC st i=some ys∧P ys:=⟨xs,h,q⟩
theorem ix_t0 {x:D} {l:List D}:kIx (.tuple (x::l)) (.int 0)=some x:=at_0
theorem ix_t1 {x y:D} {l:List D}:kIx (.tuple (x::y::l)) (.int 1)=some y:=at_1
theorem ix_l0 {x:D} {l:List D}:kIx (.list (x::l)) (.int 0)=some x:=at_0
theorem ix_l1 {x y:D} {l:List D}:kIx (.list (x::y::l)) (.int 1)=some y:=at_1
theorem ex_arr {mf:List D→Option RV} {src:List (Nat ⊕ Nat)} {us ws ds:List D} {P:RV→Prop} (h:arr .none src us ws=ds) (q:∃ r,mf ds=some r∧P r):∃ r,mf (arr .none src us ws)=some r∧P r:=by rw [h]; exact q
theorem ite_nbt {b:Bool} {P R:Prop} (h:b=false) (p:P):if (!b)=true then P else R:=by rw [h]; exact p
theorem ite_nbf {b:Bool} {P R:Prop} (h:b=true) (p:R):if (!b)=true then P else R:=by rw [h]; exact p
theorem ite_nes {x:Str} {P R:Prop} (p:R):if (!decide (x=x))=true then P else R:=by rw [decide_eq_true rfl]; exact p
theorem ite_nei {x:Int} {P R:Prop} (p:R):if (!(x == x))=true then P else R:=by rw [beq_self_eq_true]; exact p
theorem ite_tt {P R:Prop} (p:P):if true=true then P else R:=p
theorem ite_ff {P R:Prop} (p:R):if false=true then P else R:=p
theorem ite_nt {P R:Prop} (p:R):if (!true)=true then P else R:=p
theorem ite_nf {P R:Prop} (p:P):if (!false)=true then P else R:=p
section
variable {α:Type} {f g:EF} {u v c:BF} {a b:LF} {s t:SF} {st st':AS} {i j l:Nat} {k:D→D→Option D} {h:D→Option D} {d:D} {QD:D→AS→Prop} {QB:Bool→AS→Prop} {QL:List D→AS→Prop} {QS:Fl→AS→Prop} {QR:RV→AS→Prop}
theorem Wp.imp {F:AS→Option (α × AS)} {Q Q':α→AS→Prop} (w:Wp F st Q) (h:∀ a s,Q a s→Q' a s):Wp F st Q':=by
 obtain ⟨a,s,e,q⟩:=w
 exact ⟨a,s,e,h a s q⟩
theorem wp_of {F:AS→Option (α × AS)} {Q:α→AS→Prop} {x:α} (e:F st=some (x,st')) (q:Q x st'):Wp F st Q:=⟨x,st',e,q⟩
theorem wp_cst (q:QD d st):Wp (cst d) st QD:=⟨d,st,rfl,q⟩
theorem wp_rd (e:st[i]?=some (.dat d)) (q:QD d st):Wp (rd i) st QD:=⟨d,st,by rw [e_rd,e],q⟩
theorem wp_bin2 (w:Wp f st fun a s1=>Wp g s1 fun b s2=>∃ z,k a b=some z∧QD z s2):Wp (bin2 k f g) st QD:=by
 obtain ⟨a,s1,e1,b,s2,e2,z,e3,q⟩:=w
 exact ⟨z,s2,by rw [e_bin2,e1]; simp only [Option.bind_some,e2,e3]; rfl,q⟩
theorem wp_un1 (w:Wp f st fun a s1=>∃ z,h a=some z∧QD z s1):Wp (un1 h f) st QD:=by
 obtain ⟨a,s1,e1,z,e3,q⟩:=w
 exact ⟨z,s1,by rw [e_un1,e1]; simp only [Option.bind_some,e3]; rfl,q⟩
theorem wp_nilA (q:QL [] st):Wp nilA st QL:=⟨[],st,rfl,q⟩
theorem wp_consA (w:Wp f st fun x s1=>Wp a s1 fun xs s2=>QL (x::xs) s2):Wp (consA f a) st QL:=by
 obtain ⟨x,s1,e1,xs,s2,e2,q⟩:=w
 exact ⟨_,s2,by rw [e_consA,e1]; simp only [Option.bind_some,e2]; rfl,q⟩
theorem wp_tupF (w:Wp a st fun xs s1=>xs.length ≤ sizeLine∧QD (.tuple xs) s1):Wp (tupF a) st QD:=by
 obtain ⟨x,s1,e1,hl,q⟩:=w
 exact ⟨_,s1,by rw [e_tupF,e1]; simp only [Option.bind_some]; rw [if_pos hl],q⟩
theorem wp_lstF (w:Wp a st fun xs s1=>xs.length ≤ sizeLine∧QD (.list xs) s1):Wp (lstF a) st QD:=by
 obtain ⟨x,s1,e1,hl,q⟩:=w
 exact ⟨_,s1,by rw [e_lstF,e1]; simp only [Option.bind_some]; rw [if_pos hl],q⟩
theorem wp_newF (w:Wp a st fun xs s1=>xs.length ≤ sizeLine∧QL xs s1):Wp (newF a) st QL:=by
 obtain ⟨x,s1,e1,hl,q⟩:=w
 exact ⟨_,s1,by rw [e_newF,e1]; simp only [Option.bind_some]; rw [if_pos hl],q⟩
theorem wp_listE (w:Wp a st fun xs s1=>QD (.list xs) s1):Wp (listE a) st QD:=by
 obtain ⟨x,s1,e1,q⟩:=w
 exact ⟨_,s1,by rw [e_listE,e1]; rfl,q⟩
theorem wp_valB (w:Wp f st fun d s1=>∃ b,d=.bool b∧QB b s1):Wp (valB f) st QB:=by
 obtain ⟨x,s1,e1,b,rfl,q⟩:=w
 exact ⟨b,s1,by rw [e_valB,e1]; rfl,q⟩
theorem wp_andB (w:Wp u st fun b s1=>if b=true then Wp v s1 QB else QB false s1):Wp (andB u v) st QB:=by
 obtain ⟨x,s1,e1,q⟩:=w
 split at q
 ·rename_i hx
  obtain ⟨y,s2,e2,q⟩:=q
  exact ⟨y,s2,by rw [e_andB,e1]; simp only [Option.bind_some]; rw [if_pos hx]; exact e2,q⟩
 ·rename_i hx
  exact ⟨false,s1,by rw [e_andB,e1]; simp only [Option.bind_some]; rw [if_neg hx],q⟩
theorem wp_orB (w:Wp u st fun b s1=>if b=true then QB true s1 else Wp v s1 QB):Wp (orB u v) st QB:=by
 obtain ⟨x,s1,e1,q⟩:=w
 split at q
 ·rename_i hx
  exact ⟨true,s1,by rw [e_orB,e1]; simp only [Option.bind_some]; rw [if_pos hx],q⟩
 ·rename_i hx
  obtain ⟨y,s2,e2,q⟩:=q
  exact ⟨y,s2,by rw [e_orB,e1]; simp only [Option.bind_some]; rw [if_neg hx]; exact e2,q⟩
theorem wp_notB (w:Wp u st fun b s1=>QB (!b) s1):Wp (notB u) st QB:=by
 obtain ⟨x,s1,e1,q⟩:=w
 exact ⟨_,s1,by rw [e_notB,e1]; rfl,q⟩
theorem wp_boolE (w:Wp u st fun b s1=>QD (.bool b) s1):Wp (boolE u) st QD:=by
 obtain ⟨x,s1,e1,q⟩:=w
 exact ⟨_,s1,by rw [e_boolE,e1]; rfl,q⟩
theorem wp_ifE (w:Wp c st fun b s1=>if b=true then Wp f s1 QD else Wp g s1 QD):Wp (ifE c f g) st QD:=by
 obtain ⟨x,s1,e1,q⟩:=w
 split at q
 ·rename_i hx
  obtain ⟨y,s2,e2,q⟩:=q
  exact ⟨y,s2,by rw [e_ifE,e1]; simp only [Option.bind_some]; rw [if_pos hx]; exact e2,q⟩
 ·rename_i hx
  obtain ⟨y,s2,e2,q⟩:=q
  exact ⟨y,s2,by rw [e_ifE,e1]; simp only [Option.bind_some]; rw [if_neg hx]; exact e2,q⟩
theorem wp_callP {mf:List D→Option RV} {dvs:List D} (w:Wp a st fun xs s1=>∃ r,mf (xs++dvs)=some r∧QR r s1):Wp (callP mf dvs a) st QR:=by
 obtain ⟨x,s1,e1,r,e2,q⟩:=w
 exact ⟨r,s1,by rw [e_callP,e1]; simp only [Option.bind_some,e2]; rfl,q⟩
theorem wp_callP0 {mf:List D→Option RV} (w:Wp a st fun xs s1=>∃ r,mf xs=some r∧QR r s1):Wp (callP mf [] a) st QR:=wp_callP (by
 refine w.imp fun xs s q=>?_
 rw [List.append_nil]
 exact q)
theorem wp_callK {mf:List D→Option RV} {src:List (Nat ⊕ Nat)} (w:Wp a st fun xs s1=>Wp b s1 fun ys s2=>∃ r,mf (arr .none src xs ys)=some r∧QR r s2):Wp (callK mf src a b) st QR:=by
 obtain ⟨x,s1,e1,y,s2,e2,r,e3,q⟩:=w
 exact ⟨r,s2,by unfold callK; rw [e1]; simp only [Option.bind_some,e2,e3]; rfl,q⟩
theorem wp_callQ {mq:List D→List D→Option (RV × List D)} {xs:List D} (e0:muC st i=some xs) (w:Wp a st fun ds s1=>∃ zs,muC s1 i=some zs∧∃ r,mq zs ds=some r∧QR r.1 (putM s1 i r.2)):Wp (callQ mq i a) st QR:=by
 obtain ⟨x,s1,e1,zs,e2,r,e3,q⟩:=w
 exact ⟨r.1,_,by rw [e_callQ,e0]; simp only [Option.bind_some,e1,e2,e3]; rfl,q⟩
theorem wp_rvD {F:AS→Option (RV × AS)} (w:Wp F st fun r s1=>match r with
  | .val d=>QD d s1
  | .new xs=>QD (.list xs) s1
  | .dct _=>False
  | .exc _=>False):Wp (rvD F) st QD:=by
 obtain ⟨r,s1,e1,q⟩:=w
 cases r with
 | val d=>exact ⟨_,s1,by rw [e_rvD,e1]; rfl,q⟩
 | new d=>exact ⟨_,s1,by rw [e_rvD,e1]; rfl,q⟩
 | dct d=>exact q.elim
 | exc x=>exact q.elim
theorem wp_rvN {F:AS→Option (RV × AS)} (w:Wp F st fun r s1=>∃ xs,r=.new xs∧QL xs s1):Wp (rvN F) st QL:=by
 obtain ⟨r,s1,e1,xs,rfl,q⟩:=w
 exact ⟨_,s1,by rw [e_rvN,e1]; rfl,q⟩
theorem wp_itD (w:Wp f st fun d s1=>∃ xs,(d=.list xs∨d=.tuple xs)∧QL xs s1):Wp (itD f) st QL:=by
 obtain ⟨r,s1,e1,xs,(rfl | rfl),q⟩:=w <;> exact ⟨_,s1,by rw [e_itD,e1]; rfl,q⟩
theorem wp_noO {Q:Option Int→AS→Prop} (q:Q none st):Wp noO st Q:=⟨none,st,rfl,q⟩
theorem wp_someO {Q:Option Int→AS→Prop} (w:Wp f st fun d s1=>∃ i,d=.int i∧Q (some i) s1):Wp (someO f) st Q:=by
 obtain ⟨d,s1,e1,i,rfl,q⟩:=w
 exact ⟨_,s1,by rw [e_someO,e1]; rfl,q⟩
theorem wp_itR1 (w:Wp f st fun d s1=>∃ k:Nat,d=.int k∧k ≤ 1000000∧QL (rngD 0 k) s1):Wp (itR1 f) st QL:=by
 obtain ⟨d,s1,e1,k,rfl,hk,q⟩:=w
 exact ⟨_,s1,itR1_nat e1 hk,q⟩
theorem wp_seq (w:Wp s st fun fl s1=>match fl with
  | .nx=>Wp t s1 QS
  | .brk=>QS .brk s1
  | .cont=>QS .cont s1
  | .ret r=>QS (.ret r) s1):Wp (seqS s t) st QS:=by
 obtain ⟨fl,s1,e1,q⟩:=w
 cases fl with
 | nx=>
  obtain ⟨y,s2,e2,q⟩:=q
  exact ⟨y,s2,by rw [e_seqS,e1]; exact e2,q⟩
 | brk=>exact ⟨_,s1,by rw [e_seqS,e1]; rfl,q⟩
 | cont=>exact ⟨_,s1,by rw [e_seqS,e1]; rfl,q⟩
 | ret r=>exact ⟨_,s1,by rw [e_seqS,e1]; rfl,q⟩
theorem wp_skip (q:QS .nx st):Wp skipS st QS:=⟨_,st,rfl,q⟩
theorem wp_retS (w:Wp f st fun d s1=>QS (.ret (.val d)) s1):Wp (retS f) st QS:=by
 obtain ⟨x,s1,e1,q⟩:=w
 exact ⟨_,s1,by rw [e_retS,e1]; rfl,q⟩
theorem wp_retN (w:Wp a st fun d s1=>QS (.ret (.new d)) s1):Wp (retN a) st QS:=by
 obtain ⟨x,s1,e1,q⟩:=w
 exact ⟨_,s1,by rw [e_retN,e1]; rfl,q⟩
theorem wp_ifS (w:Wp c st fun b s1=>if b=true then Wp s s1 QS else Wp t s1 QS):Wp (ifS c s t) st QS:=by
 obtain ⟨x,s1,e1,q⟩:=w
 split at q
 ·rename_i hx
  obtain ⟨y,s2,e2,q⟩:=q
  exact ⟨y,s2,by rw [e_ifS,e1]; simp only [Option.bind_some]; rw [if_pos hx]; exact e2,q⟩
 ·rename_i hx
  obtain ⟨y,s2,e2,q⟩:=q
  exact ⟨y,s2,by rw [e_ifS,e1]; simp only [Option.bind_some]; rw [if_neg hx]; exact e2,q⟩
theorem wp_asg (w:Wp f st fun d s1=>npO s1[i]?=true∧QS .nx (s1.set i (.dat d))):Wp (asgS i f) st QS:=by
 obtain ⟨x,s1,e1,hn,q⟩:=w
 exact ⟨_,_,by rw [e_asgS,e1]; simp only [Option.bind_some,e_setD]; rw [if_pos hn]; rfl,q⟩
theorem wp_asgN (w:Wp a st fun d s1=>npO s1[i]?=true∧QS .nx (s1.set i (.own d))):Wp (asgN i a) st QS:=by
 obtain ⟨x,s1,e1,hn,q⟩:=w
 exact ⟨_,_,by rw [e_asgN,e1]; simp only [Option.bind_some,e_setO]; rw [if_pos hn]; rfl,q⟩
theorem wp_par2 (w:Wp a st fun ds s1=>∃ x y,ds=[x,y]∧npO s1[i]?=true∧npO (s1.set i (.dat x))[j]?=true∧QS .nx ((s1.set i (.dat x)).set j (.dat y))):Wp (par2 i j a) st QS:=by
 obtain ⟨ds,s1,e1,x,y,rfl,h1,h2,q⟩:=w
 exact ⟨_,_,by rw [e_par2,e1]; simp only [Option.bind_some,e_setD]; rw [if_pos h1]; simp only [Option.bind_some]; rw [if_pos h2]; rfl,q⟩
theorem wp_asgT {g:D→AS→Option AS} (w:Wp f st fun d s1=>∃ s2,g d s1=some s2∧QS .nx s2):Wp (asgT f g) st QS:=by
 obtain ⟨x,s1,e1,s2,e2,q⟩:=w
 exact ⟨_,_,by unfold asgT; rw [e1]; simp only [Option.bind_some,e2]; rfl,q⟩
theorem wp_clr {vs:List Nat} (w:Wp s st fun fl s1=>match fl with
  | .nx=>QS .nx (clr s1 vs)
  | .cont=>QS .cont (clr s1 vs)
  | .brk=>QS .brk s1
  | .ret r=>QS (.ret r) s1):Wp (clrS vs s) st QS:=by
 obtain ⟨fl,s1,e1,q⟩:=w
 cases fl with
 | nx=>exact ⟨_,_,by unfold clrS; rw [e1]; rfl,q⟩
 | cont=>exact ⟨_,_,by unfold clrS; rw [e1]; rfl,q⟩
 | brk=>exact ⟨_,_,by unfold clrS; rw [e1]; rfl,q⟩
 | ret r=>exact ⟨_,_,by unfold clrS; rw [e1]; rfl,q⟩
theorem wp_loop {u:D→AS→Option AS} {b:SF} (I:List D→AS→Prop) (hs:∀ d ds s,I (d::ds) s→∃ s1,u d s=some s1∧Wp b s1 fun fl s2=>match fl with
  | .nx=>I ds s2
  | .cont=>I ds s2
  | .brk=>QS .nx s2
  | .ret r=>QS (.ret r) s2) (he:∀ s,I [] s→QS .nx s):∀ (ds:List D) (s:AS),I ds s→Wp (loopS u b ds) s QS
 | [],s,h=>⟨_,_,rfl,he s h⟩
 | d::ds,s,h=>by
  obtain ⟨s1,e1,fl,s2,e2,q⟩:=hs d ds s h
  cases fl with
  | nx=>
   obtain ⟨w,s3,e3,q⟩:=wp_loop I hs he ds s2 q
   exact ⟨w,s3,by simp only [loopS,e1,Option.bind_some,e2]; exact e3,q⟩
  | cont=>
   obtain ⟨w,s3,e3,q⟩:=wp_loop I hs he ds s2 q
   exact ⟨w,s3,by simp only [loopS,e1,Option.bind_some,e2]; exact e3,q⟩
  | brk=>exact ⟨_,_,by simp only [loopS,e1,Option.bind_some,e2],q⟩
  | ret r=>exact ⟨_,_,by simp only [loopS,e1,Option.bind_some,e2],q⟩
theorem wp_for {it:LF} {u:D→AS→Option AS} {b:SF} (w:Wp it st fun ds s1=>Wp (loopS u b ds) s1 QS):Wp (forS it u b) st QS:=by
 obtain ⟨ds,s1,e1,fl,s2,e2,q⟩:=w
 exact ⟨fl,s2,by unfold forS; rw [e1]; exact e2,q⟩
theorem wp_whileN {c:BF} {b:SF} (I:Nat→AS→Prop) (hs:∀ n s,I n s→Wp c s fun x s1=>if x=true then (∃ m,n=m + 1∧Wp b s1 fun fl s2=>match fl with
  | .nx=>I m s2
  | .cont=>I m s2
  | .brk=>QS .nx s2
  | .ret r=>QS (.ret r) s2) else QS .nx s1):∀ (n:Nat) (s:AS),I n s→∀ N,n < N→Wp (whileN c b N) s QS
 | n,s,h,0,hN=>absurd hN (Nat.not_lt_zero n)
 | n,s,h,N + 1,hN=>by
  obtain ⟨x,s1,e1,q⟩:=hs n s h
  split at q
  ·rename_i hx
   obtain ⟨m,rfl,fl,s2,e2,q⟩:=q
   cases fl with
   | nx=>
    obtain ⟨w,s3,e3,q⟩:=wp_whileN I hs m s2 q N (by omega)
    exact ⟨w,s3,by simp only [whileN,e1,Option.bind_some]; rw [if_pos hx,e2]; exact e3,q⟩
   | cont=>
    obtain ⟨w,s3,e3,q⟩:=wp_whileN I hs m s2 q N (by omega)
    exact ⟨w,s3,by simp only [whileN,e1,Option.bind_some]; rw [if_pos hx,e2]; exact e3,q⟩
   | brk=>exact ⟨_,_,by simp only [whileN,e1,Option.bind_some]; rw [if_pos hx,e2]; rfl,q⟩
   | ret r=>exact ⟨_,_,by simp only [whileN,e1,Option.bind_some]; rw [if_pos hx,e2]; rfl,q⟩
  ·rename_i hx
   exact ⟨_,_,by simp only [whileN,e1,Option.bind_some]; rw [if_neg hx],q⟩
theorem wp_while {c:BF} {b:SF} {ms:AS→Nat} (I:Nat→AS→Prop) (n:Nat) (h0:I n st) (hn:n < ms st) (hs:∀ n s,I n s→Wp c s fun x s1=>if x=true then (∃ m,n=m + 1∧Wp b s1 fun fl s2=>match fl with
  | .nx=>I m s2
  | .cont=>I m s2
  | .brk=>QS .nx s2
  | .ret r=>QS (.ret r) s2) else QS .nx s1):Wp (whileS c b ms) st QS:=wp_whileN I hs n st h0 (ms st) hn
theorem wp_compF {it:LF} {u:D→AS→Option AS} {tt:BF} {te:EF} {vs:List Nat} (w:Wp it st fun ds s1=>(allNo s1 vs=true∧ds.length ≤ sizeLine)∧Wp (compL u tt te vs ds) s1 QL):Wp (compF it u tt te vs) st QL:=by
 obtain ⟨ds,s1,e1,hc,ys,s2,e2,q⟩:=w
 exact ⟨ys,s2,by unfold compF; rw [e1]; simp only [Option.bind_some]; rw [if_pos hc]; exact e2,q⟩
end
theorem runP_wp {g:SF} {N:Nat} {ds:List D} {r:RV} (w:Wp g (st0 N ds) fun fl _=>fl=.ret r):runP g N ds=some r:=by
 obtain ⟨fl,s,e,rfl⟩:=w
 exact runP_of e
theorem runP_wpn {g:SF} {N:Nat} {ds:List D} (w:Wp g (st0 N ds) fun fl _=>fl=.nx):runP g N ds=some (.val .none):=by
 obtain ⟨fl,s,e,rfl⟩:=w
 unfold runP
 rw [e]
 rfl
theorem runQ_wp {g:SF} {N:Nat} {xs ds:List D} {P:RV→List D→Prop} (w:Wp g (st1 N xs ds) fun fl s=>∃ r ys,fl=.ret r∧s[0]?=some (.pen ys)∧P r ys):∃ r ys,runQ g N xs ds=some (r,ys)∧P r ys:=by
 obtain ⟨fl,s,e,r,ys,rfl,h,p⟩:=w
 exact ⟨r,ys,runQ_of e h,p⟩
end Xm
namespace Xm
open PySem PySem.Spec PyProof.Rows L2
section
variable {X:Cx} {C:Ct} {pos:Pos}
end
section
variable {X:Cx} {C:Ct} {pos:Pos} {elt tg iter tg1 iter1:Expr} {ifs ifs1:List Expr} {scope:Scope} {own:List (Str × Nat)} {it it1:LF} {u u1:D→AS→Option AS} {ts ts1:List Nat} {tt tt1:BF} {te:EF} {vs vs1:List Nat}
end
section
variable {it it1:LF} {u u1:D→AS→Option AS} {tt tt1:BF} {te:EF} {vs vs1:List Nat} {st:AS} {QL:List D→AS→Prop}
end
end Xm
namespace Xm
open PySem PySem.Spec PyProof.Rows L2
section
variable {prog:Program} {w:World} {A:Around} {E:Value→Shared→Prop} {s:Shared}
end
section
variable {X:Cx} {C:Ct} {pos p:Pos} {e:Expr} {es:List Expr}
end
end Xm
namespace Xm
open PySem PySem.Spec PyProof.Rows L2
section
variable {z TI TO i1 i2 i3:Addr} {q1 q2 q3:List Addr}
end
section
variable {prog:Program} {w:World} {A:Around} {E:Value→Shared→Prop} {s:Shared}
end
section
variable {prog:Program} {w:World} {A:Around} {E:Value→Shared→Prop} {s:Shared}
end
section
variable {prog:Program} {w:World} {A:Around} {E:Value→Shared→Prop} {s:Shared}
end
section
variable {prog:Program} {w:World} {A:Around} {E:Value→Shared→Prop} {s:Shared} {z TI TO i1 i2:Addr} {q1 q2:List Addr} {n i:Nat} {P1 P2:Nat→Value→Prop} {T1 T2:Nat→Heap→Prop} {a1 a2 f0 f1:Value}
end
section
variable {prog:Program} {w:World} {A:Around} {E:Value→Shared→Prop} {s:Shared} {z TI TO i1 i2:Addr} {q1 q2:List Addr} {n i:Nat} {P1 P2:Nat→Value→Prop} {T1 T2:Nat→Heap→Prop} {a1 a2 f0 f1:Value}
end
section
variable {prog:Program} {w:World} {A:Around} {E:Value→Shared→Prop} {s:Shared} {z TI TO i1 i2 i3:Addr} {q1 q2 q3:List Addr} {n i:Nat} {P1 P2 P3:Nat→Value→Prop} {T1 T2 T3:Nat→Heap→Prop} {a1 a2 a3 f0 f1:Value}
end
end Xm
namespace Xm
open PySem PySem.Spec PyProof.Rows L2
end Xm
namespace Xm
open PySem PySem.Spec PyProof.Rows L2
section
variable {prog:Program} {w:World} {A:Around} {E:Value→Shared→Prop} {s:Shared}
end
end Xm
namespace Xm
open PySem PySem.Spec PyProof.Rows L2
section
variable {M:Model} {A:Around} {E:Value→Shared→Prop} {s:Shared} {env:Env}
end
section
variable {X:Cx} {C:Ct} {pos p tpos p2 kp:Pos} {elts:List Expr} {kk j:Nat} {a b c:Expr} {f g h:EF} {ta:TA}
end
section
variable {f g h:EF} {st:AS} {QL:List D→AS→Prop}
end
end Xm
namespace Xm
open PySem PySem.Spec PyProof.Rows L2
section
variable {prog:Program} {w:World} {A:Around} {E:Value→Shared→Prop} {s:Shared} {z TI TO i1 i2 a1 a2 S:Addr} {sb b1 b2:Bool} {u1 u2:Array Value} {i:Nat}
end
section
variable {prog:Program} {w:World} {A:Around} {s:Shared} {R:Result→Shared→Prop} {z TI TO i1 i2 a1 a2 S:Addr} {sb b1 b2:Bool} {u1 u2:Array Value}
end
section
variable {prog:Program} {w:World} {A:Around} {s:Shared} {R:Result→Shared→Prop} {z TI TO i1 i2 a1 a2 S:Addr} {sb b1 b2:Bool} {u1 u2:Array Value}
end
section
variable {prog:Program} {w:World} {A:Around} {E:Value→Shared→Prop} {s:Shared} {z TI TO i1 i2 a1 a2:Addr} {sb b1 b2:Bool} {u1 u2:Array Value}
end
end Xm
namespace Xm
open PySem PySem.Spec PyProof.Rows L2
section
variable {X:Cx} {C:Ct} {pos p pos2 q p2 kp:Pos} {j:Nat} {a b:Expr} {f g:EF} {ta:TA}
end
section
variable {X:Cx} {C:Ct} {pos p pos2 q p2 kp:Pos} {j:Nat} {a b:Expr} {f g:EF}
end
end Xm
namespace Xm
open PySem PySem.Spec PyProof.Rows L2
section
variable {prog:Program} {w:World} {A:Around} {R:Result→Shared→Prop} {s:Shared} {elt:Expr} {gs:List Comprehension} {sco:Scope} {ps:Pos} {k:Nat} {t0:Expr} {ifs:List Expr} {p:Pos} {act:(Unit→Sem PySem.Fin)→Sem PySem.Fin} {it acc:Value} {env:Env}
end
section
variable {prog:Program} {w:World} {A:Around} {R:Result→Shared→Prop} {s:Shared} {elt t0 i0 t1 i1 t2 i2:Expr} {f0 f1 f2:List Expr} {scope:Scope} {pos:Pos} {it acc:Value} {env:Env}
end
abbrev TB:=L2.St→Hp→(Hp→Prop)→Prop
section
variable {X:Cx} {elt:Expr} {gs:List Comprehension} {sco:Scope} {ps:Pos} {k:Nat} {t0 i0:Expr} {ifs:List Expr} {p:Pos} {act:(Unit→Sem PySem.Fin)→Sem PySem.Fin} {D:Addr} {wi:TI} {g:TG} {tt:TT} {B:TB} {vs vs1:List Nat}
end
end Xm
namespace Xm
open PySem PySem.Spec PyProof.Rows L2
section
variable {X:Cx}
section
variable {elt tg iter tg1 iter1 tg2 iter2:Expr} {ifs ifs1 ifs2:List Expr} {scope:Scope} {own:List (Str × Nat)} {vs1 vs2:List Nat} {pos:Pos} {wi wi1 wi2:TI} {g g1 g2:TG} {tt tt1 tt2:TT} {te:TE}
end
end
abbrev RowF:=AS→Option (List D × AS)
section
variable {X:Cx} {C:Ct} {pos:Pos} {elt tg iter tg1 iter1 tg2 iter2:Expr} {ifs ifs1 ifs2:List Expr} {scope:Scope} {own:List (Str × Nat)} {it it1 it2:LF} {u u1 u2:D→AS→Option AS} {ts ts1 ts2:List Nat} {tt tt1 tt2:BF} {te:EF} {vs vs1 vs2:List Nat}
end
section
variable {it:LF} {u:D→AS→Option AS} {tt:BF} {te:EF} {body:RowF} {vs:List Nat} {st:AS} {QL:List D→AS→Prop}
end
end Xm
namespace Xm
open PySem PySem.Spec PyProof.Rows L2
theorem Rel.withW {K:Kx} {C:Ct} {F H:Hp} {st:AS} {σ:L2.St} {W:WX} (R:Rel K C F st σ H):Rel K { C with W:=W } F st σ H:=
 ⟨R.len,R.f0,R.fh,R.old,R.new,fun i s e=>by have q:=R.slot i s e; cases s <;> exact q,R.apart,R.penh,R.pent,R.tab⟩
theorem Rel.unW {K:Kx} {C:Ct} {F H:Hp} {st:AS} {σ:L2.St} {W:WX} (R:Rel K { C with W:=W } F st σ H):Rel K C F st σ H:=
 ⟨R.len,R.f0,R.fh,R.old,R.new,fun i s e=>by have q:=R.slot i s e; cases s <;> exact q,R.apart,R.penh,R.pent,R.tab⟩
structure ExC (K:PySem.W.Frag) (mg:Str→Option Value) (n:Str) (C:Addr) (bmB:List Value) (newId:String):Prop where
 mg:mg n=some (.ref C)
 q:PySem.W.excIn K C bmB newId=true
 keep:PySem.W.keepIn K (.ref C)=true
 sub:PySem.W.subIn K (.ref C) (.type "BaseException")=some true
 ty:PySem.W.typeIn K (.ref C)=some (.type "type")
section
variable {X:Cx} {C:Ct} {pos p p2 cpos:Pos}
end
def xOf (K:Kx) (C:Ct) (f:AS→Option (RV × AS)):TE:=fun σ H Q=>∃ F st r,Rel K C F st σ H∧f st=some r∧match r.1 with
 | .val d=>∀ v H' F',Same F F'→Rel K C F' r.2 σ H'→Dp K F' v d→Q v H'
 | .new xs=>∀ (a:Addr) (vs:List V) H' F',Same F F'→Rel K C F' r.2 σ H'→C.H0 a=none→F' a=none→H' a=some (.lst vs)→(∀ j,Mu r.2 j→σ[j]?≠some (some (.ref a)))→DpAll K F' vs xs→Q (.ref a) H'
 | .dct kvs=>∀ (a:Addr) (u:HO) H' F',Same F F'→Rel K C F' r.2 σ H'→C.H0 a=none→F' a=none→H' a=some u→(∀ j,Mu r.2 j→σ[j]?≠some (some (.ref a)))→DR K F' a u kvs→Q (.ref a) H'
 | .exc x=>∀ cls d H' F',Same F F'→Rel K C F' r.2 σ H'→ExOk K F' x cls d→C.W cls d σ H'
theorem callP_x {K:Kx} {C:Ct} {mf:List D→Option RV} {g:LF} {n:Nat} {σ:L2.St} {H:Hp} {Q:VK} {dvs:List V} {dds:List D} {E:XK} (hE:∀ cls d H',C.W cls d σ H'→E cls d H') (hd:∀ F,DpAll K F dvs dds) (hn:∀ st r,g st=some r→(r.1++dds).length=n)
  (q:xOf K C (callP mf dds g) σ H Q):tCall (spP K n mf) dvs E (aOf K C g) σ H Q:=by
 obtain ⟨F,st,w,R,ec,q⟩:=q
 obtain ⟨a,ea,ec⟩:=Option.bind_eq_some_iff.mp ec
 obtain ⟨r,er,ec⟩:=Option.map_eq_some_iff.mp ec
 cases ec
 refine ⟨F,st,a,R,ea,fun vs H1 F1 s1 R1 d1=>?_⟩
 have dd:=DpAll_app d1 (hd F1)
 refine ⟨by rw [DpAll_len dd]; exact hn st a ea,F1,_,r,R1.fh,dd,er,fun v F2 H2 gr ok=>?_,fun x hx cls d F2 H2 gr ok=>?_⟩
 ·have R2:=R1.grow gr
  cases r with
  | val d=>exact q v H2 F2 (s1.trans gr.ff) R2 ok
  | new xs=>
   obtain ⟨p,rfl,hp,hF,us,hH,hu⟩:=ok
   obtain ⟨A,_⟩:=R1.aside hp
   exact q p us H2 F2 (s1.trans gr.ff) R2 A.h0 hF hH (fun j hj=>A.ap j hj) hu
  | dct kvs=>
   obtain ⟨p,rfl,hp,hF,u,hH,hu⟩:=ok
   obtain ⟨A,_⟩:=R1.aside hp
   exact q p u H2 F2 (s1.trans gr.ff) R2 A.h0 hF hH (fun j hj=>A.ap j hj) hu
  | exc x=>exact ok.elim
 ·subst hx
  exact hE cls d H2 (q cls d H2 F2 (s1.trans gr.ff) (R1.grow gr) ok)
def asgX (i:Nat) (c:AS→Option (RV × AS)):SF:=fun st=>(c st).bind fun r=>match r.1 with
 | .exc x=>some (.ret (.exc x),r.2)
 | .val d=>(setD i d r.2).map fun st'=>(.nx,st')
 | .new xs=>(setD i (.list xs) r.2).map fun st'=>(.nx,st')
 | .dct _=>none
def dropX (c:AS→Option (RV × AS)):SF:=fun st=>(c st).map fun r=>match r.1 with
 | .exc x=>(.ret (.exc x),r.2)
 | _=>(.nx,r.2)
section
variable {X:Cx} {C:Ct} {j k n m i:Nat} {x y:Str} {p p1 pos:Pos} {e:Expr} {es:List Expr} {g:LF} {mf:List D→Option RV} {dds:List D} {c:AS→Option (RV × AS)}
theorem runGS {pins:List (Addr × Obj)} {σ:L2.St} {H:Hp} {s:Shared} {Q:VK} {us:List Value} {vs dvs:List V} {f:Addr} {fd:FuncData} {ps:List Str} {ds:List Value} {sp:Sp} {E:XK} (G:FnG X.prog X.w X.K X.mg X.base (CXM X.prog X.w) k f fd ps sp) (hr:Room k X.A) (gd:X.A.guards=some []) (hb:Binds X.K fd ps ds) (hd:Vals dvs ds)
  (hx:PassesAt (CXM X.prog X.w) X σ E) (I:Inv X pins σ H s) (r:Vals vs us) (h:sp (vs++dvs) H Q E):wpAny (model X.prog X.w) X.A (call (.ref f) us) (EP X pins σ Q) X.xe s:=by
 have r2:Vals (vs++dvs) (us++ds):=r.append hd
 have hl:(us++ds).length=ps.length:=by rw [← r2.length,G.arity _ _ _ _ h]
 refine wpAny_call (codeAny_mono (G.go X.A X.stack s H ⟨us,[]⟩ (us++ds) (vs++dvs) Q E hr gd I.env0 (hb s us I.kIn hl) r2 h) fun res s' hq=>?_)
 match res,hq with
 | .error e,hq=>exact hx pins H s e s' I hq
 | .ok (.ret u),hq=>exact I.after hq
theorem xx_call (h:Has X.prog X.w X.K X.mg X.base j x n dds mf) (tk:Takes X C.W) (hr:Room k X.A) (gd:X.A.guards=some []) (hjk:j ≤ k) (ha:PA X (e::es) (aOf (kxOf X) C g)) (hn:ArN g m) (hnm:m + dds.length=n:=by rfl) (hg:Gl X x:=by rfl)
  (he:starEach (e::es) X.env=(false,eval e X.env)::starEach es X.env:=by rfl) (hpl:(backTo pos (starEach es X.env)).any (·.1)=false:=by rfl) (hdb:(x == ("__debug__" : Str))=false:=by decide) :
  PE X (.Call (.Name x p) (e::es) [] pos) (xOf (kxOf X) C (callP mf dds g)):=by
 obtain ⟨f,fd,ps,dvs,ds,G,hm,hk,hb,hv,hd⟩:=h.ex
 refine ⟨fun pins s σ H Q I q=>wpAny_Call_Name_kw (ld_glob I hg hm ?_ hdb)⟩
 have q2:=callP_x (n:=n) (E:=fun cls d H'=>C.W cls d σ H') (fun _ _ _ z=>z) hd (fun st r er=>by rw [List.length_append,hn st r er]; exact hnm) q
 refine PySem.W.callWith_K (h₀:=X.base) I.ok.mod.kin hk (thn (ha.run pos pins s σ H _ I q2) fun us s1 ⟨vs,H1,I1,r,q⟩=>?_) he hpl
 exact ⟨I1.kIn,runGS G (hr.mono hjk) gd hb hv (passAt tk σ) I1 r q⟩
theorem xs_setX {pos':Pos} (hN:X.N.Nodup) (he:PE X e (xOf (kxOf X) C c)) (hi:X.N[i]?=some x) (hx:Loc X.env.scope x) (hs:swapsWith e (some (.Name x pos')) pos.line X.env=pure false:=by rfl) (hf:X.fn x=true∨X.env.scope.names.lookup x=some .local:=by first | exact .inl rfl | exact .inr rfl | assumption) :
  PS X (.Assign [.Name x pos'] e pos) (sOf (kxOf X) C (asgX i c)):=ps_wk (ps_set hN hi hx he hs hf) fun Z σ H q=>by
 obtain ⟨F,st,w,R,e,q⟩:=q
 obtain ⟨r,er,e⟩:=Option.bind_eq_some_iff.mp e
 refine ⟨F,st,r,R,er,?_⟩
 obtain ⟨r1,r2⟩:=r
 cases r1 with
 | val d=>
  obtain ⟨st',es,e⟩:=Option.map_eq_some_iff.mp e
  cases e
  exact fun v H1 F1 s1 R1 d1=>q _ H1 F1 s1 (R1.setD es d1)
 | new xs=>
  obtain ⟨st',es,e⟩:=Option.map_eq_some_iff.mp e
  cases e
  refine fun p vs H1 F1 s1 R1 h0 h1 h2 h3 d1=>?_
  obtain ⟨k1,k2,k3⟩:=R1.freezeNew h0 h1 h2 h3 d1
  exact q _ H1 _ (s1.trans k1) (k2.setD es k3)
 | dct kvs=>cases e
 | exc x=>
  cases e
  exact fun cls d H1 F1 s1 R1 d1=>q cls d σ H1 F1 s1 R1 d1
theorem xs_dropX (he:PE X e (xOf (kxOf X) C c)) (hs:swapsWith e none pos.line X.env=pure false:=by rfl):PS X (.Expr e pos) (sOf (kxOf X) C (dropX c)):=ps_wk (ps_expr he hs) fun Z σ H q=>by
 obtain ⟨F,st,w,R,e,q⟩:=q
 obtain ⟨r,er,e⟩:=Option.map_eq_some_iff.mp e
 refine ⟨F,st,r,R,er,?_⟩
 obtain ⟨r1,r2⟩:=r
 cases r1 with
 | val d=>cases e; exact fun v H1 F1 s1 R1 d1=>q σ H1 F1 s1 R1
 | new xs=>cases e; exact fun p vs H1 F1 s1 R1 h0 h1 h2 _ d1=>q σ H1 F1 s1 R1
 | dct kvs=>cases e; exact fun p u H1 F1 s1 R1 h0 h1 h2 _ d1=>q σ H1 F1 s1 R1
 | exc x=>cases e; exact fun cls d H1 F1 s1 R1 d1=>q cls d σ H1 F1 s1 R1 d1
end
section
variable {X:Cx} {C:Ct} {pos pos' np:Pos} {x:Str} {c:Value} {body suite:List Stmt} {b₀:Stmt} {b h:SF} {ct:Str→Option Bool}
end
theorem excIn_mk {K:PySem.W.Frag} {C N:Addr} {nm q:Str} {bs bm:List Value} {hd:Bool} {sn:List Str} {sub:List Value} {ab:Bool} {col:Option Bool} {dd dN:Option Addr} {k0 k1 k2 k3 k5:Option Value} {newId:String} {cN:Value} {es:Array DictEntry} {nN:Nat} {sN:Array (Option Value)}
  (l:K.lookup C=some (excClassObj nm q C N bs bm hd sn sub ab col dd k0 k1 k2 k3 k5 newId)) (lN:K.lookup N=some ⟨cN,dN,.dict es nN,sN⟩) (o:(es.toList.all fun e=>match e.key with | .str _ _=>true | _=>false)=true) (ni:PySem.W.nsIn K N "__init__" = some none) (ne:bm.isEmpty=false):PySem.W.excIn K C bm newId=true:=by
 have t:PySem.W.tailIn K bm bm=true:=by
  cases bm with
  | nil=>cases ne
  | cons v r=>unfold PySem.W.tailIn; rw [beq_self_eq_true]; rfl
 have n2:PySem.W.nsOkIn K N=true:=by
  unfold PySem.W.nsOkIn
  rw [lN]
  show es.all _=true
  rw [← Array.all_toList]
  exact o
 unfold PySem.W.excIn
 rw [l]
 simp only [t,n2,ni,beq_self_eq_true,Bool.not_false,Bool.and_self]
theorem exm_of {K:PySem.W.Frag} {D S:Addr} {b:Bool} (h1:PySem.W.subIn K (.ref S) (.type "BaseException")=some true) (h2:PySem.W.isClsIn K S=true) (h3:PySem.W.typeIn K (.ref S)=some (.type "type")) (h4:PySem.W.subIn K (.ref D) (.ref S)=some b) :
  PySem.W.exmOne K (.ref D) (.ref S)=some b:=by
 have e1:(PySem.W.subIn K (.ref S) (.type "BaseException") == some true)=true:=by rw [h1] <;> rfl
 have e2:((PySem.W.clsIn K S).isSome && PySem.W.typeIn K (.ref S) == some (.type "type"))=true:=by
  have h2':(PySem.W.clsIn K S).isSome=true:=h2
  rw [h2',h3] <;> rfl
 show (if (PySem.W.subIn K (.ref S) (.type "BaseException") == some true)=true then (if ((PySem.W.clsIn K S).isSome && PySem.W.typeIn K (.ref S) == some (.type "type"))=true then PySem.W.subIn K (.ref D) (.ref S) else none) else none)=some b
 rw [if_pos e1,if_pos e2]
 exact h4
def ct1 (n:Str) (b:Bool):Str→Option Bool:=fun m=>if m=n then some b else none
theorem cx_takes {P:Program} {w:World} {K:PySem.W.Frag} {mg:Str→Option Value} {base:Heap} {N:List Str} {q:Str} {sc:Scope} {f:Addr} {cd:Value} {A:Around} {outer:List Env} {s:Shared} {H:Hp} {E:XK} {C:Ct} (hW:C.W=fun cls d _ H=>E cls d H):Takes (cxOf (CXM P w) P w K mg base N q sc f cd A outer s H E) C.W:=by
 rw [hW]
 exact takes_of rfl rfl rfl rfl
theorem cx_passes {P:Program} {w:World} {K:PySem.W.Frag} {mg:Str→Option Value} {base:Heap} {N:List Str} {q:Str} {sc:Scope} {f:Addr} {cd:Value} {A:Around} {outer:List Env} {s:Shared} {H:Hp} {E:XK}:PassesOwn (model P w) (A.deeper (envOfC q sc s.heap.objs.size f cd)) (envOfC q sc s.heap.objs.size f cd) (cxOf (CXM P w) P w K mg base N q sc f cd A outer s H E).xe:=passes_of (X:=cxOf (CXM P w) P w K mg base N q sc f cd A outer s H E) rfl
section
variable {c:AS→Option (RV × AS)} {st:AS} {i:Nat} {QS:Fl→AS→Prop} {b h:SF} {ct:Str→Option Bool}
theorem wp_asgX (w:Wp c st fun r s1=>match r with
  | .exc x=>QS (.ret (.exc x)) s1
  | .val d=>npO s1[i]?=true∧QS .nx (s1.set i (.dat d))
  | .new xs=>npO s1[i]?=true∧QS .nx (s1.set i (.dat (.list xs)))
  | .dct kvs=>False):Wp (asgX i c) st QS:=by
 obtain ⟨r,s1,e,q⟩:=w
 cases r with
 | exc x=>exact ⟨_,_,by unfold asgX; rw [e]; rfl,q⟩
 | val d=>exact ⟨_,_,by unfold asgX; rw [e]; simp only [Option.bind_some,e_setD]; rw [if_pos q.1]; rfl,q.2⟩
 | new d=>exact ⟨_,_,by unfold asgX; rw [e]; simp only [Option.bind_some,e_setD]; rw [if_pos q.1]; rfl,q.2⟩
 | dct d=>exact q.elim
theorem wp_dropX (w:Wp c st fun r s1=>match r with
  | .exc x=>QS (.ret (.exc x)) s1
  | _=>QS .nx s1):Wp (dropX c) st QS:=by
 obtain ⟨r,s1,e,q⟩:=w
 cases r <;> exact ⟨_,_,by unfold dropX; rw [e]; rfl,q⟩
end
end Xm
namespace Xm
open PySem PySem.Spec PyProof.Rows L2
def tLockv (t:TE):TE:=fun σ H Q=>t σ H fun v H1=>Q v H1∨∃ d u,v=.ref d∧H1 d=some u∧Mut (some u)∧∀ od,Q v (upd H1 d (.frz od u))
theorem pe_lockv {X:Cx} {e:Expr} {t:TE} (h:PE X e t):PE X e (tLockv t):=by
 refine ⟨fun pins s σ H Q I hw=>?_⟩
 refine thn (h.run pins s σ _ _ I hw) fun v s1 ⟨x,H1,I1,r,z⟩=>?_
 rcases z with q | ⟨d,u,e1,hd,mu,q⟩
 ·exact ⟨x,H1,I1,r,q⟩
 ·obtain ⟨od,I2⟩:=I1.lock hd mu
  exact ⟨x,_,I2,r,q od⟩
section
variable {X:Cx} {C:Ct} {pos:Pos}
theorem xd_emp:PE X (.Dict [] [] pos) (dOf (kxOf X) C (cst (.dict []))):=pe_wk (pe_lockv pe_dnewK) fun σ H Q q=>by
 obtain ⟨F,st,w,R,e,q⟩:=q
 cases e
 intro p hp
 refine .inr ⟨p,.dK [],rfl,upd_same,True.intro,fun od=>?_⟩
 rw [upd_upd]
 have g:=Gr.new (o:=.frz od (.dK [])) R.fh hp
 exact q _ _ _ g.ff (R.grow g) (.dky (ps:=[]) upd_same rfl rfl (Nat.zero_le _) .nil)
end
section
variable {X:Cx} {C:Ct} {pos:Pos} {a b c:Expr} {f g h:EF} {r r':R2} {k k':D→D→Option D}
theorem xt_chain {op op':CmpOp} (ho:OpR X (compareOp op) r) (ok:Ok2 (kxOf X) r k) (ho':OpR X (compareOp op') r') (ok':Ok2 (kxOf X) r' k') (ha:PE X a (dOf (kxOf X) C f)) (hb:PE X b (dOf (kxOf X) C g)) (hc:PE X c (dOf (kxOf X) C h))
  (hm:lastMarks [op,op'] [b,c]=false:=by with_unfolding_all rfl):PT X (.Compare a [op,op'] [b,c] pos) (bOf (kxOf X) C (valB (chE k k' f g h))):=pt_wk (pt_chain ho ho' ha hb hc hm) fun σ H Q q=>by
 obtain ⟨F,st,w,R,e,q⟩:=q
 obtain ⟨a,ea,e⟩:=Option.bind_eq_some_iff.mp e
 split at e
 ·rename_i b hb
  cases e
  exact chE_ok (C:=C) ok ok' ⟨F,st,a,R,ea,fun v H1 F1 s1 R1 d1=>⟨b,dp_bl (hb ▸ d1),q H1 F1 s1 R1⟩⟩
 ·cases e
theorem xt_lele (ha:PE X a (dOf (kxOf X) C f)) (hb:PE X b (dOf (kxOf X) C g)) (hc:PE X c (dOf (kxOf X) C h)) (hm:lastMarks [.LtE,.LtE] [b,c]=false:=by with_unfolding_all rfl):PT X (.Compare a [.LtE,.LtE] [b,c] pos) (bOf (kxOf X) C (valB (chE kLe kLe f g h))):=xt_chain op_le ok_le op_le ok_le ha hb hc hm
end
theorem wp_chE {k k':D→D→Option D} {f g h:EF} {st:AS} {QD:D→AS→Prop} (w:Wp f st fun a s1=>Wp g s1 fun b s2=>∃ z,k a b=some (.bool z)∧if z=true then Wp h s2 fun c s3=>∃ y,k' b c=some y∧QD y s3 else QD (.bool false) s2):Wp (chE k k' f g h) st QD:=by
 obtain ⟨a,s1,e1,b,s2,e2,z,e3,q⟩:=w
 cases z with
 | true=>
  rw [if_pos rfl] at q
  obtain ⟨c,s3,e4,y,e5,q⟩:=q
  exact ⟨y,s3,by rw [e_chE,e1]; simp only [Option.bind_some,e2,e3,e4,e5]; rfl,q⟩
 | false=>
  rw [if_neg Bool.false_ne_true] at q
  exact ⟨_,s2,by rw [e_chE,e1]; simp only [Option.bind_some,e2,e3],q⟩
theorem ex_le {i j:Int} {P:Bool→Prop} (q:P (decide (i ≤ j))):∃ z,kLe (.int i) (.int j)=some (.bool z)∧P z:=⟨_,rfl,q⟩
section
variable {X:Cx} {C:Ct} {pos:Pos} {a b e:Expr} {rest:List Expr} {f g:EF}
end
section
variable {f g:EF} {st:AS} {QD:D→AS→Prop} {QB:Bool→AS→Prop}
end
end Xm
namespace Xm
open PySem PySem.Spec PyProof.Rows L2
section
variable {κ:Type} [DecidableEq κ] {K:Kx} {F:Hp} {kf:κ→NestedKey}
end
section
variable {K:Kx} {F:Hp} {kvs:List (D × D)} {xs:List (NestedKey × Addr × Value)} {kd d:D} {k:NestedKey} {b:Addr} {w:Value} {v:V}
end
section
variable {X:Cx} {pins:List (Addr × Obj)} {σ:L2.St} {H F:Hp} {s:Shared} {a:Addr} {u:HO} {kvs:List (D × D)} {A:Around} {E:Value→Shared→Prop} {k d:D} {yv vv:V} {y w:Value}
end
end Xm
namespace Xm
open PySem PySem.Spec PyProof.Rows L2
section
variable {K:Kx} {C:Ct} {F F' H H':Hp} {st:AS} {σ:L2.St} {i:Nat} {kvs:List (D × D)} {a:Addr}
end
def frz (i:Nat):EF:=fun st=>match st[i]? with
 | some (.dct kvs)=>some (.dict kvs,st.set i (.dat (.dict kvs)))
 | some (.dat (.dict kvs))=>some (.dict kvs,st)
 | _=>none
section
variable {X:Cx} {C:Ct} {pos spos:Pos} {o ix e:Expr} {f g:EF} {i:Nat}
end
section
variable {X:Cx} {C:Ct} {o e f:Expr} {apos cpos:Pos} {td ty tx:TE} {g h k:EF} {i:Nat}
end
abbrev MF:=AS→Option (List (D × D) × AS)
section
variable {X:Cx} {C:Ct} {pos:Pos} {o e f:Expr} {apos cpos:Pos} {g h k:EF} {m:MF} {i:Nat}
end
section
variable {X:Cx} {C:Ct} {pos:Pos} {o e f:Expr} {apos cpos:Pos} {g h k:EF} {i:Nat}
end
section
variable {st:AS} {f g h k:EF} {m:MF} {i:Nat} {kvs:List (D × D)} {QD:D→AS→Prop} {QS:Fl→AS→Prop} {QM:List (D × D)→AS→Prop}
end
section
variable {X:Cx} {C:Ct} {pos:Pos} {o e:Expr} {g:EF} {i:Nat}
end
end Xm
namespace Xm
open PySem PySem.Spec PyProof.Rows L2
section
variable {X:Cx} {pins:List (Addr × Obj)} {σ:L2.St} {H F:Hp} {s:Shared} {a:Addr} {u:HO} {kvs:List (D × D)}
end
section
variable {X:Cx} {C:Ct} {pos p:Pos} {a b:Expr} {f g:EF}
end
section
variable {X:Cx} {o:Expr} {p pos apos mpos:Pos} {td:TE}
end
section
variable {X:Cx} {C:Ct} {o:Expr} {p pos apos mpos:Pos} {f:EF}
end
end Xm
namespace Xm
open PySem PySem.Spec PyProof.Rows L2
section
variable {X:Cx} {C:Ct} {tg e:Expr} {td:TE} {f:EF}
end
section
variable {X:Cx}
end
section
variable {X:Cx}
end
section
variable {X:Cx}
end
section
variable {X:Cx} {C:Ct} {pos spos py:Pos} {kx vx tg iter:Expr} {ifs:List Expr} {scope:Scope} {own:List (Str × Nat)} {it:LF} {u:D→AS→Option AS} {ts:List Nat} {tt:BF} {tk tv:EF} {vs:List Nat} {i:Nat} {y:Str}
end
section
variable {X:Cx} {C:Ct} {pos p apos cpos:Pos} {o e:Expr} {g:LF}
end
end Xm
namespace Xm
open PySem PySem.Spec PyProof.Rows L2
section
variable {X:Cx} {pins:List (Addr × Obj)} {σ:L2.St} {H:Hp} {s:Shared}
end
section
variable {X:Cx} {C:Ct} {pos p:Pos} {e:Expr} {f:EF}
end
end Xm
namespace Xm
open PySem PySem.Spec PyProof.Rows L2
section
variable {X:Cx}
end
section
variable {X:Cx} {C:Ct} {pos:Pos} {a b:Expr} {f g:EF}
end
section
variable {prog:Program} {w:World} {A:Around} {E:Value→Shared→Prop} {s:Shared}
end
section
variable {X:Cx}
end
section
variable {X:Cx} {C:Ct} {pos p:Pos} {a b:Expr} {g:LF}
end
end Xm
namespace Xm
open PySem PySem.Spec PyProof.Rows L2 PySem.W PySem.F
section
variable {prog:Program} {w:World} {A:Around} {E:Value→Shared→Prop} {s:Shared}
end
section
variable {X:Cx} {C:Ct} {pos p:Pos} {a:Expr} {f:EF}
end
end Xm
namespace Xm
open PySem PySem.Spec PyProof.Rows L2
section
variable {X:Cx} {C:Ct} {pos:Pos} {e:Expr} {m:MF}
end
section
variable {K:Kx} {C:Ct} {mf:List D→Option RV} {g:LF} {n:Nat} {σ:L2.St} {H:Hp} {Q:VK} {dvs:List V} {dds:List D} {E:XK}
end
section
variable {X:Cx} {C:Ct} {j k n m:Nat} {x:Str} {p pos:Pos} {e:Expr} {es:List Expr} {g:LF} {mf:List D→Option RV} {dds:List D}
end
inductive PsOk (X:Cx):List (Option Expr)→List Expr→List (D × EF)→Prop
 | nil:PsOk X [] [] []
 | cons {ke ve:Expr} {ks:List (Option Expr)} {vs:List Expr} {k:D} {f:EF} {r:List (D × EF)} (hk:∀ C:Ct,PE X ke (dOf (kxOf X) C (cst k))) (hv:∀ C:Ct,PE X ve (dOf (kxOf X) C f)) (hr:PsOk X ks vs r):PsOk X (some ke::ks) (ve::vs) ((k,f)::r)
section
variable {X:Cx} {C:Ct} {pos:Pos} {keys:List (Option Expr)} {values:List Expr} {ps:List (D × EF)}
end
section
variable {P:Program} {w:World} {K:Kx} {mg:Str→Option Value} {base:Heap} {CX:CXT} {k:Nat} {f:Addr} {fd:FuncData} {ps N:List Str} {W:WX}
end
section
variable {P:Program} {w:World} {K:PySem.W.Frag} {mg:Str→Option Value} {base:Heap} {CX:CXT} {k j:Nat} {f:Addr} {fd:FuncData} {ps N:List Str} {dvs:List V}
end
section
variable {K:Kx} {C:Ct} {mq:List (D × D)→List D→Option (RV × List (D × D))} {g:LF} {n:Nat} {σ:L2.St} {H:Hp} {Q:VK} {E:XK}
end
section
variable {X:Cx} {C:Ct} {j k n m:Nat} {x:Str} {p pos:Pos} {e:Expr} {es:List Expr} {g:LF} {mq:List (D × D)→List D→Option (RV × List (D × D))}
end
section
variable {st:AS} {m:MF} {i:Nat} {kvs:List (D × D)} {QS:Fl→AS→Prop} {QM:List (D × D)→AS→Prop} {QR:RV→AS→Prop} {a:LF}
end
end Xm
namespace Xm
open PySem PySem.Spec PyProof.Rows L2
section
variable {prog:Program} {w:World} {A:Around} {E:Value→Shared→Prop} {s:Shared}
end
section
variable {prog:Program} {w:World} {A:Around} {E:Value→Shared→Prop} {s:Shared}
end
section
variable {X:Cx} {C:Ct} {pos p tpos:Pos} {elts:List Expr} {kk:Nat} {a:Expr} {f:EF}
end
theorem wp_bN {k:List D→Option D} {g:LF} {st:AS} {QD:D→AS→Prop} (w:Wp g st fun xs s1=>∃ z,k xs=some z∧QD z s1):Wp (bN k g) st QD:=by
 obtain ⟨xs,s1,e,z,ez,q⟩:=w
 exact ⟨z,s1,by unfold bN; rw [e]; simp only [Option.bind_some,ez]; rfl,q⟩
section
variable {X:Cx} {C:Ct} {pos p p2:Pos} {a:Expr} {i:Nat}
end
section
variable {X:Cx} {C:Ct} {pos p tpos:Pos} {elts:List Expr} {kk:Nat} {a:Expr} {f:EF}
end
end Xm
namespace Xm
open PySem PySem.Spec PyProof.Rows L2
section
variable {K:Kx}
end
section
variable {X:Cx} {C:Ct} {pos p:Pos} {a b:Expr} {f g:EF}
end
section
variable {X:Cx}
theorem t_mul_int (l:Addr) (items:Array Value) (n:Nat) (d:Option Addr) (sl:Array (Option Value)) (x:Int) (u:Tok) (hc0:¬(!Builtin.List.listFitsIndex x)=true)
  (hc1:¬items.size * x.toNat > (2 ^ 63 - 1) / 8) (hc2:¬Builtin.List.listTooLong (items.size * x.toNat)=true) :
  Meets (Builtin.«list.__mul__» ⟨[.ref l,.int x u],[]⟩) (fun _ R s=>s.heap.get? l=some { cls:=.type "list", dict:=d,data:=.seq items n,slots:=sl }∧R (.ok (.ret (Value.ref s.heap.objs.size))) { s with heap:=s.heap.push { cls:=Value.type "list", data:=Data.seq (List.foldl (fun x1 x2=>x1++x2) #[] (List.replicate (if items.isEmpty=true then 0 else x.toNat) items)) },toks:=s.toks }):=
 .of_wp fun prog w A R s h=>by
  obtain ⟨hp,g,d,tk,os⟩:=s; obtain ⟨hl,h⟩:=h
  have hsz:=AutoListH.joined_fits hc2
  wp_walk; refine wpAny_ite_false (decide_eq_false (Nat.not_lt.mpr hsz)) ?_; wp_walk; exact ⟨_,rfl,h⟩
theorem t_rmul_int (a:Int) (t:Tok) (l:Addr) (items:Array Value) (n:Nat) (d:Option Addr) (sl:Array (Option Value)) :
  Meets (Builtin.«int.__rmul__» ⟨[.int a t,.ref l],[]⟩) (fun _ R s=>s.heap.get? l=some { cls:=.type "list", dict:=d,data:=.seq items n,slots:=sl }∧R (.ok (.ret Value.notImplemented)) s):=
 .of_wp fun prog w A R s h=>by obtain ⟨hp,g,d,tk,os⟩:=s; obtain ⟨hl,h⟩:=h; wp_walk; exact ⟨_,rfl,h⟩
def rRepL (K:PySem.W.Frag):R2:=fun x y H Q=>∃ l k xs,x=.ref l∧y=.int k∧SqL K H l xs∧0 ≤ k∧k ≤ 1000∧xs.length ≤ 1000∧∀ p,H p=none→Q (.ref p) (upd H p (.lst (List.replicate k.toNat xs).flatten))
theorem op_repL:OpR X (binaryOp .Mult) (rRepL X.K):=by
 intro pins s σ H x y v u Q I rx ry h
 obtain ⟨l,k,xs,rfl,rfl,hs,h1,h2,hz,q⟩:=h
 cases rx
 obtain ⟨t,rfl⟩:=ry
 obtain ⟨its,rv,⟨⟨cls,dd,data,sl⟩,n,ho,hc,hdn,hd⟩,hlen⟩:=I.list hs
 have hc1:cls=Value.type "list" := hc
 have hd1:data=Data.seq its.toArray n:=hd
 subst hc1 hd1
 have hsl:=sizeLine_eq
 have hm:its.toArray.size * k.toNat ≤ 1000 * 1000:=by
  rw [List.size_toArray,← rv.length]
  exact Nat.mul_le_mul hz (by omega)
 have hcap:¬ its.toArray.size * k.toNat > (2 ^ 63 - 1) / 8:=by omega
 have hfit:¬ (!Builtin.List.listFitsIndex k)=true:=by
  rw [fitsIndex_both (by omega) (by omega)]
  exact Bool.false_ne_true
 have hlong:¬ Builtin.List.listTooLong (its.toArray.size * k.toNat)=true:=by
  rw [notLongL (by omega)]
  exact Bool.false_ne_true
 have hnew:List.foldl (fun x1 x2=>x1++x2) #[] (List.replicate (if its.toArray.isEmpty=true then 0 else k.toNat) its.toArray)=(List.replicate k.toNat its).flatten.toArray:=by
  have f0:∀ m:Nat,List.foldl (fun x1 x2=>x1++x2) #[] (List.replicate m its.toArray)=(List.replicate m its).flatten.toArray:=fun m=>by
   have:=foldl_rep its m []
   rw [List.nil_append] at this
   exact this
  rw [f0]
  cases its with
  | nil=>simp
  | cons a r'=>rw [if_neg (by simp)]
 refine wpAny_binaryOp_repeat_ref (T := "list") (U := "int") (by decide) ⟨_,ho,rfl⟩ (fun s'=>typeIs_int s' k t) noFill_list_mul F.fills_int_mul F.slot_int_rmul repeat_list F.slot_int_index.lookup
  (call_meets F.slot_int_rmul (typeIs_int s k t) F.entry_int_rmul (F.args_int_rmul_2 _ _) (t_rmul_int k t l its.toArray n dd sl)
   ⟨ho,rfl,⟨_,ho,rfl⟩,call_meets F.slot_list_mul ⟨_,ho,rfl⟩ F.entry_list_mul (F.args_list_mul_2 _ _) (t_mul_int l its.toArray n dd sl k t hfit hcap hlong) ⟨ho,?_⟩⟩)
 rw [hnew]
 have hlr:(List.replicate k.toNat xs).flatten.length ≤ sizeLine:=by
  rw [PyProof.Rows.lm_len_rep_flat,Nat.mul_comm]
  have:=rv.length
  rw [List.size_toArray] at hm
  rw [this]
  omega
 exact ⟨.ref s.heap.objs.size,upd H s.heap.objs.size (.lst (List.replicate k.toNat xs).flatten),I.laid (t':=s.toks) (fun b o e=>Heap.get?_push_of_some _ e) (Nat.le_refl _) ⟨hlr,_,0,rv.rep k.toNat,Heap.get?_push_size _ rfl⟩,rfl,q _ (I.hok.fresh (Nat.le_refl _))⟩
end
def kMulL:D→D→Option D
 | .list xs,.int k=>if 0 ≤ k∧k ≤ 1000∧xs.length ≤ 1000 then some (.list (List.replicate k.toNat xs).flatten) else none
 | _,_=>none
theorem ok_mulL {K:Kx}:Ok2 K (rRepL K.K) kMulL:=by
 intro F H x y a b z Q fh ha hb e q
 unfold kMulL at e
 split at e
 ·split at e <;> cases e
  rename_i h
  obtain ⟨h1,h2,h3⟩:=h
  cases ha with
  | lst hs hv=>
   exact ⟨_,_,_,rfl,dp_int hb,sql_up fh hs,h1,h2,by rw [DpAll_len hv]; exact h3,fun p hp=>q _ _ _ (Gr.new fh hp) (.lst (.inl (.inl upd_same)) (DpAll_up (dpa_rep hv _) (same_upd (fh.free hp))))⟩
 ·cases e
section
variable {X:Cx} {C:Ct} {pos:Pos} {a b:Expr} {f g:EF}
theorem xd_mulL (ha:PE X a (dOf (kxOf X) C f)) (hb:PE X b (dOf (kxOf X) C g)):PE X (.BinOp a .Mult b pos) (dOf (kxOf X) C (bin2 kMulL f g)):=xd_op op_repL ok_mulL ha hb
end
end Xm
set_option maxHeartbeats 3200000
namespace L2
open PySem PySem.Spec PyProof.Rows
section
variable {P:Program} {w:World} {A:Around} {E:Value→Shared→Prop} {s:Shared}
end
end L2
namespace Xm
open PySem PySem.Spec PyProof.Rows L2
def tI (k:List Int):D:=.tuple (k.map PyData.int)
section
variable {X:Cx}
end
section
variable {X:Cx} {C:Ct} {pos pos1 p q:Pos} {a:Expr} {f:EF}
end
section
variable {X:Cx} {C:Ct} {pos:Pos} {o e:Expr} {g:EF} {i:Nat}
end
end Xm
namespace Xm
open PySem PySem.Spec PyProof.Rows L2
section
variable {A:Around} {s:Shared}
end
section
variable {X:Cx} {pins:List (Addr × Obj)} {σ:L2.St} {H:Hp} {s:Shared}
end
section
variable {X:Cx} {pins:List (Addr × Obj)} {σ:L2.St} {H:Hp} {s:Shared}
end
section
variable {X:Cx} {C:Ct} {pos:Pos} {a b:Expr} {f g:EF}
end
end Xm
namespace Xm
open PySem PySem.Spec PyProof.Rows L2
section
variable {X:Cx}
end
section
variable {X:Cx} {C:Ct} {cpos apos:Pos} {o e:Expr} {f g:EF}
end
section
variable {X:Cx} {C:Ct} {pos p:Pos} {a:Expr} {f:EF}
end
end Xm
namespace Xm
open PySem PySem.Spec PyProof.Rows L2
section
variable {X:Cx}
end
section
variable {X:Cx} {C:Ct} {cpos apos:Pos} {o e:Expr} {f g:EF} {to:TE} {t:TA}
end
end Xm
namespace Xm
open PySem PySem.Spec PyProof.Rows L2
section
variable {X:Cx} {pins:List (Addr × Obj)} {σ:L2.St} {H:Hp} {s:Shared}
end
end Xm
namespace Xm
open PySem PySem.Spec PyProof.Rows L2
section
variable {X:Cx} {C:Ct} {pos p:Pos} {e:Expr} {f:EF}
end
section
variable {X:Cx} {C:Ct} {o e:Expr} {apos cpos:Pos} {td ty:TE} {g:EF} {i:Nat}
end
section
variable {X:Cx} {C:Ct} {pos:Pos} {e:Expr} {i:Nat}
end
section
variable {K:Kx} {C:Ct} {mq:List D→List D→Option (RV × List D)} {g:LF} {n:Nat} {σ:L2.St} {H:Hp} {Q:VK} {E:XK}
end
section
variable {X:Cx} {C:Ct} {j k n m i:Nat} {x:Str} {p pos:Pos} {e:Expr} {es:List Expr} {g:LF} {mq:List D→List D→Option (RV × List D)}
end
end Xm
set_option maxHeartbeats 4000000
namespace Xm
open PySem PySem.Spec PyProof.Rows L2
section
variable {X:Cx} {C:Ct} {x:Str} {t:List (Str × D)} {f:EF} {e:Expr} {pos p:Pos}
end
inductive TxtsAre:List Str→List Value→Prop
 | nil:TxtsAre [] []
 | cons {x:Str} {t:Tok} {xs:List Str} {vs:List Value}:TxtsAre xs vs→TxtsAre (x::xs) (.str x t::vs)
end Xm
namespace Xm
open PySem PySem.Spec PyProof.Rows L2
def kNeL0:D→D→Option D
 | .list es,.list []=>some (.bool (!es.isEmpty))
 | _,_=>none
def rL0 (n:Bool) (K:Kx):R2:=fun x y H Q=>∃ a xs b,x=.ref a∧SqL K.K H a xs∧y=.ref b∧SqL K.K H b []∧Q (.bl (xor n xs.isEmpty)) H
theorem vals_empty {vs:List V} {us:List Value} (h:Vals vs us):vs.isEmpty=us.isEmpty:=by cases h <;> rfl
theorem op_neL0 {X:Cx} (hu:X.A.units + 65 < cLine):OpR X (compareOp .NotEq) (rL0 true (kxOf X)):=by
 intro pins s σ H x y v u Q I rx ry h
 obtain ⟨a,xs,b,rfl,hs,rfl,ht,q⟩:=h
 cases rx
 cases ry
 obtain ⟨its,rv,pl,_⟩:=I.list hs
 obtain ⟨its2,rv2,pl2,_⟩:=I.list ht
 cases rv2
 have hl:=vals_empty rv
 cases its with
 | nil=>exact SeqAt.RcNeAt.lists (e:=fun _=>true) pl.isList pl2.isList rfl (by omega) (fun j h1 h2=>absurd h2 (Nat.not_lt_zero j)) X.prog X.w _ _ ⟨.bl _,H,I,congrArg Value.bool (by rw [hl]; rfl),q⟩
 | cons z r=>exact SeqAt.RcNeAt.lists_lengths pl.isList pl2.isList (by simp) (by omega) X.prog X.w _ _ ⟨.bl _,H,I,congrArg Value.bool (by rw [hl]; rfl),q⟩
theorem dpall_empty {K:Kx} {F:Hp} {vs:List V} {ds:List D} (h:DpAll K F vs ds):vs.isEmpty=ds.isEmpty:=by cases h <;> rfl
theorem ok_neL0 {K:Kx}:Ok2 K (rL0 true K) kNeL0:=by
 intro F H x y a b z Q fh ha hb e q
 unfold kNeL0 at e
 split at e <;> cases e
 cases ha with
 | lst g1 g2=>
  cases hb with
  | lst h1 h2=>
   cases h2
   refine ⟨_,_,_,rfl,sql_up fh g1,rfl,sql_up fh h1,?_⟩
   rw [dpall_empty g2,Bool.true_xor]
   exact q _ F H (Gr.refl fh) (.bl _)
section
variable {X:Cx} {C:Ct} {pos:Pos} {a b:Expr} {f g:EF}
theorem xt_neL0 (hu:X.A.units + 65 < cLine) (ha:PE X a (dOf (kxOf X) C f)) (hb:PE X b (dOf (kxOf X) C g)):PT X (.Compare a [.NotEq] [b] pos) (bOf (kxOf X) C (valB (bin2 kNeL0 f g))):=xt_cmp (op_neL0 hu) ok_neL0 ha hb (nomark _)
end
end Xm
namespace Xm
open PySem PySem.Spec PyProof.Rows L2
def kCatS:D→D→Option D
 | .str x,.str y=>if x.length + y.length ≤ sizeLine then some (.str (x++y)) else none
 | _,_=>none
def kStrA:D→Option D
 | .int i=>if i.natAbs.log2 < 1920 then some (.str (toString i)) else none
 | .str x=>some (.str x)
 | _=>none
def kFmt:D→Option D
 | .int i=>if i.natAbs.log2 < 1920 then some (.str (toString i)) else none
 | .str x=>if x.length ≤ sizeLine then some (.str x) else none
 | _=>none
theorem ok_catS {K:Kx}:Ok2 K (fun x y H Q=>∃ i j,x=.str i∧y=.str j∧i.length + j.length ≤ sizeLine∧Q (.str (i++j)) H) kCatS:=by
 intro F H x y a b z Q fh ha hb e q
 unfold kCatS at e
 split at e
 ·split at e <;> cases e
  rename_i h
  exact ⟨_,_,dp_str ha,dp_str hb,h,q _ F H (Gr.refl fh) (.str _)⟩
 ·cases e
section
variable {X:Cx} {C:Ct} {pos p apos:Pos} {a b o e:Expr} {f g k:EF}
theorem xd_catS (ha:PE X a (dOf (kxOf X) C f)) (hb:PE X b (dOf (kxOf X) C g)):PE X (.BinOp a .Add b pos) (dOf (kxOf X) C (bin2 kCatS f g)):=xd_op op_add_str ok_catS ha hb
theorem call_str_any:CallR X (.type "str") (fun xs H Q=>(∃ a,xs=[.str a]∧Q (.str a) H)∨∃ i,xs=[.int i]∧i.natAbs.log2 < 1920∧Q (.str (toString i)) H):=by
 intro pins s σ H vs us Q I r h
 rcases h with h | h
 ·exact SkE.call_str_str pins s σ H vs us Q I r h
 ·exact call_str_int pins s σ H vs us Q I r h
theorem xd_strA (hm:X.mg "str" = none) (ha:PE X a (dOf (kxOf X) C f)) (hg:Gl X "str" := by rfl) (he:starEach [a] X.env=(false,eval a X.env)::starEach [] X.env:=by rfl):PE X (.Call (.Name "str" p) [a] [] pos) (dOf (kxOf X) C (un1 kStrA f)):=
 xd_t1 call_str_any (fun F H x a z Q fh ha e q=>by
  unfold kStrA at e; split at e
  ·split at e <;> cases e
   rename_i h
   exact .inr ⟨_,by rw [dp_int ha],h,q _ F H (Gr.refl fh) (.str _)⟩
  ·cases e
   exact .inl ⟨_,by rw [dp_str ha],q _ F H (Gr.refl fh) (.str _)⟩
  ·cases e) hm (by decide +kernel) ha hg (he:=he)
theorem xd_fmt (ha:PE X a (dOf (kxOf X) C f)):PE X (.FormattedValue a (-1) none pos) (dOf (kxOf X) C (un1 kFmt f)):=pe_wk (pe_fmt ha) fun σ H Q q=>by
 refine un1_ok (r:=fun x H1 Q=>(∃ y:Str,x=.str y∧y.length ≤ sizeLine∧Q (.str y) H1)∨∃ i:Int,x=.int i∧i.natAbs.log2 < 1920∧Q (.str (toString i)) H1) (k:=kFmt) (fun F H x a z Q fh ha e q=>?_) q
 unfold kFmt at e; split at e
 ·split at e <;> cases e
  rename_i h
  exact .inr ⟨_,dp_int ha,h,q _ F H (Gr.refl fh) (.str _)⟩
 ·split at e <;> cases e
  rename_i h
  exact .inl ⟨_,dp_str ha,h,q _ F H (Gr.refl fh) (.str _)⟩
 ·cases e
end
def jsF:List EF→Str→EF
 | [],acc=>fun st=>some (.str acc,st)
 | f::fs,acc=>fun st=>(f st).bind fun a=>match a.1 with
  | .str y=>if (acc++y).length ≤ sizeLine then jsF fs (acc++y) a.2 else none
  | _=>none
inductive JsOk (X:Cx):List Expr→List EF→Prop
 | nil:JsOk X [] []
 | cons {e:Expr} {f:EF} {es:List Expr} {fs:List EF} (h:∀ C:Ct,PE X e (dOf (kxOf X) C f)) (r:JsOk X es fs):JsOk X (e::es) (f::fs)
def jsT (K:Kx) (fs:List EF):List TE:=fs.map fun f=>(fun σ H Q=>∃ C,dOf K C f σ H Q)
theorem js_pj {X:Cx} {es:List Expr} {fs:List EF} (h:JsOk X es fs):PJ X es (jsT (kxOf X) fs):=by
 induction h with
 | nil=>exact .nil
 | cons h r ih=>exact .cons ⟨fun pins s σ H Q I ⟨C,q⟩=>(h C).run pins s σ H Q I q⟩ ih
theorem js_ok {K:Kx} {C:Ct}:∀ (fs:List EF) (acc:Str) (F:Hp) (st:AS) (σ:L2.St) (H:Hp) (w:D × AS) (Q:Str→Hp→Prop),Rel K C F st σ H→jsF fs acc st=some w→
  (∀ out H' F',Same F F'→Rel K C F' w.2 σ H'→w.1=.str out→Q out H')→tJs (jsT K fs) acc σ H Q
 | [],acc,F,st,σ,H,w,Q,R,e,q=>by
  cases e
  exact q acc H F (Same.refl _) R rfl
 | f::fs,acc,F,st,σ,H,w,Q,R,e,q=>by
  unfold jsF at e
  obtain ⟨a,ea,e⟩:=Option.bind_eq_some_iff.mp e
  split at e
  ·rename_i y hy
   split at e
   ·rename_i hl
    refine ⟨C,F,st,a,R,ea,fun x H1 F1 s1 R1 d1=>?_⟩
    rw [hy] at d1
    exact ⟨y,dp_str d1,hl,js_ok fs (acc++y) F1 a.2 σ H1 w Q R1 e fun out H2 F2 s2 R2 e2=>q out H2 F2 (s1.trans s2) R2 e2⟩
   ·cases e
  ·cases e
section
variable {X:Cx} {C:Ct} {pos:Pos} {v1 v2:Expr} {rest:List Expr} {fs:List EF}
theorem xd_js (h:JsOk X (v1::v2::rest) fs):PE X (.JoinedStr (v1::v2::rest) pos) (dOf (kxOf X) C (jsF fs Str.empty)):=
 pe_wk (pe_joined (js_pj h)) fun σ H Q q=>by
  obtain ⟨F,st,w,R,e,q⟩:=q
  exact js_ok fs Str.empty F st σ H w _ R e fun out H' F' s R' e'=>q _ H' F' s R' (by rw [e']; exact .str _)
end
section
variable {st:AS} {f:EF} {fs:List EF} {acc:Str} {QD:D→AS→Prop}
theorem wp_js0 (q:QD (.str acc) st):Wp (jsF [] acc) st QD:=⟨_,_,rfl,q⟩
theorem wp_js1 (w:Wp f st fun d s1=>∃ y,d=.str y∧(acc++y).length ≤ sizeLine∧Wp (jsF fs (acc++y)) s1 QD):Wp (jsF (f::fs) acc) st QD:=by
 obtain ⟨d,s1,e,y,rfl,hl,d2,s2,e2,q⟩:=w
 exact ⟨d2,s2,by unfold jsF; rw [e]; simp only [Option.bind_some]; rw [if_pos hl]; exact e2,q⟩
end
end Xm
namespace Xm
open PySem PySem.Spec PyProof.Rows L2
def pen (cs:List Int) (u r:Int):List D:=[.list (cs.map PyData.int),.int u,.int r]
def PenOk (n:Nat) (xs:List D):Prop:=∃ cs u r,xs=pen cs u r∧0 ≤ u∧u ≤ n∧0 ≤ r
theorem PenOk.mono {j k:Nat} {xs:List D} (h:PenOk j xs) (l:j ≤ k):PenOk k xs:=by
 obtain ⟨cs,u,r,e,h1,h2,h3⟩:=h
 exact ⟨cs,u,r,e,h1,by omega,h3⟩
theorem fm {a b:Int} (h:0 < b):a.fmod b=a % b:=Int.fmod_eq_emod_of_nonneg _ (by omega)
theorem fd {a b:Int} (h:0 < b):a.fdiv b=a / b:=Int.fdiv_eq_ediv_of_nonneg _ (by omega)
theorem k_modP {i j:Int} (h:0 < j):kMod (.int i) (.int j)=some (.int (i % j)):=by rw [k_mod (by omega),fm h]
theorem k_divP {i j:Int} (h:0 < j) (hs:Sd j):kDiv (.int i) (.int j)=some (.int (i / j)):=by rw [k_div (by omega) hs,fd h]
theorem k_powS {i:Int} {n:Nat} (hi:i.natAbs < 2 ^ 64) (hn:n ≤ 1000000):kPow (.int i) (.int n)=some (.int (i ^ n)):=by
 show (if 0 ≤ (n:Int)∧(n:Int) ≤ 1000000∧i.natAbs < 2 ^ 64 then some (PyData.int (i ^ (n:Int).toNat)) else none)=_
 rw [if_pos ⟨by omega,by omega,hi⟩]
 rfl
theorem sm64 {i:Int} (h:i.natAbs < 2 ^ 64):Sm i:=sm_of h (by omega)
theorem sd64 {i:Int} (h:i.natAbs < 2 ^ 64):Sd i:=sd_of (sm64 h)
theorem k_mulS {i j:Int} (hi:i.natAbs < 2 ^ 64) (hj:j.natAbs < 2 ^ 64):kMul (.int i) (.int j)=some (.int (i * j)):=k_mul (sm64 hi) (sm64 hj)
end Xm
namespace DwF
open PySem PySem.Spec PyProof.Rows L2 Xm
end DwF
namespace DwC
open PySem PySem.Spec PyProof.Rows L2 Xm
noncomputable section
def g_law_pen:SF:=(retN (newF (consA (cutF (rd 0) noO (someO (cst (.int 63)))) (consA (cst (.int 0)) (consA (cst (.int 0)) nilA)))))
def mf_law_pen:=runP g_law_pen 1
theorem e_law_pen:∀ ds r,ds.length=1→mf_law_pen ds=some r→Leaves g_law_pen (st0 1 ds) r fun _=>True:=runP_ok
def g_law_draw:SF:=(seqS (ifS (valB (bin2 kGt (ixM 0 (cst (.int 2))) (cst (.int 0)))) (seqS (asgS 6 (bin2 kMod (ixM 0 (cst (.int 2))) (rd 1))) (seqS (setM 0 (bin2 kDiv (ixM 0 (cst (.int 2))) (rd 1)) (cst (.int 2))) (retS (rd 6)))) skipS) (seqS (asgS 2 (ixM 0 (cst (.int 1)))) (seqS (setM 0 (bin2 kCat (rd 2) (cst (.int 1))) (cst (.int 1))) (seqS (asgS 3 (bin2 kCat (bin2 kMul (cst (.int 95009)) (rd 2)) (cst (.int 59)))) (seqS (ifS (valB (bin2 kGt (un1 kLen (ixM 0 (cst (.int 0)))) (cst (.int 0)))) (asgS 3 (bin2 kIx (ixM 0 (cst (.int 0))) (bin2 kMod (rd 2) (un1 kLen (ixM 0 (cst (.int 0))))))) skipS) (seqS (ifS (andB (valB (bin2 kLt (rd 2) (un1 kLen (ixM 0 (cst (.int 0)))))) (valB (bin2 kGe (un1 kAbs (rd 3)) (bin2 kPow (cst (.int 10)) (cst (.int 18)))))) (seqS (setM 0 (bin2 kDiv (un1 kAbs (rd 3)) (rd 1)) (cst (.int 2))) (retS (bin2 kMod (un1 kAbs (rd 3)) (rd 1)))) skipS) (seqS (asgS 4 (bin2 kCat (bin2 kCat (bin2 kCat (bin2 kMod (rd 3) (cst (.int 2147483497))) (bin2 kMul (bin2 kMul (cst (.int 40031)) (rd 2)) (rd 2))) (bin2 kMul (cst (.int 30029)) (rd 2))) (cst (.int 71)))) (seqS (asgS 5 (bin2 kMod (bin2 kPow (rd 4) (cst (.int 3))) (cst (.int 2147483629)))) (seqS (asgS 5 (bin2 kMod (bin2 kMul (bin2 kPow (bin2 kCat (bin2 kCat (rd 5) (bin2 kMul (cst (.int 29)) (rd 2))) (cst (.int 13))) (cst (.int 2))) (bin2 kCat (bin2 kMod (rd 5) (cst (.int 70009))) (cst (.int 19)))) (cst (.int 2147483549)))) (retS (bin2 kMod (bin2 kDiv (rd 5) (cst (.int 64))) (rd 1))))))))))))
def mq_law_draw:=runQ g_law_draw 7
theorem e_law_draw:∀ xs ds r,ds.length + 1=2→mq_law_draw xs ds=some r→Leaves g_law_draw (st1 7 xs ds) r.1 fun s=>s[0]?=some (.pen r.2):=runQ_ok
end
theorem draw_ok {n:Nat} {xs:List D} {m:Int} (h:PenOk n xs) (hn:n < 2 ^ 20) (hm:0 < m) (hm2:m < 2 ^ 63) :
  ∃ d ys,mq_law_draw xs [.int m]=some (.val (.int d),ys)∧0 ≤ d∧d < m∧PenOk (n + 1) ys:=by
 obtain ⟨cs,u,r,rfl,hu,hun,hr⟩:=h
 have sdm:Sd m:=sd64 (by omega)
 have kd:∀ i:Int,kDiv (.int i) (.int m)=some (.int (i / m)):=fun i=>k_divP hm sdm
 have km:∀ i:Int,kMod (.int i) (.int m)=some (.int (i % m)):=fun i=>k_modP hm
 have fin:∀ {d:Int} {u' r':Int},(g_law_draw (st1 7 (pen cs u r) [.int m])).map (fun w=>(w.1,w.2[0]?))=some (.ret (.val (.int d)),some (.pen (pen cs u' r')))→0 ≤ d→d < m→0 ≤ u'→u' ≤ u + 1→0 ≤ r'→
   ∃ d ys,mq_law_draw (pen cs u r) [.int m]=some (.val (.int d),ys)∧0 ≤ d∧d < m∧PenOk (n + 1) ys:=fun h h1 h2 h3 h4 h5=>⟨_,_,runQ_map h,h1,h2,cs,_,_,rfl,h3,by omega,h5⟩
 by_cases h0:0 < r
 ·refine fin (d:=r % m) (u':=u) (r':=r / m) ?_ (Int.emod_nonneg _ (by omega)) (Int.emod_lt_of_pos _ hm) hu (by omega) (Int.ediv_nonneg hr (by omega))
  simp [g_law_draw,pen,h0,kd,km]
 ·have e18:kPow (.int 10) (.int 18)=some (.int (10 ^ 18)):=k_powS (n:=18) (by decide) (by omega)
  have m3:kMul (.int 95009) (.int u)=some (.int (95009 * u)):=k_mulS (by decide) (by omega)
  have m4:kMul (.int 40031) (.int u)=some (.int (40031 * u)):=k_mulS (by decide) (by omega)
  have m5:kMul (.int (40031 * u)) (.int u)=some (.int (40031 * u * u)):=k_mulS (by omega) (by omega)
  have m6:kMul (.int 30029) (.int u)=some (.int (30029 * u)):=k_mulS (by decide) (by omega)
  have m7:kMul (.int 29) (.int u)=some (.int (29 * u)):=k_mulS (by decide) (by omega)
  have n1:∀ i:Int,kMod (.int i) (.int 2147483497)=some (.int (i % 2147483497)):=fun i=>k_modP (by decide)
  have n2:∀ i:Int,kMod (.int i) (.int 2147483629)=some (.int (i % 2147483629)):=fun i=>k_modP (by decide)
  have n3:∀ i:Int,kMod (.int i) (.int 2147483549)=some (.int (i % 2147483549)):=fun i=>k_modP (by decide)
  have n4:∀ i:Int,kMod (.int i) (.int 70009)=some (.int (i % 70009)):=fun i=>k_modP (by decide)
  have n6:∀ i:Int,kDiv (.int i) (.int 64)=some (.int (i / 64)):=fun i=>k_divP (by decide) (by decide)
  have uu:40031 * u * u ≤ 40031 * (2 ^ 20) * (2 ^ 20)∧0 ≤ 40031 * u * u:=by
   have a1:u * u ≤ 2 ^ 20 * 2 ^ 20:=Int.mul_le_mul (by omega) (by omega) hu (by decide)
   have a2:0 ≤ u * u:=Int.mul_nonneg hu hu
   rw [Int.mul_assoc]
   omega
  have stir:∀ c:Int,∃ low high:Int,kPow (.int (c % 2147483497 + 40031 * u * u + 30029 * u + 71)) (.int 3)=some (.int ((c % 2147483497 + 40031 * u * u + 30029 * u + 71) ^ 3))∧low=(c % 2147483497 + 40031 * u * u + 30029 * u + 71) ^ 3 % 2147483629∧
    kPow (.int (low + 29 * u + 13)) (.int 2)=some (.int ((low + 29 * u + 13) ^ 2))∧kMul (.int ((low + 29 * u + 13) ^ 2)) (.int (low % 70009 + 19))=some (.int ((low + 29 * u + 13) ^ 2 * (low % 70009 + 19)))∧high=(low + 29 * u + 13) ^ 2 * (low % 70009 + 19) % 2147483549:=fun c=>by
   have c1:=Int.emod_nonneg c (show (2147483497:Int)≠0 by decide)
   have c2:=Int.emod_lt_of_pos c (show (0:Int) < 2147483497 by decide)
   refine ⟨(c % 2147483497 + 40031 * u * u + 30029 * u + 71) ^ 3 % 2147483629,((c % 2147483497 + 40031 * u * u + 30029 * u + 71) ^ 3 % 2147483629 + 29 * u + 13) ^ 2 * ((c % 2147483497 + 40031 * u * u + 30029 * u + 71) ^ 3 % 2147483629 % 70009 + 19) % 2147483549,k_powS (n:=3) (by omega) (by omega),rfl,?_⟩
   generalize (c % 2147483497 + 40031 * u * u + 30029 * u + 71) ^ 3=X
   have l1:=Int.emod_nonneg X (show (2147483629:Int)≠0 by decide)
   have l2:=Int.emod_lt_of_pos X (show (0:Int) < 2147483629 by decide)
   generalize X % 2147483629=low at *
   have l3:=Int.emod_nonneg low (show (70009:Int)≠0 by decide)
   have l4:=Int.emod_lt_of_pos low (show (0:Int) < 70009 by decide)
   have lu:(low + 29 * u + 13) ^ 2 ≤ 2200000000 * 2200000000∧0 ≤ (low + 29 * u + 13) ^ 2:=by
    rw [Int.pow_succ,Int.pow_succ,Int.pow_zero,Int.one_mul]
    exact ⟨Int.mul_le_mul (by omega) (by omega) (by omega) (by decide),Int.mul_nonneg (by omega) (by omega)⟩
   exact ⟨k_powS (n:=2) (by omega) (by omega),k_mulS (by omega) (by omega),rfl⟩
  by_cases hc:cs=[]
  ·subst hc
   obtain ⟨low,high,s1,s2,s3,s4,s5⟩:=stir (95009 * u + 59)
   have hlt:¬ u < 0:=by omega
   refine fin (d:=high / 64 % m) (u':=u + 1) (r':=r) ?_ (Int.emod_nonneg _ (by omega)) (Int.emod_lt_of_pos _ hm) (by omega) (by omega) hr
   simp [g_law_draw,pen,h0,kd,km,m3,m4,m5,m6,m7,n1,n2,n3,n4,n6,hlt,s1,← s2,s3,s4,← s5]
  ·have hlen:0 < (cs.length:Int):=by
    have:=List.length_pos_iff.mpr hc
    omega
   have hlen':0 < cs.length:=by omega
   obtain ⟨c,hix⟩:∃ c:Int,atI (cs.map PyData.int) (u % (cs.length:Int))=some (.int c):=by
    have h1:=Int.emod_nonneg u (show (cs.length:Int)≠0 by omega)
    have h2:=Int.emod_lt_of_pos u hlen
    have h3:(u % (cs.length:Int)).toNat < cs.length:=by omega
    refine ⟨cs[(u % (cs.length:Int)).toNat],?_⟩
    have:=at_n (n:=(u % (cs.length:Int)).toNat) (xs:=cs.map PyData.int) (x:=.int cs[(u % (cs.length:Int)).toNat]) (by rw [List.getElem?_map,List.getElem?_eq_getElem h3]; rfl)
    rw [Int.toNat_of_nonneg h1] at this
    exact this
   have kml:kMod (.int u) (.int (cs.length:Int))=some (.int (u % (cs.length:Int))):=k_modP hlen
   by_cases hb:u < (cs.length:Int)∧(10:Int) ^ 18 ≤ (c.natAbs:Int)
   ·refine fin (d:=(c.natAbs:Int) % m) (u':=u + 1) (r':=(c.natAbs:Int) / m) ?_ (Int.emod_nonneg _ (by omega)) (Int.emod_lt_of_pos _ hm) (by omega) (by omega) (Int.ediv_nonneg (by omega) (by omega))
    simp [g_law_draw,pen,h0,kd,km,m3,hc,hlen',hix,kml,e18,hb.1]
    rw [if_pos (by have:=hb.2; omega)]
    simp [kd,km]
   ·obtain ⟨low,high,s1,s2,s3,s4,s5⟩:=stir c
    refine fin (d:=high / 64 % m) (u':=u + 1) (r':=r) ?_ (Int.emod_nonneg _ (by omega)) (Int.emod_lt_of_pos _ hm) (by omega) (by omega) hr
    by_cases hu2:u < (cs.length:Int)
    ·have hb2:¬ (10:Int) ^ 18 ≤ (c.natAbs:Int):=fun z=>hb ⟨hu2,z⟩
     simp [g_law_draw,pen,h0,kd,km,m3,m4,m5,m6,m7,n1,n2,n3,n4,n6,hc,hlen',hix,kml,e18,hu2]
     rw [if_neg (by omega)]
     simp [kd,km,m4,m5,m6,m7,n1,n2,n3,n4,n6,s1,← s2,s3,s4,← s5]
    ·simp [g_law_draw,pen,h0,kd,km,m3,m4,m5,m6,m7,n1,n2,n3,n4,n6,hc,hlen',hix,kml,hu2,s1,← s2,s3,s4,← s5]
theorem cut_ints (ns:List Int):cutX (ns.map PyData.int) none (some 63)=(ns.take 63).map PyData.int:=by
 rw [show (63:Int)=((63:Nat):Int) from rfl,cut_take,List.map_take]
theorem pen0 (ns:List Int):PenOk 0 [.list (cutX (ns.map PyData.int) none (some 63)),.int 0,.int 0]:=⟨ns.take 63,0,0,by rw [cut_ints]; rfl,by omega,by omega,by omega⟩
theorem m_law_pen (l:List D):mf_law_pen [.list l]=some (.new [.list (cutX l none (some 63)),.int 0,.int 0]):=by
 refine runP_map ?_
 simp [g_law_pen]
end DwC
namespace DwD
open PySem PySem.Spec PyProof.Rows L2 Xm
section
variable {cs:List Int} {u r z:Int}
end
end DwD
namespace DwD
open PySem PySem.Spec PyProof.Rows L2 Xm
end DwD
namespace DwD
open PySem PySem.Spec PyProof.Rows L2 Xm
noncomputable section
def g_is_whole:SF:=(retS (boolE (andB (valB (un1 (kIsa "int") (rd 0))) (valB (boolE (notB (valB (un1 (kIsa "bool") (rd 0)))))))))
def mf_is_whole:=runP g_is_whole 1
theorem e_is_whole:∀ ds r,ds.length=1→mf_is_whole ds=some r→Leaves g_is_whole (st0 1 ds) r fun _=>True:=runP_ok
end
mutual
def lim:D→Bool
 | .int i=>decide (i.natAbs < 2 ^ 240)
 | .list ds=>limAll ds
 | .tuple ds=>decide (ds.length ≤ 50) && limAll ds
 | .none | .bool _ | .str _ | .dict _=>true
def limAll:List D→Bool
 | []=>true
 | d::ds=>lim d && limAll ds
end
theorem pick_memT {l:List D} {i:Int} (h0:0 ≤ i) (h1:i < l.length):∃ b,b ∈ l∧kIx (.tuple l) (.int i)=some b:=by
 have h3:i.toNat < l.length:=by omega
 refine ⟨l[i.toNat],List.getElem_mem _,?_⟩
 have:=at_n (n:=i.toNat) (xs:=l) (x:=l[i.toNat]) (List.getElem?_eq_getElem h3)
 rw [Int.toNat_of_nonneg h0] at this
 exact this
theorem pick_memL {l:List D} {i:Int} (h0:0 ≤ i) (h1:i < l.length):∃ b,b ∈ l∧kIx (.list l) (.int i)=some b:=pick_memT h0 h1
end DwD
namespace DwD
open PySem PySem.Spec PyProof.Rows L2 Xm
end DwD
namespace K05
open PySem PySem.Spec PyProof.Rows L2 Xm DwD
end K05
namespace DwD
open PySem PySem.Spec PyProof.Rows L2 Xm
theorem compL_map {α:Type} {u:D→AS→Option AS} {tt:BF} {te:EF} {vs:List Nat} (f:α→D) (p:α→Bool) (g:α→D) (S:AS):∀ as:List α,(∀ a ∈ as,∃ s1,u (f a) S=some s1∧tt s1=some (p a,s1)∧(p a=true→∃ s2,te s1=some (g a,s2)∧Xm.clr s2 vs=S)∧(p a=false→Xm.clr s1 vs=S))→
  compL u tt te vs (as.map f) S=some ((as.filter p).map g,S)
 | [],_=>rfl
 | a::as,h=>by
  have ih:=compL_map f p g S as fun x hx=>h x (.tail _ hx)
  obtain ⟨s1,e1,e2,h1,h2⟩:=h a (.head _)
  rw [List.map_cons]
  unfold compL
  rw [e1]
  simp only [Option.bind_some,e2]
  cases hp:p a with
  | true=>
   obtain ⟨s2,e3,e4⟩:=h1 hp
   rw [if_pos rfl,e3]
   simp only [Option.bind_some,e4,ih,Option.map_some,List.filter_cons,hp,if_pos]
   rfl
  | false=>
   rw [if_neg Bool.false_ne_true,h2 hp,ih]
   simp only [List.filter_cons,hp,Bool.false_eq_true,if_false]
theorem compL_all {α:Type} {u:D→AS→Option AS} {te:EF} {vs:List Nat} (f:α→D) (g:α→D) (S:AS) (as:List α) (h:∀ a ∈ as,∃ s1,u (f a) S=some s1∧∃ s2,te s1=some (g a,s2)∧Xm.clr s2 vs=S) :
  compL u yesB te vs (as.map f) S=some (as.map g,S):=by
 have:=compL_map (u:=u) (tt:=yesB) (te:=te) (vs:=vs) f (fun _=>true) g S as fun a ha=>by
  obtain ⟨s1,e1,s2,e2,e3⟩:=h a ha
  exact ⟨s1,e1,rfl,fun _=>⟨s2,e2,e3⟩,fun z=>by cases z⟩
 rw [List.filter_eq_self.mpr fun _ _=>rfl] at this
 exact this
theorem k_allMap {α:Type} (g:α→Bool):∀ l:List α,kAll (.list (l.map fun x=>PyData.bool (g x)))=some (.bool (l.all g)):=fun l=>by
 have h:boolsD (l.map fun x=>PyData.bool (g x))=some (l.map g):=by
  induction l with
  | nil=>rfl
  | cons a l ih=>
   rw [List.map_cons,List.map_cons]
   unfold boolsD
   rw [ih]
   rfl
 show (boolsD _).map _=_
 rw [h]
 simp [List.all_map]
def isW:D→Bool
 | .int _=>true
 | _=>false
theorem m_is_whole (d:D):mf_is_whole [d]=some (.val (.bool (isW d))):=by
 cases d <;> rfl
end DwD
namespace K05
open PySem PySem.Spec PyProof.Rows L2 Xm DwD
end K05
namespace Xm
open PySem PySem.Spec PyProof.Rows L2
end Xm
namespace K07
open PySem PySem.Spec PyProof.Rows L2 Xm DwD
noncomputable section
def g_is_share:SF:=(seqS (ifS (orB (notB (valB (un1 (kIsa "tuple") (rd 0)))) (orB (valB (bin2 kNe (un1 kLen (rd 0)) (cst (.int 2)))) (orB (notB (valB (rvD (callP mf_is_whole [] (consA (bin2 kIx (rd 0) (cst (.int 0))) nilA))))) (notB (valB (rvD (callP mf_is_whole [] (consA (bin2 kIx (rd 0) (cst (.int 1))) nilA)))))))) (retS (cst (.bool false))) skipS) (retS (boolE (andB (valB (bin2 kGt (bin2 kIx (rd 0) (cst (.int 1))) (cst (.int 0)))) (valB (bin2 kEq (rvD (callP mf_common [] (consA (bin2 kIx (rd 0) (cst (.int 0))) (consA (bin2 kIx (rd 0) (cst (.int 1))) nilA)))) (cst (.int 1))))))))
def mf_is_share:=runP g_is_share 1
theorem e_is_share:∀ ds r,ds.length=1→mf_is_share ds=some r→Leaves g_is_share (st0 1 ds) r fun _=>True:=runP_ok
end
end K07
namespace K07
open PySem PySem.Spec PyProof.Rows L2 Xm DwD
theorem gcd_step (a b:Int) (hb:b≠0):Int.gcd b (a.fmod b)=Int.gcd a b:=by
 have e:a.fmod b=a - b * (a.fdiv b):=by
  have:=Int.mul_fdiv_add_fmod a b
  omega
 rw [e,Int.gcd_comm b,Int.gcd_comm a]
 have h1:(Int.gcd (a - b * a.fdiv b) b:Nat)∣Int.gcd b a:=by
  refine Int.dvd_gcd (Int.gcd_dvd_right _ _) ?_
  have h2:((Int.gcd (a - b * a.fdiv b) b:Nat):Int)∣(a - b * a.fdiv b) + b * a.fdiv b:=Int.dvd_add (Int.gcd_dvd_left _ _) (Int.dvd_mul_of_dvd_left (Int.gcd_dvd_right _ _))
  rwa [Int.sub_add_cancel] at h2
 have h3:(Int.gcd b a:Nat)∣Int.gcd (a - b * a.fdiv b) b:=by
  refine Int.dvd_gcd ?_ (Int.gcd_dvd_left _ _)
  exact Int.dvd_sub (Int.gcd_dvd_right _ _) (Int.dvd_mul_of_dvd_left (Int.gcd_dvd_left _ _))
 exact Nat.dvd_antisymm h1 h3
theorem fmod_lt (a b:Int) (hb:b≠0):(a.fmod b).natAbs < b.natAbs:=by
 rw [Int.fmod_eq_emod]
 have h1:=Int.emod_nonneg a hb
 have h2:=Int.emod_lt a hb
 split
 ·omega
 ·rename_i h
  have h3:a % b≠0:=fun z=>h (.inr (Int.dvd_of_emod_eq_zero z))
  omega
def shareB:D→Bool
 | .tuple [.int a,.int b]=>decide (0 < b) && (((Int.gcd a b:Nat):Int) == 1)
 | _=>false
theorem tuple_of {d:D} (h:isaT (tyD d) "tuple" = true):∃ ds,d=.tuple ds:=by
 cases d <;> first
  | exact ⟨_,rfl⟩
  | exact absurd (show false=true from h) Bool.false_ne_true
theorem m_common' (a b:Int):mf_common [.int a,.int b]=some (.val (.int (Int.gcd a b))):=rfl
theorem isW_int {d:D} (h:isW d=true):∃ i,d=.int i:=by
 cases d <;> first
  | exact ⟨_,rfl⟩
  | cases h
theorem len2 {es:List D} (h:es.length=2):∃ a b,es=[a,b]:=by
 match es,h with
 | [a,b],_=>exact ⟨a,b,rfl⟩
theorem shareB_W {a b:D} (h:isW a=false∨isW b=false):shareB (.tuple [a,b])=false:=by
 unfold shareB
 split
 ·rename_i e
  cases e
  rcases h with h | h <;> cases h
 ·rfl
theorem shareB_len {es:List D} (h:es.length≠2):shareB (.tuple es)=false:=by
 unfold shareB
 split
 ·rename_i e
  cases e
  exact absurd rfl h
 ·rfl
theorem shareB_ij (i j:Int):shareB (.tuple [.int i,.int j])=(decide (0 < j) && (((Int.gcd i j:Nat):Int) == 1)):=rfl
theorem shareB_not {d:D} (h:isaT (tyD d) "tuple" = false):shareB d=false:=by
 cases d <;> first
  | rfl
  | exact Bool.noConfusion (show true=false from h)
theorem m_is_share (d:D):mf_is_share [d]=some (.val (.bool (shareB d))):=by
 refine runP_wp ?_
 unfold g_is_share
 by_cases ht:isaT (tyD d) "tuple" = true
 ·obtain ⟨es,rfl⟩:=tuple_of ht
  by_cases hl:es.length=2
  ·obtain ⟨a,b,rfl⟩:=len2 hl
   have hb2:(!((([a,b]:List D).length:Int) == 2))=false:=rfl
   have wa:=m_is_whole a
   have wb:=m_is_whole b
   cases hA:isW a with
   | false=>
    rw [hA] at wa
    rw [shareB_W (.inl hA)]
    repeat (first | (with_reducible first | refine Xm.wp_seq ?_ | refine Xm.wp_bin2 ?_ | refine Xm.wp_un1 ?_ | refine Xm.wp_consA ?_ | refine Xm.wp_nilA ?_ | refine Xm.wp_cst ?_ | refine Xm.wp_valB ?_ | refine Xm.wp_ifS ?_ | refine Xm.wp_rvD ?_ | refine Xm.wp_callP0 ?_ | refine Xm.wp_retS ?_ | refine Xm.wp_orB ?_ | refine Xm.wp_notB ?_ | refine Xm.ite_tt ?_ | refine Xm.ite_nf ?_ | refine Xm.ex_bool ?_ | refine Xm.ex_of Xm.k_neI ?_ | refine Xm.ex_of Xm.k_lenT ?_ | refine Xm.ex_of Xm.ix_t0 ?_ | refine Xm.ex_of Xm.k_isa ?_) | ((with_reducible apply Xm.ex_of); · with_reducible assumption) | ((with_reducible apply Xm.ite_f); · with_reducible assumption) | ((with_reducible apply Xm.ite_nbf); · with_reducible assumption) | ((with_reducible apply Xm.wp_rd); · rfl))
    rfl
   | true=>
    rw [hA] at wa
    cases hB:isW b with
    | false=>
     rw [hB] at wb
     rw [shareB_W (.inr hB)]
     repeat (first | (with_reducible first | refine Xm.wp_seq ?_ | refine Xm.wp_bin2 ?_ | refine Xm.wp_un1 ?_ | refine Xm.wp_consA ?_ | refine Xm.wp_nilA ?_ | refine Xm.wp_cst ?_ | refine Xm.wp_valB ?_ | refine Xm.wp_ifS ?_ | refine Xm.wp_rvD ?_ | refine Xm.wp_callP0 ?_ | refine Xm.wp_retS ?_ | refine Xm.wp_orB ?_ | refine Xm.wp_notB ?_ | refine Xm.ite_nt ?_ | refine Xm.ite_nf ?_ | refine Xm.ex_bool ?_ | refine Xm.ex_of Xm.k_neI ?_ | refine Xm.ex_of Xm.k_lenT ?_ | refine Xm.ex_of Xm.ix_t0 ?_ | refine Xm.ex_of Xm.ix_t1 ?_ | refine Xm.ex_of Xm.k_isa ?_) | ((with_reducible apply Xm.ex_of); · with_reducible assumption) | ((with_reducible apply Xm.ite_f); · with_reducible assumption) | ((with_reducible apply Xm.ite_nbf); · with_reducible assumption) | ((with_reducible apply Xm.wp_rd); · rfl))
     rfl
    | true=>
     rw [hB] at wb
     obtain ⟨i,rfl⟩:=isW_int hA
     obtain ⟨j,rfl⟩:=isW_int hB
     have kc:=m_common' i j
     rw [shareB_ij]
     by_cases h0:0 < j
     ·have b0:decide (0 < j)=true:=decide_eq_true h0
      rw [b0]
      repeat (first | (with_reducible first | refine Xm.wp_seq ?_ | refine Xm.wp_bin2 ?_ | refine Xm.wp_un1 ?_ | refine Xm.wp_consA ?_ | refine Xm.wp_nilA ?_ | refine Xm.wp_cst ?_ | refine Xm.wp_valB ?_ | refine Xm.wp_ifS ?_ | refine Xm.wp_rvD ?_ | refine Xm.wp_callP0 ?_ | refine Xm.wp_skip ?_ | refine Xm.wp_retS ?_ | refine Xm.wp_andB ?_ | refine Xm.wp_orB ?_ | refine Xm.wp_notB ?_ | refine Xm.wp_boolE ?_ | refine Xm.ite_nt ?_ | refine Xm.ex_bool ?_ | refine Xm.ex_of Xm.k_gt ?_ | refine Xm.ex_of Xm.k_eqI ?_ | refine Xm.ex_of Xm.k_neI ?_ | refine Xm.ex_of Xm.k_lenT ?_ | refine Xm.ex_of Xm.ix_t0 ?_ | refine Xm.ex_of Xm.ix_t1 ?_ | refine Xm.ex_of Xm.k_isa ?_) | ((with_reducible apply Xm.ex_of); · with_reducible assumption) | ((with_reducible apply Xm.ite_t); · with_reducible assumption) | ((with_reducible apply Xm.ite_f); · with_reducible assumption) | ((with_reducible apply Xm.ite_nbf); · with_reducible assumption) | ((with_reducible apply Xm.wp_rd); · rfl))
      rfl
     ·have b0:decide (0 < j)=false:=decide_eq_false h0
      rw [b0]
      repeat (first | (with_reducible first | refine Xm.wp_seq ?_ | refine Xm.wp_bin2 ?_ | refine Xm.wp_un1 ?_ | refine Xm.wp_consA ?_ | refine Xm.wp_nilA ?_ | refine Xm.wp_cst ?_ | refine Xm.wp_valB ?_ | refine Xm.wp_ifS ?_ | refine Xm.wp_rvD ?_ | refine Xm.wp_callP0 ?_ | refine Xm.wp_skip ?_ | refine Xm.wp_retS ?_ | refine Xm.wp_andB ?_ | refine Xm.wp_orB ?_ | refine Xm.wp_notB ?_ | refine Xm.wp_boolE ?_ | refine Xm.ite_nt ?_ | refine Xm.ex_bool ?_ | refine Xm.ex_of Xm.k_gt ?_ | refine Xm.ex_of Xm.k_neI ?_ | refine Xm.ex_of Xm.k_lenT ?_ | refine Xm.ex_of Xm.ix_t0 ?_ | refine Xm.ex_of Xm.ix_t1 ?_ | refine Xm.ex_of Xm.k_isa ?_) | ((with_reducible apply Xm.ex_of); · with_reducible assumption) | ((with_reducible apply Xm.ite_f); · with_reducible assumption) | ((with_reducible apply Xm.ite_nbf); · with_reducible assumption) | ((with_reducible apply Xm.wp_rd); · rfl))
      rfl
  ·have hb2:(!((es.length:Int) == 2))=true:=by
    rw [Bool.not_eq_true']
    exact beq_false_of_ne (by omega)
   rw [shareB_len hl]
   repeat (first | (with_reducible first | refine Xm.wp_seq ?_ | refine Xm.wp_bin2 ?_ | refine Xm.wp_un1 ?_ | refine Xm.wp_cst ?_ | refine Xm.wp_valB ?_ | refine Xm.wp_ifS ?_ | refine Xm.wp_retS ?_ | refine Xm.wp_orB ?_ | refine Xm.wp_notB ?_ | refine Xm.ite_tt ?_ | refine Xm.ex_bool ?_ | refine Xm.ex_of Xm.k_neI ?_ | refine Xm.ex_of Xm.k_lenT ?_ | refine Xm.ex_of Xm.k_isa ?_) | ((with_reducible apply Xm.ite_t); · with_reducible assumption) | ((with_reducible apply Xm.ite_nbf); · with_reducible assumption) | ((with_reducible apply Xm.wp_rd); · rfl))
   rfl
 ·rw [Bool.not_eq_true] at ht
  rw [shareB_not ht]
  repeat (first | (with_reducible first | refine Xm.wp_seq ?_ | refine Xm.wp_un1 ?_ | refine Xm.wp_cst ?_ | refine Xm.wp_valB ?_ | refine Xm.wp_ifS ?_ | refine Xm.wp_retS ?_ | refine Xm.wp_orB ?_ | refine Xm.wp_notB ?_ | refine Xm.ite_tt ?_ | refine Xm.ex_bool ?_ | refine Xm.ex_of Xm.k_isa ?_) | ((with_reducible apply Xm.ite_nbt); · with_reducible assumption) | ((with_reducible apply Xm.wp_rd); · rfl))
  rfl
end K07
namespace K07
open PySem PySem.Spec PyProof.Rows L2 Xm DwD
end K07
namespace K07
open PySem PySem.Spec PyProof.Rows L2 Xm DwD
end K07
namespace K07
open PySem PySem.Spec PyProof.Rows L2 Xm DwD
end K07
namespace K07
open PySem PySem.Spec PyProof.Rows L2 Xm DwD
end K07
namespace K07
open PySem PySem.Spec PyProof.Rows L2 Xm DwD
theorem divInt_parts {t b:Int} (hb:0 < b):∃ g c e:Int,0 < g∧t=g * c∧b=g * e∧(Rat.divInt t b).num=c∧((Rat.divInt t b).den:Int)=e:=by
 have hg:(0:Int) < Int.gcd t b:=by
  have:=Int.gcd_pos_of_ne_zero_right t (show b≠0 by omega)
  omega
 have h:=sh_divInt (t:=t) (show b≠0 by omega)
 rw [if_neg (show ¬ b < 0 by omega)] at h
 obtain ⟨c,hc⟩:=Int.gcd_dvd_left t b
 obtain ⟨e,he⟩:=Int.gcd_dvd_right t b
 unfold sh at h
 simp only [PyData.tuple.injEq,List.cons.injEq,PyData.int.injEq,and_true] at h
 refine ⟨Int.gcd t b,c,e,hg,hc,he,?_,?_⟩
 ·rw [h.1]
  conv=>lhs; lhs; rw [hc]
  exact Int.mul_fdiv_cancel_left c (by omega)
 ·rw [h.2]
  conv=>lhs; lhs; rw [he]
  exact Int.mul_fdiv_cancel_left e (by omega)
end K07
namespace SeF
open PySem PySem.Spec PyProof.Rows L2 Xm DwD K05 K07
end SeF
namespace SeF
open PySem PySem.Spec PyProof.Rows L2 Xm DwD K05 K07
end SeF
namespace SeF
open PySem PySem.Spec PyProof.Rows L2 Xm DwD K05 K07
end SeF
namespace SeF
open PySem PySem.Spec PyProof.Rows L2 Xm DwD K05 K07
end SeF
namespace SeF
open PySem PySem.Spec PyProof.Rows L2 Xm DwD K05 K07
end SeF
namespace SeF
open PySem PySem.Spec PyProof.Rows L2 Xm DwD K05 K07
end SeF
namespace Xm
open PySem PySem.Spec PyProof.Rows L2
section
variable {X:Cx} {o:Expr} {p pos apos mpos:Pos} {td:TE}
end
section
variable {X:Cx} {C:Ct} {o:Expr} {p pos apos mpos:Pos} {f:EF}
end
theorem globS {K:PySem.W.Frag} {mg:Str→Option Value} {x y:Str} {t:Tok} (m:mg x=some (.str y t)):GlobD K mg x (.str y):=⟨.str y,.str y t,m,⟨t,rfl⟩,fun _ _ F=>.str y⟩
end Xm
namespace Xm
open PySem PySem.Spec PyProof.Rows L2
section
variable {X:Cx} {C:Ct} {pos p:Pos} {a:Expr} {f:EF}
end
end Xm
namespace Xm
open PySem PySem.Spec PyProof.Rows L2
section
variable {prog:Program} {w:World} {A:Around} {E:Value→Shared→Prop} {s:Shared} {z TI TO i1 i2 i3:Addr} {q1 q2 q3:List Addr} {n1 n2 n3 i:Nat} {P1 P2 P3:Nat→Value→Prop} {T1 T2 T3:Nat→Heap→Prop} {a1 a2 a3 f0 f1:Value}
end
section
variable {X:Cx} {C:Ct} {pos p tpos p2 kp:Pos} {elts:List Expr} {kk j:Nat} {a b c:Expr} {f g h:EF} {ta:TA}
end
section
variable {X:Cx} {C:Ct} {pos p tpos p2 kp:Pos} {elts:List Expr} {kk j:Nat} {a b c:Expr} {f g h:EF} {ta:TA}
end
section
variable {f g h:EF} {st:AS} {QL:List D→AS→Prop}
end
end Xm
namespace Xm
open PySem PySem.Spec PyProof.Rows L2
abbrev JF:=AS→Option (Ob × AS)
def setB (i:Nat) (o:Ob) (st:AS):Option AS:=match st[i]? with
 | some (.pen _)=>none
 | some _=>some (st.set i (.obj o))
 | none=>none
def obC (st:AS) (i:Nat):Option Ob:=match st[i]? with
 | some (.obj o)=>some o
 | _=>none
theorem mu_set_obj {st:AS} {i j:Nat} {o:Ob} (h:Mu (st.set i (.obj o)) j):Mu st j∧j≠i:=by
 obtain ⟨s,e,m⟩:=h
 by_cases hj:j=i
 ·subst hj
  by_cases hl:j < st.length
  ·rw [List.getElem?_set_self hl] at e
   cases e
   cases m
  ·rw [List.getElem?_eq_none (by rw [List.length_set]; omega)] at e
   cases e
 ·rw [List.getElem?_set_ne (Ne.symm hj)] at e
  exact ⟨⟨s,e,m⟩,hj⟩
section
variable {K:Kx} {C:Ct} {F F' H H':Hp} {st:AS} {σ:L2.St}
theorem Rel.setB {i:Nat} {o:Ob} {a:Addr} {st':AS} (R:Rel K C F st σ H) (h:setB i o st=some st') (ho:ObOk K F a o):Rel K C F st' (σ.set i (some (.ref a))) H:=by
 have e:st'=st.set i (.obj o)∧i < st.length:=by
  unfold Xm.setB at h
  split at h <;> cases h
  exact ⟨rfl,(List.getElem?_eq_some_iff.mp ‹_›).1⟩
 obtain ⟨rfl,hi⟩:=e
 have hiσ:i < σ.length:=by rw [← R.len]; exact hi
 refine ⟨by rw [List.length_set,List.length_set]; exact R.len,R.f0,R.fh,R.old,R.new,fun j s hj=>?_,fun j k b hj hk e1 e2=>?_,R.penh,R.pent,R.tab⟩
 ·by_cases e:j=i
  ·subst e
   rw [List.getElem?_set_self hi] at hj
   cases hj
   exact ⟨a,List.getElem?_set_self hiσ,ho⟩
  ·rw [List.getElem?_set_ne (Ne.symm e)] at hj
   rw [List.getElem?_set_ne (Ne.symm e)]
   exact R.slot j s hj
 ·obtain ⟨m1,n1⟩:=mu_set_obj hj
  obtain ⟨m2,n2⟩:=mu_set_obj hk
  rw [List.getElem?_set_ne (Ne.symm n1)] at e1
  rw [List.getElem?_set_ne (Ne.symm n2)] at e2
  exact R.apart j k b m1 m2 e1 e2
theorem Rel.obj {i:Nat} {o:Ob} (R:Rel K C F st σ H) (h:obC st i=some o):∃ a,σ[i]?=some (some (.ref a))∧ObOk K F a o:=by
 unfold obC at h
 split at h <;> cases h
 exact R.slot i _ ‹_›
end
section
variable {X:Cx} {C:Ct} {pos:Pos} {e:Expr} {f:JF}
end
def okD:Option Key→D
 | none=>.none
 | some k=>keyD k
section
variable {X:Cx} {C:Ct} {pos:Pos} {keys:List (Option Expr)} {values:List Expr}
inductive PsOkN (X:Cx):List (Option Expr)→List Expr→List (Option Key × EF)→Prop
 | nil:PsOkN X [] [] []
 | cons {ke ve:Expr} {ks:List (Option Expr)} {vs:List Expr} {k:Option Key} {f:EF} {r:List (Option Key × EF)} (hk:∀ C:Ct,PE X ke (dOf (kxOf X) C (cst (okD k)))) (hv:∀ C:Ct,PE X ve (dOf (kxOf X) C f)) (hr:PsOkN X ks vs r):PsOkN X (some ke::ks) (ve::vs) ((k,f)::r)
end
section
variable {X:Cx} {C:Ct} {pos:Pos} {a b:Expr} {g:EF} {i:Nat}
end
section
variable {st:AS} {i:Nat} {QS:Fl→AS→Prop} {QD:D→AS→Prop} {f:JF} {g:EF}
end
end Xm
namespace Xm
open PySem PySem.Spec PyProof.Rows L2
theorem keptO_ok {P:Program} {w:World} {H:Hp} {h:Heap} {cls:Value} {d:Option Addr} {a:Addr} {oe:Obj} {vs:Array Value} (e:h.get? a=some oe) (z:Zc cls d oe) (hd:oe.data=.fields vs):ObjOk P w H h a (keptO cls d a):=
 ⟨⟨oe,vs,e,z,hd⟩,⟨oe,e⟩,fun _ _ ⟨ob,us,e1,z1,d1⟩ k=>⟨ob,us,k ob e1,z1,d1⟩⟩
section
variable {X:Cx} {pins:List (Addr × Obj)} {σ:L2.St} {H:Hp} {s:Shared}
theorem Inv.knows {a:Addr} {o:HO} {oe:Obj} {us:Array Value} (I:Inv X pins σ H s) (ha:s.heap.get? a=some oe) (hd:oe.data=.fields us) (hn:H a=none) (h0:X.s_0.heap.get? a=none) (nL:a≠X.env.locals) (np:∀ p ∈ X.pn++pins,p.1≠a) (new:ObjOk X.prog X.w (upd H a o) s.heap a o) :
  Inv X pins σ (upd H a o) s where
 ok:=I.ok
 os:=I.os
 bare:=I.bare
 base:={
  keep:=fun b ob e n hb hx=>I.base.keep b ob e n hb hx
  slot:=fun b ob e n hb hx=>I.base.slot b ob e n hb hx
  free:=fun b ob e n hx=>by
   have hb:b≠a:=fun z=>by rw [z,h0] at e; cases e
   rw [upd_ne hb]
   exact I.base.free b ob e n hx
  there:=fun b ob e hx=>I.base.there b ob e hx
  tups:=fun b xs e=>by
   have q:=I.base.tups b xs e
   rw [upd_ne (ne_of_none q hn)]
   exact q
  frzs:=fun b ob u e=>by
   have q:=I.base.frzs b ob u e
   rw [upd_ne (ne_of_none q hn)]
   exact q
  tbls:=fun b ps e=>by
   obtain ⟨more,q⟩:=I.base.tbls b ps e
   exact ⟨more,by rw [upd_ne (ne_of_none q hn)]; exact q⟩ }
 loc:=I.loc
 cell:=I.cell
 free:=by rw [upd_ne (Ne.symm nL)]; exact I.free
 freeC:=fun x c e=>by
  have hc:c≠a:=fun z=>by
   obtain ⟨v,q⟩:=I.cell x c e
   obtain ⟨ob,q1,q2⟩:=q
   rw [z,ha] at q1
   cases q1
   rw [hd] at q2
   simp at q2
  rw [upd_ne hc]
  exact I.freeC x c e
 pin:=fun p hp=>by
  obtain ⟨q1,q2,q3⟩:=I.pin p hp
  exact ⟨q1,by rw [upd_ne (np p hp)]; exact q2,q3⟩
 hok:=HOk.laidN I.hok (fun _ _ q=>q) hn new
 len:=I.len
end
def TestOk (X:Cx) (te:Expr) (cs:List Value):Prop:=∀ (a:Addr) (oe:Obj) (pn:List (Addr × Obj)) (s:Shared) (σ:L2.St) (H:Hp) (b:Bool) (Q:Bool→Shared→Prop) (E:Value→Shared→Prop),
 Inv (X.suite a ((a,oe)::pn)) [] σ H s→s.heap.get? a=some oe→PySem.W.exmAny X.K oe.cls cs=some b→(∀ h',(∀ q o,s.heap.get? q=some o→h'.get? q=some o)→Q b { s with heap:=h' })→
 wpAny (model X.prog X.w) (X.A.mark (some (.ref a))) (eval te X.env) (fun c s1=>wpAny (model X.prog X.w) (X.A.mark (some (.ref a))) (excMatches (.ref a) c) Q E s1) E s
section
variable {X:Cx}
theorem nm_suite {x:Str} {c:Value} {np:Pos} (hc:Names X x c) {a:Addr} {oe:Obj} {pn:List (Addr × Obj)} {s:Shared} {σ:L2.St} {H:Hp} (S:Inv (X.suite a ((a,oe)::pn)) [] σ H s) {Q E:Value→Shared→Prop} (q:Q c s) :
  wpAny (model X.prog X.w) (X.A.mark (some (.ref a))) (eval (.Name x np) X.env) Q E s:=by
 obtain ⟨g1,g2,g3 | ⟨g3,g4,g5⟩⟩:=hc
 ·exact ld_glob (X:=X.suite a ((a,oe)::pn)) S g1 g3 q g2
 ·exact ld_blt (X:=X.suite a ((a,oe)::pn)) S g1 g3 g4 q g5 g2
theorem looks_cls {M:Model} {h:Heap} {a:Addr} {oe:Obj} (e:h.get? a=some oe):PySem.W.Looks M h (typeOf (.ref a)) oe.cls:=fun _ _ _ _ k q=>wpAny_typeOf_ref (k a oe e) q
theorem test3 {x y z:Str} {c d e:Value} {p1 p2 p3 tp:Pos} {k:Nat} (h1:Names X x c) (h2:Names X y d) (h3:Names X z e):TestOk X (.Tuple [.Name x p1,.Name y p2,.Name z p3] k tp) [c,d,e]:=fun a oe pn s σ H b Q E S ha hb q=>by
 refine wpAny_Tuple (wpAny_items_cons (nm_suite h1 S (wpAny_items_cons (nm_suite h2 S (wpAny_items_cons (nm_suite h3 S (wpAny_items_nil ⟨by size_fits,?_⟩)))))))
 have up:∀ r o,s.heap.get? r=some o→(s.heap.push { cls:=.type "tuple", data:=.seq [c,d,e].toArray }).get? r=some o:=fun _ _ z=>Heap.get?_push_of_some _ z
 exact (PySem.W.exm_tup3 (S.kIn.keeps up) ((looks_cls ha).keeps up) (Heap.get?_push_size s.heap rfl) hb).here (q _ up)
end
theorem fly_up {B h h':Heap} {l:List Env} {e:Addr} {Z:Obj→Prop} (f:HandSPX.FlyingZ B l e Z h) (k:∀ q o,h.get? q=some o→h'.get? q=some o):HandSPX.FlyingZ B l e Z h':=by
 obtain ⟨f1,f2,f3,oe,vs,T,oT,ts,g1,g2,g3,g4,g5,g6,g7,g8⟩:=f
 exact ⟨fun b o q=>k b o (f1 b o q),f2,Heap.FunFrames.of_keeps (fun b o q _=>⟨o,k b o q,rfl⟩) f3,oe,vs,T,oT,ts,k _ _ g1,g2,g3,g4,g5,g6,k _ _ g7,g8⟩
def wKeep (K:PySem.W.Frag) (cs:List Value) (i j:Nat) (Wo:WX) (D:Ends):WX:=fun cls d σ H=>
 ∃ b,PySem.W.exmAny K cls cs=some b∧(b=true→∀ a,H a=none→D.nx (((σ.set i (some (.ref a))).set j (some (.ref a))).set i none) (upd H a (keptO cls d a)))∧(b=false→Wo cls d σ H)
def asgV (i j:Nat):TS:=fun D σ H=>∃ v,σ[i]?=some (some v)∧D.nx (σ.set j (some v)) H
section
variable {X:Cx} {n:Str} {cs:List Value} {i j:Nat} {body:List Stmt} {te:Expr} {st0:Stmt} {pos pos':Pos} {tb:WX→TS} {Wo:WX}
theorem ps_try_keep (hex:X.ex=[]) (hs:X.stack=X.env::X.outer) (hf:X.env.frame=some X.env.locals) (hN:X.N.Nodup) (hi:X.N[i]?=some n) (hln:X.env.kindOf n=some .local) (hT:TestOk X te cs) (tk:Takes X Wo)
  (hb:∀ (W:WX) (pn:List (Addr × Obj)) (xe:Value→Shared→Prop),Takes (X.tr pn xe) W→PassesOwn (model X.prog X.w) X.A X.env xe→PSs (X.tr pn xe) body (tb W))
  (hsu:∀ (a:Addr) (oe:Obj) (pn:List (Addr × Obj)),PSs (X.suite a ((a,oe)::pn)) [st0] (asgV i j)) :
  PS X (.Try body [.ExceptHandler (some te) (some n) [st0] pos'] [] [] pos) (fun D σ H=>tb (wKeep X.K cs i j Wo D) D σ H):=by
 refine ⟨fun pins s σ H D I h=>wpAny_Try_except ?_⟩
 have ok:=I.ok
 have hA:X.A.frames=some (X.env::X.outer):=by rw [ok.frames,hs]
 have run:=(hb (wKeep X.K cs i j Wo D) (X.pn++pins) (fun e s₁=>wpAny (model X.prog X.w) X.A (noteFrame e X.env) (fun _ s₂=>wpAny (model X.prog X.w) X.A (setFlight e none)
  (fun _ s₃=>wpAny (model X.prog X.w) X.A (handleBy e X.env [.ExceptHandler (some te) (some n) [st0] pos']) (SP X pins D) X.xe s₃) X.xe s₂) X.xe s₁) ?_ PassesOwn.looking).run [] s σ H D (I.toTry _) h
 ·refine wpAny_mono run (fun f s1 hsp=>?_) fun _ _ z=>z
  cases f with
  | next=>obtain ⟨σ1,H1,J1,q⟩:=hsp; exact wpAny_execs_nil ⟨σ1,H1,J1.ofTry ok,q⟩
  | brk=>obtain ⟨σ1,H1,J1,q⟩:=hsp; exact ⟨σ1,H1,J1.ofTry ok,q⟩
  | cont=>obtain ⟨σ1,H1,J1,q⟩:=hsp; exact ⟨σ1,H1,J1.ofTry ok,q⟩
  | ret u=>obtain ⟨v,σ1,H1,J1,r,q⟩:=hsp; exact ⟨v,σ1,H1,J1.ofTry ok,r,q⟩
 ·intro u s' air
  obtain ⟨a,B,sI,ps1,σ1,H1,cls,d,rfl,I0,nb,up,sky,na,os,ag,b,hb1,yes,no⟩:=air
  have J:=I0.ofTry ok
  rw [hs] at sky
  refine Sky.land Zc.steady hA hf sky fun h3 fl up3=>?_
  have J3:Inv X pins σ1 H1 { s' with heap:=h3 }:=J.landed nb fl.1 (up.trans up3) os ag
  obtain ⟨oe,vs,ge,gz,gd⟩:=fl.there
  have ownB:B.get? a=none:=fl.2.1
  have far:∀ {h:Heap} {o:Obj} {us:Array Value},h.FunFrames B (X.env::X.outer)→h.get? a=some o→o.data=.fields us→a ∉ frs (X.env::X.outer):=fun ff e dd hm=>by
   obtain ⟨_,o',e',x⟩:=ff.mem hm
   rw [e] at e'
   cases e'
   exact x _ dd
  have nfr:=far fl.2.2.1 ge gd
  have nL:a≠X.env.locals:=fun z=>nfr (List.mem_filterMap.mpr ⟨X.env,.head _,by rw [hf,z]⟩)
  have nF:a ∉ X.fs:=fun hm=>by
   obtain ⟨e,he,q⟩:=List.mem_filterMap.mp hm
   exact nfr (List.mem_filterMap.mpr ⟨e,.tail _ he,q⟩)
  have inB:∀ o,sI.heap.get? a≠some o:=fun o e=>by
   have:=nb a o e (by rw [hs]; exact nfr)
   rw [ownB] at this
   cases this
  have new0:X.s_0.heap.get? a=none:=by
   cases e:X.s_0.heap.get? a with
   | none=>rfl
   | some o=>
    obtain ⟨o',e'⟩:=J.base.there a o e (by rw [hex]; exact List.not_mem_nil)
    exact absurd e' (inB o')
  have npin:∀ p ∈ X.pn++pins,p.1≠a:=fun p hp z=>by
   obtain ⟨e,_⟩:=J.pin p hp
   rw [z] at e
   exact inB _ e
  have S3:=J3.suite ge gd na nL nF
  refine wpAny_handleBy_cons (codeAny_handlers_test (hT a oe _ _ _ _ b _ _ S3 ge (by rw [gz.1]; exact hb1) fun h5 k5=>?_)) (by intro q; cases q)
  have fl5:=fly_up fl k5
  have up5:=(up.trans up3).trans (Heap.UpToSlots.of_keeps k5)
  cases b with
  | true=>
   refine codeAny_handlers_suite_as (HandSPX.lands_againZ fl5 fun h6 fl6 up6=>?_)
   have J6:Inv X pins σ1 H1 { s' with heap:=h6 }:=J.landed nb fl6.1 (up5.trans up6) os ag
   obtain ⟨oe6,vs6,ge6,gz6,gd6⟩:=fl6.there
   have S6:=J6.suite ge6 gd6 na nL nF
   refine store_ok (X:=X.suite a ((a,oe6)::(X.pn++pins))) (v:=.ref a) S6 hN hi (.inl hln) rfl (fun s7 S7=>?_) (.inr hln)
   have hiσ:i < σ1.length:=by rw [J.len]; exact (List.getElem?_eq_some_iff.mp hi).1
   refine wpAny_mono ((hsu a oe6 (X.pn++pins)).run [] s7 _ H1 { nx:=fun σ' H'=>σ'=(σ1.set i (some (.ref a))).set j (some (.ref a))∧H'=H1,rt:=fun _ _=>False,bk:=fun _ _=>False,ct:=fun _ _=>False } S7 ⟨.ref a,List.getElem?_set_self hiσ,rfl,rfl⟩) (fun f s8 hsp=>?_) fun _ _ z=>z.elim
   cases f with
   | brk=>obtain ⟨_,_,_,z⟩:=hsp; exact z.elim
   | cont=>obtain ⟨_,_,_,z⟩:=hsp; exact z.elim
   | ret u=>obtain ⟨_,_,_,_,_,z⟩:=hsp; exact z.elim
   | next=>
    obtain ⟨_,_,S8,rfl,rfl⟩:=hsp
    obtain ⟨g8,_⟩:=S8.pin (a,oe6) (List.mem_append_left _ (.head _))
    have J8:=S8.unsuite ok
    have J9:=Inv.knows J8 g8 gd6 na new0 nL npin (keptO_ok g8 gz6 gd6)
    exact gone_ok J9 hN hi hln fun s9 J10=>⟨_,_,J10,yes rfl a na⟩
  | false=>
   refine wpAny_handleBy_nil ?_
   obtain ⟨k1,k2,k3,oe',vs',T,oT,ts,q1,q2,q3,q4,q5⟩:=id fl5
   unfold PySem.passOn
   refine wpAny_bind (wpAny_field q1 q3 q4 ?_)
   rw [if_neg (show ¬ ((Value.ref T == Value.none)=true) from by simp)]
   have out:wpAny (model X.prog X.w) X.A (setFlight (.ref a) X.env.frame) (fun _ s4=>wpAny (model X.prog X.w) X.A (throw (.ref a):Sem Flow) (SP X pins D) X.xe s4) X.xe { s' with heap:=h5 }:=by
    rw [hf]
    refine HandSPX.setFlight_upZ fl5 fun h4 hh4 up4=>wpAny_throw (tk _ _ ?_)
    exact ⟨a,B,sI,pins,σ1,H1,cls,d,rfl,J,nb,up5.trans up4,.inr (.inr (by rw [hs]; exact hh4)),na,os,ag,no rfl⟩
   first
    | exact wpAny_bind (wpAny_pure (wpAny_bind out))
    | exact wpAny_bind out
end
end Xm
namespace Xm
open PySem PySem.Spec PyProof.Rows L2
def noB (st:AS) (i:Nat):Bool:=match st[i]? with
 | some .no=>true
 | _=>false
def tryK (ct:Str→Option Bool) (i j:Nat) (b:SF):SF:=fun st=>(b st).bind fun w=>match w.1 with
 | .ret (.exc x)=>(match ct x.cls with
  | some true=>if noB w.2 i=true then (setB j (.exc x) w.2).map fun s=>(.nx,s) else none
  | some false=>some w
  | none=>none)
 | _=>some w
theorem noB_at {st:AS} {i:Nat} (h:noB st i=true):st[i]?=some .no:=by
 unfold noB at h
 split at h
 ·assumption
 ·cases h
theorem setB_eq {st s:AS} {i:Nat} {o:Ob} (h:setB i o st=some s):s=st.set i (.obj o):=by
 unfold setB at h
 split at h <;> cases h
 rfl
section
variable {X:Cx} {C:Ct} {n:Str} {cs:List Value} {i j:Nat} {body:List Stmt} {te:Expr} {st0:Stmt} {pos pos':Pos} {b:SF} {ct:Str→Option Bool}
theorem xs_tryK (hij:i≠j) (hex:X.ex=[]) (hs:X.stack=X.env::X.outer) (hf:X.env.frame=some X.env.locals) (hN:X.N.Nodup) (hi:X.N[i]?=some n) (hln:X.env.kindOf n=some .local) (hT:TestOk X te cs) (tk:Takes X C.W)
  (hct:∀ m y cls,ct m=some y→X.mg m=some cls→PySem.W.exmAny X.K cls cs=some y)
  (hb:∀ (W:WX) (pn:List (Addr × Obj)) (xe:Value→Shared→Prop),Takes (X.tr pn xe) W→PassesOwn (model X.prog X.w) X.A X.env xe→PSs (X.tr pn xe) body (sOf (kxOf X) { C with W:=W } b))
  (hsu:∀ (a:Addr) (oe:Obj) (pn:List (Addr × Obj)),PSs (X.suite a ((a,oe)::pn)) [st0] (asgV i j)) :
  PS X (.Try body [.ExceptHandler (some te) (some n) [st0] pos'] [] [] pos) (sOf (kxOf X) C (tryK ct i j b)):=
 ps_wk (ps_try_keep (tb:=fun W=>sOf (kxOf X) { C with W:=W } b) hex hs hf hN hi hln hT tk hb hsu) fun Z σ H q=>by
  obtain ⟨F,st,w,R,e,q⟩:=q
  obtain ⟨⟨fl,s2⟩,ev,e⟩:=Option.bind_eq_some_iff.mp e
  refine ⟨F,st,(fl,s2),R.withW,ev,?_⟩
  cases fl with
  | nx=>cases e; exact fun σ' H' F' s1 R1=>q σ' H' F' s1 R1.unW
  | brk=>cases e; exact fun σ' H' F' s1 R1=>q σ' H' F' s1 R1.unW
  | cont=>cases e; exact fun σ' H' F' s1 R1=>q σ' H' F' s1 R1.unW
  | ret r=>
   cases r with
   | val d=>cases e; exact fun v σ' H' F' s1 R1 ok=>q v σ' H' F' s1 R1.unW ok
   | new d=>cases e; exact fun v σ' H' F' s1 R1 ok=>q v σ' H' F' s1 R1.unW ok
   | dct d=>cases e; exact fun v σ' H' F' s1 R1 ok=>q v σ' H' F' s1 R1.unW ok
   | exc x=>
    dsimp only at e
    refine fun cls d σ' H' F' s1 R1 ok=>?_
    cases hx:ct x.cls with
    | none=>rw [hx] at e; cases e
    | some y=>
     rw [hx] at e
     refine ⟨y,hct _ _ _ hx ok.1,fun hy a ha=>?_,fun hy=>?_⟩
     ·subst hy
      dsimp only at e
      split at e
      ·rename_i hno
       obtain ⟨s3,es,e⟩:=Option.map_eq_some_iff.mp e
       cases e
       obtain ⟨A,_⟩:=R1.unW.aside ha
       obtain ⟨ff,R2⟩:=(R1.unW.write (o:=keptO cls d a) A).freezeO A.h0 A.f upd_same A.ap
       have R3:=R2.setB es ⟨cls,d,upd_same,ok.up ff⟩
       have hl:σ'.length=s2.length:=R1.len.symm
       have e3:=setB_eq es
       have R4:=R3.slots (τ:=((σ'.set i (some (.ref a))).set j (some (.ref a))).set i none) (by simp) fun k hk=>by
        have hki:k≠i:=fun z=>by
         subst z
         apply hk
         rw [e3,List.getElem?_set_ne (Ne.symm hij)]
         exact noB_at hno
        rw [List.getElem?_set_ne (Ne.symm hki)]
        by_cases hkj:k=j
        ·subst hkj
         by_cases hb:k < σ'.length
         ·rw [List.getElem?_set_self (by simpa using hb),List.getElem?_set_self hb]
         ·rw [List.getElem?_eq_none (by simp; omega),List.getElem?_eq_none (by simp; omega)]
        ·rw [List.getElem?_set_ne (Ne.symm hkj),List.getElem?_set_ne (Ne.symm hkj),List.getElem?_set_ne (Ne.symm hki)]
       exact q _ _ _ (s1.trans ff) R4
      ·cases e
     ·subst hy
      cases e
      exact q cls d σ' H' F' s1 R1.unW ok
end
def isNd:D→Bool
 | .none=>true
 | _=>false
def nonX (i:Nat):EF:=fun st=>match st[i]? with
 | some (.obj _)=>some (.bool false,st)
 | some (.dat d)=>some (.bool (isNd d),st)
 | _=>none
theorem isNd_dp {K:Kx} {F:Hp} {v:V} {d:D} (h:Dp K F v d):decide (v=V.non)=isNd d:=by
 cases h <;> rfl
section
variable {X:Cx} {C:Ct} {pos p:Pos} {a:Expr} {i:Nat}
end
def CtOk (K:PySem.W.Frag) (mg:Str→Option Value) (ct:Str→Option Bool) (T:Addr→Bool→Prop):Prop:=∀ m y cls,ct m=some y→mg m=some cls→∃ Ca,cls=.ref Ca∧ExcC K Ca∧T Ca y
theorem kept_kit {X:Cx} {pins:List (Addr × Obj)} {σ:L2.St} {H:Hp} {s:Shared} {a Ca:Addr} {d:Option Addr} (I:Inv X pins σ H s) (T:ExcC X.K Ca) (ha:H a=some (keptO (.ref Ca) d a)) (hd:∀ dd,d=some dd→∃ fs,H dd=some (.xd fs)) :
  ∃ P:Heap→Prop,PySem.W.KitX X.K (.ref a) (.ref Ca) P∧P s.heap:=by
 obtain ⟨⟨oe,vs,e,z,hv⟩,_⟩:=I.hok a _ ha
 have hc:(PySem.W.clsIn X.K Ca).isSome=true:=by
  obtain ⟨cd,q,_⟩:=PySem.W.any_some T.hd
  rw [q]
  rfl
 have no:PySem.W.notCls oe=true:=by unfold PySem.W.notCls; rw [hv] <;> rfl
 cases d with
 | none=>exact ⟨_,PySem.W.kitx_exc (od:=none) hc T.hg T.hk T.hs T.ha T.hn T.ht T.hm,⟨e,z.1,no,by rw [z.2]; trivial⟩⟩
 | some dd=>
  obtain ⟨fs,hx⟩:=hd dd rfl
  obtain ⟨mA,hns,_⟩:=(show ObjOk X.prog X.w H s.heap dd (.xd fs) from I.hok dd _ hx)
  obtain ⟨od,ho,_⟩:=lookIn_ns hns
  exact ⟨_,PySem.W.kitx_exc (od:=some od) hc T.hg T.hk T.hs T.ha T.hn T.ht T.hm,⟨e,z.1,no,by rw [z.2]; exact ho⟩⟩
def isaX (i:Nat) (ct:Str→Option Bool):EF:=fun st=>(obC st i).bind fun o=>match o with
 | .exc x=>(ct x.cls).map fun b=>(.bool b,st)
 | _=>none
def rIsX1 (K:PySem.W.Frag):List V→Hp→VK→Prop:=fun xs H Q=>∃ (a Ca:Addr) (d:Option Addr) (c:V) (u:Value) (b:Bool),xs=[.ref a,c]∧ClsV c u∧ExcC K Ca∧H a=some (keptO (.ref Ca) d a)∧(∀ dd,d=some dd→∃ fs,H dd=some (.xd fs))∧PySem.W.kitOne K (.ref Ca) u=some b∧Q (.bl b) H
def rIsXT (K:PySem.W.Frag):List V→Hp→VK→Prop:=fun xs H Q=>∃ (a tp Ca:Addr) (d:Option Addr) (cs:List V) (us:List Value) (b:Bool),xs=[.ref a,.ref tp]∧H tp=some (.tup cs)∧Paired ClsV cs us∧ExcC K Ca∧H a=some (keptO (.ref Ca) d a)∧(∀ dd,d=some dd→∃ fs,H dd=some (.xd fs))∧PySem.W.kitAny K (.ref Ca) us=some b∧Q (.bl b) H
theorem call_isX1 {X:Cx}:CallR X (.builtin "isinstance") (rIsX1 X.K):=by
 intro pins s σ H xs us Q I r h
 obtain ⟨a,Ca,d,c,u,b,rfl,k,T,ha,hd,e,q⟩:=h
 obtain ⟨u1,u2,rfl,r1,r2⟩:=vals2 r
 have e2:=k.eq r2
 subst e2
 cases r1
 obtain ⟨P,Z,p⟩:=kept_kit I T ha hd
 exact PySem.W.kia_one Z I.kIn p e (fun z=>nomatch z) fun tk=>⟨.bl b,H,I.tok tk,rfl,q⟩
theorem call_isXT {X:Cx}:CallR X (.builtin "isinstance") (rIsXT X.K):=by
 intro pins s σ H xs us Q I r h
 obtain ⟨a,tp,Ca,d,cs,ws,b,rfl,hT,k,T,ha,hd,e,q⟩:=h
 obtain ⟨u1,u2,rfl,r1,r2⟩:=vals2 r
 cases r1
 cases r2
 obtain ⟨P,Z,p⟩:=kept_kit I T ha hd
 obtain ⟨_,its,rv,o,h1,h2,n,h3⟩:=(show ObjOk X.prog X.w H s.heap tp (.tup cs) from I.hok tp _ hT)
 have e3:=ClsV.all k rv
 subst e3
 obtain ⟨oc,od,dt,sl⟩:=o
 simp only at h2 h3
 subst h2 h3
 exact PySem.W.kia_tup Z I.kIn p h1 e (fun z=>nomatch z) fun tk=>⟨.bl b,H,I.tok tk,rfl,q⟩
section
variable {X:Cx} {C:Ct} {pos p p2:Pos} {a c:Expr} {i:Nat} {ct:Str→Option Bool}
theorem Rel.excAt {F H:Hp} {st:AS} {σ:L2.St} {x:Ex} (R:Rel (kxOf X) C F st σ H) (h:obC st i=some (.exc x)):∃ (q:Addr) (cls:Value) (d:Option Addr),σ[i]?=some (some (.ref q))∧F q=some (keptO cls d q)∧ExOk (kxOf X) F x cls d∧∀ dd,d=some dd→∃ fs,F dd=some (.xd fs):=by
 obtain ⟨q,h1,cls,d,h2,h3⟩:=R.obj h
 refine ⟨q,cls,d,h1,h2,h3,fun dd e=>?_⟩
 rcases h3.2 with ⟨_,z⟩ | ⟨d2,fs,z,hx,_⟩
 ·rw [z] at e; cases e
 ·rw [z] at e
  cases e
  exact ⟨fs,hx⟩
theorem xd_isaX1 {v:V} {u:Value} (hm:X.mg "isinstance" = none) (ha:PE X a (tVar i)) (hc:PE X c (tC v)) (k:ClsV v u) (hct:CtOk X.K X.mg ct fun Ca y=>PySem.W.kitOne X.K (.ref Ca) u=some y) (hg:Gl X "isinstance" := by rfl)
  (he:starEach [a,c] X.env=(false,eval a X.env)::starEach [c] X.env:=by rfl) (he2:starEach [c] X.env=(false,eval c X.env)::starEach [] X.env:=by rfl) (hpl:(backTo pos (starEach [c] X.env)).any (·.1)=false:=by rfl) :
  PE X (.Call (.Name "isinstance" p) [a,c] [] pos) (dOf (kxOf X) C (isaX i ct)):=
 pe_wk (pe_callB call_isX1 hg hm (by decide +kernel) (pa_cons ha (pa_cons hc pa_nil he2) he) (he:=he) (hpl:=hpl)) fun σ H Q q=>by
  obtain ⟨F,st,w,R,e,q⟩:=q
  obtain ⟨o,eo,e⟩:=Option.bind_eq_some_iff.mp e
  cases o with
  | nkd _=>cases e
  | fnc _=>cases e
  | exc x=>
   obtain ⟨y,ey,e⟩:=Option.map_eq_some_iff.mp e
   cases e
   obtain ⟨r,cls,d,h1,h2,ok,hx⟩:=R.excAt eo
   obtain ⟨Ca,rfl,T,hk⟩:=hct _ _ _ ey ok.1
   exact ⟨.ref r,h1,r,Ca,d,v,u,y,rfl,k,T,R.fh _ _ h2,fun dd z=>let ⟨fs,g⟩:=hx dd z; ⟨fs,R.fh _ _ g⟩,hk,q _ H F (Same.refl _) R (.bl _)⟩
def tCs (vs:List V):TA:=fun _ H Q=>Q vs H
theorem pa_cs {es:List Expr} {vs:List V} {v:V} {e:Expr} (he:PE X e (tC v)) (hr:PA X es (tCs vs)) (hs:starEach (e::es) X.env=(false,eval e X.env)::starEach es X.env:=by rfl):PA X (e::es) (tCs (v::vs)):=pa_cons he hr hs
theorem xd_isaXT {es:List Expr} {kk:Nat} {tp:Pos} {vs:List V} {us:List Value} (hm:X.mg "isinstance" = none) (ha:PE X a (tVar i)) (hc:PA X es (tCs vs)) (hl:vs.length ≤ 1000) (k:Paired ClsV vs us) (hct:CtOk X.K X.mg ct fun Ca y=>PySem.W.kitAny X.K (.ref Ca) us=some y) (hg:Gl X "isinstance" := by rfl)
  (he:starEach [a,.Tuple es kk tp] X.env=(false,eval a X.env)::starEach [.Tuple es kk tp] X.env:=by rfl) (he2:starEach [.Tuple es kk tp] X.env=(false,eval (.Tuple es kk tp) X.env)::starEach [] X.env:=by rfl) (hpl:(backTo pos (starEach [.Tuple es kk tp] X.env)).any (·.1)=false:=by rfl) :
  PE X (.Call (.Name "isinstance" p) [a,.Tuple es kk tp] [] pos) (dOf (kxOf X) C (isaX i ct)):=
 pe_wk (pe_callB call_isXT hg hm (by decide +kernel) (pa_cons ha (pa_cons (pe_tup hc) pa_nil he2) he) (he:=he) (hpl:=hpl)) fun σ H Q q=>by
  obtain ⟨F,st,w,R,e,q⟩:=q
  obtain ⟨o,eo,e⟩:=Option.bind_eq_some_iff.mp e
  cases o with
  | nkd _=>cases e
  | fnc _=>cases e
  | exc x=>
   obtain ⟨y,ey,e⟩:=Option.map_eq_some_iff.mp e
   cases e
   obtain ⟨r,cls,d,h1,h2,ok,hx⟩:=R.excAt eo
   obtain ⟨Ca,rfl,T,hk⟩:=hct _ _ _ ey ok.1
   refine ⟨.ref r,h1,sl_le (by omega),fun t ht=>?_⟩
   have g:=Gr.new (o:=.tup vs) R.fh ht
   have g2:∀ {b:Addr} {o:HO},F b=some o→upd H t (.tup vs) b=some o:=fun {b o} z=>g.hh _ _ (R.fh _ _ z)
   exact ⟨r,t,Ca,d,vs,us,y,rfl,upd_same,k,T,g2 h2,fun dd z=>let ⟨fs,gg⟩:=hx dd z; ⟨fs,g2 gg⟩,hk,q _ _ _ g.ff (R.grow g) (.bl _)⟩
theorem lk_dp {K:Kx} {F:Hp} {f:Str}:∀ {fs:List (Str × V)} {ds:List (Str × D)} {d:D},fs.map (·.1)=ds.map (·.1)→DpAll K F (fs.map (·.2)) (ds.map (·.2))→ds.lookup f=some d→∃ v,fs.lookup f=some v∧Dp K F v d
 | [],[],_,_,_,e=>by cases e
 | [],_::_,_,h,_,_=>by cases h
 | _::_,[],_,h,_,_=>by cases h
 | (n,v)::fs,(m,u)::ds,d,h,hd,e=>by
  rw [List.map_cons,List.map_cons] at h
  obtain ⟨h1,h2⟩:=List.cons.inj h
  have h1:n=m:=h1
  subst h1
  rw [List.map_cons,List.map_cons] at hd
  cases hd with
  | cons d1 d2=>
   by_cases c:f=n
   ·subst c
    rw [List.lookup_cons_self] at e ⊢
    cases e
    exact ⟨_,rfl,d1⟩
   ·have c2:(f == n)=false:=beq_false_of_ne c
    rw [List.lookup_cons,c2] at e ⊢
    exact lk_dp h2 d2 e
def FldOk (K:PySem.W.Frag) (mg:Str→Option Value) (f:Str) (names:List Str):Prop:=∀ m cls,m ∈ names→mg m=some cls→∃ Ca,cls=.ref Ca∧XfC K Ca∧PySem.W.findIn K (.ref Ca) f=some none
def fldN (i:Nat) (f:Str) (names:List Str):EF:=fun st=>(obC st i).bind fun o=>match o with
 | .exc x=>if x.cls ∈ names then (x.fs.lookup f).map fun d=>(d,st) else none
 | _=>none
theorem xd_fldX {f:Str} {names:List Str} (hF:FldOk X.K X.mg f names) (ha:PE X a (tVar i)) (hb:attributeBase a f X.env (eval a X.env)=eval a X.env:=by rfl):PE X (.Attribute a f pos) (dOf (kxOf X) C (fldN i f names)):=by
 refine ⟨fun pins s σ H Q I q=>attr_of hb (thn (ha.run pins s σ H (fun v H'=>H'=H∧σ[i]?=some (some v)) I ?_) fun u s1 hh=>?_)⟩
 ·obtain ⟨F,st,w,R,e,q⟩:=q
  obtain ⟨o,eo,e⟩:=Option.bind_eq_some_iff.mp e
  obtain ⟨r,h1,_⟩:=R.obj eo
  exact ⟨.ref r,h1,rfl,h1⟩
 ·obtain ⟨v,H1,I1,rv,rfl,hv⟩:=hh
  obtain ⟨F,st,w,R,e,q⟩:=q
  obtain ⟨o,eo,e⟩:=Option.bind_eq_some_iff.mp e
  cases o with
  | nkd _=>cases e
  | fnc _=>cases e
  | exc x=>
   dsimp only at e
   split at e
   ·rename_i hm
    obtain ⟨d0,ed,e⟩:=Option.map_eq_some_iff.mp e
    cases e
    obtain ⟨r,cls,d,h1,h2,ok,_⟩:=R.excAt eo
    rw [hv] at h1
    cases h1
    cases rv
    obtain ⟨Ca,rfl,T,hno⟩:=hF _ _ hm ok.1
    rcases ok.2 with ⟨z,_⟩ | ⟨dd,fs,rfl,hx,hk,hdp⟩
    ·rw [z] at ed; cases ed
    ·obtain ⟨w0,l,dw⟩:=lk_dp hk hdp ed
     obtain ⟨⟨oe,vs,e1,z1,hd1⟩,_⟩:=I1.hok r _ (R.fh _ _ h2)
     obtain ⟨mA,hns,hr⟩:=(show ObjOk X.prog X.w H1 s1.heap dd (.xd fs) from I1.hok dd _ (R.fh _ _ hx))
     obtain ⟨od,ho,hl⟩:=lookIn_ns hns
     obtain ⟨u1,hu,ru⟩:=RelO.some_of (v:=w0) (o:=mA f) (by rw [← l]; exact hr f)
     have no:PySem.W.notCls oe=true:=by unfold PySem.W.notCls; rw [hd1] <;> rfl
     have J:PySem.W.InstAt s1.heap r oe Ca (some od):=⟨e1,z1.1,no,by rw [z1.2]; exact ho⟩
     exact HandSPX.exc_get I1.kIn J T.ga T.gg T.exC (PySem.W.findObj_own T.hdC hno rfl (by rw [hl,hu])) (handed_of ru) ⟨w0,H1,I1.tok _,ru,q _ H1 F (Same.refl _) R dw⟩
   ·cases e
end
section
variable {st:AS} {i j:Nat} {b:SF} {ct:Str→Option Bool} {QS:Fl→AS→Prop} {QD:D→AS→Prop}
theorem wp_tryK (w:Wp b st fun fl s1=>match fl with
  | .ret (.exc x)=>∃ y,ct x.cls=some y∧if y=true then noB s1 i=true∧∃ s2,setB j (.exc x) s1=some s2∧QS .nx s2 else QS (.ret (.exc x)) s1
  | .ret (.val d)=>QS (.ret (.val d)) s1
  | .ret (.new d)=>QS (.ret (.new d)) s1
  | .ret (.dct d)=>QS (.ret (.dct d)) s1
  | .nx=>QS .nx s1
  | .brk=>QS .brk s1
  | .cont=>QS .cont s1):Wp (tryK ct i j b) st QS:=by
 obtain ⟨fl,s1,e,q⟩:=w
 cases fl with
 | nx=>exact ⟨_,_,by unfold tryK; rw [e]; rfl,q⟩
 | brk=>exact ⟨_,_,by unfold tryK; rw [e]; rfl,q⟩
 | cont=>exact ⟨_,_,by unfold tryK; rw [e]; rfl,q⟩
 | ret r=>
  cases r with
  | val d=>exact ⟨_,_,by unfold tryK; rw [e]; rfl,q⟩
  | new d=>exact ⟨_,_,by unfold tryK; rw [e]; rfl,q⟩
  | dct d=>exact ⟨_,_,by unfold tryK; rw [e]; rfl,q⟩
  | exc x=>
   obtain ⟨y,hy,q⟩:=q
   cases y with
   | true=>
    rw [if_pos rfl] at q
    obtain ⟨h1,s2,e2,q⟩:=q
    exact ⟨.nx,s2,by unfold tryK; rw [e]; simp only [Option.bind_some,hy,if_pos h1,e2]; rfl,q⟩
   | false=>
    rw [if_neg Bool.false_ne_true] at q
    exact ⟨_,_,by unfold tryK; rw [e]; simp only [Option.bind_some,hy],q⟩
theorem wp_nonX {o:Ob} (e:st[i]?=some (.obj o)) (q:QD (.bool false) st):Wp (nonX i) st QD:=⟨_,_,by unfold nonX; rw [e],q⟩
theorem wp_nonXd {d:D} (e:st[i]?=some (.dat d)) (q:QD (.bool (isNd d)) st):Wp (nonX i) st QD:=⟨_,_,by unfold nonX; rw [e],q⟩
theorem wp_isaX {x:Ex} {y:Bool} (e:st[i]?=some (.obj (.exc x))) (hy:ct x.cls=some y) (q:QD (.bool y) st):Wp (isaX i ct) st QD:=⟨_,_,by unfold isaX obC; rw [e]; simp only [Option.bind_some,hy]; rfl,q⟩
theorem wp_fldN {f:Str} {names:List Str} {x:Ex} {d:D} (e:st[i]?=some (.obj (.exc x))) (hm:x.cls ∈ names) (hd:x.fs.lookup f=some d) (q:QD d st):Wp (fldN i f names) st QD:=⟨_,_,by unfold fldN obC; rw [e]; simp only [Option.bind_some,if_pos hm,hd]; rfl,q⟩
end
end Xm
namespace Xm
open PySem PySem.Spec PyProof.Rows L2
theorem asgV_ok {Y:Cx} {st:Stmt} {i j:Nat} (h:PS Y st (tAsg (tVar i) (gName j))):PSs Y [st] (asgV i j):=pss_one h
section
variable {X:Cx}
end
theorem ct1_T {mg:Str→Option Value} {n:Str} {D:Value} {b:Bool} {T:Value→Bool→Prop} (hm:mg n=some D) (h:T D b):∀ m y cls,ct1 n b m=some y→mg m=some cls→T cls y:=fun m y cls e1 e2=>by
 unfold ct1 at e1
 split at e1
 ·rename_i hm'
  cases e1
  subst hm'
  rw [hm] at e2
  cases e2
  exact h
 ·cases e1
section
variable {K:PySem.W.Frag} {t c d e:Value} {b1 b2 b3 b:Bool}
theorem exm3 (h1:PySem.W.exmOne K t c=some b1) (h2:PySem.W.exmOne K t d=some b2) (h3:PySem.W.exmOne K t e=some b3) (hb:(b1 || (b2 || (b3 || false)))=b:=by rfl):PySem.W.exmAny K t [c,d,e]=some b:=by
 subst hb
 simp only [PySem.W.exmAny,h1,h2,h3]
end
theorem ctOk_of {K:PySem.W.Frag} {mg:Str→Option Value} {ct:Str→Option Bool} {T:Addr→Bool→Prop} (h:∀ m y cls,ct m=some y→mg m=some cls→(fun v b=>∃ Ca,v=Value.ref Ca∧ExcC K Ca∧T Ca b) cls y):CtOk K mg ct T:=h
theorem ctOk1 {K:PySem.W.Frag} {mg:Str→Option Value} {n:Str} {D:Addr} {b:Bool} {T:Addr→Bool→Prop} (hm:mg n=some (.ref D)) (hx:ExcC K D) (h:T D b):CtOk K mg (ct1 n b) T:=ctOk_of (ct1_T hm ⟨D,rfl,hx,h⟩)
theorem fldOk1 {K:PySem.W.Frag} {mg:Str→Option Value} {n f:Str} {D:Addr} (hm:mg n=some (.ref D)) (hx:XfC K D) (h:PySem.W.findIn K (.ref D) f=some none):FldOk K mg f [n]:=fun m cls hm' e=>by
 obtain rfl:=List.mem_singleton.mp hm'
 rw [hm] at e
 cases e
 exact ⟨D,rfl,hx,h⟩
theorem ExcC.xf {K:PySem.W.Frag} {D:Addr} (h:ExcC K D):XfC K D:=⟨h.hg,h.hk,h.hs,h.hd⟩
end Xm
namespace Xm
open PySem PySem.Spec PyProof.Rows L2
section
variable {X:Cx} {C:Ct} {pos spos py:Pos} {y:Str} {i:Nat} {elt tg iter tg1 iter1:Expr} {ifs ifs1:List Expr} {scope:Scope} {own:List (Str × Nat)} {it it1:LF} {u u1:D→AS→Option AS} {ts ts1:List Nat} {tt tt1:BF} {te:EF} {vs vs1:List Nat}
end
end Xm
namespace K51
open PySem PySem.Spec PyProof.Rows L2 Xm DwD K05 K07 SeF
end K51
namespace K51
open PySem PySem.Spec PyProof.Rows L2 Xm DwD K05 K07 SeF
end K51
namespace K51
open PySem PySem.Spec PyProof.Rows L2 Xm DwD K05 K07 SeF
end K51
namespace K51
open PySem PySem.Spec PyProof.Rows L2 Xm DwD K05 K07 SeF
end K51
namespace K51
open PySem PySem.Spec PyProof.Rows L2 Xm DwD K05 K07 SeF
end K51
namespace K51
open PySem PySem.Spec PyProof.Rows L2 Xm DwD K05 K07 SeF
end K51
namespace K51
open PySem PySem.Spec PyProof.Rows L2 Xm DwD K05 K07 SeF
end K51
namespace K51
open PySem PySem.Spec PyProof.Rows L2 Xm DwD K05 K07 SeF
end K51
namespace K51
open PySem PySem.Spec PyProof.Rows L2 Xm DwD K05 K07 SeF
end K51
namespace K51
open PySem PySem.Spec PyProof.Rows L2 Xm DwD K05 K07 SeF
end K51
namespace K51
open PySem PySem.Spec PyProof.Rows L2 Xm DwD K05 K07 SeF
end K51
namespace K51
open PySem PySem.Spec PyProof.Rows L2 Xm DwD K05 K07 SeF
end K51
namespace K51
open PySem PySem.Spec PyProof.Rows L2 Xm DwD K05 K07 SeF
end K51
namespace K51
open PySem PySem.Spec PyProof.Rows L2 Xm DwD K05 K07 SeF
end K51
namespace K51
open PySem PySem.Spec PyProof.Rows L2 Xm DwD K05 K07 SeF
end K51
namespace K51
open PySem PySem.Spec PyProof.Rows L2 Xm DwD K05 K07 SeF
end K51
namespace K51
open PySem PySem.Spec PyProof.Rows L2 Xm DwD K05 K07 SeF
end K51
namespace K51
open PySem PySem.Spec PyProof.Rows L2 Xm DwD K05 K07 SeF
end K51
namespace K51
open PySem PySem.Spec PyProof.Rows L2 Xm DwD K05 K07 SeF
end K51
namespace K51
open PySem PySem.Spec PyProof.Rows L2 Xm DwD K05 K07 SeF
end K51
namespace K51
open PySem PySem.Spec PyProof.Rows L2 Xm DwD K05 K07 SeF
end K51
namespace K51
open PySem PySem.Spec PyProof.Rows L2 Xm DwD K05 K07 SeF
end K51
namespace K51
open PySem PySem.Spec PyProof.Rows L2 Xm DwD K05 K07 SeF
end K51
namespace K51
open PySem PySem.Spec PyProof.Rows L2 Xm DwD K05 K07 SeF
end K51
namespace K51
open PySem PySem.Spec PyProof.Rows L2 Xm DwD K05 K07 SeF
end K51
namespace K51
open PySem PySem.Spec PyProof.Rows L2 Xm DwD K05 K07 SeF
end K51
namespace K51
open PySem PySem.Spec PyProof.Rows L2 Xm DwD K05 K07 SeF
end K51
namespace K54
open PySem PySem.Spec PyProof.Rows L2 Xm DwD K05 K07 SeF K51
end K54
namespace K54
open PySem PySem.Spec PyProof.Rows L2 Xm DwD K05 K07 SeF K51
end K54
namespace K54
open PySem PySem.Spec PyProof.Rows L2 Xm DwD K05 K07 SeF K51
end K54
namespace K54
open PySem PySem.Spec PyProof.Rows L2 Xm DwD K05 K07 SeF K51
end K54
namespace Xm
open PySem PySem.Spec PyProof.Rows L2
open PySem.W (sortingHeap sortingHeap_old dataKind)
end Xm
namespace Xm
open PySem PySem.Spec PyProof.Rows L2
section
variable {prog:Program} {w:World} {A:Around} {E:Value→Shared→Prop} {s:Shared} {l:Addr} {xs:Array (Int × Tok)}
variable {its:List Value} {ns:List Int}
end
section
variable {X:Cx} {C:Ct} {pos p:Pos} {a:Expr} {f:EF}
end
end Xm
namespace Tb
open PySem PySem.Spec PyProof.Rows L2 Xm DwD K05 K07 SeF K51 K54
end Tb
namespace DwB
open PySem PySem.Spec PyProof.Rows L2 Xm
end DwB
namespace K23
open PySem PySem.Spec PyProof.Rows L2 Xm Tb
end K23
namespace Tb
open PySem PySem.Spec PyProof.Rows L2 Xm DwD K05 K07 SeF K51 K54
end Tb
namespace K54
open PySem PySem.Spec PyProof.Rows L2 Xm DwD K05 K07 SeF K51
end K54
namespace K54
open PySem PySem.Spec PyProof.Rows L2 Xm DwD K05 K07 SeF K51
end K54
namespace K54
open PySem PySem.Spec PyProof.Rows L2 Xm DwD K05 K07 SeF K51
end K54
namespace Tb
open PySem PySem.Spec PyProof.Rows L2 Xm DwD K05 K07 SeF K51 K54
end Tb
namespace K54
open PySem PySem.Spec PyProof.Rows L2 Xm DwD K05 K07 SeF K51
end K54
namespace K54
open PySem PySem.Spec PyProof.Rows L2 Xm DwD K05 K07 SeF K51
end K54
namespace K54
open PySem PySem.Spec PyProof.Rows L2 Xm DwD K05 K07 SeF K51
end K54
namespace K54
open PySem PySem.Spec PyProof.Rows L2 Xm DwD K05 K07 SeF K51
end K54
namespace K54
open PySem PySem.Spec PyProof.Rows L2 Xm DwD K05 K07 SeF K51
end K54
namespace K54
open PySem PySem.Spec PyProof.Rows L2 Xm DwD K05 K07 SeF K51
end K54
namespace K54
open PySem PySem.Spec PyProof.Rows L2 Xm DwD K05 K07 SeF K51
end K54
namespace Tb
open PySem PySem.Spec PyProof.Rows L2 Xm DwD K05 K07 SeF K51 K54
end Tb
namespace Tb
open PySem PySem.Spec PyProof.Rows L2 Xm DwD K05 K07 SeF K51 K54
end Tb
namespace K23
open PySem PySem.Spec PyProof.Rows L2 Xm DwD K05 K07 SeF K51 K54 Tb
end K23
namespace K23
open PySem PySem.Spec PyProof.Rows L2 Xm DwD K05 K07 SeF K51 K54 Tb
end K23
namespace DwF
open PySem PySem.Spec PyProof.Rows L2 Xm
end DwF
namespace CrF
open PySem PySem.Spec PyProof.Rows L2 Xm DwF
end CrF
namespace ExF
open PySem PySem.Spec PyProof.Rows L2 Xm DwF CrF
end ExF
namespace LxF
open PySem PySem.Spec PyProof.Rows L2 Xm DwF CrF ExF
end LxF
namespace K23
open PySem PySem.Spec PyProof.Rows L2 Xm DwD K05 K07 SeF K51 K54 Tb
end K23
namespace K23
open PySem PySem.Spec PyProof.Rows L2 Xm DwD K05 K07 SeF K51 K54 Tb
end K23
namespace K23
open PySem PySem.Spec PyProof.Rows L2 Xm DwD K05 K07 SeF K51 K54 Tb
end K23
namespace K23
open PySem PySem.Spec PyProof.Rows L2 Xm DwD K05 K07 SeF K51 K54 Tb
end K23
namespace K23
open PySem PySem.Spec PyProof.Rows L2 Xm DwD K05 K07 SeF K51 K54 Tb
end K23
namespace K23
open PySem PySem.Spec PyProof.Rows L2 Xm DwD K05 K07 SeF K51 K54 Tb
end K23
namespace K23
open PySem PySem.Spec PyProof.Rows L2 Xm DwD K05 K07 SeF K51 K54 Tb
end K23
namespace K79
open PySem PySem.Spec PyProof.Rows L2 Xm
open DwC (g_law_pen mf_law_pen e_law_pen g_law_draw mq_law_draw e_law_draw)
noncomputable section
def g_show_share:SF:=(seqS (asgT (rd 0) (unpT 2 (consT (setD 1) (consT (setD 2) nilT)))) (retS (ifE (valB (bin2 kEq (rd 2) (cst (.int 1)))) (un1 kStrA (rd 1)) (jsF [(un1 kFmt (rd 1)),(cst (.str (PySem.Str.ofString "/"))),(un1 kFmt (rd 2))] PySem.Str.empty))))
def mf_show_share:=runP g_show_share 3
theorem e_show_share:∀ ds r,ds.length=1→mf_show_share ds=some r→Leaves g_show_share (st0 3 ds) r fun _=>True:=runP_ok
def g_law_reduced:SF:=(seqS (par2 2 3 (consA (un1 kAbs (rd 0)) (consA (rd 1) nilA))) (seqS (clrS [3] (whileS (valB (bin2 kNe (rd 3) (cst (.int 0)))) (par2 2 3 (consA (rd 3) (consA (bin2 kMod (rd 2) (rd 3)) nilA))) msAll)) (retS (tupF (consA (bin2 kDiv (rd 0) (rd 2)) (consA (bin2 kDiv (rd 1) (rd 2)) nilA))))))
def mf_law_reduced:=runP g_law_reduced 4
theorem e_law_reduced:∀ ds r,ds.length=2→mf_law_reduced ds=some r→Leaves g_law_reduced (st0 4 ds) r fun _=>True:=runP_ok
def g_law_writ:SF:=(seqS (ifS (valB (bin2 kEq (bin2 kIx (rd 0) (cst (.int 1))) (cst (.int 1)))) (retS (un1 kStrA (bin2 kIx (rd 0) (cst (.int 0))))) skipS) (retS (bin2 kCatS (bin2 kCatS (un1 kStrA (bin2 kIx (rd 0) (cst (.int 0)))) (cst (.str (PySem.Str.ofString "/")))) (un1 kStrA (bin2 kIx (rd 0) (cst (.int 1)))))))
def mf_law_writ:=runP g_law_writ 1
theorem e_law_writ:∀ ds r,ds.length=1→mf_law_writ ds=some r→Leaves g_law_writ (st0 1 ds) r fun _=>True:=runP_ok
end
end K79
namespace K79
open PySem PySem.Spec PyProof.Rows L2 Xm
open DwC (g_law_pen mf_law_pen e_law_pen g_law_draw mq_law_draw e_law_draw draw_ok)
open DwD (compL_all compL_map)
theorem app_len (a b:Str):(a++b).length=a.length + b.length:=PySem.Str.length_append a b
theorem emp_app (a:Str):PySem.Str.empty++a=a:=by
 show PySem.Str.append _ _=a
 unfold PySem.Str.append PySem.Str.empty
 simp
theorem k_catS {a b:Str} (h:a.length + b.length ≤ 1000000):kCatS (.str a) (.str b)=some (.str (a++b)):=if_pos (sl_le h)
end K79
namespace K79
open PySem PySem.Spec PyProof.Rows L2 Xm
open DwC (g_law_pen mf_law_pen e_law_pen g_law_draw mq_law_draw e_law_draw draw_ok)
open DwD (compL_all compL_map)
end K79
namespace K79
open PySem PySem.Spec PyProof.Rows L2 Xm
open DwC (g_law_pen mf_law_pen e_law_pen g_law_draw mq_law_draw e_law_draw draw_ok)
open DwD (compL_all compL_map)
end K79
namespace K79
open PySem PySem.Spec PyProof.Rows L2 Xm
open DwC (g_law_pen mf_law_pen e_law_pen g_law_draw mq_law_draw e_law_draw draw_ok)
open DwD (compL_all compL_map)
theorem m_law_reduced {t b:Int} (hb:0 < b) (hs:Sd b):mf_law_reduced [.int t,.int b]=some (.val (sh (Rat.divInt t b))):=by
 have hg:(0:Int) < Int.gcd t b:=by
  have:=Int.gcd_pos_of_ne_zero_right t (show b≠0 by omega)
  omega
 have sg:=sd_gcd (t:=t) (show b≠0 by omega) hs
 have d1:∀ i:Int,kDiv (.int i) (.int (Int.gcd t b:Int))=some (.int (i.fdiv (Int.gcd t b:Int))):=fun i=>k_div (i:=i) (j:=(Int.gcd t b:Int)) (by omega) sg
 have da:=d1 t
 have db:=d1 b
 refine runP_wp ?_
 rw [sh_divInt (show b≠0 by omega),if_neg (by omega)]
 unfold g_law_reduced
 repeat (first | (with_reducible first | refine Xm.wp_seq ?_ | refine Xm.wp_un1 ?_ | refine Xm.wp_consA ?_ | refine Xm.wp_nilA ?_ | refine Xm.wp_par2 ?_ | refine Xm.ex_of Xm.k_abs ?_) | ((with_reducible apply Xm.wp_rd); · rfl))
 refine ⟨_,_,rfl,rfl,rfl,?_⟩
 repeat with_reducible first | refine Xm.wp_seq ?_ | refine Xm.wp_clr ?_
 refine wp_while (fun n s=>∃ x y:Int,s=[.dat (.int t),.dat (.int b),.dat (.int x),.dat (.int y)]∧0 ≤ x∧0 ≤ y∧Int.gcd x y=Int.gcd t b∧y.natAbs ≤ n) b.natAbs ⟨(t.natAbs:Int),b,rfl,by omega,by omega,by rw [Int.gcd,Int.gcd,Int.natAbs_natCast],by omega⟩ (by simp [msAll,wt]; omega) ?_
 rintro n s ⟨x,y,rfl,hx,hy,hg2,hn⟩
 by_cases h0:y=0
 ·have hbb:(!(y == 0))=false:=by rw [h0]; rfl
  subst h0
  rw [Int.gcd_zero_right] at hg2
  have hx2:x=(Int.gcd t b:Int):=by rw [← hg2]; omega
  subst hx2
  repeat (first | (with_reducible first | refine Xm.wp_bin2 ?_ | refine Xm.wp_consA ?_ | refine Xm.wp_nilA ?_ | refine Xm.wp_cst ?_ | refine Xm.wp_valB ?_ | refine Xm.wp_retS ?_ | refine Xm.wp_tupF ?_ | refine Xm.ite_nei ?_ | refine Xm.ex_bool ?_ | refine Xm.ex_of Xm.k_neI ?_) | ((with_reducible apply Xm.ex_of); · with_reducible assumption) | ((with_reducible apply Xm.len_and); · exact Nat.le_of_ble_eq_true rfl) | ((with_reducible apply Xm.wp_rd); · rfl))
  rfl
 ·have hbb:(!(y == 0))=true:=by
   rw [Bool.not_eq_true']
   exact beq_false_of_ne h0
  have km:kMod (.int x) (.int y)=some (.int (x.fmod y)):=k_mod h0
  repeat (first | (with_reducible first | refine Xm.wp_bin2 ?_ | refine Xm.wp_cst ?_ | refine Xm.wp_valB ?_ | refine Xm.ex_bool ?_ | refine Xm.ex_of Xm.k_neI ?_) | ((with_reducible apply Xm.ite_t); · with_reducible assumption) | ((with_reducible apply Xm.wp_rd); · rfl))
  refine ⟨n - 1,by omega,?_⟩
  repeat (first | (with_reducible first | refine Xm.wp_bin2 ?_ | refine Xm.wp_consA ?_ | refine Xm.wp_nilA ?_ | refine Xm.wp_par2 ?_) | ((with_reducible apply Xm.ex_of); · with_reducible assumption) | ((with_reducible apply Xm.wp_rd); · rfl))
  exact ⟨_,_,rfl,rfl,rfl,y,x.fmod y,rfl,hy,by rw [fm (by omega)]; exact Int.emod_nonneg _ h0,by rw [K07.gcd_step x y h0,hg2],by have:=K07.fmod_lt x y h0; omega⟩
end K79
namespace K79
open PySem PySem.Spec PyProof.Rows L2 Xm
open DwC (g_law_pen mf_law_pen e_law_pen g_law_draw mq_law_draw e_law_draw draw_ok)
open DwD (compL_all compL_map)
end K79
namespace K79
open PySem PySem.Spec PyProof.Rows L2 Xm
open DwC (g_law_pen mf_law_pen e_law_pen g_law_draw mq_law_draw e_law_draw draw_ok)
open DwD (compL_all compL_map)
end K79
namespace Xm
open PySem PySem.Spec PyProof.Rows L2
def kLenX:D→Option D
 | .str z=>if z.length ≤ sizeLine then some (.int z.length) else none
 | d=>kLen d
def kIxX:D→D→Option D
 | .str z,.int i=>if z.length ≤ sizeLine then (atI z.cps.toList i).map fun c=>.str ⟨#[c]⟩ else none
 | a,b=>kIx a b
def kIntS:D→Option D
 | .str z=>if z.length ≤ 640 then (intText? z).map .int else none
 | d=>kInt d
def kStarts:D→D→Option D
 | .str a,.str b=>some (.bool (Txt.startswith a b))
 | _,_=>none
def oneC:Str→Option Nat
 | ⟨⟨[c]⟩⟩=>some c
 | _=>none
def kInS:D→D→Option D
 | .str a,.str z=>(oneC a).map fun c=>.bool (decide (c ∈ z.cps.toList))
 | _,_=>none
def kNotInS:D→D→Option D
 | .str a,.str z=>(oneC a).map fun c=>.bool (!decide (c ∈ z.cps.toList))
 | _,_=>none
def kPart:D→D→Option D
 | .str a,.str b=>if (b.length == 0)=false∧a.length ≤ sizeLine then some (.tuple [.str (Txt.partition a b).1,.str (Txt.partition a b).2.1,.str (Txt.partition a b).2.2]) else none
 | _,_=>none
def kSplit:D→D→Option D
 | .str a,.str b=>if (b.length == 0)=false∧a.length + 2 ≤ sizeLine then some (.list ((Txt.split a b).map .str)) else none
 | _,_=>none
theorem oneC_eq {a:Str} {c:Nat} (h:oneC a=some c):a=⟨#[c]⟩:=by
 unfold oneC at h
 split at h
 ·cases h; rfl
 ·cases h
def itS (f:EF):LF:=fun st=>(f st).bind fun a=>match a.1 with
 | .str z=>some (z.cps.toList.map fun c=>.str ⟨#[c]⟩,a.2)
 | _=>none
theorem its_ok {K:Kx} {F:Hp} {z:Str}:ItOk K F (Its z) (z.cps.toList.map fun c=>.str ⟨#[c]⟩) where
 go:=fun i H hi _=>by
  have:i < z.cps.size:=by simpa using hi
  exact this
 stop:=fun H _=>by show z.cps.size ≤ _; simp
 yld:=fun i H x H' d hd _ y=>by
  obtain ⟨rfl,c,hc,rfl⟩:=y
  rw [List.getElem?_map,Array.getElem?_toList,hc] at hd
  cases hd
  exact ⟨fun _=>none,fun _ _ z=>(nomatch z),Same.refl _,fun F1 _ _=>.str _⟩
def cutS2 (f:EF) (lo hi:OF):EF:=fun st=>(f st).bind fun a=>(lo a.2).bind fun l=>(hi l.2).bind fun h=>match a.1 with
 | .str z=>if z.length ≤ sizeLine then some (.str (cutS z l.1 h.1),h.2) else none
 | _=>none
theorem strs_dp {K:Kx} {F:Hp}:∀ ys:List Str,DpAll K F (ys.map V.str) (ys.map PyData.str)
 | []=>.nil
 | y::r=>.cons (.str _) (strs_dp r)
theorem vals3 (x y z:Str) (t u v:Tok):Vals [.str x,.str y,.str z] [.str x t,.str y u,.str z v]:=.cons (show RelV (.str x) (.str x t) from ⟨_,rfl⟩) (.cons (show RelV (.str y) (.str y u) from ⟨_,rfl⟩) (.cons (show RelV (.str z) (.str z v) from ⟨_,rfl⟩) .nil))
theorem three_line {x y z:V}:[x,y,z].length ≤ sizeLine:=show 3 ≤ sizeLine by decide
section
variable {X:Cx}
def rPartN:V→List V→Hp→VK→Prop:=fun x xs H Q=>∃ a b,x=.str a∧xs=[.str b]∧(b.length == 0)=false∧a.length ≤ sizeLine∧∀ (p:Addr) (its:List Value),H p=none→Q (.ref p) (upd H p (.frz (tupO its) (.tup [.str (Txt.partition a b).1,.str (Txt.partition a b).2.1,.str (Txt.partition a b).2.2])))
theorem mt_partN:MtR X "str.partition" rPartN:=by
 intro pins s σ H x xs v us Q I rx rxs h
 obtain ⟨a,b,rfl,rfl,hb,hl,q⟩:=h
 obtain ⟨t,rfl⟩:=rx
 obtain ⟨u,rfl,ru⟩:=vals1 rxs
 obtain ⟨u,rfl⟩:=ru
 refine call_meets F.slot_str_partition (typeIs_str s a t) F.entry_str_partition (F.args_str_partition_2 _ _) (meets_str_partition a b t u hb hl) ?_
 unfold Txt.partition at q
 cases ho:Builtin.Str.occurrences a b 0 a.length 1 with
 | nil=>
  rw [ho] at q
  exact ⟨.ref s.heap.objs.size,_,I.laid (t':=s.toks + 1) (fun b o e=>Heap.get?_push_of_some _ e) (Nat.le_refl _) (tupN_ok (its:=[_,_,_]) three_line (vals3 _ _ _ _ _ _) (Heap.get?_push_size _ rfl)),rfl,q _ _ (I.hok.fresh (Nat.le_refl _))⟩
 | cons i r=>
  rw [ho] at q
  exact ⟨.ref s.heap.objs.size,_,I.laid (t':=s.toks + 1 + 1) (fun b o e=>Heap.get?_push_of_some _ e) (Nat.le_refl _) (tupN_ok (its:=[_,_,_]) three_line (vals3 _ _ _ _ _ _) (Heap.get?_push_size _ rfl)),rfl,q _ _ (I.hok.fresh (Nat.le_refl _))⟩
theorem call_int_any:CallR X (.type "int") (fun xs H Q=>(∃ a n,xs=[.str a]∧intText? a=some n∧a.length ≤ 640∧Q (.int n) H)∨((∃ i,xs=[.int i]∧Q (.int i) H)∨∃ b,xs=[.bl b]∧Q (.int (if b then 1 else 0)) H)):=by
 intro pins s σ H vs us Q I r h
 rcases h with h | h
 ·exact call_int_str pins s σ H vs us Q I r h
 ·exact call_int1 pins s σ H vs us Q I r h
theorem str_mulT (a:Int) (t:Tok) (x:Str) (u:Tok):Meets (Builtin.«int.__rmul__» ⟨[.int a t,.str x u],[]⟩) (fun _ R s=>R (.ok (.ret Value.notImplemented)) s):=
 .of_wp fun prog w A R s h=>by
  obtain ⟨hp,g,d,tk,os⟩:=s
  wp_walk
  exact ⟨_,rfl,h⟩
end
section
variable {X:Cx} {C:Ct} {pos p apos p2:Pos} {tg a b o e:Expr} {lo hi:Option Expr} {f g k:EF} {l h:OF}
theorem xd_lenX (hm:X.mg "len" = none) (ha:PE X a (dOf (kxOf X) C f)) (hg:Gl X "len" := by rfl) (he:starEach [a] X.env=(false,eval a X.env)::starEach [] X.env:=by rfl):PE X (.Call (.Name "len" p) [a] [] pos) (dOf (kxOf X) C (un1 kLenX f)):=
 xd_b1 (cr_or call_len_str (cr_or call_len_seq call_lenD)) (fun F H x a z Q fh ha e q=>by
  unfold kLenX at e; split at e
  ·split at e <;> cases e
   rename_i hl
   exact .inl ⟨_,by rw [dp_str ha],hl,q _ F H (Gr.refl fh) (.int _)⟩
  ·refine .inr ?_
   unfold kLen at e; split at e <;> cases e
   ·cases ha with
    | lst hs hv=>exact .inl ⟨_,_,rfl,.inl (sql_up fh hs),by rw [DpAll_len hv]; exact q _ F H (Gr.refl fh) (.int _)⟩
   ·cases ha with
    | tup hs hv=>exact .inl ⟨_,_,rfl,.inr (sqt_up fh hs),by rw [DpAll_len hv]; exact q _ F H (Gr.refl fh) (.int _)⟩
   ·exact .inr ⟨_,F,_,rfl,rdict_of ha fh,q _ F H (Gr.refl fh) (.int _)⟩) hm (by decide +kernel) ha hg (he:=he)
theorem xd_intS (hm:X.mg "int" = none) (ha:PE X a (dOf (kxOf X) C f)) (hg:Gl X "int" := by rfl) (he:starEach [a] X.env=(false,eval a X.env)::starEach [] X.env:=by rfl):PE X (.Call (.Name "int" p) [a] [] pos) (dOf (kxOf X) C (un1 kIntS f)):=
 xd_t1 call_int_any (fun F H x a z Q fh ha e q=>by
  unfold kIntS at e; split at e
  ·split at e
   ·rename_i hl
    obtain ⟨n,en,e⟩:=Option.map_eq_some_iff.mp e
    cases e
    exact .inl ⟨_,n,by rw [dp_str ha],en,hl,q _ F H (Gr.refl fh) (.int _)⟩
   ·cases e
  ·unfold kInt at e; split at e <;> cases e
   ·exact .inr (.inl ⟨_,by rw [dp_int ha],q _ F H (Gr.refl fh) (.int _)⟩)
   ·exact .inr (.inr ⟨_,by rw [dp_bl ha],q _ F H (Gr.refl fh) (.int _)⟩)) hm (by decide +kernel) ha hg (he:=he)
theorem ok_ixX {K:Kx}:Ok2 K (fun x y H Q=>rIxS x y H Q∨((rIxL K.K x y H Q∨rIxT K.K x y H Q)∨rIxD K x y H Q)) kIxX:=by
 intro F H x y a b z Q fh ha hb e q
 unfold kIxX at e
 split at e
 ·split at e
  ·rename_i hl
   obtain ⟨c,ec,e⟩:=Option.map_eq_some_iff.mp e
   cases e
   exact .inl ⟨_,_,c,dp_str ha,dp_int hb,hl,ec,q _ F H (Gr.refl fh) (.str _)⟩
  ·cases e
 ·exact .inr (ok_ix F H x y _ _ z Q fh ha hb e q)
theorem xd_itemX (hu:X.A.units + 65 < cLine) (ha:PE X a (dOf (kxOf X) C f)) (hb:PE X b (dOf (kxOf X) C g)) (hs:PlainIx b:=by exact fun _ _=>rfl):PE X (.Subscript a b pos) (dOf (kxOf X) C (bin2 kIxX f g)):=xd_ix (ix_or ix_str (ix_or (ix_or ix_list ix_tup) (ix_dict hu))) ok_ixX ha hb hs
theorem xd_inS (ha:PE X a (dOf (kxOf X) C f)) (hb:PE X b (dOf (kxOf X) C g)) (hm:behindInMarks .In b=false:=by rfl):PE X (.Compare a [.In] [b] pos) (dOf (kxOf X) C (bin2 kInS f g)):=xd_cmp op_in_sign (fun F H x y a b z Q fh ha hb e q=>by
 unfold kInS at e
 split at e
 ·obtain ⟨c,ec,e⟩:=Option.map_eq_some_iff.mp e
  cases e
  have:=oneC_eq ec
  subst this
  exact ⟨c,_,dp_str ha,dp_str hb,q _ F H (Gr.refl fh) (.bl _)⟩
 ·cases e) ha hb hm
theorem xi_str (h:PE X e (dOf (kxOf X) C f)):PI X tg e (iOf (kxOf X) C (itS f)):=pi_wk (pi_str h) fun σ H R q=>by
 obtain ⟨F,st,w,Rl,ew,q⟩:=q
 obtain ⟨a,ea,ew⟩:=Option.bind_eq_some_iff.mp ew
 refine ⟨F,st,a,Rl,ea,fun v H1 F1 s1 R1 d1=>?_⟩
 split at ew
 ·rename_i z hx
  cases ew
  rw [hx] at d1
  exact ⟨z,dp_str d1,q _ H1 F1 s1 R1 its_ok⟩
 ·cases ew
theorem xd_sliceS (he:PE X e (dOf (kxOf X) C f)) (hl:PO X lo (oOf (kxOf X) C l)) (hh:PO X hi (oOf (kxOf X) C h)):PE X (.Subscript e (.Slice lo hi none p2) pos) (dOf (kxOf X) C (cutS2 f l h)):=
 pe_wk (pe_slice sl_str he hl hh) fun σ H Q q=>by
  obtain ⟨F,st,w,R,e,q⟩:=q
  obtain ⟨a,ea,e⟩:=Option.bind_eq_some_iff.mp e
  obtain ⟨b,eb,e⟩:=Option.bind_eq_some_iff.mp e
  obtain ⟨c,ec,e⟩:=Option.bind_eq_some_iff.mp e
  refine ⟨F,st,a,R,ea,fun v H1 F1 s1 R1 d1=>⟨F1,a.2,b,R1,eb,fun H2 F2 s2 R2=>⟨F2,b.2,c,R2,ec,fun H3 F3 s3 R3=>?_⟩⟩⟩
  have up:Same F F3:=(s1.trans s2).trans s3
  split at e
  ·rename_i z hz
   split at e
   ·rename_i hl
    cases e
    rw [hz] at d1
    exact ⟨z,dp_str d1,hl,q _ H3 F3 up R3 (.str _)⟩
   ·cases e
  ·cases e
theorem xd_m1 {id:String} {name:Str} {r:V→List V→Hp→VK→Prop} {kk:D→D→Option D} (sl:PySem.Slot "str" name id) (ty:typeOf (Value.builtin id)=pure (Value.type "method_descriptor")) (mt:MtR X id r)
  (tx:∀ a b z,kk a b=some z→∃ s,a=.str s) (ok:Ok2 (kxOf X) (fun x y H Q=>r x [y] H Q) kk)
  (ho:PE X o (dOf (kxOf X) C k)) (he:PE X e (dOf (kxOf X) C f)) (hs:starEach [e] X.env=[(false,eval e X.env)]:=by rfl) (hbase:attributeBase o name X.env (eval o X.env)=eval o X.env:=by rfl) (hline:(apos.endLine == pos.line)=true:=by rfl) :
  PE X (.Call (.Attribute o name apos) [e] [] pos) (dOf (kxOf X) C (bin2 kk k f)):=
 pe_wk (pe_m1 sl ty mt ho he hs hbase hline) fun σ H Q q=>by
  obtain ⟨F,st,w,R,e,q⟩:=q
  unfold bin2 at e
  obtain ⟨a,ea,e⟩:=Option.bind_eq_some_iff.mp e
  obtain ⟨b,eb,e⟩:=Option.bind_eq_some_iff.mp e
  obtain ⟨z,ez,e⟩:=Option.map_eq_some_iff.mp e
  cases e
  refine ⟨F,st,a,R,ea,fun x H1 F1 s1 R1 d1=>?_⟩
  obtain ⟨s,hs⟩:=tx _ _ _ ez
  refine ⟨⟨s,by rw [hs] at d1; exact dp_str d1⟩,F1,a.2,b,R1,eb,fun y H2 F2 s2 R2 d2=>?_⟩
  refine ok F2 H2 x y a.1 b.1 z Q R2.fh (Dp_up d1 s2) d2 ez fun v F3 H3 g d3=>?_
  exact q v H3 F3 ((s1.trans s2).trans g.ff) (R2.grow g) d3
theorem xd_starts (ho:PE X o (dOf (kxOf X) C k)) (he:PE X e (dOf (kxOf X) C f)) (hs:starEach [e] X.env=[(false,eval e X.env)]:=by rfl) (hbase:attributeBase o "startswith" X.env (eval o X.env)=eval o X.env:=by rfl) (hline:(apos.endLine == pos.line)=true:=by rfl) :
  PE X (.Call (.Attribute o "startswith" apos) [e] [] pos) (dOf (kxOf X) C (bin2 kStarts k f)):=
 xd_m1 F.slot_str_startswith F.type_str_startswith mt_startswith (fun a b z e=>by
  unfold kStarts at e; split at e
  ·exact ⟨_,rfl⟩
  ·cases e) (fun F H x y a b z Q fh ha hb e q=>by
  unfold kStarts at e; split at e <;> cases e
  exact ⟨_,_,dp_str ha,by rw [dp_str hb],q _ F H (Gr.refl fh) (.bl _)⟩) ho he hs hbase hline
theorem xd_part (ho:PE X o (dOf (kxOf X) C k)) (he:PE X e (dOf (kxOf X) C f)) (hs:starEach [e] X.env=[(false,eval e X.env)]:=by rfl) (hbase:attributeBase o "partition" X.env (eval o X.env)=eval o X.env:=by rfl) (hline:(apos.endLine == pos.line)=true:=by rfl) :
  PE X (.Call (.Attribute o "partition" apos) [e] [] pos) (dOf (kxOf X) C (bin2 kPart k f)):=
 xd_m1 F.slot_str_partition F.type_str_partition mt_partN (fun a b z e=>by
  unfold kPart at e; split at e
  ·exact ⟨_,rfl⟩
  ·cases e) (fun F H x y a b z Q fh ha hb e q=>by
  unfold kPart at e; split at e
  ·split at e <;> cases e
   rename_i h
   exact ⟨_,_,dp_str ha,by rw [dp_str hb],h.1,h.2,fun p its hp=>q _ _ _ (Gr.new fh hp) (.tup (TupQ.new upd_same) (.cons (.str _) (.cons (.str _) (.cons (.str _) .nil))))⟩
  ·cases e) ho he hs hbase hline
theorem xd_split (ho:PE X o (dOf (kxOf X) C k)) (he:PE X e (dOf (kxOf X) C f)) (hs:starEach [e] X.env=[(false,eval e X.env)]:=by rfl) (hbase:attributeBase o "split" X.env (eval o X.env)=eval o X.env:=by rfl) (hline:(apos.endLine == pos.line)=true:=by rfl) :
  PE X (.Call (.Attribute o "split" apos) [e] [] pos) (dOf (kxOf X) C (bin2 kSplit k f)):=
 xd_m1 F.slot_str_split F.type_str_split mt_split (fun a b z e=>by
  unfold kSplit at e; split at e
  ·exact ⟨_,rfl⟩
  ·cases e) (fun F H x y a b z Q fh ha hb e q=>by
  unfold kSplit at e; split at e
  ·split at e <;> cases e
   rename_i h
   exact ⟨_,_,dp_str ha,by rw [dp_str hb],h.1,h.2,fun p hp=>q _ _ _ (Gr.new fh hp) (.lst (.inl (.inl upd_same)) (strs_dp _))⟩
  ·cases e) ho he hs hbase hline
end
end Xm
namespace Xm
open PySem PySem.Spec PyProof.Rows L2
def repS (x:Str) (n:Nat):Str:=⟨List.foldl (fun x1 x2=>x1++x2) #[] (List.replicate n x.cps)⟩
def kMulS:D→D→Option D
 | .str x,.int k=>if (2 ≤ k∧k ≤ 1000∧1 ≤ x.length∧x.length ≤ 1000)∧(repS x k.toNat).length ≤ sizeLine then some (.str (repS x k.toNat)) else none
 | _,_=>none
def revT (z:Str):Str:=⟨(List.filterMap (fun i=>z.cps[i]?) (Builtin.Str.strSliceIndices none none (-1) z.length)).toArray⟩
def revS (f:EF):EF:=fun st=>(f st).bind fun a=>match a.1 with
 | .str z=>if (revT z).length ≤ sizeLine then some (.str (revT z),a.2) else none
 | _=>none
def rRepS:R2:=fun x y H Q=>∃ (a:Str) (k:Int),x=.str a∧y=.int k∧(2 ≤ k∧k ≤ 1000∧1 ≤ a.length∧a.length ≤ 1000)∧(repS a k.toNat).length ≤ sizeLine∧Q (.str (repS a k.toNat)) H
section
variable {X:Cx}
theorem op_mulS:OpR X (binaryOp .Mult) rRepS:=by
 intro pins s σ H x y v u Q I rx ry h
 obtain ⟨a,k,rfl,rfl,⟨k2,k3,a1,a2⟩,hl,q⟩:=h
 obtain ⟨t,rfl⟩:=rx
 obtain ⟨u,rfl⟩:=ry
 refine wpAny_binaryOp_repeat (T := "str") (U := "int") (by decide) (fun s'=>typeIs_str s' a t) (fun s'=>typeIs_int s' k u) noFill_str_mul F.fills_int_mul F.slot_int_rmul repeat_str F.slot_int_index.lookup
  (call_meets F.slot_int_rmul (typeIs_int s k u) F.entry_int_rmul (F.args_int_rmul_2 _ _) (str_mulT k u a t) ⟨rfl,?_⟩)
 have c1:¬ k < 1:=by omega
 have c2:(k == 1 || a.length == 0)=false:=by
  rw [Bool.or_eq_false_iff]
  exact ⟨beq_false_of_ne (by omega),beq_false_of_ne (by omega)⟩
 have c3:a.length * k.toNat ≤ 1000 * 1000:=Nat.mul_le_mul a2 (by omega)
 refine call_gives F.slot_str_mul (typeIs_str s a t) F.entry_str_mul (F.args_str_mul_2 _ _) (gives_str_mul a k t u (by
  rw [Bool.or_eq_false_iff]
  exact ⟨decide_eq_false (by omega),decide_eq_false (by omega)⟩) (fun _ _=>?_) (fun _ _=>decide_eq_false (by rw [sizeLine_eq]; omega))) ?_
 ·have:(1000:Int) ≤ (2 ^ 63 - 1) / k:=by
   rw [Int.le_ediv_iff_mul_le (by omega)]
   omega
  omega
 ·rw [if_neg c1,if_neg (by rw [c2]; exact Bool.false_ne_true)]
  exact ⟨hl,.str _,H,I.kept (t':=s.toks + 1) fun b ob q=>q,⟨_,rfl⟩,q⟩
end
section
variable {X:Cx} {C:Ct} {pos p2:Pos} {a b e:Expr} {f g:EF}
theorem xd_mulS (ha:PE X a (dOf (kxOf X) C f)) (hb:PE X b (dOf (kxOf X) C g)):PE X (.BinOp a .Mult b pos) (dOf (kxOf X) C (bin2 kMulS f g)):=xd_op op_mulS (fun F H x y a b z Q fh ha hb e q=>by
 unfold kMulS at e
 split at e
 ·split at e <;> cases e
  rename_i h
  exact ⟨_,_,dp_str ha,dp_int hb,h.1,h.2,q _ F H (Gr.refl fh) (.str _)⟩
 ·cases e) ha hb
theorem pe_revS {te:TE} {k:Nat} {p1 p2 p3:Pos} (he:PE X e te):PE X (.Subscript e (.Slice none none (some (.UnaryOp .USub (.Constant (.int 1) k p1) p2)) p3) pos) (fun σ H Q=>te σ H fun x H1=>∃ z,x=.str z∧(revT z).length ≤ sizeLine∧Q (.str (revT z)) H1):=by
 refine ⟨fun pins s σ H Q I h=>?_⟩
 refine Subscript_ (thn (he.run pins s σ H _ I h) fun v s1 ⟨x,H1,I1,r1,q1⟩=>?_)
 have hst:PO X (some (.UnaryOp .USub (.Constant (.int 1) k p1) p2)) (tPart (tUn (rU fun i=>.int (-i)) (tC (.int 1)))):=po_some (pe_un un_neg pe_int)
 refine wpAny_Slice (thn (po_none.run pins s1 σ H1 (fun o H2=>o=none∧H2=H1) I1 ⟨rfl,rfl⟩) fun vl s2 ⟨l,H2,I2,pl,el,e2⟩=>?_)
 subst el e2
 refine thn (po_none.run pins s2 σ H2 (fun o H3=>o=none∧H3=H2) I2 ⟨rfl,rfl⟩) fun vu s3 ⟨u,H3,I3,pu,eu,e3⟩=>?_
 subst eu e3
 refine thn (hst.run pins s3 σ H3 (fun o H4=>o=some (-1)∧H4=H3) I3 ⟨1,rfl,-1,rfl,rfl,rfl⟩) fun vs s4 ⟨o,H4,I4,ps,eo,e4⟩=>?_
 subst eo e4
 have I5:Inv X pins σ H4 { s4 with heap:=s4.heap.push { cls:=.type "slice", data:=.fields #[vl,vu,vs] } }:=I4.kept (t':=s4.toks) fun b ob q=>Heap.get?_push_of_some _ q
 obtain ⟨z,ex,hl,q⟩:=q1
 subst ex
 obtain ⟨t,rfl⟩:=r1
 cases pl
 cases pu
 cases ps
 show wpAny (model X.prog X.w) X.A (subscriptTail e (.Slice none none (some (.UnaryOp .USub (.Constant (.int 1) k p1) p2)) p3) (.str z t) (.ref s4.heap.objs.size)) (EP X pins σ Q) X.xe { s4 with heap:=s4.heap.push { cls:=.type "slice", data:=.fields #[_,_,_] } }
 refine tail_any (ops:=[.str z t,.ref s4.heap.objs.size]) (typeIs_str _ z t) (F.slot_str_getitem.lookup) ?_ (by with_unfolding_all rfl)
 rename_i u0 _
 refine wpAny_getItem_str_slice (l:=none) (u:=none) (st:=some (-1,u0)) ⟨_,Heap.get?_push_size _ rfl,rfl,rfl⟩ (show ((-1:Int) == 0)=false by decide) ?_
 have e0:sliceMade z t none none (some (-1,u0))=Made.str (revT z):=by
  unfold sliceMade
  rw [if_neg (by show ¬ (((-1:Int) == 1 && _)=true); rw [show ((-1:Int) == 1)=false by decide,Bool.false_and]; exact Bool.false_ne_true)]
  rfl
 rw [e0]
 exact ⟨hl,.str _,H4,I5.kept (t':=s4.toks + 1) fun b ob q=>q,⟨_,rfl⟩,q⟩
theorem xd_revS {k:Nat} {p1 p3:Pos} (he:PE X e (dOf (kxOf X) C f)):PE X (.Subscript e (.Slice none none (some (.UnaryOp .USub (.Constant (.int 1) k p1) p2)) p3) pos) (dOf (kxOf X) C (revS f)):=
 pe_wk (pe_revS he) fun σ H Q q=>by
  obtain ⟨F,st,w,R,e,q⟩:=q
  obtain ⟨a,ea,e⟩:=Option.bind_eq_some_iff.mp e
  refine ⟨F,st,a,R,ea,fun v H1 F1 s1 R1 d1=>?_⟩
  split at e
  ·rename_i z hz
   split at e <;> cases e
   rename_i hl
   rw [hz] at d1
   exact ⟨z,dp_str d1,hl,q _ H1 F1 s1 R1 (.str _)⟩
  ·cases e
end
section
variable {K:PySem.W.Frag} {x:Str} {st:Stmt} {f:Addr} {oc kV doc pm cdv ct:Value} {od an:Option Addr} {osl:Array (Option Value)}
theorem dn_mk1N {T:Addr} {oT:Value} {dT:Option Addr} {sT:Array (Option Value)} {n:Nat} (l:K.lookup f=some ⟨oc,od,.func (PySem.W.fnOf x x (defArgs st) (defBody st) (defScope st) (.ref T) kV doc pm an cdv ct),osl⟩) (c:PySem.W.codeIn K cdv x=true) (k:PySem.W.keepIn K (.ref f)=true)
  (lT:K.lookup T=some ⟨oT,dT,.seq #[.none] n,sT⟩):Dn K x st [.non] f (PySem.W.fnOf x x (defArgs st) (defBody st) (defScope st) (.ref T) kV doc pm an cdv ct):=
 ⟨⟨oc,od,.ref T,kV,doc,pm,an,cdv,ct,osl,rfl,l,c,.inr ⟨by simp,T,_,[.none],n,rfl,lT,rfl,.cons rfl .nil⟩,.inl rfl⟩,k⟩
end
end Xm
namespace Xm
open PySem PySem.Spec PyProof.Rows L2
def kCutS (d:D) (lo hi:Option Int):Option D:=match d with
 | .str z=>if z.length ≤ sizeLine then some (.str (cutS z lo hi)) else none
 | _=>none
def kItS (d:D):Option (List D):=match d with
 | .str z=>some (z.cps.toList.map fun c=>.str ⟨#[c]⟩)
 | _=>none
def kRevS (d:D):Option D:=match d with
 | .str z=>if (revT z).length ≤ sizeLine then some (.str (revT z)) else none
 | _=>none
section
variable {f:EF} {st:AS} {QD:D→AS→Prop} {QL:List D→AS→Prop}
theorem wp_cutS2 {x y:OF} (w:Wp f st fun d s1=>Wp x s1 fun lo s2=>Wp y s2 fun hi s3=>∃ z,kCutS d lo hi=some z∧QD z s3):Wp (cutS2 f x y) st QD:=by
 obtain ⟨d,s1,e1,lo,s2,e2,hi,s3,e3,z,e4,q⟩:=w
 refine ⟨z,s3,?_,q⟩
 unfold cutS2
 rw [e1]
 simp only [Option.bind_some,e2,e3]
 unfold kCutS at e4
 split at e4
 ·split at e4
  ·rename_i h
   cases e4
   exact if_pos h
  ·cases e4
 ·cases e4
theorem wp_itS (w:Wp f st fun d s1=>∃ l,kItS d=some l∧QL l s1):Wp (itS f) st QL:=by
 obtain ⟨d,s1,e1,l,e4,q⟩:=w
 refine ⟨l,s1,?_,q⟩
 unfold itS
 rw [e1]
 simp only [Option.bind_some]
 unfold kItS at e4
 split at e4 <;> cases e4
 rfl
theorem wp_revS (w:Wp f st fun d s1=>∃ z,kRevS d=some z∧QD z s1):Wp (revS f) st QD:=by
 obtain ⟨d,s1,e1,l,e4,q⟩:=w
 refine ⟨l,s1,?_,q⟩
 unfold revS
 rw [e1]
 simp only [Option.bind_some]
 unfold kRevS at e4
 split at e4
 ·split at e4
  ·rename_i h
   cases e4
   exact if_pos h
  ·cases e4
 ·cases e4
end
section
variable {X:Cx} {C:Ct} {pos:Pos} {a b:Expr} {f g:EF}
theorem ok_notInS {K:Kx}:Ok2 K (fun x y H Q=>∃ c z,x=.str ⟨#[c]⟩∧y=.str z∧Q (.bl (!decide (c ∈ z.cps.toList))) H) kNotInS:=by
 intro F H x y a b z Q fh ha hb e q
 unfold kNotInS at e
 split at e
 ·obtain ⟨c,ec,e⟩:=Option.map_eq_some_iff.mp e
  cases e
  have:=oneC_eq ec
  subst this
  exact ⟨c,_,dp_str ha,dp_str hb,q _ F H (Gr.refl fh) (.bl _)⟩
 ·cases e
theorem xt_notInS (ha:PE X a (dOf (kxOf X) C f)) (hb:PE X b (dOf (kxOf X) C g)) (hm:behindInMarks .NotIn b=false:=by rfl):PT X (.Compare a [.NotIn] [b] pos) (bOf (kxOf X) C (valB (bin2 kNotInS f g))):=xt_cmp op_notIn_sign ok_notInS ha hb hm
end
end Xm
namespace Xk
open PySem PySem.HandSPX PySem.Builtin PySem.Builtin.ObjectAttr
section
variable {h:Heap} {g:Array GenState} {d:Drawn} {t:Nat} {os:OsState} {nm q:Str} {C N:Addr} {bs:List Value} {hdct:Bool} {sn:List Str} {sub:List Value} {ab:Bool} {col:Option Bool} {dd:Option Addr} {k0 k1 k2 k3 k5:Option Value} {A:Around}
end
section
variable {h:Heap} {g:Array GenState} {d:Drawn} {t:Nat} {os:OsState} {nm q:Str} {C N:Addr} {bs:List Value} {hdct:Bool} {sn:List Str} {sub:List Value} {ab:Bool} {col:Option Bool} {dd:Option Addr} {k0 k1 k2 k3 k5:Option Value} {A:Around}
end
end Xk
namespace Xm
open PySem PySem.Spec PyProof.Rows L2
section
variable {X:Cx} {pins:List (Addr × Obj)} {σ:L2.St} {H:Hp} {s:Shared} {a C:Addr} {f:Str} {y:V} {u:Value} {E:Value→Shared→Prop} {A:Around}
end
section
variable {X:Cx} {o e:Expr} {es:List Expr} {to te:TE} {ta:TA} {f:Str} {p p' p1 p2 pos:Pos}
end
end Xm
namespace Xm
open PySem PySem.Spec PyProof.Rows L2
def clsM (s:Stmt) (j:Nat):Stmt:=match s with
 | .ClassDef _ _ _ b _ _ _ _ _ _ _=>b.getD j (.Pass ⟨0,0,0,0⟩)
 | _=>.Pass ⟨0,0,0,0⟩
def spI (C:Addr) (f:Str):Sp:=fun vs H Q _=>∃ a y,vs=[.ref a,y]∧H a=some (exo a C none)∧∀ dx,H dx=none→dx≠a→Q .non (upd (upd H dx (exd dx [(f,y)])) a (exo a C (some dx)))
section
variable {P:Program} {w:World} {K:PySem.W.Frag} {mg:Str→Option Value} {base:Heap} {CX:CXT} {k:Nat} {fI C:Addr} {qual f pn m:Str} {params:Arguments} {body:List Stmt} {scope:Scope} {dV kV doc pm cdv ct oc:Value} {an od:Option Addr} {osl:Array (Option Value)}
end
section
variable {X:Cx} {Ca fI:Addr} {n f:Str} {k:Nat} {fd:FuncData} {ps:List Str} {sp:Sp} {e:Expr} {es:List Expr} {ta:TA} {p pos cpos:Pos}
end
def raiseF (n f:Str) (g:EF):SF:=fun st=>(g st).map fun a=>(.ret (.exc ⟨n,[(f,a.1)]⟩),a.2)
section
variable {X:Cx} {C:Ct} {Ca fI:Addr} {n f pn:Str} {k j:Nat} {fd:FuncData} {e:Expr} {g:EF} {p pos cpos:Pos}
end
theorem wp_raiseF {n f:Str} {g:EF} {st:AS} {QS:Fl→AS→Prop} (w:Wp g st fun d s=>QS (.ret (.exc ⟨n,[(f,d)]⟩)) s):Wp (raiseF n f g) st QS:=by
 obtain ⟨d,s,e,q⟩:=w
 exact ⟨_,_,by unfold raiseF; rw [e]; rfl,q⟩
end Xm
namespace Xm
open PySem PySem.Spec PyProof.Rows L2
section
variable {X:Cx} {o e:Expr} {es:List Expr} {to te:TE} {ta:TA} {f n:Str} {p p' p1 p2 pos:Pos} {Ce:Addr} {mc:Value}
theorem pe_cinit {pl:Sem Bool} (hg:Gl X n) (hm:X.mg n=some (.ref Ce)) (ga:PySem.W.specialIn X.K (.ref Ce) "__getattribute__" = some (some (.builtin "type.__getattribute__"))) (rd:PySem.W.readsIn X.K Ce mc=true)
  (vV:PySem.W.findCls X.K (.ref Ce) mc "__init__" = some (.val (.builtin "ValueError.__init__"))) (ha:PA X (e::es) ta)
  (hc:eval (.Call (.Attribute (.Name n p1) "__init__" p2) (e::es) [] pos) X.env=(eval (.Name n p1) X.env >>= fun ov=>standAt p2.atName >>= fun _=>holding [ov] (getMethod ov "__init__" pl) >>= fun fx=>callWith pos fx.1 fx.2 (backTo pos (starEach (e::es) X.env)) (backToKw pos (keywordEach [] X.env))):=by rfl)
  (he:starEach (e::es) X.env=(false,eval e X.env)::starEach es X.env:=by rfl) (hpl:(backTo pos (starEach es X.env)).any (·.1)=false:=by rfl) (hdb:(n == ("__debug__" : Str))=false:=by decide) :
  PE X (.Call (.Attribute (.Name n p1) "__init__" p2) (e::es) [] pos) (tVeI X.K ta):=by
 refine ⟨fun pins s σ H Q I h=>?_⟩
 refine PySem.W.methodCall_KW (ld_glob I hg hm ?_ hdb) hc
 refine PySem.W.method_cls I.kIn ga (PySem.W.cls_value I.kIn rd vV (by decide +kernel) ?_)
 show wpAny _ _ (callWith pos (Value.builtin "ValueError.__init__") [] (backTo pos (starEach (e::es) X.env)) []) _ _ _
 refine PyProof.Rows.callWith_method1 (thn (ha.run pos pins _ σ H _ (I.tok _) h) (fun us s1 ⟨vs,H1,I1,r1,a,C,ws,ev,hl,T,ea,q⟩=>?_)) he hpl
 subst ev
 cases r1 with
 | @cons _ u0 _ ur ra rw'=>
  obtain rfl:u0=Value.ref a:=ra
  exact oinit_ok T I1 ea (by (rw [← Paired.length rw',sizeLine_eq]; omega)) (fun s' J=>⟨.non,H1,J,rfl,q⟩)
end
def tInitC (K:PySem.W.Frag) (f m:Str):TS:=tSeq (tDrop (tVeI K (tCons (tVar 0) (tCons (tC (.str m)) tNil)))) (tOst K f (tVar 0) (tVar 1))
section
variable {P:Program} {w:World} {K:PySem.W.Frag} {mg:Str→Option Value} {base:Heap} {CX:CXT} {k:Nat} {fI C:Addr} {qual f pn m:Str} {params:Arguments} {body:List Stmt} {scope:Scope} {dV kV doc pm cdv ct oc:Value} {an od:Option Addr} {osl:Array (Option Value)}
theorem initOkC (T:OexC K C) (hno:PySem.W.findIn K (.ref C) f=some none) (lk:K.lookup fI=some ⟨oc,od,.func (PySem.W.fnOf "__init__" qual params body scope dV kV doc pm an cdv ct),osl⟩) (hcd:PySem.W.codeIn K cdv qual=true) (S:FnScope ["self", pn] ["self", pn] scope)
  (hb:∀ (A:Around) (outer:List Env) (s:Shared) (H:Hp) (E:XK),PSs (cxOf CX P w K mg base ["self", pn] qual scope fI cdv A outer s H E) body (tInitC K f m)):FnOk P w K mg base CX (k + 1) fI (PySem.W.fnOf "__init__" qual params body scope dV kV doc pm an cdv ct) ["self", pn] (spI C f):=by
 refine fn_of lk hcd S (fun vs H Q E h=>?_) fun A outer s H vs Q E room h=>⟨_,hb A outer s H E,?_⟩
 ·obtain ⟨a,y,rfl,_⟩:=h
  rfl
 ·obtain ⟨a,y,rfl,ha,q⟩:=h
  refine ⟨.ref a,rfl,a,C,[.str m],rfl,by simp,T,ha,?_⟩
  exact ⟨y,rfl,.ref a,rfl,a,C,rfl,T,hno,.inl ⟨ha,q⟩⟩
end
section
variable {X:Cx} {C:Ct} {Ca fI:Addr} {n f pn:Str} {k j:Nat} {fd:FuncData} {e:Expr} {g:EF} {p pos cpos:Pos}
theorem xs_raiseC (hc:X.calm=true) (tk:Takes X C.W) (T:OexC X.K Ca) (hm:X.mg n=some (.ref Ca)) (iC:PySem.W.findIn X.K (.ref Ca) "__init__" = some (some (.ref fI))) (tI:PySem.W.typeIn X.K (.ref fI)=some (.type "function")) (F1:FnOk X.prog X.w X.K X.mg X.base (CXM X.prog X.w) j fI fd ["self", pn] (spI Ca f)) (hr:Room k X.A) (hjk:j + 1 ≤ k) (hb:Binds X.K fd ["self", pn] []) (ha:PE X e (dOf (kxOf X) C g)) (hg:Gl X n:=by rfl)
  (hdb:(n == ("__debug__" : Str))=false:=by decide) (he:starEach [e] X.env=(false,eval e X.env)::starEach [] X.env:=by rfl) (hpl:(backTo cpos (starEach [] X.env)).any (·.1)=false:=by rfl):PS X (.Raise (some (.Call (.Name n p) [e] [] cpos)) none pos) (sOf (kxOf X) C (raiseF n f g)):=
 ps_wk (ps_raise hc tk (pmk_oex T iC tI F1 (hr.mono hjk) hb .nil passL hg hm (pa_cons ha pa_nil he) hdb he hpl)) fun Z σ H q=>by
  obtain ⟨F,st,w,R,ew,q⟩:=q
  obtain ⟨⟨d,st1⟩,eg,ew⟩:=Option.map_eq_some_iff.mp ew
  cases ew
  refine ⟨F,st,(d,st1),R,eg,fun v H1 F1 s1 R1 dv=>⟨by simp,fun a ha=>⟨a,v,rfl,upd_same,fun dx hdx hne=>?_⟩⟩⟩
  rw [upd_ne hne] at hdx
  refine ⟨rfl,dx,[(f,v)],upd_same,by rw [upd_ne hne,upd_same],hdx,?_⟩
  have eH:upd (del (upd (upd (upd H1 a (exo a Ca none)) dx (exd dx [(f,v)])) a (exo a Ca (some dx))) a) dx (.xd [(f,v)])=upd H1 dx (.xd [(f,v)]):=by
   funext b
   by_cases h1:b=dx
   ·rw [h1,upd_same,upd_same]
   ·rw [upd_ne h1,upd_ne h1]
    by_cases h2:b=a
    ·rw [h2,del_same,ha]
    ·rw [del_ne h2,upd_ne h2,upd_ne h1,upd_ne h2]
  rw [eH]
  obtain ⟨A,_⟩:=R1.aside hdx
  obtain ⟨ff,R2⟩:=(R1.write (o:=.xd [(f,v)]) A).freezeO A.h0 A.f upd_same A.ap
  exact q (.ref Ca) (some dx) σ _ _ (s1.trans ff) R2 ⟨hm,.inr ⟨dx,[(f,v)],rfl,upd_same,rfl,.cons (Dp_up dv ff) .nil⟩⟩
end
end Xm
namespace Xm
open PySem PySem.Spec PyProof.Rows L2
section
variable {X:Cx} {pins:List (Addr × Obj)} {σ:L2.St} {H:Hp} {sI s':Shared}
theorem inv_on (J:Inv X pins σ H sI) (k:∀ b o,sI.heap.get? b=some o→s'.heap.get? b=some o) (os:s'.os=sI.os) (ag:AllBare s'.gens):Inv X pins σ H s':=by
 obtain ⟨h',g',d',t',os'⟩:=s'
 obtain rfl:os'=sI.os:=os
 exact J.step (g':=g') (d':=d') (t':=t') (ch:=[]) (fun b hb=>absurd hb (by simp)) (fun b o _ _ _ e _=>k b o e) (fun b o _ _ _ e _=>⟨o.slots,k b o e⟩)
  (fun _ _ _ _ n=>n) (fun b o _ e=>⟨o,k b o e⟩) (fun _ _ e=>e) (fun _ _ _ e=>e) (fun b ps e=>⟨#[],by rw [e]; simp⟩) (fun m ⟨o,es,ep,ho,r⟩=>⟨o,es,ep,k _ o ho,r⟩) (J.hok.kept k) ag
end
section
variable {X:Cx} {C:Ct} {Ca:Addr} {n f:Str} {e0 e:Expr} {te:TE} {g:EF} {pos:Pos}
end
section
variable {X:Cx} {C:Ct} {Ca fI:Addr} {n f pn:Str} {k j:Nat} {fd:FuncData} {e:Expr} {g:EF} {p pos cpos:Pos}
end
end Xm
namespace Xm
open PySem PySem.Spec PyProof.Rows L2
section
variable {X:Cx} {e0:Expr} {t:L2.St→Hp→XK→Prop}
theorem pe_mkX (hmk:PMk X e0 t) (hex:X.ex=[]:=by rfl):PE X e0 (fun σ H Q=>t σ H fun cls d H'=>∀ a,H' a=none→Q (.ref a) (upd H' a (keptO cls d a))):=by
 refine ⟨fun pins s σ H Q I q=>wpAny_mono (hmk pins s σ H _ I q) (fun u s1 hu=>?_) fun _ _ z=>z⟩
 obtain ⟨a,oe,vs,sI,H',cls,d,rfl,J,k,hne,ha,hz,hd,h1,na,os,ag,r,q⟩:=hu
 have I1:=inv_on J k os ag
 have h0:X.s_0.heap.get? a=none:=by
  cases e:X.s_0.heap.get? a with
  | none=>rfl
  | some o=>
   obtain ⟨o',e'⟩:=J.base.there a o e (by rw [hex]; simp)
   rw [hne] at e'; cases e'
 have nL:a≠X.env.locals:=fun z=>by
  obtain ⟨m,⟨o,es,ep,ho,_⟩,_⟩:=J.loc
  rw [← z,hne] at ho; cases ho
 have np:∀ p ∈ X.pn++pins,p.1≠a:=fun p hp z=>by
  have:=(J.pin p hp).1
  rw [z,hne] at this; cases this
 exact ⟨.ref a,_,Inv.knows I1 ha hd na h0 nL np (keptO_ok ha hz hd),rfl,q a na⟩
end
def thenB (b:Bool) (g:EF):EF:=fun st=>(g st).map fun a=>(.bool b,a.2)
section
variable {X:Cx} {C:Ct} {Ca:Addr} {n m f:Str} {e0 c:Expr} {te:TE} {g:EF} {pos p p2 cpos:Pos} {v:V} {u:Value} {b:Bool} {j:Nat}
theorem xd_isO (T:ExcC X.K Ca) (hmk:PMk X e0 (tMkO Ca (spI Ca f) [] (tCons (dOf (kxOf X) C g) tNil))) (hm:X.mg "isinstance" = none) (hc:PE X c (tC v)) (k:ClsV v u) (hk:PySem.W.kitOne X.K (.ref Ca) u=some b) (hex:X.ex=[]:=by rfl) (hg:Gl X "isinstance" := by rfl)
  (he:starEach [e0,c] X.env=(false,eval e0 X.env)::starEach [c] X.env:=by rfl) (he2:starEach [c] X.env=(false,eval c X.env)::starEach [] X.env:=by rfl) (hpl:(backTo pos (starEach [c] X.env)).any (·.1)=false:=by rfl) :
  PE X (.Call (.Name "isinstance" p) [e0,c] [] pos) (dOf (kxOf X) C (thenB b g)):=
 pe_wk (pe_callB call_isX1 hg hm (by decide +kernel) (pa_cons (pe_mkX hmk hex) (pa_cons hc pa_nil he2) he) (he:=he) (hpl:=hpl)) fun σ H Q q=>by
  obtain ⟨F,st,w,R,ew,q⟩:=q
  obtain ⟨⟨d,st1⟩,eg,ew⟩:=Option.map_eq_some_iff.mp ew
  cases ew
  refine ⟨F,st,(d,st1),R,eg,fun v H1 F1 s1 R1 dv=>⟨by simp,fun a ha=>⟨a,v,rfl,upd_same,fun dx hdx hne=>?_⟩⟩⟩
  rw [upd_ne hne] at hdx
  refine ⟨rfl,dx,[(f,v)],upd_same,by rw [upd_ne hne,upd_same],hdx,?_⟩
  have eH:upd (del (upd (upd (upd H1 a (exo a Ca none)) dx (exd dx [(f,v)])) a (exo a Ca (some dx))) a) dx (.xd [(f,v)])=upd H1 dx (.xd [(f,v)]):=by
   funext b
   by_cases h1:b=dx
   ·rw [h1,upd_same,upd_same]
   ·rw [upd_ne h1,upd_ne h1]
    by_cases h2:b=a
    ·rw [h2,del_same,ha]
    ·rw [del_ne h2,upd_ne h2,upd_ne h1,upd_ne h2]
  rw [eH]
  obtain ⟨A,_⟩:=R1.aside hdx
  obtain ⟨ff,R2⟩:=(R1.write (o:=.xd [(f,v)]) A).freezeO A.h0 A.f upd_same A.ap
  intro a2 ha2
  have gn:=Gr.new (o:=keptO (.ref Ca) (some dx) a2) R2.fh ha2
  have ne2:dx≠a2:=fun z=>by rw [← z,upd_same] at ha2; cases ha2
  exact ⟨a2,Ca,some dx,_,u,b,rfl,k,T,upd_same,fun dd z=>by cases z; exact ⟨[(f,v)],by rw [upd_ne ne2,upd_same]⟩,hk,q _ _ _ ((s1.trans ff).trans gn.ff) (R2.grow gn) (.bl _)⟩
end
end Xm
namespace Xm
open PySem PySem.Spec PyProof.Rows L2
end Xm
namespace Xm
open PySem PySem.Spec PyProof.Rows L2
def tCallY (sp:Sp) (src:List (Nat ⊕ Nat)) (n m:Nat) (E:XK) (t tk:TA):TE:=fun σ H Q=>t σ H fun vs H1=>tk σ H1 fun zs H2=>vs.length=n∧zs.length=m∧sp (arr .non src vs zs) H2 Q E
theorem callK_x {K:Kx} {C:Ct} {mf:List D→Option RV} {src:List (Nat ⊕ Nat)} {g h:LF} {n m:Nat} {σ:L2.St} {H:Hp} {Q:VK} {E:XK} (hE:∀ cls d H',C.W cls d σ H'→E cls d H') (hn:ArN g n) (hm:ArN h m) (q:xOf K C (callK mf src g h) σ H Q):tCallY (spP K src.length mf) src n m E (aOf K C g) (aOf K C h) σ H Q:=by
 obtain ⟨F,st,w,R,ec,q⟩:=q
 obtain ⟨a,ea,ec⟩:=Option.bind_eq_some_iff.mp ec
 obtain ⟨b,eb,ec⟩:=Option.bind_eq_some_iff.mp ec
 obtain ⟨r,er,ec⟩:=Option.map_eq_some_iff.mp ec
 cases ec
 refine ⟨F,st,a,R,ea,fun vs H1 F1 s1 R1 d1=>⟨F1,a.2,b,R1,eb,fun zs H2 F2 s2 R2 d2=>?_⟩⟩
 have dd:=dpa_arr (DpAll_up d1 s2) d2 src
 refine ⟨by rw [DpAll_len d1]; exact hn st a ea,by rw [DpAll_len d2]; exact hm a.2 b eb,by unfold arr; rw [List.length_map],F2,_,r,R2.fh,dd,er,fun v F3 H3 gr ok=>?_,fun x hx cls d F3 H3 gr ok=>?_⟩
 ·have R3:=R2.grow gr
  cases r with
  | val d=>exact q v H3 F3 ((s1.trans s2).trans gr.ff) R3 ok
  | new xs=>
   obtain ⟨p,rfl,hp,hF,us,hH,hu⟩:=ok
   obtain ⟨A,_⟩:=R2.aside hp
   exact q p us H3 F3 ((s1.trans s2).trans gr.ff) R3 A.h0 hF hH (fun j hj=>A.ap j hj) hu
  | dct kvs=>
   obtain ⟨p,rfl,hp,hF,u,hH,hu⟩:=ok
   obtain ⟨A,_⟩:=R2.aside hp
   exact q p u H3 F3 ((s1.trans s2).trans gr.ff) R3 A.h0 hF hH (fun j hj=>A.ap j hj) hu
  | exc x=>exact ok.elim
 ·subst hx
  exact hE cls d H3 (q cls d H3 F3 ((s1.trans s2).trans gr.ff) (R2.grow gr) ok)
section
variable {X:Cx} {C:Ct} {j k n m:Nat} {x:Str} {p pos kpos:Pos} {e:Expr} {es:List Expr} {kws:List Keyword} {g h:LF} {f:EF} {mf:List D→Option RV} {ks:List Str} {src:List (Nat ⊕ Nat)} {nm:Option Str}
theorem runGKS {f:Addr} {fd:FuncData} {ps:List Str} {sp:Sp} {pins:List (Addr × Obj)} {σ:L2.St} {H:Hp} {s:Shared} {Q:VK} {us ws rs:List Value} {vs:List V} {E:XK} (G:FnG X.prog X.w X.K X.mg X.base (CXM X.prog X.w) k f fd ps sp) (hr:Room k X.A) (gd:X.A.guards=some [])
  (hb:BindsTo s fd ⟨us,ks.zip ws⟩ (ps.zip rs)) (hx:PassesAt (CXM X.prog X.w) X σ E) (I:Inv X pins σ H s) (r:Vals vs rs) (h:sp vs H Q E):wpAny (model X.prog X.w) X.A (call (.ref f) us (ks.zip ws)) (EP X pins σ Q) X.xe s:=by
 refine wpAny_call (codeAny_mono (G.go X.A X.stack s H ⟨us,ks.zip ws⟩ rs vs Q E hr gd I.env0 hb r h) fun res s' hq=>?_)
 match res,hq with
 | .error e,hq=>exact hx pins H s e s' I hq
 | .ok (.ret u),hq=>exact I.after hq
theorem xx_callK0 (hh:HasK X.prog X.w X.K X.mg X.base j x m 0 ks src mf) (tk:Takes X C.W) (hr:Room k X.A) (gd:X.A.guards=some []) (hjk:j ≤ k) (hkw:PK X kws (aOf (kxOf X) C h)) (hm:ArN h ks.length) (hg:Gl X x:=by rfl)
  (hall:(backToKw pos (keywordEach kws X.env)).all (·.1.isSome)=true:=by rfl) (hks:(backToKw pos (keywordEach kws X.env)).filterMap (·.1)=ks:=by rfl) (hdb:(x == ("__debug__" : Str))=false:=by decide)
  (hpl:((backTo pos (starEach [] X.env)).any (·.1) || (backToKw pos (keywordEach kws X.env)).any (·.1.isNone))=false:=by rfl) :
  PE X (.Call (.Name x p) [] kws pos) (xOf (kxOf X) C (callK mf src nilA h)):=by
 obtain ⟨f,fd,ps,G,hmg,hk,hsrc,hb⟩:=hh.ex
 subst hsrc
 refine ⟨fun pins s σ H Q I q=>?_⟩
 have q:=callK_x (E:=fun cls d H'=>C.W cls d σ H') (fun _ _ _ z=>z) ar_nil hm q
 obtain ⟨F,st,w,R,e,q⟩:=q
 cases e
 have q0:=q [] H F (Same.refl _) R .nil
 refine wpAny_Call_Name_kw (ld_glob I hg hmg ?_ hdb)
 refine PySem.W.callWith_KW0 (h₀:=X.base) I.ok.mod.kin hk hall (thn (hkw.run pos pins s σ H _ I q0) fun ws s2 ⟨zs,H2,I2,rz,l1,l2,q2⟩=>⟨I2.kIn,?_⟩) hpl
 rw [hks]
 exact runGKS (us:=[]) G (hr.mono hjk) gd (hb s2 [] ws I2.kIn rfl (rz.length.symm.trans l2)) (passAt tk σ) I2 (vals_arr .nil rz src) q2
end
end Xm
namespace Xm
open PySem PySem.Spec PyProof.Rows L2
end Xm
namespace Xm
open PySem PySem.Spec PyProof.Rows L2
end Xm
namespace Xm
open PySem PySem.Spec PyProof.Rows L2
end Xm
namespace Xm
open PySem PySem.Spec PyProof.Rows L2
theorem excIn_mk2 {K:PySem.W.Frag} {C N A NA:Addr} {nm q nmA qA:Str} {bs bm bsA:List Value} {hd hdA:Bool} {sn snA:List Str} {sub subA:List Value} {ab abA:Bool} {col colA:Option Bool} {dd dN ddA dNA:Option Addr} {k0 k1 k2 k3 k5 j0 j1 j2 j3 j5:Option Value} {newId newA:String} {cN cNA:Value} {es esA:Array DictEntry} {nN nNA:Nat} {sN sNA:Array (Option Value)}
  (l:K.lookup C=some (excClassObj nm q C N bs (.ref A::bm) hd sn sub ab col dd k0 k1 k2 k3 k5 newId)) (lN:K.lookup N=some ⟨cN,dN,.dict es nN,sN⟩) (o:(es.toList.all fun e=>match e.key with | .str _ _=>true | _=>false)=true) (ni:PySem.W.nsIn K N "__init__" = some none)
  (lA:K.lookup A=some (excClassObj nmA qA A NA bsA bm hdA snA subA abA colA ddA j0 j1 j2 j3 j5 newA)) (lNA:K.lookup NA=some ⟨cNA,dNA,.dict esA nNA,sNA⟩) (oA:(esA.toList.all fun e=>match e.key with | .str _ _=>true | _=>false)=true) (niA:PySem.W.nsIn K NA "__init__" = some none) (ne:bm.isEmpty=false):PySem.W.excIn K C bm newId=true:=by
 have t:PySem.W.tailIn K bm bm=true:=by
  cases bm with
  | nil=>cases ne
  | cons v r=>unfold PySem.W.tailIn; rw [beq_self_eq_true]; rfl
 have n2:PySem.W.nsOkIn K N=true:=by
  unfold PySem.W.nsOkIn
  rw [lN]
  show es.all _=true
  rw [← Array.all_toList]
  exact o
 have n3:PySem.W.nsOkIn K NA=true:=by
  unfold PySem.W.nsOkIn
  rw [lNA]
  show esA.all _=true
  rw [← Array.all_toList]
  exact oA
 have t2:PySem.W.tailIn K bm (.ref A::bm)=true:=by
  unfold PySem.W.tailIn
  rw [Bool.or_eq_true]
  right
  simp only [lA]
  show (PySem.W.nsOkIn K NA && PySem.W.nsIn K NA "__init__" == some none && PySem.W.tailIn K bm bm)=true
  rw [n3,niA,t]
  rfl
 unfold PySem.W.excIn
 rw [l]
 simp only [t2,n2,ni,beq_self_eq_true,Bool.not_false,Bool.and_self]
end Xm
namespace Xm
open PySem PySem.Spec PyProof.Rows L2 LamX
section
variable {X:Cx} {pins:List (Addr × Obj)} {σ:L2.St} {H:Hp} {s:Shared}
def Made (q:Str) (P c':Addr) (ps:Array Value) (H H1:Hp):Prop:=
 (H1=H∧∃ pos,codeAmong pos ps.toList=some (.ref c'))∨
  ∃ ps':Array Value,H1=upd (upd H P (.tbl ps')) c' (CodeO c' q)∧H c'=none∧TriplesOk ps'.toList∧∀ (pos:Pos) (cv:Value),codeAmong pos ps'.toList=some cv→codeAmong pos ps.toList=some cv∨cv=.ref c'
theorem lam_make3 {c P:Addr} {ps:Array Value} {params:Arguments} {body:Expr} {scope:Scope} {pos:Pos} {E:Value→Shared→Prop} {Q:Value→Shared→Prop} (I:Inv X pins σ H s) (TB:TabB X.base X.mg c P) (hcode:X.env.code=.ref c)
  (hP:H P=some (.tbl ps)) (ht:TriplesOk ps.toList) (ha:∀ (pos:Pos) (cv:Value),codeAmong pos ps.toList=some cv→∃ c,cv=.ref c∧H c=some (CodeO c (X.env.qual ++ "<lambda>"))) (hdef:defaultsOf params X.env=([],[])) (hfree:∀ y ∈ scope.names,y.2=.free→∃ c,X.env.cells.lookup y.1=some c)
  (h:∀ (f c':Addr) (pm ctv:Value) (H1:Hp) (s':Shared),Inv X pins σ H1 s'→Made (X.env.qual ++ "<lambda>") P c' ps H H1→
   s'.heap.get? f=some (PySem.W.kla_obj "<lambda>" (X.env.qual ++ "<lambda>") params body scope (cloFrom X.env.cells scope.names []) pm c' ctv)→H1 f=none→f ∉ frs X.stack→H1 c'=some (CodeO c' (X.env.qual ++ "<lambda>"))→Q (.ref f) s') :
  wpAny (model X.prog X.w) X.A (eval (.Lambda params body scope pos) X.env) Q E s:=by
 refine PySem.W.kla_eval hdef ?_
 have bP:s.heap.BuiltinsAt X.mg P:=TB.bm.keeps I.bk
 have hP':s.heap.get? P=some { cls:=.none,data:=.fields ps }:=I.hok P _ hP
 have nofr:∀ f,s.heap.objs.size ≤ f→f ∉ frs X.stack:=fun f hf z=>by
  rcases List.mem_cons.mp (I.stkSub _ z) with e | e
  ·have h1:=I.lt
   rw [← e] at h1
   exact Nat.lt_irrefl _ (Nat.lt_of_lt_of_le h1 hf)
  ·exact I.nofs hf e
 cases hc:codeAmong pos ps.toList with
 | none=>
  refine PySem.W.kla_makeFunction (mg:=X.mg) (c:=c) (P:=P) (ps:=ps) (closure_ok hfree) I.ok.glob (I.mod.glob.keeps I.bk) hcode (TB.code.keeps I.bk) hP' ht hc TB.gP bP fun c' ctv h' tk hx hge hlt hrec htb=>?_
  obtain ⟨c2,oc,vs,t,e2,hoc,hd,hv⟩:=hrec
  cases e2
  have hsz:s.heap.objs.size ≤ h'.objs.size:=Nat.le_trans hge (Nat.le_of_lt hlt)
  have nC:H c'=none:=I.hok.fresh hge
  have I1:=inv_table (t':=tk) (more:=#[rawInt pos.line,rawInt pos.col,.ref c']) (h':=h'.push (PySem.W.kla_obj "<lambda>" (X.env.qual ++ "<lambda>") params body scope (cloFrom X.env.cells scope.names []) ((X.mg "__name__").getD .none) c' ctv)) I hP
   (fun b o hb e=>Heap.get?_push_of_some _ (hx b o hb e)) (Heap.get?_push_of_some _ htb) hge ⟨oc,vs,t,Heap.get?_push_of_some _ hoc,hd,hv⟩
  have eL:(ps++#[rawInt pos.line,rawInt pos.col,.ref c']).toList=ps.toList++[rawInt pos.line,rawInt pos.col,.ref c']:=by simp
  refine h h'.objs.size c' ((X.mg "__name__").getD .none) ctv _ _ I1 (.inr ⟨_,rfl,nC,by rw [eL]; exact PySem.TriplesOk_snoc _ _ _ _ ht,fun p' cv hcv=>?_⟩) (Heap.get?_push_size _ rfl) ?_ (nofr _ hsz) upd_same
  ·rw [eL] at hcv
   exact among_app _ ht hcv
  ·have n1:h'.objs.size≠c':=Nat.ne_of_gt hlt
   have n2:h'.objs.size≠P:=Nat.ne_of_gt (Nat.lt_of_lt_of_le (Heap.lt_size hP') hsz)
   rw [upd_ne n1,upd_ne n2]
   exact I.hok.fresh hsz
 | some cv=>
  obtain ⟨c',e,hco⟩:=ha pos cv hc
  subst e
  refine PySem.W.kla_makeFunctionHit (mg:=X.mg) (c:=c) (P:=P) (ps:=ps) (closure_ok hfree) I.ok.glob (I.mod.glob.keeps I.bk) hcode (TB.code.keeps I.bk) hP' ht hc bP fun ctv h' tk hx hsz=>?_
  have I1:Inv X pins σ H { s with heap:=h'.push (PySem.W.kla_obj "<lambda>" (X.env.qual ++ "<lambda>") params body scope (cloFrom X.env.cells scope.names []) ((X.mg "__name__").getD .none) c' ctv),toks:=tk }:=I.kept fun b o e=>Heap.get?_push_of_some _ (hx b o e)
  exact h h'.objs.size c' ((X.mg "__name__").getD .none) ctv H _ I1 (.inl ⟨rfl,pos,hc⟩) (Heap.get?_push_size _ rfl) (I.hok.fresh hsz) (nofr _ hsz) hco
end
theorem Rel.made {K:Kx} {C:Ct} {F H H1:Hp} {st:AS} {σ:L2.St} {P c':Addr} {ps:Array Value} {q:Str} (R:Rel K C F st σ H) (htb:C.tb=some q) (hpen:C.pen=some P) (hP:H P=some (.tbl ps)) (hF0:C.F0 P=none) (hcs:∀ (pos:Pos) (cv:Value),codeAmong pos ps.toList=some cv→∃ c,cv=.ref c∧F c=some (CodeO c q)) (m:Made q P c' ps H H1) :
  ∃ F1,Same F F1∧Rel K C F1 st σ H1∧F1 c'=some (CodeO c' q):=by
 rcases m with ⟨rfl,pos,hm⟩ | ⟨ps',rfl,hc,ht,hcod⟩
 ·obtain ⟨c,e1,e2⟩:=hcs pos _ hm
  cases e1
  exact ⟨F,Same.refl _,R,e2⟩
 have nPc:P≠c':=fun z=>by rw [z,hc] at hP; cases hP
 have hFP:F P=none:=R.new P hF0 (R.penh P hpen)
 have hFc:F c'=none:=R.fh.free hc
 have hff:Same F (upd F c' (CodeO c' q)):=same_upd hFc
 have hpc:C.pen≠some c':=fun z=>nPc (Option.some.inj (hpen.symm.trans z))
 have h0c:C.H0 c'=none:=by
  cases e:C.H0 c' with
  | none=>rfl
  | some o=>rw [R.old c' o e hpc] at hc; cases hc
 have at_:∀ b,b≠P→b≠c'→upd (upd H P (.tbl ps')) c' (CodeO c' q) b=H b:=fun b h1 h2=>by rw [upd_ne h2,upd_ne h1]
 have lst_at:∀ {b:Addr} {xs:List D},Lst K F H b xs→Lst K (upd F c' (CodeO c' q)) (upd (upd H P (.tbl ps')) c' (CodeO c' q)) b xs:=fun {b xs} ⟨g1,us,g2,g3⟩=>by
  have n1:b≠P:=fun z=>by rw [z,hP] at g2; cases g2
  have n2:b≠c':=fun z=>by rw [z,hc] at g2; cases g2
  exact ⟨by rw [upd_ne n2]; exact g1,us,by rw [at_ b n1 n2]; exact g2,DpAll_up g3 hff⟩
 have dct_at:∀ {b:Addr} {kvs:List (D × D)},Dct K F H b kvs→Dct K (upd F c' (CodeO c' q)) (upd (upd H P (.tbl ps')) c' (CodeO c' q)) b kvs:=fun {b kvs} ⟨g1,u,g2,g3⟩=>by
  have n1:b≠P:=fun z=>by
   rw [z,hP] at g2
   cases g2
   rcases g3 with ⟨rows,e,_⟩ | ⟨qs,e,_⟩ <;> cases e
  have n2:b≠c':=fun z=>by rw [z,hc] at g2; cases g2
  exact ⟨by rw [upd_ne n2]; exact g1,u,by rw [at_ b n1 n2]; exact g2,g3.up hff⟩
 refine ⟨upd F c' (CodeO c' q),hff,⟨R.len,R.f0.trans hff,fun a o e=>?_,fun a o e hp=>?_,fun a h1 h2=>?_,fun i sl e=>?_,R.apart,R.penh,fun p hp=>?_,fun q2 hq2=>?_⟩,upd_same⟩
 ·by_cases ha:a=c'
  ·rw [ha,upd_same] at e
   rw [ha,upd_same]; exact e
  ·rw [upd_ne ha] at e
   rw [at_ a (fun z=>by rw [z,hFP] at e; cases e) ha]
   exact R.fh a o e
 ·have z:=R.old a o e hp
  rw [at_ a (fun z2=>hp (by rw [z2]; exact hpen)) (fun z2=>by rw [z2,hc] at z; cases z)]
  exact z
 ·have ha:a≠c':=fun z=>h2 (by rw [z]; exact h0c)
  rw [upd_ne ha]
  exact R.new a h1 h2
 ·have g:=R.slot i sl e
  cases sl with
  | no=>trivial
  | dat d=>
   obtain ⟨v,g1,g2⟩:=g
   exact ⟨v,g1,Dp_up g2 hff⟩
  | own xs=>
   obtain ⟨a,g1,g2,g3⟩:=g
   exact ⟨a,g1,g2,lst_at g3⟩
  | pen xs=>
   obtain ⟨a,g1,g2,g3⟩:=g
   exact ⟨a,g1,g2,lst_at g3⟩
  | dct kvs=>
   obtain ⟨a,g1,g2,g3⟩:=g
   exact ⟨a,g1,g2,dct_at g3⟩
  | pdc kvs=>
   obtain ⟨a,g1,g2,g3⟩:=g
   exact ⟨a,g1,g2,dct_at g3⟩
  | obj o=>
   obtain ⟨a,g1,g2⟩:=g
   exact ⟨a,g1,g2.up hff⟩
 ·rw [hpen] at hp
  cases hp
  rw [upd_ne nPc,upd_same]; simp
 ·rw [htb] at hq2
  cases hq2
  refine ⟨P,ps',hpen,hF0,by rw [upd_ne nPc,upd_same],ht,fun pos cv h=>?_⟩
  rcases hcod pos cv h with z | z
  ·obtain ⟨c,e1,e2⟩:=hcs pos cv z
   exact ⟨c,e1,hff _ _ e2⟩
  ·exact ⟨c',z,upd_same⟩
end Xm
namespace Xm
open PySem PySem.Spec PyProof.Rows L2 LamX
def callZ (f:Addr) (r0:RV) (i:Nat):AS→Option (RV × AS):=fun st=>match st[i]? with
 | some (.obj (.fnc g))=>if g=f then some (r0,st) else none
 | _=>none
def keepD:Slot→Slot
 | .dat d=>.dat d
 | .obj o=>.obj o
 | _=>.no
theorem Rel.dats {K:Kx} {C:Ct} {F F' H H':Hp} {st:AS} {σ:L2.St} {W:WX} (R:Rel K C F st σ H) (ff:Same F F') (fh:Same F' H'):Rel K ⟨H',F',none,W,none,none⟩ F' (st.map keepD) σ H' where
 len:=by rw [List.length_map]; exact R.len
 f0:=Same.refl _
 fh:=fh
 old:=fun a o e _=>e
 new:=fun a e _=>e
 slot:=fun i s e=>by
  rw [List.getElem?_map] at e
  obtain ⟨s0,e0,rfl⟩:=Option.map_eq_some_iff.mp e
  have g:=R.slot i s0 e0
  cases s0 with
  | no=>trivial
  | dat d=>
   obtain ⟨v,g1,g2⟩:=g
   exact ⟨v,g1,Dp_up g2 ff⟩
  | own xs=>trivial
  | pen xs=>trivial
  | dct xs=>trivial
  | pdc xs=>trivial
  | obj o=>
   obtain ⟨a,g1,g2⟩:=g
   exact ⟨a,g1,g2.up ff⟩
 apart:=fun i j a hi _ _ _=>by
  exfalso
  obtain ⟨s,e,hm⟩:=hi
  rw [List.getElem?_map] at e
  obtain ⟨s0,e0,rfl⟩:=Option.map_eq_some_iff.mp e
  cases s0 <;> cases hm
 penh:=fun p e=>nomatch e
 pent:=fun p e=>nomatch e
 tab:=fun q e=>nomatch e
theorem lam_takes {X:Cx} {A:Around} {outer:List Env} {s:Shared} {H:Hp} {E:XK} {scope:Scope} {f c':Addr} {C:Ct} (hW:C.W=fun cls d _ H=>E cls d H):Takes (lamCx X A outer s H E scope f c') C.W:=by
 rw [hW]
 exact takes_of rfl rfl rfl rfl
abbrev hearCx (P:Program) (w:World) (K:PySem.W.Frag) (mg:Str→Option Value) (base:Heap) (N:List Str) (x:Str) (sg:Scope) (g:Addr) (cdv:Value) (A:Around) (outer:List Env) (s:Shared) (H:Hp):Cx:=cxOf (CXM P w) P w K mg base N x sg g cdv A outer s H E0
def ActsZ (Z:Cx) (K:Kx) (a:Str) (F0:Hp) (f:Addr) (r0:RV):Prop:=
 ∀ (W:WX) (pn:List (Addr × Obj)) (xe:Value→Shared→Prop),Takes (Z.tr pn xe) W→∀ C:Ct,C.W=W→C.F0=F0→∀ p1 p2:Pos,PE (Z.tr pn xe) (.Call (.Name a p1) [] [] p2) (xOf K C (callZ f r0 0))
section
variable {X:Cx} {pins:List (Addr × Obj)} {σ:L2.St} {H:Hp} {s:Shared}
theorem xx_act {C:Ct} {F1:Hp} {st:AS} {bodyF:AS→Option (RV × AS)} {r:RV × AS} {Ng:List Str} {x:Str} {sg:Scope} {g f c':Addr} {cdg pm ctv:Value} {params:Arguments} {body:Expr} {scope:Scope} {k:Nat} {a:Str}
  (I:Inv X pins σ H s) (L:LamS X.env.scope scope) (hf:s.heap.get? f=some (PySem.W.kla_obj "<lambda>" (X.env.qual ++ "<lambda>") params body scope (cloFrom X.env.cells scope.names []) pm c' ctv)) (hfn:H f=none) (hfr:f ∉ frs X.stack)
  (hbind:bindArgs (PySem.W.kla_fn "<lambda>" (X.env.qual ++ "<lambda>") params body scope (cloFrom X.env.cells scope.names []) pm (.ref c') ctv) ⟨[],[]⟩=pure [])
  (Rm:Rel (kxOf X) C F1 st σ H) (hc:F1 c'=some (CodeO c' (X.env.qual ++ "<lambda>"))) (hb:bodyF (st.map keepD)=some r)
  (hbody:∀ (A:Around) (outer:List Env) (s:Shared) (H:Hp) (E:XK) (f c':Addr),Room k (A.deeper (lamEnv X scope s.heap.objs.size f c'))→A.guards=some []→∀ C:Ct,C.W=(fun cls d _ H=>E cls d H)→PE (lamCx X A outer s H E scope f c') body (xOf (kxOf X) C bodyF))
  (hr:Room (k + 1) (X.A.deeper (envOfC x sg s.heap.objs.size g cdg))) (gd:X.A.guards=some []) (hN:Ng[0]?=some a) (hv:Vis sg a) (hd:(a == ("__debug__" : Str))=false) (hcd:(a == ("__classdict__" : Str))=false) :
  ActsZ (hearCx X.prog X.w X.K X.mg X.base Ng x sg g cdg X.A X.stack s H) (kxOf X) a F1 f r.1:=by
 intro W pn xe tk C' hW hF0 p1 p2
 refine ⟨fun pinsZ sZ σZ HZ Q IZ h=>?_⟩
 obtain ⟨Fh,sth,w,Rh,ew,q⟩:=h
 unfold callZ at ew
 split at ew
 case h_2=>cases ew
 rename_i g' hx
 split at ew
 case isFalse=>cases ew
 rename_i hg'
 subst hg'
 cases ew
 obtain ⟨b,hs,hbf⟩:=Rh.slot 0 _ hx
 have hbf:b=g':=hbf
 subst hbf
 refine wpAny_Call_Name_kw (thn ((pe_var (pos:=p1) (i:=0) hN hv hd hcd).run pinsZ sZ σZ HZ (fun v H1=>v=.ref b∧H1=HZ) IZ ⟨.ref b,hs,rfl,rfl⟩) fun u s1 ⟨v,H1,I1,r1,q1⟩=>?_)
 obtain ⟨ev,eH⟩:=q1
 subst ev
 rw [eH] at I1
 obtain rfl:u=Value.ref b:=r1
 have of1:s1.heap.get? b=some (PySem.W.kla_obj "<lambda>" (X.env.qual ++ "<lambda>") params body scope (cloFrom X.env.cells scope.names []) pm c' ctv):=I1.base.keep b _ hf hfn hfr (fun z=>nomatch (show b ∈ ([]:List Addr) from z))
 refine PySem.W.callWith_F0 ⟨_,_,_,_,of1⟩ ?_
 have un:Un (frs X.stack) [] H HZ s.heap s1.heap:=I1.base
 have hff:Same F1 Fh:=hF0 ▸ Rh.f0
 obtain ⟨⟨oc,vs,t,hoc,hdc,hvc⟩,_,_⟩:=I1.hok c' _ (Rh.fh _ _ (hff _ _ hc))
 have rc:codeAny (model X.prog X.w) (X.A.deeper (envOfC x sg s.heap.objs.size g cdg)) (.call (.ref b) ⟨[],[]⟩) (CR (CXM X.prog X.w) (envOfC x sg s.heap.objs.size g cdg::X.stack) X.prog X.w HZ s1 Q fun cls d H'=>C'.W cls d σZ H') s1:=by
  refine PySem.W.kla_callFunE hr.depth of1 rfl L.co L.gen rfl ⟨c',oc,vs,t,rfl,hoc,hdc,hvc⟩ ?_
  rw [hbind]
  refine wpAny_pure (wpAny_newFunctionEnv (fun y hy=>(L.own y hy).2) (fun y hy=>absurd hy (by simp)) (fun h₁ hns hsb=>⟨I1.nolimit.fresh _ hsb,?_⟩) L.kind)
  show codeAny _ _ (.expr body (lamEnv X scope s1.heap.objs.size b c')) _ _
  have kp:∀ b o,s1.heap.get? b=some o→h₁.get? b=some o:=fun b o e=>hsb.extBut b o (Nat.ne_of_lt (Heap.lt_size e)) (Heap.get?_push_of_some _ e)
  have J:Inv (lamCx X (X.A.deeper (envOfC x sg s.heap.objs.size g cdg)) (envOfC x sg s.heap.objs.size g cdg::X.stack) s1 HZ (fun cls d H'=>C'.W cls d σZ H') scope b c') [] σ HZ { s1 with heap:=h₁,toks:=s1.toks + ([]:List (Str × Value)).length }:=
   lam_start2 I L I1.env0 hr.hd un hns kp
  have hB:=hbody _ (envOfC x sg s.heap.objs.size g cdg::X.stack) s1 HZ (fun cls d H'=>C'.W cls d σZ H') b c' (hr.deeper _) gd ⟨HZ,Fh,none,fun cls d _ H'=>C'.W cls d σZ H',none,none⟩ rfl
  refine PySem.W.kla_codeExpr (wpAny_mono (hB.run [] _ _ HZ Q J ⟨Fh,st.map keepD,r,Rm.dats hff Rh.fh,hb,?_⟩) (fun v s' hq=>?_) fun e s' hq=>hq)
  ·obtain ⟨r1,r2⟩:=r
   cases r1 with
   | val d=>exact fun v H' F' s' R' dv=>q v H' F' s' (Rh.grow R'.gr) dv
   | new xs=>
    refine fun l us H' F' s' R' h0 h1 h2 h3 dv=>?_
    obtain ⟨A,_⟩:=Rh.aside (show HZ l=none from h0)
    exact q l us H' F' s' (Rh.grow R'.gr) A.h0 h1 h2 A.ap dv
   | dct kvs=>
    refine fun l u H' F' s' R' h0 h1 h2 h3 dv=>?_
    obtain ⟨A,_⟩:=Rh.aside (show HZ l=none from h0)
    exact q l u H' F' s' (Rh.grow R'.gr) A.h0 h1 h2 A.ap dv
   | exc e=>exact fun cls d H' F' s' R' ok=>q cls d H' F' s' (Rh.grow R'.gr) ok
  ·obtain ⟨w',H',J',rv,q⟩:=hq
   exact ⟨w',H',J'.os,J'.bare,J'.base,J'.hok,rv,q⟩
 have hxp:=passAt (hW ▸ tk:Takes _ C'.W) σZ
 refine wpAny_call (codeAny_mono rc fun res s' hq=>?_)
 cases res with
 | error e=>exact hxp pinsZ HZ s1 e s' I1 hq
 | ok fl=>
  cases fl with
  | ret u=>exact I1.after hq
  | next=>exact False.elim hq
  | brk=>exact False.elim hq
  | cont=>exact False.elim hq
end
end Xm
namespace Xm
open PySem PySem.Spec PyProof.Rows L2 LamX
def sth (n:Nat) (f:Addr):AS:=Slot.obj (.fnc f)::List.replicate (n - 1) Slot.no
theorem relH {P:Kx} {F H:Hp} {f:Addr} {n:Nat} {N:List Str} {W:WX} (fh:Same F H) (hn:n=N.length) (h1:1 ≤ n):Rel P ⟨H,F,none,W,none,none⟩ F (sth n f) (L2.start N [V.ref f]) H where
 len:=by
  rw [start_len (by simp; omega)]
  unfold sth
  rw [List.length_cons,List.length_replicate]
  omega
 f0:=Same.refl _
 fh:=fh
 old:=fun a o e _=>e
 new:=fun a e _=>e
 slot:=fun i s e=>by
  unfold sth at e
  cases i with
  | zero=>
   cases e
   exact ⟨f,start_get (by simp; omega) rfl,rfl⟩
  | succ i=>
   rw [List.getElem?_cons_succ,List.getElem?_replicate] at e
   split at e <;> cases e
   trivial
 apart:=fun i j a hi _ _ _=>by
  exfalso
  obtain ⟨s0,e,hm⟩:=hi
  unfold sth at e
  cases i with
  | zero=>cases e; cases hm
  | succ i=>
   rw [List.getElem?_cons_succ,List.getElem?_replicate] at e
   split at e <;> cases e
   cases hm
 penh:=fun p e=>nomatch e
 pent:=fun p e=>nomatch e
 tab:=fun q e=>nomatch e
open Classical in
noncomputable def mfH (g:Addr→RV→SF) (n:Nat):RV→Option RV:=fun r0=>if h:∃ r',∀ f,Leaves (g f r0) (sth n f) r' (fun _=>True) then some h.choose else none
theorem mfH_ok {g:Addr→RV→SF} {n:Nat} (r0 r':RV) (e:mfH g n r0=some r'):∀ f,Leaves (g f r0) (sth n f) r' fun _=>True:=by
 unfold mfH at e
 split at e
 ·rename_i h
  cases e
  exact h.choose_spec
 ·cases e
theorem leaves_uniq {g:SF} {st:AS} {r r':RV} (h1:Leaves g st r fun _=>True) (h2:Leaves g st r' fun _=>True):r=r':=by
 obtain ⟨s1,e1,_⟩:=h1
 obtain ⟨s2,e2,_⟩:=h2
 rcases e1 with e1 | ⟨e1,h1⟩
 ·rcases e2 with e2 | ⟨e2,h2⟩
  ·rw [e1] at e2
   cases e2
   rfl
  ·rw [e1] at e2
   cases e2
 ·rcases e2 with e2 | ⟨e2,h2⟩
  ·rw [e1] at e2
   cases e2
  ·rw [h1,h2]
theorem mfH_of {g:Addr→RV→SF} {n:Nat} {r0 r':RV} (h:∀ f,Wp (g f r0) (sth n f) fun fl _=>fl=.ret r'):mfH g n r0=some r':=by
 have hL:∀ f,Leaves (g f r0) (sth n f) r' fun _=>True:=fun f=>by
  obtain ⟨fl,s,e,rfl⟩:=h f
  exact ⟨s,.inl e,trivial⟩
 have hx:∃ r',∀ f,Leaves (g f r0) (sth n f) r' (fun _=>True):=⟨r',hL⟩
 unfold mfH
 rw [dif_pos hx]
 congr 1
 exact leaves_uniq (hx.choose_spec 0) (hL 0)
def lamF (mfh:RV→Option RV) (b:AS→Option (RV × AS)):AS→Option (RV × AS):=fun st=>(b (st.map keepD)).bind fun r=>(mfh r.1).bind fun r'=>match r' with
 | .exc _=>none
 | z=>some (z,st)
structure Heard (P:Program) (w:World) (K:PySem.W.Frag) (mg:Str→Option Value) (base:Heap) (k:Nat) (x:Str) (mfh:RV→Option RV):Prop where
 ex:∃ (g:Addr) (fd:FuncData) (st:Stmt) (a:Str) (N:List Str) (gr:Addr→RV→SF),Dn K x st [] g fd∧FnScope N [a] (defScope st)∧mg x=some (.ref g)∧PySem.W.keepIn K (.ref g)=true∧Binds K fd [a] []∧N[0]?=some a∧Vis (defScope st) a∧(a == ("__debug__" : Str))=false∧(a == ("__classdict__" : Str))=false∧
  (∀ r0 r',mfh r0=some r'→∀ f,Leaves (gr f r0) (sth N.length f) r' fun _=>True)∧
  ∀ (f:Addr) (r0:RV) (C:Ct) (cdv:Value) (A:Around) (outer:List Env) (s:Shared) (H:Hp),Room k (A.deeper (envOfC x (defScope st) s.heap.objs.size g cdv))→(A.deeper (envOfC x (defScope st) s.heap.objs.size g cdv)).guards=some []→
   ActsZ (hearCx P w K mg base N x (defScope st) g cdv A outer s H) ⟨K,P,w,mg⟩ a C.F0 f r0→C.W=(fun cls d _ H=>E0 cls d H)→PSs (hearCx P w K mg base N x (defScope st) g cdv A outer s H) (defBody st) (sOf ⟨K,P,w,mg⟩ C (gr f r0))
section
variable {X:Cx}
theorem xx_lam {C:Ct} {P c:Addr} {k j:Nat} {x:Str} {mfh:RV→Option RV} {bodyF:AS→Option (RV × AS)} {params:Arguments} {body:Expr} {scope:Scope} {lpos p pos:Pos} (h:Heard X.prog X.w X.K X.mg X.base j x mfh) (hr:Room (k + 2) X.A) (gd:X.A.guards=some []) (hjk:j ≤ k + 1)
  (TB:TabB X.base X.mg c P) (hcode:X.env.code=.ref c) (htb:C.tb=some (X.env.qual ++ "<lambda>")) (hpen:C.pen=some P) (L:LamS X.env.scope scope)
  (hbody:∀ (A:Around) (outer:List Env) (s:Shared) (H:Hp) (E:XK) (f c':Addr),Room k (A.deeper (lamEnv X scope s.heap.objs.size f c'))→A.guards=some []→∀ C:Ct,C.W=(fun cls d _ H=>E cls d H)→PE (lamCx X A outer s H E scope f c') body (xOf (kxOf X) C bodyF))
  (hdef:defaultsOf params X.env=([],[]):=by rfl) (hbind:∀ (q:Str) (cl:List (Str × Addr)) (pm cv ctv:Value),bindArgs (PySem.W.kla_fn "<lambda>" q params body scope cl pm cv ctv) ⟨[],[]⟩=pure []:=by intros; rfl) (hg:Gl X x:=by rfl) (hdb:(x == ("__debug__" : Str))=false:=by decide) :
  PE X (.Call (.Name x p) [.Lambda params body scope lpos] [] pos) (xOf (kxOf X) C (lamF mfh bodyF)):=by
 obtain ⟨g,fd,stm,a,Ng,gr,T,Sg,hm,hk,hb,hNg,hva,hd1,hd2,hleave,hwalk⟩:=h.ex
 obtain ⟨oc,od,dV,kV,doc,pm,an,cdv,ct,osl,rfl,lk,hcg,_,_⟩:=T.ex
 refine ⟨fun pins s σ H Q I q=>?_⟩
 obtain ⟨F,st,w,R,ew,q⟩:=q
 obtain ⟨r,er,ew⟩:=Option.bind_eq_some_iff.mp ew
 obtain ⟨r',er',ew⟩:=Option.bind_eq_some_iff.mp ew
 obtain ⟨P',ps,hp',hF0,hP,ht,hcs⟩:=R.tab _ htb
 rw [hpen] at hp'
 cases hp'
 refine wpAny_Call_Name_kw (ld_glob I hg hm ?_ hdb)
 refine PySem.W.callWith_K (h₀:=X.base) I.ok.mod.kin hk ?_ (by rfl) (by rfl)
 show wpAny _ _ (spliced ((false,eval (.Lambda params body scope lpos) X.env)::backTo pos (starEach [] X.env))) _ _ s
 refine Calls.spliced_cons (lam_make3 I TB hcode hP ht (fun ps2 cv hcv=>?_) hdef (L.has I.ok) fun f c' pm' ctv H1 s' I1 md hf hfn hfr hco=>?_)
 ·obtain ⟨c0,e1,e2⟩:=hcs ps2 cv hcv
  exact ⟨c0,e1,R.fh _ _ e2⟩
 obtain ⟨F1,hff,R1,hcF⟩:=R.made htb hpen hP hF0 hcs md
 refine Calls.spliced_nil ⟨I1.kIn,?_⟩
 have hl1:1 ≤ Ng.length:=by
  have:=(List.getElem?_eq_some_iff.mp hNg).1
  omega
 have rc:codeAny (model X.prog X.w) X.A (.call (.ref g) ⟨[.ref f],[]⟩) (CR (CXM X.prog X.w) X.stack X.prog X.w H1 s' Q E0) s':=by
  refine run_ofS (N:=Ng) (ps:=[a]) (us:=[.ref f]) (vs:=[.ref f]) lk hcg Sg hr I1.env0 (hb s' [.ref f] I1.kIn rfl) (.cons rfl .nil) rfl fun hr'=>?_
  have act:=xx_act (C:=C) (r:=r) (bodyF:=bodyF) (a:=a) (Ng:=Ng) (sg:=defScope stm) (x:=x) (g:=g) (cdg:=cdv) I1 L hf hfn hfr (hbind _ _ _ _ _) R1 hcF er hbody hr' gd hNg hva hd1 hd2
  have W:=hwalk f r.1 ⟨H1,F1,none,fun cls d _ H=>E0 cls d H,none,none⟩ cdv X.A X.stack s' H1 (hr'.mono hjk) gd act rfl
  refine ⟨_,W,?_⟩
  have R0:Rel (kxOf X) ⟨H1,F1,none,fun cls d _ H=>E0 cls d H,none,none⟩ F1 (sth Ng.length f) (L2.start Ng [V.ref f]) H1:=relH R1.fh rfl hl1
  obtain ⟨st',hg',_⟩:=hleave _ _ er' f
  rcases hg' with hg' | ⟨hg',rfl⟩
  ·refine ⟨F1,_,_,R0,hg',?_⟩
   cases r' with
   | val d=>
    cases ew
    exact fun v σ' H' F' s1 R2 ok=>q v H' F' (hff.trans s1) (R1.grow R2.gr) ok
   | new xs=>
    cases ew
    refine fun v σ' H' F' s1 R2 ok=>?_
    obtain ⟨l,rfl,h0,h1,us,h2,dv⟩:=ok
    obtain ⟨A,_⟩:=R1.aside (show H1 l=none from h0)
    exact q l us H' F' (hff.trans s1) (R1.grow R2.gr) A.h0 h1 h2 A.ap dv
   | dct kvs=>
    cases ew
    refine fun v σ' H' F' s1 R2 ok=>?_
    obtain ⟨l,rfl,h0,h1,u,h2,dv⟩:=ok
    obtain ⟨A,_⟩:=R1.aside (show H1 l=none from h0)
    exact q l u H' F' (hff.trans s1) (R1.grow R2.gr) A.h0 h1 h2 A.ap dv
   | exc e=>cases ew
  ·cases ew
   exact ⟨F1,_,_,R0,hg',fun σ' H' F' s1 R2=>q .non H' F' (hff.trans s1) (R1.grow R2.gr) .non⟩
 refine wpAny_call (codeAny_mono rc fun res s2 hq=>?_)
 cases res with
 | error e=>
  obtain ⟨_,_,_,_,_,_,_,_,_,_,_,_,z⟩:=hq
  exact z.elim
 | ok fl=>
  cases fl with
  | ret u=>exact I1.after hq
  | next=>exact False.elim hq
  | brk=>exact False.elim hq
  | cont=>exact False.elim hq
end
theorem xOf_d {K:Kx} {C:Ct} {c:AS→Option (RV × AS)} {σ:L2.St} {H:Hp} {Q:VK} (q:dOf K C (rvD c) σ H Q):xOf K C c σ H Q:=by
 obtain ⟨F,st,a,R,e,q⟩:=q
 obtain ⟨r,er,e⟩:=Option.bind_eq_some_iff.mp e
 refine ⟨F,st,r,R,er,?_⟩
 obtain ⟨r1,r2⟩:=r
 cases r1 with
 | val d=>cases e; exact fun v H' F' s' R' dv=>q v H' F' s' R' dv
 | new xs=>
  cases e
  refine fun l us H' F' s' R' h0 h1 h2 h3 dv=>?_
  obtain ⟨k1,k2,k3⟩:=R'.freezeNew h0 h1 h2 h3 dv
  exact q _ H' _ (s'.trans k1) k2 k3
 | dct kvs=>cases e
 | exc x=>cases e
end Xm
namespace Xm
open PySem PySem.Spec PyProof.Rows L2 LamX
def spL (K:Kx) (P:Addr) (mf:List D→Option RV):Sp:=fun vs H Q _=>vs.length=1∧∃ F ds,Same F H∧DpAll K F vs ds∧F P=none∧H P=some (.tbl #[])∧mf ds=some (.val (.bool true))∧∀ v H',v=V.bl true→Q v H'
section
variable {P:Program} {w:World} {K:PySem.W.Frag} {mg:Str→Option Value} {base:Heap} {CX:CXT} {k:Nat} {f c T:Addr} {N:List Str}
end
end Xm
namespace Xm
open PySem PySem.Spec PyProof.Rows L2 LamX
theorem lawGT {P:Program} {w:World} {K:PySem.W.Frag} {mg mb:Str→Option Value} {k:Nat} {fa a c T:Addr} {fd:FuncData} {x:Str} {mf:List D→Option RV} {st:Shared} {vs:List Value} {ns:List Int}
  (KX:K.In st.heap) (hns:st.heap.Ns mainGlobals mg) (hb:st.heap.Ns builtinsNs mb) (hbb:∀ x:Str,x ≠ "__name__" → mb x=bootBuiltins x) (hlim:st.heap.NoLimit) (hg:st.gens=#[])
  (hT:st.heap.get? T=some { cls:=.none,data:=.fields #[] }) (nT:K.lookup T=none) (hC:PySem.W.CodeHd st.heap c T)
  (hbm:∃ (bm:Addr) (ob:Obj),mg "__builtins__" = some (.ref bm)∧bm≠builtinsNs∧st.heap.get? bm=some ob∧ob.cls=.type "module" ∧ ob.dict=some builtinsNs∧ob.data=.plain)
  (ha:st.heap.get? a=some { cls:=.type "list", data:=.seq vs.toArray }) (hi:IntsAre vs ns) (hl:ns.length ≤ sizeLine) (hr:Room k callerA)
  (G:∀ base:Heap,K.In base→base.Ns mainGlobals mg→TabB base mg c T→FnG P w K mg base (CXM P w) k fa fd [x] (spL ⟨K,P,w,mg⟩ T mf)) (bind:∀ (s:Shared) (u:Value),BindsTo s fd ⟨[u],[]⟩ [(x,u)])
  (hmf:mf [.list (ns.map PyData.int)]=some (.val (.bool true))) :
  codeAny (model P w) callerA (.call (.ref fa) ⟨[.ref a],[]⟩) (fun r s'=>r=.ok (.ret (.bool true))∧OldK st.heap s'.heap∧s'.os=st.os∧AllBare s'.gens) st:=by
 have rv:Vals (ns.map V.int) vs:=vals_ints hi
 have hlen:vs.length=ns.length:=hi.length
 have aT:a≠T:=fun z=>by
  rw [z,hT] at ha
  have z':Data.fields #[]=Data.seq vs.toArray _:=congrArg Obj.data (Option.some.inj ha)
  cases z'
 obtain ⟨H,hH,hS,hHT,hF⟩:∃ H:Hp,(∀ b u,H b=some u→(b=T∧u=.tbl #[])∨(b=a∧K.lookup a=none∧u=.frz { cls:=.type "list", data:=.seq vs.toArray } (.lst (ns.map V.int))))∧SqL K H a (ns.map V.int)∧H T=some (.tbl #[])∧
   ∃ F:Hp,Same F H∧F T=none∧SqL K F a (ns.map V.int):=by
  cases hk:K.lookup a with
  | none=>
   refine ⟨fun b=>if b=T then some (.tbl #[]) else if b=a then some (.frz { cls:=.type "list", data:=.seq vs.toArray } (.lst (ns.map V.int))) else none,fun b u e=>?_,.inl (.inr ⟨{ cls:=.type "list", data:=.seq vs.toArray },(if_neg aT).trans (if_pos rfl)⟩),if_pos rfl,
    fun b=>if b=a then some (.frz { cls:=.type "list", data:=.seq vs.toArray } (.lst (ns.map V.int))) else none,fun b o e=>?_,if_neg (Ne.symm aT),.inl (.inr ⟨{ cls:=.type "list", data:=.seq vs.toArray },if_pos rfl⟩)⟩
   ·dsimp only at e
    by_cases hbT:b=T
    ·rw [if_pos hbT] at e
     cases e
     exact .inl ⟨hbT,rfl⟩
    ·rw [if_neg hbT] at e
     by_cases hb:b=a
     ·rw [if_pos hb] at e
      cases e
      exact .inr ⟨hb,rfl,rfl⟩
     ·rw [if_neg hb] at e
      cases e
   ·dsimp only at e ⊢
    by_cases hb:b=a
    ·rw [if_neg (by rw [hb]; exact aT)]
     exact e
    ·rw [if_neg hb] at e
     cases e
  | some o=>
   have e:=KX a o hk
   rw [ha] at e
   cases e
   have hq:∀ H:Hp,SqL K H a (ns.map V.int):=fun H=>.inr ⟨_,vs.toArray,_,hk,rfl,rfl,rfl,by rw [List.size_toArray,hlen]; exact hl,by simpa using rv⟩
   refine ⟨fun b=>if b=T then some (.tbl #[]) else none,fun b u e=>?_,hq _,if_pos rfl,fun _=>none,fun b o e=>(nomatch e),rfl,hq _⟩
   dsimp only at e
   by_cases hbT:b=T
   ·rw [if_pos hbT] at e
    cases e
    exact .inl ⟨hbT,rfl⟩
   ·rw [if_neg hbT] at e
    cases e
 obtain ⟨F,fF,fT,fS⟩:=hF
 have free_of:∀ {b:Addr} {o:Obj},K.lookup b=some o→H b=none:=fun {b o} e=>by
  cases q:H b with
  | none=>rfl
  | some u=>
   rcases hH b u q with ⟨z1,_⟩ | ⟨z1,z2,_⟩
   ·rw [z1,nT] at e; cases e
   ·rw [z1,z2] at e; cases e
 have free_data:∀ {b:Addr} {o:Obj},st.heap.get? b=some o→(∀ vs n,o.data≠.seq vs n)→o.data≠.fields #[]→H b=none:=fun {b o} e d1 d2=>by
  cases q:H b with
  | none=>rfl
  | some u=>
   rcases hH b u q with ⟨z1,_⟩ | ⟨z1,_,_⟩
   ·rw [z1,hT] at e
    cases e
    exact absurd rfl d2
   ·rw [z1,ha] at e
    cases e
    exact absurd rfl (d1 _ _)
 have nsBase:∀ {b:Addr} {m:Str→Option Value},st.heap.Ns b m→(hidT st.heap H).Ns b m:=fun {b m} ⟨o,es,ep,e,d,r⟩=>⟨o,es,ep,hidT_get e (free_data e (fun vs n z=>by rw [d] at z; cases z) (fun z=>by rw [d] at z; cases z)),d,r⟩
 have inBase:K.In (hidT st.heap H):=fun b o e=>hidT_get (KX b o e) (free_of e)
 have hok:HOk P w H st.heap:=fun b u e=>by
  rcases hH b u e with ⟨rfl,rfl⟩ | ⟨rfl,_,rfl⟩
  ·exact hT
  ·refine ⟨ha,?_,vs,_,rv,ha⟩
   rw [List.length_map]
   exact hl
 have modB:Mod K mg (hidT st.heap H):=by
  obtain ⟨mc,h1,h2⟩:=hlim
  exact ⟨inBase,nsBase hns,⟨mb,nsBase hb,hbb⟩,⟨mc,nsBase h1,h2⟩⟩
 have entry:Env0 P w K mg (hidT st.heap H) callerA [] st H:=by
  refine ⟨rfl,modB,fun b o e=>of_hidT e,Nat.le_of_eq (hidT_size _ _),trivial,fun b z=>?_,hok,.of_eq hg⟩
  exact absurd (show b ∈ ([]:List Addr) from z) (by simp)
 have TB:TabB (hidT st.heap H) mg c T:=by
  refine ⟨?_,?_,fun z=>?_⟩
  ·obtain ⟨o,us,file,tf,flags,tg,inF,text,tt,e1,r1,r2,r3,r4,r5,r6,r7,r8,hne⟩:=hC
   refine ⟨o,us,file,tf,flags,tg,inF,text,tt,hidT_get e1 (free_data e1 (fun vs n z=>?_) fun z=>?_),r1,r2,r3,r4,r5,r6,r7,r8,hne⟩
   ·rw [r2] at z; cases z
   ·rw [r2] at z
    cases z
    simp at r3
  ·obtain ⟨bm,ob,b1,b2,b3,b4,b5,b6⟩:=hbm
   have nG:bm≠mainGlobals:=fun q=>by
    obtain ⟨o,es,ep,e,hd,_⟩:=hns
    rw [q,e] at b3
    cases b3
    rw [hd] at b6
    cases b6
   have nP:bm≠T:=fun q=>by
    rw [q,hT] at b3
    cases b3
    cases b6
   exact ⟨bm,ob,b1,b2,nG,nP,hidT_get b3 (free_data b3 (fun vs n z=>by rw [b6] at z; cases z) fun z=>by rw [b6] at z; cases z),b4,b5,b6⟩
  ·obtain ⟨o,es,ep,e,hd,_⟩:=hns
   rw [z,hT] at e
   cases e
   cases hd
 refine codeAny_mono ((G _ inBase (nsBase hns) TB).go callerA [] st H ⟨[.ref a],[]⟩ [.ref a] [.ref a] (fun v _=>v=.bl true) E0 hr rfl entry (bind st (.ref a)) (.cons rfl .nil)
  ⟨rfl,F,[.list (ns.map PyData.int)],fF,.cons (.lst fS (dpa_ints ns)) .nil,fT,hHT,hmf,fun v H' e=>e⟩) fun r s' h=>?_
 match r,h with
 | .error e,h=>
  obtain ⟨_,_,_,_,_,_,_,_,_,_,_,_,z⟩:=h
  exact z.elim
 | .ok (.ret u),h=>
  obtain ⟨v,H',os,bare,un,hok',rv',q⟩:=h
  have q':v=.bl true:=q
  subst q'
  obtain rfl:u=Value.bool true:=rv'
  have key:∀ b o,b≠T→st.heap.get? b=some o→s'.heap.get? b=some o:=fun b o nb e=>by
   cases q:H b with
   | none=>exact un.keep b o e q (fun z=>absurd (show b ∈ ([]:List Addr) from z) (by simp)) (by simp)
   | some u=>
    rcases hH b u q with ⟨z1,_⟩ | ⟨rfl,_,rfl⟩
    ·exact absurd z1 nb
    ·obtain ⟨e2,_⟩:=hok' b _ (un.frzs b _ _ q)
     rw [ha] at e
     cases e
     exact e2
  obtain ⟨more,z⟩:=un.tbls T #[] hHT
  have hm:s'.heap.get? T=some { cls:=.none,data:=.fields (#[]++more) }:=hok' T _ z
  rw [Array.empty_append] at hm
  refine ⟨rfl,⟨fun b o e=>?_,fun b o e=>?_⟩,os,bare⟩
  ·by_cases hbT:b=T
   ·rw [hbT] at e ⊢
    rw [hT] at e
    cases e
    exact .inr (.inl ⟨(hC.tab hT).isCodeTable,rfl,#[],more,rfl,by rw [Array.empty_append]; exact hm⟩)
   ·exact .inl (key b o hbT e)
  ·by_cases hbT:b=T
   ·rw [hbT]
    exact ⟨_,hm⟩
   ·exact ⟨o,key b o hbT e⟩
theorem walkGT {l:PySem.W.OpenLaw} {n k:Nat} {q:Program} {loose:List Str} {XP:(Str→Option Value)→Heap→Prop} {YP:World→Heap→Prop} {d:DefRec} {K:Params→PySem.W.Frag} {mf:List D→Option RV} {x:Str} {c T:Addr}
  (hn:l.most=some n) (hn2:n ≤ sizeLine) (hdf:d.params.defaults=[]) (hr:Room k callerA)
  (hY:∀ (w:World) (h:Heap),YP w h→(K w.params).In h) (hTY:∀ (w:World) (h:Heap),YP w h→h.get? T=some { cls:=.none,data:=.fields #[] }) (nT:∀ w:World,(K w.params).lookup T=none) (hC:∀ w:World,PySem.W.codeHdIn (K w.params) c T=true)
  (F:∀ (w:World) (mg:Str→Option Value) (fa:Addr) (h:Heap),(K w.params).In h→h.Ns mainGlobals mg→mg d.name=some (.ref fa)→
   ∃ fd:FuncData,(∀ (s:Shared) (u:Value),BindsTo s fd ⟨[u],[]⟩ [(x,u)])∧
    ∀ base:Heap,(K w.params).In base→base.Ns mainGlobals mg→TabB base mg c T→FnG l.prog w (K w.params) mg base (CXM l.prog w) k fa fd [x] (spL ⟨K w.params,l.prog,w,mg⟩ T mf))
  (hmf:∀ ns:List Int,ns.length ≤ n→(∀ z ∈ ns,Builtin.Int.intBits z ≤ 1048576)→mf [.list (ns.map PyData.int)]=some (.val (.bool true))) :
  PySem.W.WalkO q loose XP YP l.row.toRowW d [] (fun f vs=>PySem.call f vs):=by
 refine Att.attach_callB hn hdf fun w s0 s1 mg mb fa o pm cd doc a vs ns G Y ho hd hcd hmg hobj hints hlen hbits hg=>?_
 obtain ⟨fd,hb,hF⟩:=F w mg fa _ (hY w _ Y) G.T.g hmg
 exact lawGT (hY w _ Y) G.T.g G.T.b G.T.builtins G.T.nolimit hg (hTY w _ Y) (nT w) (PySem.W.codeHd_of_K (hY w _ Y) (hC w)) G.T.bmain hobj hints (Nat.le_trans hlen hn2) hr hF hb (hmf ns hlen hbits)
end Xm
namespace Xm
open PySem PySem.Spec PyProof.Rows L2
end Xm
namespace Xm
open PySem PySem.Spec PyProof.Rows L2
structure ClsG (mg:Str→Option Value) (n:Str) (C:Addr):Prop where
 mg:mg n=some (.ref C)
section
variable {X:Cx} {C:Ct} {e:Expr} {c:AS→Option (RV × AS)}
theorem xd_lam (he:PE X e (xOf (kxOf X) C c)):PE X e (dOf (kxOf X) C (rvD c)):=pe_wk he fun σ H Q q=>xOf_d q
end
section
variable {X:Cx} {C:Ct} {pos:Pos} {a b:Expr} {i:Nat}
theorem tst_ok {K:Kx} {f:EF} {σ:L2.St} {H:Hp} {Q:Bool→Hp→Prop} (q:bOf K C (valB f) σ H Q):dOf K C f σ H fun x H'=>∃ k,x=.bl k∧Q k H':=by
 obtain ⟨F,st,w,R,e,q⟩:=q
 obtain ⟨a,ea,e⟩:=Option.bind_eq_some_iff.mp e
 split at e
 ·rename_i b hb
  cases e
  exact ⟨F,st,a,R,ea,fun v H1 F1 s1 R1 d1=>⟨b,dp_bl (hb ▸ d1),q H1 F1 s1 R1⟩⟩
 ·cases e
theorem nonX_ok {K:Kx} {σ:L2.St} {H:Hp} {Q:VK} (q:dOf K C (nonX i) σ H Q):∃ v,σ[i]?=some (some v)∧Q (.bl (decide (v=V.non))) H:=by
 obtain ⟨F,st,w,R,e,q⟩:=q
 unfold nonX at e
 split at e
 ·rename_i o eo
  cases e
  obtain ⟨p,h1,_⟩:=R.slot i _ eo
  exact ⟨.ref p,h1,q _ H F (Same.refl _) R (.bl _)⟩
 ·rename_i d ed
  cases e
  obtain ⟨v,h1,h2⟩:=R.slot i _ ed
  refine ⟨v,h1,?_⟩
  rw [isNd_dp h2]
  exact q _ H F (Same.refl _) R (.bl _)
 ·cases e
theorem xt_nonX (ha:PE X a (tVar i)) (hb:PE X b (tC .non)):PT X (.Compare a [.Is] [b] pos) (bOf (kxOf X) C (valB (nonX i))):=pt_wk (pt_cmpR op_isN ha hb (nomark _)) fun σ H Q q=>by
 obtain ⟨v,h,q⟩:=nonX_ok (tst_ok q)
 exact ⟨v,h,rfl,q⟩
end
section
variable {X:Cx} {C:Ct} {j k:Nat} {x:Str} {p pos:Pos} {e:Expr} {mf:List D→Option RV} {c:AS→Option (RV × AS)}
end
theorem wp_callZ {f:Addr} {r0:RV} {i:Nat} {st:AS} {Q:RV→AS→Prop} (h:st[i]?=some (.obj (.fnc f))) (q:Q r0 st):Wp (callZ f r0 i) st Q:=by
 refine ⟨r0,st,?_,q⟩
 unfold callZ
 rw [h]
 simp
theorem wp_lamF {mfh:RV→Option RV} {b:AS→Option (RV × AS)} {st:AS} {Q:RV→AS→Prop} (h:Wp b (st.map keepD) fun r _=>∃ r',mfh r=some r'∧(∀ x,r'≠.exc x)∧Q r' st):Wp (lamF mfh b) st Q:=by
 obtain ⟨r,s,e,r',e1,hx,q⟩:=h
 refine ⟨r',st,?_,q⟩
 unfold lamF
 rw [e]
 cases r' with
 | exc x=>exact absurd rfl (hx x)
 | val d=>simp only [Option.bind_some,e1]
 | new d=>simp only [Option.bind_some,e1]
 | dct d=>simp only [Option.bind_some,e1]
theorem wp_lamV {d:D} {P:Prop} (q:P):(∀ x,RV.val d≠.exc x)∧P:=⟨fun x z=>(nomatch z),q⟩
end Xm
namespace Xm
open PySem PySem.Spec PyProof.Rows L2
end Xm
namespace K78
open PySem PySem.Spec PyProof.Rows L2 Xm
open DwC (g_law_pen mf_law_pen e_law_pen g_law_draw mq_law_draw e_law_draw)
open DwD (g_is_whole mf_is_whole e_is_whole)
open K07 (g_is_share mf_is_share e_is_share)
open K79 (g_show_share mf_show_share e_show_share g_law_reduced mf_law_reduced e_law_reduced g_law_writ mf_law_writ e_law_writ)
noncomputable section
def g_number_in:SF:=(seqS (asgS 1 (ifE (valB (bin2 kStarts (rd 0) (cst (.str (PySem.Str.ofString "-"))))) (cutS2 (rd 0) (someO (cst (.int 1))) noO) (rd 0))) (seqS (ifS (orB (notB (valB (chE kLe kLe (cst (.int 1)) (un1 kLenX (rd 1)) (cst (.int 12))))) (notB (valB (un1 kAll (listE (compF (itS (rd 1)) (setD 2) yesB (bin2 kInS (rd 2) (cst (.str (PySem.Str.ofString "0123456789")))) [2])))))) (retS (cst .none)) skipS) (retS (ifE (valB (bin2 kEq (un1 kStrA (un1 kIntS (rd 0))) (rd 0))) (un1 kIntS (rd 0)) (cst .none)))))
def mf_number_in:=runP g_number_in 3
theorem e_number_in:∀ ds r,ds.length=1→mf_number_in ds=some r→Leaves g_number_in (st0 3 ds) r fun _=>True:=runP_ok
def g_law_number_in:SF:=(seqS (asgS 1 (cutS2 (rd 0) (someO (un1 kInt (bin2 kEq (cutS2 (rd 0) noO (someO (cst (.int 1)))) (cst (.str (PySem.Str.ofString "-")))))) noO)) (seqS (ifS (orB (notB (valB (chE kLe kLe (cst (.int 1)) (un1 kLenX (rd 1)) (cst (.int 12))))) (valB (bin2 kNeL0 (listE (compF (itS (rd 1)) (setD 2) (valB (bin2 kNotInS (rd 2) (cst (.str (PySem.Str.ofString "0123456789"))))) (rd 2) [2])) (lstF nilA)))) (retS (cst .none)) skipS) (seqS (ifS (valB (bin2 kNe (un1 kStrA (un1 kIntS (rd 0))) (rd 0))) (retS (cst .none)) skipS) (retS (un1 kIntS (rd 0))))))
def mf_law_number_in:=runP g_law_number_in 3
theorem e_law_number_in:∀ ds r,ds.length=1→mf_law_number_in ds=some r→Leaves g_law_number_in (st0 3 ds) r fun _=>True:=runP_ok
noncomputable def g_law_heard (f:Addr) (r0:RV):SF:=(seqS (asgS 1 (cst .none)) (seqS (asgS 2 (cst .none)) (seqS (tryK (ct1 "NoText" true) 3 2 (asgX 1 (callZ f r0 0))) (seqS (ifS (valB (nonX 2)) (retN (newF (consA (rd 1) nilA))) skipS) (seqS (ifS (orB (notB (valB (isaX 2 (ct1 "NoText" true)))) (valB (isaX 2 (ct1 "NoText" false)))) (retS (tupF (consA (cst (.str (PySem.Str.ofString "other"))) nilA))) skipS) (retS (tupF (consA (fldN 2 "at" ["NoText"]) nilA))))))))
noncomputable def mf_law_heard:RV→Option RV:=mfH g_law_heard 4
def g_law_pick:SF:=(retS (bin2 kIxX (rd 1) (rvD (callQ mq_law_draw 0 (consA (un1 kLenX (rd 1)) nilA)))))
def mq_law_pick:=runQ g_law_pick 2
theorem e_law_pick:∀ xs ds r,ds.length + 1=2→mq_law_pick xs ds=some r→Leaves g_law_pick (st1 2 xs ds) r.1 fun s=>s[0]?=some (.pen r.2):=runQ_ok
def g_law_share_in:SF:=(seqS (asgS 1 (bin2 kSplit (rd 0) (cst (.str (PySem.Str.ofString "/"))))) (seqS (asgS 2 (listE (compF (itD (rd 1)) (setD 4) yesB (rvD (callP mf_law_number_in [] (consA (rd 4) nilA))) [4]))) (seqS (ifS (orB (valB (bin2 kGt (un1 kLen (rd 1)) (cst (.int 2)))) (orB (valB (bin2 kIn (cst .none) (rd 2))) (andB (valB (bin2 kEq (un1 kLen (rd 1)) (cst (.int 2)))) (valB (bin2 kLt (bin2 kIx (rd 2) (cst (.int 1))) (cst (.int 1))))))) (retS (cst .none)) skipS) (seqS (asgS 3 (rvD (callP mf_law_reduced [] (consA (bin2 kIx (rd 2) (cst (.int 0))) (consA (bin2 kIx (bin2 kCat (rd 2) (lstF (consA (cst (.int 1)) nilA))) (cst (.int 1))) nilA))))) (retS (bin2 kIx (lstF (consA (cst .none) (consA (rd 3) nilA))) (un1 kInt (bin2 kEq (rvD (callP mf_law_writ [] (consA (rd 3) nilA))) (rd 0)))))))))
def mf_law_share_in:=runP g_law_share_in 5
theorem e_law_share_in:∀ ds r,ds.length=1→mf_law_share_in ds=some r→Leaves g_law_share_in (st0 5 ds) r fun _=>True:=runP_ok
def g_need:SF:=(ifS (notB (valB (rd 0))) (raiseF "NoText" "at" (rd 1)) skipS)
def mf_need:=runP g_need 2
theorem e_need:∀ ds r,ds.length=2→mf_need ds=some r→Leaves g_need (st0 2 ds) r fun _=>True:=runP_ok
def g_share_in:SF:=(seqS (asgT (bin2 kPart (rd 0) (cst (.str (PySem.Str.ofString "/")))) (unpT 3 (consT (setD 2) (consT (setD 3) (consT (setD 4) nilT))))) (seqS (asgS 1 (tupF (consA (rvD (callP mf_number_in [] (consA (rd 2) nilA))) (consA (ifE (valB (bin2 kEq (rd 3) (cst (.str (PySem.Str.ofString ""))))) (cst (.int 1)) (rvD (callP mf_number_in [] (consA (rd 4) nilA)))) nilA)))) (retS (ifE (andB (valB (rvD (callP mf_is_share [] (consA (rd 1) nilA)))) (valB (bin2 kEq (rvD (callP mf_show_share [] (consA (rd 1) nilA))) (rd 0)))) (rd 1) (cst .none)))))
def mf_share_in:=runP g_share_in 5
theorem e_share_in:∀ ds r,ds.length=1→mf_share_in ds=some r→Leaves g_share_in (st0 5 ds) r fun _=>True:=runP_ok
def g_law_any:SF:=(seqS (asgS 1 (bin2 kCat (bin2 kMul (rvD (callQ mq_law_draw 0 (consA (bin2 kPow (cst (.int 10)) (cst (.int 6))) nilA))) (bin2 kPow (cst (.int 10)) (cst (.int 6)))) (rvD (callQ mq_law_draw 0 (consA (bin2 kPow (cst (.int 10)) (cst (.int 6))) nilA))))) (seqS (asgS 2 (rvD (callQ mq_law_pick 0 (consA (lstF (consA (cst (.int 0)) (consA (cst (.int 1)) (consA (un1 kNeg (cst (.int 1))) (consA (bin2 kSub (rvD (callQ mq_law_draw 0 (consA (cst (.int 41)) nilA))) (cst (.int 20))) (consA (rd 1) (consA (bin2 kSub (cst (.int 0)) (rd 1)) (consA (bin2 kSub (bin2 kPow (cst (.int 10)) (cst (.int 12))) (cst (.int 1))) (consA (cst (.int 7)) nilA))))))))) nilA)))) (retS (rvD (callP mf_law_reduced [] (consA (rd 2) (consA (rvD (callQ mq_law_pick 0 (consA (lstF (consA (cst (.int 1)) (consA (cst (.int 1)) (consA (cst (.int 2)) (consA (bin2 kCat (cst (.int 1)) (rvD (callQ mq_law_draw 0 (consA (cst (.int 12)) nilA)))) (consA (bN kMax2 (consA (cst (.int 1)) (consA (rd 1) nilA))) (consA (bin2 kSub (bin2 kPow (cst (.int 10)) (cst (.int 12))) (cst (.int 1))) nilA))))))) nilA))) nilA)))))))
def mq_law_any:=runQ g_law_any 3
theorem e_law_any:∀ xs ds r,ds.length + 1=1→mq_law_any xs ds=some r→Leaves g_law_any (st1 3 xs ds) r.1 fun s=>s[0]?=some (.pen r.2):=runQ_ok
def g_law_warped:SF:=(seqS (asgS 2 (cst (.str (PySem.Str.ofString " :-().0123456789abcdefghijklmnopqrstuvwxyz\nABZ!\"#$&'*+,/;<=>?\x40[\\]^_`{|}~")))) (seqS (asgS 3 (rvD (callQ mq_law_draw 0 (consA (bin2 kCat (un1 kLenX (rd 1)) (cst (.int 1))) nilA)))) (seqS (asgS 4 (rvD (callQ mq_law_pick 0 (consA (lstF (consA (rvD (callQ mq_law_pick 0 (consA (rd 2) nilA))) (consA (rvD (callQ mq_law_pick 0 (consA (cst (.str (PySem.Str.ofString " :-0129ab\n"))) nilA))) nilA))) nilA)))) (seqS (asgS 5 (rvD (callQ mq_law_draw 0 (consA (cst (.int 8)) nilA)))) (seqS (ifS (valB (bin2 kLt (rd 5) (cst (.int 2)))) (retS (bin2 kCatS (bin2 kCatS (cutS2 (rd 1) noO (someO (rd 3))) (rd 4)) (cutS2 (rd 1) (someO (rd 3)) noO))) skipS) (seqS (ifS (valB (bin2 kLt (rd 5) (cst (.int 4)))) (retS (bin2 kCatS (bin2 kCatS (cutS2 (rd 1) noO (someO (rd 3))) (rd 4)) (cutS2 (rd 1) (someO (bin2 kCat (rd 3) (cst (.int 1)))) noO))) skipS) (seqS (ifS (valB (bin2 kEq (rd 5) (cst (.int 4)))) (retS (bin2 kCatS (cutS2 (rd 1) noO (someO (rd 3))) (cutS2 (rd 1) (someO (bin2 kCat (rd 3) (cst (.int 1)))) noO))) skipS) (seqS (ifS (valB (bin2 kEq (rd 5) (cst (.int 5)))) (retS (bin2 kCatS (bin2 kCatS (cutS2 (rd 1) noO (someO (rd 3))) (revS (cutS2 (rd 1) (someO (rd 3)) (someO (bin2 kCat (rd 3) (cst (.int 2))))))) (cutS2 (rd 1) (someO (bin2 kCat (rd 3) (cst (.int 2)))) noO))) skipS) (seqS (ifS (valB (bin2 kEq (rd 5) (cst (.int 6)))) (retS (bin2 kCatS (bin2 kCatS (cutS2 (rd 1) noO (someO (rd 3))) (cutS2 (rd 1) (someO (rd 3)) (someO (bin2 kCat (rd 3) (cst (.int 4)))))) (cutS2 (rd 1) (someO (rd 3)) noO))) skipS) (seqS (asgS 6 (lstF (consA (cst (.str (PySem.Str.ofString "00"))) (consA (cst (.str (PySem.Str.ofString "-0"))) (consA (cst (.str (PySem.Str.ofString "+1"))) (consA (cst (.str (PySem.Str.ofString "1/1"))) (consA (cst (.str (PySem.Str.ofString "2/4"))) (consA (cst (.str (PySem.Str.ofString "1/0"))) (consA (cst (.str (PySem.Str.ofString "1/-2"))) (consA (cst (.str (PySem.Str.ofString "0/3"))) (consA (cst (.str (PySem.Str.ofString ""))) (consA (cst (.str (PySem.Str.ofString "01"))) (consA (cst (.str (PySem.Str.ofString "0:1"))) (consA (cst (.str (PySem.Str.ofString "1:0"))) (consA (cst (.str (PySem.Str.ofString "4"))) (consA (bin2 kMulS (cst (.str (PySem.Str.ofString "1"))) (cst (.int 12))) nilA)))))))))))))))) (seqS (asgS 6 (bin2 kCat (rd 6) (lstF (consA (bin2 kMulS (cst (.str (PySem.Str.ofString "9"))) (cst (.int 13))) (consA (cst (.str (PySem.Str.ofString "1/2"))) nilA))))) (retS (bin2 kCatS (bin2 kCatS (cutS2 (rd 1) noO (someO (rd 3))) (rvD (callQ mq_law_pick 0 (consA (rd 6) nilA)))) (cutS2 (rd 1) (someO (rd 3)) noO))))))))))))))
def mq_law_warped:=runQ g_law_warped 7
theorem e_law_warped:∀ xs ds r,ds.length + 1=2→mq_law_warped xs ds=some r→Leaves g_law_warped (st1 7 xs ds) r.1 fun s=>s[0]?=some (.pen r.2):=runQ_ok
def g_read_share:SF:=(seqS (dropX (callP mf_need [.none] (consA (un1 (kIsa "str") (rd 0)) nilA))) (seqS (asgS 1 (rvD (callP mf_share_in [] (consA (rd 0) nilA)))) (seqS (dropX (callP mf_need [.none] (consA (bin2 kIsNot (rd 1) (cst .none)) nilA))) (retS (rd 1)))))
def mf_read_share:=runP g_read_share 2
theorem e_read_share:∀ ds r,ds.length=1→mf_read_share ds=some r→Leaves g_read_share (st0 2 ds) r fun _=>True:=runP_ok
noncomputable def g_law_right:SF:=(seqS (asgS 1 (tupF (consA (cst .none) nilA))) (seqS (ifS (andB (valB (un1 (kIsa "str") (rd 0))) (valB (bin2 kIsNot (rvD (callP mf_law_share_in [] (consA (rd 0) nilA))) (cst .none)))) (asgS 1 (lstF (consA (rvD (callP mf_law_share_in [] (consA (rd 0) nilA))) nilA))) skipS) (seqS (asgS 2 (rvD (lamF mf_law_heard (callP mf_read_share [] (consA (rd 0) nilA))))) (seqS (asgS 3 (rvD (lamF mf_law_heard (callK mf_read_share [.inr 0] nilA (consA (rd 0) nilA))))) (retS (bin2 kEq (lstF (consA (un1 kRepr (rd 2)) (consA (un1 kRepr (rd 3)) nilA))) (bin2 kMulL (lstF (consA (un1 kRepr (rd 1)) nilA)) (cst (.int 2)))))))))
noncomputable def mf_law_right:=runP g_law_right 4
theorem e_law_right:∀ ds r,ds.length=1→mf_law_right ds=some r→Leaves g_law_right (st0 4 ds) r fun _=>True:=runP_ok
noncomputable def g_law:SF:=(seqS (asgN 1 (rvN (callP mf_law_pen [] (consA (rd 0) nilA)))) (seqS (asgS 2 (lstF (consA (cst (.str (PySem.Str.ofString ""))) (consA (cst (.str (PySem.Str.ofString " "))) (consA (cst (.str (PySem.Str.ofString "0"))) (consA (cst (.str (PySem.Str.ofString "-0"))) (consA (cst (.str (PySem.Str.ofString "00"))) (consA (cst (.str (PySem.Str.ofString "1/1"))) (consA (cst (.str (PySem.Str.ofString "0/1"))) (consA (cst (.str (PySem.Str.ofString "2/4"))) (consA (cst (.str (PySem.Str.ofString "1/2"))) (consA (cst (.str (PySem.Str.ofString "-1/2"))) (consA (cst (.str (PySem.Str.ofString "1/-2"))) (consA (cst (.str (PySem.Str.ofString "1/0"))) (consA (cst (.str (PySem.Str.ofString "/2"))) (consA (cst (.str (PySem.Str.ofString "1/"))) (consA (cst (.str (PySem.Str.ofString "1//2"))) nilA))))))))))))))))) (seqS (asgS 2 (bin2 kCat (rd 2) (lstF (consA (cst (.str (PySem.Str.ofString "1/2/3"))) (consA (cst (.str (PySem.Str.ofString "--1"))) nilA))))) (seqS (asgS 2 (bin2 kCat (rd 2) (lstF (consA (cst (.str (PySem.Str.ofString "1 2"))) (consA (cst (.str (PySem.Str.ofString " 1"))) (consA (cst (.str (PySem.Str.ofString "1 "))) (consA (cst (.str (PySem.Str.ofString "1_0"))) (consA (cst (.str (PySem.Str.ofString "1\n"))) (consA (cst (.str (PySem.Str.ofString "1.5"))) (consA (cst (.str (PySem.Str.ofString "a"))) (consA (bin2 kMulS (cst (.str (PySem.Str.ofString "9"))) (cst (.int 12))) (consA (bin2 kMulS (cst (.str (PySem.Str.ofString "9"))) (cst (.int 13))) (consA (bin2 kCatS (cst (.str (PySem.Str.ofString "1/"))) (bin2 kMulS (cst (.str (PySem.Str.ofString "7"))) (cst (.int 12)))) (consA (bin2 kCatS (cst (.str (PySem.Str.ofString "1/"))) (bin2 kMulS (cst (.str (PySem.Str.ofString "7"))) (cst (.int 13)))) nilA)))))))))))))) (seqS (asgS 2 (bin2 kCat (rd 2) (lstF (consA (cst (.str (PySem.Str.ofString "+1"))) nilA)))) (seqS (forS (itR1 (cst (.int 6))) (setD 3) (clrS [3,4,5,6,7] (seqS (asgS 4 (rvD (callQ mq_law_any 1 nilA))) (seqS (asgS 5 (rvD (callP mf_show_share [] (consA (rd 4) nilA)))) (seqS (ifS (orB (notB (valB (un1 (kIsa "str") (rd 5)))) (orB (valB (bin2 kNe (rd 5) (rvD (callP mf_law_writ [] (consA (rd 4) nilA))))) (valB (bin2 kNe (rvD (callK mf_show_share [.inr 0] nilA (consA (rd 4) nilA))) (rd 5))))) (retS (cst (.bool false))) skipS) (seqS (ifS (notB (valB (rvD (callP mf_law_right [] (consA (rd 5) nilA))))) (retS (cst (.bool false))) skipS) (seqS (forS (itR1 (cst (.int 4))) (setD 6) (clrS [6,7] (seqS (asgS 7 (rvD (callQ mq_law_warped 1 (consA (rd 5) nilA)))) (ifS (orB (notB (valB (rvD (callP mf_law_right [] (consA (rd 7) nilA))))) (orB (notB (valB (rvD (callP mf_law_right [] (consA (rvD (callQ mq_law_warped 1 (consA (rd 7) nilA))) nilA))))) (notB (valB (rvD (callP mf_law_right [] (consA (rvD (callQ mq_law_pick 1 (consA (rd 2) nilA))) nilA))))))) (retS (cst (.bool false))) skipS)))) (ifS (notB (valB (rvD (callP mf_law_right [] (consA (rvD (callQ mq_law_pick 1 (consA (lstF (consA (cst .none) (consA (cst (.bool true)) (consA (cst (.int 0)) (consA (tupF nilA) (consA (lstF nilA) (consA (cst (.dict [])) (consA (tupF (consA (cst (.int 1)) (consA (cst (.int 2)) nilA))) (consA (lstF (consA (cst (.str (PySem.Str.ofString "1"))) nilA)) (consA (tupF (consA (cst (.str (PySem.Str.ofString "1"))) nilA)) nilA)))))))))) nilA))) nilA))))) (retS (cst (.bool false))) skipS)))))))) (retS (thenB true (cst .none)))))))))
noncomputable def mf_law:=runP g_law 8
theorem e_law:∀ ds r,ds.length=1→mf_law ds=some r→Leaves g_law (st0 8 ds) r fun _=>True:=runP_ok
end
end K78
namespace Xm
open PySem PySem.Spec PyProof.Rows L2 LamX
section
variable {X:Cx} {pins:List (Addr × Obj)} {σ:L2.St} {H HZ:Hp} {s s1:Shared}
end
section
variable {X:Cx} {pins:List (Addr × Obj)} {σ:L2.St} {H:Hp} {s:Shared}
end
end Xm
namespace Xm
open PySem PySem.Spec PyProof.Rows L2 LamX
section
variable {X:Cx} {pins:List (Addr × Obj)} {σ:L2.St} {H:Hp} {s:Shared}
end
end Xm
namespace Xm
open PySem PySem.Spec PyProof.Rows L2 LamX
section
variable {X:Cx} {pins:List (Addr × Obj)} {σ:L2.St} {H:Hp} {s:Shared}
end
end Xm
namespace Xm
open PySem PySem.Spec PyProof.Rows L2 LamX
section
variable {X:Cx}
end
end Xm
namespace Xm
open PySem PySem.Spec PyProof.Rows L2 LamX
def TbAt (q:Str) (T:Addr) (F H:Hp) (ps:Array Value):Prop:=F T=none∧H T=some (.tbl ps)∧TriplesOk ps.toList∧∀ (pos:Pos) (cv:Value),codeAmong pos ps.toList=some cv→∃ c,cv=.ref c∧F c=some (CodeO c q)
def spT (K:Kx) (T:Addr) (q:Str) (n:Nat) (mf:List D→Option RV):Sp:=fun vs H Q _=>vs.length=n∧∃ F ds r ps,Same F H∧DpAll K F vs ds∧TbAt q T F H ps∧mf ds=some r∧(∀ x,r≠.exc x)∧
 ∀ v F' H' ps',GrP T F H F' H'→TbAt q T F' H' ps'→RvOk K H F' H' v r→Q v H'
theorem Rel.growT {K:Kx} {C:Ct} {F H F' H':Hp} {st:AS} {σ:L2.St} {T:Addr} {q:Str} {ps ps':Array Value} (R:Rel K C F st σ H) (htb:C.tb=some q) (hpen:C.pen=some T) (hF0:C.F0 T=none) (h1:TbAt q T F H ps) (gr:GrP T F H F' H') (h2:TbAt q T F' H' ps'):Rel K C F' st σ H':=by
 obtain ⟨a1,a2,a3,a4⟩:=h1
 obtain ⟨b1,b2,b3,b4⟩:=h2
 have g2:Gr F H F' (upd H' T (.tbl ps)):=⟨gr.ff,fun a o e=>by
   have hb:a≠T:=fun z=>by subst z; rw [b1] at e; cases e
   rw [upd_ne hb]; exact gr.fh a o e,fun a o e=>by
   by_cases hb:a=T
   ·subst hb; rw [upd_same]; rw [a2] at e; exact e
   ·rw [upd_ne hb]; exact gr.hh a o hb e,gr.nw⟩
 have R2:=R.grow g2
 have at_:∀ {b:Addr} {u:HO},upd H' T (.tbl ps) b=some u→(∀ z,u≠.tbl z)→H' b=some u:=fun {b u} e n=>by
  by_cases hb:b=T
  ·rw [hb,upd_same] at e
   cases e
   exact absurd rfl (n ps)
  ·rw [upd_ne hb] at e
   exact e
 have lst_at:∀ {b:Addr} {xs:List D},Lst K F' (upd H' T (.tbl ps)) b xs→Lst K F' H' b xs:=fun {b xs} ⟨g1,us,g2,g3⟩=>⟨g1,us,at_ g2 (fun z e=>by cases e),g3⟩
 have dct_at:∀ {b:Addr} {kvs:List (D × D)},Dct K F' (upd H' T (.tbl ps)) b kvs→Dct K F' H' b kvs:=fun {b kvs} ⟨g1,u,g2,g3⟩=>⟨g1,u,at_ g2 (fun z e=>by
  subst e
  rcases g3 with ⟨rows,e,_⟩ | ⟨qs,e,_⟩ <;> cases e),g3⟩
 refine ⟨R.len,R2.f0,gr.fh,fun a o e hp=>?_,R2.new,fun i sl e=>?_,R.apart,R.penh,fun p hp=>?_,fun q2 hq2=>?_⟩
 ·have z:=R2.old a o e hp
  rw [upd_ne (fun z2=>hp (by rw [z2]; exact hpen))] at z
  exact z
 ·have g:=R2.slot i sl e
  cases sl with
  | no=>trivial
  | dat d=>exact g
  | own xs=>
   obtain ⟨a,g1,g2,g3⟩:=g
   exact ⟨a,g1,g2,lst_at g3⟩
  | pen xs=>
   obtain ⟨a,g1,g2,g3⟩:=g
   exact ⟨a,g1,g2,lst_at g3⟩
  | dct kvs=>
   obtain ⟨a,g1,g2,g3⟩:=g
   exact ⟨a,g1,g2,dct_at g3⟩
  | pdc kvs=>
   obtain ⟨a,g1,g2,g3⟩:=g
   exact ⟨a,g1,g2,dct_at g3⟩
  | obj o=>exact g
 ·rw [hpen] at hp
  cases hp
  rw [b2]; simp
 ·rw [htb] at hq2
  cases hq2
  exact ⟨T,ps',hpen,hF0,b2,b3,b4⟩
section
variable {K:Kx} {C:Ct} {σ:L2.St} {H:Hp} {Q:VK} {E:XK} {g:LF} {mf:List D→Option RV} {n:Nat} {T:Addr} {q0:Str}
theorem callT_d (htb:C.tb=some q0) (hpen:C.pen=some T) (hn:∀ st r,g st=some r→r.1.length=n) (q:dOf K C (rvD (callP mf [] g)) σ H Q):tCall (spT K T q0 n mf) [] E (aOf K C g) σ H Q:=by
 obtain ⟨F,st,w,R,e,q⟩:=q
 obtain ⟨c,ec,e⟩:=Option.bind_eq_some_iff.mp e
 obtain ⟨a,ea,ec⟩:=Option.bind_eq_some_iff.mp ec
 obtain ⟨r,er,ec⟩:=Option.map_eq_some_iff.mp ec
 cases ec
 refine ⟨F,st,a,R,ea,fun vs H1 F1 s1 R1 d1=>?_⟩
 obtain ⟨P',ps,hp',hF0,hP,ht,hcs⟩:=R1.tab _ htb
 rw [hpen] at hp'
 cases hp'
 have hFT:F1 T=none:=R1.new T hF0 (R1.penh T hpen)
 have tb:TbAt q0 T F1 H1 ps:=⟨hFT,hP,ht,hcs⟩
 rw [List.append_nil]
 refine ⟨by rw [DpAll_len d1]; exact hn st a ea,F1,_,r,ps,R1.fh,d1,tb,by rw [List.append_nil] at er; exact er,fun x hx=>(by subst hx; cases e),fun v F2 H2 ps' gr tb' ok=>?_⟩
 have R2:=R1.growT htb hpen hF0 tb gr tb'
 cases r with
 | val d=>cases e; exact q v H2 F2 (s1.trans gr.ff) R2 ok
 | new xs=>
  cases e
  obtain ⟨p,rfl,hp,hF,us,hH,hu⟩:=ok
  obtain ⟨A,_⟩:=R1.aside hp
  obtain ⟨k1,k2,k3⟩:=R2.freezeNew A.h0 hF hH (fun j hj=>A.ap j hj) hu
  exact q _ H2 _ ((s1.trans gr.ff).trans k1) k2 k3
 | dct kvs=>cases e
 | exc x=>cases e
end
structure HasT (P:Program) (w:World) (K:PySem.W.Frag) (mg:Str→Option Value) (base:Heap) (T:Addr) (q:Str) (k:Nat) (x:Str) (n:Nat) (mf:List D→Option RV):Prop where
 ex:∃ (f:Addr) (fd:FuncData) (ps:List Str),FnG P w K mg base (CXM P w) k f fd ps (spT ⟨K,P,w,mg⟩ T q n mf)∧mg x=some (.ref f)∧PySem.W.keepIn K (.ref f)=true∧Binds K fd ps []
section
variable {X:Cx} {C:Ct} {j k n:Nat} {x:Str} {p pos:Pos} {e:Expr} {es:List Expr} {g:LF} {mf:List D→Option RV} {T:Addr} {q:Str}
theorem xd_callT (h:HasT X.prog X.w X.K X.mg X.base T q j x n mf) (htb:C.tb=some q) (hpen:C.pen=some T) (hr:Room k X.A) (gd:X.A.guards=some []) (hjk:j ≤ k) (ha:PA X (e::es) (aOf (kxOf X) C g)) (hn:ArN g n) (hg:Gl X x:=by rfl)
  (he:starEach (e::es) X.env=(false,eval e X.env)::starEach es X.env:=by rfl) (hpl:(backTo pos (starEach es X.env)).any (·.1)=false:=by rfl) (hdb:(x == ("__debug__" : Str))=false:=by decide) :
  PE X (.Call (.Name x p) (e::es) [] pos) (dOf (kxOf X) C (rvD (callP mf [] g))):=by
 obtain ⟨f,fd,ps,G,hm,hk,hb⟩:=h.ex
 exact pe_wk (pe_callG (E:=E0) G (hr.mono hjk) gd hm hk hb .nil passL ha hg he hpl hdb) fun _ _ _ q=>callT_d htb hpen (fun st r er=>hn st r er) q
end
section
variable {P:Program} {w:World} {K:PySem.W.Frag} {mg:Str→Option Value} {base:Heap} {CX:CXT} {k n:Nat} {f c T:Addr} {N:List Str}
theorem relT {F H:Hp} {vs:List V} {ds:List D} {W:WX} {q:Str} {Kk:Kx} {tps:Array Value} (fh:Same F H) (h:DpAll Kk F vs ds) (hl:vs.length ≤ N.length) (ht:TbAt q T F H tps):Rel Kk ⟨H,F,some T,W,some q,some T⟩ F (st0 N.length ds) (L2.start N vs) H where
 len:=(rel0 (W:=W) fh h hl).len
 f0:=Same.refl _
 fh:=fh
 old:=fun a o e _=>e
 new:=fun a e _=>e
 slot:=fun i s e=>by
  have g:=(rel0 (W:=W) fh h hl).slot i s e
  unfold st0 at e
  by_cases hi:i < ds.length
  ·rw [List.getElem?_append_left (by simpa using hi),List.getElem?_map] at e
   obtain ⟨d,hd,rfl⟩:=Option.map_eq_some_iff.mp e
   exact g
  ·rw [List.getElem?_append_right (by simpa using hi),List.getElem?_replicate] at e
   split at e <;> cases e
   trivial
 apart:=(rel0 (W:=W) fh h hl).apart
 penh:=fun p e=>by cases e; show H T≠none; rw [ht.2.1]; simp
 pent:=fun p e=>by cases e; rw [ht.2.1]; simp
 tab:=fun q' e=>by
  cases e
  exact ⟨T,tps,rfl,ht.1,ht.2.1,ht.2.2.1,ht.2.2.2⟩
theorem defT {x:Str} {st:Stmt} {mf:List D→Option RV} {ps:List Str} {oc:Value} {od:Option Addr} {dV kV doc pm ct:Value} {an:Option Addr} {osl:Array (Option Value)} (g:SF)
  (lk:K.lookup f=some ⟨oc,od,.func (PySem.W.fnOf x x (defArgs st) (defBody st) (defScope st) dV kV doc pm an (.ref c) ct),osl⟩) (hcd:PySem.W.codeIn K (.ref c) x=true) (S:FnScope N ps (defScope st)) (hn:n=ps.length) (hn2:n ≤ N.length)
  (law:∀ ds r,ds.length=n→mf ds=some r→Leaves g (st0 N.length ds) r fun _=>True)
  (body:∀ (C:Ct) (A:Around) (outer:List Env) (s:Shared) (H:Hp) (E:XK),C.W=(fun cls d _ H=>E cls d H)→C.tb=some ((envOfC x (defScope st) s.heap.objs.size f (.ref c)).qual ++ "<lambda>")→C.pen=some T→Room k (A.deeper (envOfC x (defScope st) s.heap.objs.size f (.ref c)))→(A.deeper (envOfC x (defScope st) s.heap.objs.size f (.ref c))).guards=some []→
   PSs (cxOf CX P w K mg base N x (defScope st) f (.ref c) A outer s H E) (defBody st) (sOf ⟨K,P,w,mg⟩ C g)) :
  FnG P w K mg base CX (k + 1) f (PySem.W.fnOf x x (defArgs st) (defBody st) (defScope st) dV kV doc pm an (.ref c) ct) ps (spT ⟨K,P,w,mg⟩ T ((envOfC x (defScope st) 0 f (.ref c)).qual ++ "<lambda>") n mf):=by
 refine ⟨fun vs H Q E h=>h.1.trans hn,fun A outer s H args us vs Q E room guards env bind rel want=>?_⟩
 have inHeap:∀ b o,base.get? b=some o→s.heap.get? b=some o:=fun b o e=>(env.bs b o e).1
 have written:K.In s.heap:=env.mod.kin.keeps inHeap
 have param:∀ y ∈ ps.zip us,(defScope st).names.lookup y.1=some .local∨((defScope st).names.lookup y.1=some .cell∧((cellsFrom (s.heap.objs.size + 1) (defScope st).names []).lookup y.1).isSome=true):=by
  intro y hy
  rcases S.par y.1 (List.of_mem_zip hy).1 with q | q
  ·exact .inl q
  ·exact .inr ⟨q,PySem.W.cellsFrom_some _ _ _ (.inl q)⟩
 refine codeAny_call_function room.depth (written _ _ lk) rfl S.co S.gen rfl (PySem.W.codeRec_of written hcd) (bind _ _ _ _ ?_)
 refine wpAny_newFunctionEnv_cells S.kind param fun en hen s1 inC=>?_
 subst hen
 refine ⟨(env.mod.nolimit.keeps inHeap).keeps inC.toInCall.keep,codeAny_func ?_⟩
 have hlen:vs.length=ps.length:=want.1.trans hn
 obtain ⟨hl,F,ds,r,tps,fh,hd,hT,hm,nx,q⟩:=want
 have R0:Rel ⟨K,P,w,mg⟩ ⟨H,F,some T,fun cls d _ H=>E cls d H,some ((envOfC x (defScope st) s.heap.objs.size f (.ref c)).qual ++ "<lambda>"),some T⟩ F (st0 N.length ds) (L2.start N vs) H:=relT fh hd (by omega) hT
 have pss:=body ⟨H,F,some T,fun cls d _ H=>E cls d H,some ((envOfC x (defScope st) s.heap.objs.size f (.ref c)).qual ++ "<lambda>"),some T⟩ A outer s H E rfl rfl rfl (room.deeper _) guards
 obtain ⟨st',hg,_⟩:=law ds _ ((DpAll_len hd).symm.trans hl) hm
 have I0:=inv_start (CX:=CX) (qual:=x) (f:=f) (cd:=.ref c) (E:=E) S room.hd env hlen rel inC
 have fin:∀ v (σ':L2.St) (st2:AS) (H' F':Hp),Rel ⟨K,P,w,mg⟩ ⟨H,F,some T,fun cls d _ H=>E cls d H,some ((envOfC x (defScope st) s.heap.objs.size f (.ref c)).qual ++ "<lambda>"),some T⟩ F' st2 σ' H'→RvOk ⟨K,P,w,mg⟩ H F' H' v r→Q v H':=fun v σ' st2 H' F' R1 ok=>by
  obtain ⟨P',ps',hp',hF0,hP,ht,hcs⟩:=R1.tab _ rfl
  cases hp'
  have grp:GrP T F H F' H':=⟨R1.f0,R1.fh,fun a o ha e=>R1.old a o e (fun z=>ha (Option.some.inj z).symm),fun a e=>by
   by_cases hF:F a=none
   ·by_cases hH:H a=none
    ·exact .inr hH
    ·exact absurd (R1.new a hF hH) e
   ·exact .inl hF⟩
  exact q v F' H' ps' grp ⟨R1.new T hF0 (R1.penh T rfl),hP,ht,hcs⟩ ok
 refine wpAny_mono (pss.run [] s1 (L2.start N vs) H { nx:=fun _ H'=>Q .non H',rt:=Q } I0 ?_) (fun fl s' hs=>?_) fun _ _ z=>z
 ·rcases hg with hg | ⟨hg,hr⟩
  ·refine ⟨F,_,_,R0,hg,?_⟩
   cases r with
   | val d=>exact fun v σ' H' F' s1 R1 ok=>fin v σ' _ H' F' R1 ok
   | new xs=>exact fun v σ' H' F' s1 R1 ok=>fin v σ' _ H' F' R1 ok
   | dct xs=>exact fun v σ' H' F' s1 R1 ok=>fin v σ' _ H' F' R1 ok
   | exc x=>exact absurd rfl (nx x)
  ·subst hr
   exact ⟨F,_,_,R0,hg,fun σ' H' F' s1 R1=>fin .non σ' _ H' F' R1 .non⟩
 ·cases fl with
  | ret u=>
   obtain ⟨v,σ',H',J,rv,q⟩:=hs
   exact ⟨v,H',J.os,J.bare,J.base,J.hok,rv,q⟩
  | next=>
   obtain ⟨σ',H',J,q⟩:=hs
   exact ⟨V.non,H',J.os,J.bare,J.base,J.hok,rfl,q⟩
  | brk=>
   obtain ⟨_,_,_,q⟩:=hs
   exact q.elim
  | cont=>
   obtain ⟨_,_,_,q⟩:=hs
   exact q.elim
end
end Xm
namespace Xm
open PySem PySem.Spec PyProof.Rows L2 LamX
section
variable {X:Cx} {C:Ct} {j k n m:Nat} {x:Str} {p pos kpos:Pos} {e:Expr} {es:List Expr} {kws:List Keyword} {g h:LF} {f:EF} {mf:List D→Option RV} {ks:List Str} {src:List (Nat ⊕ Nat)} {nm:Option Str} {T:Addr} {q:Str}
end
section
variable {P:Program} {w:World} {K:PySem.W.Frag} {mg:Str→Option Value} {base:Heap} {CX:CXT} {k:Nat} {f T:Addr} {fd:FuncData} {N:List Str}
theorem defL2 {x:Str} {st:Stmt} {mf:List D→Option RV} {ps:List Str} (g:SF) (q:Str) (D0:Dn K x st [] f fd) (S:FnScope N ps (defScope st)) (hn:1=ps.length) (hn2:1 ≤ N.length)
  (law:∀ ds r,ds.length=1→mf ds=some r→Leaves g (st0 N.length ds) r fun _=>True)
  (body:∀ (C:Ct) (cdv:Value) (A:Around) (outer:List Env) (s:Shared) (H:Hp) (E:XK),C.W=(fun cls d _ H=>E cls d H)→C.tb=some q→C.pen=some T→Room k (A.deeper (envOfC x (defScope st) s.heap.objs.size f cdv))→(A.deeper (envOfC x (defScope st) s.heap.objs.size f cdv)).guards=some []→
   PSs (cxOf CX P w K mg base N x (defScope st) f cdv A outer s H E) (defBody st) (sOf ⟨K,P,w,mg⟩ C g)) :
  FnG P w K mg base CX (k + 1) f fd ps (spL ⟨K,P,w,mg⟩ T mf):=by
 refine fnG_ofD D0 S (fun vs H Q E h=>h.1.trans hn) fun cdv A outer s H vs Q E room guards want=>?_
 obtain ⟨hl,F,ds,fh,hd,hF,hT,hm,qq⟩:=want
 refine ⟨_,body ⟨H,F,some T,fun cls d _ H=>E cls d H,some q,some T⟩ cdv A outer s H E rfl rfl rfl room guards,?_⟩
 have R0:Rel ⟨K,P,w,mg⟩ ⟨H,F,some T,fun cls d _ H=>E cls d H,some q,some T⟩ F (st0 N.length ds) (L2.start N vs) H:=relT fh hd (by omega) ⟨hF,hT,trivial,fun pos cv h=>by cases h⟩
 obtain ⟨st',hg,_⟩:=law ds _ ((DpAll_len hd).symm.trans hl) hm
 have hg:g (st0 N.length ds)=some (.ret (.val (.bool true)),st'):=by
  rcases hg with hg | ⟨hg,z⟩
  ·exact hg
  ·cases z
 exact ⟨F,_,_,R0,hg,fun v σ' H' F' s1 R1 ok=>qq v H' (dp_bl ok)⟩
end
end Xm
namespace Xm
open PySem PySem.Spec PyProof.Rows L2 LamX
section
variable {P:Program} {w:World} {K:PySem.W.Frag} {mg:Str→Option Value} {base:Heap} {CX:CXT} {k n:Nat} {f T:Addr} {fd:FuncData} {N:List Str} {dvs:List V}
end
section
variable {N:List Str} {W:WX}
end
section
variable {P:Program} {w:World} {K:PySem.W.Frag} {mg:Str→Option Value} {base:Heap} {CX:CXT} {k n:Nat} {f T:Addr} {fd:FuncData} {N:List Str} {dvs:List V}
end
section
variable {K:Kx} {C:Ct} {σ:L2.St} {F H F' H':Hp} {st:AS} {T p:Addr} {q:Str} {ps ps':Array Value} {us us':List V} {xs ys:List D}
end
section
variable {K:Kx} {C:Ct} {σ:L2.St} {H:Hp} {Q:VK} {E:XK} {g:LF} {mq:List D→List D→Option (RV × List D)} {n:Nat} {T:Addr} {q0:Str}
end
section
variable {X:Cx} {C:Ct} {j k n m:Nat} {x:Str} {p pos:Pos} {e:Expr} {es:List Expr} {g:LF} {mq:List D→List D→Option (RV × List D)} {T:Addr} {q:Str}
end
end Xm
namespace K78
open PySem PySem.Spec PyProof.Rows L2 Xm
open DwC (g_law_pen mf_law_pen e_law_pen g_law_draw mq_law_draw e_law_draw)
open DwD (g_is_whole mf_is_whole e_is_whole)
open K07 (g_is_share mf_is_share e_is_share)
open K79 (g_show_share mf_show_share e_show_share g_law_reduced mf_law_reduced e_law_reduced g_law_writ mf_law_writ e_law_writ)
def topS (i:Nat):Stmt:=PySem.Challenge.pw_crossmarks_k78_shares_written_and_read.main.body.getD i (.Pass ⟨0,0,0,0⟩)
section
variable {P:Program} {w:World} {K:PySem.W.Frag} {mg:Str→Option Value} {base:Heap} {f:Addr} {fd:FuncData}
abbrev st_NoText:Stmt:=clsM (topS 5) 0
theorem scI_NoText:FnScope ["self", "at"] ["self", "at"] (defScope st_NoText):=⟨rfl,rfl,rfl,by decide +kernel,rfl,by decide +kernel,by decide +kernel⟩
theorem wI_NoText {fI C CB:Addr} {dV kV doc pm cdv ct oc:Value} {an od:Option Addr} {osl:Array (Option Value)} (T:L2.OexC K C) (hno:PySem.W.findIn K (.ref C) "at" = some none) (hmB:mg "CrossError" = some (.ref CB)) (gaB:PySem.W.specialIn K (.ref CB) "__getattribute__" = some (some (.builtin "type.__getattribute__"))) (rdB:PySem.W.readsIn K CB (.type "type")=true) (vB:PySem.W.findCls K (.ref CB) (.type "type") "__init__" = some (.val (.builtin "ValueError.__init__"))) (lk:K.lookup fI=some ⟨oc,od,.func (PySem.W.fnOf "__init__" "NoText.__init__" (defArgs st_NoText) (defBody st_NoText) (defScope st_NoText) dV kV doc pm an cdv ct),osl⟩) (hcd:PySem.W.codeIn K cdv "NoText.__init__" = true):FnOk P w K mg base (CXM P w) 1 fI (PySem.W.fnOf "__init__" "NoText.__init__" (defArgs st_NoText) (defBody st_NoText) (defScope st_NoText) dV kV doc pm an cdv ct) ["self", "at"] (spI C "at"):=
 initOkC (m := "no such text") (k:=0) T hno lk hcd scI_NoText fun A outer s H E=>pss_cons (ps_expr (pe_cinit (n := "CrossError") rfl hmB gaB rdB vB (pa_cons (pv 0) (pa_cons pe_str pa_nil)))) (pss_one (ps_ost (pv 0) (pv 1)))
abbrev s_is_whole:Stmt:=topS 9
theorem sc_is_whole:FnScope ["thing"] ["thing"] (defScope s_is_whole):=⟨rfl,rfl,rfl,by decide +kernel,rfl,by decide +kernel,by decide +kernel⟩
theorem w_is_whole (T:Dn K "is_whole" s_is_whole [] f fd) (b_bool:mg "bool" = none) (b_int:mg "int" = none) (b_isinstance:mg "isinstance" = none):FnG P w K mg base (CXM P w) 1 f fd ["thing"] (spP ⟨K,P,w,mg⟩ 1 mf_is_whole):=
 defP g_is_whole T sc_is_whole rfl (by decide) e_is_whole fun C cdv A outer s H E room guards=>
  (xs_one (xs_ret (xd_and (xd_isa isa_int (by decide +kernel) b_isinstance b_int (xd_rd (pv 0))) (xd_one (xd_not (xd_isa isa_bool (by decide +kernel) b_isinstance b_bool (xd_rd (pv 0))))))))
abbrev s_common:Stmt:=topS 10
theorem sc_common:FnScope ["one", "other"] ["one", "other"] (defScope s_common):=⟨rfl,rfl,rfl,by decide +kernel,rfl,by decide +kernel,by decide +kernel⟩
theorem w_common (T:Dn K "common" s_common [] f fd) (b_abs:mg "abs" = none):FnG P w K mg base (CXM P w) 1 f fd ["one", "other"] (spP ⟨K,P,w,mg⟩ 2 mf_common):=
 defP g_common T sc_common rfl (by decide) e_common fun C cdv A outer s H E room guards=>
  (xs_cons (xs_par2 sc_common.nd (xa_cons (xd_abs b_abs (xd_rd (pv 0))) (xa_cons (xd_abs b_abs (xd_rd (pv 1))) xa_nil)) rfl rfl (by decide) rfl rfl (by rfl)) (xs_cons (xs_while ms_common PassesOwn.never (xt_ne room.units (xd_rd (pv 1)) xd_int) (xs_one (xs_par2 sc_common.nd (xa_cons (xd_rd (pv 1)) (xa_cons (xd_mod (xd_rd (pv 0)) (xd_rd (pv 1))) xa_nil)) rfl rfl (by decide) rfl rfl (by rfl)))) (xs_one (xs_ret (xd_rd (pv 0))))))
abbrev s_show_share:Stmt:=topS 13
theorem sc_show_share:FnScope ["share", "top", "bottom"] ["share"] (defScope s_show_share):=⟨rfl,rfl,rfl,by decide +kernel,rfl,by decide +kernel,by decide +kernel⟩
theorem w_show_share (T:Dn K "show_share" s_show_share [] f fd) (b_str:mg "str" = none):FnG P w K mg base (CXM P w) 1 f fd ["share"] (spP ⟨K,P,w,mg⟩ 1 mf_show_share):=
 defP g_show_share T sc_show_share rfl (by decide) e_show_share fun C cdv A outer s H E room guards=>
  (xs_cons (xs_asg (xd_rd (pv 0)) (xg_unp (xg_cons (xg_name sc_show_share.nd rfl (.inl rfl)) (xg_cons (xg_name sc_show_share.nd rfl (.inl rfl)) xg_nil)))) (xs_one (xs_ret (xd_if (xt_eq room.units (xd_rd (pv 2)) xd_int) (xd_strA b_str (xd_rd (pv 1))) (xd_js (.cons (fun _=>(xd_fmt (xd_rd (pv 1)))) (.cons (fun _=>xd_str) (.cons (fun _=>(xd_fmt (xd_rd (pv 2)))) .nil))))))))
abbrev s_number_in:Stmt:=topS 18
theorem sc_number_in:FnScope ["word", "figures", "sign"] ["word"] (defScope s_number_in):=⟨rfl,rfl,rfl,by decide +kernel,rfl,by decide +kernel,by decide +kernel⟩
theorem w_number_in (T:Dn K "number_in" s_number_in [] f fd) (b_all:mg "all" = none) (b_int:mg "int" = none) (b_len:mg "len" = none) (b_str:mg "str" = none) (g_FIGURES:GlobD K mg "FIGURES" (.str (PySem.Str.ofString "0123456789"))) (g_MOST_FIGURES:GlobD K mg "MOST_FIGURES" (.int 12)):FnG P w K mg base (CXM P w) 1 f fd ["word"] (spP ⟨K,P,w,mg⟩ 1 mf_number_in):=
 defP g_number_in T sc_number_in rfl (by decide) e_number_in fun C cdv A outer s H E room guards=>
  (xs_cons (xs_set sc_number_in.nd (xd_if (xt_val (xd_starts (xd_rd (pv 0)) xd_str)) (xd_sliceS (xd_rd (pv 0)) (xo_some xd_int) xo_none) (xd_rd (pv 0))) rfl (.inl rfl)) (xs_cons (xs_if (xt_w (xw_or (xt_not (xt_lele xd_int (xd_lenX b_len (xd_rd (pv 1))) (xd_glob g_MOST_FIGURES))) (xw_or1 (xt_not (xt_val (xd_all rfl b_all (xd_new (xn_lc sc_number_in.nd (xi_str (xd_rd (pv 1))) (blkOk_by (N:=["word", "figures", "sign"]) (sc:=defScope s_number_in) (own:=[("sign", 2)]) (by decide +kernel)) (fun _ _ _ _ _ _=>(xg_name sc_number_in.nd rfl (.inl rfl))) (fun _ _ _ _ _ _=>xts_nil) (fun _ _ _ _ _ _=>(xd_inS (xd_rd (pv 2)) (xd_glob g_FIGURES))))))))))) (xs_one (xs_ret xd_non)) xs_nil) (xs_one (xs_ret (xd_if (xt_eq room.units (xd_strA b_str (xd_intS b_int (xd_rd (pv 0)))) (xd_rd (pv 0))) (xd_intS b_int (xd_rd (pv 0))) xd_non)))))
abbrev s_law_pen:Stmt:=topS 22
theorem sc_law_pen:FnScope ["_law_script"] ["_law_script"] (defScope s_law_pen):=⟨rfl,rfl,rfl,by decide +kernel,rfl,by decide +kernel,by decide +kernel⟩
theorem w_law_pen (T:Dn K "_law_pen" s_law_pen [] f fd):FnG P w K mg base (CXM P w) 1 f fd ["_law_script"] (spP ⟨K,P,w,mg⟩ 1 mf_law_pen):=
 defP g_law_pen T sc_law_pen rfl (by decide) e_law_pen fun C cdv A outer s H E room guards=>
  (xs_one (xs_retN (xn_lst (xa_cons (xd_slice (xd_rd (pv 0)) xo_none (xo_some xd_int)) (xa_cons xd_int (xa_cons xd_int xa_nil))))))
abbrev s_law_draw:Stmt:=topS 23
theorem sc_law_draw:FnScope ["_law_pen_here", "_law_many", "_law_here", "_law_cell", "_law_low", "_law_stirred", "_law_digit"] ["_law_pen_here", "_law_many"] (defScope s_law_draw):=⟨rfl,rfl,rfl,by decide +kernel,rfl,by decide +kernel,by decide +kernel⟩
theorem w_law_draw (T:Dn K "_law_draw" s_law_draw [] f fd) (b_abs:mg "abs" = none) (b_len:mg "len" = none):FnG P w K mg base (CXM P w) 1 f fd ["_law_pen_here", "_law_many"] (spQ ⟨K,P,w,mg⟩ 2 mq_law_draw):=
 defQ g_law_draw T sc_law_draw rfl (by decide) e_law_draw fun C cdv A outer s H E room guards=>
  (xs_cons (xs_if (xt_gt (xd_itemM (pv 0) xd_int) xd_int) (xs_cons (xs_set sc_law_draw.nd (xd_mod (xd_itemM (pv 0) xd_int) (xd_rd (pv 1))) rfl (.inl rfl)) (xs_cons (xs_setItem (pv 0) xd_int (xd_div (xd_itemM (pv 0) xd_int) (xd_rd (pv 1)))) (xs_one (xs_ret (xd_rd (pv 6)))))) xs_nil) (xs_cons (xs_set sc_law_draw.nd (xd_itemM (pv 0) xd_int) rfl (.inl rfl)) (xs_cons (xs_setItem (pv 0) xd_int (xd_cat (xd_rd (pv 2)) xd_int)) (xs_cons (xs_set sc_law_draw.nd (xd_cat (xd_mul xd_int (xd_rd (pv 2))) xd_int) rfl (.inl rfl)) (xs_cons (xs_if (xt_gt (xd_len b_len (xd_itemM (pv 0) xd_int)) xd_int) (xs_one (xs_set sc_law_draw.nd (xd_item (Room.u65 room) (xd_itemM (pv 0) xd_int) (xd_mod (xd_rd (pv 2)) (xd_len b_len (xd_itemM (pv 0) xd_int)))) rfl (.inl rfl))) xs_nil) (xs_cons (xs_if (xt_w (xw_and (xt_lt (xd_rd (pv 2)) (xd_len b_len (xd_itemM (pv 0) xd_int))) (xw_and1 (xt_ge (xd_abs b_abs (xd_rd (pv 3))) (xd_pow xd_int xd_int))))) (xs_cons (xs_setItem (pv 0) xd_int (xd_div (xd_abs b_abs (xd_rd (pv 3))) (xd_rd (pv 1)))) (xs_one (xs_ret (xd_mod (xd_abs b_abs (xd_rd (pv 3))) (xd_rd (pv 1)))))) xs_nil) (xs_cons (xs_set sc_law_draw.nd (xd_cat (xd_cat (xd_cat (xd_mod (xd_rd (pv 3)) xd_int) (xd_mul (xd_mul xd_int (xd_rd (pv 2))) (xd_rd (pv 2)))) (xd_mul xd_int (xd_rd (pv 2)))) xd_int) rfl (.inl rfl)) (xs_cons (xs_set sc_law_draw.nd (xd_mod (xd_pow (xd_rd (pv 4)) xd_int) xd_int) rfl (.inl rfl)) (xs_cons (xs_set sc_law_draw.nd (xd_mod (xd_mul (xd_pow (xd_cat (xd_cat (xd_rd (pv 5)) (xd_mul xd_int (xd_rd (pv 2)))) xd_int) xd_int) (xd_cat (xd_mod (xd_rd (pv 5)) xd_int) xd_int)) xd_int) rfl (.inl rfl)) (xs_one (xs_ret (xd_mod (xd_div (xd_rd (pv 5)) xd_int) (xd_rd (pv 1))))))))))))))
abbrev s_law_reduced:Stmt:=topS 25
theorem sc_law_reduced:FnScope ["_law_up", "_law_down", "_law_one", "_law_two"] ["_law_up", "_law_down"] (defScope s_law_reduced):=⟨rfl,rfl,rfl,by decide +kernel,rfl,by decide +kernel,by decide +kernel⟩
theorem w_law_reduced (T:Dn K "_law_reduced" s_law_reduced [] f fd) (b_abs:mg "abs" = none):FnG P w K mg base (CXM P w) 1 f fd ["_law_up", "_law_down"] (spP ⟨K,P,w,mg⟩ 2 mf_law_reduced):=
 defP g_law_reduced T sc_law_reduced rfl (by decide) e_law_reduced fun C cdv A outer s H E room guards=>
  (xs_cons (xs_par2 sc_law_reduced.nd (xa_cons (xd_abs b_abs (xd_rd (pv 0))) (xa_cons (xd_rd (pv 1)) xa_nil)) rfl rfl (by decide) rfl rfl (by rfl)) (xs_cons (xs_clr [3] (xs_while msAll PassesOwn.never (xt_ne room.units (xd_rd (pv 3)) xd_int) (xs_one (xs_par2 sc_law_reduced.nd (xa_cons (xd_rd (pv 3)) (xa_cons (xd_mod (xd_rd (pv 2)) (xd_rd (pv 3))) xa_nil)) rfl rfl (by decide) rfl rfl (by rfl))))) (xs_one (xs_ret (xd_tup (xa_cons (xd_div (xd_rd (pv 0)) (xd_rd (pv 2))) (xa_cons (xd_div (xd_rd (pv 1)) (xd_rd (pv 2))) xa_nil)))))))
abbrev s_law_writ:Stmt:=topS 27
theorem sc_law_writ:FnScope ["_law_share_so"] ["_law_share_so"] (defScope s_law_writ):=⟨rfl,rfl,rfl,by decide +kernel,rfl,by decide +kernel,by decide +kernel⟩
theorem w_law_writ (T:Dn K "_law_writ" s_law_writ [] f fd) (b_str:mg "str" = none):FnG P w K mg base (CXM P w) 1 f fd ["_law_share_so"] (spP ⟨K,P,w,mg⟩ 1 mf_law_writ):=
 defP g_law_writ T sc_law_writ rfl (by decide) e_law_writ fun C cdv A outer s H E room guards=>
  (xs_cons (xs_if (xt_eq room.units (xd_item (Room.u65 room) (xd_rd (pv 0)) xd_int) xd_int) (xs_one (xs_ret (xd_strA b_str (xd_item (Room.u65 room) (xd_rd (pv 0)) xd_int)))) xs_nil) (xs_one (xs_ret (xd_catS (xd_catS (xd_strA b_str (xd_item (Room.u65 room) (xd_rd (pv 0)) xd_int)) xd_str) (xd_strA b_str (xd_item (Room.u65 room) (xd_rd (pv 0)) xd_int))))))
abbrev s_law_number_in:Stmt:=topS 28
theorem sc_law_number_in:FnScope ["_law_word", "_law_figures", "_law_sign"] ["_law_word"] (defScope s_law_number_in):=⟨rfl,rfl,rfl,by decide +kernel,rfl,by decide +kernel,by decide +kernel⟩
theorem w_law_number_in (T:Dn K "_law_number_in" s_law_number_in [] f fd) (b_int:mg "int" = none) (b_len:mg "len" = none) (b_str:mg "str" = none):FnG P w K mg base (CXM P w) 1 f fd ["_law_word"] (spP ⟨K,P,w,mg⟩ 1 mf_law_number_in):=
 defP g_law_number_in T sc_law_number_in rfl (by decide) e_law_number_in fun C cdv A outer s H E room guards=>
  (xs_cons (xs_set sc_law_number_in.nd (xd_sliceS (xd_rd (pv 0)) (xo_some (xd_toint b_int (xd_eq room.units (xd_sliceS (xd_rd (pv 0)) xo_none (xo_some xd_int)) xd_str))) xo_none) rfl (.inl rfl)) (xs_cons (xs_if (xt_w (xw_or (xt_not (xt_lele xd_int (xd_lenX b_len (xd_rd (pv 1))) xd_int)) (xw_or1 (xt_neL0 (Room.u65 room) (xd_new (xn_lc sc_law_number_in.nd (xi_str (xd_rd (pv 1))) (blkOk_by (N:=["_law_word", "_law_figures", "_law_sign"]) (sc:=defScope s_law_number_in) (own:=[("_law_sign", 2)]) (by decide +kernel)) (fun _ _ _ _ _ _=>(xg_name sc_law_number_in.nd rfl (.inl rfl))) (fun _ _ _ _ _ _=>(xts_one (xt_notInS (xd_rd (pv 2)) xd_str))) (fun _ _ _ _ _ _=>(xd_rd (pv 2))))) (xd_lst xa_nil))))) (xs_one (xs_ret xd_non)) xs_nil) (xs_cons (xs_if (xt_ne room.units (xd_strA b_str (xd_intS b_int (xd_rd (pv 0)))) (xd_rd (pv 0))) (xs_one (xs_ret xd_non)) xs_nil) (xs_one (xs_ret (xd_intS b_int (xd_rd (pv 0))))))))
abbrev s_law_heard:Stmt:=topS 31
theorem sc_law_heard:FnScope ["_law_call", "_law_found", "_law_caught", "e"] ["_law_call"] (defScope s_law_heard):=⟨rfl,rfl,rfl,by decide +kernel,rfl,by decide +kernel,by decide +kernel⟩
theorem w_law_heard {C_CrossError:Addr} {C_NoCase:Addr} {C_NoOrder:Addr} {C_NoShare:Addr} {C_NoText:Addr} {C_NoThing:Addr} {C_NoWeight:Addr} (T:Dn K "_law_heard" s_law_heard [] f fd) (b_isinstance:mg "isinstance" = none) (x_CrossError:ExC K mg "CrossError" C_CrossError [.type "ValueError", .type "Exception", .type "BaseException", .type "object"] "ValueError.__new__") (x_NoCase:ClsG mg "NoCase" C_NoCase) (x_NoOrder:ExC K mg "NoOrder" C_NoOrder [.type "ValueError", .type "Exception", .type "BaseException", .type "object"] "ValueError.__new__") (x_NoShare:ExC K mg "NoShare" C_NoShare [.type "ZeroDivisionError", .type "ArithmeticError", .type "Exception", .type "BaseException", .type "object"] "ZeroDivisionError.__new__") (x_NoText:ClsG mg "NoText" C_NoText) (x_NoThing:ClsG mg "NoThing" C_NoThing) (x_NoWeight:ExC K mg "NoWeight" C_NoWeight [.type "ValueError", .type "Exception", .type "BaseException", .type "object"] "ValueError.__new__") (xm_NoText_CrossError:PySem.W.exmOne K (.ref C_NoText) (.ref C_CrossError)=some true) (xm_NoText_NoShare:PySem.W.exmOne K (.ref C_NoText) (.ref C_NoShare)=some false) (xm_NoText_NoThing:PySem.W.exmOne K (.ref C_NoText) (.ref C_NoThing)=some false) (xe_NoText:ExcC K C_NoText) (fF_NoText_at:PySem.W.findIn K (.ref C_NoText) "at" = some none) (kO_NoText_NoText:PySem.W.kitOne K (.ref C_NoText) (.ref C_NoText)=some true) (kT_NoText_NoCase_NoOrder_NoWeight_NoShare_NoThing:PySem.W.kitAny K (.ref C_NoText) [(.ref C_NoCase),(.ref C_NoOrder),(.ref C_NoWeight),(.ref C_NoShare),(.ref C_NoThing)]=some false) (hmx:mg "_law_heard" = some (.ref f)) (hkp:PySem.W.keepIn K (.ref f)=true) (hbi:Binds K fd ["_law_call"] []):Heard P w K mg base 1 "_law_heard" mf_law_heard:=
 ⟨⟨f,fd,s_law_heard, "_law_call", ["_law_call", "_law_found", "_law_caught", "e"],g_law_heard,T,sc_law_heard,hmx,hkp,hbi,rfl,(by first | exact .inl rfl | exact .inr (.inl rfl)),(by decide),(by decide),mfH_ok,fun f r0 C cdv A outer s H room guards act hW=>
  (xs_cons (xs_set sc_law_heard.nd xd_non rfl (.inl rfl)) (xs_cons (xs_set sc_law_heard.nd xd_non rfl (.inl rfl)) (xs_cons (xs_tryK (by decide) rfl rfl rfl sc_law_heard.nd rfl rfl (test3 ⟨rfl,by decide,.inl x_CrossError.mg⟩ ⟨rfl,by decide,.inl x_NoShare.mg⟩ ⟨rfl,by decide,.inl x_NoThing.mg⟩) (cx_takes hW) (ct1_T x_NoText.mg (exm3 xm_NoText_CrossError xm_NoText_NoShare xm_NoText_NoThing)) (fun W pn xe tk1 ps1=>(xs_one (xs_setX sc_law_heard.nd (act W pn xe tk1 { C with W:=W } rfl rfl _ _) rfl (.inl rfl)))) (fun a oe pn=>(asgV_ok (ps_set sc_law_heard.nd rfl (.inl rfl) (pv 3))))) (xs_cons (xs_if (xt_nonX (pv 2) pe_non) (xs_one (xs_retN (xn_lst (xa_cons (xd_rd (pv 1)) xa_nil)))) xs_nil) (xs_cons (xs_if (xt_w (xw_or (xt_not (xt_val (xd_isaX1 b_isinstance (pv 2) (pe_glob (v:=.ref C_NoText) rfl x_NoText.mg rfl) (.own _) (ctOk1 x_NoText.mg xe_NoText kO_NoText_NoText)))) (xw_or1 (xt_val (xd_isaXT b_isinstance (pv 2) (pa_cs (pe_glob (v:=.ref C_NoCase) rfl x_NoCase.mg rfl) (pa_cs (pe_glob (v:=.ref C_NoOrder) rfl x_NoOrder.mg rfl) (pa_cs (pe_glob (v:=.ref C_NoWeight) rfl x_NoWeight.mg rfl) (pa_cs (pe_glob (v:=.ref C_NoShare) rfl x_NoShare.mg rfl) (pa_cs (pe_glob (v:=.ref C_NoThing) rfl x_NoThing.mg rfl) pa_nil))))) (by simp) (.cons (.own _) (.cons (.own _) (.cons (.own _) (.cons (.own _) (.cons (.own _) .nil))))) (ctOk1 x_NoText.mg xe_NoText kT_NoText_NoCase_NoOrder_NoWeight_NoShare_NoThing)))))) (xs_one (xs_ret (xd_tup (xa_cons xd_str xa_nil)))) xs_nil) (xs_one (xs_ret (xd_tup (xa_cons (xd_fldX (fldOk1 x_NoText.mg (Xm.ExcC.xf xe_NoText) fF_NoText_at) (pv 2)) xa_nil)))))))))⟩⟩
abbrev s_is_share:Stmt:=topS 11
theorem sc_is_share:FnScope ["thing"] ["thing"] (defScope s_is_share):=⟨rfl,rfl,rfl,by decide +kernel,rfl,by decide +kernel,by decide +kernel⟩
theorem w_is_share (T:Dn K "is_share" s_is_share [] f fd) (b_isinstance:mg "isinstance" = none) (b_len:mg "len" = none) (b_tuple:mg "tuple" = none) (h_is_whole:Has P w K mg base 1 "is_whole" 1 [] mf_is_whole) (h_common:Has P w K mg base 1 "common" 2 [] mf_common):FnG P w K mg base (CXM P w) 2 f fd ["thing"] (spP ⟨K,P,w,mg⟩ 1 mf_is_share):=
 defP g_is_share T sc_is_share rfl (by decide) e_is_share fun C cdv A outer s H E room guards=>
  (xs_cons (xs_if (xt_w (xw_or (xt_not (xt_val (xd_isa isa_tuple (by decide +kernel) b_isinstance b_tuple (xd_rd (pv 0))))) (xw_or (xt_ne room.units (xd_len b_len (xd_rd (pv 0))) xd_int) (xw_or (xt_not (xt_val (xd_call h_is_whole room guards (by decide) (xa_cons (xd_item (Room.u65 room) (xd_rd (pv 0)) xd_int) xa_nil) (ar_cons ar_nil)))) (xw_or1 (xt_not (xt_val (xd_call h_is_whole room guards (by decide) (xa_cons (xd_item (Room.u65 room) (xd_rd (pv 0)) xd_int) xa_nil) (ar_cons ar_nil))))))))) (xs_one (xs_ret xd_bl)) xs_nil) (xs_one (xs_ret (xd_and (xd_gt (xd_item (Room.u65 room) (xd_rd (pv 0)) xd_int) xd_int) (xd_one (xd_eq room.units (xd_call h_common room guards (by decide) (xa_cons (xd_item (Room.u65 room) (xd_rd (pv 0)) xd_int) (xa_cons (xd_item (Room.u65 room) (xd_rd (pv 0)) xd_int) xa_nil)) (ar_cons (ar_cons ar_nil))) xd_int))))))
abbrev s_law_pick:Stmt:=topS 24
theorem sc_law_pick:FnScope ["_law_pen_here", "_law_some"] ["_law_pen_here", "_law_some"] (defScope s_law_pick):=⟨rfl,rfl,rfl,by decide +kernel,rfl,by decide +kernel,by decide +kernel⟩
theorem w_law_pick (T:Dn K "_law_pick" s_law_pick [] f fd) (b_len:mg "len" = none) (h_law_draw:HasQ P w K mg base 1 "_law_draw" 2 mq_law_draw):FnG P w K mg base (CXM P w) 2 f fd ["_law_pen_here", "_law_some"] (spQ ⟨K,P,w,mg⟩ 2 mq_law_pick):=
 defQ g_law_pick T sc_law_pick rfl (by decide) e_law_pick fun C cdv A outer s H E room guards=>
  (xs_one (xs_ret (xd_itemX (Room.u65 room) (xd_rd (pv 1)) (xd_callM h_law_draw room guards (by decide) (pv 0) (xa_cons (xd_lenX b_len (xd_rd (pv 1))) xa_nil) (ar_cons ar_nil)))))
abbrev s_law_share_in:Stmt:=topS 29
theorem sc_law_share_in:FnScope ["_law_word", "_law_pieces", "_law_numbers", "_law_found", "_law_one"] ["_law_word"] (defScope s_law_share_in):=⟨rfl,rfl,rfl,by decide +kernel,rfl,by decide +kernel,by decide +kernel⟩
theorem w_law_share_in (T:Dn K "_law_share_in" s_law_share_in [] f fd) (b_int:mg "int" = none) (b_len:mg "len" = none) (h_law_number_in:Has P w K mg base 1 "_law_number_in" 1 [] mf_law_number_in) (h_law_reduced:Has P w K mg base 1 "_law_reduced" 2 [] mf_law_reduced) (h_law_writ:Has P w K mg base 1 "_law_writ" 1 [] mf_law_writ):FnG P w K mg base (CXM P w) 2 f fd ["_law_word"] (spP ⟨K,P,w,mg⟩ 1 mf_law_share_in):=
 defP g_law_share_in T sc_law_share_in rfl (by decide) e_law_share_in fun C cdv A outer s H E room guards=>
  (xs_cons (xs_set sc_law_share_in.nd (xd_split (xd_rd (pv 0)) xd_str) rfl (.inl rfl)) (xs_cons (xs_setLcD sc_law_share_in.nd (xi_seq (xd_rd (pv 1))) (blkOk_by (N:=["_law_word", "_law_pieces", "_law_numbers", "_law_found", "_law_one"]) (sc:=defScope s_law_share_in) (own:=[("_law_one", 4)]) (by decide +kernel)) (fun _ _ _ _ _ _=>(xg_name sc_law_share_in.nd rfl (.inl rfl))) (fun _ _ _ _ _ _=>xts_nil) (fun _ _ _ _ _ _=>(xd_call h_law_number_in room guards (by decide) (xa_cons (xd_rd (pv 4)) xa_nil) (ar_cons ar_nil))) rfl rfl (sw_true rfl rfl rfl (by decide +kernel))) (xs_cons (xs_if (xt_w (xw_or (xt_gt (xd_len b_len (xd_rd (pv 1))) xd_int) (xw_or (xt_in (Room.u65 room) xd_non (xd_rd (pv 2))) (xw_or1 (xt_w (xw_and (xt_eq room.units (xd_len b_len (xd_rd (pv 1))) xd_int) (xw_and1 (xt_lt (xd_item (Room.u65 room) (xd_rd (pv 2)) xd_int) xd_int)))))))) (xs_one (xs_ret xd_non)) xs_nil) (xs_cons (xs_set sc_law_share_in.nd (xd_call h_law_reduced room guards (by decide) (xa_cons (xd_item (Room.u65 room) (xd_rd (pv 2)) xd_int) (xa_cons (xd_item (Room.u65 room) (xd_cat (xd_rd (pv 2)) (xd_lst (xa_cons xd_int xa_nil))) xd_int) xa_nil)) (ar_cons (ar_cons ar_nil))) rfl (.inl rfl)) (xs_one (xs_ret (xd_item (Room.u65 room) (xd_lst (xa_cons xd_non (xa_cons (xd_rd (pv 3)) xa_nil))) (xd_toint b_int (xd_eq room.units (xd_call h_law_writ room guards (by decide) (xa_cons (xd_rd (pv 3)) xa_nil) (ar_cons ar_nil)) (xd_rd (pv 0)))))))))))
abbrev s_need:Stmt:=topS 17
theorem sc_need:FnScope ["truth", "at"] ["truth", "at"] (defScope s_need):=⟨rfl,rfl,rfl,by decide +kernel,rfl,by decide +kernel,by decide +kernel⟩
theorem w_need {C_NoText:Addr} (T:Dn K "need" s_need [.non] f fd) (x_NoText:ClsG mg "NoText" C_NoText) {fI_NoText:Addr} {fd_NoText:FuncData} (o_NoText:L2.OexC K C_NoText) (iC_NoText:PySem.W.findIn K (.ref C_NoText) "__init__" = some (some (.ref fI_NoText))) (tI_NoText:PySem.W.typeIn K (.ref fI_NoText)=some (.type "function")) (F_NoText:FnOk P w K mg base (CXM P w) 1 fI_NoText fd_NoText ["self", "at"] (spI C_NoText "at")) (bI_NoText:Binds K fd_NoText ["self", "at"] []):FnG P w K mg base (CXM P w) 3 f fd ["truth", "at"] (spP ⟨K,P,w,mg⟩ 2 mf_need):=
 defX g_need T sc_need rfl (by decide) e_need fun C cdv A outer s H E hW room guards=>
  (xs_one (xs_if (xt_not (xt_val (xd_rd (pv 0)))) (xs_one (xs_raiseC rfl (cx_takes hW) o_NoText x_NoText.mg iC_NoText tI_NoText F_NoText room (by decide) bI_NoText (xd_rd (pv 1)))) xs_nil))
abbrev s_share_in:Stmt:=topS 19
theorem sc_share_in:FnScope ["word", "found", "first", "stroke", "second"] ["word"] (defScope s_share_in):=⟨rfl,rfl,rfl,by decide +kernel,rfl,by decide +kernel,by decide +kernel⟩
theorem w_share_in (T:Dn K "share_in" s_share_in [] f fd) (h_number_in:Has P w K mg base 1 "number_in" 1 [] mf_number_in) (h_is_share:Has P w K mg base 2 "is_share" 1 [] mf_is_share) (h_show_share:Has P w K mg base 1 "show_share" 1 [] mf_show_share):FnG P w K mg base (CXM P w) 3 f fd ["word"] (spP ⟨K,P,w,mg⟩ 1 mf_share_in):=
 defP g_share_in T sc_share_in rfl (by decide) e_share_in fun C cdv A outer s H E room guards=>
  (xs_cons (xs_asg (xd_part (xd_rd (pv 0)) xd_str) (xg_unp (xg_cons (xg_name sc_share_in.nd rfl (.inl rfl)) (xg_cons (xg_name sc_share_in.nd rfl (.inl rfl)) (xg_cons (xg_name sc_share_in.nd rfl (.inl rfl)) xg_nil))))) (xs_cons (xs_set sc_share_in.nd (xd_tup (xa_cons (xd_call h_number_in room guards (by decide) (xa_cons (xd_rd (pv 2)) xa_nil) (ar_cons ar_nil)) (xa_cons (xd_if (xt_eq room.units (xd_rd (pv 3)) xd_str) xd_int (xd_call h_number_in room guards (by decide) (xa_cons (xd_rd (pv 4)) xa_nil) (ar_cons ar_nil))) xa_nil))) rfl (.inl rfl)) (xs_one (xs_ret (xd_if (xt_w (xw_and (xt_val (xd_call h_is_share room guards (by decide) (xa_cons (xd_rd (pv 1)) xa_nil) (ar_cons ar_nil))) (xw_and1 (xt_eq room.units (xd_call h_show_share room guards (by decide) (xa_cons (xd_rd (pv 1)) xa_nil) (ar_cons ar_nil)) (xd_rd (pv 0)))))) (xd_rd (pv 1)) xd_non)))))
abbrev s_law_any:Stmt:=topS 26
theorem sc_law_any:FnScope ["_law_pen_here", "_law_figures_so", "_law_up"] ["_law_pen_here"] (defScope s_law_any):=⟨rfl,rfl,rfl,by decide +kernel,rfl,by decide +kernel,by decide +kernel⟩
theorem w_law_any (T:Dn K "_law_any" s_law_any [] f fd) (b_max:mg "max" = none) (h_law_draw:HasQ P w K mg base 1 "_law_draw" 2 mq_law_draw) (h_law_pick:HasQ P w K mg base 2 "_law_pick" 2 mq_law_pick) (h_law_reduced:Has P w K mg base 1 "_law_reduced" 2 [] mf_law_reduced):FnG P w K mg base (CXM P w) 3 f fd ["_law_pen_here"] (spQ ⟨K,P,w,mg⟩ 1 mq_law_any):=
 defQ g_law_any T sc_law_any rfl (by decide) e_law_any fun C cdv A outer s H E room guards=>
  (xs_cons (xs_set sc_law_any.nd (xd_cat (xd_mul (xd_callM h_law_draw room guards (by decide) (pv 0) (xa_cons (xd_pow xd_int xd_int) xa_nil) (ar_cons ar_nil)) (xd_pow xd_int xd_int)) (xd_callM h_law_draw room guards (by decide) (pv 0) (xa_cons (xd_pow xd_int xd_int) xa_nil) (ar_cons ar_nil))) rfl (.inl rfl)) (xs_cons (xs_set sc_law_any.nd (xd_callM h_law_pick room guards (by decide) (pv 0) (xa_cons (xd_lst (xa_cons xd_int (xa_cons xd_int (xa_cons (xd_neg xd_int) (xa_cons (xd_sub (xd_callM h_law_draw room guards (by decide) (pv 0) (xa_cons xd_int xa_nil) (ar_cons ar_nil)) xd_int) (xa_cons (xd_rd (pv 1)) (xa_cons (xd_sub xd_int (xd_rd (pv 1))) (xa_cons (xd_sub (xd_pow xd_int xd_int) xd_int) (xa_cons xd_int xa_nil))))))))) xa_nil) (ar_cons ar_nil)) rfl (.inl rfl)) (xs_one (xs_ret (xd_call h_law_reduced room guards (by decide) (xa_cons (xd_rd (pv 2)) (xa_cons (xd_callM h_law_pick room guards (by decide) (pv 0) (xa_cons (xd_lst (xa_cons xd_int (xa_cons xd_int (xa_cons xd_int (xa_cons (xd_cat xd_int (xd_callM h_law_draw room guards (by decide) (pv 0) (xa_cons xd_int xa_nil) (ar_cons ar_nil))) (xa_cons (xd_max2 rfl b_max (xa_cons xd_int (xa_cons (xd_rd (pv 1)) xa_nil))) (xa_cons (xd_sub (xd_pow xd_int xd_int) xd_int) xa_nil))))))) xa_nil) (ar_cons ar_nil)) xa_nil)) (ar_cons (ar_cons ar_nil)))))))
abbrev s_law_warped:Stmt:=topS 30
theorem sc_law_warped:FnScope ["_law_pen_here", "_law_writ_here", "_law_signs", "_law_at", "_law_sign", "_law_way", "_law_odd"] ["_law_pen_here", "_law_writ_here"] (defScope s_law_warped):=⟨rfl,rfl,rfl,by decide +kernel,rfl,by decide +kernel,by decide +kernel⟩
theorem w_law_warped (T:Dn K "_law_warped" s_law_warped [] f fd) (b_len:mg "len" = none) (h_law_draw:HasQ P w K mg base 1 "_law_draw" 2 mq_law_draw) (h_law_pick:HasQ P w K mg base 2 "_law_pick" 2 mq_law_pick):FnG P w K mg base (CXM P w) 3 f fd ["_law_pen_here", "_law_writ_here"] (spQ ⟨K,P,w,mg⟩ 2 mq_law_warped):=
 defQ g_law_warped T sc_law_warped rfl (by decide) e_law_warped fun C cdv A outer s H E room guards=>
  (xs_cons (xs_set sc_law_warped.nd xd_str rfl (.inl rfl)) (xs_cons (xs_set sc_law_warped.nd (xd_callM h_law_draw room guards (by decide) (pv 0) (xa_cons (xd_cat (xd_lenX b_len (xd_rd (pv 1))) xd_int) xa_nil) (ar_cons ar_nil)) rfl (.inl rfl)) (xs_cons (xs_set sc_law_warped.nd (xd_callM h_law_pick room guards (by decide) (pv 0) (xa_cons (xd_lst (xa_cons (xd_callM h_law_pick room guards (by decide) (pv 0) (xa_cons (xd_rd (pv 2)) xa_nil) (ar_cons ar_nil)) (xa_cons (xd_callM h_law_pick room guards (by decide) (pv 0) (xa_cons xd_str xa_nil) (ar_cons ar_nil)) xa_nil))) xa_nil) (ar_cons ar_nil)) rfl (.inl rfl)) (xs_cons (xs_set sc_law_warped.nd (xd_callM h_law_draw room guards (by decide) (pv 0) (xa_cons xd_int xa_nil) (ar_cons ar_nil)) rfl (.inl rfl)) (xs_cons (xs_if (xt_lt (xd_rd (pv 5)) xd_int) (xs_one (xs_ret (xd_catS (xd_catS (xd_sliceS (xd_rd (pv 1)) xo_none (xo_some (xd_rd (pv 3)))) (xd_rd (pv 4))) (xd_sliceS (xd_rd (pv 1)) (xo_some (xd_rd (pv 3))) xo_none)))) xs_nil) (xs_cons (xs_if (xt_lt (xd_rd (pv 5)) xd_int) (xs_one (xs_ret (xd_catS (xd_catS (xd_sliceS (xd_rd (pv 1)) xo_none (xo_some (xd_rd (pv 3)))) (xd_rd (pv 4))) (xd_sliceS (xd_rd (pv 1)) (xo_some (xd_cat (xd_rd (pv 3)) xd_int)) xo_none)))) xs_nil) (xs_cons (xs_if (xt_eq room.units (xd_rd (pv 5)) xd_int) (xs_one (xs_ret (xd_catS (xd_sliceS (xd_rd (pv 1)) xo_none (xo_some (xd_rd (pv 3)))) (xd_sliceS (xd_rd (pv 1)) (xo_some (xd_cat (xd_rd (pv 3)) xd_int)) xo_none)))) xs_nil) (xs_cons (xs_if (xt_eq room.units (xd_rd (pv 5)) xd_int) (xs_one (xs_ret (xd_catS (xd_catS (xd_sliceS (xd_rd (pv 1)) xo_none (xo_some (xd_rd (pv 3)))) (xd_revS (xd_sliceS (xd_rd (pv 1)) (xo_some (xd_rd (pv 3))) (xo_some (xd_cat (xd_rd (pv 3)) xd_int))))) (xd_sliceS (xd_rd (pv 1)) (xo_some (xd_cat (xd_rd (pv 3)) xd_int)) xo_none)))) xs_nil) (xs_cons (xs_if (xt_eq room.units (xd_rd (pv 5)) xd_int) (xs_one (xs_ret (xd_catS (xd_catS (xd_sliceS (xd_rd (pv 1)) xo_none (xo_some (xd_rd (pv 3)))) (xd_sliceS (xd_rd (pv 1)) (xo_some (xd_rd (pv 3))) (xo_some (xd_cat (xd_rd (pv 3)) xd_int)))) (xd_sliceS (xd_rd (pv 1)) (xo_some (xd_rd (pv 3))) xo_none)))) xs_nil) (xs_cons (xs_set sc_law_warped.nd (xd_lst (xa_cons xd_str (xa_cons xd_str (xa_cons xd_str (xa_cons xd_str (xa_cons xd_str (xa_cons xd_str (xa_cons xd_str (xa_cons xd_str (xa_cons xd_str (xa_cons xd_str (xa_cons xd_str (xa_cons xd_str (xa_cons xd_str (xa_cons (xd_mulS xd_str xd_int) xa_nil))))))))))))))) rfl (.inl rfl)) (xs_cons (xs_set sc_law_warped.nd (xd_cat (xd_rd (pv 6)) (xd_lst (xa_cons (xd_mulS xd_str xd_int) (xa_cons xd_str xa_nil)))) rfl (.inl rfl)) (xs_one (xs_ret (xd_catS (xd_catS (xd_sliceS (xd_rd (pv 1)) xo_none (xo_some (xd_rd (pv 3)))) (xd_callM h_law_pick room guards (by decide) (pv 0) (xa_cons (xd_rd (pv 6)) xa_nil) (ar_cons ar_nil))) (xd_sliceS (xd_rd (pv 1)) (xo_some (xd_rd (pv 3))) xo_none)))))))))))))))
abbrev s_read_share:Stmt:=topS 20
theorem sc_read_share:FnScope ["text", "found"] ["text"] (defScope s_read_share):=⟨rfl,rfl,rfl,by decide +kernel,rfl,by decide +kernel,by decide +kernel⟩
theorem w_read_share  (T:Dn K "read_share" s_read_share [] f fd) (b_isinstance:mg "isinstance" = none) (b_str:mg "str" = none) (h_need_d:Has P w K mg base 3 "need" 2 [.none] mf_need) (h_share_in:Has P w K mg base 3 "share_in" 1 [] mf_share_in):FnG P w K mg base (CXM P w) 4 f fd ["text"] (spP ⟨K,P,w,mg⟩ 1 mf_read_share):=
 defX g_read_share T sc_read_share rfl (by decide) e_read_share fun C cdv A outer s H E hW room guards=>
  (xs_cons (xs_dropX (xx_call h_need_d (cx_takes hW) room guards (by decide) (xa_cons (xd_isa isa_str (by decide +kernel) b_isinstance b_str (xd_rd (pv 0))) xa_nil) (ar_cons ar_nil))) (xs_cons (xs_set sc_read_share.nd (xd_call h_share_in room guards (by decide) (xa_cons (xd_rd (pv 0)) xa_nil) (ar_cons ar_nil)) rfl (.inl rfl)) (xs_cons (xs_dropX (xx_call h_need_d (cx_takes hW) room guards (by decide) (xa_cons (xd_isnot (xd_rd (pv 1)) xd_non) xa_nil) (ar_cons ar_nil))) (xs_one (xs_ret (xd_rd (pv 1)))))))
abbrev s_law_right:Stmt:=topS 32
theorem sc_law_right:FnScope ["_law_writ_here", "_law_due", "_law_one", "_law_two"] ["_law_writ_here"] (defScope s_law_right):=⟨rfl,rfl,rfl,by decide +kernel,rfl,by decide +kernel,by decide +kernel⟩
theorem w_law_right {c TA:Addr} {oc dV kV doc pm ct:Value} {od an:Option Addr} {osl:Array (Option Value)} (lk:K.lookup f=some ⟨oc,od,.func (PySem.W.fnOf "_law_right" "_law_right" (defArgs s_law_right) (defBody s_law_right) (defScope s_law_right) dV kV doc pm an (.ref c) ct),osl⟩) (hcd:PySem.W.codeIn K (.ref c) "_law_right" = true) (TB:LamX.TabB base mg c TA) (b_isinstance:mg "isinstance" = none) (b_repr:mg "repr" = none) (b_str:mg "str" = none) (h_law_share_in:Has P w K mg base 2 "_law_share_in" 1 [] mf_law_share_in) (h_law_heard:Heard P w K mg base 1 "_law_heard" mf_law_heard) (h_read_share:Has P w K mg base 4 "read_share" 1 [] mf_read_share) (h_read_share_k0_text:HasK P w K mg base 4 "read_share" 1 0 ["text"] [.inr 0] mf_read_share):FnG P w K mg base (CXM P w) 7 f (PySem.W.fnOf "_law_right" "_law_right" (defArgs s_law_right) (defBody s_law_right) (defScope s_law_right) dV kV doc pm an (.ref c) ct) ["_law_writ_here"] (spT ⟨K,P,w,mg⟩ TA ((envOfC "_law_right" (defScope s_law_right) 0 f (.ref c)).qual ++ "<lambda>") 1 mf_law_right):=
 defT g_law_right lk hcd sc_law_right rfl (by decide) e_law_right fun C A outer s H E hW htb hpen room guards=>
  (xs_cons (xs_set sc_law_right.nd (xd_tup (xa_cons xd_non xa_nil)) rfl (.inl rfl)) (xs_cons (xs_if (xt_w (xw_and (xt_val (xd_isa isa_str (by decide +kernel) b_isinstance b_str (xd_rd (pv 0)))) (xw_and1 (xt_isnot (xd_call h_law_share_in room guards (by decide) (xa_cons (xd_rd (pv 0)) xa_nil) (ar_cons ar_nil)) xd_non)))) (xs_one (xs_set sc_law_right.nd (xd_lst (xa_cons (xd_call h_law_share_in room guards (by decide) (xa_cons (xd_rd (pv 0)) xa_nil) (ar_cons ar_nil)) xa_nil)) rfl (.inl rfl))) xs_nil) (xs_cons (xs_set sc_law_right.nd (xd_lam (xx_lam (k:=4) (j:=1) h_law_heard room guards (by decide) TB rfl htb hpen (LamX.lamS_by (sc:=defScope s_law_right) (by decide +kernel)) (fun A2 outer2 s2 H2 E2 f2 c2 room guards C2 hWl=>(xx_call h_read_share (lam_takes hWl) room guards (by decide) (xa_cons (xd_rd (pv 0)) xa_nil) (ar_cons ar_nil))))) rfl (.inl rfl)) (xs_cons (xs_set sc_law_right.nd (xd_lam (xx_lam (k:=4) (j:=1) h_law_heard room guards (by decide) TB rfl htb hpen (LamX.lamS_by (sc:=defScope s_law_right) (by decide +kernel)) (fun A2 outer2 s2 H2 E2 f2 c2 room guards C2 hWl=>(xx_callK0 h_read_share_k0_text (lam_takes hWl) room guards (by decide) (xk_cons (xd_rd (pv 0)) xk_nil) (ar_cons ar_nil))))) rfl (.inl rfl)) (xs_one (xs_ret (xd_eq room.units (xd_lst (xa_cons (xd_repr (Room.u200 room) guards b_repr (xd_rd (pv 2))) (xa_cons (xd_repr (Room.u200 room) guards b_repr (xd_rd (pv 3))) xa_nil))) (xd_mulL (xd_lst (xa_cons (xd_repr (Room.u200 room) guards b_repr (xd_rd (pv 1))) xa_nil)) xd_int))))))))
abbrev s_law:Stmt:=topS 33
theorem sc_law:FnScope ["_law_script", "_law_pen_here", "_law_odd", "_law_turn", "_law_share_so", "_law_found", "_law_again", "_law_bent"] ["_law_script"] (defScope s_law):=⟨rfl,rfl,rfl,by decide +kernel,rfl,by decide +kernel,by decide +kernel⟩
theorem w_law {TA:Addr} {q0:Str} (T:Dn K "law" s_law [] f fd) (b_ValueError:mg "ValueError" = none) (b_isinstance:mg "isinstance" = none) (b_range:mg "range" = none) (b_str:mg "str" = none) (x_NoText:ClsG mg "NoText" C_NoText) {fI_NoText:Addr} {fd_NoText:FuncData} (o_NoText:L2.OexC K C_NoText) (iC_NoText:PySem.W.findIn K (.ref C_NoText) "__init__" = some (some (.ref fI_NoText))) (tI_NoText:PySem.W.typeIn K (.ref fI_NoText)=some (.type "function")) (F_NoText:FnOk P w K mg base (CXM P w) 1 fI_NoText fd_NoText ["self", "at"] (spI C_NoText "at")) (bI_NoText:Binds K fd_NoText ["self", "at"] []) (xe_NoText:ExcC K C_NoText) (kO_NoText_ValueError:PySem.W.kitOne K (.ref C_NoText) (.type "ValueError")=some true) (h_law_pen:Has P w K mg base 1 "_law_pen" 1 [] mf_law_pen) (h_law_any:HasQ P w K mg base 3 "_law_any" 1 mq_law_any) (h_show_share:Has P w K mg base 1 "show_share" 1 [] mf_show_share) (h_law_writ:Has P w K mg base 1 "_law_writ" 1 [] mf_law_writ) (h_show_share_k0_share:HasK P w K mg base 1 "show_share" 1 0 ["share"] [.inr 0] mf_show_share) (h_law_right:HasT P w K mg base TA q0 7 "_law_right" 1 mf_law_right) (h_law_warped:HasQ P w K mg base 3 "_law_warped" 2 mq_law_warped) (h_law_pick:HasQ P w K mg base 2 "_law_pick" 2 mq_law_pick):FnG P w K mg base (CXM P w) 8 f fd ["_law_script"] (spL ⟨K,P,w,mg⟩ TA mf_law):=
 defL2 (T:=TA) g_law q0 T sc_law rfl (by decide) e_law fun C cdv A outer s H E hW htb hpen room guards=>
  (xs_cons (xs_setN sc_law.nd (xn_call h_law_pen room guards (by decide) (xa_cons (xd_rd (pv 0)) xa_nil) (ar_cons ar_nil)) rfl (.inl rfl)) (xs_cons (xs_set sc_law.nd (xd_lst (xa_cons xd_str (xa_cons xd_str (xa_cons xd_str (xa_cons xd_str (xa_cons xd_str (xa_cons xd_str (xa_cons xd_str (xa_cons xd_str (xa_cons xd_str (xa_cons xd_str (xa_cons xd_str (xa_cons xd_str (xa_cons xd_str (xa_cons xd_str (xa_cons xd_str xa_nil)))))))))))))))) rfl (.inl rfl)) (xs_cons (xs_set sc_law.nd (xd_cat (xd_rd (pv 2)) (xd_lst (xa_cons xd_str (xa_cons xd_str xa_nil)))) rfl (.inl rfl)) (xs_cons (xs_set sc_law.nd (xd_cat (xd_rd (pv 2)) (xd_lst (xa_cons xd_str (xa_cons xd_str (xa_cons xd_str (xa_cons xd_str (xa_cons xd_str (xa_cons xd_str (xa_cons xd_str (xa_cons (xd_mulS xd_str xd_int) (xa_cons (xd_mulS xd_str xd_int) (xa_cons (xd_catS xd_str (xd_mulS xd_str xd_int)) (xa_cons (xd_catS xd_str (xd_mulS xd_str xd_int)) xa_nil))))))))))))) rfl (.inl rfl)) (xs_cons (xs_set sc_law.nd (xd_cat (xd_rd (pv 2)) (xd_lst (xa_cons xd_str xa_nil))) rfl (.inl rfl)) (xs_cons (xs_for cx_passes rfl (xi_range1 b_range xd_int) (xg_name sc_law.nd rfl (.inl rfl)) (xss_clr [3,4,5,6,7] (xs_cons (xs_set sc_law.nd (xd_callM h_law_any room guards (by decide) (pv 1) xa_nil ar_nil) rfl (.inl rfl)) (xs_cons (xs_set sc_law.nd (xd_call h_show_share room guards (by decide) (xa_cons (xd_rd (pv 4)) xa_nil) (ar_cons ar_nil)) rfl (.inl rfl)) (xs_cons (xs_if (xt_w (xw_or (xt_not (xt_val (xd_isa isa_str (by decide +kernel) b_isinstance b_str (xd_rd (pv 5))))) (xw_or (xt_ne room.units (xd_rd (pv 5)) (xd_call h_law_writ room guards (by decide) (xa_cons (xd_rd (pv 4)) xa_nil) (ar_cons ar_nil))) (xw_or1 (xt_ne room.units (xd_callK0 h_show_share_k0_share room guards (by decide) (xk_cons (xd_rd (pv 4)) xk_nil) (ar_cons ar_nil)) (xd_rd (pv 5))))))) (xs_one (xs_ret xd_bl)) xs_nil) (xs_cons (xs_if (xt_not (xt_val (xd_callT h_law_right htb hpen room guards (by decide) (xa_cons (xd_rd (pv 5)) xa_nil) (ar_cons ar_nil)))) (xs_one (xs_ret xd_bl)) xs_nil) (xs_cons (xs_for cx_passes rfl (xi_range1 b_range xd_int) (xg_name sc_law.nd rfl (.inl rfl)) (xss_clr [6,7] (xs_cons (xs_set sc_law.nd (xd_callM h_law_warped room guards (by decide) (pv 1) (xa_cons (xd_rd (pv 5)) xa_nil) (ar_cons ar_nil)) rfl (.inl rfl)) (xs_one (xs_if (xt_w (xw_or (xt_not (xt_val (xd_callT h_law_right htb hpen room guards (by decide) (xa_cons (xd_rd (pv 7)) xa_nil) (ar_cons ar_nil)))) (xw_or (xt_not (xt_val (xd_callT h_law_right htb hpen room guards (by decide) (xa_cons (xd_callM h_law_warped room guards (by decide) (pv 1) (xa_cons (xd_rd (pv 7)) xa_nil) (ar_cons ar_nil)) xa_nil) (ar_cons ar_nil)))) (xw_or1 (xt_not (xt_val (xd_callT h_law_right htb hpen room guards (by decide) (xa_cons (xd_callM h_law_pick room guards (by decide) (pv 1) (xa_cons (xd_rd (pv 2)) xa_nil) (ar_cons ar_nil)) xa_nil) (ar_cons ar_nil)))))))) (xs_one (xs_ret xd_bl)) xs_nil))))) (xs_one (xs_if (xt_not (xt_val (xd_callT h_law_right htb hpen room guards (by decide) (xa_cons (xd_callM h_law_pick room guards (by decide) (pv 1) (xa_cons (xd_lst (xa_cons xd_non (xa_cons xd_bl (xa_cons xd_int (xa_cons (xd_tup xa_nil) (xa_cons (xd_lst xa_nil) (xa_cons xd_emp (xa_cons (xd_tup (xa_cons xd_int (xa_cons xd_int xa_nil))) (xa_cons (xd_lst (xa_cons xd_str xa_nil)) (xa_cons (xd_tup (xa_cons xd_str xa_nil)) xa_nil)))))))))) xa_nil) (ar_cons ar_nil)) xa_nil) (ar_cons ar_nil)))) (xs_one (xs_ret xd_bl)) xs_nil))))))))) (xs_one (xs_ret (xd_isO xe_NoText (pmk_oex o_NoText iC_NoText tI_NoText F_NoText (Room.mono (j:=2) room (by decide)) bI_NoText .nil passL rfl x_NoText.mg (pa_cons xd_non pa_nil)) b_isinstance (pe_bltn (v:=.ty "ValueError") (by rfl) b_ValueError (by rfl) (by rfl)) (.ty _) kO_NoText_ValueError)))))))))
end
theorem all_mk {l:PySem.W.OpenLaw} {w:World} {K:PySem.W.Frag} {h:Heap} {mg:Str→Option Value} {fa:Addr} (X:K.In h) (G:h.Ns mainGlobals mg) (hfa:mg "law" = some (.ref fa))
  {f_is_whole:Addr} {od_is_whole an_is_whole:Option Addr} {sl_is_whole:Array (Option Value)} {oc_is_whole kV_is_whole dc_is_whole pm_is_whole cd_is_whole ct_is_whole:Value}
  {f_common:Addr} {od_common an_common:Option Addr} {sl_common:Array (Option Value)} {oc_common kV_common dc_common pm_common cd_common ct_common:Value}
  {f_show_share:Addr} {od_show_share an_show_share:Option Addr} {sl_show_share:Array (Option Value)} {oc_show_share kV_show_share dc_show_share pm_show_share cd_show_share ct_show_share:Value}
  {f_number_in:Addr} {od_number_in an_number_in:Option Addr} {sl_number_in:Array (Option Value)} {oc_number_in kV_number_in dc_number_in pm_number_in cd_number_in ct_number_in:Value}
  {f_law_pen:Addr} {od_law_pen an_law_pen:Option Addr} {sl_law_pen:Array (Option Value)} {oc_law_pen kV_law_pen dc_law_pen pm_law_pen cd_law_pen ct_law_pen:Value}
  {f_law_draw:Addr} {od_law_draw an_law_draw:Option Addr} {sl_law_draw:Array (Option Value)} {oc_law_draw kV_law_draw dc_law_draw pm_law_draw cd_law_draw ct_law_draw:Value}
  {f_law_reduced:Addr} {od_law_reduced an_law_reduced:Option Addr} {sl_law_reduced:Array (Option Value)} {oc_law_reduced kV_law_reduced dc_law_reduced pm_law_reduced cd_law_reduced ct_law_reduced:Value}
  {f_law_writ:Addr} {od_law_writ an_law_writ:Option Addr} {sl_law_writ:Array (Option Value)} {oc_law_writ kV_law_writ dc_law_writ pm_law_writ cd_law_writ ct_law_writ:Value}
  {f_law_number_in:Addr} {od_law_number_in an_law_number_in:Option Addr} {sl_law_number_in:Array (Option Value)} {oc_law_number_in kV_law_number_in dc_law_number_in pm_law_number_in cd_law_number_in ct_law_number_in:Value}
  {f_law_heard:Addr} {od_law_heard an_law_heard:Option Addr} {sl_law_heard:Array (Option Value)} {oc_law_heard kV_law_heard dc_law_heard pm_law_heard cd_law_heard ct_law_heard:Value}
  {f_is_share:Addr} {od_is_share an_is_share:Option Addr} {sl_is_share:Array (Option Value)} {oc_is_share kV_is_share dc_is_share pm_is_share cd_is_share ct_is_share:Value}
  {f_law_pick:Addr} {od_law_pick an_law_pick:Option Addr} {sl_law_pick:Array (Option Value)} {oc_law_pick kV_law_pick dc_law_pick pm_law_pick cd_law_pick ct_law_pick:Value}
  {f_law_share_in:Addr} {od_law_share_in an_law_share_in:Option Addr} {sl_law_share_in:Array (Option Value)} {oc_law_share_in kV_law_share_in dc_law_share_in pm_law_share_in cd_law_share_in ct_law_share_in:Value}
  {f_need:Addr} {od_need an_need:Option Addr} {sl_need:Array (Option Value)} {oc_need kV_need dc_need pm_need cd_need ct_need:Value}
  {T_need:Addr} {oT_need:Value} {dT_need:Option Addr} {sT_need:Array (Option Value)} {n_need:Nat}
  {f_share_in:Addr} {od_share_in an_share_in:Option Addr} {sl_share_in:Array (Option Value)} {oc_share_in kV_share_in dc_share_in pm_share_in cd_share_in ct_share_in:Value}
  {f_law_any:Addr} {od_law_any an_law_any:Option Addr} {sl_law_any:Array (Option Value)} {oc_law_any kV_law_any dc_law_any pm_law_any cd_law_any ct_law_any:Value}
  {f_law_warped:Addr} {od_law_warped an_law_warped:Option Addr} {sl_law_warped:Array (Option Value)} {oc_law_warped kV_law_warped dc_law_warped pm_law_warped cd_law_warped ct_law_warped:Value}
  {f_read_share:Addr} {od_read_share an_read_share:Option Addr} {sl_read_share:Array (Option Value)} {oc_read_share kV_read_share dc_read_share pm_read_share cd_read_share ct_read_share:Value}
  {f_law_right:Addr} {od_law_right an_law_right:Option Addr} {sl_law_right:Array (Option Value)} {oc_law_right kV_law_right dc_law_right pm_law_right ct_law_right:Value} {c T:Addr}
  {f_law:Addr} {od_law an_law:Option Addr} {sl_law:Array (Option Value)} {oc_law kV_law dc_law pm_law cd_law ct_law:Value}
  {tGFIGURES:Tok}
  {tGMOST_FIGURES:Tok}
  {C_CrossError N_CrossError:Addr} {nm_CrossError qq_CrossError:Str} {bs_CrossError:List Value} {hd_CrossError:Bool} {sn_CrossError:List Str} {su_CrossError:List Value} {ab_CrossError:Bool} {co_CrossError:Option Bool} {dd_CrossError dN_CrossError:Option Addr} {k0_CrossError k1_CrossError k2_CrossError k3_CrossError k5_CrossError:Option Value} {cN_CrossError:Value} {es_CrossError:Array DictEntry} {nN_CrossError:Nat} {sN_CrossError:Array (Option Value)}
  {C_NoShare N_NoShare:Addr} {nm_NoShare qq_NoShare:Str} {bs_NoShare:List Value} {hd_NoShare:Bool} {sn_NoShare:List Str} {su_NoShare:List Value} {ab_NoShare:Bool} {co_NoShare:Option Bool} {dd_NoShare dN_NoShare:Option Addr} {k0_NoShare k1_NoShare k2_NoShare k3_NoShare k5_NoShare:Option Value} {cN_NoShare:Value} {es_NoShare:Array DictEntry} {nN_NoShare:Nat} {sN_NoShare:Array (Option Value)}
  {C_NoThing:Addr}
  {C_NoCase:Addr}
  {C_NoOrder N_NoOrder:Addr} {nm_NoOrder qq_NoOrder:Str} {bs_NoOrder:List Value} {hd_NoOrder:Bool} {sn_NoOrder:List Str} {su_NoOrder:List Value} {ab_NoOrder:Bool} {co_NoOrder:Option Bool} {dd_NoOrder dN_NoOrder:Option Addr} {k0_NoOrder k1_NoOrder k2_NoOrder k3_NoOrder k5_NoOrder:Option Value} {cN_NoOrder:Value} {es_NoOrder:Array DictEntry} {nN_NoOrder:Nat} {sN_NoOrder:Array (Option Value)}
  {C_NoText:Addr}
  {N_NoText fI_NoText:Addr} {nm_NoText qq_NoText:Str} {bs_NoText:List Value} {sn_NoText:List Str} {su_NoText:List Value} {ab_NoText:Bool} {co_NoText:Option Bool} {dd_NoText:Option Addr} {k0_NoText k1_NoText k2_NoText k3_NoText k5_NoText:Option Value} {odI_NoText anI_NoText:Option Addr} {slI_NoText:Array (Option Value)} {ocI_NoText kVI_NoText dcI_NoText pmI_NoText cdI_NoText ctI_NoText:Value}
  {C_NoWeight N_NoWeight:Addr} {nm_NoWeight qq_NoWeight:Str} {bs_NoWeight:List Value} {hd_NoWeight:Bool} {sn_NoWeight:List Str} {su_NoWeight:List Value} {ab_NoWeight:Bool} {co_NoWeight:Option Bool} {dd_NoWeight dN_NoWeight:Option Addr} {k0_NoWeight k1_NoWeight k2_NoWeight k3_NoWeight k5_NoWeight:Option Value} {cN_NoWeight:Value} {es_NoWeight:Array DictEntry} {nN_NoWeight:Nat} {sN_NoWeight:Array (Option Value)}
  (a_is_whole:PySem.W.nsIn K mainGlobals "is_whole" = some (some (.ref f_is_whole)))
  (l_is_whole:K.lookup f_is_whole=some ⟨oc_is_whole,od_is_whole,.func (PySem.W.fnOf "is_whole" "is_whole" (defArgs s_is_whole) (defBody s_is_whole) (defScope s_is_whole) .none kV_is_whole dc_is_whole pm_is_whole an_is_whole cd_is_whole ct_is_whole),sl_is_whole⟩)
  (c_is_whole:PySem.W.codeIn K cd_is_whole "is_whole" = true)
  (k_is_whole:PySem.W.keepIn K (.ref f_is_whole)=true)
  (a_common:PySem.W.nsIn K mainGlobals "common" = some (some (.ref f_common)))
  (l_common:K.lookup f_common=some ⟨oc_common,od_common,.func (PySem.W.fnOf "common" "common" (defArgs s_common) (defBody s_common) (defScope s_common) .none kV_common dc_common pm_common an_common cd_common ct_common),sl_common⟩)
  (c_common:PySem.W.codeIn K cd_common "common" = true)
  (k_common:PySem.W.keepIn K (.ref f_common)=true)
  (a_show_share:PySem.W.nsIn K mainGlobals "show_share" = some (some (.ref f_show_share)))
  (l_show_share:K.lookup f_show_share=some ⟨oc_show_share,od_show_share,.func (PySem.W.fnOf "show_share" "show_share" (defArgs s_show_share) (defBody s_show_share) (defScope s_show_share) .none kV_show_share dc_show_share pm_show_share an_show_share cd_show_share ct_show_share),sl_show_share⟩)
  (c_show_share:PySem.W.codeIn K cd_show_share "show_share" = true)
  (k_show_share:PySem.W.keepIn K (.ref f_show_share)=true)
  (a_number_in:PySem.W.nsIn K mainGlobals "number_in" = some (some (.ref f_number_in)))
  (l_number_in:K.lookup f_number_in=some ⟨oc_number_in,od_number_in,.func (PySem.W.fnOf "number_in" "number_in" (defArgs s_number_in) (defBody s_number_in) (defScope s_number_in) .none kV_number_in dc_number_in pm_number_in an_number_in cd_number_in ct_number_in),sl_number_in⟩)
  (c_number_in:PySem.W.codeIn K cd_number_in "number_in" = true)
  (k_number_in:PySem.W.keepIn K (.ref f_number_in)=true)
  (a_law_pen:PySem.W.nsIn K mainGlobals "_law_pen" = some (some (.ref f_law_pen)))
  (l_law_pen:K.lookup f_law_pen=some ⟨oc_law_pen,od_law_pen,.func (PySem.W.fnOf "_law_pen" "_law_pen" (defArgs s_law_pen) (defBody s_law_pen) (defScope s_law_pen) .none kV_law_pen dc_law_pen pm_law_pen an_law_pen cd_law_pen ct_law_pen),sl_law_pen⟩)
  (c_law_pen:PySem.W.codeIn K cd_law_pen "_law_pen" = true)
  (k_law_pen:PySem.W.keepIn K (.ref f_law_pen)=true)
  (a_law_draw:PySem.W.nsIn K mainGlobals "_law_draw" = some (some (.ref f_law_draw)))
  (l_law_draw:K.lookup f_law_draw=some ⟨oc_law_draw,od_law_draw,.func (PySem.W.fnOf "_law_draw" "_law_draw" (defArgs s_law_draw) (defBody s_law_draw) (defScope s_law_draw) .none kV_law_draw dc_law_draw pm_law_draw an_law_draw cd_law_draw ct_law_draw),sl_law_draw⟩)
  (c_law_draw:PySem.W.codeIn K cd_law_draw "_law_draw" = true)
  (k_law_draw:PySem.W.keepIn K (.ref f_law_draw)=true)
  (a_law_reduced:PySem.W.nsIn K mainGlobals "_law_reduced" = some (some (.ref f_law_reduced)))
  (l_law_reduced:K.lookup f_law_reduced=some ⟨oc_law_reduced,od_law_reduced,.func (PySem.W.fnOf "_law_reduced" "_law_reduced" (defArgs s_law_reduced) (defBody s_law_reduced) (defScope s_law_reduced) .none kV_law_reduced dc_law_reduced pm_law_reduced an_law_reduced cd_law_reduced ct_law_reduced),sl_law_reduced⟩)
  (c_law_reduced:PySem.W.codeIn K cd_law_reduced "_law_reduced" = true)
  (k_law_reduced:PySem.W.keepIn K (.ref f_law_reduced)=true)
  (a_law_writ:PySem.W.nsIn K mainGlobals "_law_writ" = some (some (.ref f_law_writ)))
  (l_law_writ:K.lookup f_law_writ=some ⟨oc_law_writ,od_law_writ,.func (PySem.W.fnOf "_law_writ" "_law_writ" (defArgs s_law_writ) (defBody s_law_writ) (defScope s_law_writ) .none kV_law_writ dc_law_writ pm_law_writ an_law_writ cd_law_writ ct_law_writ),sl_law_writ⟩)
  (c_law_writ:PySem.W.codeIn K cd_law_writ "_law_writ" = true)
  (k_law_writ:PySem.W.keepIn K (.ref f_law_writ)=true)
  (a_law_number_in:PySem.W.nsIn K mainGlobals "_law_number_in" = some (some (.ref f_law_number_in)))
  (l_law_number_in:K.lookup f_law_number_in=some ⟨oc_law_number_in,od_law_number_in,.func (PySem.W.fnOf "_law_number_in" "_law_number_in" (defArgs s_law_number_in) (defBody s_law_number_in) (defScope s_law_number_in) .none kV_law_number_in dc_law_number_in pm_law_number_in an_law_number_in cd_law_number_in ct_law_number_in),sl_law_number_in⟩)
  (c_law_number_in:PySem.W.codeIn K cd_law_number_in "_law_number_in" = true)
  (k_law_number_in:PySem.W.keepIn K (.ref f_law_number_in)=true)
  (a_law_heard:PySem.W.nsIn K mainGlobals "_law_heard" = some (some (.ref f_law_heard)))
  (l_law_heard:K.lookup f_law_heard=some ⟨oc_law_heard,od_law_heard,.func (PySem.W.fnOf "_law_heard" "_law_heard" (defArgs s_law_heard) (defBody s_law_heard) (defScope s_law_heard) .none kV_law_heard dc_law_heard pm_law_heard an_law_heard cd_law_heard ct_law_heard),sl_law_heard⟩)
  (c_law_heard:PySem.W.codeIn K cd_law_heard "_law_heard" = true)
  (k_law_heard:PySem.W.keepIn K (.ref f_law_heard)=true)
  (a_is_share:PySem.W.nsIn K mainGlobals "is_share" = some (some (.ref f_is_share)))
  (l_is_share:K.lookup f_is_share=some ⟨oc_is_share,od_is_share,.func (PySem.W.fnOf "is_share" "is_share" (defArgs s_is_share) (defBody s_is_share) (defScope s_is_share) .none kV_is_share dc_is_share pm_is_share an_is_share cd_is_share ct_is_share),sl_is_share⟩)
  (c_is_share:PySem.W.codeIn K cd_is_share "is_share" = true)
  (k_is_share:PySem.W.keepIn K (.ref f_is_share)=true)
  (a_law_pick:PySem.W.nsIn K mainGlobals "_law_pick" = some (some (.ref f_law_pick)))
  (l_law_pick:K.lookup f_law_pick=some ⟨oc_law_pick,od_law_pick,.func (PySem.W.fnOf "_law_pick" "_law_pick" (defArgs s_law_pick) (defBody s_law_pick) (defScope s_law_pick) .none kV_law_pick dc_law_pick pm_law_pick an_law_pick cd_law_pick ct_law_pick),sl_law_pick⟩)
  (c_law_pick:PySem.W.codeIn K cd_law_pick "_law_pick" = true)
  (k_law_pick:PySem.W.keepIn K (.ref f_law_pick)=true)
  (a_law_share_in:PySem.W.nsIn K mainGlobals "_law_share_in" = some (some (.ref f_law_share_in)))
  (l_law_share_in:K.lookup f_law_share_in=some ⟨oc_law_share_in,od_law_share_in,.func (PySem.W.fnOf "_law_share_in" "_law_share_in" (defArgs s_law_share_in) (defBody s_law_share_in) (defScope s_law_share_in) .none kV_law_share_in dc_law_share_in pm_law_share_in an_law_share_in cd_law_share_in ct_law_share_in),sl_law_share_in⟩)
  (c_law_share_in:PySem.W.codeIn K cd_law_share_in "_law_share_in" = true)
  (k_law_share_in:PySem.W.keepIn K (.ref f_law_share_in)=true)
  (a_need:PySem.W.nsIn K mainGlobals "need" = some (some (.ref f_need)))
  (l_need:K.lookup f_need=some ⟨oc_need,od_need,.func (PySem.W.fnOf "need" "need" (defArgs s_need) (defBody s_need) (defScope s_need) (.ref T_need) kV_need dc_need pm_need an_need cd_need ct_need),sl_need⟩)
  (c_need:PySem.W.codeIn K cd_need "need" = true)
  (k_need:PySem.W.keepIn K (.ref f_need)=true)
  (q_need:K.lookup T_need=some ⟨oT_need,dT_need,.seq #[.none] n_need,sT_need⟩)
  (a_share_in:PySem.W.nsIn K mainGlobals "share_in" = some (some (.ref f_share_in)))
  (l_share_in:K.lookup f_share_in=some ⟨oc_share_in,od_share_in,.func (PySem.W.fnOf "share_in" "share_in" (defArgs s_share_in) (defBody s_share_in) (defScope s_share_in) .none kV_share_in dc_share_in pm_share_in an_share_in cd_share_in ct_share_in),sl_share_in⟩)
  (c_share_in:PySem.W.codeIn K cd_share_in "share_in" = true)
  (k_share_in:PySem.W.keepIn K (.ref f_share_in)=true)
  (a_law_any:PySem.W.nsIn K mainGlobals "_law_any" = some (some (.ref f_law_any)))
  (l_law_any:K.lookup f_law_any=some ⟨oc_law_any,od_law_any,.func (PySem.W.fnOf "_law_any" "_law_any" (defArgs s_law_any) (defBody s_law_any) (defScope s_law_any) .none kV_law_any dc_law_any pm_law_any an_law_any cd_law_any ct_law_any),sl_law_any⟩)
  (c_law_any:PySem.W.codeIn K cd_law_any "_law_any" = true)
  (k_law_any:PySem.W.keepIn K (.ref f_law_any)=true)
  (a_law_warped:PySem.W.nsIn K mainGlobals "_law_warped" = some (some (.ref f_law_warped)))
  (l_law_warped:K.lookup f_law_warped=some ⟨oc_law_warped,od_law_warped,.func (PySem.W.fnOf "_law_warped" "_law_warped" (defArgs s_law_warped) (defBody s_law_warped) (defScope s_law_warped) .none kV_law_warped dc_law_warped pm_law_warped an_law_warped cd_law_warped ct_law_warped),sl_law_warped⟩)
  (c_law_warped:PySem.W.codeIn K cd_law_warped "_law_warped" = true)
  (k_law_warped:PySem.W.keepIn K (.ref f_law_warped)=true)
  (a_read_share:PySem.W.nsIn K mainGlobals "read_share" = some (some (.ref f_read_share)))
  (l_read_share:K.lookup f_read_share=some ⟨oc_read_share,od_read_share,.func (PySem.W.fnOf "read_share" "read_share" (defArgs s_read_share) (defBody s_read_share) (defScope s_read_share) .none kV_read_share dc_read_share pm_read_share an_read_share cd_read_share ct_read_share),sl_read_share⟩)
  (c_read_share:PySem.W.codeIn K cd_read_share "read_share" = true)
  (k_read_share:PySem.W.keepIn K (.ref f_read_share)=true)
  (a_law_right:PySem.W.nsIn K mainGlobals "_law_right" = some (some (.ref f_law_right)))
  (l_law_right:K.lookup f_law_right=some ⟨oc_law_right,od_law_right,.func (PySem.W.fnOf "_law_right" "_law_right" (defArgs s_law_right) (defBody s_law_right) (defScope s_law_right) .none kV_law_right dc_law_right pm_law_right an_law_right (.ref c) ct_law_right),sl_law_right⟩)
  (c_law_right:PySem.W.codeIn K (.ref c) "_law_right" = true)
  (k_law_right:PySem.W.keepIn K (.ref f_law_right)=true)
  (a_law:PySem.W.nsIn K mainGlobals "law" = some (some (.ref f_law)))
  (l_law:K.lookup f_law=some ⟨oc_law,od_law,.func (PySem.W.fnOf "law" "law" (defArgs s_law) (defBody s_law) (defScope s_law) .none kV_law dc_law pm_law an_law cd_law ct_law),sl_law⟩)
  (c_law:PySem.W.codeIn K cd_law "law" = true)
  (k_law:PySem.W.keepIn K (.ref f_law)=true)
  (z_ValueError:PySem.W.nsIn K mainGlobals "ValueError" = some none)
  (z_abs:PySem.W.nsIn K mainGlobals "abs" = some none)
  (z_all:PySem.W.nsIn K mainGlobals "all" = some none)
  (z_bool:PySem.W.nsIn K mainGlobals "bool" = some none)
  (z_int:PySem.W.nsIn K mainGlobals "int" = some none)
  (z_isinstance:PySem.W.nsIn K mainGlobals "isinstance" = some none)
  (z_len:PySem.W.nsIn K mainGlobals "len" = some none)
  (z_max:PySem.W.nsIn K mainGlobals "max" = some none)
  (z_range:PySem.W.nsIn K mainGlobals "range" = some none)
  (z_repr:PySem.W.nsIn K mainGlobals "repr" = some none)
  (z_str:PySem.W.nsIn K mainGlobals "str" = some none)
  (z_tuple:PySem.W.nsIn K mainGlobals "tuple" = some none)
  (mGFIGURES:PySem.W.nsIn K mainGlobals "FIGURES" = some (some (.str (PySem.Str.ofString "0123456789") tGFIGURES)))
  (mGMOST_FIGURES:PySem.W.nsIn K mainGlobals "MOST_FIGURES" = some (some (.int 12 tGMOST_FIGURES)))
  (aX_CrossError:PySem.W.nsIn K mainGlobals "CrossError" = some (some (.ref C_CrossError)))
  (lX_CrossError:K.lookup C_CrossError=some (excClassObj nm_CrossError qq_CrossError C_CrossError N_CrossError bs_CrossError [.type "ValueError", .type "Exception", .type "BaseException", .type "object"] hd_CrossError sn_CrossError su_CrossError ab_CrossError co_CrossError dd_CrossError k0_CrossError k1_CrossError k2_CrossError k3_CrossError k5_CrossError "ValueError.__new__"))
  (nX_CrossError:K.lookup N_CrossError=some ⟨cN_CrossError,dN_CrossError,.dict es_CrossError nN_CrossError,sN_CrossError⟩)
  (rX_CrossError:(es_CrossError.toList.all fun e=>match e.key with | .str _ _=>true | _=>false)=true)
  (iX_CrossError:PySem.W.nsIn K N_CrossError "__init__" = some none)
  (kX_CrossError:PySem.W.keepIn K (.ref C_CrossError)=true)
  (sX_CrossError:PySem.W.subIn K (.ref C_CrossError) (.type "BaseException")=some true)
  (tX_CrossError:PySem.W.typeIn K (.ref C_CrossError)=some (.type "type"))
  (jX_CrossError:PySem.W.isClsIn K C_CrossError=true)
  (aX_NoShare:PySem.W.nsIn K mainGlobals "NoShare" = some (some (.ref C_NoShare)))
  (lX_NoShare:K.lookup C_NoShare=some (excClassObj nm_NoShare qq_NoShare C_NoShare N_NoShare bs_NoShare [.type "ZeroDivisionError", .type "ArithmeticError", .type "Exception", .type "BaseException", .type "object"] hd_NoShare sn_NoShare su_NoShare ab_NoShare co_NoShare dd_NoShare k0_NoShare k1_NoShare k2_NoShare k3_NoShare k5_NoShare "ZeroDivisionError.__new__"))
  (nX_NoShare:K.lookup N_NoShare=some ⟨cN_NoShare,dN_NoShare,.dict es_NoShare nN_NoShare,sN_NoShare⟩)
  (rX_NoShare:(es_NoShare.toList.all fun e=>match e.key with | .str _ _=>true | _=>false)=true)
  (iX_NoShare:PySem.W.nsIn K N_NoShare "__init__" = some none)
  (kX_NoShare:PySem.W.keepIn K (.ref C_NoShare)=true)
  (sX_NoShare:PySem.W.subIn K (.ref C_NoShare) (.type "BaseException")=some true)
  (tX_NoShare:PySem.W.typeIn K (.ref C_NoShare)=some (.type "type"))
  (jX_NoShare:PySem.W.isClsIn K C_NoShare=true)
  (aX_NoThing:PySem.W.nsIn K mainGlobals "NoThing" = some (some (.ref C_NoThing)))
  (sX_NoThing:PySem.W.subIn K (.ref C_NoThing) (.type "BaseException")=some true)
  (tX_NoThing:PySem.W.typeIn K (.ref C_NoThing)=some (.type "type"))
  (jX_NoThing:PySem.W.isClsIn K C_NoThing=true)
  (aX_NoCase:PySem.W.nsIn K mainGlobals "NoCase" = some (some (.ref C_NoCase)))
  (sX_NoCase:PySem.W.subIn K (.ref C_NoCase) (.type "BaseException")=some true)
  (tX_NoCase:PySem.W.typeIn K (.ref C_NoCase)=some (.type "type"))
  (jX_NoCase:PySem.W.isClsIn K C_NoCase=true)
  (aX_NoOrder:PySem.W.nsIn K mainGlobals "NoOrder" = some (some (.ref C_NoOrder)))
  (lX_NoOrder:K.lookup C_NoOrder=some (excClassObj nm_NoOrder qq_NoOrder C_NoOrder N_NoOrder bs_NoOrder (.ref C_CrossError::[.type "ValueError", .type "Exception", .type "BaseException", .type "object"]) hd_NoOrder sn_NoOrder su_NoOrder ab_NoOrder co_NoOrder dd_NoOrder k0_NoOrder k1_NoOrder k2_NoOrder k3_NoOrder k5_NoOrder "ValueError.__new__"))
  (nX_NoOrder:K.lookup N_NoOrder=some ⟨cN_NoOrder,dN_NoOrder,.dict es_NoOrder nN_NoOrder,sN_NoOrder⟩)
  (rX_NoOrder:(es_NoOrder.toList.all fun e=>match e.key with | .str _ _=>true | _=>false)=true)
  (iX_NoOrder:PySem.W.nsIn K N_NoOrder "__init__" = some none)
  (kX_NoOrder:PySem.W.keepIn K (.ref C_NoOrder)=true)
  (sX_NoOrder:PySem.W.subIn K (.ref C_NoOrder) (.type "BaseException")=some true)
  (tX_NoOrder:PySem.W.typeIn K (.ref C_NoOrder)=some (.type "type"))
  (jX_NoOrder:PySem.W.isClsIn K C_NoOrder=true)
  (aX_NoText:PySem.W.nsIn K mainGlobals "NoText" = some (some (.ref C_NoText)))
  (sX_NoText:PySem.W.subIn K (.ref C_NoText) (.type "BaseException")=some true)
  (tX_NoText:PySem.W.typeIn K (.ref C_NoText)=some (.type "type"))
  (jX_NoText:PySem.W.isClsIn K C_NoText=true)
  (lX_NoText:K.lookup C_NoText=some (excClassObj nm_NoText qq_NoText C_NoText N_NoText bs_NoText (.ref C_CrossError::[.type "ValueError", .type "Exception", .type "BaseException", .type "object"]) true sn_NoText su_NoText ab_NoText co_NoText dd_NoText k0_NoText k1_NoText k2_NoText k3_NoText k5_NoText "ValueError.__new__"))
  (saX_NoText:PySem.W.findIn K (.ref C_NoText) "__setattr__" = some (some (.builtin "object.__setattr__")))
  (kX_NoText:PySem.W.keepIn K (.ref C_NoText)=true)
  (iX_NoText:PySem.W.findIn K (.ref C_NoText) "__init__" = some (some (.ref fI_NoText)))
  (tIX_NoText:PySem.W.typeIn K (.ref fI_NoText)=some (.type "function"))
  (tkX_NoText:PySem.W.findIn K (.ref C_NoText) "at" = some none)
  (lIX_NoText:K.lookup fI_NoText=some ⟨ocI_NoText,odI_NoText,.func (PySem.W.fnOf "__init__" "NoText.__init__" (defArgs st_NoText) (defBody st_NoText) (defScope st_NoText) .none kVI_NoText dcI_NoText pmI_NoText anI_NoText cdI_NoText ctI_NoText),slI_NoText⟩)
  (cIX_NoText:PySem.W.codeIn K cdI_NoText "NoText.__init__" = true)
  (gaB:PySem.W.specialIn K (.ref C_CrossError) "__getattribute__" = some (some (.builtin "type.__getattribute__"))) (rdB:PySem.W.readsIn K C_CrossError (.type "type")=true) (vB:PySem.W.findCls K (.ref C_CrossError) (.type "type") "__init__" = some (.val (.builtin "ValueError.__init__")))
  (aX_NoWeight:PySem.W.nsIn K mainGlobals "NoWeight" = some (some (.ref C_NoWeight)))
  (lX_NoWeight:K.lookup C_NoWeight=some (excClassObj nm_NoWeight qq_NoWeight C_NoWeight N_NoWeight bs_NoWeight (.ref C_CrossError::[.type "ValueError", .type "Exception", .type "BaseException", .type "object"]) hd_NoWeight sn_NoWeight su_NoWeight ab_NoWeight co_NoWeight dd_NoWeight k0_NoWeight k1_NoWeight k2_NoWeight k3_NoWeight k5_NoWeight "ValueError.__new__"))
  (nX_NoWeight:K.lookup N_NoWeight=some ⟨cN_NoWeight,dN_NoWeight,.dict es_NoWeight nN_NoWeight,sN_NoWeight⟩)
  (rX_NoWeight:(es_NoWeight.toList.all fun e=>match e.key with | .str _ _=>true | _=>false)=true)
  (iX_NoWeight:PySem.W.nsIn K N_NoWeight "__init__" = some none)
  (kX_NoWeight:PySem.W.keepIn K (.ref C_NoWeight)=true)
  (sX_NoWeight:PySem.W.subIn K (.ref C_NoWeight) (.type "BaseException")=some true)
  (tX_NoWeight:PySem.W.typeIn K (.ref C_NoWeight)=some (.type "type"))
  (jX_NoWeight:PySem.W.isClsIn K C_NoWeight=true)
  (sX_NoText_CrossError:PySem.W.subIn K (.ref C_NoText) (.ref C_CrossError)=some true)
  (sX_NoText_NoShare:PySem.W.subIn K (.ref C_NoText) (.ref C_NoShare)=some false)
  (sX_NoText_NoThing:PySem.W.subIn K (.ref C_NoText) (.ref C_NoThing)=some false)
  (gE_NoText:PySem.W.findIn K (.ref C_NoText) "__getattribute__" = some (some (.builtin "BaseException.__getattribute__")))
  (hE_NoText:PySem.W.findIn K (.ref C_NoText) "__getattr__" = some none)
  (dE_NoText:PySem.W.hasDictIn K C_NoText=true)
  (cE_NoText:PySem.W.findIn K (.ref C_NoText) "__class__" = some (some (.builtin "object.__class__")))
  (mE_NoText:PySem.W.mroIn K C_NoText (.type "object")=some true)
  (nE:PySem.W.specialIn K (.builtin "object.__class__") "__get__" = some (some (.builtin "getset_descriptor.__get__")))
  (tE:PySem.W.takesIn K (.builtin "object.__class__")=some true)
  (fF_NoText_at:PySem.W.findIn K (.ref C_NoText) "at" = some none)
  (kO_NoText_NoText:PySem.W.kitOne K (.ref C_NoText) (.ref C_NoText)=some true)
  (kO_NoText_ValueError:PySem.W.kitOne K (.ref C_NoText) (.type "ValueError")=some true)
  (kT_NoText_NoCase_NoOrder_NoWeight_NoShare_NoThing:PySem.W.kitAny K (.ref C_NoText) [(.ref C_NoCase),(.ref C_NoOrder),(.ref C_NoWeight),(.ref C_NoShare),(.ref C_NoThing)]=some false) :
  ∃ fd:FuncData,(∀ (s:Shared) (v:Value),BindsTo s fd ⟨[v],[]⟩ [("_law_script", v)])∧∀ base:Heap,K.In base→base.Ns mainGlobals mg→LamX.TabB base mg c T→FnG l.prog w K mg base (CXM l.prog w) 8 fa fd ["_law_script"] (spL ⟨K,l.prog,w,mg⟩ T mf_law):=by
 cases hfa.symm.trans (PySem.W.mg_of X G a_law)
 have D_is_whole:=(dn_mk (st:=s_is_whole) l_is_whole c_is_whole k_is_whole)
 have D_common:=(dn_mk (st:=s_common) l_common c_common k_common)
 have D_show_share:=(dn_mk (st:=s_show_share) l_show_share c_show_share k_show_share)
 have D_number_in:=(dn_mk (st:=s_number_in) l_number_in c_number_in k_number_in)
 have D_law_pen:=(dn_mk (st:=s_law_pen) l_law_pen c_law_pen k_law_pen)
 have D_law_draw:=(dn_mk (st:=s_law_draw) l_law_draw c_law_draw k_law_draw)
 have D_law_reduced:=(dn_mk (st:=s_law_reduced) l_law_reduced c_law_reduced k_law_reduced)
 have D_law_writ:=(dn_mk (st:=s_law_writ) l_law_writ c_law_writ k_law_writ)
 have D_law_number_in:=(dn_mk (st:=s_law_number_in) l_law_number_in c_law_number_in k_law_number_in)
 have D_law_heard:=(dn_mk (st:=s_law_heard) l_law_heard c_law_heard k_law_heard)
 have D_is_share:=(dn_mk (st:=s_is_share) l_is_share c_is_share k_is_share)
 have D_law_pick:=(dn_mk (st:=s_law_pick) l_law_pick c_law_pick k_law_pick)
 have D_law_share_in:=(dn_mk (st:=s_law_share_in) l_law_share_in c_law_share_in k_law_share_in)
 have D_need:=(dn_mk1N l_need c_need k_need q_need)
 have D_share_in:=(dn_mk (st:=s_share_in) l_share_in c_share_in k_share_in)
 have D_law_any:=(dn_mk (st:=s_law_any) l_law_any c_law_any k_law_any)
 have D_law_warped:=(dn_mk (st:=s_law_warped) l_law_warped c_law_warped k_law_warped)
 have D_read_share:=(dn_mk (st:=s_read_share) l_read_share c_read_share k_read_share)
 have D_law_right:=(dn_mk (st:=s_law_right) l_law_right c_law_right k_law_right)
 have D_law:=(dn_mk (st:=s_law) l_law c_law k_law)
 refine ⟨_,fun s v=>D_law.bindsA (ps:=["_law_script"]) (fun _ _ _ _ _ _ us hl=>match us,hl with | [_],_=>rfl) s [v] rfl,fun base _ _ TB=>?_⟩
 have b_ValueError:=PySem.W.mg_none_of X G z_ValueError
 have b_abs:=PySem.W.mg_none_of X G z_abs
 have b_all:=PySem.W.mg_none_of X G z_all
 have b_bool:=PySem.W.mg_none_of X G z_bool
 have b_int:=PySem.W.mg_none_of X G z_int
 have b_isinstance:=PySem.W.mg_none_of X G z_isinstance
 have b_len:=PySem.W.mg_none_of X G z_len
 have b_max:=PySem.W.mg_none_of X G z_max
 have b_range:=PySem.W.mg_none_of X G z_range
 have b_repr:=PySem.W.mg_none_of X G z_repr
 have b_str:=PySem.W.mg_none_of X G z_str
 have b_tuple:=PySem.W.mg_none_of X G z_tuple
 have x_CrossError:ExC K mg "CrossError" C_CrossError [.type "ValueError", .type "Exception", .type "BaseException", .type "object"] "ValueError.__new__" := ⟨PySem.W.mg_of X G aX_CrossError,excIn_mk lX_CrossError nX_CrossError rX_CrossError iX_CrossError rfl,kX_CrossError,sX_CrossError,tX_CrossError⟩
 have x_NoShare:ExC K mg "NoShare" C_NoShare [.type "ZeroDivisionError", .type "ArithmeticError", .type "Exception", .type "BaseException", .type "object"] "ZeroDivisionError.__new__" := ⟨PySem.W.mg_of X G aX_NoShare,excIn_mk lX_NoShare nX_NoShare rX_NoShare iX_NoShare rfl,kX_NoShare,sX_NoShare,tX_NoShare⟩
 have x_NoThing:ClsG mg "NoThing" C_NoThing:=⟨PySem.W.mg_of X G aX_NoThing⟩
 have x_NoCase:ClsG mg "NoCase" C_NoCase:=⟨PySem.W.mg_of X G aX_NoCase⟩
 have x_NoOrder:ExC K mg "NoOrder" C_NoOrder [.type "ValueError", .type "Exception", .type "BaseException", .type "object"] "ValueError.__new__" := ⟨PySem.W.mg_of X G aX_NoOrder,excIn_mk2 lX_NoOrder nX_NoOrder rX_NoOrder iX_NoOrder lX_CrossError nX_CrossError rX_CrossError iX_CrossError rfl,kX_NoOrder,sX_NoOrder,tX_NoOrder⟩
 have x_NoText:ClsG mg "NoText" C_NoText:=⟨PySem.W.mg_of X G aX_NoText⟩
 have o_NoText:L2.OexC K C_NoText:=⟨⟨_,_,_,_,_,_,_,_,_,_,_,_,_,_,_,lX_NoText,rfl⟩,saX_NoText,sX_NoText,tX_NoText,kX_NoText⟩
 have F_NoText:FnOk l.prog w K mg base (CXM l.prog w) 1 fI_NoText _ ["self", "at"] (spI C_NoText "at"):=wI_NoText o_NoText tkX_NoText (PySem.W.mg_of X G aX_CrossError) gaB rdB vB lIX_NoText cIX_NoText
 have bI_NoText:Binds K (PySem.W.fnOf "__init__" "NoText.__init__" (defArgs st_NoText) (defBody st_NoText) (defScope st_NoText) .none kVI_NoText dcI_NoText pmI_NoText anI_NoText cdI_NoText ctI_NoText) ["self", "at"] []:=.all fun us hl=>match us,hl with | [_,_],_=>rfl
 have x_NoWeight:ExC K mg "NoWeight" C_NoWeight [.type "ValueError", .type "Exception", .type "BaseException", .type "object"] "ValueError.__new__" := ⟨PySem.W.mg_of X G aX_NoWeight,excIn_mk2 lX_NoWeight nX_NoWeight rX_NoWeight iX_NoWeight lX_CrossError nX_CrossError rX_CrossError iX_CrossError rfl,kX_NoWeight,sX_NoWeight,tX_NoWeight⟩
 have xm_NoText_CrossError:=exm_of sX_CrossError jX_CrossError tX_CrossError sX_NoText_CrossError
 have xm_NoText_NoShare:=exm_of sX_NoShare jX_NoShare tX_NoShare sX_NoText_NoShare
 have xm_NoText_NoThing:=exm_of sX_NoThing jX_NoThing tX_NoThing sX_NoText_NoThing
 have xe_NoText:ExcC K C_NoText:=⟨gE_NoText,hE_NoText,sX_NoText,dE_NoText,cE_NoText,nE,tE,mE_NoText⟩
 have g_FIGURES:=globS (K:=K) (PySem.W.mg_of X G mGFIGURES)
 have g_MOST_FIGURES:=globI (K:=K) (PySem.W.mg_of X G mGMOST_FIGURES)
 have W_is_whole:FnG l.prog w K mg base (CXM l.prog w) _ _ _ _ _:=w_is_whole D_is_whole b_bool b_int b_isinstance
 have h_is_whole:Has l.prog w K mg base 1 "is_whole" 1 [] mf_is_whole:=⟨_,_,_,[],[],W_is_whole,PySem.W.mg_of X G a_is_whole,k_is_whole,D_is_whole.bindsN (fun _ _ _ _ _ _ us hl=>match us,hl with | [_],_=>rfl),.nil,fun _=>.nil⟩
 have W_common:FnG l.prog w K mg base (CXM l.prog w) _ _ _ _ _:=w_common D_common b_abs
 have h_common:Has l.prog w K mg base 1 "common" 2 [] mf_common:=⟨_,_,_,[],[],W_common,PySem.W.mg_of X G a_common,k_common,D_common.bindsN (fun _ _ _ _ _ _ us hl=>match us,hl with | [_,_],_=>rfl),.nil,fun _=>.nil⟩
 have W_show_share:FnG l.prog w K mg base (CXM l.prog w) _ _ _ _ _:=w_show_share D_show_share b_str
 have h_show_share:Has l.prog w K mg base 1 "show_share" 1 [] mf_show_share:=⟨_,_,_,[],[],W_show_share,PySem.W.mg_of X G a_show_share,k_show_share,D_show_share.bindsN (fun _ _ _ _ _ _ us hl=>match us,hl with | [_],_=>rfl),.nil,fun _=>.nil⟩
 have h_show_share_k0_share:HasK l.prog w K mg base 1 "show_share" 1 0 ["share"] [.inr 0] mf_show_share:=⟨⟨_,_,_,W_show_share,PySem.W.mg_of X G a_show_share,k_show_share,rfl,dn_kw D_show_share fun _ _ _ _ _ _ us ws l1 l2=>match us,ws,l1,l2 with | [],[_],_,_=>rfl⟩⟩
 have W_number_in:FnG l.prog w K mg base (CXM l.prog w) _ _ _ _ _:=w_number_in D_number_in b_all b_int b_len b_str g_FIGURES g_MOST_FIGURES
 have h_number_in:Has l.prog w K mg base 1 "number_in" 1 [] mf_number_in:=⟨_,_,_,[],[],W_number_in,PySem.W.mg_of X G a_number_in,k_number_in,D_number_in.bindsN (fun _ _ _ _ _ _ us hl=>match us,hl with | [_],_=>rfl),.nil,fun _=>.nil⟩
 have W_law_pen:FnG l.prog w K mg base (CXM l.prog w) _ _ _ _ _:=w_law_pen D_law_pen
 have h_law_pen:Has l.prog w K mg base 1 "_law_pen" 1 [] mf_law_pen:=⟨_,_,_,[],[],W_law_pen,PySem.W.mg_of X G a_law_pen,k_law_pen,D_law_pen.bindsN (fun _ _ _ _ _ _ us hl=>match us,hl with | [_],_=>rfl),.nil,fun _=>.nil⟩
 have W_law_draw:FnG l.prog w K mg base (CXM l.prog w) _ _ _ _ _:=w_law_draw D_law_draw b_abs b_len
 have h_law_draw:HasQ l.prog w K mg base 1 "_law_draw" 2 mq_law_draw:=⟨_,_,_,W_law_draw,PySem.W.mg_of X G a_law_draw,k_law_draw,D_law_draw.bindsN fun _ _ _ _ _ _ us hl=>match us,hl with | [_,_],_=>rfl⟩
 have W_law_reduced:FnG l.prog w K mg base (CXM l.prog w) _ _ _ _ _:=w_law_reduced D_law_reduced b_abs
 have h_law_reduced:Has l.prog w K mg base 1 "_law_reduced" 2 [] mf_law_reduced:=⟨_,_,_,[],[],W_law_reduced,PySem.W.mg_of X G a_law_reduced,k_law_reduced,D_law_reduced.bindsN (fun _ _ _ _ _ _ us hl=>match us,hl with | [_,_],_=>rfl),.nil,fun _=>.nil⟩
 have W_law_writ:FnG l.prog w K mg base (CXM l.prog w) _ _ _ _ _:=w_law_writ D_law_writ b_str
 have h_law_writ:Has l.prog w K mg base 1 "_law_writ" 1 [] mf_law_writ:=⟨_,_,_,[],[],W_law_writ,PySem.W.mg_of X G a_law_writ,k_law_writ,D_law_writ.bindsN (fun _ _ _ _ _ _ us hl=>match us,hl with | [_],_=>rfl),.nil,fun _=>.nil⟩
 have W_law_number_in:FnG l.prog w K mg base (CXM l.prog w) _ _ _ _ _:=w_law_number_in D_law_number_in b_int b_len b_str
 have h_law_number_in:Has l.prog w K mg base 1 "_law_number_in" 1 [] mf_law_number_in:=⟨_,_,_,[],[],W_law_number_in,PySem.W.mg_of X G a_law_number_in,k_law_number_in,D_law_number_in.bindsN (fun _ _ _ _ _ _ us hl=>match us,hl with | [_],_=>rfl),.nil,fun _=>.nil⟩
 have h_law_heard:Heard l.prog w K mg base 1 "_law_heard" mf_law_heard:=w_law_heard D_law_heard b_isinstance x_CrossError x_NoCase x_NoOrder x_NoShare x_NoText x_NoThing x_NoWeight xm_NoText_CrossError xm_NoText_NoShare xm_NoText_NoThing xe_NoText fF_NoText_at kO_NoText_NoText kT_NoText_NoCase_NoOrder_NoWeight_NoShare_NoThing (PySem.W.mg_of X G a_law_heard) k_law_heard (D_law_heard.bindsN fun _ _ _ _ _ _ us hl=>match us,hl with | [_],_=>rfl)
 have W_is_share:FnG l.prog w K mg base (CXM l.prog w) _ _ _ _ _:=w_is_share D_is_share b_isinstance b_len b_tuple h_is_whole h_common
 have h_is_share:Has l.prog w K mg base 2 "is_share" 1 [] mf_is_share:=⟨_,_,_,[],[],W_is_share,PySem.W.mg_of X G a_is_share,k_is_share,D_is_share.bindsN (fun _ _ _ _ _ _ us hl=>match us,hl with | [_],_=>rfl),.nil,fun _=>.nil⟩
 have W_law_pick:FnG l.prog w K mg base (CXM l.prog w) _ _ _ _ _:=w_law_pick D_law_pick b_len h_law_draw
 have h_law_pick:HasQ l.prog w K mg base 2 "_law_pick" 2 mq_law_pick:=⟨_,_,_,W_law_pick,PySem.W.mg_of X G a_law_pick,k_law_pick,D_law_pick.bindsN fun _ _ _ _ _ _ us hl=>match us,hl with | [_,_],_=>rfl⟩
 have W_law_share_in:FnG l.prog w K mg base (CXM l.prog w) _ _ _ _ _:=w_law_share_in D_law_share_in b_int b_len h_law_number_in h_law_reduced h_law_writ
 have h_law_share_in:Has l.prog w K mg base 2 "_law_share_in" 1 [] mf_law_share_in:=⟨_,_,_,[],[],W_law_share_in,PySem.W.mg_of X G a_law_share_in,k_law_share_in,D_law_share_in.bindsN (fun _ _ _ _ _ _ us hl=>match us,hl with | [_],_=>rfl),.nil,fun _=>.nil⟩
 have W_need:FnG l.prog w K mg base (CXM l.prog w) _ _ _ _ _:=w_need D_need x_NoText o_NoText iX_NoText tIX_NoText F_NoText bI_NoText
 have h_need_d:Has l.prog w K mg base 3 "need" 2 [.none] mf_need:=by
  obtain ⟨ds,v,b⟩:=D_need.binds1 (ps:=["truth", "at"]) 1 0 (by simp) rfl (fun _ _ _ _ _ _ _ us its hl hl2=>match us,its,hl,hl2 with | [_],[_],_,_=>⟨_,rfl,rfl⟩)
  exact ⟨_,_,_,_,ds,W_need,PySem.W.mg_of X G a_need,k_need,b,v,fun _=>.cons (.non) .nil⟩
 have W_share_in:FnG l.prog w K mg base (CXM l.prog w) _ _ _ _ _:=w_share_in D_share_in h_number_in h_is_share h_show_share
 have h_share_in:Has l.prog w K mg base 3 "share_in" 1 [] mf_share_in:=⟨_,_,_,[],[],W_share_in,PySem.W.mg_of X G a_share_in,k_share_in,D_share_in.bindsN (fun _ _ _ _ _ _ us hl=>match us,hl with | [_],_=>rfl),.nil,fun _=>.nil⟩
 have W_law_any:FnG l.prog w K mg base (CXM l.prog w) _ _ _ _ _:=w_law_any D_law_any b_max h_law_draw h_law_pick h_law_reduced
 have h_law_any:HasQ l.prog w K mg base 3 "_law_any" 1 mq_law_any:=⟨_,_,_,W_law_any,PySem.W.mg_of X G a_law_any,k_law_any,D_law_any.bindsN fun _ _ _ _ _ _ us hl=>match us,hl with | [_],_=>rfl⟩
 have W_law_warped:FnG l.prog w K mg base (CXM l.prog w) _ _ _ _ _:=w_law_warped D_law_warped b_len h_law_draw h_law_pick
 have h_law_warped:HasQ l.prog w K mg base 3 "_law_warped" 2 mq_law_warped:=⟨_,_,_,W_law_warped,PySem.W.mg_of X G a_law_warped,k_law_warped,D_law_warped.bindsN fun _ _ _ _ _ _ us hl=>match us,hl with | [_,_],_=>rfl⟩
 have W_read_share:FnG l.prog w K mg base (CXM l.prog w) _ _ _ _ _:=w_read_share D_read_share b_isinstance b_str h_need_d h_share_in
 have h_read_share:Has l.prog w K mg base 4 "read_share" 1 [] mf_read_share:=⟨_,_,_,[],[],W_read_share,PySem.W.mg_of X G a_read_share,k_read_share,D_read_share.bindsN (fun _ _ _ _ _ _ us hl=>match us,hl with | [_],_=>rfl),.nil,fun _=>.nil⟩
 have h_read_share_k0_text:HasK l.prog w K mg base 4 "read_share" 1 0 ["text"] [.inr 0] mf_read_share:=⟨⟨_,_,_,W_read_share,PySem.W.mg_of X G a_read_share,k_read_share,rfl,dn_kw D_read_share fun _ _ _ _ _ _ us ws l1 l2=>match us,ws,l1,l2 with | [],[_],_,_=>rfl⟩⟩
 have W_law_right:FnG l.prog w K mg base (CXM l.prog w) _ _ _ _ _:=w_law_right l_law_right c_law_right TB b_isinstance b_repr b_str h_law_share_in h_law_heard h_read_share h_read_share_k0_text
 have h_law_right:HasT l.prog w K mg base T _ 7 "_law_right" 1 mf_law_right:=⟨⟨_,_,_,W_law_right,PySem.W.mg_of X G a_law_right,k_law_right,D_law_right.bindsN fun _ _ _ _ _ _ us hl=>match us,hl with | [_],_=>rfl⟩⟩
 exact w_law D_law b_ValueError b_isinstance b_range b_str x_NoText o_NoText iX_NoText tIX_NoText F_NoText bI_NoText xe_NoText kO_NoText_ValueError h_law_pen h_law_any h_show_share h_law_writ h_show_share_k0_share h_law_right h_law_warped h_law_pick
end K78
namespace Tx
open PySem PySem.Spec PyProof.Rows L2 Xm Builtin Builtin.Str StrLaws
abbrev S (cs:List Nat):Str:=⟨cs.toArray⟩
abbrev S1 (c:Nat):Str:=⟨#[c]⟩
theorem s_eta (z:Str):S z.cps.toList=z:=by cases z; simp
theorem s_len (cs:List Nat):(S cs).length=cs.length:=by simp [Str.length]
theorem len_cs (z:Str):z.cps.toList.length=z.length:=Array.length_toList
theorem s_inj {a b:List Nat} (h:S a=S b):a=b:=by
 have:=congrArg (fun s:Str=>s.cps.toList) h
 simpa using this
theorem str_ext {a b:Str} (h:a.cps.toList=b.cps.toList):a=b:=by rw [← s_eta a,← s_eta b,h]
def pos (cs:List Nat) (c a m:Nat):List Nat:=(List.range' a m).filter fun i=>decide (cs[i]?=some c)
theorem occ_go (z:Str) (c:Nat):∀ (m a:Nat) (st:Array Nat × Nat),st.2 ≤ a→st.1.size ≤ a→a + m ≤ z.length + 1→(forIn (List.range' a m) st (occBody z (S1 c) z.length (z.length + 1))).run.fst.toList=st.1.toList++pos z.cps.toList c a m
 | 0,a,st,_,_,_=>by simp [pos]
 | m + 1,a,st,h1,h2,h3=>by
  rw [List.range'_succ,List.forIn_cons]
  unfold occBody
  have e:pos z.cps.toList c a (m + 1)=if z.cps.toList[a]?=some c then a::pos z.cps.toList c (a + 1) m else pos z.cps.toList c (a + 1) m:=by
   unfold pos
   rw [List.range'_succ,List.filter_cons]
   by_cases hc:z.cps.toList[a]?=some c
   ·rw [if_pos (decide_eq_true hc),if_pos hc]
   ·rw [if_neg (by rw [decide_eq_false hc]; exact Bool.false_ne_true),if_neg hc]
  have hs:=subAt_one z c a
  by_cases hc:z.cps.toList[a]?=some c
  ·have h:=hs.mpr hc
   rw [if_pos ⟨⟨⟨by omega,h1⟩,h.1⟩,h.2⟩,e,if_pos hc]
   show (forIn (List.range' (a + 1) m) (st.1.push a,a + 1) (occBody z (S1 c) z.length (z.length + 1))).run.fst.toList=_
   rw [occ_go z c m (a + 1) (st.1.push a,a + 1) (Nat.le_refl _) (by simp; omega) (by omega)]
   simp
  ·rw [if_neg fun h=>hc (hs.mp ⟨h.1.2,h.2⟩),e,if_neg hc]
   show (forIn (List.range' (a + 1) m) st (occBody z (S1 c) z.length (z.length + 1))).run.fst.toList=_
   exact occ_go z c m (a + 1) st (by omega) (by omega) (by omega)
theorem occ_all (z:Str) (c:Nat):occurrences z (S1 c) 0 z.length (z.length + 1)=pos z.cps.toList c 0 (z.length + 1):=by
 rw [occ_eq,occ_go z c _ 0 _ (Nat.le_refl _) (by simp) (by omega)]
 simp
def cutAt (c:Nat):List Nat→List (List Nat)
 | []=>[[]]
 | x::r=>if x=c then []::cutAt c r else match cutAt c r with
  | h::t=>(x::h)::t
  | []=>[]
theorem cutAt_ne (c:Nat):∀ cs,cutAt c cs≠[]
 | []=>by simp [cutAt]
 | x::r=>by
  unfold cutAt
  split
  ·simp
  ·cases h:cutAt c r with
   | nil=>exact absurd h (cutAt_ne c r)
   | cons a t=>simp
theorem cutAt_free {c:Nat}:∀ {cs:List Nat},c ∉ cs→cutAt c cs=[cs]
 | [],_=>rfl
 | x::r,h=>by
  have h1:x≠c:=fun e=>h (e ▸ List.mem_cons_self ..)
  have h2:c ∉ r:=fun m=>h (List.mem_cons_of_mem _ m)
  unfold cutAt
  rw [if_neg h1,cutAt_free h2]
theorem cutAt_app {c:Nat}:∀ {a b:List Nat},c ∉ a→cutAt c (a++c::b)=a::cutAt c b
 | [],b,_=>by
  show cutAt c (c::b)=_
  conv=>lhs; unfold cutAt
  rw [if_pos rfl]
 | x::r,b,h=>by
  have h1:x≠c:=fun e=>h (e ▸ List.mem_cons_self ..)
  have h2:c ∉ r:=fun m=>h (List.mem_cons_of_mem _ m)
  show cutAt c (x::(r++c::b))=_
  conv=>lhs; unfold cutAt
  rw [if_neg h1,cutAt_app h2]
theorem cutAt_mem {c:Nat}:∀ {cs p:List Nat},p ∈ cutAt c cs→p.length ≤ cs.length∧c ∉ p∧∀ x ∈ p,x ∈ cs
 | [],p,h=>by
  have:p=[]:=by simpa [cutAt] using h
  subst this
  exact ⟨Nat.le_refl _,by simp,by simp⟩
 | x::r,p,h=>by
  unfold cutAt at h
  split at h
  ·rcases List.mem_cons.mp h with rfl | h
   ·exact ⟨by simp,by simp,by simp⟩
   ·have ⟨h1,h2,h3⟩:=cutAt_mem h
    exact ⟨by simp; omega,h2,fun y hy=>List.mem_cons_of_mem _ (h3 y hy)⟩
  ·rename_i hx
   cases hr:cutAt c r with
   | nil=>rw [hr] at h; cases h
   | cons a t=>
    rw [hr] at h
    rcases List.mem_cons.mp h with rfl | h
    ·have ⟨h1,h2,h3⟩:=cutAt_mem (show a ∈ cutAt c r by rw [hr]; exact List.mem_cons_self ..)
     refine ⟨by simp; omega,fun m=>?_,fun y hy=>?_⟩
     ·rcases List.mem_cons.mp m with e | m
      ·exact hx e.symm
      ·exact h2 m
     ·rcases List.mem_cons.mp hy with rfl | hy
      ·exact List.mem_cons_self ..
      ·exact List.mem_cons_of_mem _ (h3 y hy)
    ·have ⟨h1,h2,h3⟩:=cutAt_mem (show p ∈ cutAt c r by rw [hr]; exact List.mem_cons_of_mem _ h)
     exact ⟨by simp; omega,h2,fun y hy=>List.mem_cons_of_mem _ (h3 y hy)⟩
theorem cutAt_len (c:Nat):∀ cs:List Nat,(cutAt c cs).length ≤ cs.length + 1
 | []=>Nat.le_refl _
 | x::r=>by
  have ih:=cutAt_len c r
  unfold cutAt
  split
  ·simp; omega
  ·cases hr:cutAt c r with
   | nil=>simp
   | cons a t=>rw [hr] at ih; simp at ih ⊢; omega
def partsF (z:Str):Nat→List Nat→List Str
 | a,[]=>[strSub z a z.length]
 | a,i::r=>strSub z a i::partsF z (i + 1) r
theorem parts_zip (z:Str):∀ (cuts:List Nat) (a:Nat),((a::cuts.map (· + 1)).zip (cuts++[z.length])).map (fun (i,j)=>strSub z i j)=partsF z a cuts
 | [],a=>rfl
 | i::r,a=>by
  show strSub z a i::(((i + 1)::r.map (· + 1)).zip (r++[z.length])).map _=_
  rw [parts_zip z r (i + 1)]
  rfl
theorem sub_s (z:Str) (i j:Nat):strSub z i j=S ((z.cps.toList.drop i).take (j - i)):=by
 refine str_ext ?_
 show (z.cps.extract i j).toList=_
 simp [List.extract_eq_drop_take]
theorem pos_ge {cs:List Nat} {c a m i:Nat} (h:i ∈ pos cs c a m):a ≤ i:=by
 unfold pos at h
 have:=List.mem_range'.mp (List.mem_filter.mp h).1
 omega
theorem parts_cut (z:Str) (c:Nat):∀ (m a:Nat),a + m=z.length + 1→1 ≤ m→partsF z a (pos z.cps.toList c a m)=(cutAt c (z.cps.toList.drop a)).map S
 | 0,_,_,h=>absurd h (by omega)
 | m + 1,a,h1,_=>by
  have hl:=len_cs z
  by_cases hm:m=0
  ·subst hm
   have ha:a=z.length:=by omega
   subst ha
   have e:pos z.cps.toList c z.length 1=[]:=by
    unfold pos
    simp only [List.range'_succ,List.range'_zero,List.filter_cons,List.filter_nil]
    rw [List.getElem?_eq_none (by omega)]
    rfl
   rw [e]
   show [strSub z z.length z.length]=_
   rw [sub_s,List.drop_eq_nil_of_le (by omega),List.take_nil]
   rfl
  ·have ih:=parts_cut z c m (a + 1) (by omega) (by omega)
   have hlt:a < z.cps.toList.length:=by omega
   have ed:z.cps.toList.drop a=z.cps.toList[a]::z.cps.toList.drop (a + 1):=List.drop_eq_getElem_cons hlt
   have e:pos z.cps.toList c a (m + 1)=if z.cps.toList[a]=c then a::pos z.cps.toList c (a + 1) m else pos z.cps.toList c (a + 1) m:=by
    unfold pos
    rw [List.range'_succ,List.filter_cons,List.getElem?_eq_getElem hlt]
    by_cases hc:z.cps.toList[a]=c
    ·rw [if_pos (by simp [hc]),if_pos hc]
    ·rw [if_neg (by rw [decide_eq_true_eq]; exact fun h=>hc (Option.some.inj h)),if_neg hc]
   rw [e,ed]
   conv=>rhs; unfold cutAt
   by_cases hc:z.cps.toList[a]=c
   ·rw [if_pos hc,if_pos hc]
    show strSub z a a::partsF z (a + 1) (pos z.cps.toList c (a + 1) m)=_
    rw [ih,sub_s]
    simp
   ·rw [if_neg hc,if_neg hc]
    cases hP:pos z.cps.toList c (a + 1) m with
    | nil=>
     rw [hP] at ih
     have ih:[strSub z (a + 1) z.length]=_:=ih
     cases hr:cutAt c (z.cps.toList.drop (a + 1)) with
     | nil=>exact absurd hr (cutAt_ne _ _)
     | cons x t=>
      rw [hr] at ih
      rw [List.map_cons] at ih
      injection ih with i1 i2
      show [strSub z a z.length]=S (z.cps.toList[a]::x)::t.map S
      rw [← i2,sub_s,ed]
      rw [sub_s] at i1
      have:=s_inj i1
      rw [show z.length - a=(z.length - (a + 1)) + 1 by omega,List.take_succ_cons,this]
    | cons i r=>
     rw [hP] at ih
     have ih:strSub z (a + 1) i::partsF z (i + 1) r=_:=ih
     have hi:a + 1 ≤ i:=pos_ge (hP ▸ List.mem_cons_self ..)
     cases hr:cutAt c (z.cps.toList.drop (a + 1)) with
     | nil=>exact absurd hr (cutAt_ne _ _)
     | cons x t=>
      rw [hr] at ih
      rw [List.map_cons] at ih
      injection ih with i1 i2
      show strSub z a i::partsF z (i + 1) r=S (z.cps.toList[a]::x)::t.map S
      rw [← i2,sub_s,ed]
      rw [sub_s] at i1
      have:=s_inj i1
      rw [show i - a=(i - (a + 1)) + 1 by omega,List.take_succ_cons,this]
theorem kind_1 {c:Nat} (h:c < 256):Builtin.Str.strKind (S1 c)=1:=by
 unfold Builtin.Str.strKind
 rw [if_pos (by simp [h])]
theorem kind_ge (z:Str):1 ≤ Builtin.Str.strKind z:=by
 unfold Builtin.Str.strKind
 split
 ·exact Nat.le_refl _
 ·split <;> omega
theorem split_cut (z:Str) {c:Nat} (h:c < 256):Txt.split z (S1 c)=(cutAt c z.cps.toList).map S:=by
 have hp:=parts_cut z c (z.length + 1) 0 (by omega) (by omega)
 rw [List.drop_zero] at hp
 unfold Txt.split
 have hk:decide (Builtin.Str.strKind z < Builtin.Str.strKind (S1 c))=false:=by
  rw [kind_1 h]
  exact decide_eq_false (by have:=kind_ge z; omega)
 have hl1:(S1 c).length=1:=rfl
 rw [hk,Bool.or_false,occ_all]
 split
 ·rename_i h0
  have h0:=of_decide_eq_true h0
  have hz:z.cps.toList=[]:=List.eq_nil_of_length_eq_zero (by rw [len_cs]; omega)
  rw [hz]
  show [z]=[S []]
  rw [← s_eta z,hz]
 ·split
  ·rename_i h1
   have:pos z.cps.toList c 0 (z.length + 1)=[]:=List.isEmpty_iff.mp h1
   rw [this] at hp
   rw [← hp]
   show [z]=[strSub z 0 z.length]
   rw [sub_s,List.drop_zero,Nat.sub_zero,List.take_of_length_le (by rw [len_cs]; omega),s_eta]
  ·unfold partsBetween
   rw [hl1,← hp]
   exact parts_zip z _ 0
theorem part_free (z:Str) {c:Nat} (h:c ∉ z.cps.toList):Txt.partition z (S1 c)=(z,Str.empty,Str.empty):=by
 unfold Txt.partition
 rcases occ_head z (S1 c) 1 (Nat.le_refl _) with ⟨e,_⟩ | ⟨i,r,e,hi,_⟩
 ·rw [e]
 ·exact absurd (List.mem_of_getElem? ((subAt_one z c i).mp hi)) h
theorem part_app (z:Str) {c:Nat} {a b:List Nat} (e:z.cps.toList=a++c::b) (h:c ∉ a):Txt.partition z (S1 c)=(S a,S1 c,S b):=by
 unfold Txt.partition
 have ha:z.cps.toList[a.length]?=some c:=by rw [e]; simp
 rcases occ_head z (S1 c) 1 (Nat.le_refl _) with ⟨_,hn⟩ | ⟨i,r,eo,hi,hk⟩
 ·exact absurd ((subAt_one z c a.length).mpr ha) (hn _)
 ·have hi2:=(subAt_one z c i).mp hi
  have:i=a.length:=by
   rcases Nat.lt_trichotomy i a.length with hlt | he | hgt
   ·rw [e,List.getElem?_append_left hlt] at hi2
    exact absurd (List.mem_of_getElem? hi2) h
   ·exact he
   ·exact absurd ((subAt_one z c a.length).mpr ha) (hk _ hgt)
  subst this
  rw [eo]
  show (strSub z 0 a.length,_,strSub z (a.length + 1) z.length)=_
  have hl:=len_cs z
  rw [e] at hl
  simp at hl
  rw [sub_s,sub_s,e,List.drop_zero,Nat.sub_zero,List.take_left' rfl]
  have:(a++c::b).drop (a.length + 1)=b:=by
   rw [show a++c::b=(a++[c])++b by simp,List.drop_left' (by simp)]
  rw [this,List.take_of_length_le (by omega)]
theorem first_of {c:Nat}:∀ {cs:List Nat},c ∈ cs→∃ a b,cs=a++c::b∧c ∉ a
 | x::r,h=>by
  by_cases hx:x=c
  ·subst hx
   exact ⟨[],r,rfl,by simp⟩
  ·rcases List.mem_cons.mp h with e | h
   ·exact absurd e.symm hx
   ·obtain ⟨a,b,e,hn⟩:=first_of h
    refine ⟨x::a,b,by rw [e]; rfl,fun m=>?_⟩
    rcases List.mem_cons.mp m with e | m
    ·exact hx e.symm
    ·exact hn m
theorem app_inj {c:Nat}:∀ {a b a' b':List Nat},a++c::b=a'++c::b'→c ∉ a→c ∉ a'→a=a'∧b=b'
 | [],b,[],b',h,_,_=>by injection h with _ h; exact ⟨rfl,h⟩
 | [],b,x::a',b',h,_,h2=>by injection h with h _; exact absurd (h ▸ List.mem_cons_self ..) h2
 | x::a,b,[],b',h,h1,_=>by injection h with h _; exact absurd (h ▸ List.mem_cons_self ..) h1
 | x::a,b,y::a',b',h,h1,h2=>by
  injection h with e h
  have:=app_inj h (fun m=>h1 (List.mem_cons_of_mem _ m)) (fun m=>h2 (List.mem_cons_of_mem _ m))
  exact ⟨by rw [e,this.1],this.2⟩
theorem starts_eq (z:Str) (c:Nat):Txt.startswith z (S1 c)=decide (z.cps.toList.head?=some c):=by
 unfold Txt.startswith
 have h:=subAt_one z c 0
 rw [List.head?_eq_getElem?]
 by_cases hc:z.cps.toList[0]?=some c
 ·have h2:=h.mpr hc
  rw [decide_eq_true h2.1,h2.2,decide_eq_true hc]; rfl
 ·rw [decide_eq_false hc]
  cases hb:(decide (0 + (S1 c).length ≤ z.length) && subAt z (S1 c) 0) with
  | false=>rfl
  | true=>
   rw [Bool.and_eq_true,decide_eq_true_eq] at hb
   exact absurd (h.mp hb) hc
theorem cut_drop (z:Str) (k:Nat):cutS z (some (k:Int)) none=S (z.cps.toList.drop k):=by
 unfold cutS
 have hl:=len_cs z
 have e1:HT.sIx z.length z.length none=z.length:=rfl
 have e2:HT.sIx z.length 0 (some (k:Int))=min k z.length:=by
  unfold HT.sIx
  simp
  omega
 rw [e1,e2]
 refine congrArg S ?_
 generalize z.cps.toList=l at *
 by_cases hk:k ≤ z.length
 ·rw [Nat.min_eq_left hk,List.take_of_length_le (by simp [hl])]
 ·rw [Nat.min_eq_right (by omega),List.drop_eq_nil_of_le (by omega),List.drop_eq_nil_of_le (by omega),List.take_nil]
theorem cut_take (z:Str) (k:Nat):cutS z none (some (k:Int))=S (z.cps.toList.take k):=by
 unfold cutS
 have hl:=len_cs z
 have e1:HT.sIx z.length 0 none=0:=rfl
 have e2:HT.sIx z.length z.length (some (k:Int))=min k z.length:=by
  unfold HT.sIx
  simp
  omega
 rw [e1,e2]
 refine congrArg S ?_
 generalize z.cps.toList=l at *
 rw [List.drop_zero,Nat.sub_zero]
 by_cases hk:k ≤ z.length
 ·rw [Nat.min_eq_left hk]
 ·rw [Nat.min_eq_right (by omega),List.take_of_length_le (by omega),List.take_of_length_le (by omega)]
theorem cut_len (z:Str) (lo hi:Option Int):(cutS z lo hi).length ≤ z.length:=by
 unfold cutS
 have:=len_cs z
 rw [s_len,List.length_take,List.length_drop]
 omega
end Tx
namespace Tx
open PySem PySem.Spec PyProof.Rows L2 Xm
abbrev zS (s:String):Str:=PySem.Str.ofString s
def wN (i:Int):Str:=zS (ToString.toString i)
theorem wN_len {i:Int} {k:Nat} (hk:0 < k) (h:i.natAbs < 10 ^ k):(wN i).length ≤ k + 1:=by
 unfold wN zS
 rw [PySem.ofString_length]
 exact int_text_length_le10 hk h
theorem log_le {i:Int} (h:i.natAbs < 10 ^ 300):i.natAbs.log2 < 1920:=by
 by_cases h0:i.natAbs=0
 ·rw [h0]; decide
 ·exact Nat.lt_of_lt_of_le ((Nat.log2_lt h0).mpr (Nat.lt_trans h (show 10 ^ 300 < 2 ^ 1000 by decide +kernel))) (by decide)
theorem k_strN {i:Int} (h:i.natAbs < 10 ^ 300):kStrA (.int i)=some (.str (wN i)):=if_pos (log_le h)
theorem k_fmtN {i:Int} (h:i.natAbs < 10 ^ 300):kFmt (.int i)=some (.str (wN i)):=if_pos (log_le h)
theorem wN_free {i:Int} {k:Nat} (hk:k≠45∧(k < 48∨57 < k)):k ∉ (wN i).cps.toList:=int_text_free' k hk i
theorem wN_nat (m:Nat):(wN (m:Int)).cps.toList=(Nat.toDigits 10 m).map Char.toNat:=PySem.W.KIN.signs_num m
theorem wN_neg (m:Nat):(wN (Int.negSucc m)).cps.toList=45::(Nat.toDigits 10 (m + 1)).map Char.toNat:=by
 unfold wN zS
 rw [signs_ofString]
 show ("-" ++ Nat.repr (m + 1)).toList.map Char.toNat=_
 rw [String.toList_append,List.map_append,Nat.toList_repr]
 rfl
theorem dig_no45 (m:Nat):45 ∉ (Nat.toDigits 10 m).map Char.toNat:=fun h=>by
 obtain ⟨ch,hc,e⟩:=List.mem_map.mp h
 have:=digit_range (Nat.isDigit_of_mem_toDigits (by decide) (by decide) hc)
 omega
theorem wN_inj {i j:Int} (h:wN i=wN j):i=j:=by
 have h2:=congrArg (fun z:Str=>z.cps.toList) h
 have h2:(wN i).cps.toList=(wN j).cps.toList:=h2
 cases i with
 | ofNat m=>
  cases j with
  | ofNat n=>
   have h2:(wN (m:Int)).cps.toList=(wN (n:Int)).cps.toList:=h2
   rw [wN_nat,wN_nat] at h2
   have:=congrArg NumText.digitsVal h2
   rw [PySem.W.KIN.val_back,PySem.W.KIN.val_back] at this
   rw [this]
  | negSucc n=>
   have h2:(wN (m:Int)).cps.toList=_:=h2
   rw [wN_nat,wN_neg] at h2
   exact absurd (h2 ▸ List.mem_cons_self ..) (dig_no45 m)
 | negSucc m=>
  cases j with
  | ofNat n=>
   have h2:_=(wN (n:Int)).cps.toList:=h2
   rw [wN_nat,wN_neg] at h2
   exact absurd (h2 ▸ List.mem_cons_self ..) (dig_no45 n)
  | negSucc n=>
   rw [wN_neg,wN_neg] at h2
   injection h2 with _ h2
   have:=congrArg NumText.digitsVal h2
   rw [PySem.W.KIN.val_back,PySem.W.KIN.val_back] at this
   have:m=n:=by omega
   rw [this]
def figs:List Nat→List Nat
 | 45::r=>r
 | cs=>cs
def digB (c:Nat):Bool:=decide (c ∈ [48,49,50,51,52,53,54,55,56,57])
theorem digB_iff {c:Nat}:digB c=true↔48 ≤ c∧c ≤ 57:=by
 unfold digB
 simp
 omega
def fOk (cs:List Nat):Bool:=(decide (1 ≤ (figs cs).length) && decide ((figs cs).length ≤ 12)) && (figs cs).all digB
theorem digitsVal_lt:∀ (cs:List Nat) (a:Nat),NumText.AllDigits cs→cs.foldl (fun acc c=>acc * 10 + (c - 48)) a < (a + 1) * 10 ^ cs.length
 | [],a,_=>by simp
 | c::r,a,h=>by
  have h1:=h.head
  have ih:=digitsVal_lt r (a * 10 + (c - 48)) h.tail
  rw [List.foldl_cons,List.length_cons]
  refine Nat.lt_of_lt_of_le ih ?_
  rw [Nat.pow_succ,Nat.mul_comm (10 ^ r.length) 10,← Nat.mul_assoc]
  exact Nat.mul_le_mul_right _ (by omega)
theorem fOk_int {z:Str} (h:fOk z.cps.toList=true):∃ n:Int,intText? z=some n∧n.natAbs < 10 ^ 12∧z.length ≤ 13:=by
 unfold fOk at h
 rw [Bool.and_eq_true,Bool.and_eq_true,decide_eq_true_eq,decide_eq_true_eq] at h
 obtain ⟨⟨h1,h2⟩,h3⟩:=h
 have hd:NumText.AllDigits (figs z.cps.toList):=fun c hc=>digB_iff.mp (List.all_eq_true.mp h3 c hc)
 have hl:=len_cs z
 have hv:=digitsVal_lt (figs z.cps.toList) 0 hd
 have hp:10 ^ (figs z.cps.toList).length ≤ 10 ^ 12:=Nat.pow_le_pow_right (by omega) h2
 have hv2:NumText.digitsVal (figs z.cps.toList) < 10 ^ 12:=by
  unfold NumText.digitsVal
  omega
 have hne:figs z.cps.toList≠[]:=fun e=>by rw [e] at h1; simp at h1
 by_cases hm:∃ r,z.cps.toList=45::r
 ·obtain ⟨r,hr⟩:=hm
  have ef:figs z.cps.toList=r:=by rw [hr]; rfl
  rw [ef] at hd hv2 hne h2
  have:z.length ≤ 13:=by rw [← hl,hr,List.length_cons]; omega
  exact ⟨_,intText_neg hr hd hne (by omega),by omega,this⟩
 ·have ef:figs z.cps.toList=z.cps.toList:=by
   generalize z.cps.toList=cs at hm
   unfold figs
   split
   ·exact absurd ⟨_,rfl⟩ hm
   ·rfl
  rw [ef] at hd hv2 hne h2
  have:z.length ≤ 13:=by omega
  exact ⟨_,intText_digits hd hne (by omega),by omega,this⟩
def numI (z:Str):Option Int:=if fOk z.cps.toList=true then (intText? z).bind fun n=>if wN n=z then some n else none else none
def numD (z:Str):D:=match numI z with
 | some n=>.int n
 | none=>.none
theorem numI_ok {z:Str} {n:Int} (h:numI z=some n):wN n=z∧n.natAbs < 10 ^ 12∧fOk z.cps.toList=true:=by
 unfold numI at h
 split at h
 ·rename_i hf
  obtain ⟨m,e,h⟩:=Option.bind_eq_some_iff.mp h
  split at h <;> cases h
  rename_i hw
  obtain ⟨k,e2,b,_⟩:=fOk_int hf
  rw [e] at e2
  cases e2
  exact ⟨hw,b,hf⟩
 ·cases h
theorem numI_free {z:Str} {k:Nat} (hk:k≠45∧(k < 48∨57 < k)) (h:k ∈ z.cps.toList):numI z=none:=by
 cases e:numI z with
 | none=>rfl
 | some n=>
  have:=(numI_ok e).1
  rw [← this] at h
  exact absurd h (wN_free hk)
theorem numI_none {z:Str} (h:numI z=none):numD z=.none:=by unfold numD; rw [h]
theorem numI_some {z:Str} {n:Int} (h:numI z=some n):numD z=.int n:=by unfold numD; rw [h]
end Tx
namespace K78
open PySem PySem.Spec PyProof.Rows L2 Xm Tx
open DwC (g_law_pen mf_law_pen e_law_pen g_law_draw mq_law_draw e_law_draw)
open DwD (g_is_whole mf_is_whole e_is_whole compL_map compL_all k_allMap)
open K07 (g_is_share mf_is_share e_is_share shareB m_is_share)
open K79 (g_show_share mf_show_share e_show_share g_law_reduced mf_law_reduced e_law_reduced g_law_writ mf_law_writ e_law_writ)
theorem zS_dig:(zS "0123456789").cps.toList=[48,49,50,51,52,53,54,55,56,57]:=by decide +kernel
theorem k_inD (c:Nat):kInS (.str ⟨#[c]⟩) (.str (zS "0123456789"))=some (.bool (digB c)):=by
 unfold kInS oneC
 show some (PyData.bool (decide (c ∈ (zS "0123456789").cps.toList)))=_
 rw [zS_dig]; rfl
theorem k_ninD (c:Nat):kNotInS (.str ⟨#[c]⟩) (.str (zS "0123456789"))=some (.bool (!digB c)):=by
 unfold kNotInS oneC
 show some (PyData.bool (!decide (c ∈ (zS "0123456789").cps.toList)))=_
 rw [zS_dig]; rfl
theorem k_cutS {z:Str} {lo hi:Option Int} (h:z.length ≤ 1000000):kCutS (.str z) lo hi=some (.str (cutS z lo hi)):=if_pos (sl_le h)
theorem k_lenS {z:Str} (h:z.length ≤ 1000000):kLenX (.str z)=some (.int z.length):=if_pos (sl_le h)
theorem k_starts (z:Str):kStarts (.str z) (.str (zS "-"))=some (.bool (decide (z.cps.toList.head?=some 45))):=by
 show some (PyData.bool (Txt.startswith z (zS "-")))=_
 rw [show zS "-" = S1 45 by decide +kernel,starts_eq]
theorem figs_not {cs:List Nat} (h:cs.head?≠some 45):figs cs=cs:=by
 unfold figs
 split
 ·exact absurd rfl h
 ·rfl
theorem figs_yes {cs:List Nat} (h:cs.head?=some 45):figs cs=cs.drop 1:=by
 cases cs with
 | nil=>cases h
 | cons a r=>cases h; rfl
theorem figs_ok {z:Str} (h:z.length ≤ 1000000):∃ F:Str,F.cps.toList=figs z.cps.toList∧F.length ≤ z.length∧((decide (z.cps.toList.head?=some 45)=true∧kCutS (.str z) (some 1) none=some (.str F))∨(decide (z.cps.toList.head?=some 45)=false∧z=F)):=by
 by_cases hm:z.cps.toList.head?=some 45
 ·refine ⟨S (z.cps.toList.drop 1),by rw [figs_yes hm],by rw [s_len,List.length_drop,len_cs]; omega,.inl ⟨decide_eq_true hm,?_⟩⟩
  rw [k_cutS h]
  exact congrArg (fun x=>some (PyData.str x)) (Tx.cut_drop z 1)
 ·exact ⟨z,(figs_not hm).symm,Nat.le_refl _,.inr ⟨decide_eq_false hm,rfl⟩⟩
theorem fOk_eq {z F:Str} (h:F.cps.toList=figs z.cps.toList):fOk z.cps.toList=((decide (1 ≤ F.length) && decide (F.length ≤ 12)) && F.cps.toList.all digB):=by
 unfold fOk
 rw [← h,len_cs]
theorem numD_not {z:Str} (h:fOk z.cps.toList=false):numD z=.none:=numI_none (by unfold numI; rw [if_neg (by rw [h]; exact Bool.false_ne_true)])
theorem numD_yes {z:Str} (h:fOk z.cps.toList=true) {n:Int} (hn:intText? z=some n):numD z=if wN n=z then .int n else .none:=by
 unfold numD numI
 rw [if_pos h,hn]
 simp only [Option.bind_some]
 split
 ·rename_i e
  split at e
  ·rename_i hw
   cases e
   rw [if_pos hw]
  ·cases e
 ·rename_i e
  split at e
  ·cases e
  ·rename_i hw
   rw [if_neg hw]
theorem k_intS {z:Str} {n:Int} (h:intText? z=some n) (hl:z.length ≤ 13):kIntS (.str z)=some (.int n):=by
 show (if z.length ≤ 640 then (intText? z).map PyData.int else none)=_
 rw [if_pos (by omega),h]; rfl
theorem m_number_in {z:Str} (h:z.length ≤ 1000000):mf_number_in [.str z]=some (.val (numD z)):=by
 obtain ⟨F,hF,hl,hs⟩:=figs_ok h
 have l1:kLenX (.str F)=some (.int F.length):=k_lenS (by omega)
 have st:=k_starts z
 have hc:∀ S':AS,S'=[.dat (.str z),.dat (.str F),.no]→compL (setD 2) yesB (bin2 kInS (rd 2) (cst (.str (PySem.Str.ofString "0123456789")))) [2] (F.cps.toList.map fun c=>.str ⟨#[c]⟩) S'=some (F.cps.toList.map fun c=>.bool (digB c),S'):=fun S' hS=>by
  subst hS
  exact compL_all (fun c=>.str ⟨#[c]⟩) (fun c=>.bool (digB c)) _ _ fun c _=>⟨_,rfl,_,by
   show (bin2 kInS (rd 2) (cst _)) [.dat (.str z),.dat (.str F),.dat (.str ⟨#[c]⟩)]=_
   rw [e_bin2,e_rd]
   simp only [List.getElem?_cons_succ,List.getElem?_cons_zero,Option.bind_some]
   show ((kInS (.str ⟨#[c]⟩) (.str (zS "0123456789"))).map fun d=>(d,_))=_
   rw [k_inD]; rfl,rfl⟩
 have ki:kItS (.str F)=some (F.cps.toList.map fun c=>.str ⟨#[c]⟩):=rfl
 have ka:=k_allMap digB F.cps.toList
 have hok:=fOk_eq hF
 refine runP_wp ?_
 unfold g_number_in
 rcases hs with ⟨hd,hcut⟩ | ⟨hd,rfl⟩
 ·repeat (first | (with_reducible first | refine Xm.wp_seq ?_ | refine Xm.wp_cutS2 ?_ | refine Xm.wp_asg ?_ | refine Xm.wp_bin2 ?_ | refine Xm.wp_un1 ?_ | refine Xm.wp_cst ?_ | refine Xm.wp_valB ?_ | refine Xm.wp_ifS ?_ | refine Xm.wp_orB ?_ | refine Xm.wp_notB ?_ | refine Xm.wp_ifE ?_ | refine Xm.wp_noO ?_ | refine Xm.wp_someO ?_ | refine Xm.wp_chE ?_ | refine Xm.ex_le ?_ | refine Xm.ex_bool ?_ | refine Xm.ex_int ?_) | ((with_reducible apply Xm.ex_of); · with_reducible assumption) | ((with_reducible apply Xm.np_and); · rfl) | ((with_reducible apply Xm.ite_t); · with_reducible assumption) | ((with_reducible apply Xm.wp_rd); · rfl))
  by_cases h1:1 ≤ F.length
  ·have b1:decide ((1:Int) ≤ F.length)=true:=decide_eq_true (by omega)
   repeat (first | (with_reducible first | refine Xm.wp_cst ?_ | refine Xm.ex_bool ?_ | refine Xm.ex_of Xm.k_le ?_) | ((with_reducible apply Xm.ite_t); · with_reducible assumption))
   by_cases h2:F.length ≤ 12
   ·have b2:decide ((F.length:Int) ≤ 12)=true:=decide_eq_true (by omega)
    repeat (first | (with_reducible first | refine Xm.wp_itS ?_ | refine Xm.wp_un1 ?_ | refine Xm.wp_valB ?_ | refine Xm.wp_notB ?_ | refine Xm.wp_listE ?_ | refine Xm.wp_compF ?_) | ((with_reducible apply Xm.ex_of); · with_reducible assumption) | ((with_reducible apply Xm.ite_nbf); · with_reducible assumption) | ((with_reducible apply Xm.wp_rd); · rfl))
    refine ⟨⟨rfl,sl_le (by rw [List.length_map,len_cs]; omega)⟩,Xm.wp_of (hc _ rfl) ?_⟩
    repeat (first | with_reducible refine Xm.ex_bool ?_ | ((with_reducible apply Xm.ex_of); · with_reducible assumption))
    cases ha:F.cps.toList.all digB with
    | false=>
     have hn:fOk z.cps.toList=false:=by rw [hok,ha,Bool.and_false]
     rw [ha] at ka
     repeat with_reducible first | refine Xm.wp_cst ?_ | refine Xm.wp_retS ?_ | refine Xm.ite_nf ?_
     rw [numD_not hn]
    | true=>
     have hy:fOk z.cps.toList=true:=by rw [hok,ha,decide_eq_true h1,decide_eq_true h2]; rfl
     rw [ha] at ka
     obtain ⟨n,hn,nb,l13⟩:=fOk_int hy
     have k1:=k_intS hn l13
     have k2:=k_strN (i:=n) (Nat.lt_of_lt_of_le nb (Nat.pow_le_pow_right (by omega) (by omega)))
     rw [numD_yes hy hn]
     repeat (first | (with_reducible first | refine Xm.wp_bin2 ?_ | refine Xm.wp_un1 ?_ | refine Xm.wp_valB ?_ | refine Xm.wp_skip ?_ | refine Xm.wp_retS ?_ | refine Xm.wp_ifE ?_ | refine Xm.ite_nt ?_ | refine Xm.ex_bool ?_ | refine Xm.ex_of Xm.k_eqStr ?_) | ((with_reducible apply Xm.ex_of); · with_reducible assumption) | ((with_reducible apply Xm.wp_rd); · rfl))
     by_cases hw:wN n=z
     ·have b3:decide (wN n=z)=true:=decide_eq_true hw
      rw [if_pos hw]
      repeat (first | with_reducible refine Xm.wp_un1 ?_ | ((with_reducible apply Xm.ex_of); · with_reducible assumption) | ((with_reducible apply Xm.ite_t); · with_reducible assumption) | ((with_reducible apply Xm.wp_rd); · rfl))
      rfl
     ·have b3:decide (wN n=z)=false:=decide_eq_false hw
      rw [if_neg hw]
      repeat (first | with_reducible refine Xm.wp_cst ?_ | ((with_reducible apply Xm.ite_f); · with_reducible assumption))
      rfl
   ·have b2:decide ((F.length:Int) ≤ 12)=false:=decide_eq_false (by omega)
    have hn:fOk z.cps.toList=false:=by rw [hok,decide_eq_false h2,Bool.and_false,Bool.false_and]
    repeat (first | (with_reducible first | refine Xm.wp_cst ?_ | refine Xm.wp_retS ?_ | refine Xm.ite_tt ?_) | ((with_reducible apply Xm.ite_nbt); · with_reducible assumption))
    rw [numD_not hn]
  ·have b1:decide ((1:Int) ≤ F.length)=false:=decide_eq_false (by omega)
   have hn:fOk z.cps.toList=false:=by rw [hok,decide_eq_false h1,Bool.false_and,Bool.false_and]
   repeat (first | (with_reducible first | refine Xm.wp_cst ?_ | refine Xm.wp_retS ?_ | refine Xm.ite_tt ?_ | refine Xm.ite_nf ?_ | refine Xm.ex_bool ?_) | ((with_reducible apply Xm.ite_f); · with_reducible assumption))
   rw [numD_not hn]
 ·repeat (first | (with_reducible first | refine Xm.wp_seq ?_ | refine Xm.wp_asg ?_ | refine Xm.wp_bin2 ?_ | refine Xm.wp_un1 ?_ | refine Xm.wp_cst ?_ | refine Xm.wp_valB ?_ | refine Xm.wp_ifS ?_ | refine Xm.wp_orB ?_ | refine Xm.wp_notB ?_ | refine Xm.wp_ifE ?_ | refine Xm.wp_chE ?_ | refine Xm.ex_le ?_ | refine Xm.ex_bool ?_) | ((with_reducible apply Xm.ex_of); · with_reducible assumption) | ((with_reducible apply Xm.np_and); · rfl) | ((with_reducible apply Xm.ite_f); · with_reducible assumption) | ((with_reducible apply Xm.wp_rd); · rfl))
  by_cases h1:1 ≤ z.length
  ·have b1:decide ((1:Int) ≤ z.length)=true:=decide_eq_true (by omega)
   repeat (first | (with_reducible first | refine Xm.wp_cst ?_ | refine Xm.ex_bool ?_ | refine Xm.ex_of Xm.k_le ?_) | ((with_reducible apply Xm.ite_t); · with_reducible assumption))
   by_cases h2:z.length ≤ 12
   ·have b2:decide ((z.length:Int) ≤ 12)=true:=decide_eq_true (by omega)
    repeat (first | (with_reducible first | refine Xm.wp_itS ?_ | refine Xm.wp_un1 ?_ | refine Xm.wp_valB ?_ | refine Xm.wp_notB ?_ | refine Xm.wp_listE ?_ | refine Xm.wp_compF ?_) | ((with_reducible apply Xm.ex_of); · with_reducible assumption) | ((with_reducible apply Xm.ite_nbf); · with_reducible assumption) | ((with_reducible apply Xm.wp_rd); · rfl))
    refine ⟨⟨rfl,sl_le (by rw [List.length_map,len_cs]; omega)⟩,Xm.wp_of (hc _ rfl) ?_⟩
    repeat (first | with_reducible refine Xm.ex_bool ?_ | ((with_reducible apply Xm.ex_of); · with_reducible assumption))
    cases ha:z.cps.toList.all digB with
    | false=>
     have hn:fOk z.cps.toList=false:=by rw [hok,ha,Bool.and_false]
     rw [ha] at ka
     repeat with_reducible first | refine Xm.wp_cst ?_ | refine Xm.wp_retS ?_ | refine Xm.ite_nf ?_
     rw [numD_not hn]
    | true=>
     have hy:fOk z.cps.toList=true:=by rw [hok,ha,decide_eq_true h1,decide_eq_true h2]; rfl
     rw [ha] at ka
     obtain ⟨n,hn,nb,l13⟩:=fOk_int hy
     have k1:=k_intS hn l13
     have k2:=k_strN (i:=n) (Nat.lt_of_lt_of_le nb (Nat.pow_le_pow_right (by omega) (by omega)))
     rw [numD_yes hy hn]
     repeat (first | (with_reducible first | refine Xm.wp_bin2 ?_ | refine Xm.wp_un1 ?_ | refine Xm.wp_valB ?_ | refine Xm.wp_skip ?_ | refine Xm.wp_retS ?_ | refine Xm.wp_ifE ?_ | refine Xm.ite_nt ?_ | refine Xm.ex_bool ?_ | refine Xm.ex_of Xm.k_eqStr ?_) | ((with_reducible apply Xm.ex_of); · with_reducible assumption) | ((with_reducible apply Xm.wp_rd); · rfl))
     by_cases hw:wN n=z
     ·have b3:decide (wN n=z)=true:=decide_eq_true hw
      rw [if_pos hw]
      repeat (first | with_reducible refine Xm.wp_un1 ?_ | ((with_reducible apply Xm.ex_of); · with_reducible assumption) | ((with_reducible apply Xm.ite_t); · with_reducible assumption) | ((with_reducible apply Xm.wp_rd); · rfl))
      rfl
     ·have b3:decide (wN n=z)=false:=decide_eq_false hw
      rw [if_neg hw]
      repeat (first | with_reducible refine Xm.wp_cst ?_ | ((with_reducible apply Xm.ite_f); · with_reducible assumption))
      rfl
   ·have b2:decide ((z.length:Int) ≤ 12)=false:=decide_eq_false (by omega)
    have hn:fOk z.cps.toList=false:=by rw [hok,decide_eq_false h2,Bool.and_false,Bool.false_and]
    repeat (first | (with_reducible first | refine Xm.wp_cst ?_ | refine Xm.wp_retS ?_ | refine Xm.ite_tt ?_) | ((with_reducible apply Xm.ite_nbt); · with_reducible assumption))
    rw [numD_not hn]
  ·have b1:decide ((1:Int) ≤ z.length)=false:=decide_eq_false (by omega)
   have hn:fOk z.cps.toList=false:=by rw [hok,decide_eq_false h1,Bool.false_and,Bool.false_and]
   repeat (first | (with_reducible first | refine Xm.wp_cst ?_ | refine Xm.wp_retS ?_ | refine Xm.ite_tt ?_ | refine Xm.ite_nf ?_ | refine Xm.ex_bool ?_) | ((with_reducible apply Xm.ite_f); · with_reducible assumption))
   rw [numD_not hn]
theorem all_filt (cs:List Nat):(!((cs.filter fun c=>!digB c).map fun c=>PyData.str ⟨#[c]⟩).isEmpty)=!cs.all digB:=by
 induction cs with
 | nil=>rfl
 | cons a r ih=>
  rw [List.filter_cons,List.all_cons]
  cases digB a with
  | true=>exact ih
  | false=>rfl
theorem take1 (z:Str):(cutS z none (some 1)=S1 45)↔z.cps.toList.head?=some 45:=by
 rw [show (1:Int)=((1:Nat):Int) from rfl,Tx.cut_take]
 constructor
 ·intro h
  have:=s_inj (b:=[45]) h
  cases hz:z.cps.toList with
  | nil=>rw [hz] at this; cases this
  | cons a r=>rw [hz] at this; simp at this; rw [this]; rfl
 ·intro h
  cases hz:z.cps.toList with
  | nil=>rw [hz] at h; cases h
  | cons a r=>rw [hz] at h; cases h; rfl
theorem figs_law {z:Str} (h:z.length ≤ 1000000):∃ F:Str,F.cps.toList=figs z.cps.toList∧F.length ≤ z.length∧((decide (cutS z none (some 1)=zS "-")=true∧kCutS (.str z) (some 1) none=some (.str F))∨(decide (cutS z none (some 1)=zS "-")=false∧kCutS (.str z) (some 0) none=some (.str F))):=by
 have e:zS "-" = S1 45:=by decide +kernel
 rw [e]
 obtain ⟨F,h1,h2,h3⟩:=figs_ok h
 refine ⟨F,h1,h2,?_⟩
 rcases h3 with ⟨h3,h4⟩ | ⟨h3,h4⟩
 ·exact .inl ⟨decide_eq_true ((take1 z).mpr (of_decide_eq_true h3)),h4⟩
 ·refine .inr ⟨decide_eq_false fun q=>of_decide_eq_false h3 ((take1 z).mp q),?_⟩
  rw [k_cutS h,h4]
  refine congrArg (fun x=>some (PyData.str x)) ?_
  rw [show (0:Int)=((0:Nat):Int) from rfl,Tx.cut_drop,List.drop_zero,s_eta]
theorem m_law_number_in {z:Str} (h:z.length ≤ 1000000):mf_law_number_in [.str z]=some (.val (numD z)):=by
 obtain ⟨F,hF,hl,hs⟩:=figs_law h
 have l1:kLenX (.str F)=some (.int F.length):=k_lenS (by omega)
 have c0:kCutS (.str z) none (some 1)=some (.str (cutS z none (some 1))):=k_cutS h
 have hc:∀ S':AS,S'=[.dat (.str z),.dat (.str F),.no]→compL (setD 2) (valB (bin2 kNotInS (rd 2) (cst (.str (PySem.Str.ofString "0123456789"))))) (rd 2) [2] (F.cps.toList.map fun c=>.str ⟨#[c]⟩) S'=some ((F.cps.toList.filter fun c=>!digB c).map fun c=>.str ⟨#[c]⟩,S'):=fun S' hS=>by
  subst hS
  exact compL_map (fun c=>.str ⟨#[c]⟩) (fun c=>!digB c) (fun c=>.str ⟨#[c]⟩) _ _ fun c _=>⟨_,rfl,by
   show (valB (bin2 kNotInS (rd 2) (cst _))) [.dat (.str z),.dat (.str F),.dat (.str ⟨#[c]⟩)]=_
   rw [e_valB,e_bin2,e_rd]
   simp only [List.getElem?_cons_succ,List.getElem?_cons_zero,Option.bind_some]
   show ((kNotInS (.str ⟨#[c]⟩) (.str (zS "0123456789"))).map fun d=>(d,[Slot.dat (.str z),.dat (.str F),.dat (.str ⟨#[c]⟩)])).bind _=_
   rw [k_ninD]; rfl,fun _=>⟨_,rfl,rfl⟩,fun _=>rfl⟩
 have ki:kItS (.str F)=some (F.cps.toList.map fun c=>.str ⟨#[c]⟩):=rfl
 have hok:=fOk_eq hF
 refine runP_wp ?_
 unfold g_law_number_in
 rcases hs with ⟨hd,hcut⟩ | ⟨hd,hcut⟩
 ·have hcut2:kCutS (.str z) (some (if decide (cutS z none (some 1)=PySem.Str.ofString "-")=true then 1 else 0)) none=some (.str F):=by
   rw [hd]
   exact hcut
  repeat (first | (with_reducible first | refine Xm.wp_seq ?_ | refine Xm.wp_cutS2 ?_ | refine Xm.wp_asg ?_ | refine Xm.wp_bin2 ?_ | refine Xm.wp_un1 ?_ | refine Xm.wp_cst ?_ | refine Xm.wp_valB ?_ | refine Xm.wp_ifS ?_ | refine Xm.wp_orB ?_ | refine Xm.wp_notB ?_ | refine Xm.wp_noO ?_ | refine Xm.wp_someO ?_ | refine Xm.wp_chE ?_ | refine Xm.ex_le ?_ | refine Xm.ex_int ?_ | refine Xm.ex_of Xm.k_eqStr ?_ | refine Xm.ex_of Xm.k_intB ?_) | ((with_reducible apply Xm.ex_of); · with_reducible assumption) | ((with_reducible apply Xm.np_and); · rfl) | ((with_reducible apply Xm.wp_rd); · rfl))
  by_cases h1:1 ≤ F.length
  ·have b1:decide ((1:Int) ≤ F.length)=true:=decide_eq_true (by omega)
   repeat (first | (with_reducible first | refine Xm.wp_cst ?_ | refine Xm.ex_bool ?_ | refine Xm.ex_of Xm.k_le ?_) | ((with_reducible apply Xm.ite_t); · with_reducible assumption))
   by_cases h2:F.length ≤ 12
   ·have b2:decide ((F.length:Int) ≤ 12)=true:=decide_eq_true (by omega)
    repeat (first | (with_reducible first | refine Xm.wp_itS ?_ | refine Xm.wp_bin2 ?_ | refine Xm.wp_valB ?_ | refine Xm.wp_listE ?_ | refine Xm.wp_compF ?_) | ((with_reducible apply Xm.ex_of); · with_reducible assumption) | ((with_reducible apply Xm.ite_nbf); · with_reducible assumption) | ((with_reducible apply Xm.wp_rd); · rfl))
    refine ⟨⟨rfl,sl_le (by rw [List.length_map,len_cs]; omega)⟩,Xm.wp_of (hc _ rfl) ?_⟩
    repeat (first | with_reducible refine Xm.wp_nilA ?_ | with_reducible refine Xm.wp_lstF ?_ | ((with_reducible apply Xm.len_and); · exact Nat.le_of_ble_eq_true rfl))
    cases ha:F.cps.toList.all digB with
    | false=>
     have hn:fOk z.cps.toList=false:=by rw [hok,ha,Bool.and_false]
     have hb:kNeL0 (.list ((F.cps.toList.filter fun c=>!digB c).map fun c=>PyData.str ⟨#[c]⟩)) (.list [])=some (.bool true):=by
      show some (PyData.bool (!((F.cps.toList.filter fun c=>!digB c).map fun c=>PyData.str ⟨#[c]⟩).isEmpty))=_
      rw [all_filt,ha]; rfl
     repeat (first | (with_reducible first | refine Xm.wp_cst ?_ | refine Xm.wp_retS ?_ | refine Xm.ite_tt ?_ | refine Xm.ex_bool ?_) | ((with_reducible apply Xm.ex_of); · with_reducible assumption))
     rw [numD_not hn]
    | true=>
     have hy:fOk z.cps.toList=true:=by rw [hok,ha,decide_eq_true h1,decide_eq_true h2]; rfl
     have hb:kNeL0 (.list ((F.cps.toList.filter fun c=>!digB c).map fun c=>PyData.str ⟨#[c]⟩)) (.list [])=some (.bool false):=by
      show some (PyData.bool (!((F.cps.toList.filter fun c=>!digB c).map fun c=>PyData.str ⟨#[c]⟩).isEmpty))=_
      rw [all_filt,ha]; rfl
     obtain ⟨n,hn,nb,l13⟩:=fOk_int hy
     have k1:=k_intS hn l13
     have k2:=k_strN (i:=n) (Nat.lt_of_lt_of_le nb (Nat.pow_le_pow_right (by omega) (by omega)))
     rw [numD_yes hy hn]
     repeat (first | (with_reducible first | refine Xm.wp_seq ?_ | refine Xm.wp_bin2 ?_ | refine Xm.wp_un1 ?_ | refine Xm.wp_valB ?_ | refine Xm.wp_ifS ?_ | refine Xm.wp_skip ?_ | refine Xm.ite_ff ?_ | refine Xm.ex_bool ?_ | refine Xm.ex_of Xm.k_neStr ?_) | ((with_reducible apply Xm.ex_of); · with_reducible assumption) | ((with_reducible apply Xm.wp_rd); · rfl))
     by_cases hw:wN n=z
     ·have b3:decide (wN n=z)=true:=decide_eq_true hw
      have b4:(!decide (wN n=z))=false:=by rw [b3]; rfl
      rw [if_pos hw]
      repeat (first | (with_reducible first | refine Xm.wp_un1 ?_ | refine Xm.wp_skip ?_ | refine Xm.wp_retS ?_) | ((with_reducible apply Xm.ex_of); · with_reducible assumption) | ((with_reducible apply Xm.ite_f); · with_reducible assumption) | ((with_reducible apply Xm.wp_rd); · rfl))
      rfl
     ·have b3:decide (wN n=z)=false:=decide_eq_false hw
      have b4:(!decide (wN n=z))=true:=by rw [b3]; rfl
      rw [if_neg hw]
      repeat (first | with_reducible refine Xm.wp_cst ?_ | with_reducible refine Xm.wp_retS ?_ | ((with_reducible apply Xm.ite_t); · with_reducible assumption))
      rfl
   ·have b2:decide ((F.length:Int) ≤ 12)=false:=decide_eq_false (by omega)
    have hn:fOk z.cps.toList=false:=by rw [hok,decide_eq_false h2,Bool.and_false,Bool.false_and]
    repeat (first | (with_reducible first | refine Xm.wp_cst ?_ | refine Xm.wp_retS ?_ | refine Xm.ite_tt ?_) | ((with_reducible apply Xm.ite_nbt); · with_reducible assumption))
    rw [numD_not hn]
  ·have b1:decide ((1:Int) ≤ F.length)=false:=decide_eq_false (by omega)
   have hn:fOk z.cps.toList=false:=by rw [hok,decide_eq_false h1,Bool.false_and,Bool.false_and]
   repeat (first | (with_reducible first | refine Xm.wp_cst ?_ | refine Xm.wp_retS ?_ | refine Xm.ite_tt ?_ | refine Xm.ite_nf ?_ | refine Xm.ex_bool ?_) | ((with_reducible apply Xm.ite_f); · with_reducible assumption))
   rw [numD_not hn]
 ·have hcut2:kCutS (.str z) (some (if decide (cutS z none (some 1)=PySem.Str.ofString "-")=true then 1 else 0)) none=some (.str F):=by
   rw [hd]
   exact hcut
  repeat (first | (with_reducible first | refine Xm.wp_seq ?_ | refine Xm.wp_cutS2 ?_ | refine Xm.wp_asg ?_ | refine Xm.wp_bin2 ?_ | refine Xm.wp_un1 ?_ | refine Xm.wp_cst ?_ | refine Xm.wp_valB ?_ | refine Xm.wp_ifS ?_ | refine Xm.wp_orB ?_ | refine Xm.wp_notB ?_ | refine Xm.wp_noO ?_ | refine Xm.wp_someO ?_ | refine Xm.wp_chE ?_ | refine Xm.ex_le ?_ | refine Xm.ex_int ?_ | refine Xm.ex_of Xm.k_eqStr ?_ | refine Xm.ex_of Xm.k_intB ?_) | ((with_reducible apply Xm.ex_of); · with_reducible assumption) | ((with_reducible apply Xm.np_and); · rfl) | ((with_reducible apply Xm.wp_rd); · rfl))
  by_cases h1:1 ≤ F.length
  ·have b1:decide ((1:Int) ≤ F.length)=true:=decide_eq_true (by omega)
   repeat (first | (with_reducible first | refine Xm.wp_cst ?_ | refine Xm.ex_bool ?_ | refine Xm.ex_of Xm.k_le ?_) | ((with_reducible apply Xm.ite_t); · with_reducible assumption))
   by_cases h2:F.length ≤ 12
   ·have b2:decide ((F.length:Int) ≤ 12)=true:=decide_eq_true (by omega)
    repeat (first | (with_reducible first | refine Xm.wp_itS ?_ | refine Xm.wp_bin2 ?_ | refine Xm.wp_valB ?_ | refine Xm.wp_listE ?_ | refine Xm.wp_compF ?_) | ((with_reducible apply Xm.ex_of); · with_reducible assumption) | ((with_reducible apply Xm.ite_nbf); · with_reducible assumption) | ((with_reducible apply Xm.wp_rd); · rfl))
    refine ⟨⟨rfl,sl_le (by rw [List.length_map,len_cs]; omega)⟩,Xm.wp_of (hc _ rfl) ?_⟩
    repeat (first | with_reducible refine Xm.wp_nilA ?_ | with_reducible refine Xm.wp_lstF ?_ | ((with_reducible apply Xm.len_and); · exact Nat.le_of_ble_eq_true rfl))
    cases ha:F.cps.toList.all digB with
    | false=>
     have hn:fOk z.cps.toList=false:=by rw [hok,ha,Bool.and_false]
     have hb:kNeL0 (.list ((F.cps.toList.filter fun c=>!digB c).map fun c=>PyData.str ⟨#[c]⟩)) (.list [])=some (.bool true):=by
      show some (PyData.bool (!((F.cps.toList.filter fun c=>!digB c).map fun c=>PyData.str ⟨#[c]⟩).isEmpty))=_
      rw [all_filt,ha]; rfl
     repeat (first | (with_reducible first | refine Xm.wp_cst ?_ | refine Xm.wp_retS ?_ | refine Xm.ite_tt ?_ | refine Xm.ex_bool ?_) | ((with_reducible apply Xm.ex_of); · with_reducible assumption))
     rw [numD_not hn]
    | true=>
     have hy:fOk z.cps.toList=true:=by rw [hok,ha,decide_eq_true h1,decide_eq_true h2]; rfl
     have hb:kNeL0 (.list ((F.cps.toList.filter fun c=>!digB c).map fun c=>PyData.str ⟨#[c]⟩)) (.list [])=some (.bool false):=by
      show some (PyData.bool (!((F.cps.toList.filter fun c=>!digB c).map fun c=>PyData.str ⟨#[c]⟩).isEmpty))=_
      rw [all_filt,ha]; rfl
     obtain ⟨n,hn,nb,l13⟩:=fOk_int hy
     have k1:=k_intS hn l13
     have k2:=k_strN (i:=n) (Nat.lt_of_lt_of_le nb (Nat.pow_le_pow_right (by omega) (by omega)))
     rw [numD_yes hy hn]
     repeat (first | (with_reducible first | refine Xm.wp_seq ?_ | refine Xm.wp_bin2 ?_ | refine Xm.wp_un1 ?_ | refine Xm.wp_valB ?_ | refine Xm.wp_ifS ?_ | refine Xm.wp_skip ?_ | refine Xm.ite_ff ?_ | refine Xm.ex_bool ?_ | refine Xm.ex_of Xm.k_neStr ?_) | ((with_reducible apply Xm.ex_of); · with_reducible assumption) | ((with_reducible apply Xm.wp_rd); · rfl))
     by_cases hw:wN n=z
     ·have b3:decide (wN n=z)=true:=decide_eq_true hw
      have b4:(!decide (wN n=z))=false:=by rw [b3]; rfl
      rw [if_pos hw]
      repeat (first | (with_reducible first | refine Xm.wp_un1 ?_ | refine Xm.wp_skip ?_ | refine Xm.wp_retS ?_) | ((with_reducible apply Xm.ex_of); · with_reducible assumption) | ((with_reducible apply Xm.ite_f); · with_reducible assumption) | ((with_reducible apply Xm.wp_rd); · rfl))
      rfl
     ·have b3:decide (wN n=z)=false:=decide_eq_false hw
      have b4:(!decide (wN n=z))=true:=by rw [b3]; rfl
      rw [if_neg hw]
      repeat (first | with_reducible refine Xm.wp_cst ?_ | with_reducible refine Xm.wp_retS ?_ | ((with_reducible apply Xm.ite_t); · with_reducible assumption))
      rfl
   ·have b2:decide ((F.length:Int) ≤ 12)=false:=decide_eq_false (by omega)
    have hn:fOk z.cps.toList=false:=by rw [hok,decide_eq_false h2,Bool.and_false,Bool.false_and]
    repeat (first | (with_reducible first | refine Xm.wp_cst ?_ | refine Xm.wp_retS ?_ | refine Xm.ite_tt ?_) | ((with_reducible apply Xm.ite_nbt); · with_reducible assumption))
    rw [numD_not hn]
  ·have b1:decide ((1:Int) ≤ F.length)=false:=decide_eq_false (by omega)
   have hn:fOk z.cps.toList=false:=by rw [hok,decide_eq_false h1,Bool.false_and,Bool.false_and]
   repeat (first | (with_reducible first | refine Xm.wp_cst ?_ | refine Xm.wp_retS ?_ | refine Xm.ite_tt ?_ | refine Xm.ite_nf ?_ | refine Xm.ex_bool ?_) | ((with_reducible apply Xm.ite_f); · with_reducible assumption))
   rw [numD_not hn]
end K78
namespace K78
open PySem PySem.Spec PyProof.Rows L2 Xm Tx
open DwC (g_law_pen mf_law_pen e_law_pen g_law_draw mq_law_draw e_law_draw)
open DwD (g_is_whole mf_is_whole e_is_whole compL_map compL_all k_allMap)
open K07 (g_is_share mf_is_share e_is_share shareB m_is_share shareB_ij shareB_W)
open K79 (g_show_share mf_show_share e_show_share g_law_reduced mf_law_reduced e_law_reduced g_law_writ mf_law_writ e_law_writ app_len emp_app k_catS)
def wS (n m:Int):Str:=if m=1 then wN n else wN n++zS "/" ++ wN m
def Nb (n:Int):Prop:=n.natAbs < 10 ^ 20
theorem Nb.k {n:Int} (h:Nb n):kStrA (.int n)=some (.str (wN n)):=k_strN (Nat.lt_of_lt_of_le h (Nat.pow_le_pow_right (by omega) (by omega)))
theorem Nb.kf {n:Int} (h:Nb n):kFmt (.int n)=some (.str (wN n)):=k_fmtN (Nat.lt_of_lt_of_le h (Nat.pow_le_pow_right (by omega) (by omega)))
theorem Nb.len {n:Int} (h:Nb n):(wN n).length ≤ 21:=wN_len (by omega) h
theorem slash_len:(zS "/").length=1:=by decide +kernel
theorem wS_len {n m:Int} (hn:Nb n) (hm:Nb m):(wS n m).length ≤ 43:=by
 have l1:=hn.len
 have l2:=hm.len
 have l3:=slash_len
 unfold wS
 split
 ·omega
 ·rw [app_len,app_len]; omega
theorem m_show2 {n m:Int} (hn:Nb n) (hm:Nb m):mf_show_share [.tuple [.int n,.int m]]=some (.val (.str (wS n m))):=by
 have k1:=hn.k
 have k2:=hn.kf
 have k3:=hm.kf
 have l1:=hn.len
 have l2:=hm.len
 have l3:=slash_len
 have l3z:(PySem.Str.ofString "/").length=1:=l3
 refine runP_wp ?_
 unfold g_show_share
 repeat (first | with_reducible refine Xm.wp_seq ?_ | with_reducible refine Xm.wp_asgT ?_ | ((with_reducible apply Xm.wp_rd); · rfl))
 refine ⟨_,rfl,?_⟩
 by_cases hd:m=1
 ·have hb:(m == 1)=true:=by rw [hd]; rfl
  have e:wS n m=wN n:=if_pos hd
  rw [e]
  repeat (first | (with_reducible first | refine Xm.wp_bin2 ?_ | refine Xm.wp_un1 ?_ | refine Xm.wp_cst ?_ | refine Xm.wp_valB ?_ | refine Xm.wp_retS ?_ | refine Xm.wp_ifE ?_ | refine Xm.ex_bool ?_ | refine Xm.ex_of Xm.k_eqI ?_) | ((with_reducible apply Xm.ex_of); · with_reducible assumption) | ((with_reducible apply Xm.ite_t); · with_reducible assumption) | ((with_reducible apply Xm.wp_rd); · rfl))
  rfl
 ·have hb:(m == 1)=false:=beq_false_of_ne hd
  have e:wS n m=wN n++zS "/" ++ wN m:=if_neg hd
  rw [e]
  repeat (first | (with_reducible first | refine Xm.wp_bin2 ?_ | refine Xm.wp_cst ?_ | refine Xm.wp_valB ?_ | refine Xm.wp_retS ?_ | refine Xm.wp_ifE ?_ | refine Xm.ex_bool ?_ | refine Xm.ex_of Xm.k_eqI ?_) | ((with_reducible apply Xm.ite_f); · with_reducible assumption) | ((with_reducible apply Xm.wp_rd); · rfl))
  refine wp_js1 ?_
  repeat (first | with_reducible refine Xm.wp_un1 ?_ | ((with_reducible apply Xm.ex_of); · with_reducible assumption) | ((with_reducible apply Xm.wp_rd); · rfl))
  refine ⟨_,rfl,by rw [emp_app]; exact sl_le (by omega),?_⟩
  rw [emp_app]
  refine wp_js1 ?_
  repeat (first | with_reducible refine Xm.wp_cst ?_)
  refine ⟨_,rfl,by rw [app_len]; exact sl_le (by omega),?_⟩
  refine wp_js1 ?_
  repeat (first | with_reducible refine Xm.wp_un1 ?_ | ((with_reducible apply Xm.ex_of); · with_reducible assumption) | ((with_reducible apply Xm.wp_rd); · rfl))
  refine ⟨_,rfl,by rw [app_len,app_len]; exact sl_le (by omega),?_⟩
  exact wp_js0 rfl
theorem m_writ2 {n m:Int} (hn:Nb n) (hm:Nb m):mf_law_writ [.tuple [.int n,.int m]]=some (.val (.str (wS n m))):=by
 have k1:=hn.k
 have k2:=hm.k
 have l1:=hn.len
 have l2:=hm.len
 have l3:=slash_len
 have l3z:(PySem.Str.ofString "/").length=1:=l3
 have i0:kIx (.tuple [.int n,.int m]) (.int 0)=some (.int n):=ix_t0
 have i1:kIx (.tuple [.int n,.int m]) (.int 1)=some (.int m):=ix_t1
 have c1:kCatS (.str (wN n)) (.str (zS "/"))=some (.str (wN n++zS "/")):=k_catS (by omega)
 have c2:kCatS (.str (wN n++zS "/")) (.str (wN m))=some (.str (wN n++zS "/" ++ wN m)):=k_catS (by rw [app_len]; omega)
 refine runP_wp ?_
 unfold g_law_writ
 by_cases hd:m=1
 ·have hb:(m == 1)=true:=by rw [hd]; rfl
  have e:wS n m=wN n:=if_pos hd
  rw [e]
  repeat (first | (with_reducible first | refine Xm.wp_seq ?_ | refine Xm.wp_bin2 ?_ | refine Xm.wp_un1 ?_ | refine Xm.wp_cst ?_ | refine Xm.wp_valB ?_ | refine Xm.wp_ifS ?_ | refine Xm.wp_retS ?_ | refine Xm.ex_bool ?_ | refine Xm.ex_of Xm.k_eqI ?_ | refine Xm.ex_of Xm.ix_t0 ?_ | refine Xm.ex_of Xm.ix_t1 ?_) | ((with_reducible apply Xm.ex_of); · with_reducible assumption) | ((with_reducible apply Xm.ite_t); · with_reducible assumption) | ((with_reducible apply Xm.wp_rd); · rfl))
  rfl
 ·have hb:(m == 1)=false:=beq_false_of_ne hd
  have e:wS n m=wN n++zS "/" ++ wN m:=if_neg hd
  rw [e]
  repeat (first | (with_reducible first | refine Xm.wp_seq ?_ | refine Xm.wp_bin2 ?_ | refine Xm.wp_un1 ?_ | refine Xm.wp_cst ?_ | refine Xm.wp_valB ?_ | refine Xm.wp_ifS ?_ | refine Xm.wp_skip ?_ | refine Xm.wp_retS ?_ | refine Xm.ex_bool ?_ | refine Xm.ex_of Xm.k_eqI ?_ | refine Xm.ex_of Xm.ix_t0 ?_ | refine Xm.ex_of Xm.ix_t1 ?_) | ((with_reducible apply Xm.ex_of); · with_reducible assumption) | ((with_reducible apply Xm.ite_f); · with_reducible assumption) | ((with_reducible apply Xm.wp_rd); · rfl))
  rfl
theorem slash_cs:(zS "/").cps.toList=[47]:=by decide +kernel
theorem slash_1:zS "/" = S1 47:=by decide +kernel
theorem app_cs (a b:Str):(a++b).cps.toList=a.cps.toList++b.cps.toList:=by
 show (a.cps++b.cps).toList=_
 simp
theorem wS_cs {n m:Int} (h:m≠1):(wS n m).cps.toList=(wN n).cps.toList++47::(wN m).cps.toList:=by
 unfold wS
 rw [if_neg h,app_cs,app_cs,slash_cs]
 simp
theorem free47 (n:Int):47 ∉ (wN n).cps.toList:=wN_free ⟨by decide,by decide⟩
def shD (z:Str):D:=match cutAt 47 z.cps.toList with
 | [_]=>match numI z with
  | some n=>.tuple [.int n,.int 1]
  | none=>.none
 | [a,b]=>match numI (S a),numI (S b) with
  | some n,some m=>if 0 < m∧Int.gcd n m=1∧m≠1 then .tuple [.int n,.int m] else .none
  | _,_=>.none
 | _=>.none
theorem sh0 {z:Str} (h:47 ∉ z.cps.toList):shD z=match numI z with
  | some n=>.tuple [.int n,.int 1]
  | none=>.none:=by
 unfold shD
 rw [cutAt_free h]
theorem sh1 {z:Str} {a b:List Nat} (h:z.cps.toList=a++47::b) (ha:47 ∉ a) (hb:47 ∉ b):shD z=match numI (S a),numI (S b) with
  | some n,some m=>if 0 < m∧Int.gcd n m=1∧m≠1 then .tuple [.int n,.int m] else .none
  | _,_=>.none:=by
 unfold shD
 rw [h,cutAt_app ha,cutAt_free hb]
theorem sh2 {z:Str} {a b:List Nat} (h:z.cps.toList=a++47::b) (ha:47 ∉ a) (hb:47 ∈ b):shD z=.none:=by
 obtain ⟨c,d,e,hc⟩:=first_of hb
 unfold shD
 rw [h,cutAt_app ha,e,cutAt_app hc]
 cases hd:cutAt 47 d with
 | nil=>exact absurd hd (cutAt_ne _ _)
 | cons x t=>rfl
theorem nb_of {z:Str} {n:Int} (h:numI z=some n):Nb n:=Nat.lt_of_lt_of_le (numI_ok h).2.1 (Nat.pow_le_pow_right (by omega) (by omega))
theorem wS_eq {z:Str} {a b:List Nat} {n m n' m':Int} (h:z.cps.toList=a++47::b) (ha:47 ∉ a) (hn:numI (S a)=some n) (hm:numI (S b)=some m):wS n' m'=z↔m'≠1∧n'=n∧m'=m:=by
 have ea:(wN n).cps.toList=a:=by rw [(numI_ok hn).1]
 have eb:(wN m).cps.toList=b:=by rw [(numI_ok hm).1]
 constructor
 ·intro e
  have hd:m'≠1:=fun e1=>by
   unfold wS at e
   rw [if_pos e1] at e
   exact free47 n' (by rw [e,h]; simp)
  have e2:(wS n' m').cps.toList=z.cps.toList:=by rw [e]
  rw [wS_cs hd,h] at e2
  obtain ⟨e3,e4⟩:=app_inj e2 (free47 n') ha
  exact ⟨hd,wN_inj (str_ext (by rw [e3,ea])),wN_inj (str_ext (by rw [e4,eb]))⟩
 ·rintro ⟨hd,rfl,rfl⟩
  exact str_ext (by rw [wS_cs hd,h,ea,eb])
theorem k_part (z:Str) (h:z.length ≤ 1000000):kPart (.str z) (.str (zS "/"))=some (.tuple [.str (Txt.partition z (S1 47)).1,.str (Txt.partition z (S1 47)).2.1,.str (Txt.partition z (S1 47)).2.2]):=by
 rw [slash_1]
 exact if_pos ⟨rfl,sl_le h⟩
theorem k_split (z:Str) (h:z.length ≤ 100000):kSplit (.str z) (.str (zS "/"))=some (.list ((cutAt 47 z.cps.toList).map fun p=>.str (S p))):=by
 rw [slash_1]
 show (if _∧_ then some (PyData.list ((Txt.split z (S1 47)).map PyData.str)) else none)=_
 rw [if_pos ⟨rfl,sl_le (by omega)⟩,split_cut z (by decide),List.map_map]
 rfl
theorem m_share_in {z:Str} (h:z.length ≤ 100000):mf_share_in [.str z]=some (.val (shD z)):=by
 have kp:=k_part z (by omega)
 by_cases hs:47 ∈ z.cps.toList
 ·obtain ⟨a,b,e,ha⟩:=first_of hs
  have hl:=len_cs z
  rw [e] at hl
  simp at hl
  rw [part_app z e ha] at kp
  have fa:=m_number_in (z:=S a) (by rw [s_len]; omega)
  have fb:=m_number_in (z:=S b) (by rw [s_len]; omega)
  have b0:decide (S1 47=zS "")=false:=by decide +kernel
  have fs:=m_is_share (.tuple [numD (S a),numD (S b)])
  by_cases hb:47 ∈ b
  ·have nb:numI (S b)=none:=numI_free (k:=47) ⟨by decide,by decide⟩ (by simpa using hb)
   have q:shareB (.tuple [numD (S a),numD (S b)])=false:=shareB_W (.inr (by rw [numI_none nb]; rfl))
   rw [sh2 e ha hb]
   refine runP_wp ?_
   unfold g_share_in
   repeat (first | (with_reducible first | refine Xm.wp_seq ?_ | refine Xm.wp_bin2 ?_ | refine Xm.wp_cst ?_ | refine Xm.wp_asgT ?_) | ((with_reducible apply Xm.ex_of); · with_reducible assumption) | ((with_reducible apply Xm.wp_rd); · rfl))
   refine ⟨_,rfl,?_⟩
   repeat (first | (with_reducible first | refine Xm.wp_seq ?_ | refine Xm.wp_asg ?_ | refine Xm.wp_bin2 ?_ | refine Xm.wp_consA ?_ | refine Xm.wp_nilA ?_ | refine Xm.wp_cst ?_ | refine Xm.wp_valB ?_ | refine Xm.wp_rvD ?_ | refine Xm.wp_callP0 ?_ | refine Xm.wp_retS ?_ | refine Xm.wp_andB ?_ | refine Xm.wp_ifE ?_ | refine Xm.wp_tupF ?_ | refine Xm.ite_ff ?_ | refine Xm.ex_bool ?_ | refine Xm.ex_of Xm.k_eqStr ?_) | ((with_reducible apply Xm.ex_of); · with_reducible assumption) | ((with_reducible apply Xm.np_and); · rfl) | ((with_reducible apply Xm.len_and); · exact Nat.le_of_ble_eq_true rfl) | ((with_reducible apply Xm.ite_f); · with_reducible assumption) | ((with_reducible apply Xm.wp_rd); · rfl))
   rfl
  ·have e1:=sh1 e ha hb
   cases na:numI (S a) with
   | none=>
    have q:shareB (.tuple [numD (S a),numD (S b)])=false:=shareB_W (.inl (by rw [numI_none na]; rfl))
    rw [na] at e1
    rw [show shD z=.none from e1]
    refine runP_wp ?_
    unfold g_share_in
    repeat (first | (with_reducible first | refine Xm.wp_seq ?_ | refine Xm.wp_bin2 ?_ | refine Xm.wp_cst ?_ | refine Xm.wp_asgT ?_) | ((with_reducible apply Xm.ex_of); · with_reducible assumption) | ((with_reducible apply Xm.wp_rd); · rfl))
    refine ⟨_,rfl,?_⟩
    repeat (first | (with_reducible first | refine Xm.wp_seq ?_ | refine Xm.wp_asg ?_ | refine Xm.wp_bin2 ?_ | refine Xm.wp_consA ?_ | refine Xm.wp_nilA ?_ | refine Xm.wp_cst ?_ | refine Xm.wp_valB ?_ | refine Xm.wp_rvD ?_ | refine Xm.wp_callP0 ?_ | refine Xm.wp_retS ?_ | refine Xm.wp_andB ?_ | refine Xm.wp_ifE ?_ | refine Xm.wp_tupF ?_ | refine Xm.ite_ff ?_ | refine Xm.ex_bool ?_ | refine Xm.ex_of Xm.k_eqStr ?_) | ((with_reducible apply Xm.ex_of); · with_reducible assumption) | ((with_reducible apply Xm.np_and); · rfl) | ((with_reducible apply Xm.len_and); · exact Nat.le_of_ble_eq_true rfl) | ((with_reducible apply Xm.ite_f); · with_reducible assumption) | ((with_reducible apply Xm.wp_rd); · rfl))
    rfl
   | some n=>
    cases nb:numI (S b) with
    | none=>
     have q:shareB (.tuple [numD (S a),numD (S b)])=false:=shareB_W (.inr (by rw [numI_none nb]; rfl))
     rw [na,nb] at e1
     rw [show shD z=.none from e1]
     refine runP_wp ?_
     unfold g_share_in
     repeat (first | (with_reducible first | refine Xm.wp_seq ?_ | refine Xm.wp_bin2 ?_ | refine Xm.wp_cst ?_ | refine Xm.wp_asgT ?_) | ((with_reducible apply Xm.ex_of); · with_reducible assumption) | ((with_reducible apply Xm.wp_rd); · rfl))
     refine ⟨_,rfl,?_⟩
     repeat (first | (with_reducible first | refine Xm.wp_seq ?_ | refine Xm.wp_asg ?_ | refine Xm.wp_bin2 ?_ | refine Xm.wp_consA ?_ | refine Xm.wp_nilA ?_ | refine Xm.wp_cst ?_ | refine Xm.wp_valB ?_ | refine Xm.wp_rvD ?_ | refine Xm.wp_callP0 ?_ | refine Xm.wp_retS ?_ | refine Xm.wp_andB ?_ | refine Xm.wp_ifE ?_ | refine Xm.wp_tupF ?_ | refine Xm.ite_ff ?_ | refine Xm.ex_bool ?_ | refine Xm.ex_of Xm.k_eqStr ?_) | ((with_reducible apply Xm.ex_of); · with_reducible assumption) | ((with_reducible apply Xm.np_and); · rfl) | ((with_reducible apply Xm.len_and); · exact Nat.le_of_ble_eq_true rfl) | ((with_reducible apply Xm.ite_f); · with_reducible assumption) | ((with_reducible apply Xm.wp_rd); · rfl))
     rfl
    | some m=>
     rw [na,nb] at e1
     have e1:shD z=if 0 < m∧Int.gcd n m=1∧m≠1 then .tuple [.int n,.int m] else .none:=e1
     rw [numI_some na,numI_some nb] at fs
     rw [numI_some na] at fa
     rw [numI_some nb] at fb
     have f2:=m_show2 (nb_of na) (nb_of nb)
     have weq:=wS_eq (n':=n) (m':=m) e ha na nb
     refine runP_wp ?_
     unfold g_share_in
     repeat (first | (with_reducible first | refine Xm.wp_seq ?_ | refine Xm.wp_bin2 ?_ | refine Xm.wp_cst ?_ | refine Xm.wp_asgT ?_) | ((with_reducible apply Xm.ex_of); · with_reducible assumption) | ((with_reducible apply Xm.wp_rd); · rfl))
     refine ⟨_,rfl,?_⟩
     by_cases hg:0 < m∧Int.gcd n m=1
     ·have q:shareB (.tuple [.int n,.int m])=true:=by
       rw [shareB_ij,decide_eq_true hg.1,hg.2]; rfl
      by_cases h1:m=1
      ·have b2:decide (wS n m=z)=false:=decide_eq_false fun x=>(weq.mp x).1 h1
       rw [e1,if_neg fun x=>x.2.2 h1]
       repeat (first | (with_reducible first | refine Xm.wp_seq ?_ | refine Xm.wp_asg ?_ | refine Xm.wp_bin2 ?_ | refine Xm.wp_consA ?_ | refine Xm.wp_nilA ?_ | refine Xm.wp_cst ?_ | refine Xm.wp_valB ?_ | refine Xm.wp_rvD ?_ | refine Xm.wp_callP0 ?_ | refine Xm.wp_retS ?_ | refine Xm.wp_andB ?_ | refine Xm.wp_ifE ?_ | refine Xm.wp_tupF ?_ | refine Xm.ex_bool ?_ | refine Xm.ex_of Xm.k_eqStr ?_) | ((with_reducible apply Xm.ex_of); · with_reducible assumption) | ((with_reducible apply Xm.np_and); · rfl) | ((with_reducible apply Xm.len_and); · exact Nat.le_of_ble_eq_true rfl) | ((with_reducible apply Xm.ite_t); · with_reducible assumption) | ((with_reducible apply Xm.ite_f); · with_reducible assumption) | ((with_reducible apply Xm.wp_rd); · rfl))
       rfl
      ·have b2:decide (wS n m=z)=true:=decide_eq_true (weq.mpr ⟨h1,rfl,rfl⟩)
       rw [e1,if_pos ⟨hg.1,hg.2,h1⟩]
       repeat (first | (with_reducible first | refine Xm.wp_seq ?_ | refine Xm.wp_asg ?_ | refine Xm.wp_bin2 ?_ | refine Xm.wp_consA ?_ | refine Xm.wp_nilA ?_ | refine Xm.wp_cst ?_ | refine Xm.wp_valB ?_ | refine Xm.wp_rvD ?_ | refine Xm.wp_callP0 ?_ | refine Xm.wp_retS ?_ | refine Xm.wp_andB ?_ | refine Xm.wp_ifE ?_ | refine Xm.wp_tupF ?_ | refine Xm.ex_bool ?_ | refine Xm.ex_of Xm.k_eqStr ?_) | ((with_reducible apply Xm.ex_of); · with_reducible assumption) | ((with_reducible apply Xm.np_and); · rfl) | ((with_reducible apply Xm.len_and); · exact Nat.le_of_ble_eq_true rfl) | ((with_reducible apply Xm.ite_t); · with_reducible assumption) | ((with_reducible apply Xm.ite_f); · with_reducible assumption) | ((with_reducible apply Xm.wp_rd); · rfl))
       rfl
     ·have q:shareB (.tuple [.int n,.int m])=false:=by
       rw [shareB_ij]
       cases hx:(decide (0 < m) && ((Int.gcd n m:Nat):Int) == 1) with
       | false=>rfl
       | true=>
        rw [Bool.and_eq_true,decide_eq_true_eq,beq_iff_eq] at hx
        exact absurd ⟨hx.1,by omega⟩ hg
      rw [e1,if_neg fun x=>hg ⟨x.1,x.2.1⟩]
      repeat (first | (with_reducible first | refine Xm.wp_seq ?_ | refine Xm.wp_asg ?_ | refine Xm.wp_bin2 ?_ | refine Xm.wp_consA ?_ | refine Xm.wp_nilA ?_ | refine Xm.wp_cst ?_ | refine Xm.wp_valB ?_ | refine Xm.wp_rvD ?_ | refine Xm.wp_callP0 ?_ | refine Xm.wp_retS ?_ | refine Xm.wp_andB ?_ | refine Xm.wp_ifE ?_ | refine Xm.wp_tupF ?_ | refine Xm.ite_ff ?_ | refine Xm.ex_bool ?_ | refine Xm.ex_of Xm.k_eqStr ?_) | ((with_reducible apply Xm.ex_of); · with_reducible assumption) | ((with_reducible apply Xm.np_and); · rfl) | ((with_reducible apply Xm.len_and); · exact Nat.le_of_ble_eq_true rfl) | ((with_reducible apply Xm.ite_f); · with_reducible assumption) | ((with_reducible apply Xm.wp_rd); · rfl))
      rfl
 ·rw [part_free z hs] at kp
  have fa:=m_number_in (z:=z) (by omega)
  have b0:decide (PySem.Str.empty=zS "")=true:=by decide +kernel
  have e1:=sh0 hs
  cases na:numI z with
  | none=>
   rw [numI_none na] at fa
   have fs:=m_is_share (.tuple [.none,.int 1])
   have q:shareB (.tuple [.none,.int 1])=false:=rfl
   rw [na] at e1
   rw [show shD z=.none from e1]
   refine runP_wp ?_
   unfold g_share_in
   repeat (first | (with_reducible first | refine Xm.wp_seq ?_ | refine Xm.wp_bin2 ?_ | refine Xm.wp_cst ?_ | refine Xm.wp_asgT ?_) | ((with_reducible apply Xm.ex_of); · with_reducible assumption) | ((with_reducible apply Xm.wp_rd); · rfl))
   refine ⟨_,rfl,?_⟩
   repeat (first | (with_reducible first | refine Xm.wp_seq ?_ | refine Xm.wp_asg ?_ | refine Xm.wp_bin2 ?_ | refine Xm.wp_consA ?_ | refine Xm.wp_nilA ?_ | refine Xm.wp_cst ?_ | refine Xm.wp_valB ?_ | refine Xm.wp_rvD ?_ | refine Xm.wp_callP0 ?_ | refine Xm.wp_retS ?_ | refine Xm.wp_andB ?_ | refine Xm.wp_ifE ?_ | refine Xm.wp_tupF ?_ | refine Xm.ite_ff ?_ | refine Xm.ex_bool ?_ | refine Xm.ex_of Xm.k_eqStr ?_) | ((with_reducible apply Xm.ex_of); · with_reducible assumption) | ((with_reducible apply Xm.np_and); · rfl) | ((with_reducible apply Xm.len_and); · exact Nat.le_of_ble_eq_true rfl) | ((with_reducible apply Xm.ite_t); · with_reducible assumption) | ((with_reducible apply Xm.ite_f); · with_reducible assumption) | ((with_reducible apply Xm.wp_rd); · rfl))
   rfl
  | some n=>
   rw [numI_some na] at fa
   have fs:=m_is_share (.tuple [.int n,.int 1])
   have q:shareB (.tuple [.int n,.int 1])=true:=by
    rw [shareB_ij,Int.gcd_one]; rfl
   rw [na] at e1
   have f2:=m_show2 (n:=n) (m:=1) (nb_of na) (by unfold Nb; decide)
   have ew:wS n 1=z:=by unfold wS; rw [if_pos rfl]; exact (numI_ok na).1
   have b2:decide (wS n 1=z)=true:=decide_eq_true ew
   rw [show shD z=.tuple [.int n,.int 1] from e1]
   refine runP_wp ?_
   unfold g_share_in
   repeat (first | (with_reducible first | refine Xm.wp_seq ?_ | refine Xm.wp_bin2 ?_ | refine Xm.wp_cst ?_ | refine Xm.wp_asgT ?_) | ((with_reducible apply Xm.ex_of); · with_reducible assumption) | ((with_reducible apply Xm.wp_rd); · rfl))
   refine ⟨_,rfl,?_⟩
   repeat (first | (with_reducible first | refine Xm.wp_seq ?_ | refine Xm.wp_asg ?_ | refine Xm.wp_bin2 ?_ | refine Xm.wp_consA ?_ | refine Xm.wp_nilA ?_ | refine Xm.wp_cst ?_ | refine Xm.wp_valB ?_ | refine Xm.wp_rvD ?_ | refine Xm.wp_callP0 ?_ | refine Xm.wp_retS ?_ | refine Xm.wp_andB ?_ | refine Xm.wp_ifE ?_ | refine Xm.wp_tupF ?_ | refine Xm.ex_bool ?_ | refine Xm.ex_of Xm.k_eqStr ?_) | ((with_reducible apply Xm.ex_of); · with_reducible assumption) | ((with_reducible apply Xm.np_and); · rfl) | ((with_reducible apply Xm.len_and); · exact Nat.le_of_ble_eq_true rfl) | ((with_reducible apply Xm.ite_t); · with_reducible assumption) | ((with_reducible apply Xm.wp_rd); · rfl))
   rfl
theorem sh_parts {n m:Int} (hm:0 < m):∃ c e:Int,sh (Rat.divInt n m)=.tuple [.int c,.int e]∧c.natAbs ≤ n.natAbs∧0 < e∧e ≤ m∧(c=n∧e=m↔Int.gcd n m=1):=by
 obtain ⟨g,c,e,hg,h1,h2,h3,h4⟩:=K07.divInt_parts (t:=n) hm
 refine ⟨c,e,by show PyData.tuple [.int _,.int _]=_; rw [h3,h4],?_,?_,?_,?_⟩
 ·rw [h1,Int.natAbs_mul]
  exact Nat.le_mul_of_pos_left _ (by omega)
 ·have:=(Rat.divInt n m).den_pos
  omega
 ·have he:0 < e:=by have:=(Rat.divInt n m).den_pos; omega
  rw [h2]
  have:=Int.mul_le_mul_of_nonneg_right (show (1:Int) ≤ g by omega) (show 0 ≤ e by omega)
  omega
 ·have hr:=(Rat.divInt n m).reduced
  rw [h3] at hr
  have hr2:Int.gcd c e=1:=by
   rw [← h4]
   exact hr
  constructor
  ·rintro ⟨rfl,rfl⟩
   exact hr2
  ·intro h
   have:Int.gcd n m=g.natAbs * Int.gcd c e:=by
    rw [h1,h2]
    exact Int.gcd_mul_left ..
   rw [h,hr2] at this
   have hg1:g=1:=by omega
   rw [h1,h2,hg1]
   simp
def tailS:SF:=(seqS (ifS (orB (valB (bin2 kGt (un1 kLen (rd 1)) (cst (.int 2)))) (orB (valB (bin2 kIn (cst .none) (rd 2))) (andB (valB (bin2 kEq (un1 kLen (rd 1)) (cst (.int 2)))) (valB (bin2 kLt (bin2 kIx (rd 2) (cst (.int 1))) (cst (.int 1))))))) (retS (cst .none)) skipS) (seqS (asgS 3 (rvD (callP mf_law_reduced [] (consA (bin2 kIx (rd 2) (cst (.int 0))) (consA (bin2 kIx (bin2 kCat (rd 2) (lstF (consA (cst (.int 1)) nilA))) (cst (.int 1))) nilA))))) (retS (bin2 kIx (lstF (consA (cst .none) (consA (rd 3) nilA))) (un1 kInt (bin2 kEq (rvD (callP mf_law_writ [] (consA (rd 3) nilA))) (rd 0)))))))
theorem law_share_is:g_law_share_in=(seqS (asgS 1 (bin2 kSplit (rd 0) (cst (.str (PySem.Str.ofString "/"))))) (seqS (asgS 2 (listE (compF (itD (rd 1)) (setD 4) yesB (rvD (callP mf_law_number_in [] (consA (rd 4) nilA))) [4]))) tailS)):=rfl
theorem m_law_share_in {z:Str} (h:z.length ≤ 100000):mf_law_share_in [.str z]=some (.val (shD z)):=by
 have kp:=k_split z (by omega)
 have hcl:=cutAt_len 47 z.cps.toList
 have hlz:=len_cs z
 have hc:∀ S':AS,S'=[.dat (.str z),.dat (.list ((cutAt 47 z.cps.toList).map fun p=>.str (S p))),.no,.no,.no]→compL (setD 4) yesB (rvD (callP mf_law_number_in [] (consA (rd 4) nilA))) [4] ((cutAt 47 z.cps.toList).map fun p=>.str (S p)) S'=some ((cutAt 47 z.cps.toList).map fun p=>numD (S p),S'):=fun S' hS=>by
  subst hS
  refine compL_all (fun p:List Nat=>PyData.str (S p)) (fun p=>numD (S p)) _ _ fun p hp=>⟨_,rfl,?_⟩
  have f:=m_law_number_in (z:=S p) (by rw [s_len]; have:=(cutAt_mem hp).1; omega)
  suffices hh:Wp (rvD (callP mf_law_number_in [] (consA (rd 4) nilA))) [.dat (.str z),.dat (.list ((cutAt 47 z.cps.toList).map fun p=>.str (S p))),.no,.no,.dat (.str (S p))] fun d s=>d=numD (S p)∧s=[.dat (.str z),.dat (.list ((cutAt 47 z.cps.toList).map fun p=>.str (S p))),.no,.no,.dat (.str (S p))] by
   obtain ⟨d,s,e,rfl,rfl⟩:=hh
   exact ⟨_,e,rfl⟩
  repeat (first | (with_reducible first | refine Xm.wp_consA ?_ | refine Xm.wp_nilA ?_ | refine Xm.wp_rvD ?_ | refine Xm.wp_callP0 ?_) | ((with_reducible apply Xm.ex_of); · with_reducible assumption) | ((with_reducible apply Xm.wp_rd); · rfl))
  exact ⟨rfl,rfl⟩
 suffices tl:Wp tailS [.dat (.str z),.dat (.list ((cutAt 47 z.cps.toList).map fun p=>.str (S p))),.dat (.list ((cutAt 47 z.cps.toList).map fun p=>numD (S p))),.no,.no] fun fl s=>fl=.ret (.val (shD z)) by
  refine runP_wp ?_
  rw [law_share_is]
  repeat (first | (with_reducible first | refine Xm.wp_seq ?_ | refine Xm.wp_asg ?_ | refine Xm.wp_bin2 ?_ | refine Xm.wp_cst ?_ | refine Xm.wp_listE ?_ | refine Xm.wp_itD ?_ | refine Xm.wp_compF ?_) | ((with_reducible apply Xm.ex_of); · with_reducible assumption) | ((with_reducible apply Xm.np_and); · rfl) | ((with_reducible apply Xm.wp_rd); · rfl))
  refine ⟨_,.inl rfl,⟨rfl,sl_le (by rw [List.length_map]; omega)⟩,Xm.wp_of (hc _ rfl) ?_⟩
  repeat (first | ((with_reducible apply Xm.np_and); · rfl))
  exact tl
 by_cases hs:47 ∈ z.cps.toList
 ·obtain ⟨a,b,e,ha⟩:=first_of hs
  by_cases hb:47 ∈ b
  ·obtain ⟨c,d,e2,hc2⟩:=first_of hb
   have hcut:∃ x t,cutAt 47 z.cps.toList=a::c::x::t:=by
    rw [e,cutAt_app ha,e2,cutAt_app hc2]
    cases hd:cutAt 47 d with
    | nil=>exact absurd hd (cutAt_ne _ _)
    | cons x t=>exact ⟨x,t,rfl⟩
   obtain ⟨x,t,hcut⟩:=hcut
   rw [sh2 e ha hb,hcut]
   have hl:decide ((((a::c::x::t).map fun p=>PyData.str (S p)).length:Int) > 2)=true:=decide_eq_true (by simp; omega)
   unfold tailS
   repeat (first | (with_reducible first | refine Xm.wp_seq ?_ | refine Xm.wp_bin2 ?_ | refine Xm.wp_un1 ?_ | refine Xm.wp_cst ?_ | refine Xm.wp_valB ?_ | refine Xm.wp_ifS ?_ | refine Xm.wp_retS ?_ | refine Xm.wp_orB ?_ | refine Xm.ite_tt ?_ | refine Xm.ex_bool ?_ | refine Xm.ex_of Xm.k_gt ?_ | refine Xm.ex_of Xm.k_lenL ?_) | ((with_reducible apply Xm.ite_t); · with_reducible assumption) | ((with_reducible apply Xm.wp_rd); · rfl))
   rfl
  ·rw [e,cutAt_app ha,cutAt_free hb]
   have e1:=sh1 e ha hb
   cases na:numI (S a) with
   | none=>
    rw [na] at e1
    rw [show shD z=.none from e1]
    unfold tailS
    show Wp _ [.dat (.str z),.dat (.list [.str (S a),.str (S b)]),.dat (.list [numD (S a),numD (S b)]),.no,.no] _
    rw [numI_none na]
    have hl:decide ((([PyData.str (S a),.str (S b)].length:Nat):Int) > 2)=false:=rfl
    have hk:kIn .none (.list [.none,numD (S b)])=some (.bool true):=by
     cases nb:numI (S b) with
     | none=>rw [numI_none nb]; rfl
     | some m=>rw [numI_some nb]; rfl
    repeat (first | (with_reducible first | refine Xm.wp_seq ?_ | refine Xm.wp_bin2 ?_ | refine Xm.wp_un1 ?_ | refine Xm.wp_cst ?_ | refine Xm.wp_valB ?_ | refine Xm.wp_ifS ?_ | refine Xm.wp_retS ?_ | refine Xm.wp_orB ?_ | refine Xm.ite_tt ?_ | refine Xm.ex_bool ?_ | refine Xm.ex_of Xm.k_gt ?_ | refine Xm.ex_of Xm.k_lenL ?_) | ((with_reducible apply Xm.ex_of); · with_reducible assumption) | ((with_reducible apply Xm.ite_f); · with_reducible assumption) | ((with_reducible apply Xm.wp_rd); · rfl))
    rfl
   | some n=>
    cases nb:numI (S b) with
    | none=>
     rw [na,nb] at e1
     rw [show shD z=.none from e1]
     unfold tailS
     show Wp _ [.dat (.str z),.dat (.list [.str (S a),.str (S b)]),.dat (.list [numD (S a),numD (S b)]),.no,.no] _
     rw [numI_some na,numI_none nb]
     have hl:decide ((([PyData.str (S a),.str (S b)].length:Nat):Int) > 2)=false:=rfl
     have hk:kIn .none (.list [.int n,.none])=some (.bool true):=rfl
     repeat (first | (with_reducible first | refine Xm.wp_seq ?_ | refine Xm.wp_bin2 ?_ | refine Xm.wp_un1 ?_ | refine Xm.wp_cst ?_ | refine Xm.wp_valB ?_ | refine Xm.wp_ifS ?_ | refine Xm.wp_retS ?_ | refine Xm.wp_orB ?_ | refine Xm.ite_tt ?_ | refine Xm.ex_bool ?_ | refine Xm.ex_of Xm.k_gt ?_ | refine Xm.ex_of Xm.k_lenL ?_) | ((with_reducible apply Xm.ex_of); · with_reducible assumption) | ((with_reducible apply Xm.ite_f); · with_reducible assumption) | ((with_reducible apply Xm.wp_rd); · rfl))
     rfl
    | some m=>
     rw [na,nb] at e1
     have e1:shD z=if 0 < m∧Int.gcd n m=1∧m≠1 then .tuple [.int n,.int m] else .none:=e1
     have bn:=nb_of na
     have bm:=nb_of nb
     unfold tailS
     show Wp _ [.dat (.str z),.dat (.list [.str (S a),.str (S b)]),.dat (.list [numD (S a),numD (S b)]),.no,.no] _
     rw [numI_some na,numI_some nb]
     have hl:decide ((([PyData.str (S a),.str (S b)].length:Nat):Int) > 2)=false:=rfl
     have hl2:((([PyData.str (S a),.str (S b)].length:Nat):Int) == 2)=true:=rfl
     have hk:kIn .none (.list [.int n,.int m])=some (.bool false):=rfl
     have i1:kIx (.list [.int n,.int m]) (.int 1)=some (.int m):=ix_l1
     by_cases hm:m < 1
     ·have b1:decide (m < 1)=true:=decide_eq_true hm
      rw [e1,if_neg fun x=>by omega]
      repeat (first | (with_reducible first | refine Xm.wp_seq ?_ | refine Xm.wp_bin2 ?_ | refine Xm.wp_un1 ?_ | refine Xm.wp_cst ?_ | refine Xm.wp_valB ?_ | refine Xm.wp_ifS ?_ | refine Xm.wp_retS ?_ | refine Xm.wp_andB ?_ | refine Xm.wp_orB ?_ | refine Xm.ite_ff ?_ | refine Xm.ex_bool ?_ | refine Xm.ex_of Xm.k_lt ?_ | refine Xm.ex_of Xm.k_gt ?_ | refine Xm.ex_of Xm.k_eqI ?_ | refine Xm.ex_of Xm.k_lenL ?_ | refine Xm.ex_of Xm.ix_l1 ?_) | ((with_reducible apply Xm.ex_of); · with_reducible assumption) | ((with_reducible apply Xm.ite_t); · with_reducible assumption) | ((with_reducible apply Xm.ite_f); · with_reducible assumption) | ((with_reducible apply Xm.wp_rd); · rfl))
      rfl
     ·have b1:decide (m < 1)=false:=decide_eq_false hm
      have fr:=K79.m_law_reduced (t:=n) (b:=m) (by omega) (Nat.lt_trans (log_le (Nat.lt_of_lt_of_le bm (Nat.pow_le_pow_right (by omega) (by omega)))) (by omega))
      obtain ⟨c,d,es,c1,d0,d1,hcd⟩:=sh_parts (n:=n) (m:=m) (by omega)
      rw [es] at fr
      have fw:=m_writ2 (n:=c) (m:=d) (by unfold Nb at bn ⊢; omega) (by unfold Nb at bm ⊢; omega)
      have kc:kCat (.list [.int n,.int m]) (.list [.int 1])=some (.list [.int n,.int m,.int 1]):=rfl
      have i2:kIx (.list [.int n,.int m,.int 1]) (.int 1)=some (.int m):=ix_l1
      have weq:=wS_eq (n':=c) (m':=d) e ha na nb
      repeat (first | (with_reducible first | refine Xm.wp_seq ?_ | refine Xm.wp_asg ?_ | refine Xm.wp_bin2 ?_ | refine Xm.wp_un1 ?_ | refine Xm.wp_consA ?_ | refine Xm.wp_nilA ?_ | refine Xm.wp_cst ?_ | refine Xm.wp_valB ?_ | refine Xm.wp_ifS ?_ | refine Xm.wp_rvD ?_ | refine Xm.wp_callP0 ?_ | refine Xm.wp_skip ?_ | refine Xm.wp_retS ?_ | refine Xm.wp_andB ?_ | refine Xm.wp_orB ?_ | refine Xm.wp_lstF ?_ | refine Xm.ite_ff ?_ | refine Xm.ex_bool ?_ | refine Xm.ex_of Xm.k_lt ?_ | refine Xm.ex_of Xm.k_gt ?_ | refine Xm.ex_of Xm.k_eqI ?_ | refine Xm.ex_of Xm.k_eqStr ?_ | refine Xm.ex_of Xm.k_lenL ?_ | refine Xm.ex_of Xm.k_intB ?_ | refine Xm.ex_of Xm.ix_l0 ?_ | refine Xm.ex_of Xm.ix_l1 ?_) | ((with_reducible apply Xm.ex_of); · with_reducible assumption) | ((with_reducible apply Xm.np_and); · rfl) | ((with_reducible apply Xm.len_and); · exact Nat.le_of_ble_eq_true rfl) | ((with_reducible apply Xm.ite_t); · with_reducible assumption) | ((with_reducible apply Xm.ite_f); · with_reducible assumption) | ((with_reducible apply Xm.wp_rd); · rfl))
      by_cases hg:Int.gcd n m=1∧m≠1
      ·obtain ⟨rfl,rfl⟩:=hcd.mpr hg.1
       have b2:decide (wS c d=z)=true:=decide_eq_true (weq.mpr ⟨hg.2,rfl,rfl⟩)
       rw [show shD z=.tuple [.int c,.int d] by rw [e1,if_pos ⟨by omega,hg.1,hg.2⟩]]
       have i3:kIx (.list [.none,.tuple [.int c,.int d]]) (.int (if decide (wS c d=z)=true then 1 else 0))=some (.tuple [.int c,.int d]):=by rw [b2]; rfl
       repeat (first | ((with_reducible apply Xm.ex_of); · with_reducible assumption))
       rfl
      ·have b2:decide (wS c d=z)=false:=decide_eq_false fun x=>by
        have:=weq.mp x
        exact hg ⟨hcd.mp this.2,by rw [← this.2.2]; exact this.1⟩
       rw [show shD z=.none by rw [e1,if_neg fun x=>hg x.2]]
       have i3:kIx (.list [.none,.tuple [.int c,.int d]]) (.int (if decide (wS c d=z)=true then 1 else 0))=some .none:=by rw [b2]; rfl
       repeat (first | ((with_reducible apply Xm.ex_of); · with_reducible assumption))
       rfl
 ·rw [cutAt_free hs]
  have e1:=sh0 hs
  unfold tailS
  show Wp _ [.dat (.str z),.dat (.list [.str (S z.cps.toList)]),.dat (.list [numD (S z.cps.toList)]),.no,.no] _
  rw [s_eta]
  have hl:decide ((([PyData.str z].length:Nat):Int) > 2)=false:=rfl
  have hl2:((([PyData.str z].length:Nat):Int) == 2)=false:=rfl
  cases na:numI z with
  | none=>
   rw [na] at e1
   rw [show shD z=.none from e1,numI_none na]
   have hk:kIn .none (.list [.none])=some (.bool true):=rfl
   repeat (first | (with_reducible first | refine Xm.wp_seq ?_ | refine Xm.wp_bin2 ?_ | refine Xm.wp_un1 ?_ | refine Xm.wp_cst ?_ | refine Xm.wp_valB ?_ | refine Xm.wp_ifS ?_ | refine Xm.wp_retS ?_ | refine Xm.wp_orB ?_ | refine Xm.ite_tt ?_ | refine Xm.ex_bool ?_ | refine Xm.ex_of Xm.k_gt ?_ | refine Xm.ex_of Xm.k_lenL ?_) | ((with_reducible apply Xm.ex_of); · with_reducible assumption) | ((with_reducible apply Xm.ite_f); · with_reducible assumption) | ((with_reducible apply Xm.wp_rd); · rfl))
   rfl
  | some n=>
   rw [na] at e1
   rw [show shD z=.tuple [.int n,.int 1] from e1,numI_some na]
   have bn:=nb_of na
   have hk:kIn .none (.list [.int n])=some (.bool false):=rfl
   have kc:kCat (.list [.int n]) (.list [.int 1])=some (.list [.int n,.int 1]):=rfl
   have i2:kIx (.list [.int n,.int 1]) (.int 1)=some (.int 1):=ix_l1
   have fr:=K79.m_law_reduced (t:=n) (b:=1) (by omega) (by decide)
   obtain ⟨c,d,es,c1,d0,d1,hcd⟩:=sh_parts (n:=n) (m:=1) (by omega)
   obtain ⟨rfl,rfl⟩:=hcd.mpr (Int.gcd_one ..)
   rw [es] at fr
   have fw:=m_writ2 (n:=c) (m:=1) bn (by unfold Nb; decide)
   have ew:wS c 1=z:=by unfold wS; rw [if_pos rfl]; exact (numI_ok na).1
   have b2:decide (wS c 1=z)=true:=decide_eq_true ew
   have i3:kIx (.list [.none,.tuple [.int c,.int 1]]) (.int (if decide (wS c 1=z)=true then 1 else 0))=some (.tuple [.int c,.int 1]):=by rw [b2]; rfl
   repeat (first | (with_reducible first | refine Xm.wp_seq ?_ | refine Xm.wp_asg ?_ | refine Xm.wp_bin2 ?_ | refine Xm.wp_un1 ?_ | refine Xm.wp_consA ?_ | refine Xm.wp_nilA ?_ | refine Xm.wp_cst ?_ | refine Xm.wp_valB ?_ | refine Xm.wp_ifS ?_ | refine Xm.wp_rvD ?_ | refine Xm.wp_callP0 ?_ | refine Xm.wp_skip ?_ | refine Xm.wp_retS ?_ | refine Xm.wp_andB ?_ | refine Xm.wp_orB ?_ | refine Xm.wp_lstF ?_ | refine Xm.ite_ff ?_ | refine Xm.ex_bool ?_ | refine Xm.ex_of Xm.k_gt ?_ | refine Xm.ex_of Xm.k_eqI ?_ | refine Xm.ex_of Xm.k_eqStr ?_ | refine Xm.ex_of Xm.k_lenL ?_ | refine Xm.ex_of Xm.k_intB ?_ | refine Xm.ex_of Xm.ix_l0 ?_ | refine Xm.ex_of Xm.ix_l1 ?_) | ((with_reducible apply Xm.ex_of); · with_reducible assumption) | ((with_reducible apply Xm.np_and); · rfl) | ((with_reducible apply Xm.len_and); · exact Nat.le_of_ble_eq_true rfl) | ((with_reducible apply Xm.ite_f); · with_reducible assumption) | ((with_reducible apply Xm.wp_rd); · rfl))
   rfl
end K78
namespace Tx
open PySem PySem.Spec PyProof.Rows L2 Xm
def okS (z:Str):Prop:=∀ c ∈ z.cps.toList,c < 0x110000
theorem okS_of (s:String):okS (PySem.Str.ofString s):=fun c hc=>by
 rw [PySem.Str.ofString_eq_toList] at hc
 simp only [List.mem_map] at hc
 obtain ⟨ch,_,rfl⟩:=hc
 have:=ch.valid
 unfold UInt32.isValidChar Nat.isValidChar at this
 have h2:ch.toNat=ch.val.toNat:=rfl
 omega
theorem okS_app {a b:Str} (ha:okS a) (hb:okS b):okS (a++b):=fun c hc=>by
 rcases mem_cps_append.mp hc with h | h
 ·exact ha c h
 ·exact hb c h
theorem okS_join {sep:Str} {ts:List Str} (hs:okS sep) (h:∀ t ∈ ts,okS t):okS (Str.join sep ts):=fun c hc=>by
 rcases (mem_join sep c ts).mp hc with ⟨t,ht,h2⟩ | ⟨_,h2⟩
 ·exact h t ht c h2
 ·exact hs c h2
theorem okS_all {xs:List D} (h:∀ x ∈ xs,okS x.shown):∀ t ∈ PyData.shownAll xs,okS t:=fun t ht=>by
 rw [shownAll_eq_map] at ht
 obtain ⟨x,hx,rfl⟩:=List.mem_map.mp ht
 exact h x hx
theorem okS_list {xs:List D} (h:∀ x ∈ xs,okS x.shown):okS (PyData.list xs).shown:=by
 rw [PyData.shown_list]
 exact okS_app (okS_app (okS_of _) (okS_join (okS_of _) (okS_all h))) (okS_of _)
theorem okS_tuple {xs:List D} (h:∀ x ∈ xs,okS x.shown):okS (PyData.tuple xs).shown:=by
 rw [PyData.shown_tuple]
 exact okS_app (okS_app (okS_of _) (okS_join (okS_of _) (okS_all h))) (okS_of _)
theorem okS_int (i:Int):okS (PyData.int i).shown:=by rw [PyData.shown_int]; exact okS_of _
theorem okS_none:okS PyData.none.shown:=by rw [PyData.shown_none]; exact okS_of _
theorem okS_strOk {z:Str} (h:okS z):PyData.strOk z=true:=by
 unfold PyData.strOk
 rw [← Array.all_toList,List.all_eq_true]
 exact fun c hc=>decide_eq_true (h c hc)
end Tx
namespace K78
open PySem PySem.Spec PyProof.Rows L2 Xm Tx
open DwC (g_law_pen mf_law_pen e_law_pen g_law_draw mq_law_draw e_law_draw)
open DwD (g_is_whole mf_is_whole e_is_whole compL_map compL_all k_allMap)
open K07 (g_is_share mf_is_share e_is_share shareB m_is_share shareB_ij shareB_W)
open K79 (g_show_share mf_show_share e_show_share g_law_reduced mf_law_reduced e_law_reduced g_law_writ mf_law_writ e_law_writ app_len emp_app k_catS)
def noT:RV:=.exc ⟨"NoText", [("at", .none)]⟩
theorem m_need_t:mf_need [.bool true,.none]=some (.val .none):=by
 refine runP_wpn ?_
 unfold g_need
 repeat (first | (with_reducible first | refine Xm.wp_valB ?_ | refine Xm.wp_ifS ?_ | refine Xm.wp_skip ?_ | refine Xm.wp_notB ?_ | refine Xm.ite_nt ?_ | refine Xm.ex_bool ?_) | ((with_reducible apply Xm.wp_rd); · rfl))
 rfl
theorem m_need_f:mf_need [.bool false,.none]=some noT:=by
 refine runP_wp ?_
 unfold g_need
 repeat (first | (with_reducible first | refine Xm.wp_valB ?_ | refine Xm.wp_ifS ?_ | refine Xm.wp_notB ?_ | refine Xm.ite_nf ?_ | refine Xm.ex_bool ?_) | ((with_reducible apply Xm.wp_rd); · rfl))
 refine wp_raiseF ?_
 repeat (first | ((with_reducible apply Xm.wp_rd); · rfl))
 rfl
theorem shD_cases (z:Str):shD z=.none∨∃ n m,shD z=.tuple [.int n,.int m]∧Nb n∧Nb m:=by
 have h1:Nb 1:=by unfold Nb; decide
 by_cases hs:47 ∈ z.cps.toList
 ·obtain ⟨a,b,e,ha⟩:=first_of hs
  by_cases hb:47 ∈ b
  ·exact .inl (sh2 e ha hb)
  ·have e1:=sh1 e ha hb
   cases na:numI (S a) with
   | none=>rw [na] at e1; exact .inl e1
   | some n=>
    cases nb:numI (S b) with
    | none=>rw [na,nb] at e1; exact .inl e1
    | some m=>
     rw [na,nb] at e1
     have e1:shD z=if 0 < m∧Int.gcd n m=1∧m≠1 then .tuple [.int n,.int m] else .none:=e1
     by_cases hc:0 < m∧Int.gcd n m=1∧m≠1
     ·rw [if_pos hc] at e1
      exact .inr ⟨n,m,e1,nb_of na,nb_of nb⟩
     ·rw [if_neg hc] at e1
      exact .inl e1
 ·have e1:=sh0 hs
  cases na:numI z with
  | none=>rw [na] at e1; exact .inl e1
  | some n=>rw [na] at e1; exact .inr ⟨n,1,e1,nb_of na,h1⟩
def readR (d:D):RV:=match d with
 | .str z=>(match shD z with
  | .none=>noT
  | e=>.val e)
 | _=>noT
theorem m_read_str {z:Str} (h:z.length ≤ 100000):mf_read_share [.str z]=some (readR (.str z)):=by
 have f1:=m_share_in h
 have kt:mf_need ([.bool (isaT (tyD (.str z)) "str")]++[.none])=some (.val .none):=m_need_t
 have n1:mf_need ([.bool true]++[.none])=some (.val .none):=m_need_t
 have n2:mf_need ([.bool false]++[.none])=some noT:=m_need_f
 have k0:kIsNot .none .none=some (.bool false):=rfl
 rcases shD_cases z with e | ⟨n,m,e,_,_⟩
 ·rw [show readR (.str z)=noT by unfold readR; simp only [e]]
  rw [e] at f1
  unfold noT at n2 ⊢
  refine runP_wp ?_
  unfold g_read_share
  repeat (first | (with_reducible first | refine Xm.wp_seq ?_ | refine Xm.wp_asg ?_ | refine Xm.wp_bin2 ?_ | refine Xm.wp_un1 ?_ | refine Xm.wp_consA ?_ | refine Xm.wp_nilA ?_ | refine Xm.wp_cst ?_ | refine Xm.wp_rvD ?_ | refine Xm.wp_callP0 ?_ | refine Xm.wp_callP ?_ | refine Xm.wp_dropX ?_ | refine Xm.ex_of Xm.k_isa ?_) | ((with_reducible apply Xm.ex_of); · with_reducible assumption) | ((with_reducible apply Xm.np_and); · rfl) | ((with_reducible apply Xm.wp_rd); · rfl))
  rfl
 ·have k1:kIsNot (.tuple [.int n,.int m]) .none=some (.bool true):=rfl
  rw [show readR (.str z)=.val (.tuple [.int n,.int m]) by unfold readR; simp only [e]]
  rw [e] at f1
  refine runP_wp ?_
  unfold g_read_share
  repeat (first | (with_reducible first | refine Xm.wp_seq ?_ | refine Xm.wp_asg ?_ | refine Xm.wp_bin2 ?_ | refine Xm.wp_un1 ?_ | refine Xm.wp_consA ?_ | refine Xm.wp_nilA ?_ | refine Xm.wp_cst ?_ | refine Xm.wp_rvD ?_ | refine Xm.wp_callP0 ?_ | refine Xm.wp_callP ?_ | refine Xm.wp_retS ?_ | refine Xm.wp_dropX ?_ | refine Xm.ex_of Xm.k_isa ?_) | ((with_reducible apply Xm.ex_of); · with_reducible assumption) | ((with_reducible apply Xm.np_and); · rfl) | ((with_reducible apply Xm.wp_rd); · rfl))
  rfl
theorem m_read_not {d:D} (h:isaT (tyD d) "str" = false):mf_read_share [d]=some noT:=by
 have n2:mf_need ([.bool false]++[.none])=some noT:=m_need_f
 unfold noT at n2 ⊢
 refine runP_wp ?_
 unfold g_read_share
 repeat (first | (with_reducible first | refine Xm.wp_seq ?_ | refine Xm.wp_un1 ?_ | refine Xm.wp_consA ?_ | refine Xm.wp_nilA ?_ | refine Xm.wp_callP ?_ | refine Xm.wp_dropX ?_ | refine Xm.ex_of Xm.k_isa ?_) | ((with_reducible apply Xm.wp_rd); · rfl))
 rw [h]
 repeat (first | ((with_reducible apply Xm.ex_of); · with_reducible assumption))
 rfl
theorem m_heard_val {d:D}:mf_law_heard (.val d)=some (.new [d]):=mfH_of fun f=>by
 have hn:isNd PyData.none=true:=rfl
 show Wp _ [.obj (.fnc f),.no,.no,.no] _
 unfold g_law_heard
 repeat (first | (with_reducible first | refine Xm.wp_seq ?_ | refine Xm.wp_asg ?_ | refine Xm.wp_cst ?_) | ((with_reducible apply Xm.np_and); · rfl))
 refine wp_tryK ?_
 repeat (first | (with_reducible first | refine Xm.wp_seq ?_ | refine Xm.wp_valB ?_ | refine Xm.wp_ifS ?_ | refine Xm.wp_asgX ?_) | ((with_reducible apply Xm.np_and); · rfl) | ((with_reducible apply Xm.wp_callZ); · rfl))
 refine wp_nonXd rfl ?_
 repeat (first | (with_reducible first | refine Xm.wp_consA ?_ | refine Xm.wp_nilA ?_ | refine Xm.wp_retN ?_ | refine Xm.wp_newF ?_ | refine Xm.ex_bool ?_) | ((with_reducible apply Xm.len_and); · exact Nat.le_of_ble_eq_true rfl) | ((with_reducible apply Xm.ite_t); · with_reducible assumption) | ((with_reducible apply Xm.wp_rd); · rfl))
 rfl
theorem m_heard_exc:mf_law_heard noT=some (.val (.tuple [.none])):=mfH_of fun f=>by
 show Wp _ [.obj (.fnc f),.no,.no,.no] _
 unfold g_law_heard noT
 repeat (first | (with_reducible first | refine Xm.wp_seq ?_ | refine Xm.wp_asg ?_ | refine Xm.wp_cst ?_) | ((with_reducible apply Xm.np_and); · rfl))
 refine wp_tryK ?_
 repeat (first | with_reducible refine Xm.wp_asgX ?_ | ((with_reducible apply Xm.wp_callZ); · rfl))
 refine ⟨true,rfl,?_⟩
 rw [if_pos rfl]
 refine ⟨rfl,_,rfl,?_⟩
 repeat with_reducible first | refine Xm.wp_seq ?_ | refine Xm.wp_valB ?_ | refine Xm.wp_ifS ?_
 refine wp_nonX rfl ?_
 repeat with_reducible first | refine Xm.wp_seq ?_ | refine Xm.wp_valB ?_ | refine Xm.wp_ifS ?_ | refine Xm.wp_skip ?_ | refine Xm.wp_orB ?_ | refine Xm.wp_notB ?_ | refine Xm.ite_ff ?_ | refine Xm.ex_bool ?_
 refine wp_isaX rfl rfl ?_
 repeat with_reducible first | refine Xm.wp_valB ?_ | refine Xm.ite_nt ?_ | refine Xm.ex_bool ?_
 refine wp_isaX rfl rfl ?_
 repeat with_reducible first | refine Xm.wp_consA ?_ | refine Xm.wp_skip ?_ | refine Xm.wp_retS ?_ | refine Xm.wp_tupF ?_ | refine Xm.ite_ff ?_ | refine Xm.ex_bool ?_
 refine wp_fldN rfl (by simp) rfl ?_
 repeat (first | with_reducible refine Xm.wp_nilA ?_ | ((with_reducible apply Xm.len_and); · exact Nat.le_of_ble_eq_true rfl))
 rfl
theorem rp_none:kRepr (.tuple [.none])=some (.str (PyData.shown (.tuple [.none]))):=k_reprT (Rk.tuple (k:=0) (n:=600) fun d hd=>by
 cases List.mem_singleton.mp hd
 exact Rk.none) (by omega) (by simp)
theorem rp_pair {n m:Int} (hn:Nb n) (hm:Nb m):kRepr (.list [.tuple [.int n,.int m]])=some (.str (PyData.shown (.list [.tuple [.int n,.int m]]))):=k_reprL (Rk.list (k:=1) (n:=1300) fun d hd=>by
 cases List.mem_singleton.mp hd
 refine (Rk.tuple (k:=0) (n:=600) fun d hd=>?_).mono (Nat.le_refl _) (by simp)
 have b:(10:Nat) ^ 20 ≤ 2 ^ 1900:=Nat.le_trans (show 10 ^ 20 ≤ 2 ^ 70 by decide) (Nat.pow_le_pow_right (by omega) (by omega))
 rcases List.mem_cons.mp hd with rfl | hd
 ·exact Rk.int (Nat.lt_of_lt_of_le hn b)
 ·cases List.mem_singleton.mp hd
  exact Rk.int (Nat.lt_of_lt_of_le hm b)) (by omega) (by simp)
theorem ke2 {Y:Str} (h:okS Y):kEq (.list [.str Y,.str Y]) (.list [.str Y,.str Y])=some (.bool true):=by
 have h0:=okS_strOk h
 have h1:(PyData.list [.str Y,.str Y]).canLay0=true:=by simp [PyData.canLay0,PyData.canLayAll0,h0]
 have h2:SeqAt.shaped (.list [.str Y,.str Y])=true:=by simp [SeqAt.shaped,h1,PyData.depth,PyData.depthAll]
 show (if _∧_ then some (PyData.bool (PyData.eqv _ _)) else none)=_
 rw [if_pos ⟨h2,h2⟩,SeqAt.eqv_refl _ h1]
theorem ok_none:okS (PyData.shown (.tuple [.none])):=okS_tuple fun x hx=>by
 cases List.mem_singleton.mp hx
 exact okS_none
theorem ok_pair (n m:Int):okS (PyData.shown (.list [.tuple [.int n,.int m]])):=okS_list fun x hx=>by
 cases List.mem_singleton.mp hx
 refine okS_tuple fun x hx=>?_
 rcases List.mem_cons.mp hx with rfl | hx
 ·exact okS_int _
 ·cases List.mem_singleton.mp hx
  exact okS_int _
theorem km2 (Y:Str):kMulL (.list [.str Y]) (.int 2)=some (.list [.str Y,.str Y]):=rfl
theorem m_right_str {z:Str} (h:z.length ≤ 100000):mf_law_right [.str z]=some (.val (.bool true)):=by
 have f1:=m_law_share_in h
 have f2:=m_read_str h
 have kt:isaT (tyD (.str z)) "str" = true:=rfl
 have k0:kIsNot .none .none=some (.bool false):=rfl
 rcases shD_cases z with e | ⟨n,m,e,bn,bm⟩
 ·rw [e] at f1
  rw [show readR (.str z)=noT by unfold readR; simp only [e]] at f2
  have f3:=m_heard_exc
  have r1:=rp_none
  have ke:=ke2 ok_none
  unfold noT at f2 f3
  generalize PyData.shown (.tuple [.none])=Y at *
  have km:=km2 Y
  refine runP_wp ?_
  unfold g_law_right
  repeat (first | (with_reducible first | refine Xm.wp_seq ?_ | refine Xm.wp_asg ?_ | refine Xm.wp_bin2 ?_ | refine Xm.wp_un1 ?_ | refine Xm.wp_consA ?_ | refine Xm.wp_nilA ?_ | refine Xm.wp_cst ?_ | refine Xm.wp_valB ?_ | refine Xm.wp_ifS ?_ | refine Xm.wp_rvD ?_ | refine Xm.wp_callP0 ?_ | refine Xm.wp_callK ?_ | refine Xm.wp_skip ?_ | refine Xm.wp_retS ?_ | refine Xm.wp_andB ?_ | refine Xm.wp_tupF ?_ | refine Xm.wp_lstF ?_ | refine Xm.wp_lamF ?_ | refine Xm.wp_lamV ?_ | refine Xm.ite_ff ?_ | refine Xm.ex_bool ?_ | refine Xm.ex_of Xm.k_isa ?_) | ((with_reducible apply Xm.ex_of); · with_reducible assumption) | ((with_reducible apply Xm.ex_arr); · (simp only [arr,List.map_cons,List.map_nil,List.getD_cons_zero,List.getD_cons_succ]; rfl)) | ((with_reducible apply Xm.np_and); · rfl) | ((with_reducible apply Xm.len_and); · exact Nat.le_of_ble_eq_true rfl) | ((with_reducible apply Xm.ite_t); · with_reducible assumption) | ((with_reducible apply Xm.wp_rd); · rfl))
  rfl
 ·rw [e] at f1
  rw [show readR (.str z)=.val (.tuple [.int n,.int m]) by unfold readR; simp only [e]] at f2
  have f3:=m_heard_val (d:=.tuple [.int n,.int m])
  have r1:=rp_pair bn bm
  have ke:=ke2 (ok_pair n m)
  have k1:kIsNot (.tuple [.int n,.int m]) .none=some (.bool true):=rfl
  generalize PyData.shown (.list [.tuple [.int n,.int m]])=Y at *
  generalize PyData.tuple [.int n,.int m]=T at *
  have km:=km2 Y
  refine runP_wp ?_
  unfold g_law_right
  repeat (first | (with_reducible first | refine Xm.wp_seq ?_ | refine Xm.wp_asg ?_ | refine Xm.wp_bin2 ?_ | refine Xm.wp_un1 ?_ | refine Xm.wp_consA ?_ | refine Xm.wp_nilA ?_ | refine Xm.wp_cst ?_ | refine Xm.wp_valB ?_ | refine Xm.wp_ifS ?_ | refine Xm.wp_rvD ?_ | refine Xm.wp_callP0 ?_ | refine Xm.wp_andB ?_ | refine Xm.wp_tupF ?_ | refine Xm.wp_lstF ?_ | refine Xm.wp_lamF ?_ | refine Xm.ite_tt ?_ | refine Xm.ex_bool ?_ | refine Xm.ex_of Xm.k_isa ?_) | ((with_reducible apply Xm.ex_of); · with_reducible assumption) | ((with_reducible apply Xm.np_and); · rfl) | ((with_reducible apply Xm.len_and); · exact Nat.le_of_ble_eq_true rfl) | ((with_reducible apply Xm.ite_t); · with_reducible assumption) | ((with_reducible apply Xm.wp_rd); · rfl))
  refine ⟨fun x z=>(nomatch z),?_⟩
  repeat (first | (with_reducible first | refine Xm.wp_seq ?_ | refine Xm.wp_asg ?_ | refine Xm.wp_consA ?_ | refine Xm.wp_nilA ?_ | refine Xm.wp_rvD ?_ | refine Xm.wp_callK ?_ | refine Xm.wp_lamF ?_) | ((with_reducible apply Xm.ex_of); · with_reducible assumption) | ((with_reducible apply Xm.ex_arr); · (simp only [arr,List.map_cons,List.map_nil,List.getD_cons_zero,List.getD_cons_succ]; rfl)) | ((with_reducible apply Xm.np_and); · rfl) | ((with_reducible apply Xm.wp_rd); · rfl))
  refine ⟨fun x z=>(nomatch z),?_⟩
  repeat (first | (with_reducible first | refine Xm.wp_bin2 ?_ | refine Xm.wp_un1 ?_ | refine Xm.wp_consA ?_ | refine Xm.wp_nilA ?_ | refine Xm.wp_cst ?_ | refine Xm.wp_retS ?_ | refine Xm.wp_lstF ?_) | ((with_reducible apply Xm.ex_of); · with_reducible assumption) | ((with_reducible apply Xm.np_and); · rfl) | ((with_reducible apply Xm.len_and); · exact Nat.le_of_ble_eq_true rfl) | ((with_reducible apply Xm.wp_rd); · rfl))
  rfl
theorem m_right_not {d:D} (h:isaT (tyD d) "str" = false):mf_law_right [d]=some (.val (.bool true)):=by
 have f2:=m_read_not h
 have f3:=m_heard_exc
 have r1:=rp_none
 have ke:=ke2 ok_none
 unfold noT at f2 f3
 generalize PyData.shown (.tuple [.none])=Y at *
 have km:=km2 Y
 refine runP_wp ?_
 unfold g_law_right
 repeat (first | (with_reducible first | refine Xm.wp_seq ?_ | refine Xm.wp_asg ?_ | refine Xm.wp_bin2 ?_ | refine Xm.wp_un1 ?_ | refine Xm.wp_consA ?_ | refine Xm.wp_nilA ?_ | refine Xm.wp_cst ?_ | refine Xm.wp_valB ?_ | refine Xm.wp_ifS ?_ | refine Xm.wp_rvD ?_ | refine Xm.wp_callP0 ?_ | refine Xm.wp_callK ?_ | refine Xm.wp_skip ?_ | refine Xm.wp_retS ?_ | refine Xm.wp_andB ?_ | refine Xm.wp_tupF ?_ | refine Xm.wp_lstF ?_ | refine Xm.wp_lamF ?_ | refine Xm.wp_lamV ?_ | refine Xm.ite_ff ?_ | refine Xm.ex_bool ?_ | refine Xm.ex_of Xm.k_isa ?_) | ((with_reducible apply Xm.ex_of); · with_reducible assumption) | ((with_reducible apply Xm.ex_arr); · (simp only [arr,List.map_cons,List.map_nil,List.getD_cons_zero,List.getD_cons_succ]; rfl)) | ((with_reducible apply Xm.np_and); · rfl) | ((with_reducible apply Xm.len_and); · exact Nat.le_of_ble_eq_true rfl) | ((with_reducible apply Xm.ite_f); · with_reducible assumption) | ((with_reducible apply Xm.wp_rd); · rfl))
 rfl
end K78
namespace K78
open PySem PySem.Spec PyProof.Rows L2 Xm Tx
open DwC (g_law_pen mf_law_pen e_law_pen g_law_draw mq_law_draw e_law_draw draw_ok)
open DwD (g_is_whole mf_is_whole e_is_whole compL_map compL_all k_allMap)
open K07 (g_is_share mf_is_share e_is_share shareB m_is_share shareB_ij shareB_W)
open K79 (g_show_share mf_show_share e_show_share g_law_reduced mf_law_reduced e_law_reduced g_law_writ mf_law_writ e_law_writ app_len emp_app k_catS)
theorem pick_list {n:Nat} {xs L:List D} (h:PenOk n xs) (hn:n < 2 ^ 20) (h0:0 < L.length) (h1:L.length ≤ 1000000):∃ d ys,d ∈ L∧mq_law_pick xs [.list L]=some (.val d,ys)∧PenOk (n + 1) ys:=by
 obtain ⟨i,y1,e1,i0,i1,p1⟩:=draw_ok (m:=(L.length:Int)) h hn (by omega) (by omega)
 obtain ⟨b,hb,k1⟩:=DwD.pick_memL i0 i1
 have kl:kLenX (.list L)=some (.int L.length):=rfl
 have k2:kIxX (.list L) (.int i)=some b:=k1
 suffices hh:∃ r ls,runQ g_law_pick 2 xs [.list L]=some (r,ls)∧r=.val b∧ls=y1 by
  obtain ⟨r,ls,e,rfl,rfl⟩:=hh
  exact ⟨b,ls,hb,e,p1⟩
 refine runQ_wp ?_
 unfold g_law_pick
 repeat (first | (with_reducible first | refine Xm.wp_bin2 ?_ | refine Xm.wp_un1 ?_ | refine Xm.wp_consA ?_ | refine Xm.wp_nilA ?_ | refine Xm.wp_rvD ?_ | refine Xm.wp_retS ?_) | ((with_reducible apply Xm.ex_of); · with_reducible assumption) | ((with_reducible apply Xm.mu_and); · rfl) | ((with_reducible apply Xm.wp_rd); · rfl) | ((with_reducible apply Xm.wp_callQ); · rfl))
 exact ⟨_,_,rfl,rfl,rfl,rfl⟩
theorem pick_text {n:Nat} {xs:List D} {z:Str} (h:PenOk n xs) (hn:n < 2 ^ 20) (h0:0 < z.length) (h1:z.length ≤ 1000000):∃ c ys,mq_law_pick xs [.str z]=some (.val (.str (S1 c)),ys)∧PenOk (n + 1) ys:=by
 obtain ⟨i,y1,e1,i0,i1,p1⟩:=draw_ok (m:=(z.length:Int)) h hn (by omega) (by omega)
 have kl:kLenX (.str z)=some (.int z.length):=k_lenS h1
 have hi:i.toNat < z.cps.toList.length:=by rw [len_cs]; omega
 obtain ⟨c,hc⟩:∃ c,atI z.cps.toList i=some c:=⟨z.cps.toList[i.toNat],by
  have:=at_n (n:=i.toNat) (xs:=z.cps.toList) (List.getElem?_eq_getElem hi)
  rw [Int.toNat_of_nonneg i0] at this
  exact this⟩
 have k2:kIxX (.str z) (.int i)=some (.str (S1 c)):=by
  show (if z.length ≤ sizeLine then (atI z.cps.toList i).map fun c=>PyData.str ⟨#[c]⟩ else none)=_
  rw [if_pos (sl_le h1),hc]; rfl
 suffices hh:∃ r ls,runQ g_law_pick 2 xs [.str z]=some (r,ls)∧r=.val (.str (S1 c))∧ls=y1 by
  obtain ⟨r,ls,e,rfl,rfl⟩:=hh
  exact ⟨c,ls,e,p1⟩
 refine runQ_wp ?_
 unfold g_law_pick
 repeat (first | (with_reducible first | refine Xm.wp_bin2 ?_ | refine Xm.wp_un1 ?_ | refine Xm.wp_consA ?_ | refine Xm.wp_nilA ?_ | refine Xm.wp_rvD ?_ | refine Xm.wp_retS ?_) | ((with_reducible apply Xm.ex_of); · with_reducible assumption) | ((with_reducible apply Xm.mu_and); · rfl) | ((with_reducible apply Xm.wp_rd); · rfl) | ((with_reducible apply Xm.wp_callQ); · rfl))
 exact ⟨_,_,rfl,rfl,rfl,rfl⟩
theorem any_ok {n:Nat} {xs:List D} (h:PenOk n xs) (hn:n + 10 < 2 ^ 20):∃ u v ys,mq_law_any xs []=some (.val (.tuple [.int u,.int v]),ys)∧Nb u∧Nb v∧PenOk (n + 6) ys:=by
 obtain ⟨a,y1,e1,a0,a1,p1⟩:=draw_ok (m:=10 ^ 6) h (by omega) (by omega) (by omega)
 obtain ⟨b,y2,e2,b0,b1,p2⟩:=draw_ok (m:=10 ^ 6) p1 (by omega) (by omega) (by omega)
 obtain ⟨c,y3,e3,c0,c1,p3⟩:=draw_ok (m:=41) p2 (by omega) (by omega) (by omega)
 obtain ⟨t,y4,ht,e4,p4⟩:=pick_list (L:=[.int 0,.int 1,.int (-1),.int (c - 20),.int (a * 10 ^ 6 + b),.int (0 - (a * 10 ^ 6 + b)),.int (10 ^ 12 - 1),.int 7]) p3 (by omega) (by simp) (by simp)
 obtain ⟨d,y5,e5,d0,d1,p5⟩:=draw_ok (m:=12) p4 (by omega) (by omega) (by omega)
 obtain ⟨s,y6,hs,e6,p6⟩:=pick_list (L:=[.int 1,.int 1,.int 2,.int (1 + d),.int (if a * 10 ^ 6 + b > 1 then a * 10 ^ 6 + b else 1),.int (10 ^ 12 - 1)]) p5 (by omega) (by simp) (by simp)
 obtain ⟨ti,rfl,t1⟩:∃ i:Int,t=.int i∧i.natAbs ≤ 10 ^ 12:=by
  simp only [List.mem_cons,List.not_mem_nil,or_false] at ht
  rcases ht with rfl | rfl | rfl | rfl | rfl | rfl | rfl | rfl <;> exact ⟨_,rfl,by omega⟩
 obtain ⟨si,rfl,s1,s2⟩:∃ i:Int,s=.int i∧0 < i∧i ≤ 10 ^ 12:=by
  simp only [List.mem_cons,List.not_mem_nil,or_false] at hs
  rcases hs with rfl | rfl | rfl | rfl | rfl | rfl <;> refine ⟨_,rfl,?_,?_⟩ <;> (try split) <;> omega
 have k6:kPow (.int 10) (.int 6)=some (.int (10 ^ 6)):=k_powS (n:=6) (by decide) (by omega)
 have k12:kPow (.int 10) (.int 12)=some (.int (10 ^ 12)):=k_powS (n:=12) (by decide) (by omega)
 have km:kMul (.int a) (.int (10 ^ 6))=some (.int (a * 10 ^ 6)):=k_mulS (by omega) (by omega)
 have kx:kMax2 [.int 1,.int (a * 10 ^ 6 + b)]=some (.int (if a * 10 ^ 6 + b > 1 then a * 10 ^ 6 + b else 1)):=rfl
 have fr:=K79.m_law_reduced (t:=ti) (b:=si) (by omega) (Nat.lt_trans (log_le (Nat.lt_of_le_of_lt (show si.natAbs ≤ 10 ^ 12 by omega) (Nat.pow_lt_pow_right (by omega) (by omega)))) (by omega))
 obtain ⟨u,v,es,c1',v0,v1,_⟩:=sh_parts (n:=ti) (m:=si) s1
 rw [es] at fr
 suffices hh:∃ r ls,runQ g_law_any 3 xs []=some (r,ls)∧r=.val (.tuple [.int u,.int v])∧ls=y6 by
  obtain ⟨r,ls,e,rfl,rfl⟩:=hh
  exact ⟨u,v,ls,e,by unfold Nb; omega,by unfold Nb; omega,p6⟩
 refine runQ_wp ?_
 unfold g_law_any
 repeat (first | (with_reducible first | refine Xm.wp_seq ?_ | refine Xm.wp_asg ?_ | refine Xm.wp_bin2 ?_ | refine Xm.wp_un1 ?_ | refine Xm.wp_consA ?_ | refine Xm.wp_nilA ?_ | refine Xm.wp_cst ?_ | refine Xm.wp_rvD ?_ | refine Xm.wp_callP0 ?_ | refine Xm.wp_retS ?_ | refine Xm.wp_lstF ?_ | refine Xm.wp_bN ?_ | refine Xm.ex_of Xm.k_cat ?_ | refine Xm.ex_of Xm.k_sub ?_ | refine Xm.ex_of Xm.k_neg ?_) | ((with_reducible apply Xm.ex_of); · with_reducible assumption) | ((with_reducible apply Xm.np_and); · rfl) | ((with_reducible apply Xm.len_and); · exact Nat.le_of_ble_eq_true rfl) | ((with_reducible apply Xm.mu_and); · rfl) | ((with_reducible apply Xm.wp_rd); · rfl) | ((with_reducible apply Xm.wp_callQ); · rfl))
 exact ⟨_,_,rfl,rfl,rfl,rfl⟩
theorem rev_len (z:Str):(revT z).length ≤ z.length:=by
 unfold revT
 rw [picked_rev]
 show (Array.size _) ≤ _
 rw [List.size_toArray]
 refine Nat.le_trans (List.length_filterMap_le ..) ?_
 simp
theorem k_revS {z:Str} (h:z.length ≤ 1000000):kRevS (.str z)=some (.str (revT z)):=if_pos (Nat.le_trans (rev_len z) (sl_le h))
theorem k_mulS1 {x:Str} {k:Nat} (h1:2 ≤ k) (h2:k ≤ 1000) (h3:1 ≤ x.length) (h4:x.length ≤ 1000) (h5:(repS x k).length ≤ 100000):kMulS (.str x) (.int k)=some (.str (repS x k)):=by
 show (if (2 ≤ (k:Int)∧(k:Int) ≤ 1000∧1 ≤ x.length∧x.length ≤ 1000)∧(repS x (k:Int).toNat).length ≤ sizeLine then some (PyData.str (repS x (k:Int).toNat)) else none)=_
 rw [Int.toNat_natCast,if_pos ⟨⟨by omega,by omega,h3,h4⟩,sl_le (by omega)⟩]
theorem rep12:kMulS (.str (zS "1")) (.int 12)=some (.str (repS (zS "1") 12)):=k_mulS1 (k:=12) (by omega) (by omega) (by decide +kernel) (by decide +kernel) (by decide +kernel)
theorem rep13:kMulS (.str (zS "9")) (.int 13)=some (.str (repS (zS "9") 13)):=k_mulS1 (k:=13) (by omega) (by omega) (by decide +kernel) (by decide +kernel) (by decide +kernel)
def oddA:List D:=[.str (zS "00"),.str (zS "-0"),.str (zS "+1"),.str (zS "1/1"),.str (zS "2/4"),.str (zS "1/0"),.str (zS "1/-2"),.str (zS "0/3"),.str (zS ""),.str (zS "01"),.str (zS "0:1"),.str (zS "1:0"),.str (zS "4"),.str (repS (zS "1") 12)]
def oddB:List D:=[.str (repS (zS "9") 13),.str (zS "1/2")]
theorem odd_len:∀ d ∈ oddA++oddB,∃ O:Str,d=.str O∧O.length ≤ 13:=by
 intro d hd
 unfold oddA oddB at hd
 simp only [List.cons_append,List.nil_append,List.mem_cons,List.not_mem_nil,or_false] at hd
 rcases hd with rfl | rfl | rfl | rfl | rfl | rfl | rfl | rfl | rfl | rfl | rfl | rfl | rfl | rfl | rfl | rfl <;> exact ⟨_,rfl,by decide +kernel⟩
theorem warped_ok {n:Nat} {xs:List D} {z:Str} (h:PenOk n xs) (hn:n + 10 < 2 ^ 20) (hz:z.length ≤ 10000):∃ w ys,mq_law_warped xs [.str z]=some (.val (.str w),ys)∧w.length ≤ 3 * z.length + 20∧PenOk (n + 6) ys:=by
 obtain ⟨a,y1,e1,a0,a1,p1⟩:=draw_ok (m:=(z.length:Int) + 1) h (by omega) (by omega) (by omega)
 obtain ⟨u,y2,e2,p2⟩:=pick_text (z:=zS " :-().0123456789abcdefghijklmnopqrstuvwxyz\nABZ!\"#$&'*+,/;<=>?\x40[\\]^_`{|}~") p1 (by omega) (by decide +kernel) (by decide +kernel)
 obtain ⟨v,y3,e3,p3⟩:=pick_text (z:=zS " :-0129ab\n") p2 (by omega) (by decide +kernel) (by decide +kernel)
 obtain ⟨t,y4,ht,e4,p4⟩:=pick_list (L:=[.str (S1 u),.str (S1 v)]) p3 (by omega) (by simp) (by simp)
 obtain ⟨w,y5,e5,w0,w1,p5⟩:=draw_ok (m:=8) p4 (by omega) (by omega) (by omega)
 obtain ⟨T,rfl,lT⟩:∃ T:Str,t=.str T∧T.length=1:=by
  rcases List.mem_cons.mp ht with rfl | ht
  ·exact ⟨_,rfl,rfl⟩
  ·cases List.mem_singleton.mp ht
   exact ⟨_,rfl,rfl⟩
 obtain ⟨o,y6,ho,e6,p6⟩:=pick_list (L:=oddA++oddB) p5 (by omega) (by decide) (by decide)
 obtain ⟨O,rfl,lO⟩:=odd_len o ho
 have kl:kLenX (.str z)=some (.int z.length):=k_lenS (by omega)
 have c1:kCutS (.str z) none (some a)=some (.str (cutS z none (some a))):=k_cutS (by omega)
 have c2:kCutS (.str z) (some a) none=some (.str (cutS z (some a) none)):=k_cutS (by omega)
 have c3:kCutS (.str z) (some (a + 1)) none=some (.str (cutS z (some (a + 1)) none)):=k_cutS (by omega)
 have c4:kCutS (.str z) (some a) (some (a + 2))=some (.str (cutS z (some a) (some (a + 2)))):=k_cutS (by omega)
 have c5:kCutS (.str z) (some (a + 2)) none=some (.str (cutS z (some (a + 2)) none)):=k_cutS (by omega)
 have c6:kCutS (.str z) (some a) (some (a + 4))=some (.str (cutS z (some a) (some (a + 4)))):=k_cutS (by omega)
 have l1:=cut_len z none (some a)
 have l2:=cut_len z (some a) none
 have l3:=cut_len z (some (a + 1)) none
 have l4:=cut_len z (some a) (some (a + 2))
 have l5:=cut_len z (some (a + 2)) none
 have l6:=cut_len z (some a) (some (a + 4))
 generalize cutS z none (some a)=A at *
 generalize cutS z (some a) none=B at *
 generalize cutS z (some (a + 1)) none=C at *
 generalize cutS z (some a) (some (a + 2))=G at *
 generalize cutS z (some (a + 2)) none=E at *
 generalize cutS z (some a) (some (a + 4))=F at *
 have kr:kRevS (.str G)=some (.str (revT G)):=k_revS (by omega)
 have l7:=rev_len G
 generalize revT G=R at *
 have q1:kCatS (.str A) (.str T)=some (.str (A++T)):=k_catS (by omega)
 have q2:kCatS (.str (A++T)) (.str B)=some (.str (A++T++B)):=k_catS (by rw [app_len]; omega)
 have q3:kCatS (.str (A++T)) (.str C)=some (.str (A++T++C)):=k_catS (by rw [app_len]; omega)
 have q4:kCatS (.str A) (.str C)=some (.str (A++C)):=k_catS (by omega)
 have q5:kCatS (.str A) (.str R)=some (.str (A++R)):=k_catS (by omega)
 have q6:kCatS (.str (A++R)) (.str E)=some (.str (A++R++E)):=k_catS (by rw [app_len]; omega)
 have q7:kCatS (.str A) (.str F)=some (.str (A++F)):=k_catS (by omega)
 have q8:kCatS (.str (A++F)) (.str B)=some (.str (A++F++B)):=k_catS (by rw [app_len]; omega)
 have q9:kCatS (.str A) (.str O)=some (.str (A++O)):=k_catS (by omega)
 have q10:kCatS (.str (A++O)) (.str B)=some (.str (A++O++B)):=k_catS (by rw [app_len]; omega)
 have r1:=rep12
 have r2:=rep13
 have kc:kCat (.list oddA) (.list oddB)=some (.list (oddA++oddB)):=rfl
 unfold oddA oddB at kc e6
 suffices hh:∃ r ls,runQ g_law_warped 7 xs [.str z]=some (r,ls)∧∃ W:Str,r=.val (.str W)∧W.length ≤ 3 * z.length + 20∧(ls=y5∨ls=y6) by
  obtain ⟨r,ls,e,W,rfl,hW,hl⟩:=hh
  refine ⟨W,ls,e,hW,?_⟩
  rcases hl with rfl | rfl
  ·exact p5.mono (by omega)
  ·exact p6.mono (by omega)
 refine runQ_wp ?_
 unfold g_law_warped
 by_cases h2:w < 2
 ·have b:decide (w < 2)=true:=decide_eq_true h2
  repeat (first | (with_reducible first | refine Xm.wp_seq ?_ | refine Xm.wp_cutS2 ?_ | refine Xm.wp_asg ?_ | refine Xm.wp_bin2 ?_ | refine Xm.wp_un1 ?_ | refine Xm.wp_consA ?_ | refine Xm.wp_nilA ?_ | refine Xm.wp_cst ?_ | refine Xm.wp_valB ?_ | refine Xm.wp_ifS ?_ | refine Xm.wp_rvD ?_ | refine Xm.wp_retS ?_ | refine Xm.wp_lstF ?_ | refine Xm.wp_noO ?_ | refine Xm.wp_someO ?_ | refine Xm.ex_bool ?_ | refine Xm.ex_int ?_ | refine Xm.ex_of Xm.k_cat ?_ | refine Xm.ex_of Xm.k_lt ?_) | ((with_reducible apply Xm.ex_of); · with_reducible assumption) | ((with_reducible apply Xm.np_and); · rfl) | ((with_reducible apply Xm.len_and); · exact Nat.le_of_ble_eq_true rfl) | ((with_reducible apply Xm.mu_and); · rfl) | ((with_reducible apply Xm.ite_t); · with_reducible assumption) | ((with_reducible apply Xm.wp_rd); · rfl) | ((with_reducible apply Xm.wp_callQ); · rfl))
  exact ⟨_,_,rfl,rfl,_,rfl,by simp only [app_len]; omega,.inl rfl⟩
 have b2:decide (w < 2)=false:=decide_eq_false h2
 by_cases h4:w < 4
 ·have b:decide (w < 4)=true:=decide_eq_true h4
  repeat (first | (with_reducible first | refine Xm.wp_seq ?_ | refine Xm.wp_cutS2 ?_ | refine Xm.wp_asg ?_ | refine Xm.wp_bin2 ?_ | refine Xm.wp_un1 ?_ | refine Xm.wp_consA ?_ | refine Xm.wp_nilA ?_ | refine Xm.wp_cst ?_ | refine Xm.wp_valB ?_ | refine Xm.wp_ifS ?_ | refine Xm.wp_rvD ?_ | refine Xm.wp_skip ?_ | refine Xm.wp_retS ?_ | refine Xm.wp_lstF ?_ | refine Xm.wp_noO ?_ | refine Xm.wp_someO ?_ | refine Xm.ex_bool ?_ | refine Xm.ex_int ?_ | refine Xm.ex_of Xm.k_cat ?_ | refine Xm.ex_of Xm.k_lt ?_) | ((with_reducible apply Xm.ex_of); · with_reducible assumption) | ((with_reducible apply Xm.np_and); · rfl) | ((with_reducible apply Xm.len_and); · exact Nat.le_of_ble_eq_true rfl) | ((with_reducible apply Xm.mu_and); · rfl) | ((with_reducible apply Xm.ite_t); · with_reducible assumption) | ((with_reducible apply Xm.ite_f); · with_reducible assumption) | ((with_reducible apply Xm.wp_rd); · rfl) | ((with_reducible apply Xm.wp_callQ); · rfl))
  exact ⟨_,_,rfl,rfl,_,rfl,by simp only [app_len]; omega,.inl rfl⟩
 have b4:decide (w < 4)=false:=decide_eq_false h4
 by_cases h5:w=4
 ·have b:(w == 4)=true:=by rw [h5]; rfl
  repeat (first | (with_reducible first | refine Xm.wp_seq ?_ | refine Xm.wp_cutS2 ?_ | refine Xm.wp_asg ?_ | refine Xm.wp_bin2 ?_ | refine Xm.wp_un1 ?_ | refine Xm.wp_consA ?_ | refine Xm.wp_nilA ?_ | refine Xm.wp_cst ?_ | refine Xm.wp_valB ?_ | refine Xm.wp_ifS ?_ | refine Xm.wp_rvD ?_ | refine Xm.wp_skip ?_ | refine Xm.wp_retS ?_ | refine Xm.wp_lstF ?_ | refine Xm.wp_noO ?_ | refine Xm.wp_someO ?_ | refine Xm.ex_bool ?_ | refine Xm.ex_int ?_ | refine Xm.ex_of Xm.k_cat ?_ | refine Xm.ex_of Xm.k_lt ?_ | refine Xm.ex_of Xm.k_eqI ?_) | ((with_reducible apply Xm.ex_of); · with_reducible assumption) | ((with_reducible apply Xm.np_and); · rfl) | ((with_reducible apply Xm.len_and); · exact Nat.le_of_ble_eq_true rfl) | ((with_reducible apply Xm.mu_and); · rfl) | ((with_reducible apply Xm.ite_t); · with_reducible assumption) | ((with_reducible apply Xm.ite_f); · with_reducible assumption) | ((with_reducible apply Xm.wp_rd); · rfl) | ((with_reducible apply Xm.wp_callQ); · rfl))
  exact ⟨_,_,rfl,rfl,_,rfl,by simp only [app_len]; omega,.inl rfl⟩
 have b5:(w == 4)=false:=beq_false_of_ne h5
 by_cases h6:w=5
 ·have b:(w == 5)=true:=by rw [h6]; rfl
  repeat (first | (with_reducible first | refine Xm.wp_seq ?_ | refine Xm.wp_cutS2 ?_ | refine Xm.wp_revS ?_ | refine Xm.wp_asg ?_ | refine Xm.wp_bin2 ?_ | refine Xm.wp_un1 ?_ | refine Xm.wp_consA ?_ | refine Xm.wp_nilA ?_ | refine Xm.wp_cst ?_ | refine Xm.wp_valB ?_ | refine Xm.wp_ifS ?_ | refine Xm.wp_rvD ?_ | refine Xm.wp_skip ?_ | refine Xm.wp_retS ?_ | refine Xm.wp_lstF ?_ | refine Xm.wp_noO ?_ | refine Xm.wp_someO ?_ | refine Xm.ex_bool ?_ | refine Xm.ex_int ?_ | refine Xm.ex_of Xm.k_cat ?_ | refine Xm.ex_of Xm.k_lt ?_ | refine Xm.ex_of Xm.k_eqI ?_) | ((with_reducible apply Xm.ex_of); · with_reducible assumption) | ((with_reducible apply Xm.np_and); · rfl) | ((with_reducible apply Xm.len_and); · exact Nat.le_of_ble_eq_true rfl) | ((with_reducible apply Xm.mu_and); · rfl) | ((with_reducible apply Xm.ite_t); · with_reducible assumption) | ((with_reducible apply Xm.ite_f); · with_reducible assumption) | ((with_reducible apply Xm.wp_rd); · rfl) | ((with_reducible apply Xm.wp_callQ); · rfl))
  exact ⟨_,_,rfl,rfl,_,rfl,by simp only [app_len]; omega,.inl rfl⟩
 have b6:(w == 5)=false:=beq_false_of_ne h6
 by_cases h7:w=6
 ·have b:(w == 6)=true:=by rw [h7]; rfl
  repeat (first | (with_reducible first | refine Xm.wp_seq ?_ | refine Xm.wp_cutS2 ?_ | refine Xm.wp_asg ?_ | refine Xm.wp_bin2 ?_ | refine Xm.wp_un1 ?_ | refine Xm.wp_consA ?_ | refine Xm.wp_nilA ?_ | refine Xm.wp_cst ?_ | refine Xm.wp_valB ?_ | refine Xm.wp_ifS ?_ | refine Xm.wp_rvD ?_ | refine Xm.wp_skip ?_ | refine Xm.wp_retS ?_ | refine Xm.wp_lstF ?_ | refine Xm.wp_noO ?_ | refine Xm.wp_someO ?_ | refine Xm.ex_bool ?_ | refine Xm.ex_int ?_ | refine Xm.ex_of Xm.k_cat ?_ | refine Xm.ex_of Xm.k_lt ?_ | refine Xm.ex_of Xm.k_eqI ?_) | ((with_reducible apply Xm.ex_of); · with_reducible assumption) | ((with_reducible apply Xm.np_and); · rfl) | ((with_reducible apply Xm.len_and); · exact Nat.le_of_ble_eq_true rfl) | ((with_reducible apply Xm.mu_and); · rfl) | ((with_reducible apply Xm.ite_t); · with_reducible assumption) | ((with_reducible apply Xm.ite_f); · with_reducible assumption) | ((with_reducible apply Xm.wp_rd); · rfl) | ((with_reducible apply Xm.wp_callQ); · rfl))
  exact ⟨_,_,rfl,rfl,_,rfl,by simp only [app_len]; omega,.inl rfl⟩
 have b7:(w == 6)=false:=beq_false_of_ne h7
 repeat (first | (with_reducible first | refine Xm.wp_seq ?_ | refine Xm.wp_cutS2 ?_ | refine Xm.wp_asg ?_ | refine Xm.wp_bin2 ?_ | refine Xm.wp_un1 ?_ | refine Xm.wp_consA ?_ | refine Xm.wp_nilA ?_ | refine Xm.wp_cst ?_ | refine Xm.wp_valB ?_ | refine Xm.wp_ifS ?_ | refine Xm.wp_rvD ?_ | refine Xm.wp_skip ?_ | refine Xm.wp_retS ?_ | refine Xm.wp_lstF ?_ | refine Xm.wp_noO ?_ | refine Xm.wp_someO ?_ | refine Xm.ex_bool ?_ | refine Xm.ex_int ?_ | refine Xm.ex_of Xm.k_cat ?_ | refine Xm.ex_of Xm.k_lt ?_ | refine Xm.ex_of Xm.k_eqI ?_) | ((with_reducible apply Xm.ex_of); · with_reducible assumption) | ((with_reducible apply Xm.np_and); · rfl) | ((with_reducible apply Xm.len_and); · exact Nat.le_of_ble_eq_true rfl) | ((with_reducible apply Xm.mu_and); · rfl) | ((with_reducible apply Xm.ite_f); · with_reducible assumption) | ((with_reducible apply Xm.wp_rd); · rfl) | ((with_reducible apply Xm.wp_callQ); · rfl))
 exact ⟨_,_,rfl,rfl,_,rfl,by simp only [app_len]; omega,.inr rfl⟩
end K78
namespace K78
open PySem PySem.Spec PyProof.Rows L2 Xm Tx
open DwC (g_law_pen mf_law_pen e_law_pen g_law_draw mq_law_draw e_law_draw draw_ok pen0 m_law_pen)
open K79 (g_show_share mf_show_share e_show_share g_law_reduced mf_law_reduced e_law_reduced g_law_writ mf_law_writ e_law_writ app_len emp_app k_catS)
noncomputable def innerS:SF:=(clrS [6,7] (seqS (asgS 7 (rvD (callQ mq_law_warped 1 (consA (rd 5) nilA)))) (ifS (orB (notB (valB (rvD (callP mf_law_right [] (consA (rd 7) nilA))))) (orB (notB (valB (rvD (callP mf_law_right [] (consA (rvD (callQ mq_law_warped 1 (consA (rd 7) nilA))) nilA))))) (notB (valB (rvD (callP mf_law_right [] (consA (rvD (callQ mq_law_pick 1 (consA (rd 2) nilA))) nilA))))))) (retS (cst (.bool false))) skipS)))
noncomputable def outerS:SF:=(clrS [3,4,5,6,7] (seqS (asgS 4 (rvD (callQ mq_law_any 1 nilA))) (seqS (asgS 5 (rvD (callP mf_show_share [] (consA (rd 4) nilA)))) (seqS (ifS (orB (notB (valB (un1 (kIsa "str") (rd 5)))) (orB (valB (bin2 kNe (rd 5) (rvD (callP mf_law_writ [] (consA (rd 4) nilA))))) (valB (bin2 kNe (rvD (callK mf_show_share [.inr 0] nilA (consA (rd 4) nilA))) (rd 5))))) (retS (cst (.bool false))) skipS) (seqS (ifS (notB (valB (rvD (callP mf_law_right [] (consA (rd 5) nilA))))) (retS (cst (.bool false))) skipS) (seqS (forS (itR1 (cst (.int 4))) (setD 6) innerS) (ifS (notB (valB (rvD (callP mf_law_right [] (consA (rvD (callQ mq_law_pick 1 (consA (lstF (consA (cst .none) (consA (cst (.bool true)) (consA (cst (.int 0)) (consA (tupF nilA) (consA (lstF nilA) (consA (cst (.dict [])) (consA (tupF (consA (cst (.int 1)) (consA (cst (.int 2)) nilA))) (consA (lstF (consA (cst (.str (PySem.Str.ofString "1"))) nilA)) (consA (tupF (consA (cst (.str (PySem.Str.ofString "1"))) nilA)) nilA)))))))))) nilA))) nilA))))) (retS (cst (.bool false))) skipS)))))))
theorem law_is:g_law=(seqS (asgN 1 (rvN (callP mf_law_pen [] (consA (rd 0) nilA)))) (seqS (asgS 2 (lstF (consA (cst (.str (PySem.Str.ofString ""))) (consA (cst (.str (PySem.Str.ofString " "))) (consA (cst (.str (PySem.Str.ofString "0"))) (consA (cst (.str (PySem.Str.ofString "-0"))) (consA (cst (.str (PySem.Str.ofString "00"))) (consA (cst (.str (PySem.Str.ofString "1/1"))) (consA (cst (.str (PySem.Str.ofString "0/1"))) (consA (cst (.str (PySem.Str.ofString "2/4"))) (consA (cst (.str (PySem.Str.ofString "1/2"))) (consA (cst (.str (PySem.Str.ofString "-1/2"))) (consA (cst (.str (PySem.Str.ofString "1/-2"))) (consA (cst (.str (PySem.Str.ofString "1/0"))) (consA (cst (.str (PySem.Str.ofString "/2"))) (consA (cst (.str (PySem.Str.ofString "1/"))) (consA (cst (.str (PySem.Str.ofString "1//2"))) nilA))))))))))))))))) (seqS (asgS 2 (bin2 kCat (rd 2) (lstF (consA (cst (.str (PySem.Str.ofString "1/2/3"))) (consA (cst (.str (PySem.Str.ofString "--1"))) nilA))))) (seqS (asgS 2 (bin2 kCat (rd 2) (lstF (consA (cst (.str (PySem.Str.ofString "1 2"))) (consA (cst (.str (PySem.Str.ofString " 1"))) (consA (cst (.str (PySem.Str.ofString "1 "))) (consA (cst (.str (PySem.Str.ofString "1_0"))) (consA (cst (.str (PySem.Str.ofString "1\n"))) (consA (cst (.str (PySem.Str.ofString "1.5"))) (consA (cst (.str (PySem.Str.ofString "a"))) (consA (bin2 kMulS (cst (.str (PySem.Str.ofString "9"))) (cst (.int 12))) (consA (bin2 kMulS (cst (.str (PySem.Str.ofString "9"))) (cst (.int 13))) (consA (bin2 kCatS (cst (.str (PySem.Str.ofString "1/"))) (bin2 kMulS (cst (.str (PySem.Str.ofString "7"))) (cst (.int 12)))) (consA (bin2 kCatS (cst (.str (PySem.Str.ofString "1/"))) (bin2 kMulS (cst (.str (PySem.Str.ofString "7"))) (cst (.int 13)))) nilA)))))))))))))) (seqS (asgS 2 (bin2 kCat (rd 2) (lstF (consA (cst (.str (PySem.Str.ofString "+1"))) nilA)))) (seqS (forS (itR1 (cst (.int 6))) (setD 3) outerS) (retS (thenB true (cst .none))))))))):=rfl
def odd1:List D:=[.str (zS ""),.str (zS " "),.str (zS "0"),.str (zS "-0"),.str (zS "00"),.str (zS "1/1"),.str (zS "0/1"),.str (zS "2/4"),.str (zS "1/2"),.str (zS "-1/2"),.str (zS "1/-2"),.str (zS "1/0"),.str (zS "/2"),.str (zS "1/"),.str (zS "1//2")]
def odd2:List D:=[.str (zS "1/2/3"),.str (zS "--1")]
def odd3:List D:=[.str (zS "1 2"),.str (zS " 1"),.str (zS "1 "),.str (zS "1_0"),.str (zS "1\n"),.str (zS "1.5"),.str (zS "a"),.str (repS (zS "9") 12),.str (repS (zS "9") 13),.str (zS "1/" ++ repS (zS "7") 12),.str (zS "1/" ++ repS (zS "7") 13)]
def odd4:List D:=[.str (zS "+1")]
def oddD:List D:=odd1++odd2++odd3++odd4
theorem oddD_len:∀ d ∈ oddD,∃ O:Str,d=.str O∧O.length ≤ 100:=by
 intro d hd
 unfold oddD odd1 odd2 odd3 odd4 at hd
 simp only [List.cons_append,List.nil_append,List.append_assoc,List.mem_cons,List.not_mem_nil,or_false] at hd
 rcases hd with rfl | rfl | rfl | rfl | rfl | rfl | rfl | rfl | rfl | rfl | rfl | rfl | rfl | rfl | rfl | rfl | rfl | rfl | rfl | rfl | rfl | rfl | rfl | rfl | rfl | rfl | rfl | rfl | rfl <;> exact ⟨_,rfl,by decide +kernel⟩
theorem m9a:kMulS (.str (zS "9")) (.int 12)=some (.str (repS (zS "9") 12)):=k_mulS1 (k:=12) (by omega) (by omega) (by decide +kernel) (by decide +kernel) (by decide +kernel)
theorem m9b:kMulS (.str (zS "9")) (.int 13)=some (.str (repS (zS "9") 13)):=k_mulS1 (k:=13) (by omega) (by omega) (by decide +kernel) (by decide +kernel) (by decide +kernel)
theorem m7a:kMulS (.str (zS "7")) (.int 12)=some (.str (repS (zS "7") 12)):=k_mulS1 (k:=12) (by omega) (by omega) (by decide +kernel) (by decide +kernel) (by decide +kernel)
theorem m7b:kMulS (.str (zS "7")) (.int 13)=some (.str (repS (zS "7") 13)):=k_mulS1 (k:=13) (by omega) (by omega) (by decide +kernel) (by decide +kernel) (by decide +kernel)
theorem a7a:kCatS (.str (zS "1/")) (.str (repS (zS "7") 12))=some (.str (zS "1/" ++ repS (zS "7") 12)):=k_catS (by decide +kernel)
theorem a7b:kCatS (.str (zS "1/")) (.str (repS (zS "7") 13))=some (.str (zS "1/" ++ repS (zS "7") 13)):=k_catS (by decide +kernel)
def kinds:List D:=[.none,.bool true,.int 0,.tuple [],.list [],.dict [],.tuple [.int 1,.int 2],.list [.str (zS "1")],.tuple [.str (zS "1")]]
theorem kinds_not:∀ d ∈ kinds,isaT (tyD d) "str" = false:=by
 intro d hd
 unfold kinds at hd
 simp only [List.mem_cons,List.not_mem_nil,or_false] at hd
 rcases hd with rfl | rfl | rfl | rfl | rfl | rfl | rfl | rfl | rfl <;> rfl
abbrev J8 (A OD:D) (xs:List D) (s3 s4 s5 s6 s7:Slot):AS:=[.dat A,.own xs,.dat OD,s3,s4,s5,s6,s7]
theorem inner_ok {A:D} {n:Nat} {xs:List D} {s3 s4 s6:Slot} {Z:Str} (h:PenOk n xs) (hn:n + 20 < 2 ^ 20) (hz:Z.length ≤ 100) (h3:npB s3=true) (h4:npB s4=true) (h6:npB s6=true):Wp innerS (J8 A (.list oddD) xs s3 s4 (.dat (.str Z)) s6 .no) fun fl s=>fl=.nx∧∃ ys,s=J8 A (.list oddD) ys s3 s4 (.dat (.str Z)) .no .no∧PenOk (n + 14) ys:=by
 obtain ⟨w,y1,e1,l1,p1⟩:=warped_ok h (by omega) (show Z.length ≤ 10000 by omega)
 obtain ⟨v,y2,e2,l2,p2⟩:=warped_ok p1 (by omega) (show w.length ≤ 10000 by omega)
 obtain ⟨o,y3,ho,e3,p3⟩:=pick_list (L:=oddD) p2 (by omega) (by decide) (by decide)
 obtain ⟨O,rfl,lO⟩:=oddD_len o ho
 have f1:=m_right_str (z:=w) (by omega)
 have f2:=m_right_str (z:=v) (by omega)
 have f3:=m_right_str (z:=O) (by omega)
 unfold innerS
 generalize PyData.list oddD=OD at *
 repeat (first | (with_reducible first | refine Xm.wp_seq ?_ | refine Xm.wp_asg ?_ | refine Xm.wp_consA ?_ | refine Xm.wp_nilA ?_ | refine Xm.wp_valB ?_ | refine Xm.wp_ifS ?_ | refine Xm.wp_rvD ?_ | refine Xm.wp_callP0 ?_ | refine Xm.wp_skip ?_ | refine Xm.wp_orB ?_ | refine Xm.wp_notB ?_ | refine Xm.wp_clr ?_ | refine Xm.ite_nt ?_ | refine Xm.ex_bool ?_) | ((with_reducible apply Xm.ex_of); · with_reducible assumption) | ((with_reducible apply Xm.np_and); · rfl) | ((with_reducible apply Xm.mu_and); · rfl) | ((with_reducible apply Xm.wp_rd); · rfl) | ((with_reducible apply Xm.wp_callQ); · rfl))
 exact ⟨rfl,_,rfl,p3.mono (by omega)⟩
theorem outer_ok {A:D} {n:Nat} {xs:List D} {s3:Slot} (h:PenOk n xs) (hn:n + 200 < 2 ^ 20) (h3:npB s3=true):Wp outerS (J8 A (.list oddD) xs s3 .no .no .no .no) fun fl s=>fl=.nx∧∃ ys,s=J8 A (.list oddD) ys .no .no .no .no .no∧PenOk (n + 100) ys:=by
 obtain ⟨u,v,y1,e1,bu,bv,p1⟩:=any_ok h (by omega)
 have f1:=m_show2 bu bv
 have f2:=m_writ2 bu bv
 have lw:=wS_len bu bv
 have f3:=m_right_str (z:=wS u v) (by omega)
 have ne:kNe (.str (wS u v)) (.str (wS u v))=some (.bool false):=by rw [k_neStr]; simp
 have i1:isaT (tyD (.str (wS u v))) "str" = true:=rfl
 generalize wS u v=Z at *
 generalize PyData.tuple [.int u,.int v]=T at *
 unfold outerS
 repeat (first | (with_reducible first | refine Xm.wp_seq ?_ | refine Xm.wp_asg ?_ | refine Xm.wp_bin2 ?_ | refine Xm.wp_un1 ?_ | refine Xm.wp_consA ?_ | refine Xm.wp_nilA ?_ | refine Xm.wp_cst ?_ | refine Xm.wp_valB ?_ | refine Xm.wp_ifS ?_ | refine Xm.wp_rvD ?_ | refine Xm.wp_callP0 ?_ | refine Xm.wp_callK ?_ | refine Xm.wp_skip ?_ | refine Xm.wp_orB ?_ | refine Xm.wp_notB ?_ | refine Xm.wp_for ?_ | refine Xm.wp_clr ?_ | refine Xm.wp_itR1 ?_ | refine Xm.ite_nt ?_ | refine Xm.ite_nes ?_ | refine Xm.ex_bool ?_ | refine Xm.ex_of Xm.k_neStr ?_ | refine Xm.ex_of Xm.k_isa ?_) | ((with_reducible apply Xm.ex_of); · with_reducible assumption) | ((with_reducible apply Xm.ex_arr); · (simp only [arr,List.map_cons,List.map_nil,List.getD_cons_zero,List.getD_cons_succ]; rfl)) | ((with_reducible apply Xm.np_and); · rfl) | ((with_reducible apply Xm.mu_and); · rfl) | ((with_reducible apply Xm.ite_nbf); · with_reducible assumption) | ((with_reducible apply Xm.wp_rd); · rfl) | ((with_reducible apply Xm.wp_callQ); · rfl))
 refine ⟨4,rfl,by omega,?_⟩
 refine wp_loop (fun ds s=>∃ m ys s6,npB s6=true∧s=J8 A (.list oddD) ys s3 (.dat T) (.dat (.str Z)) s6 .no∧PenOk m ys∧m + 14 * ds.length ≤ n + 70) ?_ ?_ _ _ ⟨n + 6,y1,.no,rfl,rfl,p1,by rw [rng_len]; omega⟩
 ·rintro t ds0 s ⟨m,ys,s6,h6,rfl,hp,hm⟩
  rw [List.length_cons] at hm
  refine ⟨J8 A (.list oddD) ys s3 (.dat T) (.dat (.str Z)) (.dat t) .no,by simp [h6],(inner_ok hp (by omega) (by omega) h3 rfl rfl).imp ?_⟩
  rintro fl s ⟨rfl,zs,rfl,p2⟩
  exact ⟨m + 14,zs,.no,rfl,rfl,p2,by omega⟩
 ·rintro s ⟨m,ys,s6,h6,rfl,hp,hm⟩
  obtain ⟨o,y3,ho,e3,p3⟩:=pick_list (L:=kinds) hp (by omega) (by decide) (by decide)
  have f4:=m_right_not (kinds_not o ho)
  unfold kinds at e3
  generalize PyData.list oddD=OD at *
  repeat (first | (with_reducible first | refine Xm.wp_consA ?_ | refine Xm.wp_nilA ?_ | refine Xm.wp_cst ?_ | refine Xm.wp_valB ?_ | refine Xm.wp_ifS ?_ | refine Xm.wp_rvD ?_ | refine Xm.wp_callP0 ?_ | refine Xm.wp_skip ?_ | refine Xm.wp_notB ?_ | refine Xm.wp_tupF ?_ | refine Xm.wp_lstF ?_ | refine Xm.ite_nt ?_ | refine Xm.ex_bool ?_) | ((with_reducible apply Xm.ex_of); · with_reducible assumption) | ((with_reducible apply Xm.len_and); · exact Nat.le_of_ble_eq_true rfl) | ((with_reducible apply Xm.mu_and); · rfl) | ((with_reducible apply Xm.wp_callQ); · rfl))
  exact ⟨rfl,_,rfl,p3.mono (by omega)⟩
theorem law_true:∀ ns:List Int,ns.length ≤ 63→(∀ z ∈ ns,Builtin.Int.intBits z ≤ 1048576)→mf_law [.list (ns.map PyData.int)]=some (.val (.bool true)):=by
 intro ns _ _
 have hpen:=pen0 ns
 have e1:=m_law_pen (ns.map PyData.int)
 generalize ([.list (cutX (ns.map PyData.int) none (some 63)),.int 0,.int 0]:List D)=X0 at hpen e1
 generalize PyData.list (ns.map PyData.int)=A at e1
 have r1:=m9a
 have r2:=m9b
 have r3:=m7a
 have r4:=m7b
 have r5:=a7a
 have r6:=a7b
 have k1:kCat (.list odd1) (.list odd2)=some (.list (odd1++odd2)):=rfl
 have k2:kCat (.list (odd1++odd2)) (.list odd3)=some (.list (odd1++odd2++odd3)):=rfl
 have k3:kCat (.list (odd1++odd2++odd3)) (.list odd4)=some (.list oddD):=rfl
 unfold odd1 odd2 at k1
 unfold odd1 odd2 odd3 at k2
 unfold odd1 odd2 odd3 odd4 at k3
 refine runP_wp ?_
 rw [law_is]
 repeat (first | (with_reducible first | refine Xm.wp_seq ?_ | refine Xm.wp_asg ?_ | refine Xm.wp_bin2 ?_ | refine Xm.wp_consA ?_ | refine Xm.wp_nilA ?_ | refine Xm.wp_cst ?_ | refine Xm.wp_rvN ?_ | refine Xm.wp_callP0 ?_ | refine Xm.wp_asgN ?_ | refine Xm.wp_lstF ?_ | refine Xm.wp_for ?_ | refine Xm.wp_itR1 ?_ | refine Xm.ex_new ?_) | ((with_reducible apply Xm.ex_of); · with_reducible assumption) | ((with_reducible apply Xm.np_and); · rfl) | ((with_reducible apply Xm.len_and); · exact Nat.le_of_ble_eq_true rfl) | ((with_reducible apply Xm.wp_rd); · rfl))
 refine ⟨6,rfl,by omega,?_⟩
 refine wp_loop (fun ds s=>∃ n ys s3,npB s3=true∧s=J8 A (.list oddD) ys s3 .no .no .no .no∧PenOk n ys∧n + 100 * ds.length ≤ 1000) ?_ ?_ _ _ ⟨0,X0,.no,rfl,rfl,hpen,by rw [rng_len]; omega⟩
 ·rintro t ds0 s ⟨n,xs,s3,h3,rfl,hp,hn⟩
  rw [List.length_cons] at hn
  refine ⟨J8 A (.list oddD) xs (.dat t) .no .no .no .no,by simp [h3],(outer_ok hp (by omega) rfl).imp ?_⟩
  rintro fl s ⟨rfl,zs,rfl,p2⟩
  exact ⟨n + 100,zs,.no,rfl,rfl,p2,by omega⟩
 ·rintro s ⟨n,xs,s3,h3,rfl,hp,hn⟩
  repeat (first | with_reducible refine Xm.wp_retS ?_)
  exact ⟨_,_,rfl,rfl⟩
end K78
open PySem PySem.W PyProof.Rows
set_option maxHeartbeats 0 in
theorem PySem.Challenge.cw_crossmarks_k78_shares_written_and_read_holds : PySem.Challenge.rw_crossmarks_k78_shares_written_and_read.Holds := by
 w_on; o_law; k_head; (case hw=>w_witness2)
 k_fill
 refine' Xm.walkGT (c:=?c0) (l:=PySem.Challenge.rw_crossmarks_k78_shares_written_and_read) (n:=63) (k:=8) (x := "_law_script") (mf:=K78.mf_law) rfl (by decide) rfl ⟨rfl,by decide,by decide⟩ (fun w h Y=>PySem.W.km_in_of Y) (fun w h Y=>PySem.W.km_tabs_of Y _ (.head _)) ?nT ?hC ?F K78.law_true
 case F=>
  intro w mg fa h KX G hmg
  refine' K78.all_mk KX G hmg ?a_is_whole ?l_is_whole ?c_is_whole ?k_is_whole ?a_common ?l_common ?c_common ?k_common ?a_show_share ?l_show_share ?c_show_share ?k_show_share ?a_number_in ?l_number_in ?c_number_in ?k_number_in ?a_law_pen ?l_law_pen ?c_law_pen ?k_law_pen ?a_law_draw ?l_law_draw ?c_law_draw ?k_law_draw ?a_law_reduced ?l_law_reduced ?c_law_reduced ?k_law_reduced ?a_law_writ ?l_law_writ ?c_law_writ ?k_law_writ ?a_law_number_in ?l_law_number_in ?c_law_number_in ?k_law_number_in ?a_law_heard ?l_law_heard ?c_law_heard ?k_law_heard ?a_is_share ?l_is_share ?c_is_share ?k_is_share ?a_law_pick ?l_law_pick ?c_law_pick ?k_law_pick ?a_law_share_in ?l_law_share_in ?c_law_share_in ?k_law_share_in ?a_need ?l_need ?c_need ?k_need ?q_need ?a_share_in ?l_share_in ?c_share_in ?k_share_in ?a_law_any ?l_law_any ?c_law_any ?k_law_any ?a_law_warped ?l_law_warped ?c_law_warped ?k_law_warped ?a_read_share ?l_read_share ?c_read_share ?k_read_share ?a_law_right ?l_law_right ?c_law_right ?k_law_right ?a_law ?l_law ?c_law ?k_law ?z_ValueError ?z_abs ?z_all ?z_bool ?z_int ?z_isinstance ?z_len ?z_max ?z_range ?z_repr ?z_str ?z_tuple ?mGFIGURES ?mGMOST_FIGURES ?aX_CrossError ?lX_CrossError ?nX_CrossError ?rX_CrossError ?iX_CrossError ?kX_CrossError ?sX_CrossError ?tX_CrossError ?jX_CrossError ?aX_NoShare ?lX_NoShare ?nX_NoShare ?rX_NoShare ?iX_NoShare ?kX_NoShare ?sX_NoShare ?tX_NoShare ?jX_NoShare ?aX_NoThing ?sX_NoThing ?tX_NoThing ?jX_NoThing ?aX_NoCase ?sX_NoCase ?tX_NoCase ?jX_NoCase ?aX_NoOrder ?lX_NoOrder ?nX_NoOrder ?rX_NoOrder ?iX_NoOrder ?kX_NoOrder ?sX_NoOrder ?tX_NoOrder ?jX_NoOrder ?aX_NoText ?sX_NoText ?tX_NoText ?jX_NoText ?lX_NoText ?saX_NoText ?kX_NoText ?iX_NoText ?tIX_NoText ?tkX_NoText ?lIX_NoText ?cIX_NoText ?gaB ?rdB ?vB ?aX_NoWeight ?lX_NoWeight ?nX_NoWeight ?rX_NoWeight ?iX_NoWeight ?kX_NoWeight ?sX_NoWeight ?tX_NoWeight ?jX_NoWeight ?sX_NoText_CrossError ?sX_NoText_NoShare ?sX_NoText_NoThing ?gE_NoText ?hE_NoText ?dE_NoText ?cE_NoText ?mE_NoText ?nE ?tE ?fF_NoText_at ?kO_NoText_NoText ?kO_NoText_ValueError ?kT_NoText_NoCase_NoOrder_NoWeight_NoShare_NoThing
  (case a_is_whole=>k_is); (case l_is_whole=>k_is); (case c_is_whole=>k_is); (case k_is_whole=>k_is); (case a_common=>k_is); (case l_common=>k_is); (case c_common=>k_is); (case k_common=>k_is); (case a_show_share=>k_is); (case l_show_share=>k_is); (case c_show_share=>k_is); (case k_show_share=>k_is); (case a_number_in=>k_is); (case l_number_in=>k_is); (case c_number_in=>k_is); (case k_number_in=>k_is); (case a_law_pen=>k_is); (case l_law_pen=>k_is); (case c_law_pen=>k_is); (case k_law_pen=>k_is); (case a_law_draw=>k_is); (case l_law_draw=>k_is); (case c_law_draw=>k_is); (case k_law_draw=>k_is); (case a_law_reduced=>k_is); (case l_law_reduced=>k_is); (case c_law_reduced=>k_is); (case k_law_reduced=>k_is); (case a_law_writ=>k_is); (case l_law_writ=>k_is); (case c_law_writ=>k_is); (case k_law_writ=>k_is); (case a_law_number_in=>k_is); (case l_law_number_in=>k_is); (case c_law_number_in=>k_is); (case k_law_number_in=>k_is); (case a_law_heard=>k_is); (case l_law_heard=>k_is); (case c_law_heard=>k_is); (case k_law_heard=>k_is); (case a_is_share=>k_is); (case l_is_share=>k_is); (case c_is_share=>k_is); (case k_is_share=>k_is); (case a_law_pick=>k_is); (case l_law_pick=>k_is); (case c_law_pick=>k_is); (case k_law_pick=>k_is); (case a_law_share_in=>k_is); (case l_law_share_in=>k_is); (case c_law_share_in=>k_is); (case k_law_share_in=>k_is); (case a_need=>k_is); (case l_need=>k_is); (case c_need=>k_is); (case k_need=>k_is); (case q_need=>k_is); (case a_share_in=>k_is); (case l_share_in=>k_is); (case c_share_in=>k_is); (case k_share_in=>k_is); (case a_law_any=>k_is); (case l_law_any=>k_is); (case c_law_any=>k_is); (case k_law_any=>k_is); (case a_law_warped=>k_is); (case l_law_warped=>k_is); (case c_law_warped=>k_is); (case k_law_warped=>k_is); (case a_read_share=>k_is); (case l_read_share=>k_is); (case c_read_share=>k_is); (case k_read_share=>k_is); (case a_law_right=>k_is); (case l_law_right=>k_is); (case c_law_right=>k_is); (case k_law_right=>k_is); (case a_law=>k_is); (case l_law=>k_is); (case c_law=>k_is); (case k_law=>k_is); (case z_ValueError=>k_is); (case z_abs=>k_is); (case z_all=>k_is); (case z_bool=>k_is); (case z_int=>k_is); (case z_isinstance=>k_is); (case z_len=>k_is); (case z_max=>k_is); (case z_range=>k_is); (case z_repr=>k_is); (case z_str=>k_is); (case z_tuple=>k_is); (case mGFIGURES=>k_is); (case mGMOST_FIGURES=>k_is); (case aX_CrossError=>k_is); (case lX_CrossError=>k_is); (case nX_CrossError=>k_is); (case rX_CrossError=>rfl); (case iX_CrossError=>k_is); (case kX_CrossError=>k_is); (case sX_CrossError=>k_is); (case tX_CrossError=>k_is); (case jX_CrossError=>k_is); (case aX_NoShare=>k_is); (case lX_NoShare=>k_is); (case nX_NoShare=>k_is); (case rX_NoShare=>rfl); (case iX_NoShare=>k_is); (case kX_NoShare=>k_is); (case sX_NoShare=>k_is); (case tX_NoShare=>k_is); (case jX_NoShare=>k_is); (case aX_NoThing=>k_is); (case sX_NoThing=>k_is); (case tX_NoThing=>k_is); (case jX_NoThing=>k_is); (case aX_NoCase=>k_is); (case sX_NoCase=>k_is); (case tX_NoCase=>k_is); (case jX_NoCase=>k_is); (case aX_NoOrder=>k_is); (case lX_NoOrder=>k_is); (case nX_NoOrder=>k_is); (case rX_NoOrder=>rfl); (case iX_NoOrder=>k_is); (case kX_NoOrder=>k_is); (case sX_NoOrder=>k_is); (case tX_NoOrder=>k_is); (case jX_NoOrder=>k_is); (case aX_NoText=>k_is); (case sX_NoText=>k_is); (case tX_NoText=>k_is); (case jX_NoText=>k_is); (case lX_NoText=>k_is); (case saX_NoText=>k_is); (case kX_NoText=>k_is); (case iX_NoText=>k_is); (case tIX_NoText=>k_is); (case tkX_NoText=>k_is); (case lIX_NoText=>k_is); (case cIX_NoText=>k_is); (case gaB=>k_is); (case rdB=>k_is); (case vB=>k_is); (case aX_NoWeight=>k_is); (case lX_NoWeight=>k_is); (case nX_NoWeight=>k_is); (case rX_NoWeight=>rfl); (case iX_NoWeight=>k_is); (case kX_NoWeight=>k_is); (case sX_NoWeight=>k_is); (case tX_NoWeight=>k_is); (case jX_NoWeight=>k_is); (case sX_NoText_CrossError=>k_is); (case sX_NoText_NoShare=>k_is); (case sX_NoText_NoThing=>k_is); (case gE_NoText=>k_is); (case hE_NoText=>k_is); (case dE_NoText=>k_is); (case cE_NoText=>k_is); (case mE_NoText=>k_is); (case nE=>k_is); (case tE=>k_is); (case fF_NoText_at=>k_is); (case kO_NoText_NoText=>first | rfl | kernel_rfl); (case kO_NoText_ValueError=>first | rfl | kernel_rfl); (case kT_NoText_NoCase_NoOrder_NoWeight_NoShare_NoThing=>first | rfl | kernel_rfl)
 case nT=>intro w; first | rfl | kernel_rfl
 case hC=>intro w; first | rfl | kernel_rfl
