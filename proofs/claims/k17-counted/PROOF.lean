import PyProof.Rows.All
import Wide.All
import OpenK.AllK
import Wide.FinOn
import KE.KStateDown
import Lean
import HandS.ForMost
import HandS.ForExc
import HandS.More
import HandS.Defaults
import HandS.Exc
import HandS.HeadHook1
import HandS.Lambda
import HandS.Deep
import HandS.TupAny
import HandS.TupLe
import HandS.IsInst
import HandS.Style
import HandS.Flow
import HandS.Wide
import HandS.SetFor
import KE.GoesEnum
import HandS.Iter
import KE.KDictZip
import KE.SortData
import HandS.SortInts
import HandS.ExcValue
import HandS.ExcIs
import HandS.TryOnly
import HandS.Text
import PyProof.StrLaws
import HandS.SetKeys
import PyProof.Rows.SetFrom
import HandS.TupSets
import HandS.FStr
import PyProof.ToksMono
import HandS.Strs
import KE.KDictPairs
import HandS.DictTup
import HandS.Conv
import KE.KDictSum
import HandS.SortKw
import KE.KDictKeyed
import HandS.ListItems
import KE.KDictCopyH
import HandS.TupLen
import KE.SortKeyHeap
import KE.DataFind
import HandS.Head0
import HandS.Head1
import HandS.Head2
import HandS.HeadEnd
import HandS.HeadHook2
import HandS.ExcBuiltin
import HandS.Ends
import HandS.HeadHook4
import HandS.HeadWalk
import KE.KNestM
import PySem.Challenge.RW_heldrows_k17_whole_values_counted
set_option Elab.async false
set_option linter.all false
set_option maxRecDepth 100000
set_option maxHeartbeats 0
set_option autoImplicit false
section
namespace Hr
open PySem PySem.Spec L2
def isTb:HO→Bool
  | .tbl _=>true
  | _=>false
def isPl:HO→Bool
  | .tbl _=>false
  | .ext _=>false
  | _=>true
theorem isPl_tb {o:HO} (h:isPl o=true):isTb o=false:=by cases o <;> first | rfl | cases h
def NoT (G:Hp):Prop:=∀ b o,G b=some o→isTb o=false
def tabAd (K:PySem.W.Frag) (f:Addr):Option (Addr×Addr):=match K.lookup f with
  | some ⟨_,_,.func fd,_⟩=>(match fd.code with
    | .ref c=>(match K.lookup c with
      | some ⟨_,_,.fields vs,_⟩=>(match (vs[11]?:Option Value) with
        | some (.ref P)=>some (c,P)
        | _=>none)
      | _=>none)
    | _=>none)
  | _=>none
def lamDefs:List ((Str×Option Str)×Str):=[(("law",none), "law"),(("View",some "all_made"), "View.all_made"),(("sorted_by",none), "sorted_by")]
def tabC (K:PySem.W.Frag):List (Addr×Addr):=lamDefs.filterMap fun p=>tabAd K (He.fAd K p.1)
def tabsK (K:PySem.W.Frag):List (Addr×Str):=lamDefs.filterMap fun p=>(tabAd K (He.fAd K p.1)).map fun r=>(r.2,p.2 ++ ".<locals>." ++ "<lambda>")
theorem tabsK_C {K:PySem.W.Frag}:∀ p∈tabsK K,∃ c,(c,p.1)∈tabC K:=fun p hp=>by
  unfold tabsK at hp
  obtain ⟨d,hd,e⟩:=List.mem_filterMap.mp hp
  cases q:tabAd K (He.fAd K d.1) with
  | none=>rw [q] at e; cases e
  | some r=>rw [q] at e; cases e; exact ⟨r.1,List.mem_filterMap.mpr ⟨d,hd,q⟩⟩
def TK (K:PySem.W.Frag) (H:Hp):Prop:=LamX.Tabs (tabsK K) H
structure Kp (K:PySem.W.Frag) (H H':Hp):Prop where
  at_:∀ b o,H b=some o→isTb o=false→H' b=some o
  tb:∀ b ps,H b=some (.tbl ps)→∃ ps',H' b=some (.tbl ps')
  ts:∀ p∈tabsK K,LamX.TabS H p.1 p.2→LamX.TabS H' p.1 p.2
instance {K:PySem.W.Frag} {H H':Hp}:CoeFun (Kp K H H') fun _=>∀ b o,H b=some o→isTb o=false→H' b=some o:=⟨Kp.at_⟩
theorem Kp.of {K:PySem.W.Frag} {H H':Hp} (e:Same H H'):Kp K H H':=⟨fun b o h _=>e b o h,fun b ps h=>⟨ps,e _ _ h⟩,fun _ _ t=>t.ext e⟩
theorem Kp.refl {K:PySem.W.Frag} (H:Hp):Kp K H H:=.of (.refl H)
theorem Kp.trans {K:PySem.W.Frag} {H H1 H2:Hp} (a:Kp K H H1) (b:Kp K H1 H2):Kp K H H2 :=
  ⟨fun c o h n=>b.at_ c o (a.at_ c o h n) n,fun c ps h=>let ⟨ps',h'⟩:=a.tb c ps h; b.tb c ps' h',fun p hp t=>b.ts p hp (a.ts p hp t)⟩
theorem Kp.any {K:PySem.W.Frag} {H H':Hp} (k:Kp K H H') {b:Addr} {o:HO} (h:H b=some o):∃ o',H' b=some o'∧(isTb o=false→o'=o)∧(isTb o=true→isTb o'=true):=by
  cases q:isTb o with
  | false=>exact ⟨o,k.at_ b o h q,fun _=>rfl,fun z=>nomatch z⟩
  | true=>cases o with
    | tbl ps=>obtain ⟨ps',h'⟩:=k.tb b ps h; exact ⟨_,h',fun z=>(nomatch z),fun _=>rfl⟩
    | _=>cases q
theorem Kp.free {K:PySem.W.Frag} {H H':Hp} (k:Kp K H H') {p:Addr} (h:H' p=none):H p=none:=by
  cases q:H p with
  | none=>rfl
  | some o=>obtain ⟨o',h',_⟩:=k.any q; rw [h] at h'; cases h'
theorem tabS_upd {H:Hp} {a P:Addr} {q:Str} {o:HO} (t:LamX.TabS H P q) (h:∀ u,H a=some u→isPl u=true):LamX.TabS (upd H a o) P q:=by
  obtain ⟨ps,h1,h2,h3⟩:=t
  refine ⟨ps,?_,h2,fun pos cv hc=>?_⟩
  · rw [upd_ne fun z=>by rw [z] at h1; have:=h _ h1; cases this]; exact h1
  · obtain ⟨c,e1,e2⟩:=h3 pos cv hc
    exact ⟨c,e1,by rw [upd_ne fun z=>by rw [z] at e2; have:=h _ e2; cases this]; exact e2⟩
theorem Kp.set {K:PySem.W.Frag} {H0 H:Hp} {a:Addr} {o:HO} (k:Kp K H0 H) (h0:H0 a=none) (h:∀ u,H a=some u→isPl u=true):Kp K H0 (upd H a o) :=
  ⟨fun b u e n=>by rw [upd_ne (ne_of_none e h0)]; exact k.at_ b u e n,fun b ps e=>by rw [upd_ne (ne_of_none e h0)]; exact k.tb b ps e,fun p hp t=>tabS_upd (k.ts p hp t) h⟩
theorem pl_of {H:Hp} {a:Addr} {o:HO} (h:H a=some o) (p:isPl o=true):∀ u,H a=some u→isPl u=true:=fun u e=>by rw [h] at e; cases e; exact p
theorem Kp.rd {K:PySem.W.Frag} {H H':Hp} (k:Kp K H H') {a:Addr} {u:HO} (hu:isTb u=false) (h:Rd H a u):Rd H' a u:=h.imp (fun e=>k.at_ _ _ e hu) fun ⟨o,q⟩=>⟨o,k.at_ _ _ q rfl⟩
theorem Kp.seq {K:PySem.W.Frag} {H H':Hp} (k:Kp K H H') {a:Addr} {xs:List V} (h:SqL K H a xs):SqL K H' a xs:=h.imp (k.rd rfl) id
theorem TK.kp {K:PySem.W.Frag} {H H':Hp} (t:TK K H) (k:Kp K H H'):TK K H':=fun p hp=>k.ts p hp (t p hp)
structure KpT (K:PySem.W.Frag) (H0 H:Hp):Prop where
  kp:Kp K H0 H
  tk:TK K H
instance {K:PySem.W.Frag} {H H':Hp}:CoeFun (KpT K H H') fun _=>∀ b o,H b=some o→isTb o=false→H' b=some o:=⟨fun k=>k.kp.at_⟩
instance {K:PySem.W.Frag} {H H':Hp}:CoeOut (KpT K H H') (Kp K H H'):=⟨KpT.kp⟩
theorem KpT.trans {K:PySem.W.Frag} {H H1 H2:Hp} (a:KpT K H H1) (b:Kp K H1 H2):KpT K H H2:=⟨a.kp.trans b,a.tk.kp b⟩
theorem KpT.free {K:PySem.W.Frag} {H H':Hp} (k:KpT K H H') {p:Addr} (h:H' p=none):H p=none:=k.kp.free h
theorem KpT.set {K:PySem.W.Frag} {H0 H:Hp} {a:Addr} {o:HO} (k:KpT K H0 H) (h0:H0 a=none) (h:∀ u,H a=some u→isPl u=true):KpT K H0 (upd H a o) :=
  ⟨k.kp.set h0 h,fun p hp=>tabS_upd (k.tk p hp) h⟩
structure Sub (G H:Hp):Prop where
  s:Same G H
  n:NoT G
instance {H H':Hp}:CoeFun (Sub H H') fun _=>∀ b o,H b=some o→H' b=some o:=⟨Sub.s⟩
instance {H H':Hp}:Coe (Sub H H') (Same H H'):=⟨Sub.s⟩
theorem Sub.refl {G:Hp} (n:NoT G):Sub G G:=⟨.refl _,n⟩
theorem Sub.trans {G H H':Hp} (a:Sub G H) (b:Same H H'):Sub G H':=⟨a.s.trans b,a.n⟩
theorem Sub.kp {K:PySem.W.Frag} {G H H':Hp} (a:Sub G H) (b:Kp K H H'):Sub G H':=⟨fun c o h=>b.at_ c o (a.s c o h) (a.n c o h),a.n⟩
theorem Sub.free {G H:Hp} (e:Sub G H) {l:Addr} (h:H l=none):G l=none:=e.s.free h
theorem Sub.seq {K:PySem.W.Frag} {H H':Hp} {a:Addr} {xs:List V} (e:Sub H H') (h:SqL K H a xs):SqL K H' a xs:=e.s.seq h
theorem Sub.set {G H:Hp} {a:Addr} {o:HO} (e:Sub G H) (h:G a=none):Sub G (L2.upd H a o):=⟨fun b u q=>by rw [upd_ne (ne_of_none q h)]; exact e.s b u q,e.n⟩
theorem NoT.upd {G:Hp} {p:Addr} {o:HO} (n:NoT G) (h:isTb o=false):NoT (upd G p o):=fun b u e=>by
  by_cases hb:b=p
  · subst hb; rw [upd_same] at e; cases e; exact h
  · rw [upd_ne hb] at e; exact n b u e
inductive D where
  | non | bl (b:Bool) | int (i:Int) | str (x:Str) | tup (ds:List D) | lst (ds:List D)
  | dic (t:Bool) (ks:List (List Key)) (ds:List D)
  | arr (ds:List D) | kt (ds:List D)
  | exc (c:Str)
  | adr (a:Nat)
  | lnk
inductive R (α:Type) where
  | ok (a:α) | exc (c:Str) | stuck
def R.bind {α β:Type} (x:R α) (f:α→R β):R β:=match x with
  | .ok a=>f a
  | .exc c=>.exc c
  | .stuck=>.stuck
instance:Monad R where
  pure:=R.ok
  bind:=R.bind
@[simp] theorem R.pure_eq {α:Type} (a:α):(pure a:R α)=.ok a:=rfl
@[simp] theorem R.ok_bind {α β:Type} (a:α) (f:α→R β):(R.ok a >>= f)=f a:=rfl
@[simp] theorem R.exc_bind {α β:Type} (c:Str) (f:α→R β):(R.exc c >>= f)=.exc c:=rfl
@[simp] theorem R.stuck_bind {α β:Type} (f:α→R β):((R.stuck:R α) >>= f)=.stuck:=rfl
def R.of {α:Type}:Option α→R α
  | some a=>.ok a
  | none=>.stuck
@[simp] theorem R.of_some {α:Type} (a:α):R.of (some a)=.ok a:=rfl
@[simp] theorem R.of_none {α:Type}:R.of (none:Option α)=.stuck:=rfl
inductive OT where
  | fz | own (t:OT) | tp (j:Nat)
  deriving DecidableEq
abbrev En:=List (Option D)
abbrev Frag:=PySem.W.Frag
abbrev St:=L2.St
def clsV (K:Frag) (c:Str):Value:=.ref (He.ga K c)
def XO (cls:Value) (a:Addr):HO:=.ext fun h=>∃ (oe:Obj) (vs:Array Value),h.get? a=some oe∧Zc cls none oe∧oe.data=.fields vs
def isKV:V→Bool
  | .int _=>true
  | .str _=>true
  | _=>false
def keyVs (vs:List V):Bool:= !vs.isEmpty && vs.all isKV
def pT (us:List Value) (vs:List V):HO:=if keyVs vs=true then .tup vs else .frz { cls:=.type "tuple",data:=.seq us.toArray } (.tup vs)
theorem isTb_pT {us:List Value} {vs:List V}:isTb (pT us vs)=false:=by unfold pT; split <;> rfl
theorem pT_ok {P:Program} {w:World} {H:Hp} {h:Heap} {a:Addr} {us:List Value} {vs:List V} (x:h.get? a=some { cls:=.type "tuple",data:=.seq us.toArray }∧vs.length≤sizeLine∧∃ its:List Value,Vals vs its∧PyProof.Rows.IsTup h a its.toArray):ObjOk P w H h a (pT us vs):=by
  unfold pT
  split
  · exact x.2
  · exact x
theorem pT_key {us:List Value} {vs:List V} (h:keyVs vs=true):pT us vs=.tup vs:=if_pos h
theorem pT_not {us:List Value} {vs:List V} (h:keyVs vs=false):pT us vs=.frz { cls:=.type "tuple",data:=.seq us.toArray } (.tup vs):=if_neg (by rw [h]; simp)
def PlT (G:Hp) (a:Addr) (vs:List V):Prop:=∃ us,G a=some (pT us vs)
theorem PlT.same {G G':Hp} {a:Addr} {vs:List V} (h:PlT G a vs) (e:Same G G'):PlT G' a vs:=let ⟨us,z⟩:=h; ⟨us,e _ _ z⟩
theorem PlT.kp {K:Frag} {G G':Hp} {a:Addr} {vs:List V} (h:PlT G a vs) (e:Kp K G G'):PlT G' a vs:=let ⟨us,z⟩:=h; ⟨us,e.at_ _ _ z isTb_pT⟩
theorem PlT.sq {K:Frag} {H:Hp} {a:Addr} {vs:List V} (h:PlT H a vs):SqT K H a vs:=by
  obtain ⟨us,z⟩:=h
  cases q:keyVs vs with
  | true=>rw [pT_key q] at z; exact .inl (.inl z)
  | false=>rw [pT_not q] at z; exact .inl (.inr ⟨_,z⟩)
mutual
inductive RD (K:Frag) (G:Hp):V→D→Prop
  | non:RD K G .non .non
  | bl (b:Bool):RD K G (.bl b) (.bl b)
  | int (i:Int):RD K G (.int i) (.int i)
  | str (x:Str):PyData.strOk x=true→x.length≤sizeLine→RD K G (.str x) (.str x)
  | tup {a:Addr} {vs:List V} {ds:List D}:PlT G a vs→vs.length≤sizeLine→RDs K G vs ds→RD K G (.ref a) (.tup ds)
  | lst {a:Addr} {vs:List V} {ds:List D}:G a=some (.lst vs)→vs.length≤sizeLine→RDs K G vs ds→RD K G (.ref a) (.lst ds)
  | arr {a:Addr} {vs:List V} {ds:List D}:SqL K G a vs→vs.length≤sizeLine→RDs K G vs ds→RD K G (.ref a) (.arr ds)
  | kt {a:Addr} {vs:List V} {ds:List D}:SqT K G a vs→vs.length≤sizeLine→RDs K G vs ds→RD K G (.ref a) (.kt ds)
  | dK {a:Addr} {kvs:List (Key×V)} {ds:List D}:G a=some (.dK kvs)→kvs.length≤sizeLine→RDs K G (kvs.map (·.2)) ds→RD K G (.ref a) (.dic false (kvs.map fun p=>[p.1]) ds)
  | dT {a:Addr} {kvs:List (List Key×V)} {ds:List D}:Rd G a (.dT kvs)→kvs.length≤sizeLine→RDs K G (kvs.map (·.2)) ds→RD K G (.ref a) (.dic true (kvs.map fun p=>p.1) ds)
  | exc {a:Addr} {c:Str}:G a=some (XO (clsV K c) a)→RD K G (.ref a) (.exc c)
  | adr (a:Addr):RD K G (.ref a) (.adr a)
  | lnk (a:Addr):RD K G (.ref a) .lnk
inductive RDs (K:Frag) (G:Hp):List V→List D→Prop
  | nil:RDs K G [] []
  | cons {v:V} {vs:List V} {d:D} {ds:List D}:RD K G v d→RDs K G vs ds→RDs K G (v :: vs) (d :: ds)
end
theorem Rd.same {H H':Hp} {a:Addr} {u:HO} (e:Same H H') (h:Rd H a u):Rd H' a u:=h.imp (e _ _) fun ⟨o,q⟩=>⟨o,e _ _ q⟩
theorem SqT.same {K:Frag} {H H':Hp} {a:Addr} {xs:List V} (e:Same H H') (h:SqT K H a xs):SqT K H' a xs:=by
  rcases h with (h | ⟨o,h⟩) | h
  · exact .inl (.inl (e _ _ h))
  · exact .inl (.inr ⟨o,e _ _ h⟩)
  · exact .inr h
mutual
theorem RD.mono {K:Frag} {G G':Hp} (e:Same G G'):∀ {v:V} {d:D},RD K G v d→RD K G' v d
  | _,_,.non=>.non
  | _,_,.bl b=>.bl b
  | _,_,.int i=>.int i
  | _,_,.str x h l=>.str x h l
  | _,_,.tup s l r=>.tup (s.same e) l (RDs.mono e r)
  | _,_,.kt s l r=>.kt (SqT.same e s) l (RDs.mono e r)
  | _,_,.lst s l r=>.lst (e _ _ s) l (RDs.mono e r)
  | _,_,.arr s l r=>.arr (e.seq s) l (RDs.mono e r)
  | _,_,.dK s l r=>.dK (e _ _ s) l (RDs.mono e r)
  | _,_,.dT s l r=>.dT (Rd.same e s) l (RDs.mono e r)
  | _,_,.exc s=>.exc (e _ _ s)
  | _,_,.adr a=>.adr a
  | _,_,.lnk a=>.lnk a
theorem RDs.mono {K:Frag} {G G':Hp} (e:Same G G'):∀ {vs:List V} {ds:List D},RDs K G vs ds→RDs K G' vs ds
  | _,_,.nil=>.nil
  | _,_,.cons a b=>.cons (RD.mono e a) (RDs.mono e b)
end
theorem RDs.length {K:Frag} {G:Hp}:∀ {vs:List V} {ds:List D},RDs K G vs ds→vs.length=ds.length
  | _,_,.nil=>rfl
  | _,_,.cons _ r=>congrArg Nat.succ r.length
theorem RDs.get {K:Frag} {G:Hp}:∀ {vs:List V} {ds:List D} {i:Nat} {d:D},RDs K G vs ds→ds[i]?=some d→∃ v,vs[i]?=some v∧RD K G v d
  | _,_,_,_,.nil,e=>by simp at e
  | _,_,0,_,.cons a _,e=>by simp at e; subst e; exact ⟨_,rfl,a⟩
  | _,_,i + 1,_,.cons _ r,e=>by simpa using RDs.get (i:=i) r (by simpa using e)
theorem RDs.append {K:Frag} {G:Hp}:∀ {vs ws:List V} {ds es:List D},RDs K G vs ds→RDs K G ws es→RDs K G (vs ++ ws) (ds ++ es)
  | _,_,_,_,.nil,r=>r
  | _,_,_,_,.cons a b,r=>.cons a (RDs.append b r)
theorem RDs.of_at {K:Frag} {G:Hp}:∀ {vs:List V} {ds:List D},vs.length=ds.length→(∀ (i:Nat) (v:V) (d:D),vs[i]?=some v→ds[i]?=some d→RD K G v d)→RDs K G vs ds
  | [],[],_,_=>.nil
  | [],_ :: _,h,_=>by cases h
  | _ :: _,[],h,_=>by cases h
  | v :: vs,d :: ds,h,k=>.cons (k 0 v d rfl rfl) (RDs.of_at (Nat.succ.inj h) fun i x y a b=>k (i + 1) x y (by simpa using a) (by simpa using b))
theorem RDs.take {K:Frag} {G:Hp}:∀ {vs:List V} {ds:List D} (n:Nat),RDs K G vs ds→RDs K G (vs.take n) (ds.take n)
  | _,_,0,_=>by simpa using RDs.nil
  | _,_,_ + 1,.nil=>.nil
  | _,_,n + 1,.cons a b=>.cons a (RDs.take n b)
theorem RDs.drop {K:Frag} {G:Hp}:∀ {vs:List V} {ds:List D} (n:Nat),RDs K G vs ds→RDs K G (vs.drop n) (ds.drop n)
  | _,_,0,r=>r
  | _,_,_ + 1,.nil=>.nil
  | _,_,n + 1,.cons _ b=>RDs.drop n b
mutual
inductive OW (K:Frag) (G H:Hp):V→D→OT→List Addr→Prop
  | fz {v:V} {d:D}:RD K G v d→OW K G H v d .fz []
  | ol {a:Addr} {vs:List V} {ds:List D} {t:OT} {fp:List Addr}:H a=some (.lst vs)→vs.length≤sizeLine→OWs K G H vs ds t fp→OW K G H (.ref a) (.lst ds) (.own t) (a :: fp)
  | odK {a:Addr} {kvs:List (Key×V)} {ds:List D} {t:OT} {fp:List Addr}:H a=some (.dK kvs)→kvs.length≤sizeLine→OWs K G H (kvs.map (·.2)) ds t fp→OW K G H (.ref a) (.dic false (kvs.map fun p=>[p.1]) ds) (.own t) (a :: fp)
  | odT {a:Addr} {kvs:List (List Key×V)} {ds:List D} {t:OT} {fp:List Addr}:H a=some (.dT kvs)→kvs.length≤sizeLine→OWs K G H (kvs.map (·.2)) ds t fp→OW K G H (.ref a) (.dic true (kvs.map fun p=>p.1) ds) (.own t) (a :: fp)
  | ot {a:Addr} {vs:List V} {ds xs:List D} {j:Nat} {v:V} {fp:List Addr}:PlT G a vs→vs.length≤sizeLine→vs.length=ds.length→vs[j]?=some v→ds[j]?=some (.lst xs)→(∀ (i:Nat) (v:V) (d:D),i≠j→vs[i]?=some v→ds[i]?=some d→RD K G v d)→OW K G H v (.lst xs) (.own .fz) fp→OW K G H (.ref a) (.tup ds) (.tp j) fp
inductive OWs (K:Frag) (G H:Hp):List V→List D→OT→List Addr→Prop
  | nil {t:OT}:OWs K G H [] [] t []
  | cons {v:V} {vs:List V} {d:D} {ds:List D} {t:OT} {fp fq:List Addr}:OW K G H v d t fp→OWs K G H vs ds t fq→OWs K G H (v :: vs) (d :: ds) t (fp ++ fq)
end
mutual
theorem OW.mono {K:Frag} {G G' H H':Hp} (eG:Same G G'):∀ {v:V} {d:D} {t:OT} {fp:List Addr},(∀ a∈fp,∀ o,H a=some o→H' a=some o)→OW K G H v d t fp→OW K G' H' v d t fp
  | _,_,_,_,_,.fz r=>.fz (r.mono eG)
  | _,_,_,_,k,.ol h l r=>.ol (k _ (List.mem_cons_self ..) _ h) l (OWs.mono eG (fun a m=>k a (List.mem_cons_of_mem _ m)) r)
  | _,_,_,_,k,.odK h l r=>.odK (k _ (List.mem_cons_self ..) _ h) l (OWs.mono eG (fun a m=>k a (List.mem_cons_of_mem _ m)) r)
  | _,_,_,_,k,.odT h l r=>.odT (k _ (List.mem_cons_self ..) _ h) l (OWs.mono eG (fun a m=>k a (List.mem_cons_of_mem _ m)) r)
  | _,_,_,_,k,.ot h l e1 e2 e3 q o=>.ot (h.same eG) l e1 e2 e3 (fun i v d n x y=>(q i v d n x y).mono eG) (OW.mono eG k o)
theorem OWs.mono {K:Frag} {G G' H H':Hp} (eG:Same G G'):∀ {vs:List V} {ds:List D} {t:OT} {fp:List Addr},(∀ a∈fp,∀ o,H a=some o→H' a=some o)→OWs K G H vs ds t fp→OWs K G' H' vs ds t fp
  | _,_,_,_,_,.nil=>.nil
  | _,_,_,_,k,.cons a b=>.cons (OW.mono eG (fun c m=>k c (List.mem_append_left _ m)) a) (OWs.mono eG (fun c m=>k c (List.mem_append_right _ m)) b)
end
def Cel (H:Hp) (a:Addr):Prop:=∃ o,H a=some o∧∀ vs,o≠.tup vs
theorem Cel.mono {K:Frag} {H H':Hp} {a:Addr} (e:Kp K H H') (c:Cel H a):Cel H' a:=by
  obtain ⟨o,h,n⟩:=c
  obtain ⟨o',h',k,kt⟩:=e.any h
  refine ⟨o',h',fun vs z=>?_⟩
  cases q:isTb o with
  | false=>exact n vs (by rw [← k q,z])
  | true=>have:=kt q; rw [z] at this; cases this
theorem Cel.ne {H:Hp} {a:Addr} (c:Cel H a):H a≠none:=let ⟨o,h,_⟩:=c; fun z=>by rw [h] at z; cases z
mutual
theorem OW.there {K:Frag} {G H:Hp}:∀ {v:V} {d:D} {t:OT} {fp:List Addr},OW K G H v d t fp→∀ a∈fp,Cel H a
  | _,_,_,_,.fz _,a,m=>by cases m
  | _,_,_,_,.ol h _ r,a,m=>by
    rcases List.mem_cons.mp m with e | m
    · subst e; exact ⟨_,h,fun _ z=>nomatch z⟩
    · exact OWs.there r a m
  | _,_,_,_,.odK h _ r,a,m=>by
    rcases List.mem_cons.mp m with e | m
    · subst e; exact ⟨_,h,fun _ z=>nomatch z⟩
    · exact OWs.there r a m
  | _,_,_,_,.odT h _ r,a,m=>by
    rcases List.mem_cons.mp m with e | m
    · subst e; exact ⟨_,h,fun _ z=>nomatch z⟩
    · exact OWs.there r a m
  | _,_,_,_,.ot _ _ _ _ _ _ o,a,m=>OW.there o a m
theorem OWs.there {K:Frag} {G H:Hp}:∀ {vs:List V} {ds:List D} {t:OT} {fp:List Addr},OWs K G H vs ds t fp→∀ a∈fp,Cel H a
  | _,_,_,_,.nil,a,m=>by cases m
  | _,_,_,_,.cons x y,a,m=>by
    rcases List.mem_append.mp m with m | m
    · exact OW.there x a m
    · exact OWs.there y a m
end
mutual
theorem OW.pl {K:Frag} {G H:Hp}:∀ {v:V} {d:D} {t:OT} {fp:List Addr},OW K G H v d t fp→∀ a∈fp,∀ o,H a=some o→isPl o=true
  | _,_,_,_,.fz _,a,m=>by cases m
  | _,_,_,_,.ol h _ r,a,m=>fun o e=>by
    rcases List.mem_cons.mp m with z | m
    · subst z; rw [h] at e; cases e; rfl
    · exact OWs.pl r a m o e
  | _,_,_,_,.odK h _ r,a,m=>fun o e=>by
    rcases List.mem_cons.mp m with z | m
    · subst z; rw [h] at e; cases e; rfl
    · exact OWs.pl r a m o e
  | _,_,_,_,.odT h _ r,a,m=>fun o e=>by
    rcases List.mem_cons.mp m with z | m
    · subst z; rw [h] at e; cases e; rfl
    · exact OWs.pl r a m o e
  | _,_,_,_,.ot _ _ _ _ _ _ o,a,m=>OW.pl o a m
theorem OWs.pl {K:Frag} {G H:Hp}:∀ {vs:List V} {ds:List D} {t:OT} {fp:List Addr},OWs K G H vs ds t fp→∀ a∈fp,∀ o,H a=some o→isPl o=true
  | _,_,_,_,.nil,a,m=>by cases m
  | _,_,_,_,.cons x y,a,m=>fun o e=>by
    rcases List.mem_append.mp m with m | m
    · exact OW.pl x a m o e
    · exact OWs.pl y a m o e
end
theorem OW.kp {K:Frag} {G G' H H':Hp} (eG:Same G G') (k:Kp K H H') {v:V} {d:D} {t:OT} {fp:List Addr} (o:OW K G H v d t fp):OW K G' H' v d t fp:=o.mono eG fun a m u q=>k.at_ a u q (isPl_tb (o.pl a m u q))
mutual
theorem OW.noins {K:Frag} {G H:Hp}:∀ {v:V} {d:D} {t:OT} {fp:List Addr},OW K G H v d t fp→∀ {a:Addr} {C dx:Addr} {fs:List (Str×V)},H a=some (.ins C dx fs)→a∉fp
  | _,_,_,_,.fz _,a,_,_,_,_,m=>by cases m
  | _,_,_,_,.ol h _ r,a,_,_,_,e,m=>by
    rcases List.mem_cons.mp m with z | m
    · subst z; rw [h] at e; cases e
    · exact OWs.noins r e m
  | _,_,_,_,.odK h _ r,a,_,_,_,e,m=>by
    rcases List.mem_cons.mp m with z | m
    · subst z; rw [h] at e; cases e
    · exact OWs.noins r e m
  | _,_,_,_,.odT h _ r,a,_,_,_,e,m=>by
    rcases List.mem_cons.mp m with z | m
    · subst z; rw [h] at e; cases e
    · exact OWs.noins r e m
  | _,_,_,_,.ot _ _ _ _ _ _ o,a,_,_,_,e,m=>OW.noins o e m
theorem OWs.noins {K:Frag} {G H:Hp}:∀ {vs:List V} {ds:List D} {t:OT} {fp:List Addr},OWs K G H vs ds t fp→∀ {a:Addr} {C dx:Addr} {fs:List (Str×V)},H a=some (.ins C dx fs)→a∉fp
  | _,_,_,_,.nil,a,_,_,_,_,m=>by cases m
  | _,_,_,_,.cons x y,a,_,_,_,e,m=>by
    rcases List.mem_append.mp m with m | m
    · exact OW.noins x e m
    · exact OWs.noins y e m
end
mutual
theorem OW.now {K:Frag} {G H Z:Hp} (eG:Same G Z):∀ {v:V} {d:D} {t:OT} {fp:List Addr},(∀ a∈fp,∀ o,H a=some o→Z a=some o)→OW K G H v d t fp→RD K Z v d
  | _,_,_,_,_,.fz r=>r.mono eG
  | _,_,_,_,k,.ol h l r=>.lst (k _ (List.mem_cons_self ..) _ h) l (OWs.now eG (fun a m=>k a (List.mem_cons_of_mem _ m)) r)
  | _,_,_,_,k,.odK h l r=>.dK (k _ (List.mem_cons_self ..) _ h) l (OWs.now eG (fun a m=>k a (List.mem_cons_of_mem _ m)) r)
  | _,_,_,_,k,.odT h l r=>.dT (.inl (k _ (List.mem_cons_self ..) _ h)) l (OWs.now eG (fun a m=>k a (List.mem_cons_of_mem _ m)) r)
  | _,_,_,_,k,.ot (j:=jj) h l e1 e2 e3 q o=>.tup (h.same eG) l (RDs.of_at e1 fun i v d x y=>by
    by_cases z:i=jj
    · subst z
      rw [e2] at x
      rw [e3] at y
      cases x
      cases y
      exact OW.now eG k o
    · exact (q i v d z x y).mono eG)
theorem OWs.now {K:Frag} {G H Z:Hp} (eG:Same G Z):∀ {vs:List V} {ds:List D} {t:OT} {fp:List Addr},(∀ a∈fp,∀ o,H a=some o→Z a=some o)→OWs K G H vs ds t fp→RDs K Z vs ds
  | _,_,_,_,_,.nil=>.nil
  | _,_,_,_,k,.cons a b=>.cons (OW.now eG (fun c m=>k c (List.mem_append_left _ m)) a) (OWs.now eG (fun c m=>k c (List.mem_append_right _ m)) b)
end
theorem OWs.fzs {K:Frag} {G H:Hp}:∀ {vs:List V} {ds:List D},RDs K G vs ds→OWs K G H vs ds .fz []
  | _,_,.nil=>.nil
  | _,_,.cons a b=>.cons (fp:=[]) (fq:=[]) (.fz a) (OWs.fzs b)
theorem OWs.unfz {K:Frag} {G H:Hp}:∀ {vs:List V} {ds:List D} {fp:List Addr},OWs K G H vs ds .fz fp→RDs K G vs ds∧fp=[]
  | _,_,_,.nil=>⟨.nil,rfl⟩
  | _,_,_,.cons (.fz a) b=>by
    obtain ⟨r,e⟩:=OWs.unfz b
    subst e
    exact ⟨.cons a r,rfl⟩
def join (G H:Hp) (fp:List Addr):Hp:=fun a=>if a∈fp then H a else G a
theorem join_same {G H:Hp} {fp:List Addr} (h:∀ a∈fp,G a=none):Same G (join G H fp):=fun b o e=>by
  unfold join
  rw [if_neg fun m=>by rw [h b m] at e; cases e]
  exact e
theorem join_in {G H:Hp} {fp:List Addr} {a:Addr} (m:a∈fp):join G H fp a=H a:=by unfold join; rw [if_pos m]
theorem join_out {G H:Hp} {fp:List Addr} {a:Addr} (m:a∉fp):join G H fp a=G a:=by unfold join; rw [if_neg m]
theorem join_le' {G H:Hp} {fp:List Addr} (e:Same G H):Same (join G H fp) H:=fun b o q=>by
  unfold join at q
  split at q
  · exact q
  · exact e b o q
theorem join_le {G H:Hp} {fp:List Addr} (e:Sub G H) (h:∀ a∈fp,∀ o,H a=some o→isPl o=true):Sub (join G H fp) H:=⟨join_le' e.s,fun b o q=>by
  unfold join at q
  split at q
  · rename_i m; exact isPl_tb (h b m o q)
  · exact e.n b o q⟩
abbrev Ow:=List (Nat×OT)
def oty (Γ:Ow) (i:Nat):OT:=(Γ.lookup i).getD .fz
structure OD where
  rs:List Nat
  C:Addr
  own:Bool
  al:Bool
  ad:Option Addr
  fs:List (Str×Nat)
  ls:Bool
  nm:List Nat
structure Base where
  H0:Hp
  G0:Hp
  O:List OD
  pr:Nat→Bool
def Live (od:OD) (σ:St):Prop:=∃ i∈od.rs,∃ v,σ[i]?=some (some v)
structure ObjR (B:Base) (G H:Hp) (σ:St) (od:OD) (a:Addr):Prop where
  pr:(∀ i∈od.rs,B.pr i=true)∧(∀ p∈od.fs,B.pr p.2=true)∧(od.ls=true→od.own=false∧od.fs=[])
  ad:∀ b,od.ad=some b→a=b
  rt:∀ i∈od.rs,∀ v,σ[i]?=some (some v)→v=.ref a
  nm:(∀ i∈od.nm,B.pr i=true)∧(Live od σ→∀ i∈od.nm,σ[i]?=some (some (.ref a)))
  al:od.al=true→Live od σ
  fld:∀ p∈od.fs,∀ v,σ[p.2]?=some (some v)→Live od σ
  ins:od.ls=false→Live od σ→∃ dx fs,H a=some (.ins od.C dx fs)∧(fs.map (·.1)).Nodup∧(∀ p∈od.fs,fs.lookup p.1=(σ[p.2]?).join)∧(∀ f v,fs.lookup f=some v→f∈od.fs.map (·.1))∧(od.own=true→G a=none∧B.H0 a=none)∧(od.own=false→G a=some (.ins od.C dx fs))
def Rt (od:OD) (i:Nat):Prop:=od.rs=[i]∨i∈od.nm
theorem ObjR.root {B:Base} {G H:Hp} {σ:St} {od:OD} {a:Addr} {i:Nat} (q:ObjR B G H σ od a) (lv:Live od σ) (h:Rt od i):σ[i]?=some (some (.ref a)):=by
  rcases h with h | h
  · obtain ⟨i',hi,w,ew⟩:=lv
    rw [h] at hi
    have:i'=i:=by simpa using hi
    subst this
    rw [ew,q.rt i' (by rw [h]; simp) w ew]
  · exact q.nm.2 lv i h
theorem ObjR.nl1 {B:Base} {G H:Hp} {σ:St} {od:OD} {a:Addr} (q:ObjR B G H σ od a) (h:od.own=true):od.ls=false:=by
  cases z:od.ls with
  | false=>rfl
  | true=>rw [(q.pr.2.2 z).1] at h; cases h
theorem ObjR.nl2 {B:Base} {G H:Hp} {σ:St} {od:OD} {a:Addr} (q:ObjR B G H σ od a) {p:Str×Nat} (h:p∈od.fs):od.ls=false:=by
  cases z:od.ls with
  | false=>rfl
  | true=>rw [(q.pr.2.2 z).2] at h; cases h
def Obs (B:Base) (G H:Hp) (σ:St):Prop:=∃ α:Nat→Addr,(∀ k l od od',B.O[k]?=some od→B.O[l]?=some od'→od.own=true→od'.ls=false→Live od σ→Live od' σ→α k=α l→k=l)∧∀ k od,B.O[k]?=some od→ObjR B G H σ od (α k)
theorem Obs.nil {B:Base} {G H:Hp} {σ:St} (h:B.O=[]):Obs B G H σ:=⟨fun _=>0,fun k l od od' e=>by rw [h] at e; simp at e,fun k od e=>by rw [h] at e; simp at e⟩
theorem ObjR.mono {B:Base} {G G' H H':Hp} {σ σ':St} {od:OD} {a:Addr} (q:ObjR B G H σ od a) (hs:∀ i,B.pr i=true→σ'[i]?=σ[i]?) (h:∀ C dx fs,H a=some (.ins C dx fs)→H' a=some (.ins C dx fs)∧(G a=none→G' a=none)∧(G a=some (.ins C dx fs)→G' a=some (.ins C dx fs))):(Live od σ'↔Live od σ)∧ObjR B G' H' σ' od a:=by
  have lv:Live od σ'↔Live od σ:=by
    constructor
    · rintro ⟨i,hi,v,e⟩; exact ⟨i,hi,v,by rw [← hs i (q.pr.1 i hi)]; exact e⟩
    · rintro ⟨i,hi,v,e⟩; exact ⟨i,hi,v,by rw [hs i (q.pr.1 i hi)]; exact e⟩
  refine ⟨lv,q.pr,q.ad,fun i hi v e=>q.rt i hi v (by rw [← hs i (q.pr.1 i hi)]; exact e),⟨q.nm.1,fun l i hi=>by rw [hs i (q.nm.1 i hi)]; exact q.nm.2 (lv.mp l) i hi⟩,fun ha=>lv.mpr (q.al ha),fun p hp v e=>lv.mpr (q.fld p hp v (by rw [← hs _ (q.pr.2.1 p hp)]; exact e)),fun hl l=>?_⟩
  obtain ⟨dx,fs,h1,h2,h3,h6,h4,h5⟩:=q.ins hl (lv.mp l)
  obtain ⟨k1,k2,k3⟩:=h _ _ _ h1
  exact ⟨dx,fs,k1,h2,fun p hp=>by rw [hs _ (q.pr.2.1 p hp)]; exact h3 p hp,h6,fun ho=>⟨k2 (h4 ho).1,(h4 ho).2⟩,fun ho=>k3 (h5 ho)⟩
theorem Obs.mono {B:Base} {G G' H H':Hp} {σ σ':St} (o:Obs B G H σ) (hs:∀ i,B.pr i=true→σ'[i]?=σ[i]?) (h:∀ a C dx fs,H a=some (.ins C dx fs)→H' a=some (.ins C dx fs)∧(G a=none→G' a=none)∧(G a=some (.ins C dx fs)→G' a=some (.ins C dx fs))):Obs B G' H' σ':=by
  obtain ⟨α,inj,r⟩:=o
  have key:=fun k od (e:B.O[k]?=some od)=>(r k od e).mono hs (h (α k))
  exact ⟨α,fun k l od od' e1 e2 ho hl e3 e4 e=>inj k l od od' e1 e2 ho hl ((key k od e1).1.mp e3) ((key l od' e2).1.mp e4) e,fun k od e=>(key k od e).2⟩
structure SL (K:Frag) (G H:Hp) (σ:St) (s:En) (Γ:Ow) (φ:Nat→List Addr):Prop where
  at_:∀ i d,s[i]?=some (some d)→∃ v,σ[i]?=some (some v)∧OW K G H v d (oty Γ i) (φ i)
  nd:∀ i,(φ i).Nodup
  dj:∀ i j a,a∈φ i→a∈φ j→i=j
  ok:∀ i a,a∈φ i→Cel H a∧G a=none
structure Rel (K:Frag) (B:Base) (Γ:Ow) (s:En) (G:Hp) (σ:St) (H:Hp):Prop where
  len:s.length=σ.length
  sl:∃ φ,SL K G H σ s Γ φ∧∀ i a,a∈φ i→B.H0 a=none
  hH:KpT K B.H0 H
  hG:Same B.G0 G
  GH:Sub G H
  fr:∀ a,B.G0 a=none→Cel B.H0 a→G a=none
  ob:Obs B G H σ
structure Grow (K:Frag) (G H G' H':Hp):Prop where
  g:Same G G'
  h:Kp K H H'
  gh:Sub G' H'
  nw:∀ a,G a=none→Cel H a→G' a=none
theorem Grow.refl {K:Frag} {G H:Hp} (e:Sub G H):Grow K G H G H:=⟨.refl _,.refl _,e,fun _ h _=>h⟩
theorem Grow.kp {K:Frag} {G H H':Hp} (e:Sub G H) (k:Kp K H H'):Grow K G H G H':=⟨.refl _,k,e.kp k,fun _ h _=>h⟩
theorem Grow.trans {K:Frag} {G H G1 H1 G2 H2:Hp} (a:Grow K G H G1 H1) (b:Grow K G1 H1 G2 H2):Grow K G H G2 H2 :=
  ⟨a.g.trans b.g,a.h.trans b.h,b.gh,fun c h1 h2=>b.nw c (a.nw c h1 h2) (h2.mono a.h)⟩
theorem Same.upd {H:Hp} {p:Addr} {o:HO} (h:H p=none):Same H (upd H p o):=fun b u e=>by rw [upd_ne (ne_of_none e h)]; exact e
theorem Grow.new {K:Frag} {G H:Hp} (e:Sub G H) {p:Addr} {o:HO} (h:H p=none) (ho:isTb o=false):Grow K G H (upd G p o) (upd H p o) :=
  ⟨Same.upd (e.free h),.of (Same.upd h),⟨fun b u q=>by
    by_cases hb:b=p
    · subst hb; rw [upd_same] at q ⊢; exact q
    · rw [upd_ne hb] at q ⊢; exact e b u q,e.n.upd ho⟩,fun a h1 h2=>by
    rw [upd_ne]
    · exact h1
    · intro z; subst z; exact h2.ne h⟩
theorem Rel.grow {K:Frag} {B:Base} {Γ:Ow} {s:En} {G G':Hp} {σ:St} {H H':Hp} (r:Rel K B Γ s G σ H) (g:Grow K G H G' H'):Rel K B Γ s G' σ H':=by
  obtain ⟨φ,sl,hf⟩:=r.sl
  refine ⟨r.len,⟨φ,⟨fun i d e=>?_,sl.nd,sl.dj,fun i a m=>?_⟩,hf⟩,r.hH.trans g.h,r.hG.trans g.g,g.gh,fun a h1 h2=>?_,r.ob.mono (fun _ _=>rfl) fun a C dx fs e=>⟨g.h _ _ e rfl,fun n=>g.nw a n ⟨_,e,fun _ z=>nomatch z⟩,g.g _ _⟩⟩
  · obtain ⟨v,e1,ow⟩:=sl.at_ i d e
    exact ⟨v,e1,ow.kp g.g g.h⟩
  · obtain ⟨h1,h2⟩:=sl.ok i a m
    exact ⟨h1.mono g.h,g.nw a h2 h1⟩
  · exact g.nw a (r.fr a h1 h2) (h2.mono r.hH.kp)
structure Tmp (K:Frag) (B:Base) (Γ:Ow) (s:En) (G:Hp) (σ:St) (H:Hp) (v:V) (d:D) (t:OT):Prop where
  rel:Rel K B Γ s G σ H
  ow:∃ φ fq,SL K G H σ s Γ φ∧(∀ i a,a∈φ i→B.H0 a=none)∧OW K G H v d t fq∧fq.Nodup∧(∀ i a,a∈φ i→a∉fq)∧∀ a∈fq,Cel H a∧G a=none∧B.H0 a=none
theorem Tmp.of_fz {K:Frag} {B:Base} {Γ:Ow} {s:En} {G:Hp} {σ:St} {H:Hp} {v:V} {d:D} (r:Rel K B Γ s G σ H) (h:RD K G v d):Tmp K B Γ s G σ H v d .fz:=by
  obtain ⟨φ,sl,hf⟩:=r.sl
  exact ⟨r,φ,[],sl,hf,.fz h,List.nodup_nil,fun _ _ _ m=>(by cases m),fun _ m=>(by cases m)⟩
theorem Tmp.freeze {K:Frag} {B:Base} {Γ:Ow} {s:En} {G:Hp} {σ:St} {H:Hp} {v:V} {d:D} {t:OT} (r:Tmp K B Γ s G σ H v d t):∃ G',Same G G'∧Rel K B Γ s G' σ H∧RD K G' v d:=by
  obtain ⟨φ,fq,sl,hf,ow,nd,dj,ok⟩:=r.ow
  have r:=r.rel
  have e1:Same G (join G H fq):=join_same fun a m=>(ok a m).2.1
  refine ⟨join G H fq,e1,⟨r.len,⟨φ,⟨fun i d' e=>?_,sl.nd,sl.dj,fun i a m=>⟨(sl.ok i a m).1,?_⟩⟩,hf⟩,r.hH,r.hG.trans e1,join_le r.GH (ow.pl),fun a h1 h2=>?_,r.ob.mono (fun _ _=>rfl) fun a C dx fs e=>⟨e,fun n=>by rw [join_out (ow.noins e)]; exact n,fun q=>e1 _ _ q⟩⟩,?_⟩
  · obtain ⟨v',q,o⟩:=sl.at_ i d' e
    exact ⟨v',q,o.mono e1 fun _ _ _ z=>z⟩
  · rw [join_out (dj i a m)]
    exact (sl.ok i a m).2
  · rw [join_out fun m=>h2.ne (ok a m).2.2]
    exact r.fr a h1 h2
  · exact ow.now e1 fun a m o q=>by rw [join_in m]; exact q
theorem set_same' {α:Type}:∀ (l:List α) (i:Nat) (x:α),l[i]?=some x→l.set i x=l
  | [],_,_,e=>by simp at e
  | a :: l,0,x,e=>by simp at e; subst e; rfl
  | a :: l,i + 1,x,e=>by
    show a :: l.set i x=a :: l
    rw [set_same' l i x (by simpa using e)]
theorem getElem?_set_cases {α:Type} {l:List α} {i j:Nat} {x y:α} (h:(l.set i x)[j]?=some y):(j=i∧y=x)∨(j≠i∧l[j]?=some y):=by
  by_cases e:j=i
  · subst e
    left
    refine ⟨rfl,?_⟩
    rw [List.getElem?_set] at h
    simp only [if_true] at h
    split at h
    · exact (Option.some.inj h).symm
    · cases h
  · right
    refine ⟨e,?_⟩
    rw [List.getElem?_set_ne (Ne.symm e)] at h
    exact h
theorem Tmp.set {K : Frag} {B : Base} {Γ Γ' : Ow} {s : En} {G : Hp} {σ : St} {H : Hp} {v : V} {d : D} {t : OT} (r : Tmp K B Γ s G σ H v d t) (i : Nat) (ht : oty Γ' i = t) (hΓ : ∀ j, j ≠ i → oty Γ' j = oty Γ j) (hi : i < σ.length) (hp : B.pr i = false ∨ σ[i]? = some (some v)) :
    Rel K B Γ' (s.set i (some d)) G (σ.set i (some v)) H:=by
  obtain ⟨φ,fq,sl,hf,ow,nd,dj,ok⟩:=r.ow
  have r:=r.rel
  refine ⟨by rw [List.length_set,List.length_set]; exact r.len,⟨fun j=>if j=i then fq else φ j,⟨fun j d' e=>?_,fun j=>?_,fun j k a m n=>?_,fun j a m=>?_⟩,fun j a m=>?_⟩,r.hH,r.hG,r.GH,r.fr,r.ob.mono (fun j hj=>?_) fun a C dx fs e=>⟨e,id,id⟩⟩
  rotate_right
  · rcases hp with hp | hp
    · rw [List.getElem?_set_ne fun z=>by rw [z,hj] at hp; cases hp]
    · rw [set_same' σ i _ hp]
  · rcases getElem?_set_cases e with ⟨rfl,e'⟩ | ⟨ne,e⟩
    · cases e'
      rw [if_pos rfl,ht]
      exact ⟨v,by rw [List.getElem?_set_self hi],ow⟩
    · rw [if_neg ne,hΓ j ne]
      obtain ⟨v',q,o⟩:=sl.at_ j d' e
      exact ⟨v',by rw [List.getElem?_set_ne (Ne.symm ne)]; exact q,o⟩
  · (try dsimp only); split
    · exact nd
    · exact sl.nd j
  · (try dsimp only at m n)
    split at m <;> split at n
    · rename_i h1 h2; rw [h1,h2]
    · exact absurd m (dj k a n)
    · exact absurd n (dj j a m)
    · exact sl.dj j k a m n
  · (try dsimp only at m)
    split at m
    · exact ⟨(ok a m).1,(ok a m).2.1⟩
    · exact sl.ok j a m
  · (try dsimp only at m)
    split at m
    · exact (ok a m).2.2
    · exact hf j a m
theorem Rel.forget {K:Frag} {B:Base} {Γ:Ow} {s s':En} {G:Hp} {σ σ':St} {H:Hp} (r:Rel K B Γ s G σ H) (hl:s'.length=σ'.length) (h:∀ (i:Nat) (d:D),s'[i]?=some (some d)→s[i]?=some (some d)∧∀ v:V,σ[i]?=some (some v)→σ'[i]?=some (some v)) (hs:∀ i,B.pr i=true→σ'[i]?=σ[i]?):Rel K B Γ s' G σ' H:=by
  obtain ⟨φ,sl,hf⟩:=r.sl
  refine ⟨hl,⟨φ,⟨fun i d e=>?_,sl.nd,sl.dj,sl.ok⟩,hf⟩,r.hH,r.hG,r.GH,r.fr,r.ob.mono hs fun a C dx fs e=>⟨e,id,id⟩⟩
  obtain ⟨e1,k⟩:=h i d e
  obtain ⟨v,e2,o⟩:=sl.at_ i d e1
  exact ⟨v,k v e2,o⟩
theorem Rel.out {K:Frag} {B:Base} {Γ:Ow} {s:En} {G:Hp} {σ:St} {H:Hp} (r:Rel K B Γ s G σ H) {i:Nat} {d:D} (e:s[i]?=some (some d)):∃ v,σ[i]?=some (some v)∧Tmp K B Γ (s.set i none) G σ H v d (oty Γ i):=by
  obtain ⟨φ,sl,hf⟩:=r.sl
  obtain ⟨v,e1,o⟩:=sl.at_ i d e
  refine ⟨v,e1,r.forget (by rw [List.length_set]; exact r.len) (fun j d' q=>?_) (fun _ _=>rfl),fun j=>if j=i then [] else φ j,φ i,⟨fun j d' q=>?_,fun j=>?_,fun j k a m n=>?_,fun j a m=>?_⟩,fun j a m=>?_,o,sl.nd i,fun j a m n=>?_,fun a m=>⟨(sl.ok i a m).1,(sl.ok i a m).2,hf i a m⟩⟩
  · rcases getElem?_set_cases q with ⟨_,q'⟩ | ⟨_,q'⟩
    · cases q'
    · exact ⟨q',fun _ z=>z⟩
  · rcases getElem?_set_cases q with ⟨_,q'⟩ | ⟨ne,q'⟩
    · cases q'
    · rw [if_neg ne]; exact sl.at_ j d' q'
  · (try dsimp only); split
    · exact List.nodup_nil
    · exact sl.nd j
  · (try dsimp only at m n)
    split at m
    · cases m
    · split at n
      · cases n
      · exact sl.dj j k a m n
  · (try dsimp only at m)
    split at m
    · cases m
    · exact sl.ok j a m
  · (try dsimp only at m)
    split at m
    · cases m
    · exact hf j a m
  · (try dsimp only at m)
    split at m
    · cases m
    · rename_i ne; exact ne (sl.dj j i a m n)
theorem set_set_same {α:Type}:∀ (l:List α) (i:Nat) (x:α),l[i]?=some x→∀ y,(l.set i y).set i x=l
  | [],_,_,e,_=>by simp at e
  | a :: l,0,x,e,y=>by simp at e; subst e; rfl
  | a :: l,i + 1,x,e,y=>by
    show a :: (l.set i y).set i x=a :: l
    rw [set_set_same l i x (by simpa using e) y]
theorem set_same {α:Type}:∀ (l:List α) (i:Nat) (x:α),l[i]?=some x→l.set i x=l
  | [],_,_,e=>by simp at e
  | a :: l,0,x,e=>by simp at e; subst e; rfl
  | a :: l,i + 1,x,e=>by
    show a :: l.set i x=a :: l
    rw [set_same l i x (by simpa using e)]
theorem Rel.freeze {K:Frag} {B:Base} {Γ Γ':Ow} {s:En} {G:Hp} {σ:St} {H:Hp} (r:Rel K B Γ s G σ H) (i:Nat) (ht:oty Γ' i=.fz) (hΓ:∀ j,j≠i→oty Γ' j=oty Γ j):∃ G',Same G G'∧Rel K B Γ' s G' σ H:=by
  cases e:s[i]? with
  | none =>
    obtain ⟨φ,sl,hf⟩:=r.sl
    refine ⟨G,.refl _,r.len,⟨φ,⟨fun j d q=>?_,sl.nd,sl.dj,sl.ok⟩,hf⟩,r.hH,r.hG,r.GH,r.fr,r.ob⟩
    rw [hΓ j fun z=>by subst z; rw [e] at q; cases q]
    exact sl.at_ j d q
  | some od =>
    cases od with
    | none =>
      obtain ⟨φ,sl,hf⟩:=r.sl
      refine ⟨G,.refl _,r.len,⟨φ,⟨fun j d q=>?_,sl.nd,sl.dj,sl.ok⟩,hf⟩,r.hH,r.hG,r.GH,r.fr,r.ob⟩
      rw [hΓ j fun z=>by subst z; rw [e] at q; cases q]
      exact sl.at_ j d q
    | some d =>
      obtain ⟨v,e1,t⟩:=r.out e
      obtain ⟨G',g,r',rd⟩:=t.freeze
      have hi:i < σ.length:=by rw [← r.len]; exact (List.getElem?_eq_some_iff.mp e).1
      refine ⟨G',g,?_⟩
      have q:=(Tmp.of_fz r' rd).set i ht hΓ hi (.inr e1)
      rw [set_set_same s i _ e,set_same σ i _ e1] at q
      exact q
theorem Rel.now {K:Frag} {B:Base} {Γ:Ow} {s:En} {G:Hp} {σ:St} {H:Hp} (r:Rel K B Γ s G σ H) {i:Nat} {d:D} (e:s[i]?=some (some d)):∃ v,σ[i]?=some (some v)∧RD K H v d∧(oty Γ i=.fz→RD K G v d):=by
  obtain ⟨φ,sl,hf⟩:=r.sl
  obtain ⟨v,e1,o⟩:=sl.at_ i d e
  refine ⟨v,e1,o.now r.GH fun _ _ _ q=>q,fun z=>?_⟩
  rw [z] at o
  generalize φ i=fp at o
  cases o with
  | fz h=>exact h
end Hr
end
section
namespace Hr
open PySem PySem.Spec L2
namespace D
mutual
def py:D→PyData
  | .non=>.none
  | .bl b=>.bool b
  | .int i=>.int i
  | .str x=>.str x
  | .tup ds=>.tuple (pys ds)
  | .lst ds=>.list (pys ds)
  | .arr ds=>.list (pys ds)
  | .kt ds=>.tuple (pys ds)
  | .dic _ _ _=>.none
  | .exc _=>.none
  | .adr _=>.none
  | .lnk=>.none
def pys:List D→List PyData
  | []=>[]
  | d :: ds=>py d :: pys ds
end
mutual
def pl:D→Bool
  | .tup ds=>pls ds
  | .lst ds=>pls ds
  | .arr ds=>pls ds
  | .kt ds=>pls ds
  | .dic _ _ _=>false
  | .exc _=>false
  | .adr _=>false
  | .lnk=>false
  | _=>true
def pls:List D→Bool
  | []=>true
  | d :: ds=>pl d && pls ds
end
def dep (d:D):Nat:=d.py.depth
def eqv (a b:D):Bool:=PyData.eqv a.py b.py
end D
theorem pys_map:∀ ds:List D,D.pys ds=ds.map D.py
  | []=>rfl
  | d :: ds=>by rw [D.pys,pys_map ds]; rfl
mutual
theorem RD.dp {K:Frag} {G:Hp}:∀ {v:V} {d:D},RD K G v d→d.pl=true→Dp K G v d.py
  | _,_,.non,_=>.non
  | _,_,.bl b,_=>.bl b
  | _,_,.int i,_=>.int i
  | _,_,.str x _ _,_=>.str x
  | _,_,.tup s _ r,h=>.tup s.sq (RDs.dp r h)
  | _,_,.kt s _ r,h=>.tup s (RDs.dp r h)
  | _,_,.lst s _ r,h=>.lst (.inl (.inl s)) (RDs.dp r h)
  | _,_,.arr s _ r,h=>.lst s (RDs.dp r h)
  | _,_,.dK _ _ _,h=>by cases h
  | _,_,.dT _ _ _,h=>by cases h
  | _,_,.exc _,h=>by cases h
  | _,_,.adr _,h=>by cases h
  | _,_,.lnk _,h=>by cases h
theorem RDs.dp {K:Frag} {G:Hp}:∀ {vs:List V} {ds:List D},RDs K G vs ds→D.pls ds=true→DpAll K G vs (D.pys ds)
  | _,_,.nil,_=>.nil
  | _,_,.cons a b,h=>by
    obtain ⟨h1,h2⟩:=Bool.and_eq_true_iff.mp (show (D.pl _ && D.pls _)=true from h)
    exact .cons (RD.dp a h1) (RDs.dp b h2)
end
mutual
theorem RD.lay {K:Frag} {G:Hp}:∀ {v:V} {d:D},RD K G v d→d.py.canLay0=true
  | _,_,.non=>rfl
  | _,_,.bl _=>rfl
  | _,_,.int _=>rfl
  | _,_,.str _ h _=>h
  | _,_,.tup _ _ r=>RDs.lay r
  | _,_,.lst _ _ r=>RDs.lay r
  | _,_,.arr _ _ r=>RDs.lay r
  | _,_,.kt _ _ r=>RDs.lay r
  | _,_,.dK _ _ _=>rfl
  | _,_,.dT _ _ _=>rfl
  | _,_,.exc _=>rfl
  | _,_,.adr _=>rfl
  | _,_,.lnk _=>rfl
theorem RDs.lay {K:Frag} {G:Hp}:∀ {vs:List V} {ds:List D},RDs K G vs ds→PyData.canLayAll0 (D.pys ds)=true
  | _,_,.nil=>rfl
  | _,_,.cons a b=>Bool.and_eq_true_iff.mpr ⟨RD.lay a,RDs.lay b⟩
end
def dAdd:D→D→R D
  | .int i,.int j=>.ok (.int (i + j))
  | .str x,.str y=>if x.length + y.length≤sizeLine then .ok (.str (x ++ y)) else .stuck
  | .tup a,.tup b=>if a.length + b.length≤sizeLine then .ok (.tup (a ++ b)) else .stuck
  | .lst a,.lst b=>if a.length + b.length≤sizeLine then .ok (.lst (a ++ b)) else .stuck
  | _,_=>.stuck
def dSub:D→D→R D
  | .int i,.int j=>.ok (.int (i - j))
  | _,_=>.stuck
def nrw (i:Int):Bool:=decide (-(2 ^ 64) < i∧i < 2 ^ 64)
def rept (x:Str) (n:Nat):Str:=⟨((List.replicate n x.cps.toList).flatten).toArray⟩
def dMul:D→D→R D
  | .int i,.int j=>if nrw i || nrw j then .ok (.int (i * j)) else .stuck
  | .str x,.int j=>if 0≤j∧j≤1000∧x.length≤1000 then .ok (.str (rept x j.toNat)) else .stuck
  | .lst ds,.int j=>if -(2 ^ 63)≤j∧j < 2 ^ 63∧ds.length * j.toNat≤sizeLine then .ok (.lst (List.replicate j.toNat ds).flatten) else .stuck
  | _,_=>.stuck
def dMod:D→D→R D
  | .int i,.int j=>if 0 < j then .ok (.int (i % j)) else .stuck
  | _,_=>.stuck
def dDiv:D→D→R D
  | .int i,.int j=>if 0 < j∧j < 18446744073709551616 then .ok (.int (i / j)) else .stuck
  | _,_=>.stuck
def dPow:D→D→R D
  | .int i,.int j=>if 0≤j∧j≤1000000∧i.natAbs < 2 ^ 64 then .ok (.int (i ^ j.toNat)) else .stuck
  | _,_=>.stuck
def dNeg:D→R D
  | .int i=>.ok (.int (-i))
  | _=>.stuck
def dEq (a b:D):R Bool:=if a.pl && b.pl && decide (min a.dep b.dep≤60) then .ok (D.eqv a b) else .stuck
def dInL (x:D) (ds:List D):R Bool:=if x.pl && D.pls ds && decide (min (PyData.depthAll (D.pys ds)) x.dep≤60) then .ok (ds.any fun y=>D.eqv y x) else .stuck
def ktD1:D→Option Key
  | .int i=>some (.inl i)
  | .str x=>some (.inr x)
  | _=>none
def ktD:List D→Option (List Key)
  | []=>some []
  | d :: ds=>(ktD1 d).bind fun k=>(ktD ds).map fun ks=>k :: ks
def keyOf:Bool→D→Option (List Key)
  | false,.int i=>some [.inl i]
  | false,.str x=>some [.inr x]
  | true,.tup (d :: ds)=>ktD (d :: ds)
  | _,_=>none
def lookK:List (List Key)→List D→List Key→Option D
  | k :: ks,d :: ds,q=>if k=q then some d else lookK ks ds q
  | _,_,_=>none
def dIn:D→D→R Bool
  | x,.lst ds=>dInL x ds
  | x,.tup ds=>dInL x ds
  | x,.kt ds=>dInL x ds
  | .str x,.str y=>if x.length=1 then .ok (y.cps.toList.any fun c=>c == x.cps.getD 0 0) else .stuck
  | x,.dic t ks ds=>R.of ((keyOf t x).map fun k=>(lookK ks ds k).isSome)
  | _,_=>.stuck
def dLt:D→D→R Bool
  | .int i,.int j=>.ok (decide (i < j))
  | .str x,.str y=>.ok (decide (x.cps.toList < y.cps.toList))
  | _,_=>.stuck
def dLe:D→D→R Bool
  | .int i,.int j=>.ok (decide (i≤j))
  | .str x,.str y=>.ok (!decide (y.cps.toList < x.cps.toList))
  | _,_=>.stuck
def D.isN:D→Bool
  | .non=>true
  | _=>false
def dIs:D→D→R Bool
  | x,.non=>.ok x.isN
  | .bl a,.bl b=>.ok (decide (a=b))
  | _,_=>.stuck
def dCmp:CmpOp→D→D→R Bool
  | .Eq,a,b=>dEq a b
  | .NotEq,a,b=>do let c ← dEq a b; pure (!c)
  | .Lt,a,b=>dLt a b
  | .LtE,a,b=>dLe a b
  | .Gt,a,b=>dLt b a
  | .GtE,a,b=>dLe b a
  | .In,a,b=>dIn a b
  | .NotIn,a,b=>do let c ← dIn a b; pure (!c)
  | .Is,a,b=>dIs a b
  | .IsNot,a,b=>do let c ← dIs a b; pure (!c)
def dBin:Operator→D→D→R D
  | .Add,a,b=>dAdd a b
  | .Sub,a,b=>dSub a b
  | .Mult,a,b=>dMul a b
  | .Mod,a,b=>dMod a b
  | .FloorDiv,a,b=>dDiv a b
  | .Pow,a,b=>dPow a b
  | _,_,_=>.stuck
def dTru:D→R Bool
  | .non=>.ok false
  | .bl b=>.ok b
  | .int i=>.ok (i != 0)
  | .str x=>.ok (x.length != 0)
  | .tup ds=>.ok (!ds.isEmpty)
  | .lst ds=>.ok (!ds.isEmpty)
  | .arr ds=>.ok (!ds.isEmpty)
  | _=>.stuck
def dSub2:D→D→R D
  | .tup ds,.int i=>R.of (atI ds i)
  | .lst ds,.int i=>R.of (atI ds i)
  | .arr ds,.int i=>R.of (atI ds i)
  | .str x,.int i=>R.of ((atI x.cps.toList i).map fun c=>.str ⟨#[c]⟩)
  | .dic t ks ds,x=>R.of ((keyOf t x).bind fun k=>lookK ks ds k)
  | _,_=>.stuck
def cutD (xs:List D) (lo hi:Option Int):List D:=(xs.drop (HT.sIx xs.length 0 lo)).take (HT.sIx xs.length xs.length hi - HT.sIx xs.length 0 lo)
def dSl:D→Option Int→Option Int→R D
  | .tup ds,lo,hi=>.ok (.tup (cutD ds lo hi))
  | .lst ds,lo,hi=>.ok (.lst (cutD ds lo hi))
  | .str x,lo,hi=>.ok (.str (cutS x lo hi))
  | _,_,_=>.stuck
def dLen:D→R D
  | .tup ds=>.ok (.int ds.length)
  | .lst ds=>.ok (.int ds.length)
  | .arr ds=>.ok (.int ds.length)
  | .str x=>.ok (.int x.length)
  | _=>.stuck
inductive RB (K:Frag) (G H:Hp):V→D→Prop
  | fz {v:V} {d:D}:RD K G v d→RB K G H v d
  | ol {a:Addr} {vs:List V} {ds:List D}:H a=some (.lst vs)→vs.length≤sizeLine→RDs K G vs ds→RB K G H (.ref a) (.lst ds)
  | odK {a:Addr} {kvs:List (Key×V)} {ds:List D}:H a=some (.dK kvs)→kvs.length≤sizeLine→RDs K G (kvs.map (·.2)) ds→RB K G H (.ref a) (.dic false (kvs.map fun p=>[p.1]) ds)
  | odT {a:Addr} {kvs:List (List Key×V)} {ds:List D}:H a=some (.dT kvs)→kvs.length≤sizeLine→RDs K G (kvs.map (·.2)) ds→RB K G H (.ref a) (.dic true (kvs.map fun p=>p.1) ds)
theorem RB.grow {K:Frag} {G H G' H':Hp} {v:V} {d:D} (g:Grow K G H G' H'):RB K G H v d→RB K G' H' v d
  | .fz r=>.fz (r.mono g.g)
  | .ol h l r=>.ol (g.h _ _ h rfl) l (r.mono g.g)
  | .odK h l r=>.odK (g.h _ _ h rfl) l (r.mono g.g)
  | .odT h l r=>.odT (g.h _ _ h rfl) l (r.mono g.g)
theorem RB.now {K:Frag} {G H:Hp} {v:V} {d:D} (e:Sub G H):RB K G H v d→RD K H v d
  | .fz r=>r.mono e
  | .ol h l r=>.lst h l (r.mono e)
  | .odK h l r=>.dK h l (r.mono e)
  | .odT h l r=>.dT (.inl h) l (r.mono e)
theorem RB.of_slot {K:Frag} {G H:Hp} {v:V} {d:D} {t:OT} {fp:List Addr} (ht:t=.fz∨t=.own .fz) (h:OW K G H v d t fp):RB K G H v d:=by
  cases h with
  | fz r=>exact .fz r
  | ol h l r =>
    rcases ht with e | e
    · cases e
    · cases e; exact .ol h l r.unfz.1
  | odK h l r =>
    rcases ht with e | e
    · cases e
    · cases e; exact .odK h l r.unfz.1
  | odT h l r =>
    rcases ht with e | e
    · cases e
    · cases e; exact .odT h l r.unfz.1
  | ot h l e1 e2 e3 q o=>rcases ht with e | e <;> cases e
theorem RB.tup {K:Frag} {G H:Hp} {v:V} {ds:List D} (h:RB K G H v (.tup ds)):RD K G v (.tup ds):=by
  cases h with
  | fz r=>exact r
theorem RB.lst {K:Frag} {G H:Hp} {v:V} {ds:List D} (e:Sub G H) (h:RB K G H v (.lst ds)):∃ a vs,v=.ref a∧H a=some (.lst vs)∧vs.length≤sizeLine∧RDs K G vs ds:=by
  cases h with
  | fz r=>cases r with
    | lst s l r=>exact ⟨_,_,rfl,e _ _ s,l,r⟩
  | ol h l r=>exact ⟨_,_,rfl,h,l,r⟩
theorem RB.arr {K:Frag} {G H:Hp} {v:V} {ds:List D} (e:Sub G H) (h:RB K G H v (.arr ds)):∃ a vs,v=.ref a∧SqL K H a vs∧vs.length≤sizeLine∧RDs K G vs ds:=by
  cases h with
  | fz r=>cases r with
    | arr s l r=>exact ⟨_,_,rfl,e.seq s,l,r⟩
def Done {α:Type} (x:R α) (P:α→Prop) (E:Str→Prop):Prop:=match x with
  | .ok a=>P a
  | .exc c=>E c
  | .stuck=>False
theorem Done.bind {α β:Type} {x:R α} {y:α→R β} {P:β→Prop} {E:Str→Prop} (h:Done (x >>= y) P E):Done x (fun a=>Done (y a) P E) E:=by
  cases x with
  | ok a=>exact h
  | exc c=>exact h
  | stuck=>exact h
theorem Done.imp {α:Type} {x:R α} {P P':α→Prop} {E E':Str→Prop} (h:Done x P E) (hP:∀ a,x=.ok a→P a→P' a) (hE:∀ c,E c→E' c):Done x P' E':=by
  cases x with
  | ok a=>exact hP a rfl h
  | exc c=>exact hE c h
  | stuck=>exact h
theorem Done.ok {α:Type} {x:R α} {P:α→Prop} {E:Str→Prop} (h:Done x P E) (hx:∀ c,x≠.exc c):∃ a,x=.ok a∧P a:=by
  cases x with
  | ok a=>exact ⟨a,rfl,h⟩
  | exc c=>exact absurd rfl (hx c)
  | stuck=>exact h.elim
theorem Done.opt {α:Type} {o:Option α} {P:α→Prop} {E:Str→Prop} (h:Done (R.of o) P E):∃ a,o=some a∧P a:=by
  cases o with
  | none=>exact h.elim
  | some a=>exact ⟨a,rfl,h⟩
theorem Done.ite {α:Type} {p:Prop} [Decidable p] {x:R α} {P:α→Prop} {E:Str→Prop} (h:Done (if p then x else .stuck) P E):p∧Done x P E:=by
  by_cases q:p
  · rw [if_pos q] at h; exact ⟨q,h⟩
  · rw [if_neg q] at h; exact h.elim
abbrev XW (K:Frag) (W:WX) (G H:Hp) (σ:St):Str→Prop:=fun c=>∀ G' H',Grow K G H G' H'→W (clsV K c) none σ H'
def tV (K:Frag) (B:Base) (W:WX) (Γ:Ow) (f:En→R D):TE:=fun σ H Q=>∃ s G,Rel K B Γ s G σ H∧Done (f s) (fun d=>∀ v G' H',Grow K G H G' H'→RD K G' v d→Q v H') (XW K W G H σ)
def tBo (K:Frag) (B:Base) (W:WX) (Γ:Ow) (f:En→R D):TE:=fun σ H Q=>∃ s G,Rel K B Γ s G σ H∧Done (f s) (fun d=>∀ v G' H',Grow K G H G' H'→RB K G' H' v d→Q v H') (XW K W G H σ)
def New (K:Frag) (H G' H':Hp) (v:V) (d:D) (t:OT):Prop:=∃ fq,OW K G' H' v d t fq∧fq.Nodup∧∀ a∈fq,H a=none∧Cel H' a∧G' a=none
def tOw (K:Frag) (B:Base) (W:WX) (Γ:Ow) (t:OT) (f:En→R D):TE:=fun σ H Q=>∃ s G,Rel K B Γ s G σ H∧Done (f s) (fun d=>∀ v G' H',Grow K G H G' H'→New K H G' H' v d t→Q v H') (XW K W G H σ)
def tTe (K:Frag) (B:Base) (W:WX) (Γ:Ow) (f:En→R Bool):TT:=fun σ H Q=>∃ s G,Rel K B Γ s G σ H∧Done (f s) (fun b=>∀ G' H',Grow K G H G' H'→Q b H') (XW K W G H σ)
def tVs (K:Frag) (B:Base) (W:WX) (Γ:Ow) (f:En→R (List D)):TA:=fun σ H Q=>∃ s G,Rel K B Γ s G σ H∧Done (f s) (fun ds=>∀ vs G' H',Grow K G H G' H'→RDs K G' vs ds→Q vs H') (XW K W G H σ)
theorem XW.grow {K:Frag} {W:WX} {G H G1 H1:Hp} {σ:St} (g:Grow K G H G1 H1) {c:Str} (h:XW K W G H σ c):XW K W G1 H1 σ c:=fun G' H' g'=>h G' H' (g.trans g')
section
variable {X:Cx} {B:Base} {W:WX} {Γ:Ow} {e a b c:Expr} {f fa fb fc:En→R D} {pos:Pos}
theorem PE.imp {t t':TE} (h:PE X e t) (k:∀ σ H Q,t' σ H Q→t σ H Q):PE X e t':=⟨fun pins s σ H Q I q=>h.run pins s σ H Q I (k σ H Q q)⟩
theorem PT.imp {t t':TT} (h:PT X e t) (k:∀ σ H Q,t' σ H Q→t σ H Q):PT X e t':=⟨fun pins s σ H Q I q=>h.run pins s σ H Q I (k σ H Q q)⟩
theorem PW.imp {t t':TT} (h:PW X e t) (k:∀ σ H Q,t' σ H Q→t σ H Q):PW X e t':=⟨fun whole pins s σ H Q I q=>h.run whole pins s σ H Q I (k σ H Q q)⟩
theorem PA.imp {es:List Expr} {t t':TA} (h:PA X es t) (k:∀ σ H Q,t' σ H Q→t σ H Q):PA X es t':=⟨fun pos pins s σ H Q I q=>h.run pos pins s σ H Q I (k σ H Q q)⟩
abbrev EV (X:Cx) (B:Base) (W:WX) (Γ:Ow) (e:Expr) (f:En→R D):Prop:=PE X e (tV X.K B W Γ f)
abbrev EB (X:Cx) (B:Base) (W:WX) (Γ:Ow) (e:Expr) (f:En→R D):Prop:=PE X e (tBo X.K B W Γ f)
abbrev EO (X:Cx) (B:Base) (W:WX) (Γ:Ow) (t:OT) (e:Expr) (f:En→R D):Prop:=PE X e (tOw X.K B W Γ t f)
abbrev ET (X:Cx) (B:Base) (W:WX) (Γ:Ow) (e:Expr) (f:En→R Bool):Prop:=PT X e (tTe X.K B W Γ f)
abbrev EVs (X:Cx) (B:Base) (W:WX) (Γ:Ow) (es:List Expr) (f:En→R (List D)):Prop:=PA X es (tVs X.K B W Γ f)
theorem EV.bo (h:EV X B W Γ e f):EB X B W Γ e f:=PE.imp h fun σ H Q ⟨s,G,r,k⟩=>⟨s,G,r,k.imp (fun d _ k v G' H' g rd=>k v G' H' g (.fz rd)) fun _ z=>z⟩
theorem EO.v {t:OT} (h:EO X B W Γ t e f):EV X B W Γ e f:=PE.imp h fun σ H Q ⟨s,G,r,k⟩=>⟨s,G,r,k.imp (fun d _ k v G' H' g n=>by
  obtain ⟨fq,ow,nd,ok⟩:=n
  have e1:Same G' (join G' H' fq):=join_same fun a m=>(ok a m).2.2
  refine k v (join G' H' fq) H' ⟨g.g.trans e1,g.h,join_le g.gh (ow.pl),fun a h1 h2=>?_⟩ (ow.now e1 fun a m o z=>by rw [join_in m]; exact z)
  rw [join_out fun m=>h2.ne (ok a m).1]
  exact g.nw a h1 h2) fun _ z=>z⟩
def eVar (i:Nat):En→R D:=fun s=>R.of ((s[i]?).bind id)
theorem eVar_ok {i:Nat} {s:En} {P:D→Prop} {E:Str→Prop} (k:Done (eVar i s) P E):∃ d,s[i]?=some (some d)∧P d:=by
  obtain ⟨d,e,h⟩:=Done.opt k
  refine ⟨d,?_,h⟩
  cases q:s[i]? with
  | none=>rw [q] at e; cases e
  | some o=>rw [q] at e; exact congrArg some e
def tVarR (K:Frag) (B:Base) (Γ:Ow) (i:Nat):TE:=fun σ H Q=>(∃ s G,Rel K B Γ s G σ H)∧∃ v,σ[i]?=some (some v)∧Q v H
theorem name_pe {i:Nat} {x:Str} (hN:X.N[i]?=some x) (hv:Vis X.env.scope x) (h1:(x == ("__debug__":Str))=false) (h2:(x == ("__classdict__":Str))=false):PE X (.Name x pos) (tVarR X.K B Γ i):=PE.imp (pe_var hN hv h1 h2) fun _ _ _ h=>h.2
theorem ev_slot {i:Nat} (hb:PE X e (tVarR X.K B Γ i)) (ho:oty Γ i=.fz):EV X B W Γ e (eVar i) :=
  PE.imp hb fun σ H Q ⟨s,G,r,k⟩=>by
    obtain ⟨d,hd,k⟩:=eVar_ok k
    obtain ⟨v,e,_,rd⟩:=r.now hd
    exact ⟨⟨s,G,r⟩,v,e,k v G H (.refl r.GH) (rd ho)⟩
theorem eb_slot {i:Nat} (hb:PE X e (tVarR X.K B Γ i)) (ho:oty Γ i=.fz∨oty Γ i=.own .fz):EB X B W Γ e (eVar i) :=
  PE.imp hb fun σ H Q ⟨s,G,r,k⟩=>by
    obtain ⟨d,hd,k⟩:=eVar_ok k
    obtain ⟨φ,sl,_⟩:=r.sl
    obtain ⟨v,e,ow⟩:=sl.at_ _ _ hd
    exact ⟨⟨s,G,r⟩,v,e,k v G H (.refl r.GH) (.of_slot ho ow)⟩
def eCon (d:D):En→R D:=fun _=>.ok d
theorem ev_con {v:V} {d:D} (h:PE X e (tC v)) (hd:∀ G:Hp,RD X.K G v d):EV X B W Γ e (eCon d) :=
  PE.imp h fun σ H Q ⟨s,G,r,k⟩=>k v G H (.refl r.GH) (hd G)
def eBin (g:D→D→R D) (fa fb:En→R D):En→R D:=fun s=>fa s >>= fun x=>fb s >>= fun y=>g x y
def OpD (K:Frag) (r:R2) (g:D→D→R D):Prop:=∀ (x y:V) (dx dy d:D) (G H:Hp) (Q:VK),Sub G H→RB K G H x dx→RB K G H y dy→g dx dy=.ok d →
  (∀ v G' H',Grow K G H G' H'→RD K G' v d→Q v H')→r x y H Q
theorem two {r:R2} {g:D→D→R D} (hr:OpD X.K r g) (hx:∀ x y c,g x y≠.exc c):∀ σ H Q,tV X.K B W Γ (eBin g fa fb) σ H Q→tOp r (tBo X.K B W Γ fa) (tBo X.K B W Γ fb) σ H Q:=by
  rintro σ H Q ⟨s,G,rl,k⟩
  refine ⟨s,G,rl,k.bind.imp (fun da _ k x G1 H1 g1 rx=>?_) fun _ z=>z⟩
  refine ⟨s,G1,rl.grow g1,k.bind.imp (fun db _ k y G2 H2 g2 ry=>?_) fun _ z=>XW.grow g1 z⟩
  obtain ⟨d,e,k⟩:=k.ok (hx _ _)
  exact hr x y da db d G2 H2 Q g2.gh (rx.grow g2) ry e fun v G3 H3 g3 rd=>k v G3 H3 ((g1.trans g2).trans g3) rd
theorem ev_op {op:Operator} {r:R2} {g:D→D→R D} (ho:OpR X (binaryOp op) r) (hr:OpD X.K r g) (hx:∀ x y c,g x y≠.exc c) (ha:EB X B W Γ a fa) (hb:EB X B W Γ b fb):EV X B W Γ (.BinOp a op b pos) (eBin g fa fb) :=
  PE.imp (pe_op ho ha hb) (two hr hx)
end
end Hr
end
section
namespace Hr
open PySem PySem.Spec L2
section
variable {X:Cx} {B:Base} {W:WX} {Γ:Ow} {e a b c:Expr} {f fa fb fc:En→R D} {pos:Pos}
theorem RD.int_inv {K:Frag} {G:Hp} {v:V} {i:Int} (h:RD K G v (.int i)):v=.int i:=by cases h; rfl
theorem RD.str_inv {K:Frag} {G:Hp} {v:V} {x:Str} (h:RD K G v (.str x)):v=.str x∧PyData.strOk x=true∧x.length≤sizeLine:=by cases h with | str _ h1 h2=>exact ⟨rfl,h1,h2⟩
theorem RD.bl_inv {K:Frag} {G:Hp} {v:V} {x:Bool} (h:RD K G v (.bl x)):v=.bl x:=by cases h; rfl
theorem RD.non_inv {K:Frag} {G:Hp} {v:V} (h:RD K G v .non):v=.non:=by cases h; rfl
theorem RD.tup_inv {K:Frag} {G:Hp} {v:V} {ds:List D} (h:RD K G v (.tup ds)):∃ a vs,v=.ref a∧PlT G a vs∧vs.length≤sizeLine∧RDs K G vs ds:=by cases h with | tup s l r=>exact ⟨_,_,rfl,s,l,r⟩
theorem RB.rd {K:Frag} {G H:Hp} {v:V} {d:D} (h:RB K G H v d) (hd:(match d with | .lst _=>false | .dic _ _ _=>false | _=>true)=true):RD K G v d:=by
  cases h with
  | fz r=>exact r
  | ol _ _ _=>cases hd
  | odK _ _ _=>cases hd
  | odT _ _ _=>cases hd
theorem RB.int {K:Frag} {G H:Hp} {v:V} {i:Int} (h:RB K G H v (.int i)):v=.int i:=(h.rd rfl).int_inv
theorem RB.str {K:Frag} {G H:Hp} {v:V} {x:Str} (h:RB K G H v (.str x)):v=.str x∧PyData.strOk x=true∧x.length≤sizeLine:=(h.rd rfl).str_inv
theorem RB.bl {K:Frag} {G H:Hp} {v:V} {x:Bool} (h:RB K G H v (.bl x)):v=.bl x:=(h.rd rfl).bl_inv
theorem RB.non {K:Frag} {G H:Hp} {v:V} (h:RB K G H v .non):v=.non:=(h.rd rfl).non_inv
theorem new_lst {K:Frag} {G H:Hp} {p:Addr} {vs:List V} {ds:List D} (e:Sub G H) (hp:H p=none) (l:vs.length≤sizeLine) (r:RDs K G vs ds):Grow K G H (upd G p (.lst vs)) (upd H p (.lst vs))∧RD K (upd G p (.lst vs)) (.ref p) (.lst ds) :=
  have g:Grow K G H (upd G p (.lst vs)) (upd H p (.lst vs)):=Grow.new e hp rfl
  ⟨g,.lst upd_same l (r.mono g.g)⟩
theorem new_tup {K:Frag} {G H:Hp} {p:Addr} {us:List Value} {vs:List V} {ds:List D} (e:Sub G H) (hp:H p=none) (l:vs.length≤sizeLine) (r:RDs K G vs ds):Grow K G H (upd G p (pT us vs)) (upd H p (pT us vs))∧RD K (upd G p (pT us vs)) (.ref p) (.tup ds) :=
  have g:Grow K G H (upd G p (pT us vs)) (upd H p (pT us vs)):=Grow.new e hp isTb_pT
  ⟨g,.tup ⟨us,upd_same⟩ l (r.mono g.g)⟩
def rCatP (K:Frag):R2:=fun x y H Q=>∃ a b xs ys,x=.ref a∧y=.ref b∧SqT K H a xs∧SqT K H b ys∧xs.length + ys.length≤sizeLine ∧
  (xs=[]→Q (.ref b) H)∧(xs≠[]→ys=[]→Q (.ref a) H)∧(xs≠[]→ys≠[]→∀ p us,H p=none→Q (.ref p) (upd H p (pT us (xs ++ ys))))
theorem op_catP:OpR X (binaryOp .Add) (rCatP X.K):=by
  intro pins s σ H x y v u Q I rx ry h
  obtain ⟨a,b,xs,ys,rfl,rfl,ha,hb,hz,q0,q1,q2⟩:=h
  cases rx
  cases ry
  obtain ⟨its,r1,p1,_⟩:=I.tuple ha
  obtain ⟨its2,r2,p2,_⟩:=I.tuple hb
  by_cases hx:xs=[]
  · subst hx
    cases r1
    exact cat_tup0 p1 p2 ⟨.ref b,H,I,rfl,q0 rfl⟩
  · refine HT.cat_tup p1 p2 (fun z=>hx (r1.nil_iff.mp z)) (fun z=>⟨.ref a,H,I,rfl,q1 hx (r2.nil_iff.mp z)⟩) (fun z=>?_) (by rw [← r1.length,← r2.length]; exact hz)
    refine ⟨.ref s.heap.objs.size,_,I.laid (t':=s.toks) (o:=pT (its ++ its2) (xs ++ ys)) (fun b ob q=>Heap.get?_push_of_some _ q) (Nat.le_refl _) ?_,rfl,q2 hx (fun w=>z (r2.nil_iff.mpr w)) _ _ (I.hok.fresh (Nat.le_refl _))⟩
    exact pT_ok ⟨Heap.get?_push_size _ rfl,by rw [List.length_append]; exact hz,_,r1.append r2,PyProof.Rows.IsTup.new _ _⟩
theorem strOk_append {x y:Str} (hx:PyData.strOk x=true) (hy:PyData.strOk y=true):PyData.strOk (x ++ y)=true:=by
  have e:(x ++ y).cps=x.cps ++ y.cps:=rfl
  unfold PyData.strOk at *
  rw [e,Array.all_append,hx,hy]; rfl
theorem strOk_list {x:Str}:PyData.strOk x=true↔∀ c∈x.cps.toList,c < 0x110000:=by
  unfold PyData.strOk
  rw [Array.all_eq_true_iff_forall_mem]
  simp
theorem length_str (x:Str):x.length=x.cps.toList.length:=by
  show x.cps.size=_
  rw [Array.length_toList]
theorem length_append_str (x y:Str):(x ++ y).length=x.length + y.length:=by
  show (x.cps ++ y.cps).size=_
  rw [Array.size_append]; rfl
abbrev rAddD (K:Frag):R2:=fun x y H Q=>(rI0 fun i j=>.int (i + j)) x y H Q∨((∃ i j,x=.str i∧y=.str j∧i.length + j.length≤sizeLine∧Q (.str (i ++ j)) H)∨(rCatP K x y H Q∨rCat x y H Q))
theorem op_addD:OpR X (binaryOp .Add) (rAddD X.K):=op_add.or (op_add_str.or (op_catP.or op_cat))
theorem opd_add {K:Frag}:OpD K (rAddD K) dAdd:=by
  intro x y dx dy d G H Q e rx ry hg k
  unfold dAdd at hg
  split at hg
  · cases hg
    cases rx.int; cases ry.int
    exact .inl ⟨_,_,rfl,rfl,k _ G H (.refl e) (.int _)⟩
  · split at hg
    · rename_i hl
      cases hg
      obtain ⟨rfl,o1,_⟩:=rx.str
      obtain ⟨rfl,o2,_⟩:=ry.str
      exact .inr (.inl ⟨_,_,rfl,rfl,hl,k _ G H (.refl e) (.str _ (strOk_append o1 o2) (by rw [length_append_str]; exact hl))⟩)
    · cases hg
  · split at hg
    · rename_i hl
      cases hg
      have rx:=rx.tup
      have ry:=ry.tup
      obtain ⟨p,vs,rfl,s1,l1,r1⟩:=rx.tup_inv
      obtain ⟨q,ws,rfl,s2,l2,r2⟩:=ry.tup_inv
      refine .inr (.inr (.inl ⟨p,q,vs,ws,rfl,rfl,(s1.same e).sq,(s2.same e).sq,by rw [r1.length,r2.length]; exact hl,fun z=>?_,fun z z2=>?_,fun _ _ c us hc=>?_⟩))
      · subst z
        cases r1
        exact k _ G H (.refl e) ry
      · subst z2
        cases r2
        rw [List.append_nil] at k
        exact k _ G H (.refl e) rx
      · obtain ⟨g,rd⟩:=new_tup (K:=K) e hc (by rw [List.length_append,r1.length,r2.length]; exact hl) (r1.append r2)
        exact k _ _ _ g rd
    · cases hg
  · split at hg
    · rename_i hl
      cases hg
      obtain ⟨p,vs,rfl,s1,l1,r1⟩:=rx.lst e
      obtain ⟨q,ws,rfl,s2,l2,r2⟩:=ry.lst e
      refine .inr (.inr (.inr ⟨p,q,vs,ws,rfl,rfl,s1,s2,by rw [r1.length,r2.length]; exact hl,fun c hc=>?_⟩))
      obtain ⟨g,rd⟩:=new_lst (K:=K) e hc (by rw [List.length_append,r1.length,r2.length]; exact hl) (r1.append r2)
      exact k _ _ _ g rd
    · cases hg
  · cases hg
theorem opd_sub {K:Frag}:OpD K (rI0 fun i j=>.int (i - j)) dSub:=by
  intro x y dx dy d G H Q e rx ry hg k
  unfold dSub at hg
  split at hg
  · cases hg
    cases rx.int; cases ry.int
    exact ⟨_,_,rfl,rfl,k _ G H (.refl e) (.int _)⟩
  · cases hg
theorem opd_mod {K:Frag}:OpD K (rI (fun _ j=>0 < j) fun i j=>.int (i % j)) dMod:=by
  intro x y dx dy d G H Q e rx ry hg k
  unfold dMod at hg
  split at hg
  · split at hg
    · rename_i hj
      cases hg
      cases rx.int; cases ry.int
      exact ⟨_,_,rfl,rfl,hj,k _ G H (.refl e) (.int _)⟩
    · cases hg
  · cases hg
theorem opd_div {K:Frag}:OpD K (rI CDivW fun i j=>.int (i / j)) dDiv:=by
  intro x y dx dy d G H Q e rx ry hg k
  unfold dDiv at hg
  split at hg
  · split at hg
    · rename_i hj
      cases hg
      cases rx.int; cases ry.int
      exact ⟨_,_,rfl,rfl,wide_div (b:=64) hj.1 (by have:=hj.2; omega) (by decide) (by decide),k _ G H (.refl e) (.int _)⟩
    · cases hg
  · cases hg
theorem opd_pow {K:Frag}:OpD K (rI CPow fun i j=>.int (i ^ j.toNat)) dPow:=by
  intro x y dx dy d G H Q e rx ry hg k
  unfold dPow at hg
  split at hg
  · split at hg
    · rename_i hj
      cases hg
      cases rx.int; cases ry.int
      exact ⟨_,_,rfl,rfl,hj,k _ G H (.refl e) (.int _)⟩
    · cases hg
  · cases hg
theorem op_mul_str:OpR X (binaryOp .Mult) (fun x y H Q=>∃ z j,x=.str z∧y=.int j∧(0≤j∧j≤1000∧z.length≤1000)∧Q (.str (rept z j.toNat)) H):=by
  intro pins s σ H x y v u Q I rx ry h
  obtain ⟨z,j,rfl,rfl,⟨h0,h1,h2⟩,q⟩:=h
  obtain ⟨t,rfl⟩:=rx
  obtain ⟨t',rfl⟩:=ry
  have hle:z.length * j.toNat≤1000000:=by
    have:j.toNat≤1000:=by omega
    calc z.length * j.toNat≤1000 * 1000:=Nat.mul_le_mul h2 this
      _=1000000:=rfl
  have hm:MulOk z j:=by
    refine ⟨?_,fun a b=>?_,fun a b=>?_⟩
    · rw [Bool.or_eq_false_iff]
      exact ⟨decide_eq_false (by omega),decide_eq_false (by omega)⟩
    · have hj:1≤j:=by omega
      have:(2 ^ 63 - 1) / j ≥ (2 ^ 63 - 1) / 1000:=by
        apply Int.le_ediv_of_mul_le (by omega)
        have h3:((2:Int) ^ 63 - 1) / 1000 * j≤(2 ^ 63 - 1) / 1000 * 1000:=Int.mul_le_mul_of_nonneg_left h1 (by decide)
        exact Int.le_trans h3 (by decide)
      have h4:((2:Int) ^ 63 - 1) / 1000 ≥ 1000:=by decide
      omega
    · unfold Builtin.Str.tooLong
      have:=sizeLine_eq
      simp only [decide_eq_false_iff_not]
      omega
  have e:Txt.mul z j=rept z j.toNat:=by
    have hcps:∀ (n:Nat) (w:Array Nat),List.foldl (· ++ ·) w (List.replicate n z.cps)=w ++ ((List.replicate n z.cps.toList).flatten).toArray:=by
      intro n
      induction n with
      | zero=>intro w; simp
      | succ n ih =>
        intro w
        rw [List.replicate_succ,List.foldl_cons,ih,List.replicate_succ,List.flatten_cons]
        apply Array.ext'
        simp
    unfold Txt.mul rept
    by_cases c1:j < 1
    · have:j.toNat=0:=by omega
      rw [if_pos c1,this]; rfl
    · rw [if_neg c1]
      by_cases c2:(j == 1 || z.length == 0)=true
      · rw [if_pos c2]
        rcases Bool.or_eq_true_iff.mp c2 with c | c
        · have:j=1:=by simpa using c
          subst this
          obtain ⟨⟨l⟩⟩:=z
          simp
        · have hz : z.cps = #[] := by
            have:z.cps.size=0:=by
              have c':z.length=0:=by simpa using c
              exact c'
            exact Array.eq_empty_of_size_eq_zero this
          obtain ⟨l⟩:=z
          dsimp only at hz
          subst hz
          simp
      · rw [if_neg c2,hcps]
        simp
  exact SB.mul hm fun t'' k=>⟨.str _,H,I.tok k,⟨t'',by rw [e]⟩,q⟩
abbrev rMulD:R2:=fun x y H Q=>(rI CMul fun i j=>.int (i * j)) x y H Q∨((∃ z j,x=.str z∧y=.int j∧(0≤j∧j≤1000∧z.length≤1000)∧Q (.str (rept z j.toNat)) H)∨rRep x y H Q)
theorem op_mulD:OpR X (binaryOp .Mult) rMulD:=op_mul.or (op_mul_str.or op_rep)
theorem RDs.rep {K:Frag} {G:Hp} {vs:List V} {ds:List D} (r:RDs K G vs ds):∀ n:Nat,RDs K G (List.replicate n vs).flatten (List.replicate n ds).flatten
  | 0=>.nil
  | n + 1=>by
    rw [List.replicate_succ,List.replicate_succ,List.flatten_cons,List.flatten_cons]
    exact r.append (RDs.rep r n)
theorem flatten_rep_length {α:Type} (l:List α):∀ n:Nat,(List.replicate n l).flatten.length=l.length * n
  | 0=>rfl
  | n + 1=>by
    rw [List.replicate_succ,List.flatten_cons,List.length_append,flatten_rep_length l n,Nat.mul_succ,Nat.add_comm]
theorem opd_mul {K:Frag}:OpD K rMulD dMul:=by
  intro x y dx dy d G H Q e rx ry hg k
  unfold dMul at hg
  split at hg
  · split at hg
    · rename_i hj
      cases hg
      cases rx.int; cases ry.int
      refine .inl ⟨_,_,rfl,rfl,?_,k _ G H (.refl e) (.int _)⟩
      rcases Bool.or_eq_true_iff.mp hj with z | z
      · exact .inl (of_decide_eq_true z)
      · exact .inr (of_decide_eq_true z)
    · cases hg
  · split at hg
    · rename_i z j hj
      cases hg
      obtain ⟨rfl,o1,_⟩:=rx.str
      cases ry.int
      refine .inr (.inl ⟨_,_,rfl,rfl,hj,k _ G H (.refl e) (.str _ ?_ ?_)⟩)
      · rw [strOk_list] at o1 ⊢
        intro c hc
        unfold rept at hc
        simp only [List.mem_flatten,List.mem_replicate] at hc
        obtain ⟨l,⟨_,rfl⟩,m⟩:=hc
        exact o1 c m
      · rw [length_str]
        unfold rept
        simp only []
        rw [flatten_rep_length,← length_str]
        have:=sizeLine_eq
        have h2:j.toNat≤1000:=by omega
        calc z.length * j.toNat≤1000 * 1000:=Nat.mul_le_mul hj.2.2 h2
          _≤sizeLine:=by rw [this]; decide
    · cases hg
  · split at hg
    · rename_i ds j hj
      cases hg
      obtain ⟨p,vs,rfl,s1,l1,r1⟩:=rx.lst e
      cases ry.int
      refine .inr (.inr ⟨p,_,vs,rfl,rfl,s1,hj.1,hj.2.1,by rw [r1.length]; exact hj.2.2,fun c hc=>?_⟩)
      obtain ⟨g,rd⟩:=new_lst (K:=K) e hc (by rw [flatten_rep_length,r1.length]; exact hj.2.2) (r1.rep j.toNat)
      exact k _ _ _ g rd
    · cases hg
  · cases hg
theorem dBin_noexc (op:Operator) (x y:D) (c:Str):dBin op x y≠.exc c:=by
  unfold dBin
  cases op <;> dsimp only <;> (first | (unfold dAdd) | (unfold dSub) | (unfold dMul) | (unfold dMod) | (unfold dDiv) | (unfold dPow) | skip) <;> (repeat' split) <;> exact fun z=>nomatch z
theorem ev_bin {op:Operator} (hop:(match op with | .Add=>true | .Sub=>true | .Mult=>true | .Mod=>true | .FloorDiv=>true | .Pow=>true | _=>false)=true) (ha:EB X B W Γ a fa) (hb:EB X B W Γ b fb):EV X B W Γ (.BinOp a op b pos) (eBin (dBin op) fa fb):=by
  cases op with
  | Add=>exact ev_op op_addD opd_add (dBin_noexc .Add) ha hb
  | Sub=>exact ev_op op_sub opd_sub (dBin_noexc .Sub) ha hb
  | Mult=>exact ev_op op_mulD opd_mul (dBin_noexc .Mult) ha hb
  | Mod=>exact ev_op op_mod opd_mod (dBin_noexc .Mod) ha hb
  | FloorDiv=>exact ev_op op_fdivW opd_div (dBin_noexc .FloorDiv) ha hb
  | Pow=>exact ev_op op_pow opd_pow (dBin_noexc .Pow) ha hb
  | _=>cases hop
def eNeg (fa:En→R D):En→R D:=fun s=>fa s >>= dNeg
theorem dNeg_noexc (x:D) (c:Str):dNeg x≠.exc c:=by unfold dNeg; split <;> exact fun z=>nomatch z
theorem ev_neg (ha:EB X B W Γ a fa):EV X B W Γ (.UnaryOp .USub a pos) (eNeg fa):=by
  refine PE.imp (pe_un un_neg ha) ?_
  rintro σ H Q ⟨s,G,rl,k⟩
  refine ⟨s,G,rl,k.bind.imp (fun da _ k x G1 H1 g1 rx=>?_) fun _ z=>z⟩
  obtain ⟨d,e,k⟩:=k.ok (dNeg_noexc _)
  unfold dNeg at e
  split at e
  · cases e
    cases rx.int
    exact ⟨_,rfl,k _ G1 H1 g1 (.int _)⟩
  · cases e
end
end Hr
end
section
namespace Hr
open PySem PySem.Spec L2
section
variable {X:Cx} {B:Base} {W:WX} {Γ:Ow} {e a b c:Expr} {f fa fb fc:En→R D} {pos:Pos}
abbrev rCmpD (K:Frag) (g:D→D→R Bool):R2:=fun x y H Q=>∃ dx dy b G,Sub G H∧RB K G H x dx∧RB K G H y dy∧g dx dy=.ok b∧Q (.bl b) H
theorem dEq_inv {dx dy:D} {b:Bool} (h:dEq dx dy=.ok b):dx.pl=true∧dy.pl=true∧min dx.dep dy.dep≤60∧b=D.eqv dx dy:=by
  unfold dEq at h
  split at h
  · rename_i q
    simp only [Bool.and_eq_true,decide_eq_true_eq] at q
    cases h
    exact ⟨q.1.1,q.1.2,q.2,rfl⟩
  · cases h
theorem op_eqM (hu:X.A.units + 64 < cLine):OpR X (compareOp .Eq) (rCmpD X.K dEq):=by
  intro pins s σ H x y v u Q I rx ry h
  obtain ⟨dx,dy,b,G,e,r1,r2,hb,q⟩:=h
  obtain ⟨p1,p2,hm,rfl⟩:=dEq_inv hb
  obtain ⟨as,q1⟩:=Dp.reads I _ x v ((r1.now e).dp p1) rx
  obtain ⟨bs,q2⟩:=Dp.reads I _ y u ((r2.now e).dp p2) ry
  refine SeqAt.compareEq_reads q1 q2 (r1.now e).lay (r2.now e).lay ?_ ⟨.bl _,H,I,rfl,q⟩
  unfold D.dep at hm
  omega
theorem op_neM (hu:X.A.units + 64 < cLine):OpR X (compareOp .NotEq) (rCmpD X.K fun a b=>do let c ← dEq a b; pure (!c)):=by
  intro pins s σ H x y v u Q I rx ry h
  obtain ⟨dx,dy,b,G,e,r1,r2,hb,q⟩:=h
  dsimp only at hb
  cases hq:dEq dx dy with
  | exc c=>rw [hq] at hb; cases hb
  | stuck=>rw [hq] at hb; cases hb
  | ok b' =>
    rw [hq] at hb
    have hb':(!b')=b:=by simpa using hb
    subst hb'
    obtain ⟨p1,p2,hm,rfl⟩:=dEq_inv hq
    obtain ⟨as,q1⟩:=Dp.reads I _ x v ((r1.now e).dp p1) rx
    obtain ⟨bs,q2⟩:=Dp.reads I _ y u ((r2.now e).dp p2) ry
    refine SeqAt.compareNe_reads q1 q2 (r1.now e).lay (r2.now e).lay ?_ ⟨.bl _,H,I,rfl,q⟩
    unfold D.dep at hm
    omega
theorem any_pys (x:D):∀ ds:List D,((D.pys ds).any fun y=>PyData.eqv y x.py)=ds.any fun y=>D.eqv y x
  | []=>rfl
  | d :: ds=>by
    show (PyData.eqv d.py x.py || (D.pys ds).any _)=(D.eqv d x || ds.any _)
    rw [any_pys x ds]; rfl
theorem dInL_inv {x:D} {ds:List D} {b:Bool} (h:dInL x ds=.ok b):x.pl=true∧D.pls ds=true∧min (PyData.depthAll (D.pys ds)) x.dep≤60∧b=ds.any fun y=>D.eqv y x:=by
  unfold dInL at h
  split at h
  · rename_i q
    simp only [Bool.and_eq_true,decide_eq_true_eq] at q
    cases h
    exact ⟨q.1.1,q.1.2,q.2,rfl⟩
  · cases h
theorem keyOf_K {K:Frag} {G:Hp} {v:V} {d:D} {k:List Key} (r:RD K G v d) (h:keyOf false d=some k):∃ q,k=[q]∧v=kV q:=by
  cases d with
  | int i=>cases h; exact ⟨_,rfl,r.int_inv⟩
  | str x=>cases h; exact ⟨_,rfl,r.str_inv.1⟩
  | _=>cases h
def key1:D→Option Key
  | .int i=>some (Sum.inl i)
  | .str x=>some (Sum.inr x)
  | _=>none
theorem ktD_vs {K:Frag} {G:Hp}:∀ {vs:List V} {ds:List D} {k:List Key},RDs K G vs ds→ktD ds=some k→vs=k.map kV∧vs.all isKV=true
  | _,_,_,.nil,h=>by cases h; exact ⟨rfl,rfl⟩
  | _,_,k,.cons (d:=d) (ds:=ds) a b,h=>by
    have h:(ktD1 d).bind (fun k=>(ktD ds).map fun ks=>k :: ks)=some k:=h
    cases q:ktD1 d with
    | none=>rw [q] at h; cases h
    | some k1 =>
      rw [q] at h
      have h:(ktD ds).map (fun ks=>k1 :: ks)=some k:=h
      cases q2:ktD ds with
      | none=>rw [q2] at h; cases h
      | some k2 =>
        rw [q2] at h
        cases h
        obtain ⟨e1,e2⟩:=ktD_vs b q2
        subst e1
        cases a with
        | int i=>cases q; exact ⟨rfl,by rw [List.all_cons,e2]; rfl⟩
        | str x _ _=>cases q; exact ⟨rfl,by rw [List.all_cons,e2]; rfl⟩
        | _=>cases q
theorem keyOf_T {K:Frag} {G:Hp} {v:V} {d:D} {k:List Key} (r:RD K G v d) (h:keyOf true d=some k):∃ b,v=.ref b∧G b=some (.tup (k.map kV)):=by
  cases d with
  | tup ds =>
    cases ds with
    | nil=>cases h
    | cons d ds =>
      have h:ktD (d :: ds)=some k:=h
      obtain ⟨a,vs,rfl,⟨us,z⟩,_,rs⟩:=r.tup_inv
      obtain ⟨e1,e2⟩:=ktD_vs rs h
      have hk:keyVs vs=true:=by
        unfold keyVs
        rw [e2]
        cases rs
        rfl
      rw [pT_key hk] at z
      exact ⟨a,rfl,by rw [← e1]; exact z⟩
  | _=>cases h
theorem lookK_dK {K : Frag} {G : Hp} {q : Key} : ∀ {kvs : List (Key × V)} {ds : List D}, RDs K G (kvs.map (·.2)) ds →
    match lookK (kvs.map fun p=>[p.1]) ds [q] with
    | some d=>∃ v,valV kvs q=some v∧RD K G v d
    | none=>valV kvs q=none
  | [],_,.nil=>rfl
  | p :: kvs,d :: ds,.cons a b=>by
    have ih:=lookK_dK (q:=q) b
    show match (if [p.1]=[q] then some d else lookK (kvs.map fun p=>[p.1]) ds [q]) with | some d=>_ | none=>_
    by_cases h:p.1=q
    · rw [if_pos (by rw [h]),valV_pos h]
      exact ⟨_,rfl,a⟩
    · rw [if_neg (fun z=>h (by injection z)),valV_neg h]
      exact ih
theorem lookK_dT {K : Frag} {G : Hp} {q : List Key} : ∀ {kvs : List (List Key × V)} {ds : List D}, RDs K G (kvs.map (·.2)) ds →
    match lookK (kvs.map fun p=>p.1) ds q with
    | some d=>∃ v,valV kvs q=some v∧RD K G v d
    | none=>valV kvs q=none
  | [],_,.nil=>rfl
  | p :: kvs,d :: ds,.cons a b=>by
    have ih:=lookK_dT (q:=q) b
    show match (if p.1=q then some d else lookK (kvs.map fun p=>p.1) ds q) with | some d=>_ | none=>_
    by_cases h:p.1=q
    · rw [if_pos h,valV_pos h]
      exact ⟨_,rfl,a⟩
    · rw [if_neg h,valV_neg h]
      exact ih
theorem RB.dic {K : Frag} {G H : Hp} {v : V} {t : Bool} {ks : List (List Key)} {ds : List D} (e : Sub G H) (h : RB K G H v (.dic t ks ds)) :
    (t=false∧∃ a kvs,v=.ref a∧H a=some (.dK kvs)∧kvs.length≤sizeLine∧ks=(kvs.map fun p=>[p.1])∧RDs K G (kvs.map (·.2)) ds) ∨
    (t=true∧∃ a kvs,v=.ref a∧Rd H a (.dT kvs)∧kvs.length≤sizeLine∧ks=(kvs.map fun p=>p.1)∧RDs K G (kvs.map (·.2)) ds):=by
  cases h with
  | fz r=>cases r with
    | dK s l r=>exact .inl ⟨rfl,_,_,rfl,e _ _ s,l,rfl,r⟩
    | dT s l r=>exact .inr ⟨rfl,_,_,rfl,Rd.same e s,l,rfl,r⟩
  | odK h l r=>exact .inl ⟨rfl,_,_,rfl,h,l,rfl,r⟩
  | odT h l r=>exact .inr ⟨rfl,_,_,rfl,.inl h,l,rfl,r⟩
theorem dget_of {K : Frag} {G H : Hp} {x y : V} {t : Bool} {ks : List (List Key)} {ds : List D} {d : D} {k : List Key} (e : Sub G H) (hd : RB K G H x (.dic t ks ds)) (hy : RB K G H y d) (hk : keyOf t d = some k) :
    ∃ a o,x=.ref a∧DGet H a y o∧match lookK ks ds k with | some d'=>∃ v,o=some v∧RD K G v d' | none=>o=none:=by
  have ry:RD K G y d:=by
    refine hy.rd ?_
    cases t <;> cases d <;> first | rfl | cases hk
  rcases hd.dic e with ⟨rfl,a,kvs,rfl,hH,l,rfl,rs⟩ | ⟨rfl,a,kvs,rfl,hH,l,rfl,rs⟩
  · obtain ⟨q,rfl,rfl⟩:=keyOf_K ry hk
    exact ⟨a,_,rfl,.k hH,lookK_dK rs⟩
  · obtain ⟨b,rfl,hb⟩:=keyOf_T ry hk
    exact ⟨a,_,rfl,.inr ⟨kvs,k,b,hH,rfl,e _ _ hb,rfl⟩,lookK_dT rs⟩
theorem any_sign (c:Nat) (l:List Nat):(l.any fun z=>z == c)=decide (c∈l):=by
  rw [Bool.eq_iff_iff]
  simp only [List.any_eq_true,beq_iff_eq,decide_eq_true_eq]
  exact ⟨fun ⟨z,m,e⟩=>e ▸ m,fun m=>⟨c,m,rfl⟩⟩
theorem op_inM (hu:X.A.units + 64 < cLine):OpR X (compareOp .In) (rCmpD X.K dIn):=by
  intro pins s σ H x y v u Q I rx ry h
  obtain ⟨dx,dy,b,G,e,r1,r2,hb,q⟩:=h
  unfold dIn at hb
  split at hb
  · obtain ⟨p1,p2,hm,rfl⟩:=dInL_inv hb
    obtain ⟨as,q1⟩:=Dp.reads I _ x v ((r1.now e).dp p1) rx
    obtain ⟨bs,q2⟩:=Dp.reads I _ y u ((r2.now e).dp p2) ry
    refine SeqAt.in_list_reads q2 q1 (r2.now e).lay (r1.now e).lay ?_ ⟨.bl _,H,I,rfl,by rw [any_pys]; exact q⟩
    unfold D.dep at hm; omega
  · obtain ⟨p1,p2,hm,rfl⟩:=dInL_inv hb
    obtain ⟨as,q1⟩:=Dp.reads I _ x v ((r1.now e).dp p1) rx
    obtain ⟨bs,q2⟩:=Dp.reads I _ y u ((r2.now e).dp p2) ry
    refine SeqAt.in_tuple_reads q2 q1 (r2.now e).lay (r1.now e).lay ?_ ⟨.bl _,H,I,rfl,by rw [any_pys]; exact q⟩
    unfold D.dep at hm; omega
  · obtain ⟨p1,p2,hm,rfl⟩:=dInL_inv hb
    obtain ⟨as,q1⟩:=Dp.reads I _ x v ((r1.now e).dp p1) rx
    obtain ⟨bs,q2⟩:=Dp.reads I _ y u ((r2.now e).dp p2) ry
    refine SeqAt.in_tuple_reads q2 q1 (r2.now e).lay (r1.now e).lay ?_ ⟨.bl _,H,I,rfl,by rw [any_pys]; exact q⟩
    unfold D.dep at hm; omega
  · rename_i xs ys
    split at hb
    · rename_i hl
      cases hb
      obtain ⟨rfl,_,_⟩:=r1.str
      obtain ⟨rfl,_,_⟩:=r2.str
      obtain ⟨⟨l⟩⟩:=xs
      cases l with
      | nil=>cases hl
      | cons c l =>
        cases l with
        | cons _ _=>cases hl
        | nil =>
          refine op_in_sign pins s σ H _ _ v u Q I rx ry ⟨c,ys,rfl,rfl,?_⟩
          have e2:(ys.cps.toList.any fun z=>z == (Array.mk [c]).getD 0 0)=decide (c∈ys.cps.toList):=any_sign c _
          rw [← e2]; exact q
    · cases hb
  · rename_i t ks ds
    cases hk:keyOf t dx with
    | none=>rw [hk] at hb; cases hb
    | some k =>
      rw [hk] at hb
      cases hb
      obtain ⟨a,o,rfl,g,lo⟩:=dget_of e r2 r1 hk
      obtain rfl:u=Value.ref a:=ry
      refine d_in (by omega) I g rx fun s' I'=>⟨.bl _,H,I',rfl,?_⟩
      have e2:(lookK ks ds k).isSome=o.isSome:=by
        cases hl:lookK ks ds k with
        | none=>rw [hl] at lo; dsimp only at lo; rw [lo]; rfl
        | some d'=>rw [hl] at lo; obtain ⟨v',rfl,_⟩:=lo; rfl
      rw [← e2]; exact q
  · cases hb
theorem op_notInM (hu:X.A.units + 64 < cLine):OpR X (compareOp .NotIn) (rCmpD X.K fun a b=>do let c ← dIn a b; pure (!c)):=by
  intro pins s σ H x y v u Q I rx ry h
  obtain ⟨dx,dy,b,G,e,r1,r2,hb0,q⟩:=h
  dsimp only at hb0
  cases hb:dIn dx dy with
  | exc c=>rw [hb] at hb0; cases hb0
  | stuck=>rw [hb] at hb0; cases hb0
  | ok b' =>
  rw [hb] at hb0
  have hb':(!b')=b:=by simpa using hb0
  subst hb'
  unfold dIn at hb
  split at hb
  · obtain ⟨p1,p2,hm,rfl⟩:=dInL_inv hb
    obtain ⟨as,q1⟩:=Dp.reads I _ x v ((r1.now e).dp p1) rx
    obtain ⟨bs,q2⟩:=Dp.reads I _ y u ((r2.now e).dp p2) ry
    refine SeqAt.notIn_list_reads q2 q1 (r2.now e).lay (r1.now e).lay ?_ ⟨.bl _,H,I,rfl,by rw [any_pys]; exact q⟩
    unfold D.dep at hm; omega
  · obtain ⟨p1,p2,hm,rfl⟩:=dInL_inv hb
    obtain ⟨as,q1⟩:=Dp.reads I _ x v ((r1.now e).dp p1) rx
    obtain ⟨bs,q2⟩:=Dp.reads I _ y u ((r2.now e).dp p2) ry
    refine SeqAt.notIn_tuple_reads q2 q1 (r2.now e).lay (r1.now e).lay ?_ ⟨.bl _,H,I,rfl,by rw [any_pys]; exact q⟩
    unfold D.dep at hm; omega
  · obtain ⟨p1,p2,hm,rfl⟩:=dInL_inv hb
    obtain ⟨as,q1⟩:=Dp.reads I _ x v ((r1.now e).dp p1) rx
    obtain ⟨bs,q2⟩:=Dp.reads I _ y u ((r2.now e).dp p2) ry
    refine SeqAt.notIn_tuple_reads q2 q1 (r2.now e).lay (r1.now e).lay ?_ ⟨.bl _,H,I,rfl,by rw [any_pys]; exact q⟩
    unfold D.dep at hm; omega
  · rename_i xs ys
    split at hb
    · rename_i hl
      cases hb
      obtain ⟨rfl,_,_⟩:=r1.str
      obtain ⟨rfl,_,_⟩:=r2.str
      obtain ⟨⟨l⟩⟩:=xs
      cases l with
      | nil=>cases hl
      | cons c l =>
        cases l with
        | cons _ _=>cases hl
        | nil =>
          refine op_notIn_sign pins s σ H _ _ v u Q I rx ry ⟨c,ys,rfl,rfl,?_⟩
          have e2:(ys.cps.toList.any fun z=>z == (Array.mk [c]).getD 0 0)=decide (c∈ys.cps.toList):=any_sign c _
          rw [← e2]; exact q
    · cases hb
  · rename_i t ks ds
    cases hk:keyOf t dx with
    | none=>rw [hk] at hb; cases hb
    | some k =>
      rw [hk] at hb
      cases hb
      obtain ⟨a,o,rfl,g,lo⟩:=dget_of e r2 r1 hk
      obtain rfl:u=Value.ref a:=ry
      refine d_notIn (by omega) I g rx fun s' I'=>⟨.bl _,H,I',rfl,?_⟩
      have e2:(lookK ks ds k).isSome=o.isSome:=by
        cases hl:lookK ks ds k with
        | none=>rw [hl] at lo; dsimp only at lo; rw [lo]; rfl
        | some d'=>rw [hl] at lo; obtain ⟨v',rfl,_⟩:=lo; rfl
      rw [← e2]; exact q
  · cases hb
theorem op_isM:OpR X (compareOp .Is) (rCmpD X.K dIs):=by
  intro pins s σ H x y v u Q I rx ry h
  obtain ⟨dx,dy,b,G,e,r1,r2,hb,q⟩:=h
  unfold dIs at hb
  split at hb
  · cases hb
    cases r2.non
    refine op_isN pins s σ H x _ v u Q I rx ry ⟨rfl,?_⟩
    have e2:dx.isN=decide (x=V.non):=by
      cases r1 with
      | fz r=>cases r <;> simp [D.isN]
      | _=>simp [D.isN]
    rw [← e2]; exact q
  · cases hb
    cases r1.bl; cases r2.bl
    exact op_is_bl pins s σ H _ _ v u Q I rx ry ⟨_,_,rfl,rfl,q⟩
  · cases hb
theorem op_isNotM:OpR X (compareOp .IsNot) (rCmpD X.K fun a b=>do let c ← dIs a b; pure (!c)):=by
  intro pins s σ H x y v u Q I rx ry h
  obtain ⟨dx,dy,b,G,e,r1,r2,hb0,q⟩:=h
  dsimp only at hb0
  cases hb:dIs dx dy with
  | exc c=>rw [hb] at hb0; cases hb0
  | stuck=>rw [hb] at hb0; cases hb0
  | ok b' =>
  rw [hb] at hb0
  have hb':(!b')=b:=by simpa using hb0
  subst hb'
  unfold dIs at hb
  split at hb
  · cases hb
    cases r2.non
    refine op_notN pins s σ H x _ v u Q I rx ry ⟨rfl,?_⟩
    have e2:dx.isN=decide (x=V.non):=by
      cases r1 with
      | fz r=>cases r <;> simp [D.isN]
      | _=>simp [D.isN]
    rw [← e2]; exact q
  · cases hb
    cases r1.bl; cases r2.bl
    exact op_isnot_bl pins s σ H _ _ v u Q I rx ry ⟨_,_,rfl,rfl,q⟩
  · cases hb
theorem op_ltM:OpR X (compareOp .Lt) (rCmpD X.K dLt):=by
  intro pins s σ H x y v u Q I rx ry h
  obtain ⟨dx,dy,b,G,e,r1,r2,hb,q⟩:=h
  (try dsimp only at hb)
  unfold dLt at hb
  split at hb
  · cases hb; cases r1.int; cases r2.int
    exact op_lt pins s σ H _ _ v u Q I rx ry ⟨_,_,rfl,rfl,q⟩
  · cases hb
    obtain ⟨rfl,_⟩:=r1.str
    obtain ⟨rfl,_⟩:=r2.str
    exact op_lt_str pins s σ H _ _ v u Q I rx ry ⟨_,_,rfl,rfl,q⟩
  · cases hb
theorem op_gtM:OpR X (compareOp .Gt) (rCmpD X.K fun a b=>dLt b a):=by
  intro pins s σ H x y v u Q I rx ry h
  obtain ⟨dx,dy,b,G,e,r1,r2,hb,q⟩:=h
  (try dsimp only at hb)
  unfold dLt at hb
  split at hb
  · cases hb; cases r1.int; cases r2.int
    exact op_gt pins s σ H _ _ v u Q I rx ry ⟨_,_,rfl,rfl,q⟩
  · cases hb
    obtain ⟨rfl,_⟩:=r1.str
    obtain ⟨rfl,_⟩:=r2.str
    exact op_gt_str pins s σ H _ _ v u Q I rx ry ⟨_,_,rfl,rfl,q⟩
  · cases hb
theorem op_leM:OpR X (compareOp .LtE) (rCmpD X.K dLe):=by
  intro pins s σ H x y v u Q I rx ry h
  obtain ⟨dx,dy,b,G,e,r1,r2,hb,q⟩:=h
  (try dsimp only at hb)
  unfold dLe at hb
  split at hb
  · cases hb; cases r1.int; cases r2.int
    exact op_le pins s σ H _ _ v u Q I rx ry ⟨_,_,rfl,rfl,q⟩
  · cases hb
    obtain ⟨rfl,_⟩:=r1.str
    obtain ⟨rfl,_⟩:=r2.str
    exact op_le_str pins s σ H _ _ v u Q I rx ry ⟨_,_,rfl,rfl,q⟩
  · cases hb
theorem op_geM:OpR X (compareOp .GtE) (rCmpD X.K fun a b=>dLe b a):=by
  intro pins s σ H x y v u Q I rx ry h
  obtain ⟨dx,dy,b,G,e,r1,r2,hb,q⟩:=h
  (try dsimp only at hb)
  unfold dLe at hb
  split at hb
  · cases hb; cases r1.int; cases r2.int
    exact op_ge pins s σ H _ _ v u Q I rx ry ⟨_,_,rfl,rfl,q⟩
  · cases hb
    obtain ⟨rfl,_⟩:=r1.str
    obtain ⟨rfl,_⟩:=r2.str
    exact op_ge_str pins s σ H _ _ v u Q I rx ry ⟨_,_,rfl,rfl,q⟩
  · cases hb
theorem op_cmpM (hu:X.A.units + 64 < cLine) (op:CmpOp):OpR X (compareOp op) (rCmpD X.K (dCmp op)):=by
  cases op with
  | Eq=>exact op_eqM hu
  | NotEq=>exact op_neM hu
  | Lt=>exact op_ltM
  | LtE=>exact op_leM
  | Gt=>exact op_gtM
  | GtE=>exact op_geM
  | Is=>exact op_isM
  | IsNot=>exact op_isNotM
  | In=>exact op_inM hu
  | NotIn=>exact op_notInM hu
end
end Hr
end
section
namespace Hr
open PySem PySem.Spec L2
section
variable {X:Cx} {B:Base} {W:WX} {Γ:Ow} {e a b c:Expr} {f fa fb fc:En→R D} {pos:Pos}
theorem dEq_noexc (x y:D) (c:Str):dEq x y≠.exc c:=by unfold dEq; split <;> exact fun z=>nomatch z
theorem dInL_noexc (x:D) (y:List D) (c:Str):dInL x y≠.exc c:=by unfold dInL; split <;> exact fun z=>nomatch z
theorem of_noexc {α:Type} (o:Option α) (c:Str):R.of o≠.exc c:=by cases o <;> exact fun z=>nomatch z
theorem dIn_noexc (x y:D) (c:Str):dIn x y≠.exc c:=by
  unfold dIn
  split
  · exact dInL_noexc _ _ _
  · exact dInL_noexc _ _ _
  · exact dInL_noexc _ _ _
  · split <;> exact fun z=>nomatch z
  · exact of_noexc _ _
  · exact fun z=>nomatch z
theorem neg_noexc {x:R Bool} {c:Str} (h:∀ c,x≠.exc c):(do let b ← x; pure (!b))≠R.exc c:=by
  cases x with
  | ok b=>exact fun z=>nomatch z
  | stuck=>exact fun z=>nomatch z
  | exc c'=>exact absurd rfl (h c')
theorem dLt_noexc (x y:D) (c:Str):dLt x y≠.exc c:=by unfold dLt; split <;> exact fun z=>nomatch z
theorem dLe_noexc (x y:D) (c:Str):dLe x y≠.exc c:=by unfold dLe; split <;> exact fun z=>nomatch z
theorem dIs_noexc (x y:D) (c:Str):dIs x y≠.exc c:=by unfold dIs; split <;> exact fun z=>nomatch z
theorem dCmp_noexc (op:CmpOp) (x y:D) (c:Str):dCmp op x y≠.exc c:=by
  cases op with
  | Eq=>exact dEq_noexc _ _ _
  | NotEq=>exact neg_noexc fun c=>dEq_noexc _ _ c
  | Lt=>exact dLt_noexc _ _ _
  | LtE=>exact dLe_noexc _ _ _
  | Gt=>exact dLt_noexc _ _ _
  | GtE=>exact dLe_noexc _ _ _
  | Is=>exact dIs_noexc _ _ _
  | IsNot=>exact neg_noexc fun c=>dIs_noexc _ _ c
  | In=>exact dIn_noexc _ _ _
  | NotIn=>exact neg_noexc fun c=>dIn_noexc _ _ c
def eCmp (op:CmpOp) (fa fb:En→R D):En→R Bool:=fun s=>fa s >>= fun x=>fb s >>= fun y=>dCmp op x y
def eB (f:En→R Bool):En→R D:=fun s=>f s >>= fun b=>.ok (.bl b)
theorem cmp_two (op:CmpOp) {σ:St} {H:Hp} {Q:Bool→Hp→Prop} (k:tTe X.K B W Γ (eCmp op fa fb) σ H Q):tOp (rCmpD X.K (dCmp op)) (tBo X.K B W Γ fa) (tBo X.K B W Γ fb) σ H (fun v H'=>∃ b,v=.bl b∧Q b H'):=by
  obtain ⟨s,G,rl,k⟩:=k
  refine ⟨s,G,rl,k.bind.imp (fun da _ k x G1 H1 g1 rx=>?_) fun _ z=>z⟩
  refine ⟨s,G1,rl.grow g1,k.bind.imp (fun db _ k y G2 H2 g2 ry=>?_) fun _ z=>XW.grow g1 z⟩
  obtain ⟨d,e,k⟩:=k.ok (dCmp_noexc op _ _)
  exact ⟨da,db,d,G2,g2.gh,rx.grow g2,ry,e,d,rfl,k G2 H2 (g1.trans g2)⟩
theorem eB_of {f:En→R Bool} {σ:St} {H:Hp} {Q:VK} (k:tV X.K B W Γ (eB f) σ H Q):tTe X.K B W Γ f σ H (fun b H'=>Q (.bl b) H'):=by
  obtain ⟨s,G,rl,k⟩:=k
  exact ⟨s,G,rl,k.bind.imp (fun b _ k G' H' g=>k _ G' H' g (.bl b)) fun _ z=>z⟩
theorem et_cmp (hu:X.A.units + 64 < cLine) {op:CmpOp} (hm:behindInMarks op b=false) (ha:EB X B W Γ a fa) (hb:EB X B W Γ b fb):ET X B W Γ (.Compare a [op] [b] pos) (eCmp op fa fb) :=
  PT.imp (pt_cmpR (op_cmpM hu op) ha hb hm) fun σ H Q k=>cmp_two op k
theorem tBo_mono {σ:St} {H:Hp} {Q Q':VK} (k:tBo X.K B W Γ f σ H Q) (h:∀ v H',Q v H'→Q' v H'):tBo X.K B W Γ f σ H Q':=by
  obtain ⟨s,G,rl,k⟩:=k
  exact ⟨s,G,rl,k.imp (fun d _ k v G' H' g r=>h _ _ (k v G' H' g r)) fun _ z=>z⟩
theorem ev_cmp (hu:X.A.units + 64 < cLine) {op:CmpOp} (hm:behindInMarks op b=false) (ha:EB X B W Γ a fa) (hb:EB X B W Γ b fb):EV X B W Γ (.Compare a [op] [b] pos) (eB (eCmp op fa fb)) :=
  PE.imp (pe_cmpR (op_cmpM hu op) ha hb hm) fun σ H Q k=>by
    refine tBo_mono (cmp_two op (eB_of k)) fun x H1 q=>tBo_mono q fun y H2 q=>?_
    obtain ⟨dx,dy,b,G,e,r1,r2,hb,b',e',q⟩:=q
    cases e'
    exact ⟨dx,dy,b,G,e,r1,r2,hb,q⟩
theorem dTru_noexc (x:D) (c:Str):dTru x≠.exc c:=by unfold dTru; split <;> exact fun z=>nomatch z
theorem nat_ne0 (n:Nat):(n != 0)=((n:Int) != 0):=by cases n <;> rfl
theorem tru_of {K:Frag} {G H:Hp} {x:V} {d:D} {k:Bool} (e:Sub G H) (r:RB K G H x d) (h:dTru d=.ok k):TruV K x H k:=by
  unfold dTru at h
  split at h
  · cases h; cases r.non; rfl
  · cases h; cases r.bl; rfl
  · cases h; cases r.int; rfl
  · cases h
    obtain ⟨rfl,_,l⟩:=r.str
    exact ⟨l,nat_ne0 _⟩
  · cases h
    obtain ⟨a,vs,rfl,s,l,rs⟩:=r.tup.tup_inv
    refine .inr (.inl ⟨vs,(s.same e).sq,?_⟩)
    cases rs <;> rfl
  · cases h
    obtain ⟨a,vs,rfl,s,l,rs⟩:=r.lst e
    refine .inl ⟨vs,.inl (.inl s),?_⟩
    cases rs <;> rfl
  · cases h
    obtain ⟨a,vs,rfl,s,l,rs⟩:=r.arr e
    refine .inl ⟨vs,s,?_⟩
    cases rs <;> rfl
  · cases h
def eTru (fa:En→R D):En→R Bool:=fun s=>fa s >>= dTru
def plainTest:Expr→Bool
  | .UnaryOp .Not _ _=>false
  | .BoolOp _ _ _=>false
  | .IfExp _ _ _ _=>false
  | .Compare _ _ _ _=>false
  | _=>true
theorem plainTest_ok (h:plainTest a=true) (env:Env) (whole:Sem Value):isTrue a env whole=(do let v ← whole; standAt a.pos; holding [v] (truthy v)):=by
  cases a with
  | UnaryOp op _ _=>cases op <;> first | rfl | cases h
  | BoolOp _ _ _=>cases h
  | IfExp _ _ _ _=>cases h
  | Compare _ _ _ _=>cases h
  | _=>rfl
theorem et_tru (hp:plainTest a=true) (ha:EB X B W Γ a fa):ET X B W Γ a (eTru fa) :=
  PT.imp (pt_truth ha (plainTest_ok hp X.env)) fun σ H Q ⟨s,G,rl,k⟩=>by
    refine ⟨s,G,rl,k.bind.imp (fun da _ k x G1 H1 g1 rx=>?_) fun _ z=>z⟩
    obtain ⟨b,e,k⟩:=k.ok (dTru_noexc _)
    exact ⟨b,tru_of g1.gh rx e,k G1 H1 g1⟩
variable {ga gb gc:En→R Bool} {rest:List Expr}
def eAnd (ga gb:En→R Bool):En→R Bool:=fun s=>ga s >>= fun k=>if k then gb s else .ok false
def eOr (ga gb:En→R Bool):En→R Bool:=fun s=>ga s >>= fun k=>if k then .ok true else gb s
def eNot (ga:En→R Bool):En→R Bool:=fun s=>ga s >>= fun k=>.ok (!k)
abbrev EW (X:Cx) (B:Base) (W:WX) (Γ:Ow) (e:Expr) (f:En→R Bool):Prop:=PW X e (tTe X.K B W Γ f)
theorem ew_one {op:BoolOp} (ha:ET X B W Γ a ga):EW X B W Γ (.BoolOp op [a] pos) ga:=by
  cases op with
  | And=>exact pw_and1 ha
  | Or=>exact pw_or1 ha
theorem ew_and (ha:ET X B W Γ a ga) (hb:EW X B W Γ (.BoolOp .And (b :: rest) pos) gb):EW X B W Γ (.BoolOp .And (a :: b :: rest) pos) (eAnd ga gb) :=
  PW.imp (pw_and ha hb) fun σ H Q ⟨s,G,rl,k⟩=>⟨s,G,rl,k.bind.imp (fun b _ k G1 H1 g1=>by
    cases b with
    | false=>rw [if_neg Bool.false_ne_true] at k ⊢; exact k G1 H1 g1
    | true=>rw [if_pos rfl] at k ⊢; exact ⟨s,G1,rl.grow g1,k.imp (fun b _ k G2 H2 g2=>k G2 H2 (g1.trans g2)) fun _ z=>XW.grow g1 z⟩) fun _ z=>z⟩
theorem ew_or (ha:ET X B W Γ a ga) (hb:EW X B W Γ (.BoolOp .Or (b :: rest) pos) gb):EW X B W Γ (.BoolOp .Or (a :: b :: rest) pos) (eOr ga gb) :=
  PW.imp (pw_or ha hb) fun σ H Q ⟨s,G,rl,k⟩=>⟨s,G,rl,k.bind.imp (fun b _ k G1 H1 g1=>by
    cases b with
    | true=>rw [if_pos rfl] at k ⊢; exact k G1 H1 g1
    | false=>rw [if_neg Bool.false_ne_true] at k ⊢; exact ⟨s,G1,rl.grow g1,k.imp (fun b _ k G2 H2 g2=>k G2 H2 (g1.trans g2)) fun _ z=>XW.grow g1 z⟩) fun _ z=>z⟩
theorem et_not (ha:ET X B W Γ a ga):ET X B W Γ (.UnaryOp .Not a pos) (eNot ga) :=
  PT.imp (pt_not ha) fun σ H Q ⟨s,G,rl,k⟩=>⟨s,G,rl,k.bind.imp (fun b _ k G1 H1 g1=>k G1 H1 g1) fun _ z=>z⟩
def eAndV (fa fb:En→R D):En→R D:=fun s=>fa s >>= fun x=>dTru x >>= fun k=>if k then fb s else .ok x
def eOrV (fa fb:En→R D):En→R D:=fun s=>fa s >>= fun x=>dTru x >>= fun k=>if k then .ok x else fb s
def eNotV (fa:En→R D):En→R D:=fun s=>fa s >>= fun x=>dTru x >>= fun k=>.ok (.bl (!k))
theorem ev_one {op:BoolOp} (ha:EV X B W Γ a fa):EV X B W Γ (.BoolOp op [a] pos) fa:=pe_one ha
theorem ev_and (ha:EV X B W Γ a fa) (hb:EV X B W Γ (.BoolOp .And (b :: rest) pos) fb):EV X B W Γ (.BoolOp .And (a :: b :: rest) pos) (eAndV fa fb) :=
  PE.imp (pe_andT ha hb) fun σ H Q ⟨s,G,rl,k⟩=>⟨s,G,rl,k.bind.imp (fun x _ k v G1 H1 g1 r=>by
    obtain ⟨b,e,k⟩:=k.bind.ok (dTru_noexc _)
    refine ⟨b,tru_of g1.gh (.fz r) e,?_⟩
    cases b with
    | false=>rw [if_neg Bool.false_ne_true] at k ⊢; exact k v G1 H1 g1 r
    | true=>rw [if_pos rfl] at k ⊢; exact ⟨s,G1,rl.grow g1,k.imp (fun b _ k v G2 H2 g2=>k v G2 H2 (g1.trans g2)) fun _ z=>XW.grow g1 z⟩) fun _ z=>z⟩
theorem ev_or (ha:EV X B W Γ a fa) (hb:EV X B W Γ (.BoolOp .Or (b :: rest) pos) fb):EV X B W Γ (.BoolOp .Or (a :: b :: rest) pos) (eOrV fa fb) :=
  PE.imp (pe_orT ha hb) fun σ H Q ⟨s,G,rl,k⟩=>⟨s,G,rl,k.bind.imp (fun x _ k v G1 H1 g1 r=>by
    obtain ⟨b,e,k⟩:=k.bind.ok (dTru_noexc _)
    refine ⟨b,tru_of g1.gh (.fz r) e,?_⟩
    cases b with
    | true=>rw [if_pos rfl] at k ⊢; exact k v G1 H1 g1 r
    | false=>rw [if_neg Bool.false_ne_true] at k ⊢; exact ⟨s,G1,rl.grow g1,k.imp (fun b _ k v G2 H2 g2=>k v G2 H2 (g1.trans g2)) fun _ z=>XW.grow g1 z⟩) fun _ z=>z⟩
theorem ev_not (ha:EB X B W Γ a fa):EV X B W Γ (.UnaryOp .Not a pos) (eNotV fa) :=
  PE.imp (pe_notT ha) fun σ H Q ⟨s,G,rl,k⟩=>⟨s,G,rl,k.bind.imp (fun x _ k v G1 H1 g1 r=>by
    obtain ⟨b,e,k⟩:=k.bind.ok (dTru_noexc _)
    exact ⟨b,tru_of g1.gh r e,k _ G1 H1 g1 (.bl _)⟩) fun _ z=>z⟩
open PyProof.Rows in
theorem ix_dict (hu:X.A.units + 1 < cLine):IxR X (fun x y H Q=>∃ a v,x=.ref a∧DGet H a y (some v)∧Q v H):=by
  intro value slice pins s σ H x y v u Q I rx ry h hs
  obtain ⟨a,z,rfl,g,q⟩:=h
  cases rx
  have hT:=dict_typeIs I g
  unfold subscriptTail
  refine wpAny_bind ?_
  rw [getitemInPython_of_ne hT.not_modules]
  refine wpAny_bind (wpAny_specialOf hT PySem.F.slot_dict_getitem.lookup ?_)
  have fin:wpAny (model X.prog X.w) X.A (subscripted slice false (.ref a) u) (fun r s₃=>wpAny (model X.prog X.w) X.A (letTemporaryGo value (.ref a) r >>= fun _=>pure r) (EP X pins σ Q) X.xe s₃) X.xe s:=by
    rw [hs]
    exact wpAny_operating (wpAny_mono (d_getItem hu I g ry fun w' s3 I3 rw'=>(⟨z,H,I3,rw',q⟩:EP X pins σ Q w' s3)) (fun r s₃ h₃=>wpAny_bind (wpAny_letTemporaryGo (wpAny_pure h₃))) fun _ _ x=>x)
  first
    | exact wpAny_pure (wpAny_bind fin)
    | exact wpAny_bind (wpAny_pure (wpAny_bind fin))
    | exact wpAny_bind fin
abbrev rSubD (K:Frag):R2:=fun x y H Q=>rIx K x y H Q∨(∃ a v,x=.ref a∧DGet H a y (some v)∧Q v H)
theorem ix_all (hu:X.A.units + 1 < cLine):IxR X (rSubD X.K):=ix_seq.or (ix_dict hu)
theorem atI_pair {K:Frag} {G:Hp} {vs:List V} {ds:List D} {i:Int} {d:D} (r:RDs K G vs ds) (h:atI ds i=some d):∃ v,atI vs i=some v∧RD K G v d:=by
  unfold atI at h ⊢
  rw [r.length]
  cases e:ixN ds.length i with
  | none=>rw [e] at h; cases h
  | some j =>
    rw [e] at h
    exact r.get h
theorem opd_sub2 {K:Frag}:OpD K (rSubD K) dSub2:=by
  intro x y dx dy d G H Q e rx ry hg k
  unfold dSub2 at hg
  split at hg
  · rename_i ds i
    cases ry.int
    obtain ⟨a,vs,rfl,s,l,rs⟩:=rx.tup.tup_inv
    cases hh:atI ds i with
    | none=>rw [hh] at hg; cases hg
    | some d' =>
      rw [hh] at hg; cases hg
      obtain ⟨v,hv,rd⟩:=atI_pair rs hh
      exact .inl (.inr (.inl ⟨a,vs,_,v,rfl,rfl,(s.same e).sq,hv,k _ G H (.refl e) rd⟩))
  · rename_i ds i
    cases ry.int
    obtain ⟨a,vs,rfl,s,l,rs⟩:=rx.lst e
    cases hh:atI ds i with
    | none=>rw [hh] at hg; cases hg
    | some d' =>
      rw [hh] at hg; cases hg
      obtain ⟨v,hv,rd⟩:=atI_pair rs hh
      exact .inl (.inl ⟨a,vs,_,v,rfl,rfl,.inl (.inl s),hv,k _ G H (.refl e) rd⟩)
  · rename_i ds i
    cases ry.int
    obtain ⟨a,vs,rfl,s,l,rs⟩:=rx.arr e
    cases hh:atI ds i with
    | none=>rw [hh] at hg; cases hg
    | some d' =>
      rw [hh] at hg; cases hg
      obtain ⟨v,hv,rd⟩:=atI_pair rs hh
      exact .inl (.inl ⟨a,vs,_,v,rfl,rfl,s,hv,k _ G H (.refl e) rd⟩)
  · rename_i z i
    cases ry.int
    obtain ⟨rfl,ok,l⟩:=rx.str
    cases hh:atI z.cps.toList i with
    | none=>rw [hh] at hg; cases hg
    | some c =>
      rw [hh] at hg; cases hg
      refine .inl (.inr (.inr ⟨z,i,c,rfl,rfl,l,hh,k _ G H (.refl e) (.str _ ?_ ?_)⟩))
      · rw [strOk_list] at ok ⊢
        intro c' m
        obtain ⟨j,_,hj,_⟩:=atI_get hh
        have:c'=c:=by simpa using m
        subst this
        exact ok _ (List.mem_of_getElem? hj)
      · show 1≤sizeLine
        rw [sizeLine_eq]; decide
  · rename_i t ks ds
    cases hk:keyOf t dy with
    | none=>rw [hk] at hg; cases hg
    | some q =>
      rw [hk] at hg
      obtain ⟨a,o,rfl,g,lo⟩:=dget_of e rx ry hk
      cases hl:lookK ks ds q with
      | none =>
        have:R.of ((some q).bind fun k=>lookK ks ds k)=R.stuck:=by rw [Option.bind_some,hl]; rfl
        rw [this] at hg; cases hg
      | some d' =>
        have:R.of ((some q).bind fun k=>lookK ks ds k)=R.ok d':=by rw [Option.bind_some,hl]; rfl
        rw [this] at hg; cases hg
        rw [hl] at lo
        obtain ⟨v,rfl,rd⟩:=lo
        exact .inr ⟨a,v,rfl,g,k _ G H (.refl e) rd⟩
  · cases hg
theorem dSub2_noexc (x y:D) (c:Str):dSub2 x y≠.exc c:=by
  unfold dSub2
  split <;> first | exact of_noexc _ _ | exact fun z=>nomatch z
theorem ev_sub (hu:X.A.units + 1 < cLine) (hs:PlainIx b) (ha:EB X B W Γ a fa) (hb:EB X B W Γ b fb):EV X B W Γ (.Subscript a b pos) (eBin dSub2 fa fb) :=
  PE.imp (pe_ix (ix_all hu) ha hb hs) (two opd_sub2 dSub2_noexc)
def rSlP (K:Frag):V→Option Int→Option Int→Hp→VK→Prop:=fun x lo hi H Q=>∃ a xs,x=.ref a∧SqT K H a xs ∧
  (HT.sIx xs.length 0 lo=0∧HT.sIx xs.length xs.length hi=xs.length→Q (.ref a) H)∧(¬ (HT.sIx xs.length 0 lo=0∧HT.sIx xs.length xs.length hi=xs.length)→∀ p us,H p=none→Q (.ref p) (upd H p (pT us (cutV xs lo hi))))
theorem sl_tupP:SlR X (rSlP X.K):=by
  intro pins s σ H x v vl vu lo hi sl Q I rx hs pl pu h
  obtain ⟨a,xs,rfl,hx,q1,q2⟩:=h
  cases rx
  obtain ⟨its,r,ht,hz⟩:=I.tuple hx
  have hlen:its.toArray.size=xs.length:=by rw [List.size_toArray]; exact r.length.symm
  refine ⟨"tuple",_,PyProof.Rows.slot_tuple_getitem.lookup,ht.typeIs,?_⟩
  by_cases hw:HT.sIx xs.length 0 lo=0∧HT.sIx xs.length xs.length hi=xs.length
  · exact getItem_tuple_whole ht hs pl pu (by rw [hlen]; exact hw) ⟨.ref a,H,I,rfl,q1 hw⟩
  · refine HT.getItem_tuple_cut ht hs pl pu (by rw [hlen]; exact hw) ?_ (by rw [hlen]; exact hz)
    rw [hlen]
    refine ⟨.ref s.heap.objs.size,_,I.laid (t':=s.toks) (o:=pT (List.take (HT.sIx xs.length xs.length hi - HT.sIx xs.length 0 lo) (List.drop (HT.sIx xs.length 0 lo) its.toArray.toList)) (cutV xs lo hi)) (fun b ob q=>Heap.get?_push_of_some _ q) (Nat.le_refl _) ?_,rfl,q2 hw _ _ (I.hok.fresh (Nat.le_refl _))⟩
    exact pT_ok ⟨Heap.get?_push_size _ rfl,Nat.le_trans (cutV_length xs lo hi) hz,_,(r.drop (HT.sIx xs.length 0 lo)).take (HT.sIx xs.length xs.length hi - HT.sIx xs.length 0 lo),PyProof.Rows.IsTup.new _ _⟩
abbrev rSlD (K:Frag):V→Option Int→Option Int→Hp→VK→Prop:=fun x lo hi H Q=>rSlP K x lo hi H Q∨(rSlL K x lo hi H Q∨rSlS x lo hi H Q)
theorem sl_all:SlR X (rSlD X.K):=sl_tupP.or (sl_list.or sl_str)
theorem RDs.cut {K:Frag} {G:Hp} {vs:List V} {ds:List D} (r:RDs K G vs ds) (lo hi:Option Int):RDs K G (cutV vs lo hi) (cutD ds lo hi):=by
  unfold cutV cutD
  rw [r.length]
  exact (r.drop _).take _
theorem sl_of {K:Frag} {G H:Hp} {x:V} {d d':D} {lo hi:Option Int} {Q:VK} (e:Sub G H) (r:RB K G H x d) (h:dSl d lo hi=.ok d') (k:∀ v G' H',Grow K G H G' H'→RD K G' v d'→Q v H'):rSlD K x lo hi H Q:=by
  unfold dSl at h
  split at h
  · cases h
    have rt:=r.tup
    obtain ⟨a,vs,rfl,s,l,rs⟩:=rt.tup_inv
    refine .inl ⟨a,vs,rfl,(s.same e).sq,fun q=>?_,fun _ p us hp=>?_⟩
    · rename_i ds
      have:cutD ds lo hi=ds:=by
        unfold cutD
        rw [← rs.length,q.1,q.2,List.drop_zero,Nat.sub_zero,rs.length,List.take_length]
      rw [this] at k
      exact k _ G H (.refl e) rt
    · obtain ⟨g,rd⟩:=new_tup (K:=K) e hp (Nat.le_trans (cutV_length vs lo hi) l) (rs.cut lo hi)
      exact k _ _ _ g rd
  · cases h
    obtain ⟨a,vs,rfl,s,l,rs⟩:=r.lst e
    refine .inr (.inl ⟨a,vs,rfl,.inl (.inl s),fun p hp=>?_⟩)
    obtain ⟨g,rd⟩:=new_lst (K:=K) e hp (Nat.le_trans (cutV_length vs lo hi) l) (rs.cut lo hi)
    exact k _ _ _ g rd
  · cases h
    obtain ⟨rfl,ok,l⟩:=r.str
    rename_i z
    refine .inr (.inr ⟨z,rfl,l,k _ G H (.refl e) (.str _ ?_ ?_)⟩)
    · rw [strOk_list] at ok ⊢
      intro c m
      unfold cutS at m
      exact ok c (List.mem_of_mem_drop (List.mem_of_mem_take (by simpa using m)))
    · rw [length_str] at l ⊢
      unfold cutS
      simp only [List.length_take,List.length_drop]
      omega
  · cases h
theorem dSl_noexc (x:D) (lo hi:Option Int) (c:Str):dSl x lo hi≠.exc c:=by unfold dSl; split <;> exact fun z=>nomatch z
def ePart:Option (En→R D)→En→R (Option Int)
  | none,_=>.ok none
  | some f,s=>f s >>= fun d=>match d with | .int i=>.ok (some i) | _=>.stuck
def tPo (K:Frag) (B:Base) (W:WX) (Γ:Ow) (f:En→R (Option Int)):TO:=fun σ H Q=>∃ s G,Rel K B Γ s G σ H∧Done (f s) (fun o=>∀ G' H',Grow K G H G' H'→Q o H') (XW K W G H σ)
abbrev EP' (X:Cx) (B:Base) (W:WX) (Γ:Ow) (e:Option Expr) (f:En→R (Option Int)):Prop:=PO X e (tPo X.K B W Γ f)
theorem PO.imp {e:Option Expr} {t t':TO} (h:PO X e t) (k:∀ σ H Q,t' σ H Q→t σ H Q):PO X e t':=⟨fun pins s σ H Q I q=>h.run pins s σ H Q I (k σ H Q q)⟩
theorem ep_none:EP' X B W Γ none (ePart none):=PO.imp po_none fun σ H Q ⟨s,G,rl,k⟩=>k G H (.refl rl.GH)
theorem ep_some (ha:EV X B W Γ a fa):EP' X B W Γ (some a) (ePart (some fa)):=PO.imp (po_some ha) fun σ H Q ⟨s,G,rl,k⟩=>⟨s,G,rl,k.bind.imp (fun d _ k v G1 H1 g1 r=>by
  cases d with
  | int i=>cases r.int_inv; exact ⟨i,rfl,k G1 H1 g1⟩
  | _=>exact k.elim) fun _ z=>z⟩
def eSl (fa:En→R D) (lo hi:En→R (Option Int)):En→R D:=fun s=>fa s >>= fun x=>lo s >>= fun l=>hi s >>= fun h=>dSl x l h
theorem ev_sl {lo hi:Option Expr} {fl fh:En→R (Option Int)} {p2:Pos} (ha:EB X B W Γ a fa) (hl:EP' X B W Γ lo fl) (hh:EP' X B W Γ hi fh):EV X B W Γ (.Subscript a (.Slice lo hi none p2) pos) (eSl fa fl fh) :=
  PE.imp (pe_slice sl_all ha hl hh) fun σ H Q ⟨s,G,rl,k⟩=>⟨s,G,rl,k.bind.imp (fun x _ k v G1 H1 g1 r=>⟨s,G1,rl.grow g1,k.bind.imp (fun l _ k G2 H2 g2=>⟨s,G2,(rl.grow g1).grow g2,k.bind.imp (fun h _ k G3 H3 g3=>by
    obtain ⟨d,e,k⟩:=k.ok (dSl_noexc _ _ _)
    exact sl_of g3.gh ((r.grow g2).grow g3) e fun v G4 H4 g4 rd=>k v G4 H4 (((g1.trans g2).trans g3).trans g4) rd) fun _ z=>XW.grow (g1.trans g2) z⟩) fun _ z=>XW.grow g1 z⟩) fun _ z=>z⟩
variable {es:List Expr} {fs:En→R (List D)}
def eNil:En→R (List D):=fun _=>.ok []
def eCons (fa:En→R D) (fs:En→R (List D)):En→R (List D):=fun s=>fa s >>= fun x=>fs s >>= fun xs=>.ok (x :: xs)
theorem evs_nil:EVs X B W Γ [] eNil:=PA.imp pa_nil fun σ H Q ⟨s,G,rl,k⟩=>k [] G H (.refl rl.GH) .nil
def noStar:Expr→Bool
  | .Starred _ _=>false
  | _=>true
theorem noStar_ok (h:noStar a=true) (es:List Expr) (env:Env):starEach (a :: es) env=(false,eval a env) :: starEach es env:=by
  cases a <;> first | rfl | cases h
theorem evs_cons (hs:noStar a=true) (ha:EV X B W Γ a fa) (hr:EVs X B W Γ es fs):EVs X B W Γ (a :: es) (eCons fa fs) :=
  PA.imp (pa_cons ha hr (noStar_ok hs es X.env)) fun σ H Q ⟨s,G,rl,k⟩=>⟨s,G,rl,k.bind.imp (fun x _ k v G1 H1 g1 r=>⟨s,G1,rl.grow g1,k.bind.imp (fun xs _ k vs G2 H2 g2 rs =>
    k (v :: vs) G2 H2 (g1.trans g2) (.cons (r.mono g2.g) rs)) fun _ z=>XW.grow g1 z⟩) fun _ z=>z⟩
inductive RBs (K:Frag) (G H:Hp):List V→List D→Prop
  | nil:RBs K G H [] []
  | cons {v:V} {vs:List V} {d:D} {ds:List D}:RB K G H v d→RBs K G H vs ds→RBs K G H (v :: vs) (d :: ds)
theorem RBs.grow {K:Frag} {G H G' H':Hp} (g:Grow K G H G' H'):∀ {vs:List V} {ds:List D},RBs K G H vs ds→RBs K G' H' vs ds
  | _,_,.nil=>.nil
  | _,_,.cons a b=>.cons (a.grow g) (RBs.grow g b)
def tBs (K:Frag) (B:Base) (W:WX) (Γ:Ow) (f:En→R (List D)):TA:=fun σ H Q=>∃ s G,Rel K B Γ s G σ H∧Done (f s) (fun ds=>∀ vs G' H',Grow K G H G' H'→RBs K G' H' vs ds→Q vs H') (XW K W G H σ)
abbrev EBs (X:Cx) (B:Base) (W:WX) (Γ:Ow) (es:List Expr) (f:En→R (List D)):Prop:=PA X es (tBs X.K B W Γ f)
theorem ebs_nil:EBs X B W Γ [] eNil:=PA.imp pa_nil fun σ H Q ⟨s,G,rl,k⟩=>k [] G H (.refl rl.GH) .nil
theorem ebs_cons (hs:noStar a=true) (ha:EB X B W Γ a fa) (hr:EBs X B W Γ es fs):EBs X B W Γ (a :: es) (eCons fa fs) :=
  PA.imp (pa_cons ha hr (noStar_ok hs es X.env)) fun σ H Q ⟨s,G,rl,k⟩=>⟨s,G,rl,k.bind.imp (fun x _ k v G1 H1 g1 r=>⟨s,G1,rl.grow g1,k.bind.imp (fun xs _ k vs G2 H2 g2 rs =>
    k (v :: vs) G2 H2 (g1.trans g2) (.cons (r.grow g2) rs)) fun _ z=>XW.grow g1 z⟩) fun _ z=>z⟩
def eTup (fs:En→R (List D)):En→R D:=fun s=>fs s >>= fun ds=>if ds.length≤sizeLine then .ok (.tup ds) else .stuck
def eLst (fs:En→R (List D)):En→R D:=fun s=>fs s >>= fun ds=>if ds.length≤sizeLine then .ok (.lst ds) else .stuck
def tTupP (t:TA):TE:=fun σ H Q=>t σ H fun xs H1=>xs.length≤sizeLine∧∀ p us,H1 p=none→Q (.ref p) (upd H1 p (pT us xs))
theorem pe_tupP {t:TA} {x1:Nat} (h:PA X es t):PE X (.Tuple es x1 pos) (tTupP t):=by
  refine ⟨fun pins s σ H Q I hq=>?_⟩
  refine wpAny_Tuple_spliced (thn (h.run pos pins s σ H _ I hq) fun us s1 ⟨xs,H1,I1,r,z,q⟩=>⟨by rw [← r.length]; exact z,?_⟩)
  have hf:H1 s1.heap.objs.size=none:=I1.hok.fresh (Nat.le_refl _)
  refine ⟨.ref s1.heap.objs.size,upd H1 s1.heap.objs.size (pT us xs),I1.laid (t':=s1.toks) (fun b u e=>Heap.get?_push_of_some _ e) (Nat.le_refl _) ?_,rfl,q _ _ hf⟩
  exact pT_ok ⟨Heap.get?_push_size _ rfl,z,us,r,⟨_,Heap.get?_push_size _ rfl,rfl,_,rfl⟩⟩
theorem ev_tup {x1:Nat} (h:EVs X B W Γ es fs):EV X B W Γ (.Tuple es x1 pos) (eTup fs) :=
  PE.imp (pe_tupP h) fun σ H Q ⟨s,G,rl,k⟩=>⟨s,G,rl,k.bind.imp (fun ds _ k vs G1 H1 g1 rs=>by
    obtain ⟨hl,k⟩:=k.ite
    have hl2:vs.length≤sizeLine:=by rw [rs.length]; exact hl
    refine ⟨hl2,fun p us hp=>?_⟩
    obtain ⟨g,rd⟩:=new_tup (K:=X.K) g1.gh hp hl2 rs
    exact k _ _ _ (g1.trans g) rd) fun _ z=>z⟩
theorem new_own {K:Frag} {G H:Hp} {p:Addr} {vs:List V} {ds:List D} (e:Sub G H) (hp:H p=none) (l:vs.length≤sizeLine) (r:RDs K G vs ds):Grow K G H G (upd H p (.lst vs))∧New K H G (upd H p (.lst vs)) (.ref p) (.lst ds) (.own .fz):=by
  refine ⟨⟨.refl _,.of (Same.upd hp),e.trans (Same.upd hp),fun _ h _=>h⟩,[p],.ol upd_same l (OWs.fzs r),by simp,fun a m=>?_⟩
  have:a=p:=by simpa using m
  subst this
  exact ⟨hp,⟨_,upd_same,fun _ z=>nomatch z⟩,e.free hp⟩
theorem New.grow {K:Frag} {H0 H G H':Hp} {v:V} {d:D} {t:OT} (h:Kp K H0 H) (n:New K H G H' v d t):New K H0 G H' v d t:=by
  obtain ⟨fq,ow,nd,ok⟩:=n
  exact ⟨fq,ow,nd,fun a m=>⟨h.free (ok a m).1,(ok a m).2⟩⟩
theorem eo_lst (h:EVs X B W Γ es fs):EO X B W Γ (.own .fz) (.List es pos) (eLst fs) :=
  PE.imp (pe_lst h) fun σ H Q ⟨s,G,rl,k⟩=>⟨s,G,rl,k.bind.imp (fun ds _ k vs G1 H1 g1 rs=>by
    obtain ⟨hl,k⟩:=k.ite
    have hl2:vs.length≤sizeLine:=by rw [rs.length]; exact hl
    refine ⟨hl2,fun p hp=>?_⟩
    obtain ⟨g,n⟩:=new_own (K:=X.K) g1.gh hp hl2 rs
    exact k _ _ _ (g1.trans g) (n.grow g1.h)) fun _ z=>z⟩
end
end Hr
end
section
namespace Hr
open PySem PySem.Spec L2
section
variable {X:Cx} {B:Base} {W:WX} {Γ:Ow} {e a b c:Expr} {f fa fb fc:En→R D} {pos:Pos}
abbrev FT:=D→En→Option En
def tTg (K:Frag) (B:Base) (Γ:Ow) (vs:List Nat) (ft:FT):TG:=fun v σ H Q=>∃ s G d s',Rel K B Γ s G σ H∧RD K G v d∧ft d s=some s'∧∀ σ',Rel K B Γ s' G σ' H→wipe σ' vs=wipe σ vs→Q σ' H
def tTgs (K:Frag) (B:Base) (Γ:Ow) (vs:List Nat) (ft:List D→En→Option En):TGs:=fun xs σ H Q=>∃ s G ds s',Rel K B Γ s G σ H∧RDs K G xs ds∧ft ds s=some s'∧∀ σ',Rel K B Γ s' G σ' H→wipe σ' vs=wipe σ vs→Q σ' H
abbrev EG (X:Cx) (B:Base) (Γ:Ow) (vs:List Nat) (tg:Expr) (ft:FT):Prop:=PG X tg (tTg X.K B Γ vs ft)
abbrev EGs (X:Cx) (B:Base) (Γ:Ow) (vs:List Nat) (tgs:List Expr) (ft:List D→En→Option En):Prop:=PGs X tgs (tTgs X.K B Γ vs ft)
theorem PG.imp {tg:Expr} {t t':TG} (h:PG X tg t) (k:∀ v σ H Q,t' v σ H Q→t v σ H Q):PG X tg t':=by
  obtain ⟨h⟩:=h
  exact ⟨by intros; apply h <;> first | assumption | (apply k; assumption)⟩
theorem PGs.imp {tg:List Expr} {t t':TGs} (h:PGs X tg t) (k:∀ v σ H Q,t' v σ H Q→t v σ H Q):PGs X tg t':=by
  obtain ⟨h⟩:=h
  exact ⟨by intros; apply h <;> first | assumption | (apply k; assumption)⟩
theorem wipe_set {i:Nat} {x:Option V}:∀ {vs:List Nat} (σ:St),i∈vs→wipe (σ.set i x) vs=wipe σ vs
  | [],_,h=>by cases h
  | v :: vs,σ,h=>by
    unfold wipe
    by_cases hv:i∈vs
    · rw [wipe_set σ hv]
    · have e : i = v := by
        rcases List.mem_cons.mp h with q | q
        · exact q
        · exact absurd q hv
      subst e
      have:∀ ws:List Nat,i∉ws→wipe (σ.set i x) ws=(wipe σ ws).set i x:=by
        intro ws
        induction ws with
        | nil=>intro _; rfl
        | cons w ws ih =>
          intro hn
          unfold wipe
          rw [ih fun q=>hn (List.mem_cons_of_mem _ q),List.set_comm]
          intro q
          exact hn (by rw [q]; exact List.mem_cons_self ..)
      rw [this vs hv,List.set_set]
theorem wipe_len (σ:St) (vs:List Nat):(wipe σ vs).length=σ.length:=wipe_length σ vs
def ftName (i:Nat):FT:=fun d s=>if i < s.length then some (s.set i (some d)) else none
theorem eg_name {i:Nat} {x:Str} {vs:List Nat} (hN:X.N.Nodup) (hi:X.N[i]?=some x) (hx:Loc X.env.scope x) (hf:X.fn x=true∨X.env.scope.names.lookup x=some .local) (ho:oty Γ i=.fz) (hv:i∈vs) (hp:B.pr i=false):EG X B Γ vs (.Name x pos) (ftName i) :=
  PG.imp (pg_name hN hi hx hf) fun v σ H Q ⟨s,G,d,s',rl,rd,e,k⟩=>by
    unfold ftName at e
    split at e
    · rename_i hl
      cases e
      exact k _ ((Tmp.of_fz rl rd).set i ho (fun _ _=>rfl) (by rw [← rl.len]; exact hl) (.inl hp)) (wipe_set σ hv)
    · cases e
def ftNil:List D→En→Option En
  | [],s=>some s
  | _ :: _,_=>none
def ftCons (ft:FT) (fr:List D→En→Option En):List D→En→Option En
  | d :: ds,s=>(ft d s).bind fun s'=>fr ds s'
  | [],_=>none
theorem egs_nil {vs:List Nat}:EGs X B Γ vs [] ftNil:=PGs.imp pgs_nil fun xs σ H Q ⟨s,G,ds,s',rl,rd,e,k⟩=>by
  cases rd with
  | nil=>cases e; exact ⟨rfl,k σ rl rfl⟩
  | cons _ _=>cases e
theorem assignEach_cons {tg:Expr} (h:noStar tg=true) (tgs:List Expr) (env:Env):assignEach (tg :: tgs) env=(false,assign tg env) :: assignEach tgs env:=by
  cases tg <;> first | rfl | cases h
theorem assignEach_len {env:Env}:∀ {es:List Expr},es.all noStar=true→(assignEach es env).length=es.length∧(assignEach es env).findIdx? (·.1)=none
  | [],_=>⟨rfl,rfl⟩
  | e :: es,h=>by
    obtain ⟨h1,h2⟩:=Bool.and_eq_true_iff.mp (show (noStar e && es.all noStar)=true from h)
    obtain ⟨i1,i2⟩:=assignEach_len (env:=env) h2
    rw [assignEach_cons h1]
    exact ⟨congrArg Nat.succ i1,by rw [List.findIdx?_cons,i2]; rfl⟩
theorem egs_cons {tg:Expr} {tgs:List Expr} {vs:List Nat} {ft:FT} {fr:List D→En→Option En} (hs:noStar tg=true) (h1:EG X B Γ vs tg ft) (h2:EGs X B Γ vs tgs fr):EGs X B Γ vs (tg :: tgs) (ftCons ft fr) :=
  PGs.imp (pgs_cons h1 h2 (by rw [assignEach_cons hs]; rfl)) fun xs σ H Q ⟨s,G,ds,s',rl,rd,e,k⟩=>by
    cases rd with
    | nil=>cases e
    | @cons v vs' d ds' r1 rr =>
      have e:(ft d s).bind (fun s'=>fr ds' s')=some s':=e
      cases h1:ft d s with
      | none=>rw [h1] at e; cases e
      | some s1 =>
        rw [h1] at e
        exact ⟨v,vs',rfl,s,G,d,s1,rl,r1,h1,fun σ1 r1' w1=>⟨s1,G,ds',s',r1',rr,e,fun σ2 r2' w2=>k σ2 r2' (w2.trans w1)⟩⟩
def ftTup (fr:List D→En→Option En):FT:=fun d s=>match d with
  | .tup ds=>fr ds s
  | _=>none
theorem ftNil_len {ds:List D} {s s':En} (h:ftNil ds s=some s'):ds.length=0:=by
  cases ds with
  | nil=>rfl
  | cons _ _=>cases h
theorem eg_tup {es:List Expr} {k:Nat} {vs:List Nat} {fr:List D→En→Option En} (hc:X.calm=true) (hs:es.all noStar=true) (hl:∀ ds s s',fr ds s=some s'→ds.length=es.length) (h:EGs X B Γ vs es fr):EG X B Γ vs (.Tuple es k pos) (ftTup fr) :=
  PG.imp (pg_tup hc h (assignEach_len hs).1 (assignEach_len hs).2) fun v σ H Q ⟨s,G,d,s',rl,rd,e,k⟩=>by
    unfold ftTup at e
    split at e
    · obtain ⟨a,xs,rfl,sq,l,rs⟩:=rd.tup_inv
      exact ⟨a,xs,rfl,(sq.same rl.GH).sq,by rw [rs.length]; exact hl _ _ _ e,s,G,_,s',rl,rs,e,k⟩
    · cases e
theorem ftCons_len {ft:FT} {fr:List D→En→Option En} {n:Nat} (h:∀ ds s s',fr ds s=some s'→ds.length=n):∀ ds s s',ftCons ft fr ds s=some s'→ds.length=n + 1:=by
  intro ds s s' e
  cases ds with
  | nil=>cases e
  | cons d ds =>
    have e:(ft d s).bind (fun s'=>fr ds s')=some s':=e
    cases h1:ft d s with
    | none=>rw [h1] at e; cases e
    | some s1=>rw [h1] at e; exact congrArg Nat.succ (h _ _ _ e)
structure ItOk (K:Frag) (J:It) (ds:List D) (G0 Z:Hp):Prop where
  len:ds.length≤sizeLine
  stop:∀ G H,Same G0 G→Sub G H→Kp K Z H→J.stop ds.length H
  go:∀ i d G H,ds[i]?=some d→Same G0 G→Sub G H→Kp K Z H→J.go i H
  yld:∀ i d G H x H2,ds[i]?=some d→Same G0 G→Sub G H→Kp K Z H→J.yld i H x H2→∃ G2,Grow K G H G2 H2∧RD K G2 x d
def tIt (K:Frag) (B:Base) (W:WX) (Γ:Ow) (fi:En→R (List D)):TI:=fun σ H R=>∃ s G,Rel K B Γ s G σ H∧Done (fi s) (fun ds=>∀ J G' H',Grow K G H G' H'→ItOk K J ds G' H'→R J H') (XW K W G H σ)
def tIf' (K:Frag) (B:Base) (W:WX) (Γ:Ow) (fi:En→R (List D)):TI:=fun σ H R=>∃ s G,Rel K B Γ s G σ H∧Done (fi s) (fun ds=>∀ J G' H',Grow K G H G' H'→ItOk K J ds G' G'→R J H') (XW K W G H σ)
abbrev EI (X:Cx) (B:Base) (W:WX) (Γ:Ow) (tg it:Expr) (fi:En→R (List D)):Prop:=PI X tg it (tIt X.K B W Γ fi)
abbrev EIf (X:Cx) (B:Base) (W:WX) (Γ:Ow) (tg it:Expr) (fi:En→R (List D)):Prop:=PI X tg it (tIf' X.K B W Γ fi)
theorem PI.imp {tg it:Expr} {t t':TI} (h:PI X tg it t) (k:∀ σ H R,t' σ H R→t σ H R):PI X tg it t':=⟨fun pins s σ H R I q=>h.run pins s σ H R I (k σ H R q)⟩
theorem ItOk.wide {K:Frag} {J:It} {ds:List D} {G H:Hp} (e:Sub G H) (h:ItOk K J ds G G):ItOk K J ds G H :=
  ⟨h.len,fun G1 H1 a b c=>h.stop G1 H1 a b (.of (a.trans b.s)),fun i d G1 H1 q a b c=>h.go i d G1 H1 q a b (.of (a.trans b.s)),fun i d G1 H1 x H2 q a b c=>h.yld i d G1 H1 x H2 q a b (.of (a.trans b.s))⟩
theorem EIf.bo {tg it:Expr} {fi:En→R (List D)} (h:EIf X B W Γ tg it fi):EI X B W Γ tg it fi:=PI.imp h fun σ H R ⟨s,G,rl,k⟩=>⟨s,G,rl,k.imp (fun ds _ k J G' H' g o=>k J G' H' g (o.wide g.gh)) fun _ z=>z⟩
def dItems:D→R (List D)
  | .tup ds=>.ok ds
  | .lst ds=>.ok ds
  | .arr ds=>.ok ds
  | _=>.stuck
theorem PI.or {tg it:Expr} {t t':TI} (h:PI X tg it t) (h':PI X tg it t'):PI X tg it (fun σ H R=>t σ H R∨t' σ H R):=⟨fun pins s σ H R I q=>q.elim (h.run pins s σ H R I) (h'.run pins s σ H R I)⟩
def eItems (fa:En→R D):En→R (List D):=fun s=>fa s >>= dItems
theorem it_list {K:Frag} {a:Addr} {vs:List V} {ds:List D} {G Z:Hp} (l:vs.length≤sizeLine) (r:RDs K G vs ds) (hz:∀ H,Kp K Z H→SqL K H a vs):ItOk K (Itl K a) ds G Z :=
  ⟨by rw [← r.length]; exact l,fun G1 H1 _ _ h=>⟨vs,hz H1 h,Nat.le_of_eq r.length⟩,
    fun i d G1 H1 e _ _ h=>by
      obtain ⟨v,ev,_⟩:=r.get e
      exact ⟨vs,v,hz H1 h,ev⟩,
    fun i d G1 H1 x H2 e g gh h y=>by
      obtain ⟨rfl,y⟩:=y
      obtain ⟨v,ev,rd⟩:=r.get e
      have:=y vs (hz _ h)
      rw [ev] at this
      cases this
      exact ⟨G1,.refl gh,rd.mono g⟩⟩
theorem it_tup {K:Frag} {a:Addr} {vs:List V} {ds:List D} {G Z:Hp} (l:vs.length≤sizeLine) (r:RDs K G vs ds) (hz:∀ H,Kp K Z H→SqT K H a vs):ItOk K (Itt K a) ds G Z :=
  ⟨by rw [← r.length]; exact l,fun G1 H1 _ _ h=>⟨vs,hz H1 h,Nat.le_of_eq r.length⟩,
    fun i d G1 H1 e _ _ h=>by
      obtain ⟨v,ev,_⟩:=r.get e
      exact ⟨vs,v,hz H1 h,ev⟩,
    fun i d G1 H1 x H2 e g gh h y=>by
      obtain ⟨rfl,y⟩:=y
      obtain ⟨v,ev,rd⟩:=r.get e
      have:=y vs (hz _ h)
      rw [ev] at this
      cases this
      exact ⟨G1,.refl gh,rd.mono g⟩⟩
theorem dItems_cases {d:D} {P:List D→Prop} {E:Str→Prop} (k:Done (dItems d) P E):(∃ ds,d=.tup ds∧P ds)∨(∃ ds,d=.lst ds∧P ds)∨∃ ds,d=.arr ds∧P ds:=by
  cases d with
  | tup ds=>exact .inl ⟨ds,rfl,k⟩
  | lst ds=>exact .inr (.inl ⟨ds,rfl,k⟩)
  | arr ds=>exact .inr (.inr ⟨ds,rfl,k⟩)
  | _=>exact k.elim
theorem ei_items {tg:Expr} (ha:EB X B W Γ a fa):EI X B W Γ tg a (eItems fa):=PI.imp (PI.or (pi_list ha) (pi_tup ha)) fun σ H R ⟨s,G,rl,k⟩=>by
  have k:=k.bind
  cases q:fa s with
  | stuck=>rw [q] at k; exact k.elim
  | exc c=>rw [q] at k; exact .inl ⟨s,G,rl,by rw [q]; exact k⟩
  | ok d =>
    rw [q] at k
    rcases dItems_cases k with ⟨ds,rfl,k⟩ | ⟨ds,rfl,k⟩ | ⟨ds,rfl,k⟩
    · refine .inr ⟨s,G,rl,?_⟩
      rw [q]
      intro v G1 H1 g1 r
      obtain ⟨a,vs,rfl,sq,l,rs⟩:=r.tup.tup_inv
      have sq:=sq.same g1.gh.s
      exact ⟨a,rfl,⟨vs,sq.sq⟩,k _ G1 H1 g1 (it_tup l rs fun H' h=>(sq.kp h).sq)⟩
    · refine .inl ⟨s,G,rl,?_⟩
      rw [q]
      intro v G1 H1 g1 r
      obtain ⟨a,vs,rfl,sq,l,rs⟩:=r.lst g1.gh
      exact ⟨a,rfl,⟨vs,.inl (.inl sq)⟩,k _ G1 H1 g1 (it_list l rs fun H' h=>.inl (.inl (h _ _ sq rfl)))⟩
    · refine .inl ⟨s,G,rl,?_⟩
      rw [q]
      intro v G1 H1 g1 r
      obtain ⟨a,vs,rfl,sq,l,rs⟩:=r.arr g1.gh
      exact ⟨a,rfl,⟨vs,sq⟩,k _ G1 H1 g1 (it_list l rs fun H' h=>h.seq sq)⟩
theorem eif_items {tg:Expr} (ha:EV X B W Γ a fa):EIf X B W Γ tg a (eItems fa):=PI.imp (PI.or (pi_list ha) (pi_tup ha)) fun σ H R ⟨s,G,rl,k⟩=>by
  have k:=k.bind
  cases q:fa s with
  | stuck=>rw [q] at k; exact k.elim
  | exc c=>rw [q] at k; exact .inl ⟨s,G,rl,by rw [q]; exact k⟩
  | ok d =>
    rw [q] at k
    rcases dItems_cases k with ⟨ds,rfl,k⟩ | ⟨ds,rfl,k⟩ | ⟨ds,rfl,k⟩
    · refine .inr ⟨s,G,rl,?_⟩
      rw [q]
      intro v G1 H1 g1 r
      obtain ⟨a,vs,rfl,sq,l,rs⟩:=r.tup_inv
      exact ⟨a,rfl,⟨vs,(sq.same g1.gh.s).sq⟩,k _ G1 H1 g1 (it_tup l rs fun H' h=>(sq.kp h).sq)⟩
    · refine .inl ⟨s,G,rl,?_⟩
      rw [q]
      intro v G1 H1 g1 r
      cases r with
      | lst sq l rs=>exact ⟨_,rfl,⟨_,.inl (.inl (g1.gh _ _ sq))⟩,k _ G1 H1 g1 (it_list l rs fun H' h=>.inl (.inl (h _ _ sq rfl)))⟩
    · refine .inl ⟨s,G,rl,?_⟩
      rw [q]
      intro v G1 H1 g1 r
      cases r with
      | arr sq l rs=>exact ⟨_,rfl,⟨_,g1.gh.seq sq⟩,k _ G1 H1 g1 (it_list l rs fun H' h=>h.seq sq)⟩
def rngD (lo:Int) (n:Nat):List D:=(List.range n).map fun (i:Nat)=>.int (lo + (i:Int))
def eRng1 (fs:En→R (List D)):En→R (List D):=fun s=>fs s >>= fun ds=>match ds with
  | [.int j]=>if -(2 ^ 62)≤j∧j≤16777216 then .ok (rngD 0 j.toNat) else .stuck
  | _=>.stuck
def eRng2 (fs:En→R (List D)):En→R (List D):=fun s=>fs s >>= fun ds=>match ds with
  | [.int i,.int j]=>if (-(2 ^ 62)≤i∧i < 2 ^ 62∧ -(2 ^ 62)≤j∧j < 2 ^ 62)∧j - i≤16777216 then .ok (rngD i (j - i).toNat) else .stuck
  | _=>.stuck
theorem it_rng {K:Frag} {G Z:Hp} (lo:Int) (n:Nat) (h:n≤sizeLine):ItOk K (Itr lo n) (rngD lo n) G Z:=by
  have hl:(rngD lo n).length=n:=by unfold rngD; rw [List.length_map,List.length_range]
  refine ⟨by rw [hl]; exact h,fun _ _ _ _ _=>by show n≤_; rw [hl]; exact Nat.le_refl _,fun i d _ _ e _ _ _=>?_,fun i d G1 H1 x H2 e g gh _ y=>?_⟩
  · have:=(List.getElem?_eq_some_iff.mp e).1
    rw [hl] at this
    exact this
  · obtain ⟨rfl,rfl⟩:=y
    unfold rngD at e
    rw [List.getElem?_map] at e
    cases q:(List.range n)[i]? with
    | none=>rw [q] at e; cases e
    | some j =>
      rw [q] at e
      cases e
      have hj:j=i:=by
        obtain ⟨hi,e⟩:=List.getElem?_eq_some_iff.mp q
        rw [← e,List.getElem_range]
      subst hj
      exact ⟨G1,.refl gh,.int _⟩
theorem eif_rng1 {tg:Expr} {fs:En→R (List D)} {p:Pos} (hs:noStar a=true) (hg:Gl X "range") (hm:X.mg "range"=none) (ha:EVs X B W Γ [a] fs):EIf X B W Γ tg (.Call (.Name "range" p) [a] [] pos) (eRng1 fs) :=
  PI.imp (pi_range1 hg hm ha (noStar_ok hs _ _)) fun σ H R ⟨s,G,rl,k⟩=>⟨s,G,rl,k.bind.imp (fun ds _ k vs G1 H1 g1 rs=>by
    split at k
    · obtain ⟨hl,k⟩:=k.ite
      cases rs with
      | cons r rr =>
        cases rr
        cases r.int_inv
        exact ⟨_,rfl,hl.1,by omega,k _ G1 H1 g1 (it_rng 0 _ (by rw [sizeLine_eq]; omega))⟩
    · exact k.elim) fun _ z=>z⟩
def R.nox {α:Type}:R α→R α
  | .exc _=>.stuck
  | x=>x
def wipeE (s:En):List Nat→En
  | []=>s
  | v :: vs=>(wipeE s vs).set v none
theorem wipeE_len (s:En):∀ vs:List Nat,(wipeE s vs).length=s.length
  | []=>rfl
  | v :: vs=>by unfold wipeE; rw [List.length_set,wipeE_len s vs]
theorem wipeE_some {s:En} {i:Nat} {d:D}:∀ {vs:List Nat},(wipeE s vs)[i]?=some (some d)→s[i]?=some (some d)∧i∉vs
  | [],h=>⟨h,by simp⟩
  | v :: vs,h=>by
    unfold wipeE at h
    rcases getElem?_set_cases h with ⟨_,e⟩ | ⟨ne,e⟩
    · cases e
    · obtain ⟨h1,h2⟩:=wipeE_some e
      exact ⟨h1,by simp [ne,h2]⟩
theorem wipe_keep {σ:St} {i:Nat} {v:V}:∀ {vs:List Nat},i∉vs→σ[i]?=some (some v)→(wipe σ vs)[i]?=some (some v)
  | [],_,h=>h
  | w :: vs,hn,h=>by
    unfold wipe
    rw [List.getElem?_set_ne fun z=>hn (by rw [z]; exact List.mem_cons_self ..)]
    exact wipe_keep (fun z=>hn (List.mem_cons_of_mem _ z)) h
theorem wipe_out {σ:St} {i:Nat}:∀ {vs:List Nat},i∉vs→(wipe σ vs)[i]?=σ[i]?
  | [],_=>rfl
  | w :: vs,hn=>by
    unfold wipe
    rw [List.getElem?_set_ne fun z=>hn (by rw [z]; exact List.mem_cons_self ..)]
    exact wipe_out fun z=>hn (List.mem_cons_of_mem _ z)
theorem Rel.wiped {K:Frag} {s:En} {G H:Hp} {σ:St} (r:Rel K B Γ s G σ H) (vs:List Nat) (hw:∀ i∈vs,B.pr i=false):Rel K B Γ (wipeE s vs) G (wipe σ vs) H :=
  r.forget (by rw [wipeE_len,wipe_len]; exact r.len) (fun i d e=>by
    obtain ⟨h1,h2⟩:=wipeE_some e
    exact ⟨h1,fun v hv=>wipe_keep h2 hv⟩) fun i hi=>wipe_out fun m=>by rw [hw i m] at hi; cases hi
theorem wipe_wipe (σ:St):∀ vs:List Nat,wipe (wipe σ vs) vs=wipe σ vs:=by
  have key:∀ (ws:List Nat) (i:Nat),i∈ws→(wipe σ ws).set i none=wipe σ ws:=by
    intro ws
    induction ws with
    | nil=>intro i h; cases h
    | cons w ws ih =>
      intro i h
      unfold wipe
      by_cases e:w=i
      · subst e; rw [List.set_set]
      · have : i ∈ ws := by
          rcases List.mem_cons.mp h with q | q
          · exact absurd q.symm e
          · exact q
        rw [List.set_comm _ _ e,ih i this]
  intro vs
  have gen:∀ ws:List Nat,(∀ i∈ws,i∈vs)→wipe (wipe σ vs) ws=wipe σ vs:=by
    intro ws
    induction ws with
    | nil=>intro _; rfl
    | cons w ws ih =>
      intro h
      show (wipe (wipe σ vs) ws).set w none=_
      rw [ih fun i hi=>h i (List.mem_cons_of_mem _ hi)]
      exact key vs w (h w (List.mem_cons_self ..))
  exact gen vs fun _ h=>h
def lcA (turn:D→R (Option D)):List D→List D→R (List D)
  | [],acc=>.ok acc
  | d :: ds,acc=>turn d >>= fun o=>lcA turn ds (acc ++ o.toList)
def lcT (ft:FT) (gt:En→R Bool) (fe:En→R D) (s:En) (d:D):R (Option D):=R.of (ft d s) >>= fun s1=>(gt s1).nox >>= fun b=>if b then (fe s1).nox >>= fun y=>.ok (some y) else .ok none
def eLc (vs:List Nat) (ft:FT) (fi:En→R (List D)) (gt:En→R Bool) (fe:En→R D):En→R D:=fun s=>fi s >>= fun ds=>lcA (lcT ft gt fe (wipeE s vs)) ds [] >>= fun out=>.ok (.lst out)
abbrev W0:WX:=fun _ _ _ _=>False
abbrev ETs (X:Cx) (B:Base) (W:WX) (Γ:Ow) (es:List Expr) (f:En→R Bool):Prop:=PTs X es (tTe X.K B W Γ f)
theorem Done.nox {α:Type} {x:R α} {P:α→Prop} {E E':Str→Prop} (h:Done x.nox P E):Done x P E':=by
  cases x with
  | ok a=>exact h
  | exc c=>exact h.elim
  | stuck=>exact h
theorem lcT_done {ft:FT} {gt:En→R Bool} {fe:En→R D} {s:En} {d:D} {o:Option D} (h:lcT ft gt fe s d=.ok o):∃ s1,ft d s=some s1∧((∃ y,gt s1=.ok true∧fe s1=.ok y∧o=some y)∨(gt s1=.ok false∧o=none)):=by
  unfold lcT at h
  cases h1:ft d s with
  | none=>rw [h1] at h; cases h
  | some s1 =>
    rw [h1] at h
    refine ⟨s1,rfl,?_⟩
    have h:((gt s1).nox >>= fun b=>if b then (fe s1).nox >>= fun y=>R.ok (some y) else .ok none)=.ok o:=h
    cases h2:gt s1 with
    | exc c=>rw [h2] at h; cases h
    | stuck=>rw [h2] at h; cases h
    | ok b =>
      rw [h2] at h
      cases b with
      | false=>cases h; exact .inr ⟨rfl,rfl⟩
      | true =>
        have h:((fe s1).nox >>= fun y=>R.ok (some y))=.ok o:=h
        cases h3:fe s1 with
        | exc c=>rw [h3] at h; cases h
        | stuck=>rw [h3] at h; cases h
        | ok y=>rw [h3] at h; cases h; exact .inl ⟨y,rfl,rfl,rfl⟩
theorem lcT_noexc (ft:FT) (gt:En→R Bool) (fe:En→R D) (s:En) (d:D) (c:Str):lcT ft gt fe s d≠.exc c:=by
  unfold lcT
  cases ft d s with
  | none=>exact fun z=>nomatch z
  | some s1 =>
    show ((gt s1).nox >>= fun b=>if b then (fe s1).nox >>= fun y=>R.ok (some y) else .ok none)≠_
    cases gt s1 with
    | exc c=>exact fun z=>nomatch z
    | stuck=>exact fun z=>nomatch z
    | ok b =>
      cases b with
      | false=>exact fun z=>nomatch z
      | true =>
        show ((fe s1).nox >>= fun y=>R.ok (some y))≠_
        cases fe s1 <;> exact fun z=>nomatch z
theorem lcA_noexc {turn:D→R (Option D)} (h:∀ d c,turn d≠.exc c):∀ (ds acc:List D) (c:Str),lcA turn ds acc≠.exc c
  | [],_,_=>fun z=>nomatch z
  | d :: ds,acc,c=>by
    unfold lcA
    cases q:turn d with
    | ok o=>exact lcA_noexc h ds _ c
    | exc c'=>exact absurd q (h d c')
    | stuck=>exact fun z=>nomatch z
theorem drop_at {α:Type} {l:List α} {i:Nat} (h:i < l.length):∃ d,l[i]?=some d∧l.drop i=d :: l.drop (i + 1):=⟨l[i],by simp [h],List.drop_eq_getElem_cons h⟩
theorem lc_ok {σ : St} {s : En} {G1 H1 : Hp} {ds out : List D} {vs : List Nat} {ft : FT} {gt : En → R Bool} {fe : En → R D} {J : It} {D' : Addr} {Q : VK} (hw : ∀ i ∈ vs, B.pr i = false) (rl : Rel X.K B Γ s G1 σ H1) (it : ItOk X.K J ds G1 H1) (hD : H1 D' = none)
    (h:lcA (lcT ft gt fe (wipeE s vs)) ds []=.ok out) (k:∀ G H,Grow X.K G1 H1 G H→New X.K H1 G H (.ref D') (.lst out) (.own .fz)→Q (.ref D') H) :
    ∃ Wi:Nat→Nat→Hp→Prop,(∃ m,Wi 0 m (upd H1 D' (.lst [])))∧∀ i m H,Wi i m H →
      (J.stop i H∧Q (.ref D') H)∨(J.go i H∧∃ Nx:Hp→Prop,(∀ H',Nx H'→∃ m',m' < m∧Wi (i + 1) m' H')∧∀ x H',J.yld i H x H'→tTg X.K B Γ vs ft x (wipe σ vs) H' fun σ2 H2=>wipe σ2 vs=wipe σ vs∧tTe X.K B W0 Γ gt σ2 H2 fun b H3 =>
        if b=true then tV X.K B W0 Γ fe σ2 H3 fun y H4=>∃ acc,H4 D'=some (.lst acc)∧acc.length < sizeLine∧Nx (upd H4 D' (.lst (acc ++ [y]))) else Nx H3):=by
  let P:Nat→Hp→Prop:=fun i H=>i≤ds.length∧∃ G av ad,Grow X.K G1 H1 G H∧G D'=none∧H D'=some (.lst av)∧av.length≤i∧RDs X.K G av ad∧lcA (lcT ft gt fe (wipeE s vs)) (ds.drop i) ad=.ok out
  refine ⟨fun i m H=>m=ds.length - i∧P i H,⟨ds.length,by simp,Nat.zero_le _,G1,[],[],?_,rl.GH.free hD,upd_same,Nat.le_refl _,.nil,h⟩,?_⟩
  · exact ⟨.refl _,.of (Same.upd hD),rl.GH.trans (Same.upd hD),fun _ z _=>z⟩
  · rintro i m H ⟨rfl,hi,G,av,ad,g,gD,hHD,la,ra,hl⟩
    by_cases hlt:i < ds.length
    · obtain ⟨d,ed,dr⟩:=drop_at hlt
      rw [dr] at hl
      have hl:(lcT ft gt fe (wipeE s vs) d >>= fun o=>lcA (lcT ft gt fe (wipeE s vs)) (ds.drop (i + 1)) (ad ++ o.toList))=.ok out:=hl
      cases ht:lcT ft gt fe (wipeE s vs) d with
      | exc c=>exact absurd ht (lcT_noexc _ _ _ _ _ _)
      | stuck=>rw [ht] at hl; cases hl
      | ok o =>
      rw [ht] at hl
      have hl:lcA (lcT ft gt fe (wipeE s vs)) (ds.drop (i + 1)) (ad ++ o.toList)=.ok out:=hl
      obtain ⟨s1,e1,ht⟩:=lcT_done ht
      refine .inr ⟨it.go i d G H ed g.g g.gh g.h,P (i + 1),fun H' p=>⟨ds.length - (i + 1),by omega,rfl,p⟩,fun x H' y=>?_⟩
      obtain ⟨G2,g2,rd⟩:=it.yld i d G H x H' ed g.g g.gh g.h y
      have r2:Rel X.K B Γ (wipeE s vs) G2 (wipe σ vs) H':=((rl.grow g).grow g2).wiped vs hw
      refine ⟨wipeE s vs,G2,d,s1,r2,rd,e1,fun σ2 r3 w=>⟨w.trans (wipe_wipe σ vs),s1,G2,r3,?_⟩⟩
      have hD2:H' D'=some (.lst av):=g2.h _ _ hHD rfl
      have gD2:G2 D'=none:=g2.nw D' gD ⟨_,hHD,fun _ z=>nomatch z⟩
      rcases ht with ⟨yd,b1,b2,rfl⟩ | ⟨b1,rfl⟩
      · rw [b1]
        intro G3 H3 g3
        have hD3:H3 D'=some (.lst av):=g3.h _ _ hD2 rfl
        have gD3:G3 D'=none:=g3.nw D' gD2 ⟨_,hD2,fun _ z=>nomatch z⟩
        rw [if_pos rfl]
        refine ⟨s1,G3,r3.grow g3,?_⟩
        rw [b2]
        intro y G4 H4 g4 ry
        have hD4:H4 D'=some (.lst av):=g4.h _ _ hD3 rfl
        have gD4:G4 D'=none:=g4.nw D' gD3 ⟨_,hD3,fun _ z=>nomatch z⟩
        have hsz:=it.len
        have gg:Grow X.K G1 H1 G4 H4:=((g.trans g2).trans g3).trans g4
        refine ⟨av,hD4,by omega,hlt,G4,av ++ [y],ad ++ [yd],⟨gg.g,?_,?_,gg.nw⟩,gD4,upd_same,by rw [List.length_append,List.length_singleton]; omega,(ra.mono ((g2.trans g3).trans g4).g).append (.cons ry .nil),hl⟩
        · exact gg.h.set hD (pl_of hD4 rfl)
        · exact gg.gh.set gD4
      · rw [b1]
        intro G3 H3 g3
        rw [if_neg Bool.false_ne_true]
        rw [Option.toList_none,List.append_nil] at hl
        exact ⟨hlt,G3,av,ad,(g.trans g2).trans g3,g3.nw D' gD2 ⟨_,hD2,fun _ z=>nomatch z⟩,g3.h _ _ hD2 rfl,by omega,ra.mono (g2.trans g3).g,hl⟩
    · have e:i=ds.length:=by omega
      subst e
      rw [List.drop_length] at hl
      cases hl
      refine .inl ⟨it.stop G H g.g g.gh g.h,k G H g ⟨[D'],.ol hHD ?_ (OWs.fzs ra),by simp,fun a m=>?_⟩⟩
      · have:=it.len; omega
      · have:a=D':=by simpa using m
        subst this
        exact ⟨hD,⟨_,hHD,fun _ z=>nomatch z⟩,gD⟩
theorem lc_read {σ : St} {H : Hp} {Q : VK} {vs : List Nat} {ft : FT} {fi : En → R (List D)} {gt : En → R Bool} {fe : En → R D} (hw : ∀ i ∈ vs, B.pr i = false) (k : tOw X.K B W Γ (.own .fz) (eLc vs ft fi gt fe) σ H Q) :
    tLc (tIt X.K B W Γ fi) (tTg X.K B Γ vs ft) (tTe X.K B W0 Γ gt) (tV X.K B W0 Γ fe) vs σ H Q:=by
  obtain ⟨s,G,rl,k⟩:=k
  refine ⟨s,G,rl,k.bind.imp (fun ds _ k J G1 H1 g1 it D' hD=>?_) fun _ z=>z⟩
  obtain ⟨out,e,k⟩:=k.bind.ok (lcA_noexc (lcT_noexc _ _ _ _) _ _)
  exact lc_ok hw (rl.grow g1) it hD e fun G2 H2 g2 n=>k _ G2 H2 (g1.trans g2) (n.grow g1.h)
def notSet:Expr→Bool
  | .Set _ _ _=>false
  | _=>true
theorem folded_ok {it:Expr} (h:notSet it=true) (env:Env) (x:Value):foldedSetIterable it env x=pure x:=by
  cases it <;> first | rfl | cases h
theorem eo_lc {elt tg it : Expr} {ifs : List Expr} {scope : Scope} {own : List (Str × Nat)} {vs : List Nat} {ft : FT} {fi : En → R (List D)} {gt : En → R Bool} {fe : En → R D} (hc : X.calm = true) (hN : X.N.Nodup) (hv : own.map (·.2) = vs) (hst : notSet it = true) (hw : ∀ i ∈ vs, B.pr i = false)
    (hi:EI X B W Γ tg it fi) (ok:BlkOk X.N X.env.scope scope own)
    (hg:∀ (s:Shared) (H:Hp) (C:Addr) (cl:List (Str×Addr)) (fp:List Addr),EG (X.blk s H scope (compEnvC scope cl C X.env) fp) B Γ vs tg ft)
    (ht:∀ (s:Shared) (H:Hp) (C:Addr) (cl:List (Str×Addr)) (fp:List Addr),ETs (X.blk s H scope (compEnvC scope cl C X.env) fp) B W0 Γ ifs gt)
    (he:∀ (s:Shared) (H:Hp) (C:Addr) (cl:List (Str×Addr)) (fp:List Addr),EV (X.blk s H scope (compEnvC scope cl C X.env) fp) B W0 Γ elt fe) :
    EO X B W Γ (.own .fz) (.ListComp elt [⟨tg,it,ifs,0⟩] scope pos) (eLc vs ft fi gt fe):=by
  subst hv
  exact PE.imp (pe_lc hc hN hi ok hg ht he (folded_ok hst X.env)) fun σ H Q k=>lc_read hw k
def eYes:En→R Bool:=fun _=>.ok true
theorem ets_nil:ETs X B W Γ [] eYes:=⟨fun pins s σ H Q I ⟨s',G,rl,k⟩=>pts_nil.run pins s σ H Q I (k G H (.refl rl.GH))⟩
theorem ets_one {g:En→R Bool} (h:ET X B W Γ a g):ETs X B W Γ [a] g:=pts_one h
end
end Hr
end
section
namespace Hr
open PySem PySem.Spec L2
inductive Out where
  | nx (s:En) | rt (d:D) | bk (s:En) | ct (s:En) | ex (c:Str) (s:En) | stuck | rm (d:D) (s:En)
structure OC where
  l:Ow:=[]
  x:Ow:=[]
  t:OT:=.fz
  m:Ow:=[]
def Fin (K:Frag) (B:Base) (W:WX) (Γn:Ow) (o:OC) (G:Hp) (Dn:Ends):Out→Prop
  | .nx s=>∀ σ G' H',Same G G'→Rel K B Γn s G' σ H'→Dn.nx σ H'
  | .bk s=>∀ σ G' H',Same G G'→Rel K B o.l s G' σ H'→Dn.bk σ H'
  | .ct s=>∀ σ G' H',Same G G'→Rel K B o.l s G' σ H'→Dn.ct σ H'
  | .rt d=>∀ v G' H',Grow K B.G0 B.H0 G' H'→New K B.H0 G' H' v d o.t→Dn.rt v H'
  | .ex c s=>∀ σ G' H',Same G G'→Rel K B o.x s G' σ H'→W (clsV K c) none σ H'
  | .stuck=>False
  | .rm d s=>∀ v σ G' H',Same G G'→Tmp K B o.m s G' σ H' v d o.t→Dn.rt v H'
def tS (K:Frag) (B:Base) (W:WX) (Γ Γn:Ow) (o:OC) (f:En→Out):TS:=fun Dn σ H=>∃ s G,Rel K B Γ s G σ H∧Fin K B W Γn o G Dn (f s)
theorem Fin.mono {K:Frag} {B:Base} {W:WX} {Γn:Ow} {o:OC} {G G1:Hp} {Dn:Ends} (e:Same G G1) {r:Out} (h:Fin K B W Γn o G Dn r):Fin K B W Γn o G1 Dn r:=by
  cases r with
  | nx s=>exact fun σ G' H' g r=>h σ G' H' (e.trans g) r
  | bk s=>exact fun σ G' H' g r=>h σ G' H' (e.trans g) r
  | ct s=>exact fun σ G' H' g r=>h σ G' H' (e.trans g) r
  | rt d=>exact h
  | ex c s=>exact fun σ G' H' g r=>h σ G' H' (e.trans g) r
  | stuck=>exact h
  | rm d s=>exact fun v σ G' H' g r=>h v σ G' H' (e.trans g) r
def leO (Γ Γ':Ow):Prop:=∀ i,oty Γ' i=oty Γ i∨oty Γ' i=.fz
theorem oty_none {Γ:Ow} {i:Nat} (h:i∉Γ.map (·.1)):oty Γ i=.fz:=by
  unfold oty
  have:Γ.lookup i=none:=by
    rw [List.lookup_eq_none_iff]
    intro p hp
    exact bne_iff_ne.mpr fun z=>h (List.mem_map.mpr ⟨p,hp,z.symm⟩)
  rw [this]; rfl
def leB (Γ Γ':Ow):Bool:=(Γ'.map (·.1)).all fun i=>decide (oty Γ' i=oty Γ i) || decide (oty Γ' i=.fz)
theorem leB_ok {Γ Γ':Ow} (h:leB Γ Γ'=true):leO Γ Γ':=fun i=>by
  by_cases m:i∈Γ'.map (·.1)
  · have:=List.all_eq_true.mp h i m
    simpa [Bool.or_eq_true,decide_eq_true_eq] using this
  · exact .inr (oty_none m)
theorem leO.refl (Γ:Ow):leO Γ Γ:=fun _=>.inl rfl
theorem Rel.weaken {K:Frag} {B:Base} {Γ Γ':Ow} {s:En} {G:Hp} {σ:St} {H:Hp} (r:Rel K B Γ s G σ H) (le:leO Γ Γ'):∃ G',Same G G'∧Rel K B Γ' s G' σ H:=by
  have step:∀ n,∃ G' Γ1,Same G G'∧Rel K B Γ1 s G' σ H∧∀ i,oty Γ1 i=if i < n then oty Γ' i else oty Γ i:=by
    intro n
    induction n with
    | zero=>exact ⟨G,Γ,.refl _,r,fun i=>by rw [if_neg (Nat.not_lt_zero _)]⟩
    | succ n ih =>
      obtain ⟨G1,Γ1,g,r1,h1⟩:=ih
      by_cases e:oty Γ' n=oty Γ1 n
      · refine ⟨G1,Γ1,g,r1,fun i=>?_⟩
        rw [h1 i]
        by_cases a:i < n
        · rw [if_pos a,if_pos (by omega)]
        · rw [if_neg a]
          by_cases b:i < n + 1
          · have:i=n:=by omega
            subst this
            rw [if_pos b,e,h1,if_neg a]
          · rw [if_neg b]
      · have hz : oty Γ' n = .fz := by
          rcases le n with q | q
          · rw [h1 n,if_neg (Nat.lt_irrefl _)] at e
            exact absurd q e
          · exact q
        have ot:∀ j,oty ((n,OT.fz) :: Γ1) j=if j=n then OT.fz else oty Γ1 j:=by
          intro j
          unfold oty
          rw [List.lookup_cons]
          by_cases q:j=n
          · subst q; simp
          · rw [if_neg q,beq_eq_false_iff_ne.mpr q]
        obtain ⟨G2,g2,r2⟩:=r1.freeze (Γ':=(n,.fz) :: Γ1) n (by rw [ot,if_pos rfl]) (fun j hj=>by rw [ot,if_neg hj])
        refine ⟨G2,_,g.trans g2,r2,fun i=>?_⟩
        rw [ot]
        by_cases q:i=n
        · subst q
          rw [if_pos rfl,if_pos (Nat.lt_succ_self _),hz]
        · rw [if_neg q,h1 i]
          by_cases a:i < n
          · rw [if_pos a,if_pos (by omega)]
          · rw [if_neg a,if_neg (by omega)]
  obtain ⟨G',Γ1,g,r1,h1⟩:=step s.length
  refine ⟨G',g,r1.len,?_,r1.hH,r1.hG,r1.GH,r1.fr,r1.ob⟩
  obtain ⟨φ,sl,hf⟩:=r1.sl
  refine ⟨φ,⟨fun i d e=>?_,sl.nd,sl.dj,sl.ok⟩,hf⟩
  obtain ⟨v,e1,o⟩:=sl.at_ i d e
  rw [h1 i,if_pos (List.getElem?_eq_some_iff.mp e).1] at o
  exact ⟨v,e1,o⟩
section
variable {X:Cx} {B:Base} {W:WX} {Γ Γ1 Γn:Ow} {o:OC} {e a b c:Expr} {f g:En→Out} {fa fb fc:En→R D} {pos:Pos} {st:Stmt} {sts:List Stmt}
abbrev SV (X:Cx) (B:Base) (W:WX) (Γ Γn:Ow) (o:OC) (st:Stmt) (f:En→Out):Prop:=PS X st (tS X.K B W Γ Γn o f)
abbrev SVs (X:Cx) (B:Base) (W:WX) (Γ Γn:Ow) (o:OC) (sts:List Stmt) (f:En→Out):Prop:=PSs X sts (tS X.K B W Γ Γn o f)
theorem PS.imp {t t':TS} (h:PS X st t) (k:∀ Dn σ H,t' Dn σ H→t Dn σ H):PS X st t':=⟨fun pins s σ H Dn I q=>h.run pins s σ H Dn I (k Dn σ H q)⟩
theorem PSs.imp {t t':TS} (h:PSs X sts t) (k:∀ Dn σ H,t' Dn σ H→t Dn σ H):PSs X sts t':=⟨fun pins s σ H Dn I q=>h.run pins s σ H Dn I (k Dn σ H q)⟩
def sSkip:En→Out:=fun s=>.nx s
def sSeq (f g:En→Out):En→Out:=fun s=>match f s with
  | .nx s'=>g s'
  | r=>r
theorem svs_nil (le:leO Γ Γn):SVs X B W Γ Γn o [] sSkip:=PSs.imp pss_nil fun Dn σ H ⟨s,G,rl,k⟩=>by
  obtain ⟨G',g,r⟩:=rl.weaken le
  exact k σ G' H g r
theorem svs_cons (h1:SV X B W Γ Γ1 o st f) (h2:SVs X B W Γ1 Γn o sts g):SVs X B W Γ Γn o (st :: sts) (sSeq f g) :=
  PSs.imp (pss_cons h1 h2) fun Dn σ H ⟨s,G,rl,k⟩=>by
    refine ⟨s,G,rl,?_⟩
    unfold sSeq at k
    cases q:f s with
    | nx s' =>
      rw [q] at k
      exact fun σ' G' H' g' r=>⟨s',G',r,k.mono g'⟩
    | bk s'=>rw [q] at k; exact k
    | ct s'=>rw [q] at k; exact k
    | rt d=>rw [q] at k; exact k
    | ex c s'=>rw [q] at k; exact k
    | stuck=>rw [q] at k; exact k
    | rm d s'=>rw [q] at k; exact k
theorem svs_pre (le:leO Γ Γ1) (h:SVs X B W Γ1 Γn o sts f):SVs X B W Γ Γn o sts f:=PSs.imp h fun Dn σ H ⟨s,G,rl,k⟩=>by
  obtain ⟨G',g,r⟩:=rl.weaken le
  exact ⟨s,G',r,k.mono g⟩
theorem sv_pass (le:leO Γ Γn):SV X B W Γ Γn o (.Pass pos) sSkip:=PS.imp ps_pass fun Dn σ H ⟨s,G,rl,k⟩=>by
  obtain ⟨G',g,r⟩:=rl.weaken le
  exact k σ G' H g r
def sBrk:En→Out:=fun s=>.bk s
def sCnt:En→Out:=fun s=>.ct s
theorem sv_brk (le:leO Γ o.l):SV X B W Γ Γn o (.Break pos) sBrk:=PS.imp ps_break fun Dn σ H ⟨s,G,rl,k⟩=>by
  obtain ⟨G',g,r⟩:=rl.weaken le
  exact k σ G' H g r
theorem sv_cnt (le:leO Γ o.l):SV X B W Γ Γn o (.Continue pos) sCnt:=PS.imp ps_continue fun Dn σ H ⟨s,G,rl,k⟩=>by
  obtain ⟨G',g,r⟩:=rl.weaken le
  exact k σ G' H g r
def R.go {α:Type} (x:R α) (s:En) (k:α→Out):Out:=match x with
  | .ok a=>k a
  | .exc c=>.ex c s
  | .stuck=>.stuck
theorem Fin.go {α:Type} {K:Frag} {G H:Hp} {Dn:Ends} {σ:St} {s:En} {x:R α} {k:α→Out} (rl:Rel K B Γ s G σ H) (le:leO Γ o.x) (h:Fin K B W Γn o G Dn (x.go s k)):Done x (fun a=>Fin K B W Γn o G Dn (k a)) (XW K W G H σ):=by
  cases x with
  | ok a=>exact h
  | exc c =>
    intro G' H' g
    obtain ⟨G2,g2,r2⟩:=(rl.grow g).weaken le
    exact h σ G2 H' (g.g.trans g2) r2
  | stuck=>exact h
def outO:Option En→Out
  | some s=>.nx s
  | none=>.stuck
def sAsg (ft:FT) (fa:En→R D):En→Out:=fun s=>(fa s).go s fun d=>outO (ft d s)
theorem asg_read {vs:List Nat} {ft:FT} (lx:leO Γ o.x):∀ Dn σ H,tS X.K B W Γ Γ o (sAsg ft fa) Dn σ H→tAsg (tV X.K B W Γ fa) (tTg X.K B Γ vs ft) Dn σ H:=fun Dn σ H ⟨s,G,rl,k⟩ =>
  ⟨s,G,rl,(Fin.go rl lx k).imp (fun d _ k v G1 H1 g1 r=>by
    cases q:ft d s with
    | none=>rw [q] at k; exact k.elim
    | some s' =>
      rw [q] at k
      exact ⟨s,G1,d,s',rl.grow g1,r,q,fun σ' r' _=>k σ' G1 H1 g1.g r'⟩) fun _ z=>z⟩
theorem sv_asg {tg : Expr} {vs : List Nat} {ft : FT} (lx : leO Γ o.x) (hs : swapsWithSole [tg] e pos.line X.env = pure false) (hw : swappedStores [tg] e X.env = pure none) (hst : noStar tg = true)
    (he:EV X B W Γ e fa) (hg:EG X B Γ vs tg ft):SV X B W Γ Γ o (.Assign [tg] e pos) (sAsg ft fa) :=
  PS.imp (ps_asg he hg hs hw (by rw [assignEach_cons hst]; rfl)) (asg_read lx)
theorem own_read {i:Nat} {t:OT} (hp:B.pr i=false) (lx:leO Γ o.x) (ht:oty Γ1 i=t) (hΓ:∀ j,j≠i→oty Γ1 j=oty Γ j):∀ Dn σ H,tS X.K B W Γ Γ1 o (sAsg (ftName i) fa) Dn σ H→tAsg (tOw X.K B W Γ t fa) (gName i) Dn σ H:=fun Dn σ H ⟨s,G,rl,k⟩ =>
  ⟨s,G,rl,(Fin.go rl lx k).imp (fun d _ k v G1 H1 g1 n=>by
    unfold ftName at k
    by_cases hl:i < s.length
    · rw [if_pos hl] at k
      have r1:=rl.grow g1
      obtain ⟨φ,sl,hf⟩:=r1.sl
      obtain ⟨φ0,sl0,hf0⟩:=rl.sl
      obtain ⟨fq,ow,nd,ok⟩:=n
      have tm:Tmp X.K B Γ s G1 σ H1 v d t:=by
        refine ⟨r1,φ0,fq,⟨fun j d' q=>?_,sl0.nd,sl0.dj,fun j a m=>?_⟩,hf0,ow,nd,fun j a m q=>(sl0.ok j a m).1.ne (ok a q).1,fun a m=>⟨(ok a m).2.1,(ok a m).2.2,?_⟩⟩
        · obtain ⟨v',q1,o'⟩:=sl0.at_ j d' q
          exact ⟨v',q1,o'.kp g1.g g1.h⟩
        · obtain ⟨h1,h2⟩:=sl0.ok j a m
          exact ⟨h1.mono g1.h,g1.nw a h2 h1⟩
        · exact rl.hH.free (ok a m).1
      exact k _ G1 H1 g1.g (tm.set i ht hΓ (by rw [← rl.len]; exact hl) (.inl hp))
    · rw [if_neg hl] at k; exact k.elim) fun _ z=>z⟩
theorem sv_own {i : Nat} {x : Str} {p : Pos} {t : OT} (hp : B.pr i = false) (lx : leO Γ o.x) (ht : oty Γ1 i = t) (hΓ : ∀ j, j ≠ i → oty Γ1 j = oty Γ j) (hs : swapsWithSole [.Name x p] e pos.line X.env = pure false) (hw : swappedStores [.Name x p] e X.env = pure none)
    (hN:X.N.Nodup) (hi:X.N[i]?=some x) (hx:Loc X.env.scope x) (hf:X.fn x=true∨X.env.scope.names.lookup x=some .local) (he:EO X B W Γ t e fa):SV X B W Γ Γ1 o (.Assign [.Name x p] e pos) (sAsg (ftName i) fa) :=
  PS.imp (ps_asg he (pg_name hN hi hx hf) hs hw rfl) (own_read hp lx ht hΓ)
theorem sv_setLc {i : Nat} {y : Str} {py spos : Pos} {elt tg it : Expr} {ifs : List Expr} {scope : Scope} {own : List (Str × Nat)} {vs : List Nat} {ft : FT} {fi : En → R (List D)} {gt : En → R Bool} {fe : En → R D} {t : OT}
    (hp:B.pr i=false) (hw:∀ i∈vs,B.pr i=false) (lx:leO Γ o.x) (ht:oty Γ1 i=.own .fz) (hΓ:∀ j,j≠i→oty Γ1 j=oty Γ j)
    (hc:X.calm=true) (hN:X.N.Nodup) (hy:X.N[i]?=some y) (hyl:X.env.scope.names.lookup y=some .local) (hsw:swapsWith (.ListComp elt [⟨tg,it,ifs,0⟩] scope pos) (some (.Name y py)) spos.line X.env=pure true)
    (hv:own.map (·.2)=vs) (hst:notSet it=true) (hi:EI X B W Γ tg it fi) (ok:BlkOk X.N X.env.scope scope own)
    (hg:∀ (s:Shared) (H:Hp) (C:Addr) (cl:List (Str×Addr)) (fp:List Addr),EG (X.blk s H scope (compEnvC scope cl C X.env) fp) B Γ vs tg ft)
    (htt:∀ (s:Shared) (H:Hp) (C:Addr) (cl:List (Str×Addr)) (fp:List Addr),ETs (X.blk s H scope (compEnvC scope cl C X.env) fp) B W0 Γ ifs gt)
    (he:∀ (s:Shared) (H:Hp) (C:Addr) (cl:List (Str×Addr)) (fp:List Addr),EV (X.blk s H scope (compEnvC scope cl C X.env) fp) B W0 Γ elt fe) :
    SV X B W Γ Γ1 o (.Assign [.Name y py] (.ListComp elt [⟨tg,it,ifs,0⟩] scope pos) spos) (sAsg (ftName i) (eLc vs ft fi gt fe)):=by
  subst hv
  exact PS.imp (ps_setLc hc hN hy hyl hsw hi ok hg htt he (folded_ok hst X.env)) fun Dn σ H k=>lc_read hw (own_read hp lx ht hΓ Dn σ H k)
theorem rel_grow0 {K:Frag} {s:En} {G H:Hp} {σ:St} (r:Rel K B Γ s G σ H):Grow K B.G0 B.H0 G H:=⟨r.hG,r.hH,r.GH,r.fr⟩
def sRet (fa:En→R D):En→Out:=fun s=>(fa s).go s .rt
theorem New.fz {K:Frag} {H G H':Hp} {v:V} {d:D} (h:RD K G v d):New K H G H' v d .fz:=⟨[],.fz h,List.nodup_nil,fun _ m=>by cases m⟩
theorem sv_ret (lx:leO Γ o.x) (ht:o.t=.fz) (he:EV X B W Γ e fa):SV X B W Γ Γn o (.Return (some e) pos) (sRet fa) :=
  PS.imp (ps_ret he) fun Dn σ H ⟨s,G,rl,k⟩=>⟨s,G,rl,(Fin.go rl lx k).imp (fun d _ k v G1 H1 g1 r=>k v G1 H1 (rel_grow0 (rl.grow g1)) (by rw [ht]; exact .fz r)) fun _ z=>z⟩
def sIte (gc:En→R Bool) (f g:En→Out):En→Out:=fun s=>(gc s).go s fun b=>if b then f s else g s
theorem sv_ite {ca cb:List Stmt} {gc:En→R Bool} (lx:leO Γ o.x) (hc:ET X B W Γ c gc) (ha:SVs X B W Γ Γn o ca f) (hb:SVs X B W Γ Γn o cb g):SV X B W Γ Γn o (.If c ca cb pos) (sIte gc f g) :=
  PS.imp (ps_if hc ha hb) fun Dn σ H ⟨s,G,rl,k⟩=>⟨s,G,rl,(Fin.go rl lx k).imp (fun b _ k G1 H1 g1=>by
    cases b with
    | true=>rw [if_pos rfl] at k ⊢; exact ⟨s,G1,rl.grow g1,k.mono g1.g⟩
    | false=>rw [if_neg Bool.false_ne_true] at k ⊢; exact ⟨s,G1,rl.grow g1,k.mono g1.g⟩) fun _ z=>z⟩
def forD (ft:FT) (body:En→Out):List D→En→Out
  | [],s=>.nx s
  | d :: ds,s=>match ft d s with
    | none=>.stuck
    | some s1=>match body s1 with
      | .nx s'=>forD ft body ds s'
      | .ct s'=>forD ft body ds s'
      | .bk s'=>.nx s'
      | .rt d=>.rt d
      | .ex c s'=>.ex c s'
      | .stuck=>.stuck
      | .rm d s'=>.rm d s'
def sFor (ft:FT) (fi:En→R (List D)) (body:En→Out):En→Out:=fun s=>(fi s).go s fun ds=>forD ft body ds s
theorem sv_for {tg it : Expr} {body : List Stmt} {vs : List Nat} {ft : FT} {fi : En → R (List D)} (lx : leO Γ o.x) (hp : PassesOwn (model X.prog X.w) X.A X.env X.xe) (hc : X.calm = true) (hst : notSet it = true)
    (hi:EIf X B W Γ tg it fi) (hg:EG X B Γ vs tg ft) (hb:SVs X B W Γ Γ { o with l:=Γ } body f):SV X B W Γ Γ o (.For tg it body [] pos) (sFor ft fi f) :=
  PS.imp (ps_for hp hc hi hg hb (folded_ok hst X.env)) fun Dn σ H ⟨s,G,rl,k⟩=>⟨s,G,rl,(Fin.go rl lx k).imp (fun ds _ k J G1 H1 g1 it=>by
    refine ⟨fun i m σ' H'=>m=ds.length - i∧i≤ds.length∧∃ s' G',Same G1 G'∧Rel X.K B Γ s' G' σ' H'∧Fin X.K B W Γ o G' Dn (forD ft f (ds.drop i) s'),⟨ds.length,by simp,Nat.zero_le _,s,G1,.refl _,rl.grow g1,k.mono g1.g⟩,?_⟩
    rintro i m σ' H' ⟨rfl,hi,s',G',e1,r',k⟩
    by_cases hlt:i < ds.length
    · obtain ⟨d,ed,dr⟩:=drop_at hlt
      rw [dr] at k
      refine .inr ⟨it.go i d G' H' ed e1 r'.GH (.of (e1.trans r'.GH.s)),fun σ2 H2=>∃ s2 G2,Same G1 G2∧Rel X.K B Γ s2 G2 σ2 H2∧Fin X.K B W Γ o G2 Dn (forD ft f (ds.drop (i + 1)) s2),?_,fun x H2 y=>?_⟩
      · rintro σ2 H2 ⟨s2,G2,q⟩
        exact ⟨ds.length - (i + 1),by omega,rfl,hlt,s2,G2,q⟩
      · obtain ⟨G2,g2,rd⟩:=it.yld i d G' H' x H2 ed e1 r'.GH (.of (e1.trans r'.GH.s)) y
        unfold forD at k
        cases q:ft d s' with
        | none=>rw [q] at k; exact k.elim
        | some s1 =>
          rw [q] at k
          refine ⟨s',G2,d,s1,r'.grow g2,rd,q,fun σ2 r2 _=>⟨s1,G2,r2,?_⟩⟩
          have k:=k.mono g2.g
          dsimp only at k
          cases q2:f s1 with
          | nx s2=>rw [q2] at k; exact fun σ3 G3 H3 g3 r3=>⟨s2,G3,e1.trans (g2.g.trans g3),r3,k.mono g3⟩
          | ct s2=>rw [q2] at k; exact fun σ3 G3 H3 g3 r3=>⟨s2,G3,e1.trans (g2.g.trans g3),r3,k.mono g3⟩
          | bk s2=>rw [q2] at k; exact k
          | rt d2=>rw [q2] at k; exact k
          | ex c s2=>rw [q2] at k; exact k
          | stuck=>rw [q2] at k; exact k
          | rm d2 s2=>rw [q2] at k; exact k
    · have e:i=ds.length:=by omega
      subst e
      rw [List.drop_length] at k
      exact .inl ⟨it.stop G' H' e1 r'.GH (.of (e1.trans r'.GH.s)),k σ' G' H' (.refl _) r'⟩) fun _ z=>z⟩
end
end Hr
end
section
namespace Hr
open PySem PySem.Spec L2
def spD (K:Frag) (n:Nat) (t:OT) (φ:List D→R D):Sp:=fun vs H Q E=>∃ ds G,Sub G H∧TK K H∧RDs K G vs ds∧ds.length=n ∧
  Done (φ ds) (fun d=>∀ v G' H',Grow K G H G' H'→New K H G' H' v d t→Q v H') (fun c=>∀ G' H',Grow K G H G' H'→E (clsV K c) none H')
structure Fok (P:Program) (w:World) (K:Frag) (mg:Str→Option Value) (base:Heap) (x:Str) (n:Nat) (t:OT) (k:Nat) (φ:List D→R D):Prop where
  glo:mg x=some (.ref (He.ga K x))
  kp:PySem.W.keepIn K (.ref (He.ga K x))=true
  ok:∃ fd ps,Binds K fd ps []∧ps.length=n∧FnOk P w K mg base (L2.CX P w) k (He.ga K x) fd ps (spD K n t φ)
theorem Fok.mono {P:Program} {w:World} {K:Frag} {mg:Str→Option Value} {base:Heap} {x:Str} {n:Nat} {t:OT} {j k:Nat} {φ:List D→R D} (h:Fok P w K mg base x n t j φ) (l:j≤k):Fok P w K mg base x n t k φ:=by
  obtain ⟨fd,ps,b,e,F⟩:=h.ok
  exact ⟨h.glo,h.kp,fd,ps,b,e,F.mono l⟩
section
variable {X:Cx} {B:Base} {W:WX} {Γ Γ1 Γn:Ow} {o:OC} {e a b c:Expr} {f g:En→Out} {fa fb fc:En→R D} {pos:Pos} {st:Stmt} {sts:List Stmt} {es:List Expr} {fs:En→R (List D)}
def eCall (φ:List D→R D) (n:Nat) (fs:En→R (List D)):En→R D:=fun s=>fs s >>= fun ds=>if ds.length=n then φ ds else .stuck
theorem noStars_any {pos:Pos} {env:Env}:∀ {es:List Expr},es.all noStar=true→(backTo pos (starEach es env)).any (·.1)=false:=by
  have key:∀ {es:List Expr},es.all noStar=true→(starEach es env).all (fun x=> !x.1)=true:=by
    intro es
    induction es with
    | nil=>intro _; rfl
    | cons e es ih =>
      intro h
      obtain ⟨h1,h2⟩:=Bool.and_eq_true_iff.mp (show (noStar e && es.all noStar)=true from h)
      rw [noStar_ok h1]
      exact ih h2
  intro es h
  have h:=key h
  generalize starEach es env=l at h
  have:∀ l:List (Bool×Sem Value),l.all (fun x=> !x.1)=true→(backTo pos l).any (·.1)=false:=by
    intro l
    induction l with
    | nil=>intro _; rfl
    | cons p l ih =>
      intro h
      obtain ⟨h1,h2⟩:=Bool.and_eq_true_iff.mp (show ((!p.1) && l.all (fun x=> !x.1))=true from h)
      obtain ⟨b,m⟩:=p
      have hb:b=false:=by simpa using h1
      subst hb
      cases l with
      | nil=>rfl
      | cons q l=>exact ih h2
  exact this l h
theorem eo_call {x : Str} {n : Nat} {t : OT} {k : Nat} {φ : List D → R D} {p : Pos} (F : Fok X.prog X.w X.K X.mg X.base x n t k φ) (hr : Room k X.A) (hg : Gl X x) (tk : Takes X W) (hdb : (x == ("__debug__" : Str)) = false) (hs : (a :: es).all noStar = true) (ha : EVs X B W Γ (a :: es) fs) :
    EO X B W Γ t (.Call (.Name x p) (a :: es) [] pos) (eCall φ n fs):=by
  obtain ⟨fd,ps,hb,hl,F1⟩:=F.ok
  have h2:=(Bool.and_eq_true_iff.mp (show (noStar a && es.all noStar)=true from hs))
  refine PE.imp (pe_callS F1 hr hg F.glo F.kp hb (fun σ=>passAt tk σ) ha hdb (noStar_ok h2.1 _ _) (noStars_any h2.2)) fun σ H Q ⟨s,G,rl,k⟩=>⟨s,G,rl,k.bind.imp (fun ds _ k vs G1 H1 g1 rs=>?_) fun _ z=>z⟩
  obtain ⟨hn,k⟩:=k.ite
  exact ⟨ds,G1,g1.gh,(rl.hH.trans g1.h).tk,rs,hn,k.imp (fun d _ k v G2 H2 g2 n=>k v G2 H2 (g1.trans g2) (n.grow g1.h)) fun c z=>fun G2 H2 g2=>z G2 H2 (g1.trans g2)⟩
def eApp (g:List D→R D) (fs:En→R (List D)):En→R D:=fun s=>fs s >>= g
def CallD (K:Frag) (r:List V→Hp→VK→Prop) (g:List D→R D) (t:OT):Prop:=∀ (vs:List V) (ds:List D) (d:D) (G H:Hp) (Q:VK),Sub G H→RBs K G H vs ds→g ds=.ok d →
  (∀ v G' H',Grow K G H G' H'→New K H G' H' v d t→Q v H')→r vs H Q
theorem app_read {r:List V→Hp→VK→Prop} {g:List D→R D} {t:OT} (hr:CallD X.K r g t) (hx:∀ ds c,g ds≠.exc c):∀ σ H Q,tOw X.K B W Γ t (eApp g fs) σ H Q→tCB r (tBs X.K B W Γ fs) σ H Q:=fun σ H Q ⟨s,G,rl,k⟩ =>
  ⟨s,G,rl,k.bind.imp (fun ds _ k vs G1 H1 g1 rs=>by
    obtain ⟨d,e,k⟩:=k.ok (hx _)
    exact hr vs ds d G1 H1 Q g1.gh rs e fun v G2 H2 g2 n=>k v G2 H2 (g1.trans g2) (n.grow g1.h)) fun _ z=>z⟩
theorem eo_app {x : Str} {id : String} {r : List V → Hp → VK → Prop} {g : List D → R D} {t : OT} {p : Pos} (hc : CallR X (.builtin id) r) (hr : CallD X.K r g t) (hx : ∀ ds c, g ds ≠ .exc c) (hg : Gl X x) (hm : X.mg x = none) (hv : bootBuiltins x = some (.builtin id))
    (hn:x≠ "__name__") (hdb:(x == ("__debug__":Str))=false) (hs:(a :: es).all noStar=true) (ha:EBs X B W Γ (a :: es) fs):EO X B W Γ t (.Call (.Name x p) (a :: es) [] pos) (eApp g fs):=by
  have h2:=(Bool.and_eq_true_iff.mp (show (noStar a && es.all noStar)=true from hs))
  exact PE.imp (pe_callB hc hg hm hv ha hn hdb (noStar_ok h2.1 _ _) (noStars_any h2.2)) (app_read hr hx)
theorem eo_ty {x : Str} {T : String} {r : List V → Hp → VK → Prop} {g : List D → R D} {t : OT} {p : Pos} (hc : CallR X (.type T) r) (hr : CallD X.K r g t) (hx : ∀ ds c, g ds ≠ .exc c) (hg : Gl X x) (hm : X.mg x = none) (hv : bootBuiltins x = some (.type T))
    (hn:x≠ "__name__") (hdb:(x == ("__debug__":Str))=false) (hs:(a :: es).all noStar=true) (ha:EBs X B W Γ (a :: es) fs):EO X B W Γ t (.Call (.Name x p) (a :: es) [] pos) (eApp g fs):=by
  have h2:=(Bool.and_eq_true_iff.mp (show (noStar a && es.all noStar)=true from hs))
  exact PE.imp (pe_callTy hc hg hm hv ha hn hdb (noStar_ok h2.1 _ _) (noStars_any h2.2)) (app_read hr hx)
def on1 (g:D→R D):List D→R D
  | [d]=>g d
  | _=>.stuck
theorem on1_noexc {g:D→R D} (h:∀ d c,g d≠.exc c) (ds:List D) (c:Str):on1 g ds≠.exc c:=by
  unfold on1
  split
  · exact h _ _
  · exact fun z=>nomatch z
theorem calld1 {K:Frag} {r:List V→Hp→VK→Prop} {g:D→R D} {t:OT} (h:∀ (x:V) (dx d:D) (G H:Hp) (Q:VK),Sub G H→RB K G H x dx→g dx=.ok d→(∀ v G' H',Grow K G H G' H'→New K H G' H' v d t→Q v H')→r [x] H Q):CallD K r (on1 g) t:=by
  intro vs ds d G H Q e rs hg k
  unfold on1 at hg
  split at hg
  · cases rs with
    | cons r1 rr =>
      cases rr
      exact h _ _ _ G H Q e r1 hg k
  · cases hg
theorem dLen_noexc (x:D) (c:Str):dLen x≠.exc c:=by unfold dLen; split <;> exact fun z=>nomatch z
theorem cd_len {K:Frag}:CallD K (fun xs H Q=>∃ x n,xs=[x]∧LenV K x H n∧Q (.int n) H) (on1 dLen) .fz:=calld1 fun x dx d G H Q e r hg k=>by
  unfold dLen at hg
  split at hg
  · cases hg
    obtain ⟨a,vs,rfl,s,l,rs⟩:=r.tup.tup_inv
    exact ⟨_,_,rfl,.inr ⟨vs,(s.same e).sq,rs.length.symm⟩,k _ G H (.refl e) (.fz (.int _))⟩
  · cases hg
    obtain ⟨a,vs,rfl,s,l,rs⟩:=r.lst e
    exact ⟨_,_,rfl,.inl ⟨vs,.inl (.inl s),rs.length.symm⟩,k _ G H (.refl e) (.fz (.int _))⟩
  · cases hg
    obtain ⟨a,vs,rfl,s,l,rs⟩:=r.arr e
    exact ⟨_,_,rfl,.inl ⟨vs,s,rs.length.symm⟩,k _ G H (.refl e) (.fz (.int _))⟩
  · cases hg
    obtain ⟨rfl,_,l⟩:=r.str
    exact ⟨_,_,rfl,⟨l,rfl⟩,k _ G H (.refl e) (.fz (.int _))⟩
  · cases hg
def dTuple:D→R D
  | .tup ds=>.ok (.tup ds)
  | .lst ds=>.ok (.tup ds)
  | .arr ds=>.ok (.tup ds)
  | _=>.stuck
def dList:D→R D
  | .tup ds=>.ok (.lst ds)
  | .lst ds=>.ok (.lst ds)
  | .arr ds=>.ok (.lst ds)
  | _=>.stuck
theorem dTuple_noexc (x:D) (c:Str):dTuple x≠.exc c:=by unfold dTuple; split <;> exact fun z=>nomatch z
theorem dList_noexc (x:D) (c:Str):dList x≠.exc c:=by unfold dList; split <;> exact fun z=>nomatch z
theorem call_tupleP {X:Cx}:CallR X (.type "tuple") (fun xs H Q=>∃ p ys,xs=[.ref p]∧((SqL X.K H p ys∧∀ l us,H l=none→Q (.ref l) (upd H l (pT us ys)))∨(SqT X.K H p ys∧Q (.ref p) H))):=by
  intro pins s σ H xs us Q I r h
  obtain ⟨p,ys,rfl,h⟩:=h
  obtain ⟨u,rfl,rx⟩:=vals1 r
  cases rx
  rcases h with ⟨hq,q⟩ | ⟨hq,q⟩
  · obtain ⟨its,r',pl,hz⟩:=I.list hq
    have hlen:=r'.length
    refine call_tuple_list pl.isList (fun h' kp=>?_) (by simp only [List.size_toArray] <;> omega)
    have I1:Inv X pins σ H { s with heap:=h' }:=I.kept (t':=s.toks) kp
    have I2:Inv X pins σ (upd H h'.objs.size (pT its ys)) { s with heap:=h'.push { cls:=.type "tuple",data:=.seq its.toArray } } :=
      I1.laid (t':=s.toks) (fun b o e=>Heap.get?_push_of_some _ e) (Nat.le_refl _) (show ObjOk X.prog X.w _ _ _ (pT its ys) from pT_ok ⟨Heap.get?_push_size _ rfl,hz,its,r',PyProof.Rows.IsTup.new _ _⟩)
    exact ⟨.ref h'.objs.size,_,I2,rfl,q _ _ (I1.hok.fresh (Nat.le_refl _))⟩
  · obtain ⟨its,r',pl,hz⟩:=I.tuple hq
    exact call_tuple_same pl ⟨.ref p,H,I,rfl,q⟩
theorem cd_tuple {K:Frag}:CallD K (fun xs H Q=>∃ p ys,xs=[.ref p]∧((SqL K H p ys∧∀ l us,H l=none→Q (.ref l) (upd H l (pT us ys)))∨(SqT K H p ys∧Q (.ref p) H))) (on1 dTuple) .fz:=calld1 fun x dx d G H Q e r hg k=>by
  unfold dTuple at hg
  split at hg
  · cases hg
    have rt:=r.tup
    obtain ⟨a,vs,rfl,s,l,rs⟩:=rt.tup_inv
    exact ⟨_,_,rfl,.inr ⟨(s.same e).sq,k _ G H (.refl e) (.fz rt)⟩⟩
  · cases hg
    obtain ⟨a,vs,rfl,s,l,rs⟩:=r.lst e
    refine ⟨_,_,rfl,.inl ⟨.inl (.inl s),fun p us hp=>?_⟩⟩
    obtain ⟨g,rd⟩:=new_tup (K:=K) e hp l rs
    exact k _ _ _ g (.fz rd)
  · cases hg
    obtain ⟨a,vs,rfl,s,l,rs⟩:=r.arr e
    refine ⟨_,_,rfl,.inl ⟨s,fun p us hp=>?_⟩⟩
    obtain ⟨g,rd⟩:=new_tup (K:=K) e hp l rs
    exact k _ _ _ g (.fz rd)
  · cases hg
theorem cd_list {K:Frag}:CallD K (fun xs H Q=>∃ p ys,xs=[.ref p]∧(SqL K H p ys∨SqT K H p ys)∧∀ l,H l=none→Q (.ref l) (upd H l (.lst ys))) (on1 dList) (.own .fz):=calld1 fun x dx d G H Q e r hg k=>by
  unfold dList at hg
  split at hg
  · cases hg
    obtain ⟨a,vs,rfl,s,l,rs⟩:=r.tup.tup_inv
    refine ⟨_,_,rfl,.inr (s.same e).sq,fun p hp=>?_⟩
    obtain ⟨g,n⟩:=new_own (K:=K) e hp l rs
    exact k _ _ _ g n
  · cases hg
    obtain ⟨a,vs,rfl,s,l,rs⟩:=r.lst e
    refine ⟨_,_,rfl,.inl (.inl (.inl s)),fun p hp=>?_⟩
    obtain ⟨g,n⟩:=new_own (K:=K) e hp l rs
    exact k _ _ _ g n
  · cases hg
    obtain ⟨a,vs,rfl,s,l,rs⟩:=r.arr e
    refine ⟨_,_,rfl,.inl s,fun p hp=>?_⟩
    obtain ⟨g,n⟩:=new_own (K:=K) e hp l rs
    exact k _ _ _ g n
  · cases hg
def boolsD:List D→Option (List Bool)
  | []=>some []
  | .bl b :: ds=>(boolsD ds).map fun bs=>b :: bs
  | _ :: _=>none
def intsD:List D→Option (List Int)
  | []=>some []
  | .int i :: ds=>(intsD ds).map fun is=>i :: is
  | _ :: _=>none
theorem boolsD_vals {K:Frag} {G:Hp}:∀ {vs:List V} {ds:List D} {bs:List Bool},RDs K G vs ds→boolsD ds=some bs→vs=bs.map V.bl
  | _,_,_,.nil,h=>by cases h; rfl
  | _,_,_,.cons (d:=.bl b) (ds:=ds) a r,h=>by
    have h:(boolsD ds).map (fun bs=>b :: bs)=some _:=h
    cases q:boolsD ds with
    | none=>rw [q] at h; cases h
    | some bs=>rw [q] at h; cases h; rw [a.bl_inv,boolsD_vals r q]; rfl
  | _,_,_,.cons (d:=.non) _ _,h=>by cases h
  | _,_,_,.cons (d:=.int _) _ _,h=>by cases h
  | _,_,_,.cons (d:=.str _) _ _,h=>by cases h
  | _,_,_,.cons (d:=.tup _) _ _,h=>by cases h
  | _,_,_,.cons (d:=.lst _) _ _,h=>by cases h
  | _,_,_,.cons (d:=.dic _ _ _) _ _,h=>by cases h
  | _,_,_,.cons (d:=.arr _) _ _,h=>by cases h
  | _,_,_,.cons (d:=.kt _) _ _,h=>by cases h
  | _,_,_,.cons (d:=.exc _) _ _,h=>by cases h
theorem intsD_vals {K:Frag} {G:Hp}:∀ {vs:List V} {ds:List D} {bs:List Int},RDs K G vs ds→intsD ds=some bs→vs=bs.map V.int
  | _,_,_,.nil,h=>by cases h; rfl
  | _,_,_,.cons (d:=.int b) (ds:=ds) a r,h=>by
    have h:(intsD ds).map (fun bs=>b :: bs)=some _:=h
    cases q:intsD ds with
    | none=>rw [q] at h; cases h
    | some bs=>rw [q] at h; cases h; rw [a.int_inv,intsD_vals r q]; rfl
  | _,_,_,.cons (d:=.non) _ _,h=>by cases h
  | _,_,_,.cons (d:=.bl _) _ _,h=>by cases h
  | _,_,_,.cons (d:=.str _) _ _,h=>by cases h
  | _,_,_,.cons (d:=.tup _) _ _,h=>by cases h
  | _,_,_,.cons (d:=.lst _) _ _,h=>by cases h
  | _,_,_,.cons (d:=.dic _ _ _) _ _,h=>by cases h
  | _,_,_,.cons (d:=.arr _) _ _,h=>by cases h
  | _,_,_,.cons (d:=.kt _) _ _,h=>by cases h
  | _,_,_,.cons (d:=.exc _) _ _,h=>by cases h
def dAll:D→R D
  | .lst ds=>R.of ((boolsD ds).map fun bs=>.bl (bs.all id))
  | _=>.stuck
def dAny:D→R D
  | .lst ds=>R.of ((boolsD ds).map fun bs=>.bl (bs.any id))
  | _=>.stuck
def maxI:List Int→Int→Int
  | [],m=>m
  | i :: is,m=>maxI is (if m < i then i else m)
def dMax:D→R D
  | .lst ds=>R.of ((intsD ds).bind fun is=>match is with | []=>none | i :: is=>some (.int (maxI is i)))
  | _=>.stuck
def dSum:D→R D
  | .lst ds=>R.of ((intsD ds).map fun is=>.int is.sum)
  | _=>.stuck
theorem dAll_noexc (x:D) (c:Str):dAll x≠.exc c:=by unfold dAll; split <;> first | exact of_noexc _ _ | exact fun z=>nomatch z
theorem dAny_noexc (x:D) (c:Str):dAny x≠.exc c:=by unfold dAny; split <;> first | exact of_noexc _ _ | exact fun z=>nomatch z
theorem dMax_noexc (x:D) (c:Str):dMax x≠.exc c:=by unfold dMax; split <;> first | exact of_noexc _ _ | exact fun z=>nomatch z
theorem dSum_noexc (x:D) (c:Str):dSum x≠.exc c:=by unfold dSum; split <;> first | exact of_noexc _ _ | exact fun z=>nomatch z
theorem cd_all {K:Frag}:CallD K (rAll K) (on1 dAll) .fz:=calld1 fun x dx d G H Q e r hg k=>by
  unfold dAll at hg
  split at hg
  · rename_i ds
    cases q:boolsD ds with
    | none=>rw [q] at hg; cases hg
    | some bs =>
      rw [q] at hg; cases hg
      obtain ⟨a,vs,rfl,s,l,rs⟩:=r.lst e
      rw [boolsD_vals rs q] at s
      exact ⟨a,bs,rfl,.inl (.inl s),k _ G H (.refl e) (.fz (.bl _))⟩
  · cases hg
theorem cd_any {K:Frag}:CallD K (rAny K) (on1 dAny) .fz:=calld1 fun x dx d G H Q e r hg k=>by
  unfold dAny at hg
  split at hg
  · rename_i ds
    cases q:boolsD ds with
    | none=>rw [q] at hg; cases hg
    | some bs =>
      rw [q] at hg; cases hg
      obtain ⟨a,vs,rfl,s,l,rs⟩:=r.lst e
      rw [boolsD_vals rs q] at s
      exact ⟨a,bs,rfl,.inl (.inl s),k _ G H (.refl e) (.fz (.bl _))⟩
  · cases hg
theorem maxI_ok:∀ (is:List Int) (m:Int),maxI is m∈m :: is∧∀ y∈m :: is,y≤maxI is m
  | [],m=>⟨by simp [maxI],by simp [maxI]⟩
  | i :: is,m=>by
    obtain ⟨h1,h2⟩:=maxI_ok is (if m < i then i else m)
    unfold maxI
    refine ⟨?_,fun y hy=>?_⟩
    · rcases List.mem_cons.mp h1 with q | q
      · rw [q]
        split <;> simp
      · simp [q]
    · have h3:=h2 _ (List.mem_cons_self ..)
      rcases List.mem_cons.mp hy with q | q
      · subst q
        split at h3 <;> (split <;> omega)
      · rcases List.mem_cons.mp q with q | q
        · subst q
          split at h3 <;> (split <;> omega)
        · exact h2 y (List.mem_cons_of_mem _ q)
theorem cd_max {K:Frag}:CallD K (rMax K) (on1 dMax) .fz:=calld1 fun x dx d G H Q e r hg k=>by
  unfold dMax at hg
  split at hg
  · rename_i ds
    cases q:intsD ds with
    | none=>rw [q] at hg; cases hg
    | some is =>
      rw [q] at hg
      cases is with
      | nil=>cases hg
      | cons i is =>
        cases hg
        obtain ⟨a,vs,rfl,s,l,rs⟩:=r.lst e
        rw [intsD_vals rs q] at s
        refine ⟨a,i :: is,rfl,.inl (.inl s),Nat.succ_pos _,fun m hm hle=>?_⟩
        obtain ⟨h1,h2⟩:=maxI_ok is i
        have:m=maxI is i:=Int.le_antisymm (h2 m hm) (hle _ h1)
        rw [this]
        exact k _ G H (.refl e) (.fz (.int _))
  · cases hg
def on2 (g:D→D→R D):List D→R D
  | [d,e]=>g d e
  | _=>.stuck
def dMax2:D→D→R D
  | .int i,.int j=>.ok (.int (if j > i then j else i))
  | _,_=>.stuck
theorem dMax2_noexc (ds:List D) (c:Str):on2 dMax2 ds≠.exc c:=by unfold on2 dMax2; split <;> (try split) <;> exact fun z=>nomatch z
theorem cd_max2 {K:Frag}:CallD K (fun xs H Q=>∃ i j,xs=[.int i,.int j]∧Q (.int (if j > i then j else i)) H) (on2 dMax2) .fz:=by
  intro vs ds d G H Q e rs hg k
  unfold on2 at hg
  split at hg
  · unfold dMax2 at hg
    split at hg
    · cases hg
      cases rs with
      | cons r1 rr =>
        cases rr with
        | cons r2 rr =>
          cases rr
          cases r1.int; cases r2.int
          exact ⟨_,_,rfl,k _ G H (.refl e) (.fz (.int _))⟩
    · cases hg
  · cases hg
theorem cd_sum {K:Frag}:CallD K (rSum K) (on1 dSum) .fz:=calld1 fun x dx d G H Q e r hg k=>by
  unfold dSum at hg
  split at hg
  · rename_i ds
    cases q:intsD ds with
    | none=>rw [q] at hg; cases hg
    | some bs =>
      rw [q] at hg; cases hg
      obtain ⟨a,vs,rfl,s,l,rs⟩:=r.lst e
      rw [intsD_vals rs q] at s
      exact ⟨a,bs,rfl,.inl (.inl s),k _ G H (.refl e) (.fz (.int _))⟩
  · cases hg
def dInt:D→R D
  | .int i=>.ok (.int i)
  | .bl b=>.ok (.int (if b then 1 else 0))
  | _=>.stuck
theorem dInt_noexc (x:D) (c:Str):dInt x≠.exc c:=by unfold dInt; split <;> exact fun z=>nomatch z
theorem cd_int {K:Frag}:CallD K (fun xs H Q=>(∃ i,xs=[.int i]∧Q (.int i) H)∨∃ k,xs=[.bl k]∧Q (.int (if k then 1 else 0)) H) (on1 dInt) .fz:=calld1 fun x dx d G H Q e r hg k=>by
  unfold dInt at hg
  split at hg
  · cases hg; cases r.int; exact .inl ⟨_,rfl,k _ G H (.refl e) (.fz (.int _))⟩
  · cases hg; cases r.bl; exact .inr ⟨_,rfl,k _ G H (.refl e) (.fz (.int _))⟩
  · cases hg
def isTy (T:String):D→R Bool
  | .non=>.ok false
  | .bl _=>.ok (T == "bool" || T == "int")
  | .int _=>.ok (T == "int")
  | .str _=>.ok (T == "str")
  | .tup _=>.ok (T == "tuple")
  | .lst _=>.ok (T == "list")
  | .dic _ _ _=>.ok (T == "dict")
  | _=>.stuck
def eIsi (T:String) (fa:En→R D):En→R D:=fun s=>fa s >>= fun d=>isTy T d >>= fun b=>.ok (.bl b)
theorem isTy_noexc (T:String) (x:D) (c:Str):isTy T x≠.exc c:=by unfold isTy; split <;> exact fun z=>nomatch z
def tyAns (T:String):Prop:=∀ K:Frag,PySem.W.kitOne K (.type "NoneType") (.type T)=some false∧PySem.W.kitOne K (.type "bool") (.type T)=some (T == "bool" || T == "int")∧PySem.W.kitOne K (.type "int") (.type T)=some (T == "int") ∧
  PySem.W.kitOne K (.type "str") (.type T)=some (T == "str")∧PySem.W.kitOne K (.type "tuple") (.type T)=some (T == "tuple")∧PySem.W.kitOne K (.type "list") (.type T)=some (T == "list")∧PySem.W.kitOne K (.type "dict") (.type T)=some (T == "dict")
def TyZ (K:Frag) (H:Hp) (x:V) (t:Value):Prop:=TyX K H x t∨∃ (a:Addr) (o:Obj) (kvs:List (List Key×V)),x=.ref a∧H a=some (.frz o (.dT kvs))∧t=.type "dict"
def rIsiZ (K:Frag):List V→Hp→VK→Prop:=fun xs H Q=>∃ (x c:V) (t u:Value) (b:Bool),xs=[x,c]∧ClsV c u∧TyZ K H x t∧PySem.W.kitOne K t u=some b∧Q (.bl b) H
theorem call_isiZ:CallR X (.builtin "isinstance") (rIsiZ X.K):=by
  intro pins s σ H xs us Q I r h
  obtain ⟨x,c,t,u,b,rfl,k,ty,e,q⟩:=h
  rcases ty with ty | ⟨a,o,kvs,rfl,ea,rfl⟩
  · exact call_isi pins s σ H _ us Q I r ⟨x,c,t,u,b,rfl,k,ty,e,q⟩
  · obtain ⟨u1,u2,rfl,r1,r2⟩:=vals2 r
    have e2:=k.eq r2
    subst e2
    cases (show u1=Value.ref a from r1)
    obtain ⟨_,_,_,vs,_,o',es,ep,h1,h2,_⟩:=(show ObjOk X.prog X.w H s.heap a (.frz o (.dT kvs)) from I.hok a _ ea)
    exact PySem.W.kia_one PySem.W.kitx_dict I.kIn ⟨o',h1,h2.1⟩ e (fun z=>nomatch z) fun tk=>⟨.bl b,H,I.tok tk,rfl,q⟩
theorem isi_of {K:Frag} {G H:Hp} {x:V} {d:D} {T:String} {b:Bool} (tt:tyAns T) (e:Sub G H) (r:RB K G H x d) (h:isTy T d=.ok b):∃ t,TyZ K H x t∧PySem.W.kitOne K t (.type T)=some b:=by
  obtain ⟨h1,h2,h3,h4,h5,h6,h7⟩:=tt K
  unfold isTy at h
  split at h
  · cases h; cases r.non; exact ⟨_,.inl <| .base .non,h1⟩
  · cases h; cases r.bl; exact ⟨_,.inl <| .base (.bl _),h2⟩
  · cases h; cases r.int; exact ⟨_,.inl <| .base (.int _),h3⟩
  · cases h; obtain ⟨rfl,_⟩:=r.str; exact ⟨_,.inl <| .base (.str _),h4⟩
  · cases h; obtain ⟨a,vs,rfl,s,l,rs⟩:=r.tup.tup_inv; obtain ⟨us,s⟩:=s; cases q:keyVs vs with | true=>(rw [pT_key q] at s; exact ⟨_,.inl <| .base (.tup (e _ _ s)),h5⟩) | false=>(rw [pT_not q] at s; exact ⟨_,.inl <| .fTuple (e _ _ s),h5⟩)
  · cases h; obtain ⟨a,vs,rfl,s,l,rs⟩:=r.lst e; exact ⟨_,.inl <| .base (.lst s),h6⟩
  · cases h
    rcases r.dic e with ⟨_,a,kvs,rfl,hH,_⟩ | ⟨_,a,kvs,rfl,hH,_⟩
    · exact ⟨_,.inl <| .base (.dK hH),h7⟩
    · rcases hH with hH | ⟨o,hH⟩
      · exact ⟨_,.inl <| .base (.dT hH),h7⟩
      · exact ⟨_,.inr ⟨a,o,kvs,rfl,hH,rfl⟩,h7⟩
  · cases h
theorem ev_isi {T : String} {p : Pos} (tt : tyAns T) (hg : Gl X "isinstance") (hm : X.mg "isinstance" = none) (hs : noStar a = true) (hT : PE X b (tC (.ty T))) (hs2 : noStar b = true) (ha : EB X B W Γ a fa) :
    EV X B W Γ (.Call (.Name "isinstance" p) [a,b] [] pos) (eIsi T fa):=by
  have pa:PA X [a,b] (tCons (tBo X.K B W Γ fa) (tCons (tC (.ty T)) tNil)):=pa_cons ha (pa_cons hT pa_nil (noStar_ok hs2 _ _)) (noStar_ok hs _ _)
  refine PE.imp (pe_callB call_isiZ hg hm (by decide +kernel) pa (by decide) (by decide) (noStar_ok hs _ _) (noStars_any (by simp [hs2]))) fun σ H Q ⟨s,G,rl,k⟩=>⟨s,G,rl,k.bind.imp (fun d _ k x G1 H1 g1 r=>?_) fun _ z=>z⟩
  obtain ⟨bb,e,k⟩:=k.bind.ok (isTy_noexc _ _)
  obtain ⟨t,ty,kk⟩:=isi_of tt g1.gh r e
  exact ⟨x,.ty T,t,.type T,bb,rfl,.ty T,ty,kk,k _ G1 H1 g1 (.bl _)⟩
end
end Hr
end
section
namespace Hr
open PySem PySem.Spec L2
def isDc:HO→Bool
  | .lst _=>true
  | .dK _=>true
  | .dT _=>true
  | _=>false
theorem isDc_pl {o:HO} (h:isDc o=true):isPl o=true:=by cases o <;> first | rfl | cases h
theorem and2 {a b:Bool} (h:(a && b)=true):a=true∧b=true:=Bool.and_eq_true_iff.mp h
theorem Rel.cell {K : Frag} {B : Base} {Γ : Ow} {s : En} {G : Hp} {σ : St} {H : Hp} {i : Nat} {a : Addr} {v : V} {d' : D} {u : HO} {φ : Nat → List Addr} (r : Rel K B Γ s G σ H) (sl : SL K G H σ s Γ φ) (hf : ∀ i a, a ∈ φ i → B.H0 a = none) (ha : a ∈ φ i)
    (ev:σ[i]?=some (some v)) (new:OW K G (upd H a u) v d' (oty Γ i) (φ i)) (hno:∃ w,H a=some w∧isDc w=true) (hu:∀ vs,u≠.tup vs:=by intro _ z; cases z):Rel K B Γ (s.set i (some d')) G σ (upd H a u):=by
  have ga:G a=none:=(sl.ok i a ha).2
  have h0:B.H0 a=none:=hf i a ha
  refine ⟨by rw [List.length_set]; exact r.len,⟨φ,⟨fun j d e=>?_,sl.nd,sl.dj,fun j b m=>⟨?_,(sl.ok j b m).2⟩⟩,hf⟩,r.hH.set h0 (fun w z=>?_),r.hG,r.GH.set ga,r.fr,r.ob.mono (fun _ _=>rfl) fun b C dx fs e=>⟨by rw [upd_ne fun z=>by obtain ⟨w,h1,h2⟩:=hno; rw [z,h1] at e; cases e; cases h2]; exact e,id,id⟩⟩
  · rcases getElem?_set_cases e with ⟨rfl,e'⟩ | ⟨ne,e'⟩
    · cases e'
      exact ⟨v,ev,new⟩
    · obtain ⟨v',q,o⟩:=sl.at_ j d e'
      exact ⟨v',q,o.mono (.refl _) fun b m o' z=>by rw [upd_ne fun w=>ne (sl.dj j i b m (by rw [w]; exact ha))]; exact z⟩
  · by_cases q:b=a
    · subst q; exact ⟨_,upd_same,hu⟩
    · obtain ⟨o,h1,h2⟩:=(sl.ok j b m).1; exact ⟨o,by rw [upd_ne q]; exact h1,h2⟩
  · obtain ⟨w',h1,h2⟩:=hno; rw [h1] at z; cases z; exact isDc_pl h2
theorem Rel.olist {K : Frag} {B : Base} {Γ : Ow} {s : En} {G : Hp} {σ : St} {H : Hp} {i : Nat} {ds : List D} (r : Rel K B Γ s G σ H) (e : s[i]? = some (some (.lst ds))) (ht : oty Γ i = .own .fz) :
    ∃ a vs,σ[i]?=some (some (.ref a))∧H a=some (.lst vs)∧vs.length≤sizeLine∧RDs K G vs ds∧∀ vs' ds',vs'.length≤sizeLine→RDs K G vs' ds'→Rel K B Γ (s.set i (some (.lst ds'))) G σ (upd H a (.lst vs')):=by
  obtain ⟨φ,sl,hf⟩:=r.sl
  obtain ⟨v,ev,ow⟩:=sl.at_ i _ e
  rw [ht] at ow
  generalize hφ:φ i=fp at ow
  cases ow with
  | @ol a vs _ _ fq h l rs =>
    obtain ⟨rs',e0⟩:=rs.unfz
    subst e0
    refine ⟨a,vs,ev,h,l,rs',fun vs' ds' l' r'=>r.cell sl hf (by rw [hφ]; exact List.mem_cons_self ..) ev ?_ ⟨_,h,rfl⟩⟩
    rw [ht,hφ]
    exact .ol upd_same l' (OWs.fzs r')
theorem Rel.odict {K : Frag} {B : Base} {Γ : Ow} {s : En} {G : Hp} {σ : St} {H : Hp} {i : Nat} {ks : List (List Key)} {ds : List D} (r : Rel K B Γ s G σ H) (e : s[i]? = some (some (.dic false ks ds))) (ht : oty Γ i = .own .fz) :
    ∃ a kvs,σ[i]?=some (some (.ref a))∧H a=some (.dK kvs)∧kvs.length≤sizeLine∧ks=(kvs.map fun p=>[p.1])∧RDs K G (kvs.map (·.2)) ds∧∀ kvs' ds',kvs'.length≤sizeLine→RDs K G (kvs'.map (·.2)) ds'→Rel K B Γ (s.set i (some (.dic false (kvs'.map fun p=>[p.1]) ds'))) G σ (upd H a (.dK kvs')):=by
  obtain ⟨φ,sl,hf⟩:=r.sl
  obtain ⟨v,ev,ow⟩:=sl.at_ i _ e
  rw [ht] at ow
  generalize hφ:φ i=fp at ow
  cases ow with
  | @odK a kvs _ _ fq h l rs =>
    obtain ⟨rs',e0⟩:=rs.unfz
    subst e0
    refine ⟨a,kvs,ev,h,l,rfl,rs',fun kvs' ds' l' r'=>r.cell sl hf (by rw [hφ]; exact List.mem_cons_self ..) ev ?_ ⟨_,h,rfl⟩⟩
    rw [ht,hφ]
    exact .odK upd_same l' (OWs.fzs r')
theorem Rel.odictT {K : Frag} {B : Base} {Γ : Ow} {s : En} {G : Hp} {σ : St} {H : Hp} {i : Nat} {ks : List (List Key)} {ds : List D} (r : Rel K B Γ s G σ H) (e : s[i]? = some (some (.dic true ks ds))) (ht : oty Γ i = .own .fz) :
    ∃ a kvs,σ[i]?=some (some (.ref a))∧H a=some (.dT kvs)∧kvs.length≤sizeLine∧ks=(kvs.map fun p=>p.1)∧RDs K G (kvs.map (·.2)) ds∧∀ kvs' ds',kvs'.length≤sizeLine→RDs K G (kvs'.map (·.2)) ds'→Rel K B Γ (s.set i (some (.dic true (kvs'.map fun p=>p.1) ds'))) G σ (upd H a (.dT kvs')):=by
  obtain ⟨φ,sl,hf⟩:=r.sl
  obtain ⟨v,ev,ow⟩:=sl.at_ i _ e
  rw [ht] at ow
  generalize hφ:φ i=fp at ow
  cases ow with
  | @odT a kvs _ _ fq h l rs =>
    obtain ⟨rs',e0⟩:=rs.unfz
    subst e0
    refine ⟨a,kvs,ev,h,l,rfl,rs',fun kvs' ds' l' r'=>r.cell sl hf (by rw [hφ]; exact List.mem_cons_self ..) ev ?_ ⟨_,h,rfl⟩⟩
    rw [ht,hφ]
    exact .odT upd_same l' (OWs.fzs r')
section
variable {X:Cx} {B:Base} {W:WX} {Γ Γ1 Γn:Ow} {o:OC} {e a b c:Expr} {f g:En→Out} {fa fb fc fe:En→R D} {pos:Pos} {st:Stmt} {sts:List Stmt} {es:List Expr} {fs:En→R (List D)}
def lstAt (s:En) (i:Nat):Option (List D):=match (s[i]?).bind id with
  | some (.lst ds)=>some ds
  | _=>none
theorem lstAt_ok {s:En} {i:Nat} {ds:List D} (h:lstAt s i=some ds):s[i]?=some (some (.lst ds)):=by
  unfold lstAt at h
  cases q:s[i]? with
  | none=>rw [q] at h; cases h
  | some od =>
    rw [q] at h
    cases od with
    | none=>cases h
    | some d =>
      cases d with
      | lst xs=>cases h; rfl
      | _=>cases h
def optO {α:Type} (x:Option α) (k:α→Out):Out:=match x with
  | some a=>k a
  | none=>.stuck
def sApp (i:Nat) (fe:En→R D):En→Out:=fun s=>optO (lstAt s i) fun ds=>(fe s).go s fun d=>if ds.length < sizeLine then .nx (s.set i (some (.lst (ds ++ [d])))) else .stuck
def notCall:Expr→Bool
  | .Call _ _ _ _=>false
  | _=>true
theorem base_ok (h:notCall a=true) (name:Str) (env:Env) (whole:Sem Value):attributeBase a name env whole=whole:=by
  cases a <;> first | rfl | cases h
def notSuper:Expr→Bool
  | .Call (.Name _ _) [] [] _=>false
  | _=>true
theorem base_ok2 (h:notSuper a=true) (name:Str) (env:Env) (whole:Sem Value):attributeBase a name env whole=whole:=by
  unfold attributeBase
  split
  · cases h
  · rfl
theorem few_ok {cpos : Pos} {env : Env} (h : (a :: es).all noStar = true) (hl : (a :: es).length < 30) : ((backTo cpos (starEach (a :: es) env)).all (fun x => !x.1) && (backToKw cpos (keywordEach [] env)).all (fun x => x.1.isSome)
      && decide ((a :: es).length + ([]:List Keyword).length + (if ([]:List Keyword).isEmpty then 0 else 1) < 30))=true:=by
  have h1:=noStars_any (pos:=cpos) (env:=env) h
  have h2:(backTo cpos (starEach (a :: es) env)).all (fun x=> !x.1)=true:=by
    rw [List.all_eq_true]
    intro x hx
    have:=List.any_eq_false.mp h1 x hx
    simpa using this
  rw [h2]
  simp only [Bool.true_and,Bool.and_eq_true,decide_eq_true_eq]
  exact ⟨rfl,by simpa using hl⟩
theorem sv_app {i : Nat} {be : Expr} {apos cpos : Pos} (lx : leO Γ o.x) (ho : oty Γ i = .own .fz) (hbe : PE X be (tVarR X.K B Γ i)) (hnc : notCall be = true) (hl : (apos.endLine == cpos.line) = true) (hs : noStar e = true)
    (he:EV X B W Γ e fe):SV X B W Γ Γ o (.Expr (.Call (.Attribute be "append" apos) [e] [] cpos) pos) (sApp i fe):=by
  have pa:PA X [e] (tCons (tV X.K B W Γ fe) tNil):=pa_cons he pa_nil (noStar_ok hs _ _)
  refine PS.imp (ps_expr (pe_bm PySem.F.plainAttrs_list PySem.F.slot_list_append PySem.F.type_list_append mt_append hbe pa (base_ok hnc _ _ _) (few_ok (by simp [hs]) (by simp)) hl (noStar_ok hs _ _) rfl) rfl) fun Dn σ H ⟨s,G,rl,k⟩=>?_
  unfold sApp at k
  cases q:lstAt s i with
  | none=>rw [q] at k; exact k.elim
  | some ds =>
    rw [q] at k
    obtain ⟨a,vs,ev,hH,l,rs,up⟩:=rl.olist (lstAt_ok q) ho
    refine ⟨⟨s,G,rl⟩,_,ev,.inl ⟨rfl,vs,.inl (.inl hH)⟩,s,G,rl,(Fin.go rl lx k).imp (fun d _ k v G1 H1 g1 r=>?_) fun _ z=>z⟩
    by_cases hlt:ds.length < sizeLine
    · rw [if_pos hlt] at k
      obtain ⟨a',vs',ev',hH',l',rs',up'⟩:=(rl.grow g1).olist (lstAt_ok q) ho
      have ea:a'=a:=by rw [ev] at ev'; cases ev'; rfl
      subst ea
      refine ⟨a',vs',v,rfl,rfl,hH',by rw [rs'.length]; exact hlt,?_⟩
      exact k σ G1 _ g1.g (up' (vs' ++ [v]) (ds ++ [d]) (by rw [List.length_append,rs'.length]; exact hlt) (rs'.append (.cons r .nil)))
    · rw [if_neg hlt] at k; exact k.elim
def sExt (i:Nat) (fe:En→R D):En→Out:=fun s=>optO (lstAt s i) fun ds=>(fe s).go s fun d=>match d with
  | .lst es=>if ds.length + es.length≤sizeLine then .nx (s.set i (some (.lst (ds ++ es)))) else .stuck
  | _=>.stuck
theorem sv_ext {i : Nat} {be : Expr} {apos cpos : Pos} (lx : leO Γ o.x) (ho : oty Γ i = .own .fz) (hbe : PE X be (tVarR X.K B Γ i)) (hnc : notCall be = true) (hl : (apos.endLine == cpos.line) = true) (hs : noStar e = true)
    (he:EB X B W Γ e fe):SV X B W Γ Γ o (.Expr (.Call (.Attribute be "extend" apos) [e] [] cpos) pos) (sExt i fe):=by
  have pa:PA X [e] (tCons (tBo X.K B W Γ fe) tNil):=pa_cons he pa_nil (noStar_ok hs _ _)
  refine PS.imp (ps_expr (pe_bm PySem.F.plainAttrs_list PySem.F.slot_list_extend PySem.F.type_list_extend mt_extend hbe pa (base_ok hnc _ _ _) (few_ok (by simp [hs]) (by simp)) hl (noStar_ok hs _ _) rfl) rfl) fun Dn σ H ⟨s,G,rl,k⟩=>?_
  unfold sExt at k
  cases q:lstAt s i with
  | none=>rw [q] at k; exact k.elim
  | some ds =>
    rw [q] at k
    obtain ⟨a,vs,ev,hH,l,rs,up⟩:=rl.olist (lstAt_ok q) ho
    refine ⟨⟨s,G,rl⟩,_,ev,.inl ⟨rfl,vs,.inl (.inl hH)⟩,s,G,rl,(Fin.go rl lx k).imp (fun d _ k v G1 H1 g1 r=>?_) fun _ z=>z⟩
    cases d with
    | lst es =>
      dsimp only at k
      by_cases hlt:ds.length + es.length≤sizeLine
      · rw [if_pos hlt] at k
        obtain ⟨a',vs',ev',hH',l',rs',up'⟩:=(rl.grow g1).olist (lstAt_ok q) ho
        have ea:a'=a:=by rw [ev] at ev'; cases ev'; rfl
        subst ea
        obtain ⟨b,ws,rfl,sb,lb,rb⟩:=r.lst g1.gh
        refine ⟨a',b,vs',ws,rfl,rfl,hH',sb,by rw [rs'.length,rb.length]; exact hlt,?_⟩
        exact k σ G1 _ g1.g (up' (vs' ++ ws) (ds ++ es) (by rw [List.length_append,rs'.length,rb.length]; exact hlt) (rs'.append rb))
      · rw [if_neg hlt] at k; exact k.elim
    | _=>exact k.elim
def setAll (k:List Key) (d:D):List (List Key)→List D→List D
  | q :: ks,x :: ds=>(if q=k then d else x) :: setAll k d ks ds
  | _,ds=>ds
def putD (ks:List (List Key)) (ds:List D) (k:List Key) (d:D):List (List Key)×List D:=if (ks.any fun q=>decide (q=k))=true then (ks,setAll k d ks ds) else (ks ++ [k],ds ++ [d])
theorem putK_D {K : Frag} {G : Hp} {κ : Type} [DecidableEq κ] (j : κ → List Key) (inj : ∀ x y, j x = j y → x = y) {k : κ} {v : V} {d : D} (rv : RD K G v d) {kvs : List (κ × V)} {ds : List D} (r : RDs K G (kvs.map (·.2)) ds) :
    (putD (kvs.map fun p=>j p.1) ds (j k) d).1=((putK kvs k v).map fun p=>j p.1)∧RDs K G ((putK kvs k v).map (·.2)) (putD (kvs.map fun p=>j p.1) ds (j k) d).2∧(putK kvs k v).length≤kvs.length + 1:=by
  unfold putD putK
  by_cases h:(kvs.any fun kv=>decide (kv.1=k))=true
  · have hm : ((kvs.map fun p => j p.1).any fun q => decide (q = j k)) = true := by
      obtain ⟨p,hp,e⟩:=List.any_eq_true.mp h
      exact List.any_eq_true.mpr ⟨j p.1,List.mem_map.mpr ⟨p,hp,rfl⟩,decide_eq_true (by rw [of_decide_eq_true e])⟩
    rw [if_pos h,if_pos hm]
    refine ⟨?_,?_,by rw [List.length_map]; exact Nat.le_succ _⟩
    · rw [List.map_map]
      apply List.map_congr_left
      intro x _
      dsimp only [Function.comp]
      split <;> rfl
    · clear hm h
      induction kvs generalizing ds with
      | nil=>cases r; exact .nil
      | cons p kvs ih =>
        cases r with
        | cons a b =>
          by_cases q:p.1=k
          · show RDs K G ((if p.1=k then (p.1,v) else p).2 :: _) ((if j p.1=j k then d else _) :: _)
            rw [if_pos q,if_pos (by rw [q])]
            exact .cons rv (ih b)
          · show RDs K G ((if p.1=k then (p.1,v) else p).2 :: _) ((if j p.1=j k then d else _) :: _)
            rw [if_neg q,if_neg fun z=>q (inj _ _ z)]
            exact .cons a (ih b)
  · have hm : ¬ ((kvs.map fun p => j p.1).any fun q => decide (q = j k)) = true := by
      intro m
      obtain ⟨z,hz,e⟩:=List.any_eq_true.mp m
      obtain ⟨p,hp,rfl⟩:=List.mem_map.mp hz
      exact h (List.any_eq_true.mpr ⟨p,hp,decide_eq_true (inj _ _ (of_decide_eq_true e))⟩)
    rw [if_neg h,if_neg hm]
    refine ⟨by rw [List.map_append]; rfl,?_,by rw [List.length_append]; exact Nat.le_refl _⟩
    rw [List.map_append]
    exact r.append (.cons rv .nil)
def dicAt (s:En) (i:Nat):Option (Bool×List (List Key)×List D):=match (s[i]?).bind id with
  | some (.dic t ks ds)=>some (t,ks,ds)
  | _=>none
theorem dicAt_ok {s:En} {i:Nat} {t:Bool} {ks:List (List Key)} {ds:List D} (h:dicAt s i=some (t,ks,ds)):s[i]?=some (some (.dic t ks ds)):=by
  unfold dicAt at h
  cases q:s[i]? with
  | none=>rw [q] at h; cases h
  | some od =>
    rw [q] at h
    cases od with
    | none=>cases h
    | some d =>
      cases d with
      | dic _ _ _=>cases h; rfl
      | _=>cases h
def sPut (i:Nat) (fk fe:En→R D):En→Out:=fun s=>(fe s).go s fun d=>optO (dicAt s i) fun q=>(fk s).go s fun dk=>optO (keyOf q.1 dk) fun k=>if q.2.2.length < sizeLine then .nx (s.set i (some (.dic q.1 (putD q.2.1 q.2.2 k d).1 (putD q.2.1 q.2.2 k d).2))) else .stuck
theorem sv_put {i : Nat} {be : Expr} {pos' : Pos} {ke : Expr} {fk : En → R D} (hu : X.A.units + 1 < cLine) (lx : leO Γ o.x) (ho : oty Γ i = .own .fz) (hbe : PE X be (tVarR X.K B Γ i))
    (hs:swapsWith e (some (.Subscript be ke pos')) pos.line X.env=pure false) (hk:EV X B W Γ ke fk) (he:EV X B W Γ e fe):SV X B W Γ Γ o (.Assign [.Subscript be ke pos'] e pos) (sPut i fk fe):=by
  refine PS.imp (ps_dput hu hbe hk he hs) fun Dn σ H ⟨s,G,rl,k⟩=>⟨s,G,rl,(Fin.go rl lx k).imp (fun d _ k v G1 H1 g1 rv=>?_) fun _ z=>z⟩
  cases q:dicAt s i with
  | none=>rw [q] at k; exact k.elim
  | some tkd =>
    obtain ⟨t,ks,ds⟩:=tkd
    rw [q] at k
    have rl1:=rl.grow g1
    obtain ⟨v0,ev0,_,_⟩:=rl1.now (dicAt_ok q)
    have k:Fin X.K B W Γ o G1 Dn ((fk s).go s fun dk=>optO (keyOf t dk) fun k=>if ds.length < sizeLine then .nx (s.set i (some (.dic t (putD ks ds k d).1 (putD ks ds k d).2))) else .stuck):=k.mono g1.g
    refine ⟨⟨s,G1,rl1⟩,v0,ev0,s,G1,rl1,(Fin.go rl1 lx k).imp (fun dk _ k y G2 H2 g2 ry=>?_) fun _ z=>z⟩
    have rv:=rv.mono g2.g
    have rl2:=rl1.grow g2
    have k:=k.mono g2.g
    cases hk:keyOf t dk with
    | none=>rw [hk] at k; exact k.elim
    | some kk =>
      rw [hk] at k
      dsimp only [optO] at k
      by_cases hlt:ds.length < sizeLine
      · rw [if_pos hlt] at k
        cases t with
        | false =>
          obtain ⟨a,kvs,ev,hH,l,rfl,rs,up⟩:=rl2.odict (dicAt_ok q) ho
          have:v0=.ref a:=by rw [ev0] at ev; cases ev; rfl
          subst this
          obtain ⟨kq,rfl,rfl⟩:=keyOf_K ry hk
          obtain ⟨e1,e2,e3⟩:=putK_D (fun z=>[z]) (fun x y z=>by injection z) (k:=kq) rv rs
          have hll:kvs.length < sizeLine:=by
            have:=rs.length
            rw [List.length_map] at this
            omega
          refine ⟨a,_,rfl,.k hH hll,?_⟩
          have:=up (putK kvs kq v) _ (by omega) e2
          rw [← e1] at this
          exact k σ G2 _ (.refl _) this
        | true =>
          obtain ⟨a,kvs,ev,hH,l,rfl,rs,up⟩:=rl2.odictT (dicAt_ok q) ho
          have:v0=.ref a:=by rw [ev0] at ev; cases ev; rfl
          subst this
          obtain ⟨b,rfl,hb⟩:=keyOf_T ry hk
          obtain ⟨e1,e2,e3⟩:=putK_D (fun z=>z) (fun x y z=>z) (k:=kk) rv rs
          have hll:kvs.length < sizeLine:=by
            have:=rs.length
            rw [List.length_map] at this
            omega
          refine ⟨a,_,rfl,.t hH (rl2.GH _ _ hb) hll,?_⟩
          have:=up (putK kvs kk v) _ (by omega) e2
          rw [← e1] at this
          exact k σ G2 _ (.refl _) this
      · rw [if_neg hlt] at k; exact k.elim
theorem eo_dnew (t:Bool):EO X B W Γ (.own .fz) (.Dict [] [] pos) (eCon (.dic t [] [])):=by
  cases t with
  | false =>
    refine PE.imp pe_dnewK fun σ H Q ⟨s,G,rl,k⟩=>?_
    intro d hd
    refine k (.ref d) G _ ⟨.refl _,.of (Same.upd hd),rl.GH.trans (Same.upd hd),fun _ h _=>h⟩ ⟨[d],.odK (kvs:=[]) upd_same (Nat.zero_le _) .nil,by simp,fun a m=>?_⟩
    have:a=d:=by simpa using m
    subst this
    exact ⟨hd,⟨_,upd_same,fun _ z=>nomatch z⟩,rl.GH.free hd⟩
  | true =>
    refine PE.imp pe_dnewT fun σ H Q ⟨s,G,rl,k⟩=>?_
    intro d hd
    refine k (.ref d) G _ ⟨.refl _,.of (Same.upd hd),rl.GH.trans (Same.upd hd),fun _ h _=>h⟩ ⟨[d],.odT (kvs:=[]) upd_same (Nat.zero_le _) .nil,by simp,fun a m=>?_⟩
    have:a=d:=by simpa using m
    subst this
    exact ⟨hd,⟨_,upd_same,fun _ z=>nomatch z⟩,rl.GH.free hd⟩
def idxD (y:D):List D→Nat→Option Nat
  | [],_=>none
  | d :: ds,j=>if D.eqv d y then some j else idxD y ds (j + 1)
def dIndex (ds:List D) (y:D):R D:=if y.pl && D.pls ds && decide (y.dep≤60) && decide (PyData.depthAll (D.pys ds)≤60) then R.of ((idxD y ds 0).map fun j=>.int (j:Nat)) else .stuck
theorem dIndex_noexc (x:List D) (y:D) (c:Str):dIndex x y≠.exc c:=by
  unfold dIndex
  split <;> first | exact of_noexc _ _ | exact fun z=>nomatch z
def asL:D→R (List D)
  | .lst ds=>.ok ds
  | _=>.stuck
theorem asL_noexc (x:D) (c:Str):asL x≠.exc c:=by unfold asL; split <;> exact fun z=>nomatch z
theorem asL_ok {x:D} {ds:List D} (h:asL x=.ok ds):x=.lst ds:=by
  unfold asL at h
  split at h
  · cases h; rfl
  · cases h
theorem idxD_ok {y:D}:∀ {ds:List D} {j m:Nat},idxD y ds j=some m→∃ z,j≤m∧ds[m - j]?=some z∧D.eqv z y=true∧∀ (q:Nat) (z':D),q < m - j→ds[q]?=some z'→D.eqv z' y=false
  | [],_,_,h=>by cases h
  | d :: ds,j,m,h=>by
    unfold idxD at h
    split at h
    · rename_i e
      cases h
      exact ⟨d,Nat.le_refl _,by rw [Nat.sub_self]; rfl,e,fun q z' hq _=>by omega⟩
    · rename_i e
      obtain ⟨z,h1,h2,h3,h4⟩:=idxD_ok h
      have hmj:m - j=(m - (j + 1)) + 1:=by omega
      refine ⟨z,by omega,by rw [hmj]; exact h2,h3,fun q z' hq hz=>?_⟩
      cases q with
      | zero=>cases hz; exact by simpa using e
      | succ q=>exact h4 q z' (by omega) hz
theorem pys_get {ds:List D} {i:Nat}:(D.pys ds)[i]?=(ds[i]?).map D.py:=by rw [pys_map,List.getElem?_map]
theorem shaped_of {d:D} {K:Frag} {G:Hp} {v:V} (r:RD K G v d) (h:d.dep≤64):SeqAt.shaped d.py=true:=by
  unfold SeqAt.shaped
  rw [r.lay]
  exact decide_eq_true h
def eIndex (fa fb:En→R D):En→R D:=fun s=>fa s >>= fun x=>asL x >>= fun ds=>fb s >>= fun y=>dIndex ds y
theorem index_of {K:Frag} {G H:Hp} {x y:V} {ds:List D} {dy d:D} {Q:VK} (e:Sub G H) (rx:RB K G H x (.lst ds)) (ry:RB K G H y dy) (h:dIndex ds dy=.ok d) (k:∀ j:Nat,d=.int j→Q (.int j) H):rIndexD K x [y] H Q:=by
  unfold dIndex at h
  split at h
  · rename_i hc
    simp only [Bool.and_eq_true,decide_eq_true_eq] at hc
    obtain ⟨⟨⟨c1,c2⟩,c3⟩,c4⟩:=hc
    cases hi:idxD dy ds 0 with
    | none=>rw [hi] at h; cases h
    | some j =>
      rw [hi] at h
      cases h
      obtain ⟨z,h1,h2,h3,h4⟩:=idxD_ok hi
      rw [Nat.sub_zero] at h2 h4
      obtain ⟨a,vs,rfl,s,l,rs⟩:=rx.lst e
      have rx':=rx.now e
      have ry':=ry.now e
      refine ⟨a,y,dy.py,D.pys ds,j,z.py,rfl,rfl,rx'.dp c2,ry'.dp c1,?_,shaped_of ry' (by omega),by rw [pys_get,h2]; rfl,h3,fun m z' hm hz=>?_,k j rfl⟩
      · refine shaped_of (d:=.lst ds) rx' ?_
        show PyData.depthAll (D.pys ds) + 1≤64
        omega
      · rw [pys_get] at hz
        cases hq:ds[m]? with
        | none=>rw [hq] at hz; cases hz
        | some d' =>
          rw [hq] at hz
          cases hz
          exact h4 m d' hm hq
  · cases h
theorem ev_index {apos cpos:Pos} (hu:X.A.units + 65 < cLine) (hn:notSuper a=true) (hl:(apos.endLine == cpos.line)=true) (hs:noStar b=true) (ha:EB X B W Γ a fa) (hb:EB X B W Γ b fb):EV X B W Γ (.Call (.Attribute a "index" apos) [b] [] cpos) (eIndex fa fb):=by
  have pa:PA X [b] (tCons (tBo X.K B W Γ fb) tNil):=pa_cons hb pa_nil (noStar_ok hs _ _)
  refine PE.imp (pe_bm PySem.F.plainAttrs_list PySem.F.slot_list_index PySem.F.type_list_index (mt_indexD hu) ha pa (base_ok2 hn _ _ _) (few_ok (by simp [hs]) (by simp)) hl (noStar_ok hs _ _) rfl) fun σ H Q ⟨s,G,rl,k⟩=>⟨s,G,rl,k.bind.imp (fun dx _ k x G1 H1 g1 rx=>?_) fun _ z=>z⟩
  obtain ⟨ds,e,k2⟩:=k.bind.ok (asL_noexc _)
  clear k
  cases asL_ok e
  obtain ⟨a',vs,rfl,s1,l,rs⟩:=rx.lst g1.gh
  refine ⟨.inl ⟨rfl,vs,.inl (.inl s1)⟩,s,G1,rl.grow g1,k2.bind.imp (fun dy _ k y G2 H2 g2 ry=>?_) fun _ z=>XW.grow g1 z⟩
  obtain ⟨d,e2,k⟩:=k.ok (dIndex_noexc _ _)
  refine index_of g2.gh (rx.grow g2) ry e2 fun j ej=>?_
  subst ej
  exact k _ G2 H2 (g1.trans g2) (.int _)
end
end Hr
end
section
namespace Hr
open PySem PySem.Spec PyProof.Rows L2
def SqX (K:Frag) (H:Hp) (k:Bool) (a:Addr) (xs:List V):Prop:=if k=true then SqL K H a xs else SqT K H a xs
def IsX (k:Bool) (h:Heap) (a:Addr) (its:Array Value):Prop:=if k=true then h.IsList a its else h.IsTuple a its
def IterX (k:Bool) (h:Heap) (it a:Addr) (i:Nat):Prop:=if k=true then h.IsListIter it a i else h.IsTupleIter it a i
def iterO (k:Bool) (a:Addr):Obj:=if k=true then { cls:=.type "list_iterator",data:=.fields #[.ref a,.int 0 0] } else { cls:=.type "tuple_iterator",data:=.fields #[.ref a,.int 0 0] }
theorem iterX_at {k:Bool} {h h':Heap} {it a:Addr} {i:Nat} (x:IterX k h it a i) (e:∀ o,h.get? it=some o→h'.get? it=some o):IterX k h' it a i:=by
  cases k with
  | true=>exact Heap.IsListIter.at x e
  | false=>exact Heap.IsTupleIter.at x e
theorem iterX_new {k:Bool} {h:Heap} {it a:Addr} (e:h.get? it=some (iterO k a)):IterX k h it a 0:=by
  cases k with
  | true=>exact ⟨_,e,rfl,rfl⟩
  | false=>exact ⟨_,e,rfl,rfl⟩
theorem iterX_obj {k:Bool} {h:Heap} {it a:Addr} {i:Nat} (x:IterX k h it a i):∃ o,h.get? it=some o∧∀ v,o.data≠.cell v:=by
  cases k with
  | true=>obtain ⟨o,e,_,d⟩:=(show h.IsListIter it a i from x); exact ⟨o,e,fun v q=>by rw [d] at q; cases q⟩
  | false=>obtain ⟨o,e,_,d⟩:=(show h.IsTupleIter it a i from x); exact ⟨o,e,fun v q=>by rw [d] at q; cases q⟩
theorem drawsX {prog : Program} {w : World} {A : Around} (hh : A.handled = none) (k : Bool) (it a : Addr) (hne : a ≠ it) (items : Array Value) :
    Draws prog w A it [it,a] items.size (fun i v=>items[i]?=some v) (fun i h=>IterX k h it a i∧IsX k h a items):=by
  cases k with
  | true=>exact Draws.list hh it a hne items
  | false=>exact Draws.tuple hh it a hne items
theorem beginsX (k:Bool) (a:Addr) (items:Array Value):Begins (.ref a) (iterO k a) (fun h=>IsX k h a items):=by
  cases k with
  | true=>exact begins_list a items
  | false=>exact begins_tuple a items
section
variable {X:Cx} {pins:List (Addr×Obj)} {σ:L2.St} {H:Hp} {s:Shared} {a:Addr} {xs ys:List V} {k:Bool}
theorem inv_seqX (I:L2.Inv X pins σ H s) (h:SqX X.K H k a xs):∃ its:List Value,Vals xs its∧IsX k s.heap a its.toArray∧a < s.heap.objs.size:=by
  cases k with
  | true =>
    obtain ⟨its,r,p,_⟩:=I.list h
    exact ⟨its,r,p.isList,p.lt⟩
  | false =>
    obtain ⟨its,r,p,_⟩:=I.tuple h
    obtain ⟨o,ho,_⟩:=id p
    exact ⟨its,r,p,Heap.lt_size ho⟩
theorem inv_seqX_inj (I:L2.Inv X pins σ H s) (h:SqX X.K H k a xs) (h':SqX X.K H k a ys):xs=ys:=by
  cases k with
  | true=>exact I.list_inj h h'
  | false=>exact I.tuple_inj h h'
end
def IteX (K:Frag) (k:Bool) (a:Addr):It :=
  ⟨fun i H=>∃ (xs:List V) (x:V),SqX K H k a xs∧xs[i]?=some x,fun i H v H'=>∃ T us x,v=.ref T∧H T=none∧H'=upd H T (pT us [.int (i:Nat),x])∧∀ xs,SqX K H k a xs→xs[i]?=some x,fun i H=>∃ xs:List V,SqX K H k a xs∧xs.length=i⟩
theorem turn_enumX {P : Program} {w : World} {K : Frag} {elts : List Expr} {kk : Nat} {tpos : Pos} (k : Bool) (a e it : Addr) (hae : a ≠ e) (hai : a ≠ it) :
    Turn P w K (.Tuple elts kk tpos) (IteX K k a) [e,it] e (fun i h=>(∃ old,IsEnum h e it ((i:Nat):Int) old)∧IterX k h it a i∧e≠it) where
  mem:=by simp
  obj:=fun i h st b hb=>by
    obtain ⟨⟨old,he⟩,hi,_⟩:=st
    have e':b=e∨b=it:=by simpa using hb
    rcases e' with z | z
    · rw [z]; exact ⟨_,he,fun v q=>nomatch q⟩
    · rw [z]; exact iterX_obj hi
  keep:=fun i h h' st q=>let ⟨⟨old,he⟩,hi,hne⟩:=st; ⟨⟨old,q e (by simp) _ he⟩,iterX_at hi fun o z=>q it (by simp) o z,hne⟩
  item:=by
    intro X hP hw hK hc i pins s σ H E I hf st hg
    subst hP hw hK
    obtain ⟨⟨old,he⟩,hit,hne⟩:=st
    obtain ⟨xs,x,hq,hx⟩:=hg
    obtain ⟨its,rv,p,hz⟩:=inv_seqX I hq
    obtain ⟨u,hu,ru⟩:=rv.get hx
    have hel:e < s.heap.objs.size:=Heap.lt_size he
    have hil:it < s.heap.objs.size:=by obtain ⟨_,q,_⟩:=iterX_obj hit; exact Heap.lt_size q
    have hlt:i < its.toArray.size:=by
      have:=(List.getElem?_eq_some_iff.mp hu).1
      simpa using this
    refine wpAny_pyNext_enum_itemC (drawsX (by exact I.ok.hd hc) k it a hai its.toArray) he ⟨hit,p⟩ hlt hne (by simp [hne,hae.symm]) fun u' h' tk hu' ho st' hT hsz hk=>?_
    have eu:u'=u:=by
      have hu2:its[i]?=some u':=by simpa using hu'
      rw [hu] at hu2
      exact (Option.some.inj hu2).symm
    subst eu
    refine ⟨_,rfl,wpAny_letOwnedTupleGo_enum (s:={ s with heap:=h',toks:=tk + 1 }) ho fun h'' he' sb=>?_⟩
    have hT2:h''.get? s.heap.objs.size=some { cls:=.type "tuple",data:=.seq #[.int i tk,u'] }:=(sb.2 _ (Nat.ne_of_gt hel)).trans hT
    have new:ObjOk X.prog X.w (upd H s.heap.objs.size (pT [.int i tk,u'] [.int (i:Nat),x])) h'' s.heap.objs.size (pT [.int i tk,u'] [.int (i:Nat),x]) :=
      pT_ok ⟨hT2,by show 2≤sizeLine; decide,[.int i tk,u'],.cons ⟨_,rfl⟩ (.cons ru .nil),⟨_,hT2,rfl,_,rfl⟩⟩
    have I1:L2.Inv X pins σ (upd H s.heap.objs.size (pT [.int i tk,u'] [.int (i:Nat),x])) { s with heap:=h'',toks:=tk + 1 } :=
      I.turnedNew (ch:=[e,it]) (fun b ob hb q=>(sb.2 b (fun z=>hb (by simp [z]))).trans (hk b ob (fun z=>hb (by simp [z])) (fun z=>hb (by simp [z])) q)) hf (Nat.le_refl _) new
    refine ⟨.ref s.heap.objs.size,_,I1,rfl,⟨_,_,x,rfl,I.hok.fresh (Nat.le_refl _),rfl,fun ys hy=>by rw [inv_seqX_inj I hy hq]; exact hx⟩,⟨⟨u',?_⟩,iterX_at st'.1 fun o q=>(sb.2 it (Ne.symm hne)).trans q,hne⟩,fun b hb=>?_⟩
    · have e1:((i + 1:Nat):Int)=(i:Int) + 1:=by omega
      rw [e1]; exact he'
    · have hb' : b < s.heap.objs.size := by
        have e':b=e∨b=it:=by simpa using hb
        rcases e' with z | z
        · rw [z]; exact hel
        · rw [z]; exact hil
      rw [upd_ne (Nat.ne_of_lt hb')]
      exact (hf b hb).1
  done:=by
    intro X hP hw hK hc i pins s σ H E I hf st hg
    subst hP hw hK
    obtain ⟨⟨old,he⟩,hit,hne⟩:=st
    obtain ⟨xs,hq,hx⟩:=hg
    obtain ⟨its,rv,p,hz⟩:=inv_seqX I hq
    obtain ⟨f0,f1,f2,f3,f4,f5⟩:=hf it (by simp)
    have hl:=rv.length
    have hi:i=its.toArray.size:=by rw [List.size_toArray]; omega
    subst hi
    exact wpAny_pyNext_enum_endD (drawsX (by exact I.ok.hd hc) k it a hai its.toArray) he ⟨hit,p⟩ fun h' eb=>⟨rfl,I.turned (t':=s.toks) (fun b o hb q=>eb b o hb q) f0 f1 f3 f4 f5⟩
  self:=fun A i s Q E st h=>let ⟨⟨_,he⟩,_⟩:=st; wpAny_pyIter_enum he h
set_option maxHeartbeats 1000000 in
theorem meets_enumerate_new1 {v : Value} {o : Obj} {H : Heap → Prop} (B : Begins v o H) :
    Meets (Builtin.«enumerate.__new__» ⟨[.type "enumerate",v],[]⟩) (fun _ R s=>H s.heap ∧
      R (.ok (.ret (.ref (s.heap.push o).objs.size))) { s with heap:=(s.heap.push o).push { cls:=.type "enumerate",data:=.fields #[.none,.bool false,.ref s.heap.objs.size,rawInt 0,.none,.none] } }) :=
  .of_wp fun prog w A R s h=>by
    obtain ⟨hp,g,d,tk,os⟩:=s; obtain ⟨h1,h⟩:=h
    have hsub:=sub_enumerate
    have q1:∀ {A':Around} {E:Value→Shared→Prop} {Q:Value→Shared→Prop},Q (.ref hp.objs.size) ⟨hp.push o,g,d,tk,os⟩→wpAny (model prog w) A' (pyIter v) Q E ⟨hp,g,d,tk,os⟩ :=
      fun q=>B.iter prog w _ _ ⟨hp,g,d,tk,os⟩ _ h1 q
    wp_walk using q1
    refine wpAny_stack_any fun st=>wpAny_pure ?_
    split
    · rename_i c _ _ _ _ _
      cases (c == Value.type "enumerate")
      · wp_walk using q1
        exact ⟨_,rfl,h⟩
      · wp_walk using q1
        exact ⟨_,rfl,h⟩
    · wp_walk using q1
      exact ⟨_,rfl,h⟩
theorem enum_begins1 {prog : Program} {w : World} {A : Around} {E : Value → Shared → Prop} {s : Shared} {v : Value} {o : Obj} {H : Heap → Prop} {Q : Value → Shared → Prop} (B : Begins v o H) (h1 : H s.heap)
    (h:∀ h',IsEnum h' (s.heap.objs.size + 1) s.heap.objs.size 0 .none→h'.get? s.heap.objs.size=some o→h'.objs.size=s.heap.objs.size + 2 →
      (∀ b o,s.heap.get? b=some o→h'.get? b=some o)→Q (.ref (s.heap.objs.size + 1)) { s with heap:=h' }) :
    wpAny (model prog w) A (call (.type "enumerate") [v]) Q E s:=by
  refine callType_new F.called_enumerate (by decide) (F.typeCall_enumerate_1 _) (F.newCall_enumerate_1 _) (fun obj=>F.args_object_init_2 obj _) F.entry_enumerate_new
    (meets_enumerate_new1 B) ⟨h1,?_⟩
  have hz:(s.heap.push o).objs.size=s.heap.objs.size + 1:=Heap.size_push ..
  show _∧_
  rw [hz]
  have he:IsEnum ((s.heap.push o).push { cls:=.type "enumerate",data:=.fields #[.none,.bool false,.ref s.heap.objs.size,rawInt 0,.none,.none] }) (s.heap.objs.size + 1) s.heap.objs.size 0 .none:=by
    have:=Heap.get?_push_size (s.heap.push o) (o:={ cls:=.type "enumerate",data:=.fields #[.none,.bool false,.ref s.heap.objs.size,rawInt 0,.none,.none] }) rfl
    rw [hz] at this; exact this
  refine ⟨⟨_,he,rfl⟩,h _ he (Heap.get?_push_of_some _ (Heap.get?_push_size _ B.free)) (by rw [Heap.size_push,hz]) fun b o x=>Heap.get?_push_of_some _ (Heap.get?_push_of_some _ x)⟩
def iEnumX (K:Frag) (ta:TA):TI:=fun σ H R=>ta σ H fun vs H1=>∃ k a xs,vs=[.ref a]∧SqX K H1 k a xs∧R (IteX K k a) H1
theorem pi_enumX {X : Cx} {e : Expr} {ta : TA} {p pos tpos : Pos} {elts : List Expr} {kk : Nat} (hg : Gl X "enumerate") (hm : X.mg "enumerate" = none) (ha : PA X [e] ta) (hs : starEach [e] X.env = [(false, eval e X.env)]) :
    PI X (.Tuple elts kk tpos) (.Call (.Name "enumerate" p) [e] [] pos) (iEnumX X.K ta):=by
  refine ⟨fun pins s σ H R I h=>?_⟩
  refine Call_ (ld_blt I hg hm boot_enumerate (PyProof.Rows.callWith_type1 (thn (ha.run pos pins s σ H _ I h) fun us s1 ⟨vs,H1,I1,r1,q1⟩=>?_) hs rfl))
  obtain ⟨k,a,xs,ex,hq,q⟩:=q1
  subst ex
  cases r1 with
  | cons r rr =>
    cases rr
    cases r
    obtain ⟨its,rv,p',hz⟩:=inv_seqX I1 hq
    refine enum_begins1 (beginsX k a its.toArray) p' fun h' he hit hsz hk=>wpAny_pyIter_enum he ?_
    have I2:L2.Inv X pins σ H1 { s1 with heap:=h' }:=I1.kept (t':=s1.toks) hk
    refine ⟨s1.heap.objs.size + 1,[s1.heap.objs.size + 1,s1.heap.objs.size],_,_,H1,rfl,I2,turn_enumX k a (s1.heap.objs.size + 1) s1.heap.objs.size (Nat.ne_of_lt (Nat.lt_succ_of_lt hz)) (Nat.ne_of_lt hz),⟨⟨.none,he⟩,iterX_new hit,Nat.succ_ne_self _⟩,fun b hb=>?_,q⟩
    have e':b=s1.heap.objs.size + 1∨b=s1.heap.objs.size:=by simpa using hb
    have hle:s1.heap.objs.size≤b:=by
      rcases e' with z | z
      · rw [z]; exact Nat.le_add_right _ _
      · rw [z]; exact Nat.le_refl _
    exact I1.fpOk hle (I1.hok.fresh hle)
def ItzX (K:Frag) (k1 k2:Bool) (a b:Addr):It :=
  ⟨fun i H=>∃ (xs ys:List V) (x y:V),SqX K H k1 a xs∧SqX K H k2 b ys∧xs[i]?=some x∧ys[i]?=some y,
    fun i H v H'=>∃ T us x y,v=.ref T∧H T=none∧H'=upd H T (pT us [x,y])∧(∀ xs,SqX K H k1 a xs→xs[i]?=some x)∧∀ ys,SqX K H k2 b ys→ys[i]?=some y,
    fun i H=>∃ xs ys:List V,SqX K H k1 a xs∧SqX K H k2 b ys∧i≤xs.length∧i≤ys.length∧(i=xs.length∨i=ys.length)⟩
theorem turn_zipX {P : Program} {w : World} {K : Frag} {elts : List Expr} {kk : Nat} {tpos : Pos} (k1 k2 : Bool) {a b z TI TO i1 i2 : Addr} (Z : ZipSep2 z TI TO i1 i2 [i1, a] [i2, b]) (na : a ≠ i1) (nb : b ≠ i2) :
    Turn P w K (.Tuple elts kk tpos) (ItzX K k1 k2 a b) [z,TI,TO,i1,i2] z (fun i h=>IsZip h z TI TO .none∧IsTupOf2 h TI (.ref i1) (.ref i2)∧(∃ x y,IsTupOf2 h TO x y)∧IterX k1 h i1 a i∧IterX k2 h i2 b i) where
  mem:=by simp
  obj:=fun i h st c hc=>by
    obtain ⟨hz,hTI,⟨x,y,hTO⟩,h1,h2⟩:=st
    have e':c=z∨c=TI∨c=TO∨c=i1∨c=i2:=by simpa using hc
    rcases e' with q | q | q | q | q
    · rw [q]; exact ⟨_,hz,fun v q=>nomatch q⟩
    · rw [q]; exact ⟨_,hTI,fun v q=>nomatch q⟩
    · rw [q]; exact ⟨_,hTO,fun v q=>nomatch q⟩
    · rw [q]; exact iterX_obj h1
    · rw [q]; exact iterX_obj h2
  keep:=fun i h h' st k=>by
    obtain ⟨hz,hTI,⟨x,y,hTO⟩,h1,h2⟩:=st
    exact ⟨k z (by simp) _ hz,k TI (by simp) _ hTI,⟨x,y,k TO (by simp) _ hTO⟩,iterX_at h1 fun o q=>k i1 (by simp) o q,iterX_at h2 fun o q=>k i2 (by simp) o q⟩
  item:=by
    intro X hP hw hK hc i pins s σ H E I hf st hg
    subst hP hw hK
    obtain ⟨hz,hTI,⟨x0,y0,hTO⟩,h1,h2⟩:=st
    obtain ⟨xs,ys,x,y,hqx,hqy,hx,hy⟩:=hg
    obtain ⟨its,rv,p,_⟩:=inv_seqX I hqx
    obtain ⟨its2,rv2,p2,_⟩:=inv_seqX I hqy
    obtain ⟨u,hu,ru⟩:=rv.get hx
    obtain ⟨u2,hu2,ru2⟩:=rv2.get hy
    have hzl:z < s.heap.objs.size:=Heap.lt_size hz
    have n1:i < its.toArray.size:=by simpa using (List.getElem?_eq_some_iff.mp hu).1
    have n2:i < its2.toArray.size:=by simpa using (List.getElem?_eq_some_iff.mp hu2).1
    refine wpAny_pyNext_zipD2_item Z (drawsX (by exact I.ok.hd hc) k1 i1 a na its.toArray) (drawsX (by exact I.ok.hd hc) k2 i2 b nb its2.toArray) hz hTI hTO ⟨h1,p⟩ ⟨h2,p2⟩ n1 n2 fun x1 x2 h' tk e1 e2 z' TO' st1 st2 hT hsz hk=>?_
    have eu:x1=u:=by
      have q:its[i]?=some x1:=by simpa using e1
      rw [hu] at q
      exact (Option.some.inj q).symm
    have eu2:x2=u2:=by
      have q:its2[i]?=some x2:=by simpa using e2
      rw [hu2] at q
      exact (Option.some.inj q).symm
    subst eu eu2
    refine ⟨_,rfl,wpAny_letOwnedTupleGo_zip (s:={ s with heap:=h',toks:=tk }) z' fun h'' z'' sb=>?_⟩
    have hT2:h''.get? s.heap.objs.size=some { cls:=.type "tuple",data:=.seq #[x1,x2] }:=(sb.2 _ (Nat.ne_of_gt hzl)).trans hT
    have new:ObjOk X.prog X.w (upd H s.heap.objs.size (pT [x1,x2] [x,y])) h'' s.heap.objs.size (pT [x1,x2] [x,y]) :=
      pT_ok ⟨hT2,by show 2≤sizeLine; decide,[x1,x2],.cons ru (.cons ru2 .nil),⟨_,hT2,rfl,_,rfl⟩⟩
    have I1:L2.Inv X pins σ (upd H s.heap.objs.size (pT [x1,x2] [x,y])) { s with heap:=h'',toks:=tk } :=
      I.turnedNew (t':=tk) (ch:=[z,TI,TO,i1,i2]) (fun c o hb q=>(sb.2 c (fun q'=>hb (by simp [q']))).trans (hk c o (fun q'=>hb (by simp [q'])) (fun q'=>hb (by simp [q'])) (fun q'=>hb (by simp [q'])) (fun q'=>hb (by simp [q'])) q)) hf (Nat.le_refl _) new
    refine ⟨.ref s.heap.objs.size,_,I1,rfl,⟨_,_,x,y,rfl,I.hok.fresh (Nat.le_refl _),rfl,fun l hl=>by rw [inv_seqX_inj I hl hqx]; exact hx,fun l hl=>by rw [inv_seqX_inj I hl hqy]; exact hy⟩,⟨z'',?_,⟨x1,x2,?_⟩,?_,?_⟩,fun c hcm=>?_⟩
    · exact (sb.2 _ Z.TIz).trans (hk _ _ Z.TIz Z.TITO Z.TIi1 Z.TIi2 hTI)
    · exact (sb.2 _ Z.TOz).trans TO'
    · exact iterX_at st1.1 fun o q=>(sb.2 _ (Ne.symm Z.zi1)).trans q
    · exact iterX_at st2.1 fun o q=>(sb.2 _ (Ne.symm Z.zi2)).trans q
    · have hlt : c < s.heap.objs.size := by
        have e':c=z∨c=TI∨c=TO∨c=i1∨c=i2:=by simpa using hcm
        rcases e' with q | q | q | q | q
        · rw [q]; exact hzl
        · rw [q]; exact Heap.lt_size hTI
        · rw [q]; exact Heap.lt_size hTO
        · rw [q]; obtain ⟨_,e1,_⟩:=iterX_obj h1; exact Heap.lt_size e1
        · rw [q]; obtain ⟨_,e2,_⟩:=iterX_obj h2; exact Heap.lt_size e2
      rw [upd_ne (Nat.ne_of_lt hlt)]
      exact (hf c hcm).1
  done:=by
    intro X hP hw hK hc i pins s σ H E I hf st hg
    subst hP hw hK
    obtain ⟨hz,hTI,⟨x0,y0,hTO⟩,h1,h2⟩:=st
    obtain ⟨xs,ys,hqx,hqy,l1,l2,hend⟩:=hg
    obtain ⟨its,rv,p,_⟩:=inv_seqX I hqx
    obtain ⟨its2,rv2,p2,_⟩:=inv_seqX I hqy
    have e1:=rv.length
    have e2:=rv2.length
    exact wpAny_pyNext_zipD2_end Z (drawsX (by exact I.ok.hd hc) k1 i1 a na its.toArray) (drawsX (by exact I.ok.hd hc) k2 i2 b nb its2.toArray) hz hTI hTO ⟨h1,p⟩ ⟨h2,p2⟩ (by rw [List.size_toArray]; omega) (by rw [List.size_toArray]; omega) (by rw [List.size_toArray,List.size_toArray]; omega) fun h' tk hk=>⟨rfl,I.turnedL (t':=tk) (ch:=[z,TI,TO,i1,i2]) (fun c o hb q =>
      hk c o (fun q'=>hb (by simp [q'])) (fun q'=>hb (by simp [q'])) (fun q'=>hb (by simp [q'])) (fun q'=>hb (by simp [q'])) q) hf⟩
  self:=fun A i s Q E st h=>wpAny_pyIter_zip st.1 h
def iZipX (K:Frag) (ta:TA):TI:=fun σ H R=>ta σ H fun vs H1=>∃ k1 k2 a b xs ys,vs=[.ref a,.ref b]∧SqX K H1 k1 a xs∧SqX K H1 k2 b ys∧R (ItzX K k1 k2 a b) H1
theorem pi_zipX {X : Cx} {e e2 : Expr} {ta : TA} {p pos tpos : Pos} {elts : List Expr} {kk : Nat} (hg : Gl X "zip") (hm : X.mg "zip" = none) (ha : PA X [e, e2] ta)
    (hs:starEach [e,e2] X.env=(false,eval e X.env) :: starEach [e2] X.env) (hpl:(backTo pos (starEach [e2] X.env)).any (·.1)=false) :
    PI X (.Tuple elts kk tpos) (.Call (.Name "zip" p) [e,e2] [] pos) (iZipX X.K ta):=by
  refine ⟨fun pins s σ H R I h=>?_⟩
  refine Call_ (ld_blt I hg hm PyProof.Rows.boot_zip (PyProof.Rows.callWith_type1 (thn (ha.run pos pins s σ H _ I h) fun us s1 ⟨vs,H1,I1,r1,q1⟩=>?_) hs hpl))
  obtain ⟨k1,k2,a,b,xs,ys,ex,hqx,hqy,q⟩:=q1
  subst ex
  cases r1 with
  | cons r rr =>
    cases rr with
    | cons r' rr =>
      cases rr
      cases r
      cases r'
      have fresh5:∀ c,c∈[s1.heap.objs.size + 4,s1.heap.objs.size + 2,s1.heap.objs.size + 3,s1.heap.objs.size,s1.heap.objs.size + 1]→FpOk X pins H1 c:=fun c hcm=>by
        have e':c=s1.heap.objs.size + 4∨c=s1.heap.objs.size + 2∨c=s1.heap.objs.size + 3∨c=s1.heap.objs.size∨c=s1.heap.objs.size + 1:=by simpa using hcm
        have hle:s1.heap.objs.size≤c:=by
          rcases e' with z | z | z | z | z
          · rw [z]; exact Nat.le_add_right _ _
          · rw [z]; exact Nat.le_add_right _ _
          · rw [z]; exact Nat.le_add_right _ _
          · rw [z]; exact Nat.le_refl _
          · rw [z]; exact Nat.le_add_right _ _
        exact I1.fpOk hle (I1.hok.fresh hle)
      obtain ⟨its,rv,p1,l1⟩:=inv_seqX I1 hqx
      obtain ⟨its2,rv2,p2,l2⟩:=inv_seqX I1 hqy
      refine zip_begins2 (beginsX k1 a its.toArray) (beginsX k2 b its2.toArray) p1 p2 fun h' hz hTI hTO h1 h2 hsz hk=>wpAny_pyIter_zip hz ?_
      have I2:L2.Inv X pins σ H1 { s1 with heap:=h' }:=I1.kept (t':=s1.toks) hk
      refine ⟨s1.heap.objs.size + 4,[s1.heap.objs.size + 4,s1.heap.objs.size + 2,s1.heap.objs.size + 3,s1.heap.objs.size,s1.heap.objs.size + 1],_,_,H1,rfl,I2,turn_zipX k1 k2 (zip_sep2 (fp1:=[a]) (fp2:=[b]) ?_ ?_) (Nat.ne_of_lt l1) (Nat.ne_of_lt (Nat.lt_succ_of_lt l2)),⟨hz,hTI,⟨_,_,hTO⟩,iterX_new h1,iterX_new h2⟩,fresh5,q⟩
      · intro c hc
        have:c=a:=by simpa using hc
        rw [this]; exact l1
      · intro c hc
        have:c=b:=by simpa using hc
        rw [this]; exact l2
section
variable {X:Cx} {B:Base} {W:WX} {Γ Γ1 Γn:Ow} {o:OC} {e a b c:Expr} {fa fb fc fe:En→R D} {pos:Pos} {es:List Expr} {fs:En→R (List D)}
theorem dItems_noexc (x:D) (c:Str):dItems x≠.exc c:=by unfold dItems; split <;> exact fun z=>nomatch z
theorem seqX_of {K:Frag} {G H:Hp} {v:V} {d:D} {ds:List D} (e:Sub G H) (r:RB K G H v d) (h:dItems d=.ok ds):∃ k a vs,v=.ref a∧(∀ H',Kp K H H'→SqX K H' k a vs)∧vs.length≤sizeLine∧RDs K G vs ds:=by
  cases d with
  | tup xs =>
    cases h
    obtain ⟨a,vs,rfl,s,l,rs⟩:=r.tup.tup_inv
    exact ⟨false,a,vs,rfl,fun H' q=>((s.same e.s).kp q).sq,l,rs⟩
  | lst xs =>
    cases h
    obtain ⟨a,vs,rfl,s,l,rs⟩:=r.lst e
    exact ⟨true,a,vs,rfl,fun H' q=>.inl (.inl (q _ _ s rfl)),l,rs⟩
  | arr xs =>
    cases h
    obtain ⟨a,vs,rfl,s,l,rs⟩:=r.arr e
    exact ⟨true,a,vs,rfl,fun H' q=>q.seq s,l,rs⟩
  | _=>cases h
theorem seqX_fz {K:Frag} {G:Hp} {v:V} {d:D} {ds:List D} (n:NoT G) (r:RD K G v d) (h:dItems d=.ok ds):∃ k a vs,v=.ref a∧(∀ H',Kp K G H'→SqX K H' k a vs)∧vs.length≤sizeLine∧RDs K G vs ds:=by
  obtain ⟨k,a,vs,e,q,l,rs⟩:=seqX_of (.refl n) (.fz (H:=G) r) h
  exact ⟨k,a,vs,e,q,l,rs⟩
def enumL (ds:List D):List D:=ds.zipIdx.map fun p=>.tup [.int (p.2:Nat),p.1]
theorem enumL_get {ds:List D} {i:Nat} {d:D} (h:(enumL ds)[i]?=some d):∃ x,ds[i]?=some x∧d=.tup [.int i,x]:=by
  unfold enumL at h
  rw [List.getElem?_map,List.getElem?_zipIdx] at h
  cases q:ds[i]? with
  | none=>rw [q] at h; cases h
  | some x =>
    rw [q] at h
    cases h
    refine ⟨x,rfl,?_⟩
    simp
theorem enumL_len (ds:List D):(enumL ds).length=ds.length:=by unfold enumL; rw [List.length_map,List.length_zipIdx]
theorem two_le:2≤sizeLine:=by rw [sizeLine_eq]; decide
theorem it_enum {K:Frag} {k:Bool} {a:Addr} {vs:List V} {ds:List D} {G Z:Hp} (l:vs.length≤sizeLine) (r:RDs K G vs ds) (hz:∀ H,Kp K Z H→SqX K H k a vs):ItOk K (IteX K k a) (enumL ds) G Z :=
  ⟨by rw [enumL_len,← r.length]; exact l,fun G1 H1 _ _ h=>⟨vs,hz H1 h,by rw [enumL_len]; exact r.length⟩,
    fun i d G1 H1 e _ _ h=>by
      obtain ⟨x,ex,_⟩:=enumL_get e
      obtain ⟨v,ev,_⟩:=r.get ex
      exact ⟨vs,v,hz H1 h,ev⟩,
    fun i d G1 H1 x H2 e g gh h y=>by
      obtain ⟨T,us,xv,rfl,hT,rfl,y⟩:=y
      obtain ⟨xd,ex,rfl⟩:=enumL_get e
      obtain ⟨v,ev,rd⟩:=r.get ex
      have:=y vs (hz _ h)
      rw [ev] at this
      cases this
      obtain ⟨g2,rt⟩:=new_tup (K:=K) (vs:=[V.int (i:Nat),xv]) gh hT two_le (RDs.cons (.int (i:Nat)) (.cons (rd.mono g) .nil))
      exact ⟨_,g2,rt⟩⟩
def eEnum (fs:En→R (List D)):En→R (List D):=fun s=>fs s >>= fun ds=>match ds with
  | [d]=>dItems d >>= fun xs=>.ok (enumL xs)
  | _=>.stuck
theorem ei_enum {elts:List Expr} {kk:Nat} {tpos p:Pos} (hs:noStar a=true) (hg:Gl X "enumerate") (hm:X.mg "enumerate"=none) (ha:EBs X B W Γ [a] fs):EI X B W Γ (.Tuple elts kk tpos) (.Call (.Name "enumerate" p) [a] [] pos) (eEnum fs) :=
  PI.imp (pi_enumX hg hm ha (noStar_ok hs _ _)) fun σ H R ⟨s,G,rl,k⟩=>⟨s,G,rl,k.bind.imp (fun ds _ k vs G1 H1 g1 rs=>by
    cases rs with
    | nil=>exact k.elim
    | cons r rr =>
      cases rr with
      | cons _ _=>exact k.elim
      | nil =>
        obtain ⟨xs,e,k⟩:=(show Done (dItems _ >>= fun xs=>Hr.R.ok (enumL xs)) _ _ from k).bind.ok (dItems_noexc _)
        obtain ⟨kb,a',vs',rfl,hq,l,rs'⟩:=seqX_of g1.gh r e
        exact ⟨kb,a',vs',rfl,hq _ (.refl _),k _ G1 H1 g1 (it_enum l rs' hq)⟩) fun _ z=>z⟩
theorem eif_enum {elts:List Expr} {kk:Nat} {tpos p:Pos} (hs:noStar a=true) (hg:Gl X "enumerate") (hm:X.mg "enumerate"=none) (ha:EVs X B W Γ [a] fs):EIf X B W Γ (.Tuple elts kk tpos) (.Call (.Name "enumerate" p) [a] [] pos) (eEnum fs) :=
  PI.imp (pi_enumX hg hm ha (noStar_ok hs _ _)) fun σ H R ⟨s,G,rl,k⟩=>⟨s,G,rl,k.bind.imp (fun ds _ k vs G1 H1 g1 rs=>by
    cases rs with
    | nil=>exact k.elim
    | cons r rr =>
      cases rr with
      | cons _ _=>exact k.elim
      | nil =>
        obtain ⟨xs,e,k⟩:=(show Done (dItems _ >>= fun xs=>Hr.R.ok (enumL xs)) _ _ from k).bind.ok (dItems_noexc _)
        obtain ⟨kb,a',vs',rfl,hq,l,rs'⟩:=seqX_fz g1.gh.n r e
        exact ⟨kb,a',vs',rfl,hq _ (.of g1.gh.s),k _ G1 H1 g1 (it_enum l rs' hq)⟩) fun _ z=>z⟩
def zipL (xs ys:List D):List D:=List.zipWith (fun x y=>.tup [x,y]) xs ys
theorem it_zip {K:Frag} {k1 k2:Bool} {a b:Addr} {vs ws:List V} {ds es:List D} {G Z:Hp} (l:vs.length≤sizeLine) (r:RDs K G vs ds) (r2:RDs K G ws es) (hz:∀ H,Kp K Z H→SqX K H k1 a vs) (hz2:∀ H,Kp K Z H→SqX K H k2 b ws):ItOk K (ItzX K k1 k2 a b) (zipL ds es) G Z:=by
  have hl:(zipL ds es).length=min ds.length es.length:=by unfold zipL; rw [List.length_zipWith]
  have get:∀ (i:Nat) (d:D),(zipL ds es)[i]?=some d→∃ x y,ds[i]?=some x∧es[i]?=some y∧d=D.tup [x,y]:=by
    intro i d h
    unfold zipL at h
    rw [List.getElem?_zipWith] at h
    cases q1:ds[i]? with
    | none=>rw [q1] at h; simp at h
    | some x =>
      cases q2:es[i]? with
      | none=>rw [q1,q2] at h; simp at h
      | some y =>
        rw [q1,q2] at h
        simp at h
        exact ⟨x,y,rfl,rfl,h.symm⟩
  refine ⟨by rw [hl]; have:=r.length; omega,fun G1 H1 _ _ h=>⟨vs,ws,hz H1 h,hz2 H1 h,?_,?_,?_⟩,fun i d G1 H1 e _ _ h=>?_,fun i d G1 H1 x H2 e g gh h y=>?_⟩
  · rw [hl,r.length]; omega
  · rw [hl,r2.length]; omega
  · rw [hl,r.length,r2.length]; omega
  · obtain ⟨x,y,ex,ey,_⟩:=get i d e
    obtain ⟨v,ev,_⟩:=r.get ex
    obtain ⟨v2,ev2,_⟩:=r2.get ey
    exact ⟨vs,ws,v,v2,hz H1 h,hz2 H1 h,ev,ev2⟩
  · obtain ⟨T,us,xv,yv,rfl,hT,rfl,y1,y2⟩:=y
    obtain ⟨xd,yd,ex,ey,rfl⟩:=get i d e
    obtain ⟨v,ev,rd⟩:=r.get ex
    obtain ⟨v2,ev2,rd2⟩:=r2.get ey
    have q1:=y1 vs (hz _ h)
    have q2:=y2 ws (hz2 _ h)
    rw [ev] at q1
    rw [ev2] at q2
    cases q1; cases q2
    obtain ⟨g2,rt⟩:=new_tup (K:=K) (vs:=[xv,yv]) gh hT two_le (RDs.cons (rd.mono g) (.cons (rd2.mono g) .nil))
    exact ⟨_,g2,rt⟩
def eZip (fs:En→R (List D)):En→R (List D):=fun s=>fs s >>= fun ds=>match ds with
  | [d,e]=>dItems d >>= fun xs=>dItems e >>= fun ys=>.ok (zipL xs ys)
  | _=>.stuck
theorem ei_zip {elts:List Expr} {kk:Nat} {tpos p:Pos} (hs:noStar a=true) (hs2:noStar b=true) (hg:Gl X "zip") (hm:X.mg "zip"=none) (ha:EBs X B W Γ [a,b] fs):EI X B W Γ (.Tuple elts kk tpos) (.Call (.Name "zip" p) [a,b] [] pos) (eZip fs) :=
  PI.imp (pi_zipX hg hm ha (noStar_ok hs _ _) (noStars_any (by simp [hs2]))) fun σ H R ⟨s,G,rl,k⟩=>⟨s,G,rl,k.bind.imp (fun ds _ k vs G1 H1 g1 rs=>by
    cases rs with
    | nil=>exact k.elim
    | cons r rr =>
      cases rr with
      | nil=>exact k.elim
      | cons r2 rr =>
        cases rr with
        | cons _ _=>exact k.elim
        | nil =>
          obtain ⟨xs,e,k⟩:=(show Done (dItems _ >>= fun xs=>dItems _ >>= fun ys=>Hr.R.ok (zipL xs ys)) _ _ from k).bind.ok (dItems_noexc _)
          obtain ⟨ys,e2,k⟩:=k.bind.ok (dItems_noexc _)
          obtain ⟨k1,a',vs',rfl,hq,l,rs'⟩:=seqX_of g1.gh r e
          obtain ⟨k2,b',ws',rfl,hq2,l2,rs2'⟩:=seqX_of g1.gh r2 e2
          exact ⟨k1,k2,a',b',vs',ws',rfl,hq _ (.refl _),hq2 _ (.refl _),k _ G1 H1 g1 (it_zip l rs' rs2' hq hq2)⟩) fun _ z=>z⟩
theorem eif_zip {elts:List Expr} {kk:Nat} {tpos p:Pos} (hs:noStar a=true) (hs2:noStar b=true) (hg:Gl X "zip") (hm:X.mg "zip"=none) (ha:EVs X B W Γ [a,b] fs):EIf X B W Γ (.Tuple elts kk tpos) (.Call (.Name "zip" p) [a,b] [] pos) (eZip fs) :=
  PI.imp (pi_zipX hg hm ha (noStar_ok hs _ _) (noStars_any (by simp [hs2]))) fun σ H R ⟨s,G,rl,k⟩=>⟨s,G,rl,k.bind.imp (fun ds _ k vs G1 H1 g1 rs=>by
    cases rs with
    | nil=>exact k.elim
    | cons r rr =>
      cases rr with
      | nil=>exact k.elim
      | cons r2 rr =>
        cases rr with
        | cons _ _=>exact k.elim
        | nil =>
          obtain ⟨xs,e,k⟩:=(show Done (dItems _ >>= fun xs=>dItems _ >>= fun ys=>Hr.R.ok (zipL xs ys)) _ _ from k).bind.ok (dItems_noexc _)
          obtain ⟨ys,e2,k⟩:=k.bind.ok (dItems_noexc _)
          obtain ⟨k1,a',vs',rfl,hq,l,rs'⟩:=seqX_fz g1.gh.n r e
          obtain ⟨k2,b',ws',rfl,hq2,l2,rs2'⟩:=seqX_fz g1.gh.n r2 e2
          exact ⟨k1,k2,a',b',vs',ws',rfl,hq _ (.of g1.gh.s),hq2 _ (.of g1.gh.s),k _ G1 H1 g1 (it_zip l rs' rs2' hq hq2)⟩) fun _ z=>z⟩
end
end Hr
end
section
namespace Hr
open PySem PySem.Spec PyProof.Rows L2
def ZipE (h:Heap) (z TI TO:Addr):Prop :=
  ∃ (v:Value) (f:Bool),(v=.none∨∃ T:Addr,v=rawInt T)∧h.get? z=some { cls:=.type "zip",dict:=none,data:=.fields #[v,.bool f,.bool false,.ref TI,.ref TO],slots:= #[] }
theorem ZipE.of {h:Heap} {z TI TO:Addr} (x:IsZip h z TI TO .none):ZipE h z TI TO:=⟨_,_,.inl rfl,x⟩
section
variable {prog:Program} {w:World} {A:Around} {E:Value→Shared→Prop} {s:Shared} {z TI TO i1 i2:Addr} {fp1 fp2:List Addr} {n1 n2 i:Nat} {P1 P2:Nat→Value→Prop} {St1 St2:Nat→Heap→Prop} {a1 a2:Value}
set_option maxHeartbeats 1600000 in
set_option maxHeartbeats 1600000 in
end
set_option maxHeartbeats 1600000 in
set_option maxHeartbeats 1000000 in
section
variable {X:Cx} {B:Base} {W:WX} {Γ Γ1 Γn:Ow} {o:OC} {e a b c:Expr} {fa fb fc fe:En→R D} {pos:Pos} {es:List Expr} {fs:En→R (List D)}
def eEnumZ (fs:En→R (List D)):En→R (List D):=fun s=>fs s >>= fun ds=>match ds with
  | [d,e]=>dItems d >>= fun xs=>dItems e >>= fun ys=>.ok (enumL (zipL xs ys))
  | _=>.stuck
end
end Hr
end
section
namespace Hr
open PySem PySem.Spec L2
def insD {α:Type} (le:α→α→Bool) (a:α):List α→List α
  | []=>[a]
  | b :: l=>if le a b then a :: b :: l else b :: insD le a l
def isort {α:Type} (le:α→α→Bool):List α→List α
  | []=>[]
  | a :: l=>insD le a (isort le l)
theorem insD_mid {α:Type} {le:α→α→Bool} {a:α}:∀ {l1 l2:List α},(∀ b∈l1,(!le a b)=true)→(∀ b∈l2,le a b=true)→insD le a (l1 ++ l2)=l1 ++ a :: l2
  | [],[],_,_=>rfl
  | [],b :: l2,_,h=>by
    show (if le a b then a :: b :: l2 else _)=_
    rw [if_pos (h b (List.mem_cons_self ..))]
    rfl
  | b :: l1,l2,h,h2=>by
    have hb:le a b=false:=by simpa using h b (List.mem_cons_self ..)
    show (if le a b then _ else b :: insD le a (l1 ++ l2))=_
    rw [if_neg (by rw [hb]; exact fun z=>nomatch z),insD_mid (fun c m=>h c (List.mem_cons_of_mem _ m)) h2]
    rfl
theorem msort_eq {α:Type} {le:α→α→Bool} (tr:∀ a b c:α,le a b=true→le b c=true→le a c=true) (to:∀ a b:α,(le a b || le b a)=true):∀ l:List α,l.mergeSort le=isort le l
  | []=>by simp [isort]
  | a :: l=>by
    obtain ⟨l1,l2,e1,e2,h⟩:=List.mergeSort_cons tr to a l
    have hs:=List.pairwise_mergeSort tr to (a :: l)
    rw [e1] at hs
    rw [e1]
    show _=insD le a (isort le l)
    rw [← msort_eq tr to l,e2,insD_mid h]
    intro b hb
    have:=(List.pairwise_append.mp hs).2.1
    exact (List.pairwise_cons.mp this).1 b hb
def leD (a b:D):Bool:= !PySem.W.dataLt b.py a.py
theorem leD_tr (a b c:D) (h1:leD a b=true) (h2:leD b c=true):leD a c=true:=(PySem.W.sortLe_total (PyProof.Rows.listOrd PyProof.Rows.itemOrd) false (fun d:D=>PySem.W.keyToks d.py)).trans a b c h1 h2
theorem leD_to (a b:D):(leD a b || leD b a)=true:=Bool.or_eq_true_iff.mpr ((PySem.W.sortLe_total (PyProof.Rows.listOrd PyProof.Rows.itemOrd) false (fun d:D=>PySem.W.keyToks d.py)).total a b)
def sortOk (ds:List D):Bool:=D.pls ds && (ds.all fun a=>ds.all fun b=>PySem.W.alike a.py b.py) && ((ds.all fun d=>match d with | .tup (_ :: _)=>true | _=>false) || (ds.all fun d=>match d with | .int _=>true | .str _=>true | .lst _=>true | _=>false)) && (ds.all fun d=>decide (d.dep≤60))
def dSort:D→R D
  | .lst ds=>if sortOk ds then .ok (.lst (isort leD ds)) else .stuck
  | _=>.stuck
theorem dSort_noexc (x:D) (c:Str):dSort x≠.exc c:=by
  unfold dSort
  split
  · split <;> exact fun z=>nomatch z
  · exact fun z=>nomatch z
def rSortedD (K:Frag):List V→Hp→VK→Prop:=fun vs H Q=>∃ (a:Addr) (xs:List V) (ds:List D),vs=[V.ref a]∧SqL K H a xs∧xs.length=ds.length∧(∀ p∈xs.zip ds,Dp K H p.1 p.2.py)∧sortOk ds=true ∧
  ∀ (zs:List (V×D)) (p:Addr),zs.Perm (xs.zip ds)→zs.map (·.2)=isort leD ds→H p=none→Q (.ref p) (upd H p (.lst (zs.map (·.1))))
theorem eachIs_zip {X : Cx} {pins : List (Addr × Obj)} {σ : St} {H : Hp} {s : Shared} (I : Inv X pins σ H s) : ∀ {xs : List V} {us : List Value} {ds : List D}, Vals xs us → xs.length = ds.length → (∀ p ∈ xs.zip ds, Dp X.K H p.1 p.2.py) →
    PySem.W.EachIs (fun (u:Value) (p:V×D)=>RelV p.1 u) us (xs.zip ds)∧PySem.W.EachIs (fun (u:Value) (p:V×D)=>∃ as,Reads s.heap u p.2.py as) us (xs.zip ds)
  | _,_,[],.nil,_,_=>⟨.nil,.nil⟩
  | _,_,d :: ds,.cons r t,e,h=>by
    obtain ⟨h1,h2⟩:=eachIs_zip I t (Nat.succ.inj e) fun p m=>h p (List.mem_cons_of_mem _ m)
    exact ⟨.cons r h1,.cons (Dp.reads I _ _ _ (h (_,d) (List.mem_cons_self ..)) r) h2⟩
  | _,_,d :: ds,.nil,e,_=>by cases e
  | _,_,[],.cons _ _,e,_=>by cases e
theorem vals_each:∀ {us:List Value} {zs:List (V×D)},PySem.W.EachIs (fun (u:Value) (p:V×D)=>RelV p.1 u) us zs→Vals (zs.map (·.1)) us
  | _,_,.nil=>.nil
  | _,_,.cons r t=>.cons r (vals_each t)
theorem cr_sortedD {X:Cx} (hu:X.A.units + 65 < cLine):CallR X (.builtin "sorted") (rSortedD X.K):=by
  intro pins s σ H vs us Q I r h
  obtain ⟨a,xs,ds,rfl,hs,he,hd,ok,q⟩:=h
  obtain ⟨its,rv,hl,hz⟩:=I.list hs
  rw [Vals.ref1 r]
  obtain ⟨e1,e2⟩:=eachIs_zip I rv he hd
  unfold sortOk at ok
  obtain ⟨ok,o4⟩:=and2 ok
  obtain ⟨ok,o3⟩:=and2 ok
  obtain ⟨o1,o2⟩:=and2 ok
  have hsnd:(xs.zip ds).map (·.2)=ds:=List.map_snd_zip (by omega)
  have hfst:(xs.zip ds).map (·.1)=xs:=List.map_fst_zip (by omega)
  have mem2:∀ p∈xs.zip ds,p.2∈ds:=fun p m=>by rw [← hsnd]; exact List.mem_map.mpr ⟨p,m,rfl⟩
  have hal:PySem.W.AllAlike ((xs.zip ds).map fun p:V×D=>p.2.py):=by
    intro d hd' d' hd''
    obtain ⟨p,m,rfl⟩:=List.mem_map.mp hd'
    obtain ⟨p',m',rfl⟩:=List.mem_map.mp hd''
    exact List.all_eq_true.mp (List.all_eq_true.mp o2 _ (mem2 p m)) _ (mem2 p' m')
  have hk:PySem.W.Sortable ((xs.zip ds).map fun p:V×D=>p.2.py):=by
    rcases Bool.or_eq_true_iff.mp o3 with o | o
    · left
      intro d hd'
      obtain ⟨p,m,rfl⟩:=List.mem_map.mp hd'
      have:=List.all_eq_true.mp o _ (mem2 p m)
      generalize p.2=d at this
      split at this
      · exact ⟨_,_,rfl⟩
      · cases this
    · right
      intro d hd'
      obtain ⟨p,m,rfl⟩:=List.mem_map.mp hd'
      have:=List.all_eq_true.mp o _ (mem2 p m)
      generalize p.2=d at this
      split at this
      · exact And.intro (fun z=>PyData.noConfusion z) (fun _ z=>PyData.noConfusion z)
      · exact And.intro (fun z=>PyData.noConfusion z) (fun _ z=>PyData.noConfusion z)
      · exact And.intro (fun z=>PyData.noConfusion z) (fun _ z=>PyData.noConfusion z)
      · cases this
  have hlen:(xs.zip ds).length=xs.length:=by rw [← List.length_map (f:=(·.1)),hfst]
  refine PySem.W.sorted_data (enc:=fun p:V×D=>p.2.py) hl.isList e1 e2 hal hk (by rw [hlen]; exact hz) (fun p m=>?_) fun out h1 h2=>?_
  · have:=of_decide_eq_true (List.all_eq_true.mp o4 _ (mem2 p m))
    show X.A.units + 2 + p.2.dep < cLine
    omega
  · obtain ⟨ep,he'⟩:=PyProof.Rows.sortedAll_at s.heap its out.toArray
    have v2:=vals_each h2
    have hms:((xs.zip ds).mergeSort (PySem.W.dataLe false fun p:V×D=>p.2.py)).map (·.2)=isort leD ds:=by
      rw [List.map_mergeSort (r:=PySem.W.dataLe false fun p:V×D=>p.2.py) (s:=leD) (f:=fun p:V×D=>p.2) (fun _ _ _ _=>rfl),hsnd,msort_eq leD_tr leD_to]
    refine ⟨.ref _,upd H (s.heap.objs.size + 1) (.lst _),I.laid (t':=s.toks) (fun _ _=>PyProof.Rows.sortedAll_old) (Nat.le_succ _) ⟨?_,out,ep,v2,he'⟩,rfl,q _ _ (List.mergeSort_perm ..) hms (I.hok.fresh (Nat.le_succ _))⟩
    rw [List.length_map,List.length_mergeSort,hlen]
    exact hz
theorem RDs.zip {K:Frag} {G:Hp}:∀ {vs:List V} {ds:List D},RDs K G vs ds→∀ p∈vs.zip ds,RD K G p.1 p.2
  | _,_,.nil,p,m=>by simp at m
  | _,_,.cons a r,p,m=>by
    rcases List.mem_cons.mp m with e | m
    · rw [e]; exact a
    · exact RDs.zip r p m
theorem RDs.ofZip {K:Frag} {G:Hp}:∀ {zs:List (V×D)},(∀ p∈zs,RD K G p.1 p.2)→RDs K G (zs.map (·.1)) (zs.map (·.2))
  | [],_=>.nil
  | z :: zs,h=>.cons (h z (List.mem_cons_self ..)) (RDs.ofZip fun p m=>h p (List.mem_cons_of_mem _ m))
theorem pls_mem:∀ {ds:List D},D.pls ds=true→∀ d∈ds,d.pl=true
  | [],_,d,m=>by cases m
  | e :: ds,h,d,m=>by
    obtain ⟨h1,h2⟩:=and2 (show (D.pl e && D.pls ds)=true from h)
    rcases List.mem_cons.mp m with q | m
    · rw [q]; exact h1
    · exact pls_mem h2 d m
theorem cd_sort {K:Frag}:CallD K (rSortedD K) (on1 dSort) (.own .fz):=calld1 fun x dx d G H Q e r hg k=>by
  unfold dSort at hg
  split at hg
  · rename_i ds
    split at hg
    · rename_i ok
      cases hg
      obtain ⟨a,vs,rfl,s,l,rs⟩:=r.lst e
      have hz:=rs.zip
      have hp:D.pls ds=true:=by
        have ok':=ok
        unfold sortOk at ok'
        exact (and2 (and2 (and2 ok').1).1).1
      have hsnd:(vs.zip ds).map (·.2)=ds:=List.map_snd_zip (by rw [rs.length]; exact Nat.le_refl _)
      refine ⟨a,vs,ds,rfl,.inl (.inl s),rs.length,fun p m=>?_,ok,fun zs p pm e2 hp'=>?_⟩
      · exact RD.dp ((hz p m).mono e) (pls_mem hp _ (by rw [← hsnd]; exact List.mem_map.mpr ⟨p,m,rfl⟩))
      · have rz:=RDs.ofZip (zs:=zs) fun p m=>hz p (pm.mem_iff.mp m)
        rw [e2] at rz
        have hl:(zs.map (·.1)).length≤sizeLine:=by
          rw [List.length_map,pm.length_eq,List.length_zip,rs.length,Nat.min_self,← rs.length]
          exact l
        obtain ⟨g,n⟩:=new_own (K:=K) e hp' hl rz
        exact k _ _ _ g n
    · cases hg
  · cases hg
end Hr
end
section
namespace Hr
open PySem PySem.Spec L2 PyProof.Rows
section
variable {X:Cx} {x n y:Str} {c:Value} {i j:Nat} {body:List Stmt} {np pos pos' p1 p2 p3:Pos} {tb:WX→TS} {Wout:WX}
variable {B:Base} {W:WX} {Γ Γn:Ow} {o:OC} {f:En→Out}
end
end Hr
end
section
namespace Hr
open PySem PySem.Spec L2 PyProof.Rows
section
variable {X:Cx} {B:Base} {W:WX} {Γ:Ow} {e a b c:Expr} {fa fb fc:En→R D} {pos:Pos} {es:List Expr} {fs:En→R (List D)}
theorem RB.exc {K:Frag} {G H:Hp} {v:V} {c:Str} (e:Sub G H) (h:RB K G H v (.exc c)):∃ a,v=.ref a∧H a=some (XO (clsV K c) a):=by
  cases h with
  | fz r=>cases r with
    | exc s=>exact ⟨_,rfl,e _ _ s⟩
def rCountD (K:Frag):V→List V→Hp→VK→Prop:=fun x xs H Q=>∃ (a:Addr) (y:V) (d:PyData) (ds:List PyData),x=V.ref a∧xs=[y]∧Dp K H (V.ref a) (.list ds)∧Dp K H y d ∧
  SeqAt.shaped (.list ds)=true∧SeqAt.shaped d=true∧Q (.int (ds.countP fun z=>PyData.eqv z d:Nat)) H
theorem mt_countD (hu:X.A.units + 65 < cLine):MtR X "list.count" (rCountD X.K):=by
  intro pins s σ H x xs v us Q I rx rxs h
  obtain ⟨a,y,d,ds,rfl,rfl,hl,hy,sl,sd,q⟩:=h
  cases rx
  cases rxs with
  | cons ry rt =>
    rename_i uy ut
    cases rt
    obtain ⟨bs,r1⟩:=Dp.reads I d y uy hy ry
    have hxs:PyData.canLayAll0 ds=true:=SeqAt.canLay_of_shaped sl
    have hroom:X.A.units + 1 + min (PyData.depthAll ds) d.depth < cLine:=room_in_shaped sd hu
    cases hl with
    | lst hs ha =>
      obtain ⟨its,rv,⟨⟨cls,dd,data,sls⟩,n,ho,hc,hdn,hdt⟩,hlen⟩:=I.list hs
      simp only at hc hdt
      subst hc hdt
      obtain ⟨as,h4⟩:=Dp.readsAll I ds _ its ha rv
      have hmap:its.map (SeqAt.readOf s.heap)=ds:=SeqAt.readsAll_map ds its as hxs h4
      refine call_meets PySem.F.slot_list_count ⟨_,ho,rfl⟩ PySem.F.entry_list_count (PySem.F.args_list_count_2 _ _)
        (SeqAt.list_countAt a its.toArray n dd sls uy (fun u=>PyData.eqv (SeqAt.readOf s.heap u) d)) ⟨ho,SeqAt.items_eqAt (vs:=its.toArray) (show ReadsAll s.heap its.toArray.toList ds as from h4) r1 hxs (SeqAt.canLay_of_shaped sd) hroom,?_⟩
      have ec:its.toArray.toList.countP (fun u=>PyData.eqv (SeqAt.readOf s.heap u) d)=ds.countP fun z=>PyData.eqv z d:=by
        rw [← hmap,List.countP_map]; rfl
      refine ⟨.int ((ds.countP fun z=>PyData.eqv z d:Nat):Int),H,I.tok _,⟨s.toks,?_⟩,q⟩
      show Value.int ((its.toArray.toList.countP (fun u=>PyData.eqv (SeqAt.readOf s.heap u) d):Nat):Int) s.toks=_
      rw [ec]
def dCount (ds:List D) (y:D):R D:=if y.pl && D.pls ds && decide (y.dep≤60) && decide (PyData.depthAll (D.pys ds)≤60) then .ok (.int (ds.countP fun z=>D.eqv z y:Nat)) else .stuck
theorem dCount_noexc (x:List D) (y:D) (c:Str):dCount x y≠.exc c:=by
  unfold dCount
  split <;> exact fun z=>nomatch z
def eCount (fa fb:En→R D):En→R D:=fun s=>fa s >>= fun x=>asL x >>= fun ds=>fb s >>= fun y=>dCount ds y
theorem ev_count {apos cpos:Pos} (hu:X.A.units + 65 < cLine) (hn:notSuper a=true) (hl:(apos.endLine == cpos.line)=true) (hs:noStar b=true) (ha:EB X B W Γ a fa) (hb:EB X B W Γ b fb):EV X B W Γ (.Call (.Attribute a "count" apos) [b] [] cpos) (eCount fa fb):=by
  have pa:PA X [b] (tCons (tBo X.K B W Γ fb) tNil):=pa_cons hb pa_nil (noStar_ok hs _ _)
  refine PE.imp (pe_bm PySem.F.plainAttrs_list PySem.F.slot_list_count PySem.F.type_list_count (mt_countD hu) ha pa (base_ok2 hn _ _ _) (few_ok (by simp [hs]) (by simp)) hl (noStar_ok hs _ _) rfl) fun σ H Q ⟨s,G,rl,k⟩=>⟨s,G,rl,k.bind.imp (fun dx _ k x G1 H1 g1 rx=>?_) fun _ z=>z⟩
  obtain ⟨ds,e,k2⟩:=k.bind.ok (asL_noexc _)
  clear k
  cases asL_ok e
  obtain ⟨a',vs,rfl,s1,l,rs⟩:=rx.lst g1.gh
  refine ⟨.inl ⟨rfl,vs,.inl (.inl s1)⟩,s,G1,rl.grow g1,k2.bind.imp (fun dy _ k y G2 H2 g2 ry=>?_) fun _ z=>XW.grow g1 z⟩
  obtain ⟨d,e2,k⟩:=k.ok (dCount_noexc _ _)
  unfold dCount at e2
  split at e2
  · rename_i hc
    cases e2
    simp only [Bool.and_eq_true,decide_eq_true_eq] at hc
    obtain ⟨⟨⟨c1,c2⟩,c3⟩,c4⟩:=hc
    have rx':=(rx.grow g2).now g2.gh
    have ry':=ry.now g2.gh
    have ec:(D.pys ds).countP (fun z=>PyData.eqv z dy.py)=ds.countP fun z=>D.eqv z dy:=by
      rw [pys_map,List.countP_map]; rfl
    refine ⟨a',y,dy.py,D.pys ds,rfl,rfl,rx'.dp c2,ry'.dp c1,?_,shaped_of ry' (by omega),?_⟩
    · refine shaped_of (d:=.lst ds) rx' ?_
      show PyData.depthAll (D.pys ds) + 1≤64
      omega
    · rw [ec]
      exact k _ G2 H2 (g1.trans g2) (.int _)
  · cases e2
def strsD:List D→Option (List Str)
  | []=>some []
  | .str b :: ds=>(strsD ds).map fun bs=>b :: bs
  | _ :: _=>none
theorem strsD_vals {K:Frag} {G:Hp}:∀ {vs:List V} {ds:List D} {bs:List Str},RDs K G vs ds→strsD ds=some bs→vs=bs.map V.str∧∀ b∈bs,PyData.strOk b=true
  | _,[],_,.nil,h=>by cases h; exact ⟨rfl,fun _ m=>by cases m⟩
  | _,d :: ds,_,.cons a r,h=>by
    cases d with
    | str b =>
      have h:(strsD ds).map (fun bs=>b :: bs)=some _:=h
      cases q:strsD ds with
      | none=>rw [q] at h; cases h
      | some bs =>
        rw [q] at h; cases h
        obtain ⟨e,o,_⟩:=a.str_inv
        obtain ⟨e2,o2⟩:=strsD_vals r q
        refine ⟨by rw [e,e2]; rfl,fun c m=>?_⟩
        rcases List.mem_cons.mp m with z | z
        · rw [z]; exact o
        · exact o2 c z
    | _=>cases h
theorem strOk_join {sep:Str} (hs:PyData.strOk sep=true):∀ {ys:List Str},(∀ b∈ys,PyData.strOk b=true)→PyData.strOk (Str.join sep ys)=true
  | [],_=>by unfold Str.join; decide +kernel
  | [x],h=>h x (List.mem_cons_self ..)
  | x :: y :: ys,h=>strOk_append (strOk_append (h x (List.mem_cons_self ..)) hs) (strOk_join hs fun b m=>h b (List.mem_cons_of_mem _ m))
def dJoin:D→D→R D
  | .str a,.lst ds=>R.of ((strsD ds).bind fun ys=>if (ys.map (·.length)).sum + ys.length * a.length≤16777216 then some (.str (Str.join a ys)) else none)
  | _,_=>.stuck
theorem dJoin_noexc (x y:D) (c:Str):dJoin x y≠.exc c:=by unfold dJoin; split <;> first | exact of_noexc _ _ | exact fun z=>nomatch z
def isStr:D→R Str
  | .str a=>.ok a
  | _=>.stuck
theorem isStr_noexc (x:D) (c:Str):isStr x≠.exc c:=by unfold isStr; split <;> exact fun z=>nomatch z
theorem isStr_ok {x:D} {a:Str} (h:isStr x=.ok a):x=.str a:=by
  unfold isStr at h
  split at h
  · cases h; rfl
  · cases h
def eM1 (g:D→D→R D) (fa fb:En→R D):En→R D:=fun s=>fa s >>= fun x=>isStr x >>= fun a=>fb s >>= fun y=>g (.str a) y
theorem m1_read {r : V → List V → Hp → VK → Prop} {g : D → D → R D} (hx : ∀ x y c, g x y ≠ .exc c)
    (hr:∀ (a:Str) (y:V) (dy d:D) (G H:Hp) (Q:VK),Sub G H→PyData.strOk a=true→a.length≤sizeLine→RB X.K G H y dy→g (.str a) dy=.ok d→(∀ v G' H',Grow X.K G H G' H'→RD X.K G' v d→Q v H')→r (.str a) [y] H Q) :
    ∀ σ H Q,tV X.K B W Γ (eM1 g fa fb) σ H Q→tM1 r (tBo X.K B W Γ fa) (tBo X.K B W Γ fb) σ H Q:=fun σ H Q ⟨s,G,rl,k⟩=>⟨s,G,rl,k.bind.imp (fun dx _ k x G1 H1 g1 rx=>by
    obtain ⟨a,e,k2⟩:=k.bind.ok (isStr_noexc _)
    cases isStr_ok e
    obtain ⟨rfl,o1,l1⟩:=rx.str
    refine ⟨⟨a,rfl⟩,s,G1,rl.grow g1,k2.bind.imp (fun dy _ k3 y G2 H2 g2 ry=>?_) fun _ z=>XW.grow g1 z⟩
    obtain ⟨d,e2,k4⟩:=k3.ok (hx _ _)
    exact hr a y dy d G2 H2 Q g2.gh o1 l1 ry e2 fun v G3 H3 g3 rd=>k4 v G3 H3 ((g1.trans g2).trans g3) rd) fun _ z=>z⟩
theorem ev_join {apos cpos:Pos} (hn:notSuper a=true) (hl:(apos.endLine == cpos.line)=true) (hs:noStar b=true) (ha:EB X B W Γ a fa) (hb:EB X B W Γ b fb):EV X B W Γ (.Call (.Attribute a "join" apos) [b] [] cpos) (eM1 dJoin fa fb) :=
  PE.imp (pe_join ha hb (noStar_ok hs _ _) (base_ok2 hn _ _ _) hl) (m1_read dJoin_noexc fun a y dy d G H Q e o1 l1 ry h k=>by
    cases dy with
    | lst ds =>
      have h:R.of ((strsD ds).bind fun ys=>if (ys.map (·.length)).sum + ys.length * a.length≤16777216 then some (D.str (Str.join a ys)) else none)=.ok d:=h
      cases q:strsD ds with
      | none=>rw [q] at h; cases h
      | some ys =>
        rw [q] at h
        have h:R.of (if (ys.map (·.length)).sum + ys.length * a.length≤16777216 then some (D.str (Str.join a ys)) else none)=.ok d:=h
        by_cases hz:(ys.map (·.length)).sum + ys.length * a.length≤16777216
        · rw [if_pos hz] at h
          cases h
          obtain ⟨p,vs,rfl,sq,l,rs⟩:=ry.lst e
          obtain ⟨rfl,os⟩:=strsD_vals rs q
          refine ⟨a,p,ys,rfl,rfl,.inl (.inl (.inl sq)),hz,?_⟩
          have ej:Txt.join a ys=Str.join a ys:=StrLaws.glued_eq_join a ys
          rw [ej]
          exact k _ G H (.refl e) (.str _ (strOk_join o1 os) (Nat.le_trans (StrLaws.join_length_le a ys) (by rw [sizeLine_eq]; exact hz)))
        · rw [if_neg hz] at h; cases h
    | _=>cases h)
end
end Hr
end
section
namespace Hr
open PySem PySem.Spec L2 PyProof.Rows
section
variable {prog:Program} {w:World} {A:Around} {I S:Addr} {fp wr:List Addr} {G:Array GenState→Array GenState→Prop} {n:Nat} {P:Nat→Value→Prop} {St:Nat→Shared→Prop} {R:Result→Shared→Prop}
end
section
variable {prog:Program} {w:World} {A:Around} {E:Value→Shared→Prop} {s:Shared}
theorem keysAt {xs:List V} {us:List Value} {ks:List Key} (r:Vals xs us) (e:xs=ks.map kV) (i:Nat) (v:Value) (h:us[i]?=some v):∃ k,ks[i]?=some k∧RelV (kV k) v:=by
  subst e
  have hi:=(List.getElem?_eq_some_iff.mp h).1
  have hl:=r.length
  rw [List.length_map] at hl
  have hk:ks[i]?=some (ks[i]'(by omega)):=List.getElem?_eq_getElem (by omega)
  obtain ⟨u,eu,ru⟩:=r.get (i:=i) (x:=kV (ks[i]'(by omega))) (by rw [List.getElem?_map,hk]; rfl)
  rw [h] at eu
  cases eu
  exact ⟨_,hk,ru⟩
set_option maxHeartbeats 3200000 in
end
end Hr
end
section
namespace Hr
open PySem PySem.Spec L2 PyProof.Rows
abbrev tHs (P:Program) (w:World) (k:List Key):Int:=tupleKeyHash (mixKind P w) k
abbrev IsM (P:Program) (w:World) (h:Heap) (k:List Key) (b:Addr):Prop:=IsTupleKey (mixKind P w) h k b
abbrev Plc:=Addr×List Key
def entM (P:Program) (w:World) (L:List Plc):List (Int×Value):=L.map fun q=>(tHs P w q.2,Value.ref q.1)
def hshM (P:Program) (w:World) (L:List Plc):List Int:=L.map fun q=>tHs P w q.2
section
variable {P:Program} {w:World} {A:Around} {E:Value→Shared→Prop} {s:Shared}
structure SetM (P:Program) (w:World) (h:Heap) (a:Addr) (L:List Plc) (es:Array (Int×Value)) (ep:Nat) (t:SetTable):Prop where
  ob:∃ o,h.get? a=some o∧o.ExactSet∧o.data=.set es ep t
  ent:es.toList=entM P w L
  tab:TabOk t (hshM P w L)
  nd:(L.map (·.2)).Nodup
  key:∀ q∈L,IsM P w h q.2 q.1
  led:w.params.followText "set-order"=true∨t.led=true
  room:L.length * 5 < t.mask * 3
  few:L.length < 64
variable {a:Addr} {L:List Plc} {es:Array (Int×Value)} {ep:Nat} {t:SetTable}
theorem ent_size (h:es.toList=entM P w L):es.size=L.length:=by
  have q:=congrArg List.length h
  unfold entM at q
  rwa [Array.length_toList,List.length_map] at q
theorem hsh_len (L:List Plc):(hshM P w L).length=L.length:=List.length_map ..
theorem fits_of (h1:t.place.size=es.size) (h2:t.dummies= #[]) (h3:es.size≤t.mask):t.fits es.size=true:=by
  unfold SetTable.fits SetTable.fill
  rw [h2,Bool.and_eq_true,beq_iff_eq,decide_eq_true_eq]
  exact ⟨h1,by show t.place.size + 0≤t.mask; omega⟩
theorem SetM.fits (R:SetM P w s.heap a L es ep t):t.fits es.size=true:=by
  have q1:=R.tab.sz
  rw [hsh_len] at q1
  have q2:=ent_size R.ent
  have q3:=R.room
  exact fits_of (by omega) R.tab.dm (by omega)
set_option maxHeartbeats 1000000 in
theorem isM_keep {h h':Heap} {k:List Key} {b:Addr} (x:IsM P w h k b) (hk:∀ c o,h.get? c=some o→h'.get? c=some o):IsM P w h' k b:=by
  obtain ⟨u,its,n,hu,r⟩:=x
  exact ⟨u,its,n,hk b u hu,r⟩
set_option maxHeartbeats 1000000 in
end
end Hr
end
section
namespace Hr
open PySem PySem.Spec L2 PyProof.Rows
section
variable {P:Program} {w:World} {A:Around} {E:Value→Shared→Prop} {s:Shared}
def Cam (ks:List Plc) (i:Nat) (L:List Plc):Prop:=(∀ q∈L,q∈ks.take i)∧∀ q∈ks.take i,q.2∈L.map (·.2)
theorem nodup_le {α:Type} [DecidableEq α]:∀ {l m:List α},l.Nodup→(∀ x∈l,x∈m)→l.length≤m.length
  | [],_,_,_=>Nat.zero_le _
  | a :: l,m,nd,h=>by
    have nd:=List.nodup_cons.mp nd
    have ha:=h a List.mem_cons_self
    have:=nodup_le (l:=l) (m:=m.erase a) nd.2 fun x hx=>(List.mem_erase_of_ne fun e=>nd.1 (by rw [← e]; exact hx)).mpr (h x (List.mem_cons_of_mem _ hx))
    rw [List.length_erase_of_mem ha] at this
    have:=List.length_pos_of_mem ha
    rw [List.length_cons]
    omega
theorem Cam.len {ks L:List Plc} {i:Nat} (h:Cam ks i L) (nd:(L.map (·.2)).Nodup):L.length≤ks.length:=by
  have n1:L.Nodup:=by
    have:=List.pairwise_map.mp nd
    exact this.imp fun h z=>h (by rw [z])
  have:L.length≤(ks.take i).length:=nodup_le n1 fun q hq=>h.1 q hq
  rw [List.length_take] at this
  omega
theorem Cam.step {ks L L':List Plc} {i:Nat} {x:Addr} {k:List Key} (h:Cam ks i L) (e:ks[i]?=some (x,k)) (h1:k∈L.map (·.2)→L'=L) (h2:k∉L.map (·.2)→L'.Perm ((x,k) :: L)):Cam ks (i + 1) L':=by
  have et:ks.take (i + 1)=ks.take i ++ [(x,k)]:=by rw [List.take_succ,e]; rfl
  by_cases hm:k∈L.map (·.2)
  · rw [h1 hm]
    refine ⟨fun q hq=>by rw [et]; exact List.mem_append_left _ (h.1 q hq),fun q hq=>?_⟩
    rw [et] at hq
    rcases List.mem_append.mp hq with z | z
    · exact h.2 q z
    · rw [List.mem_singleton.mp z]; exact hm
  · have pm:=h2 hm
    refine ⟨fun q hq=>?_,fun q hq=>?_⟩
    · rw [et]
      rcases List.mem_cons.mp (pm.mem_iff.mp hq) with z | z
      · rw [z]; simp
      · exact List.mem_append_left _ (h.1 q z)
    · rw [et] at hq
      refine (pm.map (·.2)).mem_iff.mpr ?_
      rw [List.map_cons]
      rcases List.mem_append.mp hq with z | z
      · exact List.mem_cons_of_mem _ (h.2 q z)
      · rw [List.mem_singleton.mp z]; exact List.mem_cons_self
section
variable {I S:Addr} {fp wr:List Addr} {G:Array GenState→Array GenState→Prop} {n:Nat} {Pv:Nat→Value→Prop} {St:Nat→Shared→Prop} {R:Result→Shared→Prop}
end
set_option maxHeartbeats 3200000 in
end
end Hr
end
section
namespace Hr
open PySem PySem.Spec L2 PyProof.Rows
def prD (p:Str×Int):D:=.tup [.str p.1,.int p.2]
def prK (p:Str×Int):List Key:=[.inr p.1,.inl p.2]
def lePr (a b:Str×Int):Bool:=leD (prD a) (prD b)
theorem lePr_tr (a b c:Str×Int) (h1:lePr a b=true) (h2:lePr b c=true):lePr a c=true:=leD_tr _ _ _ h1 h2
theorem lePr_to (a b:Str×Int):(lePr a b || lePr b a)=true:=leD_to _ _
theorem lePr_anti {a b:Str×Int} (h1:lePr a b=true) (h2:lePr b a=true):a=b:=by
  have q1:lexLt itemOrd (PySem.W.keyToks (prD b).py) (PySem.W.keyToks (prD a).py)=false:=by
    have:(!lexLt itemOrd (PySem.W.keyToks (prD b).py) (PySem.W.keyToks (prD a).py))=true:=h1
    simpa using this
  have q2:lexLt itemOrd (PySem.W.keyToks (prD a).py) (PySem.W.keyToks (prD b).py)=false:=by
    have:(!lexLt itemOrd (PySem.W.keyToks (prD a).py) (PySem.W.keyToks (prD b).py))=true:=h2
    simpa using this
  have e:=lex_total (O:=itemOrd) _ _ q1 q2
  have e:([.inl 1,.inr b.1.cps.toList,.inl 1,.inl b.2,.inl 0]:List (Int ⊕ List Nat))=[.inl 1,.inr a.1.cps.toList,.inl 1,.inl a.2,.inl 0]:=e
  injection e with _ e
  injection e with e1 e
  injection e with _ e
  injection e with e2 _
  injection e1 with e1
  injection e2 with e2
  refine Prod.ext ?_ e2.symm
  have:a.1.cps=b.1.cps:=Array.toList_inj.mp e1.symm
  cases ha:a.1
  cases hb:b.1
  rw [ha,hb] at this
  simp only at this
  rw [this]
section
variable {P:Program} {w:World} {A:Around} {E:Value→Shared→Prop} {s:Shared} {a:Addr} {L:List Plc} {es:Array (Int×Value)} {ep:Nat} {t:SetTable}
abbrev Pp:=Addr×(Str×Int)
theorem readsP {h:Heap} {b:Addr} {p:Str×Int} (x:IsM P w h (prK p) b):Reads h (.ref b) (prD p).py []:=by
  obtain ⟨o,its,n,ho,hc,hd,hi⟩:=x
  refine reads_tuple_at ho hc hd ?_
  have hi:ItemsAre (mixKind P w) [.inr p.1,.inl p.2] its.toList:=hi
  generalize its.toList=l at hi ⊢
  cases hi with
  | cons h1 hi =>
    cases hi with
    | cons h2 hi =>
      cases hi
      rcases keyIs_shape (k:=Sum.inr p.1) h1 with ⟨i,t,e,z⟩ | ⟨x,t,e,z⟩
      · cases e
      · cases e
        subst z
        rcases keyIs_shape (k:=Sum.inl p.2) h2 with ⟨i,t',e,z⟩ | ⟨x,t',e,z⟩
        · cases e
          subst z
          exact .cons (.str _ _) (.cons (.int _ _) .nil)
        · cases e
theorem eachRef:∀ L:List Pp,PySem.W.EachIs (fun (v:Value) (q:Pp)=>v=.ref q.1) (L.map fun q=>Value.ref q.1) L
  | []=>.nil
  | q :: L=>.cons rfl (eachRef L)
theorem refs_of {out:List Value} {L:List Pp} (h:PySem.W.EachIs (fun (v:Value) (q:Pp)=>v=.ref q.1) out L):out=L.map fun q=>Value.ref q.1:=by
  induction h with
  | nil=>rfl
  | cons e _ ih=>rw [e,ih]; rfl
theorem each_all {β:Type} {R:Value→β→Prop} {f:β→Value}:∀ {L:List β},(∀ q∈L,R (f q) q)→PySem.W.EachIs R (L.map f) L
  | [],_=>.nil
  | q :: L,h=>.cons (h q List.mem_cons_self) (each_all fun r hr=>h r (List.mem_cons_of_mem _ hr))
set_option maxHeartbeats 1000000 in
end
theorem rds_prs {K:Frag} {G:Hp}:∀ {ks:List Pp},(∀ q∈ks,RD K G (.ref q.1) (prD q.2))→RDs K G (ks.map fun q=>V.ref q.1) (ks.map fun q=>prD q.2)
  | [],_=>.nil
  | q :: ks,h=>.cons (h q List.mem_cons_self) (rds_prs fun r hr=>h r (List.mem_cons_of_mem _ hr))
section
variable {X:Cx}
end
end Hr
end
section
namespace Hr
open PySem PySem.Spec L2 PyProof.Rows
section
variable {X:Cx} {B:Base} {W:WX} {Γ:Ow} {a:Expr} {fa:En→R D} {pos p p2 q:Pos}
end
end Hr
end
section
namespace Hr
open PySem PySem.Spec L2
theorem OWs.append {K:Frag} {G H:Hp} {t:OT}:∀ {vs ws:List V} {ds es:List D} {f1 f2:List Addr},OWs K G H vs ds t f1→OWs K G H ws es t f2→OWs K G H (vs ++ ws) (ds ++ es) t (f1 ++ f2)
  | _,_,_,_,_,_,.nil,r=>r
  | _,_,_,_,_,f2,.cons (fp:=fa) (fq:=fb) a b,r=>by rw [List.append_assoc]; exact .cons a (OWs.append b r)
section
variable {X:Cx} {B:Base} {W:WX} {Γ Γ1 Γn:Ow} {o:OC} {e a b c:Expr} {fa fb fc fe fk:En→R D} {pos:Pos}
theorem RDs.set {K:Frag} {G:Hp} {v:V} {d:D} (h:RD K G v d):∀ {vs:List V} {ds:List D} (n:Nat),RDs K G vs ds→RDs K G (vs.set n v) (ds.set n d)
  | _,_,_,.nil=>.nil
  | _,_,0,.cons _ b=>.cons h b
  | _,_,n + 1,.cons a b=>.cons a (RDs.set h n b)
end
end Hr
end
section
namespace Hr
open PySem PySem.Spec L2
theorem strOk_ofString (s:String):PyData.strOk (Str.ofString s)=true:=by
  rw [strOk_list]
  intro c hc
  have e:(Str.ofString s).cps.toList=s.toList.map Char.toNat:=PyProof.Rows.signs_ofString s
  rw [e] at hc
  obtain ⟨ch,_,rfl⟩:=List.mem_map.mp hc
  rcases ch.valid with h | ⟨_,h⟩
  · have:ch.toNat < 0xd800:=h
    omega
  · exact h
section
variable {X:Cx} {B:Base} {W:WX} {Γ:Ow} {a b:Expr} {fa fb:En→R D} {pos:Pos}
def dStr:D→R D
  | .int i=>if i.natAbs.log2 < 1920 then .ok (.str (toString i)) else .stuck
  | _=>.stuck
theorem dStr_noexc (x:D) (c:Str):dStr x≠.exc c:=by unfold dStr; split <;> first | (split <;> exact fun z=>nomatch z) | exact fun z=>nomatch z
theorem rd_num {K:Frag} {G:Hp} {i:Int} (h:i.natAbs.log2 < 1920):RD K G (.str (toString i)) (.str (toString i)):=.str _ (strOk_ofString _) (int_text_fits h)
theorem cd_str {K:Frag}:CallD K (fun xs H Q=>∃ i,xs=[.int i]∧i.natAbs.log2 < 1920∧Q (.str (toString i)) H) (on1 dStr) .fz:=calld1 fun x dx d G H Q e r hg k=>by
  cases dx with
  | int i =>
    have hg:(if i.natAbs.log2 < 1920 then R.ok (D.str (toString i)) else .stuck)=.ok d:=hg
    by_cases h:i.natAbs.log2 < 1920
    · rw [if_pos h] at hg
      cases hg
      cases r.int
      exact ⟨i,rfl,h,k _ G H (.refl e) (.fz (rd_num h))⟩
    · rw [if_neg h] at hg; cases hg
  | _=>cases hg
def isInt:D→R Int
  | .int i=>if i.natAbs.log2 < 1920 then .ok i else .stuck
  | _=>.stuck
theorem isInt_noexc (x:D) (c:Str):isInt x≠.exc c:=by unfold isInt; split <;> first | (split <;> exact fun z=>nomatch z) | exact fun z=>nomatch z
theorem isInt_ok {x:D} {i:Int} (h:isInt x=.ok i):x=.int i∧i.natAbs.log2 < 1920:=by
  unfold isInt at h
  split at h
  · split at h
    · cases h; exact ⟨rfl,by assumption⟩
    · cases h
  · cases h
def fTwo (c:Str) (i j:Int):Str:=((Str.empty ++ (toString i:String)) ++ c) ++ (toString j:String)
def eFst (c:Str) (fa fb:En→R D):En→R D:=fun s=>fa s >>= fun x=>isInt x >>= fun i=>if PyData.strOk c=true∧((Str.empty ++ (toString i:String)) ++ c).length≤sizeLine then fb s >>= fun y=>isInt y >>= fun j=>if (fTwo c i j).length≤sizeLine then .ok (.str (fTwo c i j)) else .stuck else .stuck
theorem strOk_empty:PyData.strOk Str.empty=true:=by decide +kernel
theorem ev_fst {c:Str} {kk:Nat} {p1 p2 p3:Pos} (ha:EB X B W Γ a fa) (hb:EB X B W Γ b fb):EV X B W Γ (.JoinedStr [.FormattedValue a (-1) none p1,.Constant (.str c) kk p2,.FormattedValue b (-1) none p3] pos) (eFst c fa fb) :=
  PE.imp (pe_joined (.cons (pe_fmt ha) (.cons pe_str (.cons (pe_fmt hb) .nil)))) fun σ H Q ⟨s,G,rl,k⟩=>⟨s,G,rl,k.bind.imp (fun dx _ k x G1 H1 g1 rx=>by
    obtain ⟨i,ei,k1⟩:=k.bind.ok (isInt_noexc _)
    clear k
    obtain ⟨rfl,hi⟩:=isInt_ok ei
    cases rx.int
    obtain ⟨⟨oc,lc⟩,k2⟩:=k1.ite
    refine .inr ⟨i,rfl,hi,(toString i:String),rfl,by
      rw [length_append_str] at lc
      omega,c,rfl,lc,s,G1,rl.grow g1,k2.bind.imp (fun dy _ k3 y G2 H2 g2 ry=>?_) fun _ z=>XW.grow g1 z⟩
    obtain ⟨j,ej,k4⟩:=k3.bind.ok (isInt_noexc _)
    clear k3
    obtain ⟨rfl,hj⟩:=isInt_ok ej
    cases ry.int
    obtain ⟨lt,k⟩:=k4.ite
    refine .inr ⟨j,rfl,hj,(toString j:String),rfl,lt,?_⟩
    exact k _ G2 H2 (g1.trans g2) (.str _ (strOk_append (strOk_append (strOk_append strOk_empty (strOk_ofString _)) oc) (strOk_ofString _)) lt)) fun _ z=>z⟩
end
end Hr
end
section
namespace Hr
open PySem PySem.Spec L2 PyProof.Rows
section
variable {prog:Program} {w:World} {A:Around} {E:Value→Shared→Prop} {s:Shared}
set_option maxHeartbeats 3200000 in
end
end Hr
end
section
namespace Hr
open PySem PySem.Spec L2 PyProof.Rows
section
variable {X:Cx} {B:Base} {W:WX} {Γ:Ow} {a:Expr} {fa:En→R D} {pos p p2 q:Pos}
theorem fm_congr {α β:Type} {f g:α→Option β}:∀ {l:List α},(∀ a∈l,f a=g a)→l.filterMap f=l.filterMap g
  | [],_=>rfl
  | a :: l,h=>by rw [List.filterMap_cons,List.filterMap_cons,h a (List.mem_cons_self ..),fm_congr fun x m=>h x (List.mem_cons_of_mem _ m)]
end
end Hr
end
section
namespace Hr
open PySem PySem.Spec L2
section
variable {X:Cx} {B:Base} {W:WX} {Γ:Ow} {a b c:Expr} {fa fb fc:En→R D} {pos p p2 q:Pos}
def pairsD:List D→Option (List (List Key)×List D)
  | []=>some ([],[])
  | .tup [k,d] :: ds=>(keyOf false k).bind fun q=>(pairsD ds).map fun r=>(q :: r.1,d :: r.2)
  | _=>none
def dicOf (ds:List D):R D:=R.of ((pairsD ds).bind fun r=>if r.1.Nodup then some (.dic false r.1 r.2) else none)
def dDict:D→R D
  | .tup ds=>dicOf ds
  | .lst ds=>dicOf ds
  | _=>.stuck
theorem dDict_noexc (x:D) (c:Str):dDict x≠.exc c:=by unfold dDict dicOf; split <;> first | exact of_noexc _ _ | exact fun z=>nomatch z
theorem dicOf_ok {ds:List D} {v:D} (h:dicOf ds=.ok v):∃ r,pairsD ds=some r∧r.1.Nodup∧v=.dic false r.1 r.2:=by
  unfold dicOf at h
  cases z:pairsD ds with
  | none=>rw [z] at h; cases h
  | some r =>
    rw [z] at h
    have h:R.of (if r.1.Nodup then some (D.dic false r.1 r.2) else none)=.ok v:=h
    by_cases n:r.1.Nodup
    · rw [if_pos n] at h; cases h; exact ⟨r,rfl,n,rfl⟩
    · rw [if_neg n] at h; cases h
theorem pairs_rel {K : Frag} {G H : Hp} (e : Sub G H) : ∀ {vs : List V} {ds : List D} {r : List (List Key) × List D}, RDs K G vs ds → pairsD ds = some r →
    ∃ (ps:List Addr) (kvs:List (Key×V)),vs=ps.map V.ref∧Paired (fun p kv=>SqT K H p [kV kv.1,kv.2]) ps kvs∧r.1=(kvs.map fun p=>[p.1])∧RDs K G (kvs.map (·.2)) r.2
  | _,_,_,.nil,h=>by cases h; exact ⟨[],[],rfl,.nil,rfl,.nil⟩
  | _,_,r,.cons (d:=d) (ds:=ds) a b,h=>by
    unfold pairsD at h
    split at h
    · rename_i z; cases z
    · rename_i k x ds' z
      cases z
      cases hk:keyOf false k with
      | none=>rw [hk] at h; cases h
      | some q =>
        rw [hk] at h
        have h:(pairsD ds).map (fun r=>(q :: r.1,x :: r.2))=some r:=h
        cases hd:pairsD ds with
        | none=>rw [hd] at h; cases h
        | some r' =>
          rw [hd] at h
          cases h
          obtain ⟨ps,kvs,rfl,pr,e1,e2⟩:=pairs_rel e b hd
          obtain ⟨t,ws,rfl,ht,_,rs⟩:=a.tup_inv
          cases rs with
          | cons rk rs =>
            cases rs with
            | cons rx rs =>
              cases rs
              obtain ⟨q',rfl,rfl⟩:=keyOf_K rk hk
              exact ⟨t :: ps,(q',_) :: kvs,rfl,.cons (ht.same e).sq pr,by show [q'] :: r'.1=_; rw [e1]; rfl,.cons rx e2⟩
    · cases h
theorem merge_nodup:∀ (more acc:List (Key×V)),((acc ++ more).map fun p=>[p.1]).Nodup→mergeK acc more=acc ++ more
  | [],acc,_=>by rw [List.append_nil]; rfl
  | p :: more,acc,h=>by
    have ep:putK acc p.1 p.2=acc ++ [p]:=by
      unfold putK
      rw [if_neg]
      intro z
      obtain ⟨x,hx,hz⟩:=List.any_eq_true.mp z
      rw [List.map_append,List.nodup_append] at h
      exact h.2.2 [x.1] (List.mem_map.mpr ⟨x,hx,rfl⟩) [p.1] (List.mem_map.mpr ⟨p,List.mem_cons_self ..,rfl⟩) (by rw [of_decide_eq_true hz])
    show mergeK (putK acc p.1 p.2) more=_
    rw [ep,merge_nodup more (acc ++ [p]) (by rw [List.append_assoc]; exact h),List.append_assoc]
    rfl
def tDict (K : Frag) (ta : TE) : TE := fun σ H Q => ta σ H fun x H1 => ∃ (a : Addr) (ps : List Addr) (kvs : List (Key × V)), x = .ref a ∧ (SqL K H1 a (ps.map V.ref) ∨ PlT H1 a (ps.map V.ref)) ∧ Paired (fun p kv => SqT K H1 p [kV kv.1, kv.2]) ps kvs ∧
    ∀ p,H1 p=none→Q (.ref p) (upd H1 p (.dK (mergeK [] kvs)))
theorem call_dictT (hcalm : X.calm = true) : CallR X (.type "dict") (fun xs H Q => ∃ (a : Addr) (ps : List Addr) (kvs : List (Key × V)), xs = [.ref a] ∧ PlT H a (ps.map V.ref) ∧ Paired (fun p kv => SqT X.K H p [kV kv.1, kv.2]) ps kvs ∧
    ∀ p,H p=none→Q (.ref p) (upd H p (.dK (mergeK [] kvs)))):=by
  intro pins s σ H xs us Q I r q
  obtain ⟨a,ps,kvs,ex,hq,hp,q⟩:=q
  subst ex
  obtain ⟨u,eu,rx⟩:=vals1 r
  subst eu
  cases rx
  obtain ⟨is0,hc⟩:=hq
  have hnk:keyVs (ps.map V.ref)=false:=by cases ps <;> rfl
  rw [pT_not hnk] at hc
  obtain ⟨ho,hz,its,rv,o2,ho2,_,n2,hd2⟩:=(show ObjOk X.prog X.w H s.heap a (.frz { cls:=.type "tuple",data:=.seq is0.toArray } (.tup (ps.map V.ref))) from I.hok a _ hc)
  have ei:=refs_at rv
  subst ei
  have eo:o2={ cls:=.type "tuple",data:=.seq is0.toArray }:=by rw [ho] at ho2; cases ho2; rfl
  subst eo
  have ea:is0.toArray=(ps.map Value.ref).toArray:=by cases hd2; rfl
  rw [List.length_map] at hz
  obtain ⟨prs,rel,hl,hpr⟩:=pairs_of I hp
  have hK:∀ (j:Nat),j < prs.length→∃ (u:Value),∀ q',prs[j]?=some q'→∃ b,ps[j]?=some b∧PyProof.Rows.IsTup s.heap b #[u,q'.2]∧keyIs q'.1 u=true:=fun j hj=>by
    obtain ⟨b,u,e1,e2,e3⟩:=hpr j prs[j] (List.getElem?_eq_getElem hj)
    exact ⟨u,fun q' e=>by rw [List.getElem?_eq_getElem hj] at e; cases e; exact ⟨b,e1,e2,e3⟩⟩
  have hf:∃ f:Nat→Value,∀ j,j < prs.length→∀ q',prs[j]?=some q'→∃ b,ps[j]?=some b∧PyProof.Rows.IsTup s.heap b #[f j,q'.2]∧keyIs q'.1 (f j)=true :=
    ⟨fun j=>if h:j < prs.length then (hK j h).choose else .none,fun j hj q' e=>by dsimp only; rw [dif_pos hj]; exact (hK j hj).choose_spec q' e⟩
  obtain ⟨f,hf⟩:=hf
  let pv:List (Value×Value):=prs.zipIdx.map fun z=>(f z.2,z.1.2)
  have hpv:∀ j k v,pv[j]?=some (k,v)→∃ q',prs[j]?=some q'∧k=f j∧v=q'.2:=fun j k v e=>by
    have e:(prs.zipIdx.map fun z=>(f z.2,z.1.2))[j]?=some (k,v):=e
    rw [List.getElem?_map,List.getElem?_zipIdx] at e
    cases z:prs[j]? with
    | none=>rw [z] at e; cases e
    | some q'=>rw [z] at e; simp at e; exact ⟨q',rfl,e.1.symm,e.2.symm⟩
  have hlen:pv.length=prs.length:=by show (prs.zipIdx.map _).length=_; rw [List.length_map,List.length_zipIdx]
  let Ts:Nat→Addr:=fun j=>ps[j]?.getD 0
  refine call_dict_pairs (knd:=mixKind X.prog X.w) (kvs:=prs) (PairArg.tuple a is0.toArray Ts pv) (I.ok.hd hcalm) ⟨⟨_,_,ho,rfl,rfl,rfl⟩,?_,?_⟩ ⟨hlen.symm,?_⟩ (by rw [hlen,hl]; exact hz) fun h' tk hd' k=>?_
  · rw [ea,List.size_toArray,List.length_map,hlen,hl]
  · intro j k v e
    obtain ⟨q',e1,rfl,rfl⟩:=hpv j k v e
    obtain ⟨b,e2,e3,e4⟩:=hf j (List.getElem?_eq_some_iff.mp e1).1 q' e1
    have eT:Ts j=b:=by show ps[j]?.getD 0=b; rw [e2]; rfl
    refine ⟨?_,.inl ?_⟩
    · rw [ea,eT,List.getElem?_toArray,List.getElem?_map,e2]; rfl
    · rw [eT]; exact e3
  · intro i key v e
    obtain ⟨q',e1,rfl,rfl⟩:=hpv i key v e
    obtain ⟨b,e2,e3,e4⟩:=hf i (List.getElem?_eq_some_iff.mp e1).1 q' e1
    exact ⟨q'.1,e1,e4⟩
  · have hm:(s.heap.objs.size == sysModules)=false:=beq_eq_false_iff_ne.mpr (Nat.ne_of_gt I.big)
    have hlen2:(mergeK [] kvs).length≤sizeLine:=by
      refine Nat.le_trans (length_mergeK kvs []) ?_
      rw [List.length_nil,Nat.zero_add,rel.length,hl]
      exact hz
    exact ⟨.ref s.heap.objs.size,upd H s.heap.objs.size (.dK (mergeK [] kvs)),I.laid (t':=tk) (fun b o e=>k b o (fun z=>nomatch z) e) (Nat.le_refl _) (show ObjOk X.prog X.w _ _ _ (.dK (mergeK [] kvs)) from ⟨hlen2,hm,merged [] prs,KV.merge rel .nil,hd'⟩),rfl,q _ (I.hok.fresh (Nat.le_refl _))⟩
theorem pe_dict {ta:TE} (hc:X.calm=true) (hg:Gl X "dict") (hm:X.mg "dict"=none) (ha:PE X a ta) (na:starEach [a] X.env=(false,eval a X.env) :: starEach [] X.env):PE X (.Call (.Name "dict" p) [a] [] pos) (tDict X.K ta):=by
  constructor
  intro pins s σ H Q I h
  refine PyProof.Rows.Call_ (ld_blt I hg hm (show bootBuiltins "dict"=some (.type "dict") by decide +kernel) ?_)
  refine PyProof.Rows.callWith_type1 (PyProof.Rows.args_cons (thn (ha.run pins s σ H _ I h) fun v s1 ⟨x,H1,I1,r1,hx⟩=>PyProof.Rows.args_nil ?_) na) na rfl
  obtain ⟨l,ps,kvs,rfl,hs | hs,pr,k⟩:=hx
  · exact call_dictP hc pins s1 σ H1 [.ref l] [v] Q I1 (.cons r1 .nil) ⟨l,ps,kvs,rfl,hs,pr,k⟩
  · exact call_dictT hc pins s1 σ H1 [.ref l] [v] Q I1 (.cons r1 .nil) ⟨l,ps,kvs,rfl,hs,pr,k⟩
def eDict (fa:En→R D):En→R D:=fun s=>fa s >>= dDict
theorem new_dK {K:Frag} {G H:Hp} {p:Addr} {kvs:List (Key×V)} {ds:List D} (e:Sub G H) (hp:H p=none) (l:kvs.length≤sizeLine) (r:RDs K G (kvs.map (·.2)) ds):Grow K G H (upd G p (.dK kvs)) (upd H p (.dK kvs))∧RD K (upd G p (.dK kvs)) (.ref p) (.dic false (kvs.map fun p=>[p.1]) ds) :=
  have g:Grow K G H (upd G p (.dK kvs)) (upd H p (.dK kvs)):=Grow.new e hp rfl
  ⟨g,.dK upd_same l (r.mono g.g)⟩
theorem ev_dict (hc:X.calm=true) (hg:Gl X "dict") (hm:X.mg "dict"=none) (hs:noStar a=true) (ha:EB X B W Γ a fa):EV X B W Γ (.Call (.Name "dict" p) [a] [] pos) (eDict fa) :=
  PE.imp (pe_dict hc hg hm ha (noStar_ok hs _ _)) fun σ H Q ⟨s,G,rl,k⟩=>⟨s,G,rl,k.bind.imp (fun d _ k x G1 H1 g1 r=>by
    obtain ⟨v,e,k1⟩:=k.ok (dDict_noexc _)
    clear k
    have fin : ∀ (ps : List Addr) (kvs : List (Key × V)) (rr : List (List Key) × List D), ps.length ≤ sizeLine → rr.1.Nodup → v = .dic false rr.1 rr.2 → Paired (fun p kv => SqT X.K H1 p [kV kv.1, kv.2]) ps kvs → rr.1 = (kvs.map fun p => [p.1]) → RDs X.K G1 (kvs.map (·.2)) rr.2 →
        ∀ p,H1 p=none→Q (.ref p) (upd H1 p (.dK (mergeK [] kvs))):=fun ps kvs rr hl nd ev pr e1 e2 p hp=>by
      rw [merge_nodup kvs [] (by rw [List.nil_append,← e1]; exact nd),List.nil_append]
      obtain ⟨g,r⟩:=new_dK g1.gh hp (by rw [← Paired.length pr]; exact hl) e2
      exact k1 _ _ _ (g1.trans g) (by rw [ev,e1]; exact r)
    cases d with
    | lst ds =>
      obtain ⟨rr,e1,e2,e3⟩:=dicOf_ok e
      obtain ⟨l,vs,rfl,sq,hl,rs⟩:=r.lst g1.gh
      obtain ⟨ps,kvs,rfl,pr,e4,e5⟩:=pairs_rel g1.gh rs e1
      exact ⟨l,ps,kvs,rfl,.inl (.inl (.inl sq)),pr,fin ps kvs rr (by rw [List.length_map] at hl; exact hl) e2 e3 pr e4 e5⟩
    | tup ds =>
      obtain ⟨rr,e1,e2,e3⟩:=dicOf_ok e
      obtain ⟨l,vs,rfl,sq,hl,rs⟩:=r.tup.tup_inv
      obtain ⟨ps,kvs,rfl,pr,e4,e5⟩:=pairs_rel g1.gh rs e1
      exact ⟨l,ps,kvs,rfl,.inr (sq.same g1.gh),pr,fin ps kvs rr (by rw [List.length_map] at hl; exact hl) e2 e3 pr e4 e5⟩
    | _=>cases e) fun _ z=>z⟩
def isDic:D→R (List (List Key)×List D)
  | .dic false ks ds=>.ok (ks,ds)
  | _=>.stuck
end
end Hr
end
section
namespace Hr
open PySem PySem.Spec L2 PyProof.Rows
section
variable {prog:Program} {w:World} {κ:Type} [DecidableEq κ] {knd:HeapKind prog w κ} {d b:Addr} {k:κ}
end
section
variable {X:Cx} {B:Base} {W:WX} {Γ:Ow} {o:OC} {a b c e:Expr} {fa fb fc fe:En→R D} {pos p p2 q:Pos}
def kD1:Key→D
  | .inl i=>.int i
  | .inr x=>.str x
def kDt (k:List Key):D:=.tup (k.map kD1)
def kOk1:Key→Bool
  | .inl _=>true
  | .inr x=>PyData.strOk x && decide (x.length≤sizeLine)
def kOkT (k:List Key):Bool:= !k.isEmpty && (k.all kOk1 && decide (k.length≤sizeLine))
def dListD:D→R D
  | .dic true ks _=>if ks.all kOkT=true then .ok (.lst (ks.map kDt)) else .stuck
  | _=>.stuck
theorem dListD_noexc (x:D) (c:Str):dListD x≠.exc c:=by unfold dListD; split <;> (try split) <;> exact fun z=>nomatch z
theorem kD1_rd {K:Frag} {G:Hp} {k:Key} (h:kOk1 k=true):RD K G (kV k) (kD1 k):=by
  cases k with
  | inl i=>exact .int i
  | inr x =>
    obtain ⟨h1,h2⟩:=and2 (show (PyData.strOk x && decide (x.length≤sizeLine))=true from h)
    exact .str x h1 (of_decide_eq_true h2)
theorem kDs_rd {K:Frag} {G:Hp}:∀ {k:List Key},k.all kOk1=true→RDs K G (k.map kV) (k.map kD1)
  | [],_=>.nil
  | a :: k,h=>by
    rw [List.all_cons] at h
    obtain ⟨h1,h2⟩:=and2 h
    exact .cons (kD1_rd h1) (kDs_rd h2)
theorem kVs_key:∀ k:List Key,(k.map kV).all isKV=true
  | []=>rfl
  | a :: k=>by rw [List.map_cons,List.all_cons,kVs_key k]; cases a <;> rfl
theorem kDt_rd {K:Frag} {G:Hp} {k:List Key} {b:Addr} (h:kOkT k=true) (hb:G b=some (.tup (k.map kV))):RD K G (.ref b) (kDt k):=by
  obtain ⟨h1,h2⟩:=and2 h
  obtain ⟨h2,h3⟩:=and2 h2
  have hk:keyVs (k.map kV)=true:=by
    unfold keyVs
    rw [kVs_key,Bool.and_true]
    cases k with
    | nil=>cases h1
    | cons _ _=>rfl
  exact .tup ⟨[],by rw [pT_key hk]; exact hb⟩ (by rw [List.length_map]; exact of_decide_eq_true h3) (kDs_rd h2)
theorem join_tup {G H:Hp} (e:Sub G H) {bs:List Addr} (hb:∀ b∈bs,∃ vs,H b=some (.tup vs)):Same G (join G H bs)∧Sub (join G H bs) H∧∀ a,G a=none→Cel H a→join G H bs a=none:=by
  refine ⟨fun b o q=>?_,join_le e fun a m o q=>(by obtain ⟨vs,z⟩:=hb a m; rw [z] at q; cases q; rfl),fun a h1 h2=>?_⟩
  · unfold join
    split
    · exact e b o q
    · exact q
  · unfold join
    split
    · rename_i m
      obtain ⟨vs,q⟩:=hb a m
      obtain ⟨o,q2,n⟩:=h2
      rw [q] at q2
      cases q2
      exact absurd rfl (n vs)
    · exact h1
theorem keys_rds {K:Frag} {G:Hp}:∀ {kvs:List (List Key×V)} {bs:List Addr},IsKeys G kvs bs→(kvs.map fun p=>p.1).all kOkT=true→RDs K G (bs.map V.ref) ((kvs.map fun p=>p.1).map kDt)
  | _,_,.nil,_=>.nil
  | _,_,.cons h t,k=>by
    rw [List.map_cons,List.all_cons] at k
    obtain ⟨k1,k2⟩:=and2 k
    exact .cons (kDt_rd k1 h) (keys_rds t k2)
theorem isKeys_len {H:Hp}:∀ {kvs:List (List Key×V)} {bs:List Addr},IsKeys H kvs bs→bs.length=kvs.length
  | _,_,.nil=>rfl
  | _,_,.cons _ t=>congrArg Nat.succ (isKeys_len t)
theorem isKeys_mem {H:Hp}:∀ {kvs:List (List Key×V)} {bs:List Addr},IsKeys H kvs bs→∀ b∈bs,∃ vs,H b=some (.tup vs)
  | _,_,.nil,b,m=>by cases m
  | _,_,.cons h t,b,m=>by
    rcases List.mem_cons.mp m with e | m
    · rw [e]; exact ⟨_,h⟩
    · exact isKeys_mem t b m
theorem isKeys_join {G H:Hp} {bs:List Addr}:∀ {kvs:List (List Key×V)} {cs:List Addr},IsKeys H kvs cs→(∀ c∈cs,c∈bs)→IsKeys (join G H bs) kvs cs
  | _,_,.nil,_=>.nil
  | _,_,.cons h t,k=>.cons (by rw [join_in (k _ (List.mem_cons_self ..))]; exact h) (isKeys_join t fun c m=>k c (List.mem_cons_of_mem _ m))
theorem cd_listd {K:Frag}:CallD K (fun xs H Q=>∃ d kvs,xs=[V.ref d]∧Rd H d (.dT kvs)∧∀ p bs,H p=none→IsKeys H kvs bs→Q (.ref p) (upd H p (.lst (bs.map V.ref)))) (on1 dListD) (.own .fz):=calld1 fun x dx d G H Q e r hg k=>by
  unfold dListD at hg
  split at hg
  · rename_i ks ds
    split at hg
    · rename_i hk
      cases hg
      rcases r.dic e with ⟨z,_⟩ | ⟨_,a,kvs,rfl,hH,l,rfl,rs⟩
      · cases z
      · refine ⟨a,kvs,rfl,hH,fun p bs hp hb=>?_⟩
        have mem:=isKeys_mem hb
        obtain ⟨j1,j2,j3⟩:=join_tup e mem
        have rd:=keys_rds (K:=K) (isKeys_join (G:=G) hb fun _ m=>m) hk
        have hpb:p∉bs:=fun m=>by
          obtain ⟨vs,q⟩:=mem p m
          rw [hp] at q; cases q
        have hpj:join G H bs p=none:=by rw [join_out hpb]; exact e.free hp
        refine k (.ref p) (join G H bs) _ ⟨j1,.of (Same.upd hp),j2.trans (Same.upd hp),j3⟩ ⟨[p],.ol upd_same (by rw [List.length_map,isKeys_len hb]; exact l) (OWs.fzs rd),by simp,fun c m=>?_⟩
        have:c=p:=by simpa using m
        subst this
        exact ⟨hp,⟨_,upd_same,fun _ z=>nomatch z⟩,hpj⟩
    · cases hg
  · cases hg
theorem RDs.last {K:Frag} {G:Hp} {vs:List V} {ds:List D} {d:D} (r:RDs K G vs ds) (h:ds.getLast?=some d):∃ v,vs[vs.length - 1]?=some v∧RD K G v d:=by
  rw [List.getLast?_eq_getElem?,← r.length] at h
  exact r.get h
end
end Hr
end
section
namespace Hr
open PySem PySem.Spec L2 PyProof.Rows
section
variable {X:Cx}
theorem pps_of {H:Hp}:∀ {kvs:List (List Key×V)} {bs:List Addr} {ps:List (Str×Int)},IsKeys H kvs bs→(kvs.map fun p=>p.1)=ps.map prK→∃ N:List Pp,bs=N.map (·.1)∧N.map (·.2)=ps∧∀ q∈N,H q.1=some (.tup [.str q.2.1,.int q.2.2])
  | _,_,ps,.nil,h=>by
    cases ps with
    | nil=>exact ⟨[],rfl,rfl,fun q hq=>by cases hq⟩
    | cons _ _=>cases h
  | _,_,ps,.cons (a:=a) (b:=b) h0 t,h=>by
    cases ps with
    | nil=>cases h
    | cons p ps =>
      injection h with h1 h2
      obtain ⟨N,e1,e2,e3⟩:=pps_of t h2
      refine ⟨(b,p) :: N,by rw [e1]; rfl,by rw [← e2]; rfl,fun q hq=>?_⟩
      rcases List.mem_cons.mp hq with z | z
      · rw [z]
        have h0:H b=some (.tup (a.1.map kV)):=h0
        have h1:a.1=prK p:=h1
        rw [h1] at h0
        exact h0
      · exact e3 q z
set_option maxHeartbeats 1000000 in
theorem call_sortedT (hc : X.calm = true) (hu : X.A.units + 64 < cLine) : CallR X (.builtin "sorted") (fun xs H Q => ∃ (a : Addr) (kvs : List (List Key × V)) (ps : List (Str × Int)), xs = [V.ref a] ∧ Rd H a (.dT kvs) ∧ (kvs.map fun p => p.1) = ps.map prK ∧ ps.length < 64 ∧
    ∀ (N N':List Pp) p,N.map (·.2)=ps→N'.Perm N→N'.Pairwise (fun q r=>lePr q.2 r.2=true)→(∀ q∈N,H q.1=some (.tup [.str q.2.1,.int q.2.2]))→H p=none→Q (.ref p) (upd H p (.lst (N'.map fun q=>V.ref q.1)))):=by
  intro pins s σ H xs us Q I r q
  obtain ⟨d,kvs,ps,rfl,hd,hps,h64,q⟩:=q
  obtain ⟨u,rfl,rx⟩:=r.one
  cases rx
  obtain ⟨z,hs,ks,pr,o,es,ep,ho,hx,hdt,he,hn⟩:=(show ObjOk X.prog X.w H s.heap d (.dT kvs) from hd.ok I.hok)
  have l1:es.size=ks.length:=size_of_entries he
  have l2:kvs.length=ks.length:=Paired.length pr
  obtain ⟨N,eN,eP,hN⟩:=pps_of (isKeys_of pr) hps
  have lN:N.length=ps.length:=by rw [← eP,List.length_map]
  refine Calls.call_function_entry kind_sorted plain_sorted entry_sorted (args_sorted1 _) ?_
  unfold Builtin.«sorted»
  refine wpAny_bind (m:=checkCount "sorted" 1 1 _) (wpAny_pure ?_)
  refine wpAny_bind (PySem.W.kdu_collect (A:=X.A.in1) (kdl_raw hs hx hdt) (I.ok.hd hc) ho (by omega) fun h' tk acc kp it=>?_)
  have ea:acc.toList=ks.map fun x=>Value.ref x.2.1:=by
    have hl:acc.toList.length=ks.length:=by rw [Array.length_toList,it.1]; exact l1
    apply List.ext_getElem?
    intro j
    rw [List.getElem?_map]
    cases hj:acc.toList[j]? with
    | none =>
      have h1:=List.getElem?_eq_none_iff.mp hj
      rw [List.getElem?_eq_none (by omega)]
      all_goals rfl
    | some v =>
      obtain ⟨en,hen,hv⟩:=it.2 j v (by rw [← Array.getElem?_toList]; exact hj)
      have qe:=entry_at he j
      rw [hen] at qe
      cases hb:ks[j]? with
      | none =>
        rw [hb] at qe
        exact nomatch (show some en=none from qe)
      | some b =>
        rw [hb] at qe
        have e2:en=entryOfKey (tupleKind (mixKind X.prog X.w)) b:=Option.some.inj qe
        rw [hv,e2]
        all_goals rfl
  have eb:acc.toList=N.map fun q=>Value.ref q.1:=by
    have:acc.toList=(ks.map fun x=>x.2.1).map Value.ref:=by rw [ea,List.map_map]; all_goals rfl
    rw [this,eN,List.map_map]; rfl
  rw [eb]
  have I1:L2.Inv X pins σ H { s with heap:=h',toks:=tk }:=I.kept kp
  have hvl:(N.map fun q=>Value.ref q.1).length≤sizeLine:=by rw [List.length_map,sizeLine_eq]; omega
  refine wpAny_bind (wpAny_newList ?_ hvl)
  show wpAny _ _ _ _ _ { s with heap:=h'.push (seqObj "list" (N.map fun q=>Value.ref q.1).toArray 0),toks:=tk }
  have hoL:(h'.push (seqObj "list" (N.map fun q=>Value.ref q.1).toArray 0)).get? h'.objs.size=some (seqObj "list" (N.map fun q=>Value.ref q.1).toArray 0):=Heap.get?_push_size _ rfl
  have rd:∀ q∈N,Reads (h'.push (seqObj "list" (N.map fun q=>Value.ref q.1).toArray 0)) (.ref q.1) (prD q.2).py []:=fun q hq=>by
    have:IsM X.prog X.w h' (prK q.2) q.1:=key_of (ks:=prK q.2) I1.hok (hN q hq)
    exact readsP (P:=X.prog) (w:=X.w) (isM_keep this fun b u e=>Heap.get?_push_of_some _ e)
  refine wpAny_bind (wpAny_holding (PySem.W.list_sort_data (s:={ s with heap:=h'.push (seqObj "list" (N.map fun q=>Value.ref q.1).toArray 0),toks:=tk }) (R:=fun (v:Value) (q:Pp)=>v=.ref q.1) (enc:=fun q:Pp=>(prD q.2).py) hoL (eachRef N) (each_all fun q hq=>⟨[],rd q hq,fun z=>by cases z⟩) ?_ ?_ (by rw [sizeLine_eq]; omega) (fun q _=>?_) fun out h1 h2=>?_))
  · intro d hd' d' hd''
    obtain ⟨q,_,rfl⟩:=List.mem_map.mp hd'
    obtain ⟨r,_,rfl⟩:=List.mem_map.mp hd''
    rfl
  · left
    intro d hd'
    obtain ⟨q,_,rfl⟩:=List.mem_map.mp hd'
    exact ⟨_,_,rfl⟩
  · show X.A.in1.units + 1 + (prD q.2).dep < cLine
    have:(prD q.2).dep=1:=rfl
    rw [this]
    simp [Around.in1]
    omega
  · have eo:=refs_of h2
    obtain ⟨c,hcc⟩:=sortedHeap_at (vs:=N.map fun q=>Value.ref q.1) (out:=out.toArray) hoL
    have pm:=List.mergeSort_perm N (PySem.W.dataLe false fun q:Pp=>(prD q.2).py)
    have rv:Vals ((N.mergeSort (PySem.W.dataLe false fun q:Pp=>(prD q.2).py)).map fun q=>V.ref q.1) out:=by
      rw [eo]
      have:=vals_refs ((N.mergeSort (PySem.W.dataLe false fun q:Pp=>(prD q.2).py)).map (·.1))
      rw [List.map_map,List.map_map] at this
      exact this
    refine wpAny_pure ⟨_,rfl,.ref h'.objs.size,_,I1.laid (t':=tk) (o:=.lst ((N.mergeSort (PySem.W.dataLe false fun q:Pp=>(prD q.2).py)).map fun q=>V.ref q.1)) (fun b u e=>?_) (Nat.le_refl _) ⟨by rw [List.length_map,pm.length_eq,sizeLine_eq]; omega,out,c,rv,hcc⟩,rfl,q N _ _ eP pm ?_ hN (I1.hok.fresh (Nat.le_refl _))⟩
    · have hlt:=Heap.lt_size e
      show (sortedHeap (h'.push (seqObj "list" (N.map fun q=>Value.ref q.1).toArray 0)) h'.objs.size _ out.toArray).get? b=some u
      rw [sortedHeap_old (Nat.ne_of_lt hlt) (by rw [size_push']; exact Nat.lt_succ_of_lt hlt)]
      exact Heap.get?_push_of_some _ e
    · exact List.pairwise_mergeSort (le:=fun q r:Pp=>lePr q.2 r.2) (fun a b c h1 h2=>lePr_tr _ _ _ h1 h2) (fun a b=>lePr_to _ _) N
end
def prsK:List (List Key)→Option (List (Str×Int))
  | []=>some []
  | [.inr a,.inl k] :: ks=>(prsK ks).map fun ps=>(a,k) :: ps
  | _=>none
theorem prsK_eq:∀ {ks:List (List Key)} {ps:List (Str×Int)},prsK ks=some ps→ks=ps.map prK:=by
  intro ks
  induction ks with
  | nil=>intro ps h; cases h; rfl
  | cons d ds ih =>
    intro ps h
    unfold prsK at h
    split at h
    · rename_i z; cases z
    · rename_i a k ds' z
      cases z
      cases q:prsK ds with
      | none=>rw [q] at h; cases h
      | some ps' =>
        rw [q] at h
        cases h
        rw [ih q]
        rfl
    · cases h
def strOkP (p:Str×Int):Bool:=PyData.strOk p.1 && decide (p.1.length≤sizeLine)
def dSortD:D→R D
  | .dic true ks _=>match prsK ks with
    | some ps=>if ps.length < 64∧ps.all strOkP=true then .ok (.lst ((isort lePr ps).map prD)) else .stuck
    | none=>.stuck
  | _=>.stuck
theorem dSortD_noexc (x:D) (c:Str):dSortD x≠.exc c:=by unfold dSortD; split <;> (try split) <;> (try split) <;> exact fun z=>nomatch z
theorem prD_rd {K:Frag} {G:Hp} {p:Str×Int} {b:Addr} (h:strOkP p=true) (hb:G b=some (.tup [.str p.1,.int p.2])):RD K G (.ref b) (prD p):=by
  obtain ⟨h1,h2⟩:=and2 h
  exact .tup ⟨[],by rw [pT_key rfl]; exact hb⟩ (by rw [sizeLine_eq]; show 2≤16777216; omega) (.cons (.str _ h1 (of_decide_eq_true h2)) (.cons (.int _) .nil))
theorem cd_sortd {K : Frag} : CallD K (fun xs H Q => ∃ (a : Addr) (kvs : List (List Key × V)) (ps : List (Str × Int)), xs = [V.ref a] ∧ Rd H a (.dT kvs) ∧ (kvs.map fun p => p.1) = ps.map prK ∧ ps.length < 64 ∧
    ∀ (N N':List Pp) p,N.map (·.2)=ps→N'.Perm N→N'.Pairwise (fun q r=>lePr q.2 r.2=true)→(∀ q∈N,H q.1=some (.tup [.str q.2.1,.int q.2.2]))→H p=none→Q (.ref p) (upd H p (.lst (N'.map fun q=>V.ref q.1)))) (on1 dSortD) (.own .fz):=calld1 fun x dx d G H Q e r hg k=>by
  unfold dSortD at hg
  split at hg
  · rename_i ks ds
    split at hg
    · rename_i ps hps
      split at hg
      · rename_i hk
        cases hg
        rcases r.dic e with ⟨z,_⟩ | ⟨_,a,kvs,rfl,hH,l,rfl,rs⟩
        · cases z
        · refine ⟨a,kvs,ps,rfl,hH,prsK_eq hps,hk.1,fun N N' p eP pm pw hN hp=>?_⟩
          have mem:∀ b∈N.map (·.1),∃ vs,H b=some (.tup vs):=fun b hb=>by
            obtain ⟨q,hq,rfl⟩:=List.mem_map.mp hb
            exact ⟨_,hN q hq⟩
          obtain ⟨j1,j2,j3⟩:=join_tup e mem
          have ok:∀ q∈N,strOkP q.2=true:=fun q hq=>List.all_eq_true.mp hk.2 _ (by rw [← eP]; exact List.mem_map.mpr ⟨q,hq,rfl⟩)
          have rd:RDs K (join G H (N.map (·.1))) (N'.map fun q=>V.ref q.1) (N'.map fun q=>prD q.2):=rds_prs fun q hq=>by
            have hq:=pm.mem_iff.mp hq
            exact prD_rd (ok q hq) (by rw [join_in (List.mem_map.mpr ⟨q,hq,rfl⟩)]; exact hN q hq)
          have em:N'.map (·.2)=isort lePr ps:=by
            have p1:(N'.map (·.2)).Perm ps:=by rw [← eP]; exact pm.map _
            have p2:(isort lePr ps).Perm ps:=by rw [← msort_eq lePr_tr lePr_to]; exact List.mergeSort_perm ..
            have w2:(isort lePr ps).Pairwise (fun a b=>lePr a b=true):=by rw [← msort_eq lePr_tr lePr_to]; exact List.pairwise_mergeSort lePr_tr lePr_to _
            exact List.Perm.eq_of_pairwise (fun a b _ _ h1 h2=>lePr_anti h1 h2) (List.pairwise_map.mpr pw) w2 (p1.trans p2.symm)
          have e2:(N'.map fun q:Pp=>prD q.2)=(isort lePr ps).map prD:=by rw [← em,List.map_map]; rfl
          rw [e2] at rd
          have lN:N'.length < 64:=by
            have:=pm.length_eq
            have h2:N.length=ps.length:=by rw [← eP,List.length_map]
            have:=hk.1
            omega
          have hpb:p∉N.map (·.1):=fun m=>by
            obtain ⟨vs,q⟩:=mem p m
            rw [hp] at q; cases q
          have hpj:join G H (N.map (·.1)) p=none:=by rw [join_out hpb]; exact e.free hp
          refine k (.ref p) (join G H (N.map (·.1))) _ ⟨j1,.of (Same.upd hp),j2.trans (Same.upd hp),j3⟩ ⟨[p],.ol upd_same (by rw [List.length_map,sizeLine_eq]; omega) (OWs.fzs rd),by simp,fun c m=>?_⟩
          have:c=p:=by simpa using m
          subst this
          exact ⟨hp,⟨_,upd_same,fun _ z=>nomatch z⟩,hpj⟩
      · cases hg
    · cases hg
  · cases hg
end Hr
end
section
namespace Hr
open PySem PySem.Spec L2 PyProof.Rows
section
variable {X:Cx} {B:Base} {W:WX} {Γ Γ1 Γ2:Ow} {o:OC} {a b:Expr} {fa fb:En→R D} {pos:Pos}
end
end Hr
end
section
namespace Hr
open PySem PySem.Spec L2 PyProof.Rows
section
variable {X:Cx} {B:Base} {W:WX} {Γ Γ1 Γn:Ow} {o:OC} {a b c e:Expr} {fa fb fc fe:En→R D} {pos p p2 q:Pos} {st:Stmt} {f g:En→Out}
def Gh (X:Cx) (σ σ':St):Prop:=σ'.length=σ.length∧∀ (i:Nat) (x:Str),X.N[i]?=some x→Vis X.env.scope x→σ'[i]?=σ[i]?
theorem Gh.refl (σ:St):Gh X σ σ:=⟨rfl,fun _ _ _ _=>rfl⟩
theorem Gh.trans {σ σ1 σ2:St} (a:Gh X σ σ1) (b:Gh X σ1 σ2):Gh X σ σ2:=⟨b.1.trans a.1,fun i x h v=>(b.2 i x h v).trans (a.2 i x h v)⟩
theorem Gh.set {σ:St} {j:Nat} {x:Str} (hN:X.N[j]?=some x) (hv:¬ Vis X.env.scope x) (v:Option V):Gh X σ (σ.set j v):=⟨List.length_set,fun i y h hy=>by
  rw [List.getElem?_set_ne]
  intro z
  rw [z,h] at hN
  cases hN
  exact hv hy⟩
theorem inv_gh {pins:List (Addr×Obj)} {σ σ':St} {H:Hp} {s:Shared} (I:L2.Inv X pins σ H s) (g:Gh X σ σ'):L2.Inv X pins σ' H s :=
  ⟨I.ok,I.os,I.bare,I.base,let ⟨m,hn,h⟩:=I.loc; ⟨m,hn,fun i x v e1 e2 hv=>h i x v e1 (by rw [← g.2 i x e1 hv]; exact e2) hv⟩,I.cell,I.free,I.freeC,I.pin,I.hok,by rw [g.1]; exact I.len⟩
def ghE (X:Cx) (Dn:Ends):Ends where
  nx:=fun σ H=>∃ σ',Gh X σ σ'∧Dn.nx σ' H
  rt:=Dn.rt
  bk:=fun σ H=>∃ σ',Gh X σ σ'∧Dn.bk σ' H
  ct:=fun σ H=>∃ σ',Gh X σ σ'∧Dn.ct σ' H
theorem sp_gh {pins:List (Addr×Obj)} {Dn:Ends} {fl:Flow} {s:Shared} (h:SP X pins (ghE X Dn) fl s):SP X pins Dn fl s:=by
  cases fl with
  | next=>obtain ⟨σ,H,I,σ',g,q⟩:=h; exact ⟨σ',H,inv_gh I g,q⟩
  | brk=>obtain ⟨σ,H,I,σ',g,q⟩:=h; exact ⟨σ',H,inv_gh I g,q⟩
  | cont=>obtain ⟨σ,H,I,σ',g,q⟩:=h; exact ⟨σ',H,inv_gh I g,q⟩
  | ret u=>exact h
theorem PS.gh {t:TS} (h:PS X st t):PS X st (fun Dn σ H=>t (ghE X Dn) σ H):=⟨fun pins s σ H Dn I q=>thn (h.run pins s σ H (ghE X Dn) I q) fun _ _ z=>sp_gh z⟩
structure FldOk (K:Frag) (B:Base) (i:Nat) (f:Str) (j:Nat):Prop where
  ex:∃ (k:Nat) (od:OD),B.O[k]?=some od∧Rt od i∧(f,j)∈od.fs∧Cls K od.C∧NoAttr K od.C f
theorem Rel.fld {K:Frag} {s:En} {G H:Hp} {σ:St} {i j:Nat} {f:Str} {v:V} (r:Rel K B Γ s G σ H) (ho:FldOk K B i f j) (e:σ[j]?=some (some v)):∃ a C dx fs,σ[i]?=some (some (.ref a))∧H a=some (.ins C dx fs)∧Cls K C∧NoAttr K C f∧fs.lookup f=some v:=by
  obtain ⟨k,od,h1,h2,h3,h4,h5⟩:=ho.ex
  obtain ⟨α,_,rr⟩:=r.ob
  have q:=rr k od h1
  have lv:=q.fld _ h3 v e
  obtain ⟨dx,fs,e1,_,e3,_⟩:=q.ins (q.nl2 h3) lv
  have ew:=q.root lv h2
  refine ⟨α k,od.C,dx,fs,ew,e1,h4,h5,?_⟩
  rw [e3 _ h3,e]
  rfl
theorem fld_pe {i j : Nat} {x f : Str} (hN : X.N[i]? = some x) (hv : Vis X.env.scope x) (h1 : (x == ("__debug__" : Str)) = false) (h2 : (x == ("__classdict__" : Str)) = false) (ho : FldOk X.K B i f j) :
    PE X (.Attribute (.Name x p) f pos) (tVarR X.K B Γ j) :=
  PE.imp (pe_fld (pe_var hN hv h1 h2) (base_ok rfl _ _ _)) fun σ H Q ⟨⟨s,G,rl⟩,v,e,k⟩=>by
    obtain ⟨a,C,dx,fs,e1,e2,e3,e4,e5⟩:=rl.fld ho e
    exact ⟨_,e1,a,C,dx,fs,v,rfl,e2,e3,e4,e5,k⟩
theorem fld_peG {i j:Nat} {f:Str} (hn:notCall e=true) (he:PE X e (tVarR X.K B Γ i)) (ho:FldOk X.K B i f j):PE X (.Attribute e f pos) (tVarR X.K B Γ j) :=
  PE.imp (pe_fld he (base_ok hn _ _ _)) fun σ H Q ⟨⟨s,G,rl⟩,v,e,k⟩=>by
    obtain ⟨a,C,dx,fs,e1,e2,e3,e4,e5⟩:=rl.fld ho e
    exact ⟨⟨s,G,rl⟩,_,e1,a,C,dx,fs,v,rfl,e2,e3,e4,e5,k⟩
structure FldSet (K:Frag) (B:Base) (i:Nat) (f:Str) (j:Nat):Prop where
  ex:∃ (k:Nat) (od:OD),B.O[k]?=some od∧Rt od i∧(f,j)∈od.fs∧od.own=true∧od.al=true∧Cls K od.C∧NoAttr K od.C f∧od.fs.length≤900∧(∀ p∈od.fs,p.1=f↔p.2=j)∧∀ (l:Nat) (od':OD),B.O[l]?=some od'→(j∉od'.rs∧j∉od'.nm)∧(l≠k→∀ p∈od'.fs,p.2≠j)
theorem putF_keys (f:Str) (v:V):∀ fs:List (Str×V),(putF f v fs).map (·.1)=if f∈fs.map (·.1) then fs.map (·.1) else fs.map (·.1) ++ [f]
  | []=>by simp [putF]
  | (g,x) :: r=>by
    unfold putF
    by_cases h:g=f
    · subst h; simp
    · rw [if_neg h,List.map_cons,putF_keys f v r]
      have h':¬ f=g:=fun z=>h z.symm
      by_cases m:f∈r.map (·.1)
      · rw [if_pos m,if_pos (by rw [List.map_cons]; exact List.mem_cons_of_mem _ m)]; rfl
      · rw [if_neg m,if_neg (by rw [List.map_cons,List.mem_cons]; exact fun z=>z.elim h' m)]; rfl
theorem putF_nd {f:Str} {v:V} {fs:List (Str×V)} (h:(fs.map (·.1)).Nodup):((putF f v fs).map (·.1)).Nodup:=by
  rw [putF_keys]
  split
  · exact h
  · rename_i m
    rw [List.nodup_append]
    exact ⟨h,by simp,fun a ha b hb=>by rw [List.mem_singleton.mp hb]; exact fun z=>m (z ▸ ha)⟩
theorem lookup_key {f:Str}:∀ {fs:List (Str×V)},f∈fs.map (·.1)→∃ v,fs.lookup f=some v
  | (g,x) :: r,h=>by
    rw [List.lookup_cons]
    by_cases e:f=g
    · subst e; exact ⟨x,by simp⟩
    · rw [beq_eq_false_iff_ne.mpr e]
      rw [List.map_cons] at h
      exact lookup_key ((List.mem_cons.mp h).resolve_left e)
theorem nd_le' {α:Type} [DecidableEq α]:∀ {l m:List α},l.Nodup→(∀ x∈l,x∈m)→l.length≤m.length
  | [],_,_,_=>Nat.zero_le _
  | a :: l,m,nd,h=>by
    obtain ⟨n1,n2⟩:=List.nodup_cons.mp nd
    have ha:=h a List.mem_cons_self
    have h2:=nd_le' (m:=m.erase a) n2 fun x hx=>(List.mem_erase_of_ne (fun z=>n1 (by rw [← z]; exact hx))).mpr (h x (List.mem_cons_of_mem _ hx))
    rw [List.length_erase_of_mem ha] at h2
    have:=List.length_pos_of_mem ha
    rw [List.length_cons]
    omega
end
end Hr
end
section
namespace Hr
open PySem PySem.Spec L2 PyProof.Rows
mutual
def immB:D→Bool
  | .non=>true
  | .bl _=>true
  | .int _=>true
  | .str _=>true
  | .tup ds=>immBs ds
  | _=>false
def immBs:List D→Bool
  | []=>true
  | d :: ds=>immB d && immBs ds
end
def okRes:OT→D→Bool
  | .fz,d=>immB d
  | .own .fz,.lst ds=>immBs ds
  | .own .fz,.dic _ _ ds=>immBs ds
  | _,_=>false
mutual
theorem RD.thin {K:Frag} {G G3:Hp} (h:∀ b us vs,G b=some (pT us vs)→G3 b=some (pT us vs)):∀ {v:V} {d:D},RD K G v d→immB d=true→RD K G3 v d
  | _,_,.non,_=>.non
  | _,_,.bl b,_=>.bl b
  | _,_,.int i,_=>.int i
  | _,_,.str x a b,_=>.str x a b
  | _,_,.tup ⟨us,z⟩ l r,i=>.tup ⟨us,h _ _ _ z⟩ l (RDs.thin h r i)
  | _,_,.lst _ _ _,i=>by cases i
  | _,_,.arr _ _ _,i=>by cases i
  | _,_,.kt _ _ _,i=>by cases i
  | _,_,.dK _ _ _,i=>by cases i
  | _,_,.dT _ _ _,i=>by cases i
  | _,_,.exc _,i=>by cases i
  | _,_,.adr _,i=>by cases i
  | _,_,.lnk _,i=>by cases i
theorem RDs.thin {K:Frag} {G G3:Hp} (h:∀ b us vs,G b=some (pT us vs)→G3 b=some (pT us vs)):∀ {vs:List V} {ds:List D},RDs K G vs ds→immBs ds=true→RDs K G3 vs ds
  | _,_,.nil,_=>.nil
  | _,_,.cons a b,i=>.cons (RD.thin h a (and2 i).1) (RDs.thin h b (and2 i).2)
end
theorem New.thin {K:Frag} {H G2 H2 G3:Hp} {v:V} {d:D} {t:OT} (h:∀ b us vs,G2 b=some (pT us vs)→G3 b=some (pT us vs)) (hn:∀ b,G2 b=none→G3 b=none) (n:New K H G2 H2 v d t) (ok:okRes t d=true):New K H G3 H2 v d t:=by
  obtain ⟨fq,ow,nd,k⟩:=n
  cases ow with
  | fz r=>exact .fz (r.thin h ok)
  | @ol a vs ds t fp e l rs =>
    cases t with
    | own t=>cases ok
    | tp _=>cases ok
    | fz =>
      obtain ⟨rs',e0⟩:=rs.unfz
      subst e0
      exact ⟨_,.ol e l (OWs.fzs (rs'.thin h ok)),nd,fun b m=>⟨(k b m).1,(k b m).2.1,hn b (k b m).2.2⟩⟩
  | @odK a kvs ds t fp e l rs =>
    cases t with
    | own t=>cases ok
    | tp _=>cases ok
    | fz =>
      obtain ⟨rs',e0⟩:=rs.unfz
      subst e0
      exact ⟨_,.odK e l (OWs.fzs (rs'.thin h ok)),nd,fun b m=>⟨(k b m).1,(k b m).2.1,hn b (k b m).2.2⟩⟩
  | @odT a kvs ds t fp e l rs =>
    cases t with
    | own t=>cases ok
    | tp _=>cases ok
    | fz =>
      obtain ⟨rs',e0⟩:=rs.unfz
      subst e0
      exact ⟨_,.odT e l (OWs.fzs (rs'.thin h ok)),nd,fun b m=>⟨(k b m).1,(k b m).2.1,hn b (k b m).2.2⟩⟩
  | ot _ _ _ _ _ _ _=>cases ok
def fldsAt (s:En):List Nat→Option (List D)
  | []=>some []
  | j :: js=>match (s[j]?).bind id with
    | some d=>(fldsAt s js).map fun ds=>d :: ds
    | none=>none
theorem fldsAt_cons {s:En} {j:Nat} {js:List Nat} {fds:List D} (h:fldsAt s (j :: js)=some fds):∃ d ds,s[j]?=some (some d)∧fldsAt s js=some ds∧fds=d :: ds:=by
  unfold fldsAt at h
  cases q:s[j]? with
  | none=>rw [q] at h; cases h
  | some od =>
    rw [q] at h
    cases od with
    | none=>cases h
    | some d =>
      cases q2:fldsAt s js with
      | none=>rw [q2] at h; cases h
      | some ds=>rw [q2] at h; cases h; exact ⟨d,ds,rfl,rfl,rfl⟩
theorem flds_rd {K : Frag} {G H Z : Hp} {σ : St} {s : En} {Γ : Ow} {φ : Nat → List Addr} (sl : SL K G H σ s Γ φ) (eZ : Same G Z) : ∀ {fs : List (Str × Nat)} {fds : List D}, fldsAt s (fs.map (·.2)) = some fds → (∀ p ∈ fs, ∀ a ∈ φ p.2, ∀ o, H a = some o → Z a = some o) →
    ∃ fvs:List V,fvs.length=fs.length∧(∀ q∈fs.zip fvs,σ[q.1.2]?=some (some q.2))∧RDs K Z fvs fds
  | [],fds,h,_=>by cases h; exact ⟨[],rfl,fun q hq=>(nomatch hq),.nil⟩
  | p :: fs,fds,h,hz=>by
    obtain ⟨d,ds,e1,e2,rfl⟩:=fldsAt_cons h
    obtain ⟨fvs,l,hq,r⟩:=flds_rd sl eZ e2 fun p' hp=>hz p' (List.mem_cons_of_mem _ hp)
    obtain ⟨v,ev,ow⟩:=sl.at_ p.2 d e1
    refine ⟨v :: fvs,by simp [l],fun q m=>?_,.cons (ow.now eZ fun a m o z=>hz p List.mem_cons_self a m o z) r⟩
    rw [List.zip_cons_cons] at m
    rcases List.mem_cons.mp m with z | m
    · rw [z]; exact ev
    · exact hq q m
theorem pT_no {us:List Value} {vs:List V}:(∀ xs,pT us vs≠.lst xs)∧(∀ k,pT us vs≠.dK k)∧(∀ k,pT us vs≠.dT k)∧∀ C dx fs,pT us vs≠.ins C dx fs:=by
  unfold pT
  split <;> exact ⟨fun _ z=>(nomatch z),fun _ z=>(nomatch z),fun _ z=>(nomatch z),fun _ _ _ z=>(nomatch z)⟩
mutual
theorem OW.kind {K:Frag} {G H:Hp}:∀ {v:V} {d:D} {t:OT} {fp:List Addr},OW K G H v d t fp→∀ a∈fp,∀ us vs,H a≠some (pT us vs)
  | _,_,_,_,.fz _,a,m=>by cases m
  | _,_,_,_,.ol h _ r,a,m=>fun us vs e=>by
    rcases List.mem_cons.mp m with z | m
    · subst z; rw [h] at e; exact pT_no.1 _ (Option.some.inj e).symm
    · exact OWs.kind r a m us vs e
  | _,_,_,_,.odK h _ r,a,m=>fun us vs e=>by
    rcases List.mem_cons.mp m with z | m
    · subst z; rw [h] at e; exact pT_no.2.1 _ (Option.some.inj e).symm
    · exact OWs.kind r a m us vs e
  | _,_,_,_,.odT h _ r,a,m=>fun us vs e=>by
    rcases List.mem_cons.mp m with z | m
    · subst z; rw [h] at e; exact pT_no.2.2.1 _ (Option.some.inj e).symm
    · exact OWs.kind r a m us vs e
  | _,_,_,_,.ot _ _ _ _ _ _ o,a,m=>OW.kind o a m
theorem OWs.kind {K:Frag} {G H:Hp}:∀ {vs:List V} {ds:List D} {t:OT} {fp:List Addr},OWs K G H vs ds t fp→∀ a∈fp,∀ us ws,H a≠some (pT us ws)
  | _,_,_,_,.nil,a,m=>by cases m
  | _,_,_,_,.cons x y,a,m=>by
    rcases List.mem_append.mp m with m | m
    · exact OW.kind x a m
    · exact OWs.kind y a m
end
theorem fld_kind {K:Frag} {G H:Hp} {σ:St} {s:En} {Γ:Ow} {φ:Nat→List Addr} (sl:SL K G H σ s Γ φ):∀ {js:List Nat} {fds:List D},fldsAt s js=some fds→∀ b∈js.flatMap φ,(∀ us vs,H b≠some (pT us vs))∧(∀ C dx fs,H b≠some (.ins C dx fs))∧G b=none∧Cel H b∧(∀ o,H b=some o→isPl o=true)
  | [],_,_,b,m=>by cases m
  | j :: js,fds,h,b,m=>by
    obtain ⟨d,ds,e1,e2,rfl⟩:=fldsAt_cons h
    rw [List.flatMap_cons] at m
    rcases List.mem_append.mp m with m | m
    · obtain ⟨v,ev,ow⟩:=sl.at_ j d e1
      exact ⟨ow.kind b m,fun C dx fs e=>ow.noins e m,(sl.ok j b m).2,(sl.ok j b m).1,ow.pl b m⟩
    · exact fld_kind sl e2 b m
theorem Rel.lend {K : Frag} {B : Base} {Γ : Ow} {s : En} {G H : Hp} {σ : St} {i k : Nat} {od : OD} {fds : List D} (r : Rel K B Γ s G σ H) (hO : B.O[k]? = some od) (hrs : Rt od i) (hls : od.ls = false) (hne : od.al = true ∨ od.fs ≠ []) (hf : fldsAt s (od.fs.map (·.2)) = some fds) :
    ∃ a dx fs fvs G',σ[i]?=some (some (.ref a))∧H a=some (.ins od.C dx fs)∧(fs.map (·.1)).Nodup∧(∀ f v,fs.lookup f=some v→f∈od.fs.map (·.1))∧fvs.length=od.fs.length∧(∀ q∈od.fs.zip fvs,fs.lookup q.1.1=some q.2)∧Same G G'∧Sub G' H∧G' a=some (.ins od.C dx fs)∧RDs K G' fvs fds ∧
      ∀ G2 H2,Grow K G' H G2 H2→∃ G3,Grow K G H G3 H2∧∀ v d t,okRes t d=true→New K H G2 H2 v d t→New K H G3 H2 v d t:=by
  obtain ⟨φ,sl,hfr⟩:=r.sl
  obtain ⟨α,inj,rr⟩:=r.ob
  have q:=rr k od hO
  have lv:Live od σ:=by
    rcases hne with ha | hne
    · exact q.al ha
    · cases hfs:od.fs with
      | nil=>exact absurd hfs hne
      | cons p fs =>
        rw [hfs,List.map_cons] at hf
        obtain ⟨d,ds,e1,_⟩:=fldsAt_cons hf
        obtain ⟨v,ev,_⟩:=sl.at_ p.2 d e1
        exact q.fld p (by rw [hfs]; exact List.mem_cons_self) v ev
  obtain ⟨dx,fs,e1,e2,e3,e4,e5,e6⟩:=q.ins hls lv
  have ew:=q.root lv hrs
  have fk:=fld_kind sl hf
  let L:List Addr:=(if od.own=true then [α k] else []) ++ (od.fs.map (·.2)).flatMap φ
  have Lk:∀ b∈L,(∀ us vs,H b≠some (pT us vs))∧G b=none∧Cel H b∧(∀ o,H b=some o→isPl o=true):=fun b m=>by
    rcases List.mem_append.mp m with m | m
    · split at m
      · rename_i ho
        rw [List.mem_singleton.mp m]
        exact ⟨fun us vs z=>by rw [e1] at z; exact pT_no.2.2.2 _ _ _ (Option.some.inj z).symm,(e5 ho).1,⟨_,e1,fun _ z=>nomatch z⟩,pl_of e1 rfl⟩
      · cases m
    · exact ⟨(fk b m).1,(fk b m).2.2⟩
  have hG:∀ b∈L,G b=none:=fun b m=>(Lk b m).2.1
  have s1:Same G (join G H L):=join_same hG
  have s2:Sub (join G H L) H:=join_le r.GH fun a m=>(Lk a m).2.2.2
  obtain ⟨fvs,l,hq,rd⟩:=flds_rd (Z:=join G H L) sl s1 hf fun p hp a m o z=>by
    rw [join_in (List.mem_append_right _ (List.mem_flatMap.mpr ⟨p.2,List.mem_map.mpr ⟨p,hp,rfl⟩,m⟩))]; exact z
  have ga:join G H L (α k)=some (.ins od.C dx fs):=by
    by_cases ho:od.own=true
    · rw [join_in (List.mem_append_left _ (by rw [if_pos ho]; exact List.mem_singleton.mpr rfl))]; exact e1
    · rw [join_out fun m => by
        rcases List.mem_append.mp m with m | m
        · rw [if_neg ho] at m; cases m
        · exact (fk _ m).2.1 _ _ _ e1]
      exact e6 (by simpa using ho)
  refine ⟨α k,dx,fs,fvs,join G H L,ew,e1,e2,e4,l,fun p hp=>?_,s1,s2,ga,rd,fun G2 H2 g2=>⟨fun b=>if b∈L then none else G2 b,⟨fun b o z=>?_,g2.h,⟨fun b o z=>?_,fun b o z=>?_⟩,fun b z1 z2=>?_⟩,fun v d t ok n=>n.thin (fun b us vs z=>?_) (fun b z=>?_) ok⟩⟩
  · rw [e3 p.1 (List.of_mem_zip (show (p.1,p.2)∈_ from hp)).1,hq p hp]; rfl
  · rw [if_neg fun m=>by rw [hG b m] at z; cases z]
    exact g2.g b o (s1 b o z)
  · split at z
    · cases z
    · exact g2.gh b o z
  · split at z
    · cases z
    · exact g2.gh.n b o z
  · split
    · rfl
    · rename_i m
      exact g2.nw b (by rw [join_out m]; exact z1) z2
  · rw [if_neg fun m=>?_]
    · exact z
    · obtain ⟨k1,k2,⟨o,ho,_⟩,hpl⟩:=Lk b m
      have h2:=g2.gh b _ z
      have h3:=g2.h b o ho (isPl_tb (hpl o ho))
      rw [h3] at h2
      exact k1 us vs (by rw [ho]; exact h2)
  · split
    · rfl
    · exact z
def spV (K:Frag) (C:Addr) (fn:List Str) (n:Nat) (t:OT) (φ:List D→R D):Sp:=fun vs H Q E=>∃ a dx fs fvs rest fds ds G,vs=.ref a :: rest∧Sub G H∧TK K H∧G a=some (.ins C dx fs)∧(fs.map (·.1)).Nodup∧(∀ f v,fs.lookup f=some v→f∈fn)∧fvs.length=fn.length∧(∀ q∈fn.zip fvs,fs.lookup q.1=some q.2) ∧
  RDs K G fvs fds∧RDs K G rest ds∧ds.length=n∧Done (φ (fds ++ ds)) (fun d=>∀ v G' H',Grow K G H G' H'→New K H G' H' v d t→Q v H') (fun c=>∀ G' H',Grow K G H G' H'→E (clsV K c) none H')
structure Mok (P:Program) (w:World) (K:Frag) (mg:Str→Option Value) (base:Heap) (c m:Str) (fn:List Str) (n:Nat) (t:OT) (k:Nat) (φ:List D→R D):Prop where
  cls:Cls K (He.ga K c)
  nof:m∉fn
  ok:∃ f fd ps,Meth K (He.ga K c) m f∧Binds K fd ps []∧ps.length=n + 1∧FnOk P w K mg base (L2.CX P w) k f fd ps (spV K (He.ga K c) fn n t φ)
theorem Mok.mono {P:Program} {w:World} {K:Frag} {mg:Str→Option Value} {base:Heap} {c m:Str} {fn:List Str} {n:Nat} {t:OT} {j k:Nat} {φ:List D→R D} (h:Mok P w K mg base c m fn n t j φ) (l:j≤k):Mok P w K mg base c m fn n t k φ:=by
  obtain ⟨f,fd,ps,a,b,e,F⟩:=h.ok
  exact ⟨h.cls,h.nof,f,fd,ps,a,b,e,F.mono l⟩
section
variable {X:Cx} {B:Base} {W:WX} {Γ:Ow} {e ob:Expr} {es:List Expr} {fs:En→R (List D)} {p apos pos:Pos}
structure ObOk (K:Frag) (B:Base) (i:Nat) (c:Str) (fj:List (Str×Nat)):Prop where
  ex:∃ (k:Nat) (od:OD),B.O[k]?=some od∧Rt od i∧od.C=He.ga K c∧od.fs=fj∧(od.al=true∨od.fs≠[])∧od.ls=false
structure FokV (P:Program) (w:World) (K:Frag) (mg:Str→Option Value) (base:Heap) (x c:Str) (fn:List Str) (n:Nat) (t:OT) (k:Nat) (φ:List D→R D):Prop where
  glo:mg x=some (.ref (He.ga K x))
  kp:PySem.W.keepIn K (.ref (He.ga K x))=true
  ok:∃ fd ps,Binds K fd ps []∧ps.length=n + 1∧FnOk P w K mg base (L2.CX P w) k (He.ga K x) fd ps (spV K (He.ga K c) fn n t φ)
end
end Hr
end
section
namespace Hr
open PySem PySem.Spec L2 PyProof.Rows
def setFs {α:Type}:List (Option α)→List Nat→List α→List (Option α)
  | s,j :: js,d :: ds=>setFs (s.set j (some d)) js ds
  | s,_,_=>s
theorem setFs_len {α:Type}:∀ (s:List (Option α)) (js:List Nat) (ds:List α),(setFs s js ds).length=s.length
  | s,[],_=>rfl
  | s,_ :: _,[]=>rfl
  | s,j :: js,d :: ds=>by
    show (setFs (s.set j (some d)) js ds).length=_
    rw [setFs_len,List.length_set]
theorem setFs_out {α:Type} {i:Nat}:∀ {s:List (Option α)} {js:List Nat} {ds:List α},i∉js→(setFs s js ds)[i]?=s[i]?
  | s,[],_,_=>rfl
  | s,_ :: _,[],_=>rfl
  | s,j :: js,d :: ds,h=>by
    show (setFs (s.set j (some d)) js ds)[i]?=_
    rw [setFs_out fun z=>h (List.mem_cons_of_mem _ z),List.getElem?_set_ne fun z=>h (by rw [z]; exact List.mem_cons_self)]
theorem setFs_in {α:Type}:∀ {s:List (Option α)} {js:List Nat} {ds:List α} {k i:Nat} {d:α},js.Nodup→js[k]?=some i→ds[k]?=some d→i < s.length→(setFs s js ds)[i]?=some (some d)
  | s,[],_,k,_,_,_,h,_,_=>by simp at h
  | s,_ :: _,[],k,_,_,_,_,h,_=>by simp at h
  | s,j :: js,d0 :: ds,0,i,d,nd,h1,h2,hl=>by
    simp at h1 h2
    subst h1 h2
    show (setFs (s.set j (some d0)) js ds)[j]?=_
    rw [setFs_out (List.nodup_cons.mp nd).1,List.getElem?_set_self hl]
  | s,j :: js,d0 :: ds,k + 1,i,d,nd,h1,h2,hl=>by
    show (setFs (s.set j (some d0)) js ds)[i]?=_
    exact setFs_in (List.nodup_cons.mp nd).2 (by simpa using h1) (by simpa using h2) (by rw [List.length_set]; exact hl)
theorem fldsAt_at {s:En}:∀ {js:List Nat} {fds:List D},fldsAt s js=some fds→fds.length=js.length∧∀ (k j:Nat),js[k]?=some j→∃ d,fds[k]?=some d∧s[j]?=some (some d)
  | [],_,h=>by cases h; exact ⟨rfl,fun k j z=>by simp at z⟩
  | j0 :: js,_,h=>by
    obtain ⟨d,ds,e1,e2,rfl⟩:=fldsAt_cons h
    obtain ⟨l,k2⟩:=fldsAt_at e2
    refine ⟨by simp [l],fun k j z=>?_⟩
    cases k with
    | zero=>simp at z; subst z; exact ⟨d,by simp,e1⟩
    | succ k=>exact k2 k j (by simpa using z)
structure OSt (K:Frag) (C:Addr) (ft:List (Str×OT)) (G H:Hp) (a:Addr) (fvs:List V) (fds:List D) (fps:List (List Addr)):Prop where
  ins:∃ dx fs,H a=some (.ins C dx fs)∧(fs.map (·.1)).Nodup∧(∀ f v,fs.lookup f=some v→f∈ft.map (·.1))∧∀ (k:Nat) (p:Str×OT) (v:V),ft[k]?=some p→fvs[k]?=some v→fs.lookup p.1=some v
  l1:fvs.length=ft.length
  l2:fds.length=ft.length
  l3:fps.length=ft.length
  ow:∀ (k:Nat) (p:Str×OT) (v:V) (d:D) (fp:List Addr),ft[k]?=some p→fvs[k]?=some v→fds[k]?=some d→fps[k]?=some fp→OW K G H v d p.2 fp
  nd:∀ (k:Nat) (fp:List Addr),fps[k]?=some fp→fp.Nodup
  dj:∀ (k l:Nat) (fp fq:List Addr) (b:Addr),fps[k]?=some fp→fps[l]?=some fq→b∈fp→b∈fq→k=l
  ok:∀ (k:Nat) (fp:List Addr) (b:Addr),fps[k]?=some fp→b∈fp→Cel H b∧G b=none
  ga:G a=none
structure Step (K:Frag) (G H:Hp) (L:List Addr) (G' H':Hp):Prop where
  g:Same G G'
  gh:Sub G' H'
  h:∀ b o,b∉L→H b=some o→isTb o=false→H' b=some o
  tb:∀ b ps,H b=some (.tbl ps)→∃ ps',H' b=some (.tbl ps')
  ts:∀ p∈tabsK K,LamX.TabS H p.1 p.2→LamX.TabS H' p.1 p.2
  nw:∀ b,G b=none→Cel H b→b∉L→G' b=none
theorem Step.fresh {G H:Hp} {L:List Addr} {G' H':Hp} (e:Sub G H) (hL:∀ b∈L,H b≠none) {b:Addr}:H b=none→b∉L:=fun h m=>hL b m h
theorem Step.kp {K:Frag} {G H H0:Hp} {L:List Addr} {G' H':Hp} (st:Step K G H L G' H') (e:Same H0 H) (hL:∀ b o,H0 b=some o→b∉L):Kp K H0 H' :=
  ⟨fun b o z n=>st.h b o (hL b o z) (e b o z) n,fun b ps z=>st.tb b ps (e b _ z),fun p hp t=>st.ts p hp (t.ext e)⟩
structure ObjS (B:Base) (k i:Nat) (od:OD):Prop where
  at_:B.O[k]?=some od
  rs:Rt od i
  own:od.own=true
  al:od.al=true∨od.fs≠[]
  nd:(od.fs.map (·.2)).Nodup
  nr:∀ (l:Nat) (od':OD),B.O[l]?=some od'→∀ p∈od.fs,(p.2∉od'.rs∧p.2∉od'.nm)∧(l≠k→∀ q∈od'.fs,q.2≠p.2)
  nf:(od.fs.map (·.1)).Nodup
theorem zip_at2 {α β:Type} {l:List α} {m:List β} {k:Nat} {a:α} {b:β} (h1:l[k]?=some a) (h2:m[k]?=some b):(a,b)∈l.zip m:=by
  refine List.mem_of_getElem? (i:=k) ?_
  rw [List.getElem?_zip_eq_some]
  exact ⟨h1,h2⟩
theorem Rel.hand {K : Frag} {B : Base} {Γ : Ow} {s : En} {G H : Hp} {σ : St} {i k : Nat} {od : OD} {fds : List D} {φ : Nat → List Addr} (r : Rel K B Γ s G σ H) (sl : SL K G H σ s Γ φ) (hfr : ∀ i a, a ∈ φ i → B.H0 a = none) (S : ObjS B k i od) (hf : fldsAt s (od.fs.map (·.2)) = some fds) :
    ∃ (a:Addr) (fvs:List V),σ[i]?=some (some (.ref a))∧OSt K od.C (od.fs.map fun p=>(p.1,oty Γ p.2)) G H a fvs fds (od.fs.map fun p=>φ p.2)∧(∀ b,od.ad=some b→a=b)∧H a≠none ∧
      ∀ G' H' fvs' fds' fps',Step K G H (a :: (od.fs.map fun p=>φ p.2).flatten) G' H'→OSt K od.C (od.fs.map fun p=>(p.1,oty Γ p.2)) G' H' a fvs' fds' fps'→(∀ b∈fps'.flatten,H b=none∨b∈(od.fs.map fun p=>φ p.2).flatten) →
        ∀ v d t fq,OW K G' H' v d t fq→fq.Nodup→(∀ b∈fq,(H b=none∨b∈(od.fs.map fun p=>φ p.2).flatten)∧Cel H' b∧G' b=none∧b∉fps'.flatten)→Tmp K B Γ (setFs s (od.fs.map (·.2)) fds') G' (setFs σ (od.fs.map (·.2)) fvs') H' v d t:=by
  obtain ⟨α,inj,rr⟩:=r.ob
  have q:=rr k od S.at_
  obtain ⟨fl,fa⟩:=fldsAt_at hf
  have lv:Live od σ:=by
    rcases S.al with ha | hne
    · exact q.al ha
    · cases hfs:od.fs with
      | nil=>exact absurd hfs hne
      | cons p fs =>
        rw [hfs,List.map_cons] at hf
        obtain ⟨d,ds,e1,_⟩:=fldsAt_cons hf
        obtain ⟨v,ev,_⟩:=sl.at_ p.2 d e1
        exact q.fld p (by rw [hfs]; exact List.mem_cons_self) v ev
  have lv0:=lv
  obtain ⟨dx,fs,e1,e2,e3,e4,e5,e6⟩:=q.ins (q.nl1 S.own) lv
  obtain ⟨gN,hN0⟩:=e5 S.own
  have ew:=q.root lv S.rs
  obtain ⟨fvs,lfv,hq,_⟩:=flds_rd (Z:=H) sl r.GH hf fun p hp a m o z=>z
  have hfv:∀ (n:Nat) (p:Str×Nat) (v:V),od.fs[n]?=some p→fvs[n]?=some v→σ[p.2]?=some (some v):=fun n p v h1 h2=>hq (p,v) (zip_at2 h1 h2)
  have hfps:∀ (n:Nat) (fp:List Addr),(od.fs.map fun p=>φ p.2)[n]?=some fp→∃ p:Str×Nat,od.fs[n]?=some p∧fp=φ p.2:=fun n fp h=>by
    rw [List.getElem?_map] at h
    cases z:od.fs[n]? with
    | none=>rw [z] at h; cases h
    | some p=>rw [z] at h; cases h; exact ⟨p,rfl,rfl⟩
  have hft:∀ (n:Nat) (x:Str×OT),(od.fs.map fun p=>(p.1,oty Γ p.2))[n]?=some x→∃ p:Str×Nat,od.fs[n]?=some p∧x=(p.1,oty Γ p.2):=fun n x h=>by
    rw [List.getElem?_map] at h
    cases z:od.fs[n]? with
    | none=>rw [z] at h; cases h
    | some p=>rw [z] at h; cases h; exact ⟨p,rfl,rfl⟩
  have hdat:∀ (n:Nat) (p:Str×Nat),od.fs[n]?=some p→∃ d,fds[n]?=some d∧s[p.2]?=some (some d):=fun n p h=>fa n p.2 (by rw [List.getElem?_map,h]; rfl)
  have slot_inj:∀ (n m:Nat) (p p':Str×Nat),od.fs[n]?=some p→od.fs[m]?=some p'→p.2=p'.2→n=m:=fun n m p p' h1 h2 e=>by
    have b1:=(List.getElem?_eq_some_iff.mp h1).1
    have b2:=(List.getElem?_eq_some_iff.mp h2).1
    have x1:(od.fs.map (·.2))[n]?=some p.2:=by rw [List.getElem?_map,h1]; rfl
    have x2:(od.fs.map (·.2))[m]?=some p.2:=by rw [List.getElem?_map,h2,e]; rfl
    have y1:=(List.getElem?_eq_some_iff.mp x1)
    have y2:=(List.getElem?_eq_some_iff.mp x2)
    exact (List.getElem_inj S.nd).mp (y1.2.trans y2.2.symm)
  have flat:∀ b,b∈(od.fs.map fun p=>φ p.2).flatten↔∃ p∈od.fs,b∈φ p.2:=fun b=>by
    rw [List.mem_flatten]
    constructor
    · rintro ⟨x,hx,hb⟩
      obtain ⟨p,hp,rfl⟩:=List.mem_map.mp hx
      exact ⟨p,hp,hb⟩
    · rintro ⟨p,hp,hb⟩
      exact ⟨_,List.mem_map.mpr ⟨p,hp,rfl⟩,hb⟩
  refine ⟨α k,fvs,ew,⟨⟨dx,fs,e1,e2,fun f v h=>by rw [List.map_map]; exact e4 f v h,fun n x v h1 h2=>?_⟩,by rw [lfv,List.length_map],by rw [fl,List.length_map,List.length_map],by rw [List.length_map,List.length_map],fun n x v d fp h1 h2 h3 h4=>?_,fun n fp h=>?_,fun n m fp fq b h1 h2 m1 m2=>?_,fun n fp b h m=>?_,gN⟩,q.ad,(by rw [e1]; exact fun z=>nomatch z),fun G' H' fvs' fds' fps' st os hc v d t fq ow ndq okq=>?_⟩
  · obtain ⟨p,hp,rfl⟩:=hft n x h1
    rw [e3 p (List.mem_of_getElem? hp),hfv n p v hp h2]; rfl
  · obtain ⟨p,hp,rfl⟩:=hft n x h1
    obtain ⟨p',hp',rfl⟩:=hfps n fp h4
    rw [hp] at hp'; cases hp'
    obtain ⟨d',hd',hs⟩:=hdat n p hp
    rw [h3] at hd'; cases hd'
    obtain ⟨v',ev,ow⟩:=sl.at_ p.2 d hs
    rw [hfv n p v hp h2] at ev
    cases ev
    exact ow
  · obtain ⟨p,hp,rfl⟩:=hfps n fp h
    exact sl.nd _
  · obtain ⟨p,hp,rfl⟩:=hfps n fp h1
    obtain ⟨p',hp',rfl⟩:=hfps m fq h2
    exact slot_inj n m p p' hp hp' (sl.dj _ _ b m1 m2)
  · obtain ⟨p,hp,rfl⟩:=hfps n fp h
    exact sl.ok _ b m
  ·
    have Lno:∀ b,b∈α k :: (od.fs.map fun p=>φ p.2).flatten→B.H0 b=none:=fun b m=>by
      rcases List.mem_cons.mp m with rfl | m
      · exact hN0
      · obtain ⟨p,hp,hb⟩:=(flat b).mp m
        exact hfr _ b hb
    have cell_ne:∀ j d b,s[j]?=some (some d)→b∈φ j→b≠α k:=fun j d b hs hb z=>by
      obtain ⟨v',_,ow'⟩:=sl.at_ j d hs
      exact ow'.noins e1 (by rw [← z]; exact hb)
    have out:∀ j d b,j∉od.fs.map (·.2)→s[j]?=some (some d)→b∈φ j→b∉α k :: (od.fs.map fun p=>φ p.2).flatten:=fun j d b hj hs hb m=>by
      rcases List.mem_cons.mp m with z | m
      · exact cell_ne j d b hs hb z
      · obtain ⟨p,hp,hb'⟩:=(flat b).mp m
        exact hj (by rw [sl.dj j p.2 b hb hb']; exact List.mem_map.mpr ⟨p,hp,rfl⟩)
    have Lcel:∀ b∈α k :: (od.fs.map fun p=>φ p.2).flatten,H b≠none:=fun b m=>by
      rcases List.mem_cons.mp m with rfl | m
      · rw [e1]; exact fun z=>nomatch z
      · obtain ⟨p,hp,hb⟩:=(flat b).mp m
        exact (sl.ok _ b hb).1.ne
    let js:=od.fs.map (·.2)
    have hjs:∀ j∈js,∃ (n:Nat) (p:Str×Nat),js[n]?=some j∧od.fs[n]?=some p∧p.2=j∧js.idxOf j=n:=fun j hj=>by
      have hn:js.idxOf j < js.length:=List.idxOf_lt_length_of_mem hj
      have h1:js[js.idxOf j]?=some j:=by rw [List.getElem?_eq_getElem hn,List.getElem_idxOf hn]
      have h2:js.idxOf j < od.fs.length:=by have:js.length=od.fs.length:=List.length_map ..; omega
      refine ⟨_,od.fs[js.idxOf j],h1,List.getElem?_eq_getElem h2,?_,rfl⟩
      have h3:js[js.idxOf j]?=some (od.fs[js.idxOf j]).2:=by show (od.fs.map (·.2))[js.idxOf j]?=_; rw [List.getElem?_map,List.getElem?_eq_getElem h2]; rfl
      rw [h1] at h3
      exact (Option.some.inj h3).symm
    let ψ:Nat→List Addr:=fun j=>if j∈js then fps'.getD (js.idxOf j) [] else match s[j]? with | some (some _)=>φ j | _=>[]
    have ψf:∀ (n:Nat) (p:Str×Nat) (fp:List Addr),od.fs[n]?=some p→fps'[n]?=some fp→ψ p.2=fp:=fun n p fp h1 h2=>by
      have hm:p.2∈js:=List.mem_map.mpr ⟨p,List.mem_of_getElem? h1,rfl⟩
      obtain ⟨n',p',x1,x2,x3,x4⟩:=hjs p.2 hm
      have en:n'=n:=slot_inj n' n p' p x2 h1 x3
      show (if p.2∈js then fps'.getD (js.idxOf p.2) [] else _)=fp
      rw [if_pos hm,x4,en,List.getD_eq_getElem?_getD,h2]
      rfl
    have ψin:∀ j b,j∈js→b∈ψ j→∃ (n:Nat) (p:Str×Nat) (fp:List Addr),od.fs[n]?=some p∧p.2=j∧fps'[n]?=some fp∧b∈fp:=fun j b hj hb=>by
      obtain ⟨n,p,x1,x2,x3,x4⟩:=hjs j hj
      have hl:n < fps'.length:=by
        have:=(List.getElem?_eq_some_iff.mp x2).1
        have h3:=os.l3
        rw [List.length_map] at h3
        omega
      refine ⟨n,p,fps'[n],x2,x3,List.getElem?_eq_getElem hl,?_⟩
      rw [← ψf n p _ x2 (List.getElem?_eq_getElem hl),x3]
      exact hb
    have ψout:∀ j b,j∉js→b∈ψ j→(∃ d,s[j]?=some (some d))∧b∈φ j:=fun j b hj hb=>by
      have hb:b∈(if j∈js then fps'.getD (js.idxOf j) [] else match s[j]? with | some (some _)=>φ j | _=>[]):=hb
      rw [if_neg hj] at hb
      split at hb
      · rename_i d e
        exact ⟨⟨d,e⟩,hb⟩
      · cases hb
    have inflat:∀ (n:Nat) (fp:List Addr) (b:Addr),fps'[n]?=some fp→b∈fp→b∈fps'.flatten:=fun n fp b h1 h2=>List.mem_flatten.mpr ⟨fp,List.mem_of_getElem? h1,h2⟩
    have keep:∀ {v':V} {d':D} {t':OT} {j:Nat} {d:D},j∉js→s[j]?=some (some d)→OW K G H v' d' t' (φ j)→OW K G' H' v' d' t' (φ j):=fun {v' d' t' j d} hj hs ow'=>ow'.mono st.g fun b m o z=>st.h b o (out j d b hj hs m) z (isPl_tb (ow'.pl b m o z))
    obtain ⟨dx',fs',i1,i2,i3,i4⟩:=os.ins
    have slS:SL K G' H' (setFs σ js fvs') (setFs s js fds') Γ ψ:=by
      refine ⟨fun j d' e=>?_,fun j=>?_,fun j1 j2 b m1 m2=>?_,fun j b m=>?_⟩
      · by_cases hj:j∈js
        · obtain ⟨n,p,x1,x2,x3,x4⟩:=hjs j hj
          have hln:n < od.fs.length:=(List.getElem?_eq_some_iff.mp x2).1
          have l1:=os.l1; have l2:=os.l2; have l3:=os.l3
          rw [List.length_map] at l1 l2 l3
          have hs:j < s.length:=by
            obtain ⟨d0,_,hs0⟩:=hdat n p x2
            rw [← x3]; exact (List.getElem?_eq_some_iff.mp hs0).1
          have h1:fds'[n]?=some fds'[n]:=List.getElem?_eq_getElem (by omega)
          have h2:fvs'[n]?=some fvs'[n]:=List.getElem?_eq_getElem (by omega)
          have h3:fps'[n]?=some fps'[n]:=List.getElem?_eq_getElem (by omega)
          rw [setFs_in S.nd x1 h1 hs] at e
          cases e
          refine ⟨fvs'[n],setFs_in S.nd x1 h2 (by rw [← r.len]; exact hs),?_⟩
          have:=os.ow n (p.1,oty Γ p.2) _ _ _ (by rw [List.getElem?_map,x2]; rfl) h2 h1 h3
          rw [← x3,ψf n p _ x2 h3]
          exact this
        · rw [setFs_out hj] at e
          obtain ⟨v',ev,ow'⟩:=sl.at_ j d' e
          refine ⟨v',by rw [setFs_out hj]; exact ev,?_⟩
          have:ψ j=φ j:=by
            show (if j∈js then _ else match s[j]? with | some (some _)=>φ j | _=>[])=φ j
            rw [if_neg hj,e]
          rw [this]
          exact keep hj e ow'
      · by_cases hj:j∈js
        · obtain ⟨n,p,x1,x2,x3,x4⟩:=hjs j hj
          have hl:n < fps'.length:=by
            have:=(List.getElem?_eq_some_iff.mp x2).1
            have h3:=os.l3
            rw [List.length_map] at h3
            omega
          rw [← x3,ψf n p _ x2 (List.getElem?_eq_getElem hl)]
          exact os.nd n _ (List.getElem?_eq_getElem hl)
        · show (if j∈js then _ else match s[j]? with | some (some _)=>φ j | _=>[]).Nodup
          rw [if_neg hj]
          split
          · exact sl.nd j
          · exact List.nodup_nil
      · by_cases hj1:j1∈js
        · obtain ⟨n,p,fp,x1,x2,x3,x4⟩:=ψin j1 b hj1 m1
          by_cases hj2:j2∈js
          · obtain ⟨n2,p2,fp2,y1,y2,y3,y4⟩:=ψin j2 b hj2 m2
            have:=os.dj n n2 fp fp2 b x3 y3 x4 y4
            subst this
            rw [x1] at y1; cases y1
            rw [← x2,← y2]
          · obtain ⟨⟨d2,hd2⟩,hb2⟩:=ψout j2 b hj2 m2
            rcases hc b (inflat n fp b x3 x4) with z | z
            · exact absurd z (sl.ok j2 b hb2).1.ne
            · exact absurd (List.mem_cons_of_mem _ z) (out j2 d2 b hj2 hd2 hb2)
        · obtain ⟨⟨d1,hd1⟩,hb1⟩:=ψout j1 b hj1 m1
          by_cases hj2:j2∈js
          · obtain ⟨n2,p2,fp2,y1,y2,y3,y4⟩:=ψin j2 b hj2 m2
            rcases hc b (inflat n2 fp2 b y3 y4) with z | z
            · exact absurd z (sl.ok j1 b hb1).1.ne
            · exact absurd (List.mem_cons_of_mem _ z) (out j1 d1 b hj1 hd1 hb1)
          · obtain ⟨_,hb2⟩:=ψout j2 b hj2 m2
            exact sl.dj j1 j2 b hb1 hb2
      · by_cases hj:j∈js
        · obtain ⟨n,p,fp,x1,x2,x3,x4⟩:=ψin j b hj m
          exact os.ok n fp b x3 x4
        · obtain ⟨⟨d1,hd1⟩,hb1⟩:=ψout j b hj m
          obtain ⟨⟨o,ho,hn⟩,g0⟩:=sl.ok j b hb1
          have ob:=out j d1 b hj hd1 hb1
          obtain ⟨_,_,ow1⟩:=sl.at_ j d1 hd1
          exact ⟨⟨o,st.h b o ob ho (isPl_tb (ow1.pl b hb1 o ho)),hn⟩,st.nw b g0 ⟨o,ho,hn⟩ ob⟩
    have hfS:∀ j b,b∈ψ j→B.H0 b=none:=fun j b m=>by
      by_cases hj:j∈js
      · obtain ⟨n,p,fp,x1,x2,x3,x4⟩:=ψin j b hj m
        rcases hc b (inflat n fp b x3 x4) with z | z
        · exact r.hH.free z
        · exact Lno b (List.mem_cons_of_mem _ z)
      · exact hfr j b (ψout j b hj m).2
    have obS:Obs B G' H' (setFs σ js fvs'):=by
      have sr:∀ (l:Nat) (od':OD),B.O[l]?=some od'→∀ x∈od'.rs,(setFs σ js fvs')[x]?=σ[x]?:=fun l od' e x hx=>setFs_out fun m=>by
        obtain ⟨p,hp,rfl⟩:=List.mem_map.mp m
        exact (S.nr l od' e p hp).1.1 hx
      have nn:∀ (l:Nat) (od':OD),B.O[l]?=some od'→∀ x∈od'.nm,(setFs σ js fvs')[x]?=σ[x]?:=fun l od' e x hx=>setFs_out fun m=>by
        obtain ⟨p,hp,rfl⟩:=List.mem_map.mp m
        exact (S.nr l od' e p hp).1.2 hx
      have lvs:∀ (l:Nat) (od':OD),B.O[l]?=some od'→(Live od' (setFs σ js fvs')↔Live od' σ):=fun l od' e=>by
        constructor
        · rintro ⟨x,hx,w,e'⟩; exact ⟨x,hx,w,by rw [← sr l od' e x hx]; exact e'⟩
        · rintro ⟨x,hx,w,e'⟩; exact ⟨x,hx,w,by rw [sr l od' e x hx]; exact e'⟩
      refine ⟨α,fun l l' od1 od2 x1 x2 x3 xl x4 x5 x6=>inj l l' od1 od2 x1 x2 x3 xl ((lvs l od1 x1).mp x4) ((lvs l' od2 x2).mp x5) x6,fun l od' e=>?_⟩
      have q':=rr l od' e
      by_cases hk:l=k
      · subst hk
        have eo:od'=od:=by have:=S.at_; rw [e] at this; cases this; rfl
        subst eo
        refine ⟨q'.pr,q'.ad,fun x hx w' e'=>q'.rt x hx w' (by rw [← sr l od' e x hx]; exact e'),⟨q'.nm.1,fun l' r hr=>by rw [nn l od' e r hr]; exact q'.nm.2 lv0 r hr⟩,fun _=>(lvs l od' e).mpr lv0,fun _ _ _ _=>(lvs l od' e).mpr lv0,fun _ _=>⟨dx',fs',i1,i2,fun p hp=>?_,fun f v h=>by have:=i3 f v h; rwa [List.map_map] at this,fun _=>⟨os.ga,hN0⟩,fun z=>by rw [S.own] at z; cases z⟩⟩
        obtain ⟨n,hn,en⟩:=List.getElem_of_mem hp
        have hp':od'.fs[n]?=some p:=by rw [List.getElem?_eq_getElem hn,en]
        have l1:=os.l1
        rw [List.length_map] at l1
        have h2:fvs'[n]?=some fvs'[n]:=List.getElem?_eq_getElem (by omega)
        have hs:p.2 < s.length:=by
          obtain ⟨d0,_,hs0⟩:=hdat n p hp'
          exact (List.getElem?_eq_some_iff.mp hs0).1
        rw [i4 n (p.1,oty Γ p.2) _ (by rw [List.getElem?_map,hp']; rfl) h2,setFs_in S.nd (by rw [List.getElem?_map,hp']; rfl) h2 (by rw [← r.len]; exact hs)]
        rfl
      · have sf : ∀ p ∈ od'.fs, (setFs σ js fvs')[p.2]? = σ[p.2]? := fun p hp => setFs_out fun m => by
          obtain ⟨p',hp',z⟩:=List.mem_map.mp m
          exact (S.nr l od' e p' hp').2 hk p hp z.symm
        refine ⟨q'.pr,q'.ad,fun x hx w' e'=>q'.rt x hx w' (by rw [← sr l od' e x hx]; exact e'),⟨q'.nm.1,fun l' r hr=>by rw [nn l od' e r hr]; exact q'.nm.2 ((lvs l od' e).mp l') r hr⟩,fun ha=>(lvs l od' e).mpr (q'.al ha),fun p hp w' e'=>(lvs l od' e).mpr (q'.fld p hp w' (by rw [← sf p hp]; exact e')),fun hls lv'=>?_⟩
        have lvl:=(lvs l od' e).mp lv'
        obtain ⟨dx2,fs2,x1,x2,x3,x4,x5,x6⟩:=q'.ins hls lvl
        have hne:α l≠α k:=fun z=>hk (inj k l od od' S.at_ e S.own hls lv0 lvl z.symm).symm
        have hnl:α l∉α k :: (od.fs.map fun p=>φ p.2).flatten:=fun m=>by
          rcases List.mem_cons.mp m with z | m
          · exact hne z
          · obtain ⟨p,hp,hb⟩:=(flat _).mp m
            obtain ⟨n,hn,en⟩:=List.getElem_of_mem hp
            obtain ⟨d0,_,hs0⟩:=hdat n p (by rw [List.getElem?_eq_getElem hn,en])
            obtain ⟨v',_,ow'⟩:=sl.at_ p.2 d0 hs0
            exact ow'.noins x1 hb
        exact ⟨dx2,fs2,st.h _ _ hnl x1 rfl,x2,fun p hp=>by rw [sf p hp]; exact x3 p hp,x4,fun ho=>⟨st.nw _ (x5 ho).1 ⟨_,x1,fun _ z=>nomatch z⟩ hnl,(x5 ho).2⟩,fun ho=>st.g _ _ (x6 ho)⟩
    have relS:Rel K B Γ (setFs s js fds') G' (setFs σ js fvs') H':=⟨by rw [setFs_len,setFs_len]; exact r.len,⟨ψ,slS,hfS⟩,⟨⟨fun b o z n=>st.h b o (fun m=>by rw [Lno b m] at z; cases z) (r.hH b o z n) n,fun b ps z=>(let ⟨ps',z'⟩:=r.hH.kp.tb b ps z; st.tb b ps' z'),fun p hp t=>st.ts p hp (r.hH.kp.ts p hp t)⟩,fun p hp=>st.ts p hp (r.hH.tk p hp)⟩,r.hG.trans st.g,st.gh,fun b z1 z2=>st.nw b (r.fr b z1 z2) (z2.mono r.hH.kp) (fun m=>z2.ne (Lno b m)),obS⟩
    refine ⟨relS,ψ,fq,slS,hfS,ow,ndq,fun j b m m2=>?_,fun b m=>⟨(okq b m).2.1,(okq b m).2.2.1,(okq b m).1.elim (fun z=>r.hH.free z) fun z=>Lno b (List.mem_cons_of_mem _ z)⟩⟩
    by_cases hj:j∈js
    · obtain ⟨n,p,fp,x1,x2,x3,x4⟩:=ψin j b hj m
      exact (okq b m2).2.2.2 (inflat n fp b x3 x4)
    · obtain ⟨⟨d1,hd1⟩,hb1⟩:=ψout j b hj m
      rcases (okq b m2).1 with z | z
      · exact (sl.ok j b hb1).1.ne z
      · exact out j d1 b hj hd1 hb1 (List.mem_cons_of_mem _ z)
end Hr
end
section
namespace Hr
open PySem PySem.Spec L2 PyProof.Rows
inductive MR where
  | ok (d:D) (fds:List D) | exc (c:Str) (fds:List D) | stuck
def MDone (r:MR) (P:D→List D→Prop) (E:Str→List D→Prop):Prop:=match r with
  | .ok d fds=>P d fds
  | .exc c fds=>E c fds
  | .stuck=>False
def spM (K:Frag) (C:Addr) (ft:List (Str×OT)) (n:Nat) (t:OT) (ψ:List D→MR):Sp:=fun vs H Q E=>∃ a rest fvs fds fps ds G,vs=.ref a :: rest∧Sub G H∧TK K H∧OSt K C ft G H a fvs fds fps∧RDs K G rest ds∧ds.length=n ∧
  MDone (ψ (fds ++ ds)) (fun d fds'=>∀ v G' H' fvs' fps' fq,Step K G H (a :: fps.flatten) G' H'→OSt K C ft G' H' a fvs' fds' fps'→(∀ b∈fps'.flatten,H b=none∨b∈fps.flatten)→OW K G' H' v d t fq→fq.Nodup→(∀ b∈fq,(H b=none∨b∈fps.flatten)∧Cel H' b∧G' b=none∧b∉fps'.flatten)→Q v H')
    (fun c fds'=>∀ G' H' fvs' fps',Step K G H (a :: fps.flatten) G' H'→OSt K C ft G' H' a fvs' fds' fps'→(∀ b∈fps'.flatten,H b=none∨b∈fps.flatten)→E (clsV K c) none H')
structure MokM (P:Program) (w:World) (K:Frag) (mg:Str→Option Value) (base:Heap) (c m:Str) (ft:List (Str×OT)) (n:Nat) (t:OT) (k:Nat) (ψ:List D→MR):Prop where
  cls:Cls K (He.ga K c)
  nof:m∉ft.map (·.1)
  ok:∃ f fd ps,Meth K (He.ga K c) m f∧Binds K fd ps []∧ps.length=n + 1∧FnOk P w K mg base (L2.CX P w) k f fd ps (spM K (He.ga K c) ft n t ψ)
inductive MU where
  | ok (d:D) (s:En) | exc (c:Str) (s:En) | stuck
def eMu (ψ:List D→MR) (n:Nat) (js:List Nat) (fs:En→R (List D)):En→MU:=fun s=>match fldsAt s js with
  | none=>.stuck
  | some fds=>match fs s with
    | .ok ds=>if ds.length=n then (match ψ (fds ++ ds) with
      | .ok d fds'=>.ok d (setFs s js fds')
      | .exc c fds'=>.exc c (setFs s js fds')
      | .stuck=>.stuck) else .stuck
    | .exc c=>.exc c s
    | .stuck=>.stuck
section
variable {X:Cx} {B:Base} {W:WX} {Γ Γ1 Γn:Ow} {o:OC} {e ob:Expr} {es:List Expr} {fs:En→R (List D)} {p p1 apos cpos pos:Pos} {g:En→MU}
structure ObM (X:Cx) (B:Base) (i:Nat) (c:Str) (fj:List (Str×Nat)):Prop where
  ex:∃ (k:Nat) (od:OD),ObjS B k i od∧od.C=He.ga X.K c∧od.fs=fj
  gh:∀ j∈fj.map (·.2),∀ x,X.N[j]?=some x→¬ Vis X.env.scope x
structure FokM (P:Program) (w:World) (K:Frag) (mg:Str→Option Value) (base:Heap) (x c:Str) (ft:List (Str×OT)) (n:Nat) (t:OT) (k:Nat) (ψ:List D→MR):Prop where
  glo:mg x=some (.ref (He.ga K x))
  kp:PySem.W.keepIn K (.ref (He.ga K x))=true
  ok:∃ fd ps,Binds K fd ps []∧ps.length=n + 1∧FnOk P w K mg base (L2.CX P w) k (He.ga K x) fd ps (spM K (He.ga K c) ft n t ψ)
end
end Hr
end
section
namespace Hr
open PySem PySem.Spec L2 PyProof.Rows
structure OStX (K:Frag) (C:Addr) (ft:List (Str×OT)) (nf:Nat) (G H:Hp) (a:Addr) (fvs:List V) (fds:List D) (fps:List (List Addr)):Prop where
  ins:∃ dx fs,H a=some (.ins C dx fs)∧(fs.map (·.1)).Nodup∧(∀ f v,fs.lookup f=some v→f∈(ft.take nf).map (·.1))∧∀ (k:Nat) (p:Str×OT) (v:V),k < nf→ft[k]?=some p→fvs[k]?=some v→fs.lookup p.1=some v
  l1:fvs.length=ft.length
  l2:fds.length=ft.length
  l3:fps.length=ft.length
  ow:∀ (k:Nat) (p:Str×OT) (v:V) (d:D) (fp:List Addr),ft[k]?=some p→fvs[k]?=some v→fds[k]?=some d→fps[k]?=some fp→OW K G H v d p.2 fp
  nd:∀ (k:Nat) (fp:List Addr),fps[k]?=some fp→fp.Nodup
  dj:∀ (k l:Nat) (fp fq:List Addr) (b:Addr),fps[k]?=some fp→fps[l]?=some fq→b∈fp→b∈fq→k=l
  ok:∀ (k:Nat) (fp:List Addr) (b:Addr),fps[k]?=some fp→b∈fp→Cel H b∧G b=none
  ga:G a=none
structure ExS (B:Base) (od:OD) (ex:List Nat):Prop where
  nd:ex.Nodup
  nf:∀ j∈ex,j∉od.fs.map (·.2)
  nr:∀ (l:Nat) (od':OD),B.O[l]?=some od'→∀ j∈ex,(j∉od'.rs∧j∉od'.nm)∧∀ q∈od'.fs,q.2≠j
inductive PK where
  | p | o | l
def ArgS:List PK→List V→V→List V→List V→Prop
  | [],vs,_,rs,ls=>vs=[]∧rs=[]∧ls=[]
  | .p :: ks,vs,a,rs,ls=>∃ v vs' rs',vs=v :: vs'∧rs=v :: rs'∧ArgS ks vs' a rs' ls
  | .o :: ks,vs,a,rs,ls=>∃ vs',vs=a :: vs'∧ArgS ks vs' a rs ls
  | .l :: ks,vs,a,rs,ls=>∃ v vs' ls',vs=v :: vs'∧ls=v :: ls'∧ArgS ks vs' a rs ls'
section
variable {X:Cx} {B:Base} {W:WX} {Γ:Ow} {e:Expr} {es:List Expr} {fa:En→R D} {fs:En→R (List D)}
end
def spX (K:Frag) (C:Addr) (ft:List (Str×OT)) (nf:Nat) (ks:List PK) (n:Nat) (t:OT) (ψ:List D→MR):Sp:=fun vs H Q E=>∃ a rest fvs fds fps ds G,ArgS ks vs (.ref a) rest (fvs.drop nf)∧Sub G H∧TK K H∧OStX K C ft nf G H a fvs fds fps∧RDs K G rest ds∧ds.length=n ∧
  MDone (ψ (fds ++ ds)) (fun d fds'=>∀ v G' H' fvs' fps' fq,Step K G H (a :: fps.flatten) G' H'→OStX K C ft nf G' H' a fvs' fds' fps'→fvs'.drop nf=fvs.drop nf→(∀ b∈fps'.flatten,H b=none∨b∈fps.flatten)→OW K G' H' v d t fq→fq.Nodup→(∀ b∈fq,(H b=none∨b∈fps.flatten)∧Cel H' b∧G' b=none∧b∉fps'.flatten)→Q v H')
    (fun c fds'=>∀ G' H' fvs' fps',Step K G H (a :: fps.flatten) G' H'→OStX K C ft nf G' H' a fvs' fds' fps'→fvs'.drop nf=fvs.drop nf→(∀ b∈fps'.flatten,H b=none∨b∈fps.flatten)→E (clsV K c) none H')
structure FokX (P:Program) (w:World) (K:Frag) (mg:Str→Option Value) (base:Heap) (x c:Str) (ft:List (Str×OT)) (nf:Nat) (ks:List PK) (n:Nat) (t:OT) (k:Nat) (ψ:List D→MR):Prop where
  glo:mg x=some (.ref (He.ga K x))
  kp:PySem.W.keepIn K (.ref (He.ga K x))=true
  ok:∃ fd ps,Binds K fd ps []∧ps.length=ks.length∧FnOk P w K mg base (L2.CX P w) k (He.ga K x) fd ps (spX K (He.ga K c) ft nf ks n t ψ)
section
variable {X:Cx} {B:Base} {W:WX} {Γ:Ow} {e:Expr} {es:List Expr} {fs:En→R (List D)} {p pos:Pos}
def PrO (B:Base):Prop:=∀ (l:Nat) (od':OD),B.O[l]?=some od'→(∀ j∈od'.rs,B.pr j=true)∧(∀ q∈od'.fs,B.pr q.2=true)∧∀ j∈od'.nm,B.pr j=true
end
end Hr
end
section
namespace Hr
open PySem PySem.Spec L2 PyProof.Rows
def spI (K:Frag) (C:Addr) (ft:List (Str×OT)) (n:Nat) (ψ:List D→MR):Sp:=fun vs H Q E=>∃ a rest ds dx G,vs=.ref a :: rest∧Sub G H∧TK K H∧H a=some (.ins C dx [])∧G a=none∧RDs K G rest ds∧ds.length=n ∧
  MDone (ψ ds) (fun d fds'=>d=.non∧∀ G' H' fvs' fps',Step K G H [a] G' H'→OSt K C ft G' H' a fvs' fds' fps'→(∀ b∈fps'.flatten,H b=none)→Q .non H') (fun c _=>∀ G' H',Step K G H [a] G' H'→E (clsV K c) none H')
structure MokI (P:Program) (w:World) (K:Frag) (mg:Str→Option Value) (base:Heap) (c:Str) (ft:List (Str×OT)) (n:Nat) (k:Nat) (ψ:List D→MR):Prop where
  glo:mg c=some (.ref (He.ga K c))
  ok:∃ f fd ps,Mk K (He.ga K c) f∧Binds K fd ps []∧ps.length=n + 1∧FnOk P w K mg base (L2.CX P w) k f fd ps (spI K (He.ga K c) ft n ψ)
section
variable {X:Cx} {B:Base} {W:WX} {Γ Γ1 Γn:Ow} {o:OC} {e ob:Expr} {es:List Expr} {fs:En→R (List D)} {p p1 apos cpos pos:Pos}
structure ObjN (B:Base) (k i:Nat) (od:OD):Prop where
  at_:B.O[k]?=some od
  rs:od.rs=[i]
  nm:∀ j∈od.nm,j=i
  own:od.own=true
  ad:od.ad=none
  nd:(od.fs.map (·.2)).Nodup
  ni:i∉od.fs.map (·.2)
  nr:∀ (l:Nat) (od':OD),B.O[l]?=some od'→(∀ p∈od.fs,(p.2∉od'.rs∧p.2∉od'.nm)∧(l≠k→∀ q∈od'.fs,q.2≠p.2))∧(l≠k→(i∉od'.rs∧i∉od'.nm)∧∀ q∈od'.fs,q.2≠i)
set_option maxHeartbeats 1000000 in
def unset (s:En) (i:Nat):Bool:=match s[i]? with
  | some none=>true
  | _=>false
structure ObN (X:Cx) (B:Base) (i:Nat) (c:Str) (fj:List (Str×Nat)):Prop where
  ex:∃ (k:Nat) (od:OD),ObjN B k i od∧od.C=He.ga X.K c∧od.fs=fj
  gh:∀ j∈fj.map (·.2),∀ x,X.N[j]?=some x→¬ Vis X.env.scope x
theorem Gh.symm {σ σ':St} (g:Gh X σ σ'):Gh X σ' σ:=⟨g.1.symm,fun i x h v=>(g.2 i x h v).symm⟩
end
end Hr
end
section
namespace Hr
open PySem PySem.Spec L2 PyProof.Rows
def off (L:List Addr) (H:Hp):Hp:=fun b=>if b∈L then none else H b
def dotB (x:Str):Bool:=x.cps.toList.any fun c=>c == 46
def ghB (N:List Str) (i:Nat):Bool:=match N[i]? with
  | some x=>dotB x
  | none=>true
structure OB where
  i:Nat
  rx:List Nat
  nm:List Nat
  c:Str
  own:Bool
  al:Bool
  fx:Bool
  fs:List (Str×Nat)
  deriving DecidableEq
def OB.od (K:Frag) (a:Nat→Addr) (q:OB):OD:=⟨q.i :: q.rx,He.ga K q.c,q.own,q.al,if q.fx=true then some (a q.i) else none,q.fs,false,q.nm⟩
structure Pr where
  q:OB
  m:Nat
  k:Nat
  p:OB
  raw:Bool
  deriving DecidableEq
structure BD where
  N:List Str
  pr:Nat→Bool
  ob:List OB
  np:Nat
  g0:Ow
  g1:Ow
  is:List Nat
  js:List Nat
  rd:Bool
def BD.base (b:BD) (K:Frag) (a:Nat→Addr) (H0 G0:Hp):Base:=⟨H0,G0,b.ob.map (OB.od K a),b.pr⟩
def BD.en (b:BD) (l:List D):En:=setFs (List.replicate b.N.length none) b.is l
theorem ob_at {K:Frag} {a:Nat→Addr} {ob:List OB} {k:Nat} {od:OD} (h:(ob.map (OB.od K a))[k]?=some od):∃ q,ob[k]?=some q∧od=q.od K a:=by
  rw [List.getElem?_map] at h
  cases z:ob[k]? with
  | none=>rw [z] at h; cases h
  | some q=>rw [z] at h; cases h; exact ⟨q,rfl,rfl⟩
theorem ob_get {K:Frag} {a:Nat→Addr} {ob:List OB} {k:Nat} {q:OB} (h:ob[k]?=some q):(ob.map (OB.od K a))[k]?=some (q.od K a):=by rw [List.getElem?_map,h]; rfl
def entS (n np:Nat) (gi gj:List Nat) (vs:List V) (σ:St):St:=(List.range n).map fun i=>if i < np then vs[i]? else if i∈gi then (σ[gj.getD (gi.idxOf i) 0]?).join else none
section
variable {n np i k j:Nat} {gi gj:List Nat} {vs:List V} {σ:St}
theorem entS_at (h:i < n):(entS n np gi gj vs σ)[i]?=some (if i < np then vs[i]? else if i∈gi then (σ[gj.getD (gi.idxOf i) 0]?).join else none):=by
  unfold entS
  rw [List.getElem?_map,List.getElem?_range h]
  rfl
theorem entS_p (h:i < n) (hp:i < np):(entS n np gi gj vs σ)[i]?=some vs[i]?:=by rw [entS_at h,if_pos hp]
end
structure EntF (obc:List OB) (Γ:Ow) (b:BD) (prs:List Pr) (rt:List (Nat×Nat)) (gi gj pi:List Nat):Prop where
  n1:gi.length=gj.length
  n2:gi.Nodup
  n3:gj.Nodup
  gb:∀ i∈gi,b.np≤i∧i < b.N.length∧ghB b.N i=true
  nb:b.np≤b.N.length
  is_:b.is=gi ++ pi
  pb:∀ i∈pi,i < b.np
  rb:∀ x∈rt,x.1 < b.np
  at_:∀ pr∈prs,b.ob[pr.m]?=some pr.q∧obc[pr.k]?=some pr.p∧pr.q.c=pr.p.c∧pr.q.fs.map (·.1)=pr.p.fs.map (·.1)
  fl:∀ pr∈prs,pr.raw=false→pr.p.fs≠[]∧∀ z∈pr.q.fs.zip pr.p.fs,(z.1.2,z.2.2)∈gi.zip gj
  rw_:∀ pr∈prs,pr.raw=true→pr.q.own=true∧∀ x∈pr.q.fs,x.2∉gi∧b.np≤x.2
  sl:∀ pr∈prs,∀ i∈pr.q.i :: (pr.q.rx ++ pr.q.nm),(∃ x∈rt ++ gi.zip gj,x.1=i∧x.2∈pr.p.i :: (pr.p.rx ++ pr.p.nm))∨(b.np≤i∧i∉gi)
  st:∀ pr∈prs,∀ i∈pr.q.i :: pr.q.nm,(∃ x∈rt,x.1=i)∨i∈gi
  ow:∀ pr∈prs,pr.q.own=true→pr.p.own=true
  ty1:∀ pr∈prs,pr.raw=false→pr.q.own=true→∀ z∈pr.q.fs.zip pr.p.fs,oty b.g0 z.1.2=oty Γ z.2.2
  ty2:∀ pr∈prs,pr.q.own=false→(∀ x∈pr.q.fs,oty b.g0 x.2=.fz)∧(pr.p.own=false→∀ y∈pr.p.fs,oty Γ y.2=.fz)
  ty3:∀ x∈b.g0,x.1∈gi∨b.np≤x.1
  cov:∀ i∈gi,∃ pr∈prs,pr.raw=false∧i∈pr.q.fs.map (·.2)
  kk:∀ pr∈prs,∀ pr'∈prs,pr.k=pr'.k→pr=pr'
  du:∀ pr∈prs,∀ pr'∈prs,∀ x∈pr.q.fs,∀ x'∈pr'.q.fs,x.2=x'.2→pr=pr'
  mm:∀ pr∈prs,∀ pr'∈prs,pr.m=pr'.m→pr=pr'
  qi:∀ pr∈prs,∀ pr'∈prs,pr.q.i=pr'.q.i→pr=pr'
  loc:∀ z∈b.ob.zipIdx,(∀ pr∈prs,pr.m≠z.2)→z.1.al=false∧z.1.fx=false∧∀ i∈z.1.i :: (z.1.rx ++ z.1.fs.map (·.2)),b.np≤i∧i∉gi
  prq:∀ q∈b.ob,(∀ i∈q.i :: q.rx,b.pr i=true)∧(∀ x∈q.fs,b.pr x.2=true)∧∀ i∈q.nm,b.pr i=true
def cellsP (φ:Nat→List Addr) (α:Nat→Addr) (pr:Pr):List Addr:=α pr.k :: (if pr.raw=true then [] else (pr.p.fs.map (·.2)).flatMap φ)
def adrP (α:Nat→Addr) (prs:List Pr) (i:Nat):Addr:=((prs.find? fun pr=>decide (pr.q.i=i)).map fun pr=>α pr.k).getD 0
theorem find_uniq {α:Type} {p:α→Bool}:∀ {l:List α} {x:α},x∈l→p x=true→(∀ y∈l,p y=true→y=x)→l.find? p=some x
  | y :: l,x,m,hx,u=>by
    rw [List.find?_cons]
    cases q:p y with
    | true=>rw [u y List.mem_cons_self q]
    | false =>
      rcases List.mem_cons.mp m with rfl | m
      · rw [hx] at q; cases q
      · exact find_uniq m hx fun z hz=>u z (List.mem_cons_of_mem _ hz)
section
variable {K:Frag} {B:Base} {Γ:Ow} {s:En} {G H:Hp} {σ:St} {obc:List OB} {ac:Nat→Addr} {b:BD} {prs:List Pr} {rt:List (Nat×Nat)} {gi gj pi:List Nat} {φ:Nat→List Addr} {α:Nat→Addr} {fds ds:List D} {vs:List V}
theorem EntF.adr (E:EntF obc Γ b prs rt gi gj pi) {pr:Pr} (h:pr∈prs):adrP α prs pr.q.i=α pr.k:=by
  unfold adrP
  rw [find_uniq h (decide_eq_true rfl) fun y hy e=>E.qi y hy pr h (of_decide_eq_true e)]
  rfl
theorem zip_idx {α β:Type} {l:List α} {m:List β} {x:α×β} (h:x∈l.zip m):∃ k:Nat,l[k]?=some x.1∧m[k]?=some x.2:=by
  obtain ⟨k,hk,e⟩:=List.getElem_of_mem h
  refine ⟨k,?_⟩
  have:=List.getElem?_eq_getElem hk
  rw [e,show x=(x.1,x.2) from rfl,List.getElem?_zip_eq_some] at this
  exact this
theorem fs_pair {l m:List (Str×Nat)} (e:l.map (·.1)=m.map (·.1)) {x:Str×Nat} (h:x∈l):∃ y,(x,y)∈l.zip m∧y∈m∧y.1=x.1:=by
  obtain ⟨k,hk,ek⟩:=List.getElem_of_mem h
  have hl:l.length=m.length:=by have:=congrArg List.length e; rwa [List.length_map,List.length_map] at this
  have h1:l[k]?=some x:=by rw [List.getElem?_eq_getElem hk,ek]
  have h2:m[k]?=some m[k]:=List.getElem?_eq_getElem (by omega)
  refine ⟨m[k],zip_at2 h1 h2,List.getElem_mem _,?_⟩
  have e1:(l.map (·.1))[k]?=some x.1:=by rw [List.getElem?_map,h1]; rfl
  rw [e,List.getElem?_map,h2] at e1
  exact Option.some.inj e1
theorem fs_pair' {l m:List (Str×Nat)} (e:l.map (·.1)=m.map (·.1)) {y:Str×Nat} (h:y∈m):∃ x,(x,y)∈l.zip m∧x∈l∧y.1=x.1:=by
  obtain ⟨x,h1,h2,h3⟩:=fs_pair e.symm h
  obtain ⟨k,a,b⟩:=zip_idx h1
  exact ⟨x,zip_at2 b a,h2,h3.symm⟩
theorem EntF.live (E : EntF obc Γ b prs rt gi gj pi) (hB : B.O = obc.map (OB.od K ac)) (rr : ∀ k od, B.O[k]? = some od → ObjR B G H σ od (α k)) (sl : SL K G H σ s Γ φ) (hf : fldsAt s gj = some fds)
    (hraw:∀ pr∈prs,pr.raw=true→Live (pr.p.od K ac) σ∧∀ y∈pr.p.fs,∀ v,σ[y.2]?≠some (some v)) {pr:Pr} (h:pr∈prs):Live (pr.p.od K ac) σ:=by
  cases hr:pr.raw with
  | true=>exact (hraw pr h hr).1
  | false =>
    obtain ⟨_,e2,_,e4⟩:=E.at_ pr h
    obtain ⟨hne,hz⟩:=E.fl pr h hr
    cases hfs:pr.p.fs with
    | nil=>exact absurd hfs hne
    | cons y ys =>
      have hy:y∈pr.p.fs:=by rw [hfs]; exact List.mem_cons_self
      obtain ⟨x,hx,_,_⟩:=fs_pair' e4 hy
      obtain ⟨k,_,k2⟩:=zip_idx (hz _ hx)
      obtain ⟨d,_,e⟩:=(fldsAt_at hf).2 k _ k2
      obtain ⟨v,ev,_⟩:=sl.at_ _ d e
      exact (rr pr.k _ (by rw [hB]; exact ob_get e2)).fld y hy v ev
theorem flat_mem {φ:Nat→List Addr} {fs:List (Str×Nat)} {a:Addr}:a∈(fs.map (·.2)).flatMap φ↔∃ y∈fs,a∈φ y.2:=by
  rw [List.mem_flatMap]
  constructor
  · rintro ⟨j,hj,h⟩
    obtain ⟨y,hy,rfl⟩:=List.mem_map.mp hj
    exact ⟨y,hy,h⟩
  · rintro ⟨y,hy,h⟩
    exact ⟨y.2,List.mem_map.mpr ⟨y,hy,rfl⟩,h⟩
theorem cellsP_mem {pr:Pr} {a:Addr}:a∈cellsP φ α pr↔a=α pr.k∨(pr.raw=false∧∃ y∈pr.p.fs,a∈φ y.2):=by
  unfold cellsP
  rw [List.mem_cons]
  cases pr.raw with
  | true=>simp
  | false =>
    simp only [Bool.false_eq_true,if_false,true_and]
    rw [flat_mem]
theorem EntF.pair (E:EntF obc Γ b prs rt gi gj pi) {pr:Pr} (h:pr∈prs) (hr:pr.raw=false) {x y:Str×Nat} (z:(x,y)∈pr.q.fs.zip pr.p.fs):∃ n:Nat,gi[n]?=some x.2∧gj[n]?=some y.2:=zip_idx ((E.fl pr h hr).2 _ z)
theorem EntF.cell (E : EntF obc Γ b prs rt gi gj pi) (hB : B.O = obc.map (OB.od K ac)) (sl : SL K G H σ s Γ φ) (hfr : ∀ i a, a ∈ φ i → B.H0 a = none) (rr : ∀ k od, B.O[k]? = some od → ObjR B G H σ od (α k)) (hf : fldsAt s gj = some fds)
    {pr:Pr} (h:pr∈prs) (lv:Live (pr.p.od K ac) σ) (ho:pr.p.own=true) {c:Addr} (hc:c∈cellsP φ α pr):G c=none∧B.H0 c=none∧Cel H c∧∀ o,H c=some o→isPl o=true:=by
  obtain ⟨_,e2,_,e4⟩:=E.at_ pr h
  rcases cellsP_mem.mp hc with rfl | ⟨hr,y,hy,hc⟩
  · obtain ⟨dx,fs,i1,_,_,_,i5,_⟩:=(rr pr.k _ (by rw [hB]; exact ob_get e2)).ins rfl lv
    exact ⟨(i5 ho).1,(i5 ho).2,⟨_,i1,fun _ z=>nomatch z⟩,pl_of i1 rfl⟩
  · obtain ⟨x,hx,_,_⟩:=fs_pair' e4 hy
    obtain ⟨n,_,n2⟩:=E.pair h hr hx
    obtain ⟨d,_,e⟩:=(fldsAt_at hf).2 n _ n2
    obtain ⟨v,ev,ow⟩:=sl.at_ _ d e
    exact ⟨(sl.ok _ c hc).2,hfr _ c hc,(sl.ok _ c hc).1,ow.pl c hc⟩
set_option maxHeartbeats 1000000 in
structure BakF (obc:List OB) (b:BD) (prs out:List Pr) (ji jj:List Nat):Prop where
  n1:ji.length=jj.length
  n2:ji.Nodup
  n3:jj.Nodup
  at_:∀ pr∈out,b.ob[pr.m]?=some pr.q∧obc[pr.k]?=some pr.p∧pr.q.c=pr.p.c∧pr.q.fs.map (·.1)=pr.p.fs.map (·.1)∧pr.q.own=true∧pr.p.own=true
  fl:∀ pr∈out,∀ z∈pr.q.fs.zip pr.p.fs,(z.1.2,z.2.2)∈ji.zip jj
  giv:∀ pr∈prs,(pr.q.own=true∧∃ pr'∈out,pr'.k=pr.k∧pr'.p=pr.p)∨(pr.q.own=false∧pr.q.fx=true)
  kk:∀ pr∈out,∀ pr'∈out,pr.k=pr'.k→pr=pr'
  mm:∀ pr∈out,∀ pr'∈out,pr.m=pr'.m→pr=pr'
  knd:∀ pr∈out,(pr.q.fx=true∧pr.q.al=true∧∃ pr'∈prs,pr'.k=pr.k∧pr'.q=pr.q∧pr'.p=pr.p)∨((∀ j∈pr.p.i :: pr.p.rx,j∈jj)∧pr.p.nm=[]∧pr.p.fx=false)
  rsA:∀ z∈obc.zipIdx,∀ w∈ji.zip jj,w.2∈z.1.i :: z.1.rx→(∃ pr∈out ++ prs,pr.k=z.2)∧∀ pr∈out ++ prs,pr.k=z.2→w.1∈pr.q.i :: pr.q.rx
  nmA:∀ z∈obc.zipIdx,∀ j∈z.1.nm,j∉jj
  fsA:∀ z∈obc.zipIdx,∀ y∈z.1.fs,y.2∈jj→∃ pr∈out,pr.k=z.2
section
variable {Γ1:Ow} {out:List Pr} {ji jj:List Nat} {s':En} {G' H':Hp} {σ':St} {v:V} {d:D} {t:OT} {fds':List D}
set_option maxHeartbeats 2000000 in
end
end
end Hr
end
section
namespace Hr
open PySem PySem.Spec L2 PyProof.Rows
def spB (K:Frag) (b:BD) (t:OT) (ψ:List D→MR):Sp:=fun vs H Q E=>∃ (a:Nat→Addr) (L:List Addr) (σ:St) (G:Hp) (l:List D),
  (b.rd=true→L=[])∧vs.length=b.np∧(∀ i,ghB b.N i=false→σ[i]?=(L2.start b.N vs)[i]?)∧(∀ x∈L,∀ o,H x=some o→isPl o=true) ∧
  Rel K (b.base K a (off L H) G) b.g0 (b.en l) G σ H∧l.length=b.is.length ∧
  MDone (ψ l) (fun d fds'=>∀ v σ' s' G' H',fldsAt s' b.js=some fds'→Tmp K (b.base K a (off L H) G) b.g1 s' G' σ' H' v d t→Q v H')
    (fun c fds'=>∀ σ' s' G' H',fldsAt s' b.js=some fds'→Rel K (b.base K a (off L H) G) b.g1 s' G' σ' H'→E (clsV K c) none H')
structure MokB (P:Program) (w:World) (K:Frag) (mg:Str→Option Value) (base:Heap) (c m:Str) (b:BD) (t:OT) (k:Nat) (ψ:List D→MR):Prop where
  cls:Cls K (He.ga K c)
  ok:∃ f fd ps,Meth K (He.ga K c) m f∧Binds K fd ps []∧FnOk P w K mg base (L2.CX P w) k f fd ps (spB K b t ψ)
structure FokB (P:Program) (w:World) (K:Frag) (mg:Str→Option Value) (base:Heap) (x:Str) (b:BD) (t:OT) (k:Nat) (ψ:List D→MR):Prop where
  glo:mg x=some (.ref (He.ga K x))
  kp:PySem.W.keepIn K (.ref (He.ga K x))=true
  ok:∃ fd ps,Binds K fd ps []∧FnOk P w K mg base (L2.CX P w) k (He.ga K x) fd ps (spB K b t ψ)
structure IokB (P:Program) (w:World) (K:Frag) (mg:Str→Option Value) (base:Heap) (c:Str) (b:BD) (k:Nat) (ψ:List D→MR):Prop where
  glo:mg c=some (.ref (He.ga K c))
  ok:∃ f fd ps,Mk K (He.ga K c) f∧Binds K fd ps []∧FnOk P w K mg base (L2.CX P w) k f fd ps (spB K b .fz ψ)
inductive AK where
  | p | o (j:Nat)
  deriving DecidableEq
def rtOf:Nat→List AK→List (Nat×Nat)
  | _,[]=>[]
  | k,.p :: ks=>rtOf (k + 1) ks
  | k,.o j :: ks=>(k,j) :: rtOf (k + 1) ks
def piOf:Nat→List AK→List Nat
  | _,[]=>[]
  | k,.p :: ks=>k :: piOf (k + 1) ks
  | k,.o _ :: ks=>piOf (k + 1) ks
section
variable {X:Cx} {B:Base} {W:WX} {Γ:Ow} {e ob:Expr} {es:List Expr} {fa:En→R D} {fs:En→R (List D)} {p apos pos:Pos}
end
def eMuB (ψ:List D→MR) (n:Nat) (gj jj:List Nat) (fs:En→R (List D)):En→MU:=fun s=>match fldsAt s gj with
  | none=>.stuck
  | some fds=>match fs s with
    | .ok ds=>if ds.length=n then (match ψ (fds ++ ds) with
      | .ok d fds'=>.ok d (setFs s jj fds')
      | .exc c fds'=>.exc c (setFs s jj fds')
      | .stuck=>.stuck) else .stuck
    | .exc c=>.exc c s
    | .stuck=>.stuck
structure CalB (X:Cx) (obc:List OB) (Γ:Ow) (b:BD) (prs out:List Pr) (ks:List AK) (gi gj ji jj:List Nat):Prop where
  E:EntF obc Γ b prs (rtOf 0 ks) gi gj (piOf 0 ks)
  F:BakF obc b prs out ji jj
  np:ks.length=b.np
  js:b.js=ji
  rd:b.rd=false
  raw:∀ pr∈prs,pr.raw=false
  lent:∀ pr∈prs,pr.q.own=false→pr.p.own=false
  sub:∀ j∈jj,j∈gj
  ty:∀ w∈ji.zip jj,oty Γ w.2=oty b.g1 w.1
  gh:∀ j∈jj,∀ x,X.N[j]?=some x→¬ Vis X.env.scope x
theorem join_nil {G H:Hp}:join G H []=G:=by
  funext a
  unfold join
  rw [if_neg (fun z=>by cases z)]
theorem start_at {N:List Str} {vs:List V} {i:Nat} (h:i < N.length) (hv:vs.length≤N.length):(L2.start N vs)[i]?=some vs[i]?:=by
  unfold L2.start
  by_cases hi:i < vs.length
  · rw [List.getElem?_append_left (by rw [List.length_map]; exact hi),List.getElem?_map,List.getElem?_eq_getElem hi]; rfl
  · rw [List.getElem?_append_right (by rw [List.length_map]; omega),List.length_map,List.getElem?_replicate,if_pos (by omega),List.getElem?_eq_none (by omega)]
theorem ghB_lt {N:List Str} {i:Nat} (h:ghB N i=false):i < N.length:=by
  unfold ghB at h
  split at h
  · rename_i x e; exact (List.getElem?_eq_some_iff.mp e).1
  · cases h
section
variable {X:Cx} {B:Base} {W:WX} {Γ:Ow} {obc:List OB} {ac:Nat→Addr} {b:BD} {prs out:List Pr} {ks:List AK} {gi gj ji jj:List Nat}
theorem EntF.ent {obc:List OB} {rt:List (Nat×Nat)} {pi:List Nat} (E:EntF obc Γ b prs rt gi gj pi) {vs:List V} {σ:St} (hv:vs.length=b.np):∀ i,ghB b.N i=false→(entS b.N.length b.np gi gj vs σ)[i]?=(L2.start b.N vs)[i]?:=fun i h=>by
  have hl:=ghB_lt h
  rw [start_at hl (by rw [hv]; exact E.nb)]
  by_cases hp:i < b.np
  · rw [entS_p hl hp]
  · have hg:i∉gi:=fun m=>by have:=(E.gb i m).2.2; rw [h] at this; cases this
    rw [entS_at hl,if_neg hp,if_neg hg,List.getElem?_eq_none (by omega)]
variable {e ob:Expr} {es:List Expr} {fs:En→R (List D)} {p apos pos:Pos}
theorem EntF.roots {K : Frag} {s : En} {G H : Hp} {σ : St} {rt : List (Nat × Nat)} {pi : List Nat} {fds : List D} (E : EntF obc Γ b prs rt gi gj pi) (hB : B.O = obc.map (OB.od K ac)) (hf : fldsAt s gj = some fds) (rl : Rel K B Γ s G σ H) (hraw : ∀ pr ∈ prs, pr.raw = false)
    {pr:Pr} (h:pr∈prs) {j:Nat} (hj:j∈gj∨j∈pr.p.nm∨(j=pr.p.i∧pr.p.rx=[])):∃ v,σ[j]?=some (some v):=by
  obtain ⟨φ,sl,hfr⟩:=rl.sl
  obtain ⟨α,inj,ro⟩:=rl.ob
  have lv:=E.live hB ro sl hf (fun pr h z=>by rw [hraw pr h] at z; cases z) h
  have e2:B.O[pr.k]?=some (pr.p.od K ac):=by rw [hB]; exact ob_get (E.at_ pr h).2.1
  rcases hj with hj | hj | ⟨rfl,hx⟩
  · obtain ⟨n,hn,en⟩:=List.getElem_of_mem hj
    obtain ⟨d,_,e⟩:=(fldsAt_at hf).2 n j (by rw [List.getElem?_eq_getElem hn,en])
    obtain ⟨v,ev,_⟩:=sl.at_ j d e
    exact ⟨v,ev⟩
  · exact ⟨_,(ro _ _ e2).nm.2 lv j hj⟩
  · exact ⟨_,(ro _ _ e2).root lv (.inl (by show pr.p.i :: pr.p.rx=[pr.p.i]; rw [hx]))⟩
def RootF (prs:List Pr) (gj:List Nat) (ks:List AK):Prop:=∀ k∈ks,match k with
  | .p=>True
  | .o j=>∃ pr∈prs,j∈gj∨j∈pr.p.nm∨(j=pr.p.i∧pr.p.rx=[])
theorem CalB.set (C:CalB X obc Γ b prs out ks gi gj ji jj) (hB:B.O=obc.map (OB.od X.K ac)) (R:RootF prs gj ks) {σ:St} {H:Hp}:∀ (s:En) (fds:List D),fldsAt s gj=some fds→(∃ G,Rel X.K B Γ s G σ H)→∀ j,.o j∈ks→∃ v,σ[j]?=some (some v):=fun s fds hf ⟨G,rl⟩ j hj=>by
  obtain ⟨pr,hp,h⟩:=R _ hj
  exact C.E.roots hB hf rl C.raw hp h
def MR.of:R D→MR
  | .ok d=>.ok d []
  | .exc c=>.exc c []
  | .stuck=>.stuck
theorem thinL {K : Frag} {G H G2 H2 : Hp} {L : List Addr} (eH : Sub G H) (hL : ∀ c ∈ L, G c = none ∧ Cel H c ∧ (∀ o, H c = some o → isPl o = true) ∧ ∀ us vs, H c ≠ some (pT us vs)) (g2 : Grow K (join G H L) H G2 H2) :
    ∃ G3,Grow K G H G3 H2∧∀ v d t,okRes t d=true→New K H G2 H2 v d t→New K H G3 H2 v d t:=by
  have s1:Same G (join G H L):=join_same fun c hc=>(hL c hc).1
  refine ⟨fun b=>if b∈L then none else G2 b,⟨fun b o z=>?_,g2.h,⟨fun b o z=>?_,fun b o z=>?_⟩,fun b z1 z2=>?_⟩,fun v d t ok n=>n.thin (fun b us vs z=>?_) (fun b z=>?_) ok⟩
  · rw [if_neg fun m=>by rw [(hL b m).1] at z; cases z]
    exact g2.g b o (s1 b o z)
  · split at z
    · cases z
    · exact g2.gh b o z
  · split at z
    · cases z
    · exact g2.gh.n b o z
  · split
    · rfl
    · rename_i m
      exact g2.nw b (by rw [join_out m]; exact z1) z2
  · rw [if_neg fun m=>?_]
    · exact z
    · obtain ⟨k2,⟨o,ho,_⟩,hpl,k1⟩:=hL b m
      have h2:=g2.gh b _ z
      have h3:=g2.h b o ho (isPl_tb (hpl o ho))
      rw [h3] at h2
      exact k1 us vs (by rw [ho]; exact h2)
  · split
    · rfl
    · exact z
structure CalV (obc:List OB) (Γ:Ow) (b:BD) (prs:List Pr) (ks:List AK) (gi gj:List Nat):Prop where
  E:EntF obc Γ b prs (rtOf 0 ks) gi gj (piOf 0 ks)
  np:ks.length=b.np
  js:b.js=[]
  raw:∀ pr∈prs,pr.raw=false
  own:∀ pr∈prs,pr.q.own=false
theorem CalV.set (C:CalV obc Γ b prs ks gi gj) (hB:B.O=obc.map (OB.od X.K ac)) (R:RootF prs gj ks) {σ:St} {H:Hp}:∀ (s:En) (fds:List D),fldsAt s gj=some fds→(∃ G,Rel X.K B Γ s G σ H)→∀ j,.o j∈ks→∃ v,σ[j]?=some (some v):=fun s fds hf ⟨G,rl⟩ j hj=>by
  obtain ⟨pr,hp,h⟩:=R _ hj
  exact C.E.roots hB hf rl C.raw hp h
end
end Hr
end
section
namespace Hr
open PySem PySem.Spec L2 PyProof.Rows
structure StepF (K:Frag) (B:Base) (Γ Γ1:Ow) (s s':En) (G G' H H':Hp) (σ σ':St) (φ φ':Nat→List Addr) (α α':Nat→Addr) (L:List Addr) (jj:List Nat) (KK:Nat→Prop):Prop where
  st:Step K G H L G' H'
  hL:∀ c∈L,B.H0 c=none∧(∀ o,H c=some o→isPl o=true)
  l1:s'.length=s.length
  l2:σ'.length=σ.length
  ss:∀ j,j∉jj→s'[j]?=s[j]?∧σ'[j]?=σ[j]?∧oty Γ1 j=oty Γ j
  ho:∀ j,j∉jj→∀ d,s[j]?=some (some d)→∀ c∈φ j,c∉L
  hj:∀ j∈jj,∀ d,s'[j]?=some (some d)→∃ v,σ'[j]?=some (some v)∧OW K G' H' v d (oty Γ1 j) (φ' j)
  hn:∀ j∈jj,(∃ d,s'[j]?=some (some d))→(φ' j).Nodup∧∀ c∈φ' j,Cel H' c∧G' c=none∧B.H0 c=none∧∀ i,i∉jj→∀ d,s[i]?=some (some d)→c∉φ i
  hd:∀ i∈jj,∀ j∈jj,(∃ d,s'[i]?=some (some d))→(∃ d,s'[j]?=some (some d))→∀ c,c∈φ' i→c∈φ' j→i=j
  ok:∀ k od,B.O[k]?=some od→KK k→ObjR B G' H' σ' od (α' k)
  no:∀ k od,B.O[k]?=some od→¬ KK k→α' k=α k∧(∀ i∈od.rs,i∉jj)∧(∀ i∈od.nm,i∉jj)∧(∀ p∈od.fs,p.2∉jj)∧(od.own=true→Live od σ→α k∉L)
  ij:∀ k l od od',B.O[k]?=some od→B.O[l]?=some od'→KK k∨KK l→od.own=true→od'.ls=false→Live od σ'→Live od' σ'→α' k=α' l→k=l
open Classical in
theorem Rel.step {K : Frag} {B : Base} {Γ Γ1 : Ow} {s s' : En} {G G' H H' : Hp} {σ σ' : St} {φ φ' : Nat → List Addr} {α α' : Nat → Addr} {L : List Addr} {jj : List Nat} {KK : Nat → Prop} (r : Rel K B Γ s G σ H) (sl : SL K G H σ s Γ φ) (hfr : ∀ i a, a ∈ φ i → B.H0 a = none)
    (inj:∀ k l od od',B.O[k]?=some od→B.O[l]?=some od'→od.own=true→od'.ls=false→Live od σ→Live od' σ→α k=α l→k=l) (rr:∀ k od,B.O[k]?=some od→ObjR B G H σ od (α k))
    (F:StepF K B Γ Γ1 s s' G G' H H' σ σ' φ φ' α α' L jj KK):Rel K B Γ1 s' G' σ' H':=by
  let ψ:Nat→List Addr:=fun j=>if j∈jj then (match s'[j]? with | some (some _)=>φ' j | _=>[]) else match s[j]? with | some (some _)=>φ j | _=>[]
  have ψin:∀ j c,j∈jj→c∈ψ j→(∃ d,s'[j]?=some (some d))∧c∈φ' j:=fun j c hj hc=>by
    have hc:c∈(if j∈jj then (match s'[j]? with | some (some _)=>φ' j | _=>[]) else match s[j]? with | some (some _)=>φ j | _=>[]):=hc
    rw [if_pos hj] at hc
    split at hc
    · rename_i d e; exact ⟨⟨d,e⟩,hc⟩
    · cases hc
  have ψout:∀ j c,j∉jj→c∈ψ j→(∃ d,s[j]?=some (some d))∧c∈φ j:=fun j c hj hc=>by
    have hc:c∈(if j∈jj then (match s'[j]? with | some (some _)=>φ' j | _=>[]) else match s[j]? with | some (some _)=>φ j | _=>[]):=hc
    rw [if_neg hj] at hc
    split at hc
    · rename_i d e; exact ⟨⟨d,e⟩,hc⟩
    · cases hc
  have keep:∀ c o,c∉L→H c=some o→isTb o=false→H' c=some o:=F.st.h
  refine ⟨by rw [F.l1,F.l2]; exact r.len,⟨ψ,⟨fun j d e=>?_,fun j=>?_,fun i j c m1 m2=>?_,fun j c m=>?_⟩,fun j c m=>?_⟩,?_,r.hG.trans F.st.g,F.st.gh,fun c z1 z2=>F.st.nw c (r.fr c z1 z2) (z2.mono r.hH.kp) (fun m=>z2.ne (F.hL c m).1),?_⟩
  · by_cases hj:j∈jj
    · obtain ⟨v,ev,ow⟩:=F.hj j hj d e
      refine ⟨v,ev,?_⟩
      have:ψ j=φ' j:=by
        show (if j∈jj then (match s'[j]? with | some (some _)=>φ' j | _=>[]) else _)=_
        rw [if_pos hj,e]
      rw [this]; exact ow
    · obtain ⟨e1,e2,e3⟩:=F.ss j hj
      rw [e1] at e
      obtain ⟨v,ev,ow⟩:=sl.at_ j d e
      refine ⟨v,by rw [e2]; exact ev,?_⟩
      have:ψ j=φ j:=by
        show (if j∈jj then _ else match s[j]? with | some (some _)=>φ j | _=>[])=_
        rw [if_neg hj,e]
      rw [this,e3]
      exact ow.mono F.st.g fun c m o z=>keep c o (F.ho j hj d e c m) z (isPl_tb (ow.pl c m o z))
  · by_cases hj:j∈jj
    · show (if j∈jj then (match s'[j]? with | some (some _)=>φ' j | _=>[]) else _).Nodup
      rw [if_pos hj]
      split
      · rename_i d e; exact (F.hn j hj ⟨d,e⟩).1
      · exact List.nodup_nil
    · show (if j∈jj then _ else match s[j]? with | some (some _)=>φ j | _=>[]).Nodup
      rw [if_neg hj]
      split
      · exact sl.nd j
      · exact List.nodup_nil
  · by_cases hi:i∈jj
    · obtain ⟨d1,c1⟩:=ψin i c hi m1
      by_cases hj:j∈jj
      · obtain ⟨d2,c2⟩:=ψin j c hj m2
        exact F.hd i hi j hj d1 d2 c c1 c2
      · obtain ⟨⟨d2,e2⟩,c2⟩:=ψout j c hj m2
        exact absurd c2 (((F.hn i hi d1).2 c c1).2.2.2 j hj d2 e2)
    · obtain ⟨⟨d1,e1⟩,c1⟩:=ψout i c hi m1
      by_cases hj:j∈jj
      · obtain ⟨d2,c2⟩:=ψin j c hj m2
        exact absurd c1 (((F.hn j hj d2).2 c c2).2.2.2 i hi d1 e1)
      · exact sl.dj i j c c1 (ψout j c hj m2).2
  · by_cases hj:j∈jj
    · obtain ⟨d1,c1⟩:=ψin j c hj m
      have:=(F.hn j hj d1).2 c c1
      exact ⟨this.1,this.2.1⟩
    · obtain ⟨⟨d1,e1⟩,c1⟩:=ψout j c hj m
      obtain ⟨⟨o,ho,hn⟩,g0⟩:=sl.ok j c c1
      have hc:=F.ho j hj d1 e1 c c1
      obtain ⟨_,_,ow⟩:=sl.at_ j d1 e1
      exact ⟨⟨o,keep c o hc ho (isPl_tb (ow.pl c c1 o ho)),hn⟩,F.st.nw c g0 ⟨o,ho,hn⟩ hc⟩
  · by_cases hj:j∈jj
    · obtain ⟨d1,c1⟩:=ψin j c hj m
      exact ((F.hn j hj d1).2 c c1).2.2.1
    · exact hfr j c (ψout j c hj m).2
  · refine ⟨⟨fun c o z n=>keep c o (fun m=>by rw [(F.hL c m).1] at z; cases z) (r.hH c o z n) n,fun c ps z=>?_,fun p hp t=>F.st.ts p hp (r.hH.kp.ts p hp t)⟩,fun p hp=>F.st.ts p hp (r.hH.tk p hp)⟩
    obtain ⟨ps',z'⟩:=r.hH.kp.tb c ps z
    exact F.st.tb c ps' z'
  · have lv : ∀ k od, B.O[k]? = some od → ¬ KK k → (Live od σ' ↔ Live od σ) := fun k od e hk => by
      obtain ⟨_,n1,_⟩:=F.no k od e hk
      constructor
      · rintro ⟨i,hi,v,ev⟩; exact ⟨i,hi,v,by rw [← (F.ss i (n1 i hi)).2.1]; exact ev⟩
      · rintro ⟨i,hi,v,ev⟩; exact ⟨i,hi,v,by rw [(F.ss i (n1 i hi)).2.1]; exact ev⟩
    refine ⟨α',fun k l od od' e1 e2 ho hl l1 l2 e=>?_,fun k od e=>?_⟩
    · by_cases hk:KK k∨KK l
      · exact F.ij k l od od' e1 e2 hk ho hl l1 l2 e
      · have h1:¬ KK k:=fun z=>hk (.inl z)
        have h2:¬ KK l:=fun z=>hk (.inr z)
        rw [(F.no k od e1 h1).1,(F.no l od' e2 h2).1] at e
        exact inj k l od od' e1 e2 ho hl ((lv k od e1 h1).mp l1) ((lv l od' e2 h2).mp l2) e
    · by_cases hk:KK k
      · exact F.ok k od e hk
      · obtain ⟨n0,n1,n2,n3,n4⟩:=F.no k od e hk
        have q:=rr k od e
        have lk:=lv k od e hk
        rw [n0]
        refine ⟨q.pr,q.ad,fun i hi v ev=>q.rt i hi v (by rw [← (F.ss i (n1 i hi)).2.1]; exact ev),⟨q.nm.1,fun l i hi=>by rw [(F.ss i (n2 i hi)).2.1]; exact q.nm.2 (lk.mp l) i hi⟩,fun ha=>lk.mpr (q.al ha),fun p hp v ev=>lk.mpr (q.fld p hp v (by rw [← (F.ss _ (n3 p hp)).2.1]; exact ev)),fun hls l=>?_⟩
        obtain ⟨dx,fs,i1,i2,i3,i4,i5,i6⟩:=q.ins hls (lk.mp l)
        have nL:od.own=true→α k∉L:=fun ho=>n4 ho (lk.mp l)
        refine ⟨dx,fs,?_,i2,fun p hp=>by rw [(F.ss _ (n3 p hp)).2.1]; exact i3 p hp,i4,fun ho=>⟨F.st.nw _ (i5 ho).1 ⟨_,i1,fun _ z=>nomatch z⟩ (nL ho),(i5 ho).2⟩,fun ho=>F.st.g _ _ (i6 ho)⟩
        cases ho:od.own with
        | true=>exact keep _ _ (nL ho) i1 rfl
        | false=>exact F.st.gh _ _ (F.st.g _ _ (i6 ho))
def clr {α:Type}:List (Option α)→List Nat→List (Option α)
  | s,j :: js=>clr (s.set j none) js
  | s,[]=>s
structure BornF (obc:List OB) (k:Nat) (p:OB) (kl kx:List Nat):Prop where
  at_:obc[k]?=some p
  own:p.own=true
  fx:p.fx=false
  nm:p.nm=[]
  ik:k∈kx
  nf:∀ y∈p.fs,y.2≠p.i
  ka:∀ z∈obc.zipIdx,z.2∈kx→z.1.al=false∧(∀ i∈z.1.i :: z.1.rx,i∈kl)∧(∀ y∈z.1.fs,y.2∈kl)∧(z.2≠k→(p.i∉z.1.i :: z.1.rx)∧∀ y∈z.1.fs,y.2≠p.i)
  kb:∀ z∈obc.zipIdx,z.2∉kx→(∀ i∈z.1.nm,i∉kl)∧(∀ y∈z.1.fs,y.2∉kl)∧((∀ i∈z.1.i :: z.1.rx,i∉kl)∨(z.1.i∈z.1.nm))
  kp:∀ z∈obc.zipIdx,z.2≠k→p.i∉z.1.i :: z.1.rx
section
variable {K:Frag} {B:Base} {Γ Γ1:Ow} {s:En} {G H:Hp} {σ:St} {obc:List OB} {ac:Nat→Addr} {k:Nat} {p:OB} {kl kx:List Nat} {x dx:Addr}
def OB.nn (q:OB):OB:=⟨q.i,q.rx,[],q.c,q.own,q.al,q.fx,q.fs⟩
def Base.wO (B:Base) (O:List OD):Base:=⟨B.H0,B.G0,O,B.pr⟩
theorem set_at {α:Type} {l:List α} {k m:Nat} {x y:α} (h:(l.set k x)[m]?=some y):(m=k∧y=x)∨(m≠k∧l[m]?=some y):=getElem?_set_cases h
theorem Rel.nn (r:Rel K B Γ s G σ H) (hB:B.O=obc.map (OB.od K ac)) (hk:obc[k]?=some p):Rel K (B.wO ((obc.set k p.nn).map (OB.od K ac))) Γ s G σ H:=by
  obtain ⟨α,inj,rr⟩:=r.ob
  have hP:∀ (l:Nat) (od:OD),((obc.set k p.nn).map (OB.od K ac))[l]?=some od→∃ q:OB,B.O[l]?=some (q.od K ac)∧(od=q.od K ac∨od=q.nn.od K ac):=fun l od e=>by
    obtain ⟨q,hq,rfl⟩:=ob_at e
    rcases set_at hq with ⟨rfl,rfl⟩ | ⟨_,h⟩
    · exact ⟨p,by rw [hB]; exact ob_get hk,.inr rfl⟩
    · exact ⟨q,by rw [hB]; exact ob_get h,.inl rfl⟩
  refine ⟨r.len,r.sl,r.hH,r.hG,r.GH,r.fr,α,fun l m od od' e1 e2 ho hl l1 l2 e=>?_,fun l od e=>?_⟩
  · obtain ⟨q,h1,h2⟩:=hP l od e1
    obtain ⟨q',h1',h2'⟩:=hP m od' e2
    refine inj l m _ _ h1 h1' ?_ ?_ ?_ ?_ e
    · rcases h2 with rfl | rfl <;> exact ho
    · rfl
    · rcases h2 with rfl | rfl <;> exact l1
    · rcases h2' with rfl | rfl <;> exact l2
  · obtain ⟨q,h1,h2⟩:=hP l od e
    have q0:=rr l _ h1
    rcases h2 with rfl | rfl
    · exact ⟨q0.pr,q0.ad,q0.rt,q0.nm,q0.al,q0.fld,q0.ins⟩
    · exact ⟨q0.pr,q0.ad,q0.rt,⟨fun i hi=>(by cases hi),fun _ i hi=>(by cases hi)⟩,q0.al,q0.fld,q0.ins⟩
structure NameF (obc:List OB) (k n:Nat) (p:OB):Prop where
  at_:obc[k]?=some p
  nm:∀ i∈p.nm,i=n
  al:∀ z∈obc.zipIdx,n∉z.1.i :: z.1.rx∧(∀ y∈z.1.fs,y.2≠n)∧(z.2≠k→n∉z.1.nm)
end
structure CalI (X:Cx) (obc:List OB) (k:Nat) (p:OB) (kl kx:List Nat) (Γ Γ1:Ow) (b:BD) (prs out:List Pr) (ks:List AK) (gi gj ji jj:List Nat):Prop where
  bn:BornF (obc.set k p.nn) k p.nn kl kx
  at_:obc[k]?=some p
  E:EntF (obc.set k p.nn) Γ b prs (rtOf 0 (.o p.i :: ks)) gi gj (piOf 0 (.o p.i :: ks))
  F:BakF (obc.set k p.nn) b prs out ji jj
  np:ks.length + 1=b.np
  js:b.js=ji
  rd:b.rd=false
  raw:∀ pr∈prs,pr.raw=true→pr.k=k∧pr.p=p.nn
  nraw:∀ pr∈prs,pr.raw=false→pr.k≠k
  lent:∀ pr∈prs,pr.q.own=false→pr.p.own=false
  ty:∀ w∈ji.zip jj,oty Γ1 w.2=oty b.g1 w.1
  tyo:∀ j,j∉jj→oty Γ1 j=oty Γ j
  gh:∀ j∈p.i :: (kl ++ jj),∀ x,X.N[j]?=some x→¬ Vis X.env.scope x
  ko:∀ a∈ks,match a with
    | .p=>True
    | .o j=>j∉kl∧j≠p.i∧∃ pr∈prs,pr.raw=false∧(j∈gj∨j∈pr.p.nm∨(j=pr.p.i∧pr.p.rx=[]))
  ni:p.i∉jj
section
variable {X:Cx} {B:Base} {W:WX} {Γ Γ1:Ow} {o:OC} {obc:List OB} {ac:Nat→Addr} {k:Nat} {p0:OB} {kl kx:List Nat} {b:BD} {prs out:List Pr} {ks:List AK} {gi gj ji jj:List Nat} {e:Expr} {es:List Expr} {fs:En→R (List D)} {p p1 cpos pos:Pos}
theorem CalI.set (C:CalI X obc k p0 kl kx Γ Γ1 b prs out ks gi gj ji jj) (hB:B.O=obc.map (OB.od X.K ac)) {s:En} {G H:Hp} {σ:St} {fds:List D} (rl:Rel X.K B Γ s G σ H) (hf:fldsAt s gj=some fds):∀ j,.o j∈ks→∃ v,σ[j]?=some (some v):=fun j hj=>by
  obtain ⟨_,_,pr,hp,hr,h⟩:=C.ko _ hj
  obtain ⟨φ,sl,hfr⟩:=rl.sl
  obtain ⟨α,inj,ro⟩:=rl.ob
  obtain ⟨_,e2,_,e4⟩:=C.E.at_ pr hp
  have e2':obc[pr.k]?=some pr.p:=by rwa [List.getElem?_set_ne (Ne.symm (C.nraw pr hp hr))] at e2
  have ek:B.O[pr.k]?=some (pr.p.od X.K ac):=by rw [hB]; exact ob_get e2'
  have lv:Live (pr.p.od X.K ac) σ:=by
    obtain ⟨hne,hz⟩:=C.E.fl pr hp hr
    cases hfs:pr.p.fs with
    | nil=>exact absurd hfs hne
    | cons y ys =>
      have hy:y∈pr.p.fs:=by rw [hfs]; exact List.mem_cons_self
      obtain ⟨x,hx,_,_⟩:=fs_pair' e4 hy
      obtain ⟨n,_,n2⟩:=zip_idx (hz _ hx)
      obtain ⟨d,_,e⟩:=(fldsAt_at hf).2 n _ n2
      obtain ⟨v,ev,_⟩:=sl.at_ _ d e
      exact (ro pr.k _ ek).fld y hy v ev
  rcases h with h | h | ⟨rfl,h⟩
  · obtain ⟨n,hn,en⟩:=List.getElem_of_mem h
    obtain ⟨d,_,e⟩:=(fldsAt_at hf).2 n j (by rw [List.getElem?_eq_getElem hn,en])
    obtain ⟨v,ev,_⟩:=sl.at_ j d e
    exact ⟨v,ev⟩
  · exact ⟨_,(ro _ _ ek).nm.2 lv j h⟩
  · exact ⟨_,(ro _ _ ek).root lv (.inl (by show pr.p.i :: pr.p.rx=[pr.p.i]; rw [h]))⟩
end
end Hr
end
section
namespace Hr
open PySem PySem.Spec L2 PyProof.Rows
structure LnkF (K:Frag) (obc:List OB) (ks ky i j jy:Nat) (f:Str) (ps py:OB):Prop where
  as_:obc[ks]?=some ps
  ay:obc[ky]?=some py
  own:ps.own=true
  al:ps.al=true
  ay2:py.al=true
  len:ps.fs.length≤900
  mem:(f,j)∈ps.fs
  uq:∀ y∈ps.fs,y.1=f↔y.2=j
  rt:(i=ps.i∧ps.rx=[])∨i∈ps.nm
  ry:(jy=py.i∧py.rx=[])∨jy∈py.nm
  jm:j∈py.i :: py.rx
  ne:ks≠ky
  ot:∀ z∈obc.zipIdx,j∉z.1.nm∧(z.2≠ky→j∉z.1.i :: z.1.rx)∧(z.2≠ks→∀ y∈z.1.fs,y.2≠j)
  cls:Cls K (He.ga K ps.c)
  na:NoAttr K (He.ga K ps.c) f
section
variable {K:Frag} {B:Base} {Γ Γ1:Ow} {s:En} {G H:Hp} {σ:St} {obc:List OB} {ac:Nat→Addr} {ks ky i j jy:Nat} {f:Str} {ps py:OB}
theorem rt_of {q:OB} {i:Nat} (h:(i=q.i∧q.rx=[])∨i∈q.nm):Rt (q.od K ac) i:=by
  rcases h with ⟨rfl,h⟩ | h
  · exact .inl (by show q.i :: q.rx=[q.i]; rw [h])
  · exact .inr h
theorem putF_len {f:Str} {v:V} {od:List (Str×Nat)} {fs:List (Str×V)} (nd:(fs.map (·.1)).Nodup) (h:∀ g w,fs.lookup g=some w→g∈od.map (·.1)):fs.length≤od.length:=by
  have:=nd_le' (l:=fs.map (·.1)) (m:=od.map (·.1)) nd fun x hx=>by
    obtain ⟨w,hw⟩:=lookup_key hx
    exact h x w hw
  rwa [List.length_map,List.length_map] at this
theorem Step.upd1 {a:Addr} {o u:HO} (e:Sub G H) (h:H a=some u) (hu:isPl u=true) (g:G a=none):Step K G H [a] G (upd H a o) :=
  ⟨.refl _,e.set g,fun b w hb z _=>by rw [upd_ne (by simpa using hb)]; exact z,fun b ps z=>⟨ps,by rw [upd_ne fun e=>by rw [e,h] at z; cases z; cases hu]; exact z⟩,fun p hp t=>tabS_upd t (pl_of h hu),fun b z _ _=>z⟩
theorem Rel.setL (r : Rel K B Γ s G σ H) (hB : B.O = obc.map (OB.od K ac)) (F : LnkF K obc ks ky i j jy f ps py) (hj : j < s.length) (ht : oty Γ j = .fz) :
    ∃ a b dx fs,σ[i]?=some (some (.ref a))∧σ[jy]?=some (some (.ref b))∧H a=some (.ins (He.ga K ps.c) dx fs)∧fs.length < 1000∧Rel K B Γ (s.set j (some .lnk)) G (σ.set j (some (.ref b))) (upd H a (.ins (He.ga K ps.c) dx (putF f (.ref b) fs))):=by
  obtain ⟨φ,sl,hfr⟩:=r.sl
  obtain ⟨α,inj,rr⟩:=r.ob
  have es:B.O[ks]?=some (ps.od K ac):=by rw [hB]; exact ob_get F.as_
  have ey:B.O[ky]?=some (py.od K ac):=by rw [hB]; exact ob_get F.ay
  have qs:=rr ks _ es
  have qy:=rr ky _ ey
  have ls:Live (ps.od K ac) σ:=qs.al F.al
  have ly:Live (py.od K ac) σ:=qy.al F.ay2
  obtain ⟨dx,fs,i1,i2,i3,i4,i5,_⟩:=qs.ins rfl ls
  obtain ⟨gN,hN0⟩:=i5 F.own
  have i1:H (α ks)=some (.ins (He.ga K ps.c) dx fs):=i1
  have hlσ:j < σ.length:=by rw [← r.len]; exact hj
  have s0:(σ.set j (some (.ref (α ky))))[j]?=some (some (.ref (α ky))):=List.getElem?_set_self hlσ
  have so:∀ l,l≠j→(σ.set j (some (.ref (α ky))))[l]?=σ[l]?:=fun l h=>List.getElem?_set_ne (Ne.symm h)
  have sset:∀ l v,σ[l]?=some (some v)→∃ v,(σ.set j (some (.ref (α ky))))[l]?=some (some v):=fun l v e=>by
    by_cases z:l=j
    · exact ⟨_,by rw [z]; exact s0⟩
    · exact ⟨v,by rw [so l z]; exact e⟩
  have zi:∀ {l:Nat} {q:OB},obc[l]?=some q→(q,l)∈obc.zipIdx:=fun h=>List.mem_zipIdx_iff_getElem?.mpr h
  have lvF:∀ (q:OB),Live (q.od K ac) σ→Live (q.od K ac) (σ.set j (some (.ref (α ky)))):=fun q ⟨l,hl,v,e⟩=>⟨l,hl,sset l v e⟩
  have lvB:∀ (l:Nat) (q:OB),obc[l]?=some q→Live (q.od K ac) (σ.set j (some (.ref (α ky))))→Live (q.od K ac) σ:=fun l q e ⟨m,hm,v,ev⟩=>by
    by_cases z:m=j
    · by_cases hl:l=ky
      · subst hl
        rw [F.ay] at e; cases e
        exact ly
      · exact absurd (by rw [← z]; exact hm) ((F.ot (q,l) (zi e)).2.1 hl)
    · exact ⟨m,hm,v,by rw [so m z] at ev; exact ev⟩
  have nc:∀ i d,s[i]?=some (some d)→∀ c∈φ i,c∉[α ks]:=fun i d e c hc m=>by
    rw [List.mem_singleton] at m
    obtain ⟨v,_,ow⟩:=sl.at_ i d e
    exact ow.noins i1 (by rw [← m]; exact hc)
  refine ⟨α ks,α ky,dx,fs,qs.root ls (rt_of F.rt),qy.root ly (rt_of F.ry),i1,?_,r.step sl hfr inj rr (φ':=fun _=>[]) (α':=α) (L:=[α ks]) (jj:=[j]) (KK:=fun l=>l=ks∨l=ky) ⟨Step.upd1 r.GH i1 rfl gN,fun c hc=>?_,List.length_set,List.length_set,fun l hl=>?_,fun l hl d e c hc=>nc l d e c hc,fun l hl d e=>?_,fun l hl _=>⟨List.nodup_nil,fun c hc=>(by cases hc)⟩,fun _ _ _ _ _ _ c hc=>(by cases hc),fun l od e hk=>?_,fun l od e hk=>?_,fun l m od od' e1 e2 _ ho hls l1 l2 e=>?_⟩⟩
  · have:=putF_len (f:=f) (v:=.non) i2 i4
    have:fs.length≤ps.fs.length:=this
    have:=F.len
    omega
  · rw [List.mem_singleton.mp hc]
    exact ⟨hN0,pl_of i1 rfl⟩
  · have hl:l≠j:=by simpa using hl
    exact ⟨List.getElem?_set_ne (Ne.symm hl),so l hl,rfl⟩
  · have hl:=List.mem_singleton.mp hl
    subst hl
    rw [List.getElem?_set_self hj] at e
    cases e
    exact ⟨_,s0,by rw [ht]; exact .fz (.lnk _)⟩
  · rw [hB] at e
    obtain ⟨q,hq,rfl⟩:=ob_at e
    have q0:=rr l _ (by rw [hB]; exact e)
    have ot:=F.ot (q,l) (zi hq)
    have nmE:(∀ i∈(q.od K ac).nm,B.pr i=true)∧(Live (q.od K ac) (σ.set j (some (.ref (α ky))))→∀ i∈(q.od K ac).nm,(σ.set j (some (.ref (α ky))))[i]?=some (some (.ref (α l)))):=⟨q0.nm.1,fun l' i hi=>by rw [so i fun z=>ot.1 (by rw [← z]; exact hi)]; exact q0.nm.2 (lvB l q hq l') i hi⟩
    rcases hk with rfl | rfl
    · rw [F.as_] at hq; cases hq
      refine ⟨q0.pr,q0.ad,fun m hm v ev=>q0.rt m hm v ?_,nmE,fun _=>lvF ps ls,fun _ _ _ _=>lvF ps ls,fun _ _=>⟨dx,_,upd_same,putF_nd i2,fun y hy=>?_,fun g w hg=>?_,fun _=>⟨gN,hN0⟩,fun z=>?_⟩⟩
      · rw [so m fun z=>ot.2.1 F.ne (by rw [← z]; exact hm)] at ev; exact ev
      · rw [lookup_putF]
        by_cases hp1:y.1=f
        · rw [if_pos hp1,(F.uq y hy).mp hp1,s0]; rfl
        · rw [if_neg hp1,so _ fun z=>hp1 ((F.uq y hy).mpr z)]
          exact i3 y hy
      · rw [lookup_putF] at hg
        by_cases hg1:g=f
        · rw [hg1]; exact List.mem_map.mpr ⟨_,F.mem,rfl⟩
        · rw [if_neg hg1] at hg; exact i4 g w hg
      · have z:ps.own=false:=z
        rw [F.own] at z; cases z
    · rw [F.ay] at hq; cases hq
      refine ⟨q0.pr,q0.ad,fun m hm v ev=>?_,nmE,fun _=>lvF py ly,fun _ _ _ _=>lvF py ly,fun hls l'=>?_⟩
      · by_cases z:m=j
        · rw [z,s0] at ev; cases ev; rfl
        · rw [so m z] at ev; exact q0.rt m hm v ev
      · obtain ⟨dx',fs',y1,y2,y3,y4,y5,y6⟩:=q0.ins hls ly
        have ne:α l≠α ks:=fun z=>F.ne (inj ks l _ _ es ey F.own rfl ls ly z.symm)
        exact ⟨dx',fs',by rw [upd_ne ne]; exact y1,y2,fun y hy=>by rw [so _ (ot.2.2 (Ne.symm F.ne) y hy)]; exact y3 y hy,y4,y5,y6⟩
  · have e0:=e
    rw [hB] at e
    obtain ⟨q,hq,rfl⟩:=ob_at e
    have ot:=F.ot (q,l) (zi hq)
    have h1:l≠ks:=fun z=>hk (.inl z)
    have h2:l≠ky:=fun z=>hk (.inr z)
    refine ⟨rfl,fun m hm z=>ot.2.1 h2 (by rw [← List.mem_singleton.mp z]; exact hm),fun m hm z=>ot.1 (by rw [← List.mem_singleton.mp z]; exact hm),fun y hy z=>ot.2.2 h1 y hy (List.mem_singleton.mp z),fun ho lv z=>?_⟩
    exact h1 (inj l ks _ _ e0 es ho rfl lv ls (List.mem_singleton.mp z))
  · rw [hB] at e1 e2
    obtain ⟨q1,h1,rfl⟩:=ob_at e1
    obtain ⟨q2,h2,rfl⟩:=ob_at e2
    exact inj l m _ _ (by rw [hB]; exact e1) (by rw [hB]; exact e2) ho hls (lvB l q1 h1 l1) (lvB m q2 h2 l2) e
end
def sLnk (j:Nat):En→Out:=fun s=>if j < s.length then .nx (s.set j (some .lnk)) else .stuck
section
variable {X:Cx} {B:Base} {W:WX} {Γ Γ1:Ow} {o:OC} {obc:List OB} {ac:Nat→Addr} {ks ky i j jy:Nat} {f x y:Str} {ps py:OB} {p p2 pos pos':Pos}
theorem sv_lnk (hB : B.O = obc.map (OB.od X.K ac)) (F : LnkF X.K obc ks ky i j jy f ps py) (ht : oty Γ j = .fz) (hN : X.N[i]? = some x) (hv : Vis X.env.scope x) (h1 : (x == ("__debug__" : Str)) = false) (h2 : (x == ("__classdict__" : Str)) = false)
    (hNy:X.N[jy]?=some y) (hvy:Vis X.env.scope y) (k1:(y == ("__debug__":Str))=false) (k2:(y == ("__classdict__":Str))=false) (hg:∀ σ:St,∀ w,Gh X σ (σ.set j w)) :
    SV X B W Γ Γ o (.Assign [.Attribute (.Name x p) f pos'] (.Name y p2) pos) (sLnk j) :=
  PS.imp (PS.gh (ps_fld (pe_var hN hv h1 h2) (pe_var hNy hvy k1 k2) rfl)) fun Dn σ H ⟨s,G,rl,k⟩=>by
    unfold sLnk at k
    by_cases hl:j < s.length
    · rw [if_pos hl] at k
      obtain ⟨a,b,dx,fs,e1,e2,e3,e4,r2⟩:=rl.setL hB F hl ht
      exact ⟨_,e2,_,e1,a,_,dx,fs,rfl,e3,F.cls,F.na,e4,_,hg σ _,k _ G _ (.refl _) r2⟩
    · rw [if_neg hl] at k; exact k.elim
end
structure RebF (K:Frag) (obc:List OB) (ks kv i j:Nat) (f:Str) (ps pv:OB):Prop where
  as_:obc[ks]?=some ps
  av:obc[kv]?=some pv
  own:ps.own=true
  al:ps.al=true
  len:ps.fs.length≤900
  mem:(f,j)∈ps.fs
  uq:∀ y∈ps.fs,y.1=f↔y.2=j
  rt:(i=ps.i∧ps.rx=[])∨i∈ps.nm
  vi:pv.i=j∧pv.rx=[]∧pv.nm=[]∧pv.own=true∧pv.fx=false
  nd:(pv.fs.map (·.2)).Nodup
  nj:∀ y∈pv.fs,y.2≠j
  ne:ks≠kv
  ot:∀ z∈obc.zipIdx,j∉z.1.nm∧(z.2≠kv→j∉z.1.i :: z.1.rx∧∀ y∈pv.fs,∀ y'∈z.1.fs,y'.2≠y.2)∧(z.2≠ks→∀ y∈z.1.fs,y.2≠j)∧∀ y∈pv.fs,y.2∉z.1.i :: z.1.rx∧y.2∉z.1.nm
  cls:Cls K (He.ga K ps.c)
  na:NoAttr K (He.ga K ps.c) f
section
variable {K:Frag} {B:Base} {Γ Γ1:Ow} {s:En} {G H G' H':Hp} {σ:St} {obc:List OB} {ac:Nat→Addr} {ks kv i j:Nat} {f:Str} {ps pv:OB} {x dx:Addr} {fvs:List V} {fds:List D} {fps:List (List Addr)}
set_option maxHeartbeats 1000000 in
end
section
variable {X:Cx} {B:Base} {W:WX} {Γ Γ1:Ow} {o:OC} {obc:List OB} {ac:Nat→Addr} {ks kv i j:Nat} {f x:Str} {ps pv:OB} {e:Expr} {es:List Expr} {fs:En→R (List D)} {p p0 cpos pos pos':Pos}
end
end Hr
end
section
namespace Hr
open PySem PySem.Spec L2 PyProof.Rows
def lnkB (obc:List OB) (ks ky i j jy:Nat) (f:Str) (ps py:OB):Bool :=
  decide (obc[ks]?=some ps) && (decide (obc[ky]?=some py) && (decide (ps.own=true) && (decide (ps.al=true) && (decide (py.al=true) && (decide (ps.fs.length≤900) && (decide ((f,j)∈ps.fs) && (decide (∀ y∈ps.fs,y.1=f↔y.2=j) && (decide ((i=ps.i∧ps.rx=[])∨i∈ps.nm) && (decide ((jy=py.i∧py.rx=[])∨jy∈py.nm) && (decide (j∈py.i :: py.rx) && (decide (ks≠ky) && (decide (∀ z∈obc.zipIdx,j∉z.1.nm∧(z.2≠ky→j∉z.1.i :: z.1.rx)∧(z.2≠ks→∀ y∈z.1.fs,y.2≠j))))))))))))))
theorem lnkB_ok {K:Frag} {obc:List OB} {ks ky i j jy:Nat} {f:Str} {ps py:OB} (h:lnkB obc ks ky i j jy f ps py=true) (hc:Cls K (He.ga K ps.c)) (hn:NoAttr K (He.ga K ps.c) f):LnkF K obc ks ky i j jy f ps py:=by
  unfold lnkB at h
  obtain ⟨h0,h⟩:=Bool.and_eq_true_iff.mp h
  obtain ⟨h1,h⟩:=Bool.and_eq_true_iff.mp h
  obtain ⟨h2,h⟩:=Bool.and_eq_true_iff.mp h
  obtain ⟨h3,h⟩:=Bool.and_eq_true_iff.mp h
  obtain ⟨h4,h⟩:=Bool.and_eq_true_iff.mp h
  obtain ⟨h5,h⟩:=Bool.and_eq_true_iff.mp h
  obtain ⟨h6,h⟩:=Bool.and_eq_true_iff.mp h
  obtain ⟨h7,h⟩:=Bool.and_eq_true_iff.mp h
  obtain ⟨h8,h⟩:=Bool.and_eq_true_iff.mp h
  obtain ⟨h9,h⟩:=Bool.and_eq_true_iff.mp h
  obtain ⟨h10,h⟩:=Bool.and_eq_true_iff.mp h
  obtain ⟨h11,h⟩:=Bool.and_eq_true_iff.mp h
  exact ⟨of_decide_eq_true h0,of_decide_eq_true h1,of_decide_eq_true h2,of_decide_eq_true h3,of_decide_eq_true h4,of_decide_eq_true h5,of_decide_eq_true h6,of_decide_eq_true h7,of_decide_eq_true h8,of_decide_eq_true h9,of_decide_eq_true h10,of_decide_eq_true h11,of_decide_eq_true h,hc,hn⟩
end Hr
end
section
namespace Hr
open PySem PySem.Spec L2 PyProof.Rows
def IsDT (kvs:List (List Key×V)) (u:HO):Prop:=u=.dT kvs∨∃ o,u=.frz o (.dT kvs)
theorem IsDT.rd {kvs:List (List Key×V)} {u:HO} {H:Hp} {a:Addr} (h:IsDT kvs u) (e:H a=some u):Rd H a (.dT kvs):=by
  rcases h with rfl | ⟨o,rfl⟩
  · exact .inl e
  · exact .inr ⟨o,e⟩
def rp (d:Addr) (c:HO) (H:Hp):Hp:=fun b=>if b=d then (H d).map fun _=>c else H b
section
variable {d:Addr} {c c' u:HO} {H H':Hp} {kvs:List (List Key×V)}
theorem rp_ne {b:Addr} (h:b≠d):Hr.rp d c H b=H b:=if_neg h
theorem rp_at (h:H d=some u):Hr.rp d c H d=some c:=by unfold rp; rw [if_pos rfl,h]; rfl
theorem rp_none {b:Addr}:Hr.rp d c H b=none↔H b=none:=by
  unfold rp
  by_cases h:b=d
  · subst h; rw [if_pos rfl]; cases H b <;> simp
  · rw [if_neg h]
theorem rp_upd (h:H d=some u):Hr.rp d c H=upd H d c:=by
  funext b
  by_cases e:b=d
  · subst e; rw [rp_at h,upd_same]
  · rw [rp_ne e,upd_ne e]
theorem rp_rp:Hr.rp d c (Hr.rp d c' H)=Hr.rp d c H:=by
  funext b
  by_cases e:b=d
  · subst e
    cases h:H b with
    | none=>rw [rp_none.mpr h,rp_none.mpr (rp_none.mpr h)]
    | some u=>rw [rp_at h,rp_at (rp_at h)]
  · rw [rp_ne e,rp_ne e,rp_ne e]
theorem rp_id (h:∀ u,H d=some u→u=c):Hr.rp d c H=H:=by
  funext b
  by_cases e:b=d
  · subst e
    cases q:H b with
    | none=>exact rp_none.mpr q
    | some u=>rw [rp_at q,h u q]
  · exact rp_ne e
theorem rp_same (e:Same H H'):Same (Hr.rp d c H) (Hr.rp d c H'):=fun b o q=>by
  by_cases z:b=d
  · subst z
    cases w:H b with
    | none=>rw [rp_none.mpr w] at q; cases q
    | some u=>rw [rp_at w] at q; cases q; exact rp_at (e _ _ w)
  · rw [rp_ne z] at q ⊢; exact e _ _ q
end
theorem IsDT.pl {u:HO} {kvs:List (List Key×V)} (h:IsDT kvs u):isPl u=true:=by rcases h with rfl | ⟨o,rfl⟩ <;> rfl
theorem rp_tab {H:Hp} {d P:Addr} {c:HO} {q:Str} (hd:∀ u,H d=some u→isPl u=true) (t:LamX.TabS H P q):LamX.TabS (Hr.rp d c H) P q:=by
  cases e:H d with
  | none =>
    have:Hr.rp d c H=H:=rp_id fun u z=>by rw [e] at z; cases z
    rw [this]; exact t
  | some u=>rw [rp_upd e]; exact tabS_upd t hd
theorem tab_upd {H:Hp} {d P:Addr} {c:HO} {q:Str} (hc:isPl c=true) (t:LamX.TabS (upd H d c) P q):LamX.TabS H P q:=by
  obtain ⟨ps,h1,h2,h3⟩:=t
  have n1:P≠d:=fun z=>by rw [z,upd_same] at h1; cases h1; cases hc
  rw [upd_ne n1] at h1
  refine ⟨ps,h1,h2,fun pos cv hcv=>?_⟩
  obtain ⟨c',e1,e2⟩:=h3 pos cv hcv
  refine ⟨c',e1,?_⟩
  rwa [upd_ne fun z=>by rw [z,upd_same] at e2; cases e2; cases hc] at e2
theorem tab_rp {H:Hp} {d P:Addr} {c:HO} {q:Str} (hc:isPl c=true) (t:LamX.TabS (Hr.rp d c H) P q):LamX.TabS H P q:=by
  cases e:H d with
  | none =>
    have:Hr.rp d c H=H:=rp_id fun u z=>by rw [e] at z; cases z
    rwa [this] at t
  | some u=>rw [rp_upd e] at t; exact tab_upd hc t
theorem rp_kp {K:Frag} {H H':Hp} {d:Addr} {c u:HO} (k:Kp K H H') (hc:isPl c=true) (hd:H d=some u) (hu:isPl u=true):Kp K (Hr.rp d c H) (Hr.rp d c H'):=by
  have hd':H' d=some u:=k.at_ _ _ hd (isPl_tb hu)
  refine ⟨fun b o q n=>?_,fun b ps q=>?_,fun p hp t=>rp_tab (fun x e=>by rw [hd'] at e; cases e; exact hu) (k.ts p hp (tab_rp hc t))⟩
  · by_cases z:b=d
    · subst z
      rw [rp_at hd] at q; cases q; exact rp_at hd'
    · rw [rp_ne z] at q ⊢; exact k.at_ _ _ q n
  · by_cases z:b=d
    · subst z
      rw [rp_at hd] at q; cases q; cases hc
    · rw [rp_ne z] at q ⊢; exact k.tb _ _ q
theorem kp_free {K:Frag} {H0 H':Hp} {d:Addr} {c u:HO} (k:Kp K (upd H0 d c) H') (hc:isPl c=true) (hu:isPl u=true) (h0:∀ x,H0 d=some x→x=u):Kp K H0 (Hr.rp d u H'):=by
  have hd:H' d=some c:=k.at_ _ _ upd_same (isPl_tb hc)
  have hp:∀ x,H' d=some x→isPl x=true:=fun x e=>by rw [hd] at e; cases e; exact hc
  refine ⟨fun b o q n=>?_,fun b ps q=>?_,fun p hq t=>?_⟩
  · by_cases z:b=d
    · subst z; rw [h0 _ q]; exact rp_at hd
    · rw [rp_ne z]; exact k.at_ b o (by rw [upd_ne z]; exact q) n
  · by_cases z:b=d
    · subst z; have:=h0 _ q; subst this; cases hu
    · rw [rp_ne z]; exact k.tb b ps (by rw [upd_ne z]; exact q)
  · exact rp_tab hp (k.ts p hq (tabS_upd t fun x e=>by rw [h0 x e]; exact hu))
theorem kp_lock {K:Frag} {H0 H:Hp} {d:Addr} {c u:HO} (k:Kp K H0 H) (hd:H d=some u) (hu:isPl u=true) (hc:isPl c=true):Kp K (upd H0 d c) (Hr.rp d c H):=by
  have hp:∀ x,H d=some x→isPl x=true:=fun x e=>by rw [hd] at e; cases e; exact hu
  refine ⟨fun b o q n=>?_,fun b ps q=>?_,fun p hq t=>?_⟩
  · by_cases z:b=d
    · subst z; rw [upd_same] at q; cases q; exact rp_at hd
    · rw [upd_ne z] at q; rw [rp_ne z]; exact k.at_ b o q n
  · by_cases z:b=d
    · subst z; rw [upd_same] at q; cases q; cases hc
    · rw [upd_ne z] at q; rw [rp_ne z]; exact k.tb b ps q
  · exact rp_tab hp (k.ts p hq (tab_upd hc t))
theorem rp_sub {G H:Hp} {d:Addr} {c:HO} (e:Sub G H) (hc:isPl c=true):Sub (Hr.rp d c G) (Hr.rp d c H):=⟨rp_same e.s,fun b o q=>by
  by_cases z:b=d
  · subst z
    cases w:G b with
    | none=>rw [rp_none.mpr w] at q; cases q
    | some u=>rw [rp_at w] at q; cases q; exact isPl_tb hc
  · rw [rp_ne z] at q; exact e.n b o q⟩
section
variable {d:Addr} {c c' u:HO} {H H':Hp} {kvs:List (List Key×V)}
theorem rp_keep {a:Addr} {o:HO} (hd:∀ u,H d=some u→IsDT kvs u) (e:H a=some o) (n:¬ IsDT kvs o):Hr.rp d c H a=some o:=by
  have ne:a≠d:=fun z=>n (hd o (by rw [← z]; exact e))
  rw [rp_ne ne]
  exact e
theorem isDT_pT {us:List Value} {vs:List V}:¬ IsDT kvs (pT us vs):=by
  unfold pT
  split
  · rintro (z | ⟨o,z⟩) <;> cases z
  · rintro (z | ⟨o,z⟩) <;> cases z
end
mutual
theorem RD.rp {K:Frag} {G:Hp} {d:Addr} {c:HO} {kvs:List (List Key×V)} (hd:∀ u,G d=some u→IsDT kvs u) (hc:IsDT kvs c):∀ {v:V} {x:D},RD K G v x→RD K (Hr.rp d c G) v x
  | _,_,.non=>.non
  | _,_,.bl b=>.bl b
  | _,_,.int i=>.int i
  | _,_,.str x h l=>.str x h l
  | _,_,.tup ⟨us,z⟩ l r=>.tup ⟨us,rp_keep hd z isDT_pT⟩ l (RDs.rp hd hc r)
  | _,_,.lst s l r=>.lst (rp_keep hd s (by rintro (z | ⟨o,z⟩) <;> cases z)) l (RDs.rp hd hc r)
  | _, _, .arr s l r => .arr (by
      rcases s with (s | ⟨o,s⟩) | s
      · exact .inl (.inl (rp_keep hd s (by rintro (z | ⟨o,z⟩) <;> cases z)))
      · exact .inl (.inr ⟨o,rp_keep hd s (by rintro (z | ⟨o,z⟩) <;> cases z)⟩)
      · exact .inr s) l (RDs.rp hd hc r)
  | _, _, .kt s l r => .kt (by
      rcases s with (s | ⟨o,s⟩) | s
      · exact .inl (.inl (rp_keep hd s (by rintro (z | ⟨o,z⟩) <;> cases z)))
      · exact .inl (.inr ⟨o,rp_keep hd s (by rintro (z | ⟨o,z⟩) <;> cases z)⟩)
      · exact .inr s) l (RDs.rp hd hc r)
  | _,_,.dK s l r=>.dK (rp_keep hd s (by rintro (z | ⟨o,z⟩) <;> cases z)) l (RDs.rp hd hc r)
  | _, _, @RD.dT _ _ a kvs' _ s l r => .dT (by
      by_cases z:a=d
      · subst z
        have e:kvs'=kvs:=by
          rcases s with s | ⟨o,s⟩
          · rcases hd _ s with q | ⟨o',q⟩
            · cases q; rfl
            · cases q
          · rcases hd _ s with q | ⟨o',q⟩
            · cases q
            · cases q; rfl
        subst e
        rcases s with s | ⟨o,s⟩
        · exact hc.rd (rp_at s)
        · exact hc.rd (rp_at s)
      · exact s.imp (fun s=>by rw [rp_ne z]; exact s) fun ⟨o,s⟩=>⟨o,by rw [rp_ne z]; exact s⟩) l (RDs.rp hd hc r)
  | _,_,.adr a=>.adr a
  | _,_,.lnk a=>.lnk a
  | _,_,.exc s=>.exc (rp_keep hd s (by unfold XO; rintro (z | ⟨o,z⟩) <;> cases z))
theorem RDs.rp {K:Frag} {G:Hp} {d:Addr} {c:HO} {kvs:List (List Key×V)} (hd:∀ u,G d=some u→IsDT kvs u) (hc:IsDT kvs c):∀ {vs:List V} {xs:List D},RDs K G vs xs→RDs K (Hr.rp d c G) vs xs
  | _,_,.nil=>.nil
  | _,_,.cons a b=>.cons (RD.rp hd hc a) (RDs.rp hd hc b)
end
mutual
theorem OW.rp {K:Frag} {G H:Hp} {d:Addr} {c:HO} {kvs:List (List Key×V)} (hd:∀ u,G d=some u→IsDT kvs u) (hc:IsDT kvs c):∀ {v:V} {x:D} {t:OT} {fp:List Addr},(∀ a∈fp,a≠d)→OW K G H v x t fp→OW K (Hr.rp d c G) (Hr.rp d c H) v x t fp
  | _,_,_,_,_,.fz r=>.fz (r.rp hd hc)
  | _,_,_,_,k,.ol h l r=>.ol (by rw [rp_ne (k _ (List.mem_cons_self ..))]; exact h) l (OWs.rp hd hc (fun a m=>k a (List.mem_cons_of_mem _ m)) r)
  | _,_,_,_,k,.odK h l r=>.odK (by rw [rp_ne (k _ (List.mem_cons_self ..))]; exact h) l (OWs.rp hd hc (fun a m=>k a (List.mem_cons_of_mem _ m)) r)
  | _,_,_,_,k,.odT h l r=>.odT (by rw [rp_ne (k _ (List.mem_cons_self ..))]; exact h) l (OWs.rp hd hc (fun a m=>k a (List.mem_cons_of_mem _ m)) r)
  | _,_,_,_,k,.ot ⟨us,z⟩ l e1 e2 e3 q o=>.ot ⟨us,rp_keep hd z isDT_pT⟩ l e1 e2 e3 (fun i v d n x y=>(q i v d n x y).rp hd hc) (OW.rp hd hc k o)
theorem OWs.rp {K:Frag} {G H:Hp} {d:Addr} {c:HO} {kvs:List (List Key×V)} (hd:∀ u,G d=some u→IsDT kvs u) (hc:IsDT kvs c):∀ {vs:List V} {xs:List D} {t:OT} {fp:List Addr},(∀ a∈fp,a≠d)→OWs K G H vs xs t fp→OWs K (Hr.rp d c G) (Hr.rp d c H) vs xs t fp
  | _,_,_,_,_,.nil=>.nil
  | _,_,_,_,k,.cons a b=>.cons (OW.rp hd hc (fun z m=>k z (List.mem_append_left _ m)) a) (OWs.rp hd hc (fun z m=>k z (List.mem_append_right _ m)) b)
end
def Base.re (B:Base) (H0 G0:Hp):Base:=⟨H0,G0,B.O,B.pr⟩
theorem Cel.rp {H:Hp} {d b:Addr} {c:HO} (h:b≠d):Cel (Hr.rp d c H) b↔Cel H b:=by unfold Cel; rw [rp_ne h]
theorem Cel.upd {H:Hp} {d b:Addr} {c:HO} (h:b≠d):Cel (L2.upd H d c) b↔Cel H b:=by unfold Cel; rw [upd_ne h]
section
variable {K:Frag} {B:Base} {Γ:Ow} {s:En} {G H:Hp} {σ:St} {d:Addr} {c u:HO} {kvs:List (List Key×V)}
theorem Obs.rp {H0 G0:Hp} (o:Obs B G H σ) (hd:G d=some u) (hu:IsDT kvs u) (hH:Sub G H) (h0:∀ b,b≠d→B.H0 b=none→H0 b=none):Obs (B.re H0 G0) (Hr.rp d c G) (Hr.rp d c H) σ:=by
  obtain ⟨α,inj,r⟩:=o
  refine ⟨α,inj,fun k od e=>?_⟩
  have q:=r k od e
  refine ⟨q.pr,q.ad,q.rt,q.nm,q.al,q.fld,fun hl lv=>?_⟩
  obtain ⟨dx,fs,h1,h2,h3,h4,h5,h6⟩:=q.ins hl lv
  have ne:α k≠d:=fun z=>by
    rw [z,hH _ _ hd] at h1
    cases h1
    rcases hu with z | ⟨o,z⟩ <;> cases z
  exact ⟨dx,fs,by rw [rp_ne ne]; exact h1,h2,h3,h4,fun ho=>⟨by rw [rp_ne ne]; exact (h5 ho).1,h0 _ ne (h5 ho).2⟩,fun ho=>by rw [rp_ne ne]; exact h6 ho⟩
theorem Rel.lock (r:Rel K B Γ s G σ H) (hd:G d=some u) (hu:IsDT kvs u) (hc:IsDT kvs c):Rel K (B.re (upd B.H0 d c) (upd B.G0 d c)) Γ s (Hr.rp d c G) σ (Hr.rp d c H):=by
  obtain ⟨φ,sl,hf⟩:=r.sl
  have hd':∀ x,G d=some x→IsDT kvs x:=fun x e=>by rw [hd] at e; cases e; exact hu
  have ne:∀ i a,a∈φ i→a≠d:=fun i a m z=>by
    have:=(sl.ok i a m).2
    rw [z,hd] at this; cases this
  refine ⟨r.len,⟨φ,⟨fun i x e=>?_,sl.nd,sl.dj,fun i a m=>?_⟩,fun i a m=>?_⟩,⟨kp_lock r.hH.kp (r.GH _ _ hd) hu.pl hc.pl,fun p hp=>rp_tab (fun x e=>by rw [r.GH _ _ hd] at e; cases e; exact hu.pl) (r.hH.tk p hp)⟩,fun b o e=>?_,rp_sub r.GH hc.pl,fun a h1 h2=>?_,r.ob.rp hd hu r.GH fun b hb q=>by rw [upd_ne hb]; exact q⟩
  · obtain ⟨v,e1,ow⟩:=sl.at_ i x e
    exact ⟨v,e1,ow.rp hd' hc (ne i)⟩
  · obtain ⟨h1,h2⟩:=sl.ok i a m
    exact ⟨(Cel.rp (ne i a m)).mpr h1,by rw [rp_ne (ne i a m)]; exact h2⟩
  · show upd B.H0 d c a=none
    rw [upd_ne (ne i a m)]; exact hf i a m
  · by_cases z:b=d
    · subst z
      rw [show (B.re (upd B.H0 b c) (upd B.G0 b c)).G0 b=some c from upd_same] at e
      cases e
      exact rp_at hd
    · have e:upd B.G0 d c b=some o:=e
      rw [upd_ne z] at e
      rw [rp_ne z]; exact r.hG _ _ e
  · by_cases z:a=d
    · subst z
      rw [show (B.re (upd B.H0 a c) (upd B.G0 a c)).G0 a=some c from upd_same] at h1
      cases h1
    · have h1:upd B.G0 d c a=none:=h1
      rw [upd_ne z] at h1
      rw [rp_ne z]
      exact r.fr a h1 ((Cel.upd (c:=c) z).mp h2)
structure LkOk (B:Base) (d:Addr) (u:HO):Prop where
  h:∀ x,B.H0 d=some x→x=u
  g:∀ x,B.G0 d=some x→x=u
  f:B.G0 d=none→B.H0 d=none
theorem Rel.free {s':En} {Γ':Ow} {σ':St} {G' H':Hp} (l:LkOk B d u) (hu:IsDT kvs u) (hc:IsDT kvs c) (r:Rel K (B.re (upd B.H0 d c) (upd B.G0 d c)) Γ' s' G' σ' H'):G' d=some c∧H' d=some c∧Rel K B Γ' s' (Hr.rp d u G') σ' (Hr.rp d u H'):=by
  have gd:G' d=some c:=r.hG _ _ upd_same
  have hd:=r.GH _ _ gd
  obtain ⟨φ,sl,hf⟩:=r.sl
  have hd':∀ x,G' d=some x→IsDT kvs x:=fun x e=>by rw [gd] at e; cases e; exact hc
  have ne:∀ i a,a∈φ i→a≠d:=fun i a m z=>by
    have:=(sl.ok i a m).2
    rw [z,gd] at this; cases this
  refine ⟨gd,hd,r.len,⟨φ,⟨fun i x e=>?_,sl.nd,sl.dj,fun i a m=>?_⟩,fun i a m=>?_⟩,⟨kp_free r.hH.kp hc.pl hu.pl l.h,fun p hp=>rp_tab (fun x e=>by rw [hd] at e; cases e; exact hc.pl) (r.hH.tk p hp)⟩,fun b o e=>?_,rp_sub r.GH hu.pl,fun a h1 h2=>?_,?_⟩
  · obtain ⟨v,e1,ow⟩:=sl.at_ i x e
    exact ⟨v,e1,ow.rp hd' hu (ne i)⟩
  · obtain ⟨h1,h2⟩:=sl.ok i a m
    exact ⟨(Cel.rp (ne i a m)).mpr h1,by rw [rp_ne (ne i a m)]; exact h2⟩
  · have q:upd B.H0 d c a=none:=hf i a m
    rw [upd_ne (ne i a m)] at q; exact q
  · by_cases z:b=d
    · subst z
      rw [l.g _ e]; exact rp_at gd
    · rw [rp_ne z]
      exact r.hG b o (by show upd B.G0 d c b=_; rw [upd_ne z]; exact e)
  · by_cases z:a=d
    · subst z
      exact absurd (l.f h1) h2.ne
    · rw [rp_ne z]
      exact r.fr a (by show upd B.G0 d c a=_; rw [upd_ne z]; exact h1) ((Cel.upd (c:=c) z).mpr h2)
  · have := r.ob.rp (B := B.re (upd B.H0 d c) (upd B.G0 d c)) (H0 := B.H0) (G0 := B.G0) (c := u) gd hc r.GH fun b hb q => by
      have q:upd B.H0 d c b=none:=q
      rwa [upd_ne hb] at q
    exact this
theorem Grow.free {G' H':Hp} (hu:IsDT kvs u) (hc:IsDT kvs c) (hd:G d=some u) (hH:Sub G H) (g:Grow K (Hr.rp d c G) (Hr.rp d c H) G' H'):Grow K G H (Hr.rp d u G') (Hr.rp d u H'):=by
  have e1:∀ x,G d=some x→x=u:=fun x e=>by rw [hd] at e; cases e; rfl
  have e2:∀ x,H d=some x→x=u:=fun x e=>by rw [hH _ _ hd] at e; cases e; rfl
  have q1:=rp_same (d:=d) (c:=u) g.g
  have q2:=rp_kp (d:=d) (c:=u) g.h hu.pl (rp_at (hH _ _ hd)) hc.pl
  rw [rp_rp,rp_id e1] at q1
  rw [rp_rp,rp_id e2] at q2
  refine ⟨q1,q2,rp_sub g.gh hu.pl,fun a h1 h2=>?_⟩
  have ne:a≠d:=fun z=>by rw [z,hd] at h1; cases h1
  rw [rp_ne ne]
  exact g.nw a (rp_none.mpr h1) ((Cel.rp ne).mpr h2)
theorem New.free {G' H' A:Hp} {v:V} {x:D} {t:OT} (hc:IsDT kvs c) (hu:IsDT kvs u) (gd:G' d=some c) (n:New K A G' H' v x t):New K A (Hr.rp d u G') (Hr.rp d u H') v x t:=by
  obtain ⟨fq,ow,nd,ok⟩:=n
  have ne:∀ a∈fq,a≠d:=fun a m z=>by
    have:=(ok a m).2.2
    rw [z,gd] at this; cases this
  exact ⟨fq,ow.rp (fun x e=>by rw [gd] at e; cases e; exact hc) hu ne,nd,fun a m=>⟨(ok a m).1,(Cel.rp (ne a m)).mpr (ok a m).2.1,by rw [rp_ne (ne a m)]; exact (ok a m).2.2⟩⟩
theorem Tmp.free {s':En} {Γ':Ow} {σ':St} {G' H':Hp} {v:V} {x:D} {t:OT} (l:LkOk B d u) (hu:IsDT kvs u) (hc:IsDT kvs c) (r:Tmp K (B.re (upd B.H0 d c) (upd B.G0 d c)) Γ' s' G' σ' H' v x t):G' d=some c∧H' d=some c∧Tmp K B Γ' s' (Hr.rp d u G') σ' (Hr.rp d u H') v x t:=by
  obtain ⟨gd,hd,rl⟩:=r.rel.free l hu hc
  obtain ⟨φ,fq,sl,hf,ow,nd,dj,ok⟩:=r.ow
  have hd':∀ x,G' d=some x→IsDT kvs x:=fun x e=>by rw [gd] at e; cases e; exact hc
  have ne:∀ i a,a∈φ i→a≠d:=fun i a m z=>by
    have:=(sl.ok i a m).2
    rw [z,gd] at this; cases this
  have nq:∀ a∈fq,a≠d:=fun a m z=>by
    have:=(ok a m).2.1
    rw [z,gd] at this; cases this
  refine ⟨gd,hd,rl,φ,fq,⟨fun i x e=>?_,sl.nd,sl.dj,fun i a m=>?_⟩,fun i a m=>?_,ow.rp hd' hu nq,nd,dj,fun a m=>⟨(Cel.rp (nq a m)).mpr (ok a m).1,by rw [rp_ne (nq a m)]; exact (ok a m).2.1,?_⟩⟩
  · obtain ⟨v,e1,ow⟩:=sl.at_ i x e
    exact ⟨v,e1,ow.rp hd' hu (ne i)⟩
  · obtain ⟨h1,h2⟩:=sl.ok i a m
    exact ⟨(Cel.rp (ne i a m)).mpr h1,by rw [rp_ne (ne i a m)]; exact h2⟩
  · have q:upd B.H0 d c a=none:=hf i a m
    rw [upd_ne (ne i a m)] at q; exact q
  · have q:upd B.H0 d c a=none:=(ok a m).2.2
    rw [upd_ne (nq a m)] at q; exact q
end
def dKeysD:D→R (List D)
  | .dic true ks _=>if ks.all kOkT=true then .ok (ks.map kDt) else .stuck
  | _=>.stuck
def eKeys (i:Nat):En→R (List D):=fun s=>eVar i s >>= dKeysD
theorem it_keys {K:Frag} {d:Addr} {od:Obj} {kvs:List (List Key×V)} {G:Hp} (hd:G d=some (.frz od (.dT kvs))) (l:kvs.length≤sizeLine) (hk:(kvs.map fun p=>p.1).all kOkT=true):ItOk K (Itkt d od kvs) ((kvs.map fun p=>p.1).map kDt) G G:=by
  have hl:((kvs.map fun p=>p.1).map kDt).length=kvs.length:=by rw [List.length_map,List.length_map]
  refine ⟨by rw [hl]; exact l,fun G1 H1 g gh _=>⟨gh _ _ (g _ _ hd),by rw [hl]; exact Nat.le_refl _⟩,fun i x G1 H1 e g gh _=>⟨gh _ _ (g _ _ hd),?_⟩,fun i x G1 H1 y H2 e g gh _ yl=>?_⟩
  · have:=(List.getElem?_eq_some_iff.mp e).1
    rw [hl] at this; exact this
  · obtain ⟨rfl,k,v,q,hkv,rfl,hq⟩:=yl
    have e2:x=kDt k:=by
      rw [List.getElem?_map,List.getElem?_map,hkv] at e
      cases e; rfl
    subst e2
    have hk1:kOkT k=true:=List.all_eq_true.mp hk k (List.mem_map.mpr ⟨_,List.mem_of_getElem? hkv,rfl⟩)
    obtain ⟨j1,j2,j3⟩:=join_tup gh (bs:=[q]) fun b m=>by
      have:b=q:=by simpa using m
      subst this; exact ⟨_,hq⟩
    exact ⟨join G1 H2 [q],⟨j1,.refl _,j2,j3⟩,kDt_rd hk1 (by rw [join_in (by simp)]; exact hq)⟩
theorem PE.or {X:Cx} {e:Expr} {t t':TE} (h:PE X e t) (h':PE X e t'):PE X e (fun σ H Q=>t σ H Q∨t' σ H Q):=⟨fun pins s σ H Q I q=>q.elim (h.run pins s σ H Q I) (h'.run pins s σ H Q I)⟩
theorem PE.ex {X:Cx} {e:Expr} {α:Type} {t:α→TE} (h:∀ a,PE X e (t a)):PE X e (fun σ H Q=>∃ a,t a σ H Q):=⟨fun pins s σ H Q I ⟨a,q⟩=>(h a).run pins s σ H Q I q⟩
theorem PS.or {X:Cx} {st:Stmt} {t t':TS} (h:PS X st t) (h':PS X st t'):PS X st (fun D σ H=>t D σ H∨t' D σ H):=⟨fun pins s σ H D I q=>q.elim (h.run pins s σ H D I) (h'.run pins s σ H D I)⟩
theorem PS.ex {X:Cx} {st:Stmt} {α:Type} {t:α→TS} (h:∀ a,PS X st (t a)):PS X st (fun D σ H=>∃ a,t a D σ H):=⟨fun pins s σ H D I ⟨a,q⟩=>(h a).run pins s σ H D I q⟩
section
variable {X:Cx} {B:Base} {W:WX} {Γ Γn:Ow} {o:OC} {pos:Pos}
theorem keys_at {s:En} {G H:Hp} {σ:St} {i:Nat} {ds:List D} (rl:Rel X.K B Γ s G σ H) (ho:oty Γ i=.fz) (e:eKeys i s=.ok ds):∃ a kvs,σ[i]?=some (some (.ref a))∧Rd G a (.dT kvs)∧kvs.length≤sizeLine∧(kvs.map fun p=>p.1).all kOkT=true∧ds=(kvs.map fun p=>p.1).map kDt:=by
  unfold eKeys eVar at e
  cases q:s[i]? with
  | none=>rw [q] at e; cases e
  | some od =>
    cases od with
    | none=>rw [q] at e; cases e
    | some x =>
      rw [q] at e
      have e:dKeysD x=.ok ds:=e
      obtain ⟨v,ev,_,rd⟩:=rl.now q
      have rd:=rd ho
      unfold dKeysD at e
      split at e
      · split at e
        · rename_i hk
          cases e
          cases rd with
          | dT s l r=>exact ⟨_,_,ev,s,l,hk,rfl⟩
        · cases e
      · cases e
theorem eKeys_noexc (i:Nat) (s:En) (c:Str):eKeys i s≠.exc c:=by
  unfold eKeys eVar
  cases q:s[i]? with
  | none=>exact fun z=>nomatch z
  | some od =>
    cases od with
    | none=>exact fun z=>nomatch z
    | some x =>
      show dKeysD x≠_
      unfold dKeysD
      split
      · split <;> exact fun z=>nomatch z
      · exact fun z=>nomatch z
theorem lcd_read {vs : List Nat} {ft : FT} {i : Nat} {gt : En → R Bool} {fe : En → R D} {σ : St} {H : Hp} {Q : VK} (hw : ∀ i ∈ vs, B.pr i = false) (ho : oty Γ i = .fz) (k : tOw X.K B W Γ (.own .fz) (eLc vs ft (eKeys i) gt fe) σ H Q) :
    (∃ d u,H d=some u∧Mut (some u)∧∀ od,∃ h0 g0,tLc (iKeys (tVarR X.K (B.re h0 g0) Γ i)) (tTg X.K (B.re h0 g0) Γ vs ft) (tTe X.K (B.re h0 g0) W0 Γ gt) (tV X.K (B.re h0 g0) W0 Γ fe) vs σ (upd H d (.frz od u)) fun v H'=>H' d=some (.frz od u)∧Q v (upd H' d u)) ∨
    ∃ h0 g0,tLc (iKeys (tVarR X.K (B.re h0 g0) Γ i)) (tTg X.K (B.re h0 g0) Γ vs ft) (tTe X.K (B.re h0 g0) W0 Γ gt) (tV X.K (B.re h0 g0) W0 Γ fe) vs σ H Q:=by
  obtain ⟨s,G,rl,k⟩:=k
  unfold eLc at k
  cases e:eKeys i s with
  | exc c=>exact absurd e (eKeys_noexc i s c)
  | stuck=>rw [e] at k; exact k.elim
  | ok ds =>
    rw [e] at k
    obtain ⟨a,kvs,ev,hrd,l,hk,rfl⟩:=keys_at rl ho e
    have k:=k.bind
    obtain ⟨out,eo,k⟩:=Done.ok (Done.bind k) (lcA_noexc (lcT_noexc _ _ _ _) _ _)
    rcases hrd with hd | ⟨od,hd⟩
    · refine .inl ⟨a,.dT kvs,rl.GH _ _ hd,True.intro,fun od=>⟨upd B.H0 a (.frz od (.dT kvs)),upd B.G0 a (.frz od (.dT kvs)),?_⟩⟩
      have hu:IsDT kvs (.dT kvs):=.inl rfl
      have hcc:IsDT kvs (.frz od (.dT kvs)):=.inr ⟨od,rfl⟩
      have r2:=rl.lock hd hu hcc
      rw [← rp_upd (rl.GH _ _ hd)]
      refine ⟨⟨s,_,r2⟩,.ref a,ev,a,od,rfl,.inr ⟨kvs,rp_at (rl.GH _ _ hd),fun D' hD=>?_⟩⟩
      refine lc_ok (B:=B.re (upd B.H0 a (.frz od (.dT kvs))) (upd B.G0 a (.frz od (.dT kvs)))) (Q:=fun v H'=>H' a=some (.frz od (.dT kvs))∧Q v (upd H' a (.dT kvs))) hw r2 ((it_keys (rp_at hd) l hk).wide r2.GH) hD eo fun G2 H2 g2 n=>?_
      have gd:G2 a=some (.frz od (.dT kvs)):=g2.g _ _ (rp_at hd)
      have hd2:H2 a=some (.frz od (.dT kvs)):=g2.h _ _ (rp_at (rl.GH _ _ hd)) rfl
      refine ⟨hd2,?_⟩
      rw [← rp_upd hd2]
      refine k (.ref D') _ _ (g2.free hu hcc hd rl.GH) ?_
      obtain ⟨fq,ow,nd,okq⟩:=New.free hcc hu gd n
      exact ⟨fq,ow,nd,fun b m=>⟨rp_none.mp (okq b m).1,(okq b m).2⟩⟩
    · refine .inr ⟨B.H0,B.G0,⟨s,G,rl⟩,.ref a,ev,a,od,rfl,.inr ⟨kvs,rl.GH _ _ hd,fun D' hD=>?_⟩⟩
      exact lc_ok hw rl ((it_keys hd l hk).wide rl.GH) hD eo fun G2 H2 g2 n=>k _ G2 H2 g2 n
structure LdOk (X:Cx) (B:Base) (Γ:Ow) (own:List (Str×Nat)) (i:Nat) (ft:FT) (gt:En→R Bool) (fe:En→R D) (tg it elt:Expr) (ifs:List Expr) (scope:Scope):Prop where
  st:notSet it=true
  hw:∀ i∈own.map (·.2),B.pr i=false
  ho:oty Γ i=.fz
  hb:∀ h0 g0,PE X it (tVarR X.K (B.re h0 g0) Γ i)
  ok:BlkOk X.N X.env.scope scope own
  hg:∀ (h0 g0:Hp) (s:Shared) (H:Hp) (C:Addr) (cl:List (Str×Addr)) (fp:List Addr),EG (X.blk s H scope (compEnvC scope cl C X.env) fp) (B.re h0 g0) Γ (own.map (·.2)) tg ft
  ht:∀ (h0 g0:Hp) (s:Shared) (H:Hp) (C:Addr) (cl:List (Str×Addr)) (fp:List Addr),ETs (X.blk s H scope (compEnvC scope cl C X.env) fp) (B.re h0 g0) W0 Γ ifs gt
  he:∀ (h0 g0:Hp) (s:Shared) (H:Hp) (C:Addr) (cl:List (Str×Addr)) (fp:List Addr),EV (X.blk s H scope (compEnvC scope cl C X.env) fp) (B.re h0 g0) W0 Γ elt fe
theorem eo_lcd {elt tg it : Expr} {ifs : List Expr} {scope : Scope} {own : List (Str × Nat)} {ft : FT} {i : Nat} {gt : En → R Bool} {fe : En → R D} (hc : X.calm = true) (hN : X.N.Nodup) (L : LdOk X B Γ own i ft gt fe tg it elt ifs scope) :
    EO X B W Γ (.own .fz) (.ListComp elt [⟨tg,it,ifs,0⟩] scope pos) (eLc (own.map (·.2)) ft (eKeys i) gt fe):=by
  have P:PE X (.ListComp elt [⟨tg,it,ifs,0⟩] scope pos) (fun σ H Q=>∃ h0,∃ g0,tLc (iKeys (tVarR X.K (B.re h0 g0) Γ i)) (tTg X.K (B.re h0 g0) Γ (own.map (·.2)) ft) (tTe X.K (B.re h0 g0) W0 Γ gt) (tV X.K (B.re h0 g0) W0 Γ fe) (own.map (·.2)) σ H Q):=PE.ex fun h0:Hp=>PE.ex fun g0:Hp=>pe_lc (pos:=pos) hc hN (pi_keys (L.hb h0 g0)) L.ok (L.hg h0 g0) (L.ht h0 g0) (L.he h0 g0) (folded_ok L.st X.env)
  exact PE.imp (PE.or (pe_lock P) P) fun σ H Q k=>lcd_read L.hw L.ho k
theorem sv_setLcd {j : Nat} {y : Str} {py spos : Pos} {elt tg it : Expr} {ifs : List Expr} {scope : Scope} {own : List (Str × Nat)} {ft : FT} {i : Nat} {gt : En → R Bool} {fe : En → R D} {Γ1 : Ow}
    (hp:B.pr j=false) (lx:leO Γ o.x) (ht:oty Γ1 j=.own .fz) (hΓ:∀ l,l≠j→oty Γ1 l=oty Γ l)
    (hc:X.calm=true) (hN:X.N.Nodup) (hy:X.N[j]?=some y) (hyl:X.env.scope.names.lookup y=some .local) (hsw:swapsWith (.ListComp elt [⟨tg,it,ifs,0⟩] scope pos) (some (.Name y py)) spos.line X.env=pure true)
    (L:LdOk X B Γ own i ft gt fe tg it elt ifs scope) :
    SV X B W Γ Γ1 o (.Assign [.Name y py] (.ListComp elt [⟨tg,it,ifs,0⟩] scope pos) spos) (sAsg (ftName j) (eLc (own.map (·.2)) ft (eKeys i) gt fe)):=by
  have P:PS X (.Assign [.Name y py] (.ListComp elt [⟨tg,it,ifs,0⟩] scope pos) spos) (fun Dn σ H=>∃ h0,∃ g0,tAsg (tLc (iKeys (tVarR X.K (B.re h0 g0) Γ i)) (tTg X.K (B.re h0 g0) Γ (own.map (·.2)) ft) (tTe X.K (B.re h0 g0) W0 Γ gt) (tV X.K (B.re h0 g0) W0 Γ fe) (own.map (·.2))) (gName j) Dn σ H):=PS.ex fun h0:Hp=>PS.ex fun g0:Hp=>ps_setLc hc hN hy hyl hsw (pi_keys (L.hb h0 g0)) L.ok (L.hg h0 g0) (L.ht h0 g0) (L.he h0 g0) (folded_ok L.st X.env)
  exact PS.imp (PS.or (ps_lock P) P) fun Dn σ H k=>lcd_read L.hw L.ho (own_read hp lx ht hΓ Dn σ H k)
def Out.noex:Out→Out
  | .ex _ _=>.stuck
  | r=>r
theorem Fin.free {G : Hp} {Dn : Ends} {d : Addr} {od : Obj} {u : HO} {kvs : List (List Key × V)} {r : Out} (l : LkOk B d u) (hd : G d = some u) (hu : u = .dT kvs) (k : Fin X.K B W Γn o G Dn r.noex) :
    Fin X.K (B.re (upd B.H0 d (.frz od u)) (upd B.G0 d (.frz od u))) W0 Γn o (Hr.rp d (.frz od u) G) ⟨fun σ' H'=>H' d=some (.frz od u)∧Dn.nx σ' (upd H' d u),fun v H'=>H' d=some (.frz od u)∧Dn.rt v (upd H' d u),fun σ' H'=>H' d=some (.frz od u)∧Dn.bk σ' (upd H' d u),fun σ' H'=>H' d=some (.frz od u)∧Dn.ct σ' (upd H' d u)⟩ r:=by
  have iu:IsDT kvs u:=.inl hu
  have ic:IsDT kvs (.frz od u):=.inr ⟨od,by rw [hu]⟩
  have gg:∀ {G':Hp},Same (Hr.rp d (.frz od u) G) G'→Same G (Hr.rp d u G'):=fun {G'} g=>by
    have:=rp_same (d:=d) (c:=u) g
    rw [rp_rp,rp_id fun x e=>by rw [hd] at e; cases e; rfl] at this
    exact this
  cases r with
  | nx s' =>
    intro σ' G' H' g rl
    obtain ⟨_,h2,r2⟩:=rl.free l iu ic
    exact ⟨h2,by rw [← rp_upd h2]; exact k σ' _ _ (gg g) r2⟩
  | bk s' =>
    intro σ' G' H' g rl
    obtain ⟨_,h2,r2⟩:=rl.free l iu ic
    exact ⟨h2,by rw [← rp_upd h2]; exact k σ' _ _ (gg g) r2⟩
  | ct s' =>
    intro σ' G' H' g rl
    obtain ⟨_,h2,r2⟩:=rl.free l iu ic
    exact ⟨h2,by rw [← rp_upd h2]; exact k σ' _ _ (gg g) r2⟩
  | ex c s'=>exact k.elim
  | stuck=>exact k.elim
  | rm x s' =>
    intro v σ' G' H' g tm
    obtain ⟨_,h2,r2⟩:=tm.free l iu ic
    exact ⟨h2,by rw [← rp_upd h2]; exact k v σ' _ _ (gg g) r2⟩
  | rt x =>
    intro v G' H' g n
    have gd:G' d=some (.frz od u):=g.g _ _ upd_same
    have h2:H' d=some (.frz od u):=g.h _ _ upd_same rfl
    refine ⟨h2,?_⟩
    rw [← rp_upd h2]
    refine k v _ _ ⟨fun b x e=>?_,kp_free g.h rfl iu.pl l.h,rp_sub g.gh iu.pl,fun a h1 h3=>?_⟩ ?_
    · by_cases z:b=d
      · subst z; rw [l.g _ e]; exact rp_at gd
      · rw [rp_ne z]; exact g.g _ _ (by show upd B.G0 d _ b=_; rw [upd_ne z]; exact e)
    · by_cases z:a=d
      · subst z; exact absurd (l.f h1) h3.ne
      · rw [rp_ne z]
        exact g.nw a (by show upd B.G0 d _ a=_; rw [upd_ne z]; exact h1) ((Cel.upd z).mpr h3)
    · obtain ⟨fq,ow,nd,okq⟩:=New.free ic iu gd n
      refine ⟨fq,ow,nd,fun b m=>⟨?_,(okq b m).2⟩⟩
      have q:upd B.H0 d (.frz od u) b=none:=(okq b m).1
      by_cases z:b=d
      · subst z; rw [upd_same] at q; cases q
      · rwa [upd_ne z] at q
theorem Fin.w0 {G:Hp} {Dn:Ends} {r:Out} (k:Fin X.K B W Γn o G Dn r.noex):Fin X.K B W0 Γn o G Dn r:=by
  cases r with
  | ex c s'=>exact k.elim
  | _=>exact k
end
end Hr
end
section
namespace Hr
open PySem PySem.Spec L2 PyProof.Rows
section
variable {X:Cx} {B:Base} {W:WX} {Γ Γ1 Γn:Ow} {o:OC} {e a b:Expr} {fa fe:En→R D} {pos:Pos}
end
end Hr
end
section
namespace Hr
open PySem PySem.Spec L2 PyProof.Rows
section
variable {X:Cx} {B:Base} {W:WX} {Γ Γ1 Γ2 Γ3:Ow} {o:OC} {a b c e:Expr} {es:List Expr} {fa fb fc:En→R D} {fs:En→R (List D)} {g:En→MU} {pos:Pos}
end
end Hr
end
section
namespace Hr
open PySem PySem.Spec L2 PyProof.Rows
section
variable {X:Cx} {B:Base} {W:WX} {Γ:Ow} {a:Expr} {es:List Expr} {fs:En→R (List D)} {pos:Pos}
end
end Hr
end
section
namespace Hr
open PySem PySem.Spec L2 PyProof.Rows
section
variable {X:Cx}
end
end Hr
end
section
namespace Hr
open PySem PySem.Spec L2 PyProof.Rows
section
variable {X:Cx} {B:Base} {W:WX} {Γ:Ow} {a:Expr} {fa:En→R D} {p pos:Pos}
structure El where
  k:List Key
  b:Addr
  p:Addr
  l:Addr
structure Dk (K:Frag) (G1 H1 G H:Hp) (D':Addr) (ks:List (List Key)) (i:Nat) (E:List El):Prop where
  g:Grow K G1 H1 G H
  gD:G D'=none
  hD:H D'=some (.lst (E.map fun e=>V.ref e.p))
  len:E.length=i
  ks:E.map El.k=ks.take i
  at_:∀ e∈E,H e.b=some (.tup (e.k.map kV))∧H e.p=some (.tup [.ref e.b,.ref e.l])∧H e.l=some (.lst [])∧H1 e.l=none∧G e.l=none∧e.l≠D'
  nd:(E.map El.l).Nodup
end
end Hr
end
section
namespace Hr
open PySem PySem.Spec L2
section
open PyProof.Rows
variable {X:Cx}
variable {B:Base} {W:WX} {Γ:Ow} {o:OC} {e:Expr} {fe:En→R D} {pos:Pos}
end
end Hr
end
section
namespace Hr
open PySem PySem.Spec L2 PyProof.Rows
section
variable {X:Cx} {B:Base} {W:WX} {Γ:Ow} {a b c:Expr} {fa fb fc:En→R D} {p p2 pos apos cpos:Pos}
end
end Hr
end
section
namespace Hr
open PySem PySem.Spec L2
def noTb (H:Hp):Hp:=fun b=>match H b with
  | some o=>if isTb o=true then none else some o
  | none=>none
theorem noTb_at {H:Hp} {b:Addr} {o:HO} (h:H b=some o) (n:isTb o=false):noTb H b=some o:=by
  unfold noTb
  rw [h]
  simp [n]
mutual
theorem RD.noTb {K:Frag} {H:Hp}:∀ {v:V} {d:D},RD K H v d→RD K (noTb H) v d
  | _,_,.non=>.non
  | _,_,.bl b=>.bl b
  | _,_,.int i=>.int i
  | _,_,.str x a b=>.str x a b
  | _,_,.tup ⟨us,z⟩ l r=>.tup ⟨us,noTb_at z isTb_pT⟩ l (RDs.noTb r)
  | _,_,.lst s l r=>.lst (noTb_at s rfl) l (RDs.noTb r)
  | _,_,.arr s l r=>.arr (s.imp (fun q=>q.imp (fun e=>noTb_at e rfl) fun ⟨o,e⟩=>⟨o,noTb_at e rfl⟩) id) l (RDs.noTb r)
  | _,_,.kt s l r=>.kt (s.imp (fun q=>q.imp (fun e=>noTb_at e rfl) fun ⟨o,e⟩=>⟨o,noTb_at e rfl⟩) id) l (RDs.noTb r)
  | _,_,.dK s l r=>.dK (noTb_at s rfl) l (RDs.noTb r)
  | _,_,.dT s l r=>.dT (s.imp (fun e=>noTb_at e rfl) fun ⟨o,e⟩=>⟨o,noTb_at e rfl⟩) l (RDs.noTb r)
  | _,_,.exc s=>.exc (noTb_at s rfl)
  | _,_,.adr a=>.adr a
  | _,_,.lnk a=>.lnk a
theorem RDs.noTb {K:Frag} {H:Hp}:∀ {vs:List V} {ds:List D},RDs K H vs ds→RDs K (noTb H) vs ds
  | _,_,.nil=>.nil
  | _,_,.cons a b=>.cons (RD.noTb a) (RDs.noTb b)
end
section
variable {X:Cx} {B:Base} {W:WX} {Γ Γ1 Γn:Ow} {o:OC} {e a b c:Expr} {fa fb fc fe fk:En→R D} {pos p:Pos}
end
def dIntS:D→R D
  | .str x=>if x.length≤640 then (match PySem.intText? x with
    | some n=>.ok (.int n)
    | none=>.stuck) else .stuck
  | _=>.stuck
theorem dIntS_noexc (x:D) (c:Str):dIntS x≠.exc c:=by
  unfold dIntS
  split
  · split
    · split <;> exact fun z=>nomatch z
    · exact fun z=>nomatch z
  · exact fun z=>nomatch z
theorem cd_intS {K:Frag}:CallD K (fun xs H Q=>∃ a n,xs=[.str a]∧PySem.intText? a=some n∧a.length≤640∧Q (.int n) H) (on1 dIntS) .fz:=calld1 fun x dx d G H Q e r hg k=>by
  unfold dIntS at hg
  split at hg
  · obtain ⟨rfl,_,_⟩:=r.str
    split at hg
    · rename_i hl
      split at hg
      · rename_i n hn
        cases hg
        exact ⟨_,n,rfl,hn,hl,k _ G H (.refl e) (.fz (.int n))⟩
      · cases hg
    · cases hg
  · cases hg
end Hr
end
section
namespace Hr
open PySem PySem.Spec L2 PyProof.Rows
section
variable {X:Cx} {pins:List (Addr×Obj)} {σ:L2.St} {H:Hp} {s:Shared}
structure LamOk (X:Cx):Prop where
  ex:∃ c P:Addr,X.env.code=.ref c∧LamX.TabB X.base X.mg c P∧(P,X.env.qual ++ "<lambda>")∈tabsK X.K∧∀ p∈tabsK X.K,p.1=P→p.2=X.env.qual ++ "<lambda>"
end
def eAct (i f:Nat) (r:R D):En→R D:=fun s=>match s[i]? with
  | some (some (.adr g))=>if g=f then r else .stuck
  | _=>.stuck
def both (G G1:Hp):Hp:=fun b=>match G b with
  | some o=>some o
  | none=>G1 b
def ActOk (X:Cx) (B:Base) (x:Str) (i:Nat) (t:OT) (f:Nat) (r:R D):Prop :=
  ∀ (pn:List (Addr×Obj)) (xe:Value→Shared→Prop) (W:WX),Takes (X.tr pn xe) W→∀ (Γ:Ow) (p1 p2:Pos),EO (X.tr pn xe) B W Γ t (.Call (.Name x p1) [] [] p2) (eAct i f r)
structure FokL (P:Program) (w:World) (K:Frag) (mg:Str→Option Value) (base:Heap) (x:Str) (t u:OT) (k:Nat) (ψ:R D→R D):Prop where
  glo:mg x=some (.ref (He.ga K x))
  kp:PySem.W.keepIn K (.ref (He.ga K x))=true
  ok:∃ (N:List Str) (a:Str) (pr:Nat→Bool) (pg:Arguments) (bg:List Stmt) (sg:Scope) (dV kV doc pm cdv ct oc:Value) (an od:Option Addr) (osl:Array (Option Value)),
    K.lookup (He.ga K x)=some ⟨oc,od,.func (PySem.W.fnOf x x pg bg sg dV kV doc pm an cdv ct),osl⟩∧PySem.W.codeIn K cdv x=true∧Binds K (PySem.W.fnOf x x pg bg sg dV kV doc pm an cdv ct) [a] []∧FnScope N [a] sg ∧
    N[0]?=some a∧Vis sg a∧(a == ("__debug__":Str))=false∧(a == ("__classdict__":Str))=false ∧
    ∀ (A:Around) (outer:List Env) (s:Shared) (H:Hp) (E:XK) (f:Addr) (G:Hp) (Q:VK) (r:R D),Room k (A.deeper (envOfC x sg s.heap.objs.size (He.ga K x) cdv))→Sub G H→TK K H →
      ActOk (cxOf (L2.CX P w) P w K mg base N x sg (He.ga K x) cdv A outer s H E) ⟨H,G,[],pr⟩ a 0 t f r →
      Done (ψ r) (fun d=>∀ v G' H',Grow K G H G' H'→New K H G' H' v d u→Q v H') (fun c=>∀ G' H',Grow K G H G' H'→E (clsV K c) none H') →
      ∃ tt,PSs (cxOf (L2.CX P w) P w K mg base N x sg (He.ga K x) cdv A outer s H E) bg tt∧tt { nx:=fun _ H'=>Q .non H',rt:=Q } (L2.start N [.ref f]) H
section
variable {X:Cx} {B:Base} {W:WX} {Γ:Ow} {body:Expr} {fb:En→R D} {scope:Scope} {params:Arguments} {lpos p pos:Pos}
end
end Hr
end
section
namespace Hr
open PySem PySem.Spec L2 PyProof.Rows
theorem inv_un {X:Cx} {xe:Value→Shared→Prop} {pins:List (Addr×Obj)} {σ:St} {H:Hp} {s:Shared} (I:Inv { X with xe:=xe } pins σ H s):Inv X pins σ H s :=
  ⟨⟨I.ok.mod,I.ok.kind,I.ok.glob,I.ok.blt,I.ok.above,I.ok.inj,I.ok.has,I.ok.cab,I.ok.hd,I.ok.frames,I.ok.stk,I.ok.exf,I.ok.bs,I.ok.bsz,I.ok.noex,I.ok.exfs,I.ok.funs,I.ok.frf⟩,I.os,I.bare,I.base,I.loc,I.cell,I.free,I.freeC,I.pin,I.hok,I.len⟩
section
variable {M:Model} {A:Around} {E:Value→Shared→Prop} {s:Shared} {env:Env} {outer:List Env} {base:Heap} {a L C:Addr} {Z:Obj→Prop}
end
section
variable {M:Model} {A:Around} {E:Value→Shared→Prop} {s:Shared} {env:Env}
end
abbrev blkX (X:Cx) (W:WX) (s:Shared) (H:Hp) (scope:Scope) (ce:Env) (fp:List Addr):Cx:={ X.blk s H scope ce fp with xe:=XE (X.blk s H scope ce fp) W }
theorem takesX {X:Cx} {W:WX} {s:Shared} {H:Hp} {scope:Scope} {ce:Env} {fp:List Addr}:Takes (blkX X W s H scope ce fp) W:=fun u s' ⟨a,B,sI,pins,σ,H',cls,d,e,I,nb,up,sky,na,os,ag,w⟩ =>
  ⟨a,B,sI,pins,σ,H',cls,d,e,inv_un I,nb,up,sky,na,os,ag,w⟩
section
variable {X:Cx}
end
section
variable {X:Cx} {B:Base} {W:WX} {Γ:Ow} {pos:Pos}
end
end Hr
end
section
namespace Hr
open PySem PySem.Spec L2 PyProof.Rows SrtO
section
variable {prog:Program} {w:World} {A:Around} {E:Value→Shared→Prop} {s:Shared} {a kS:Addr} {vs keys:List Value} {e e1:Nat} {P:PySem.Fin→Shared→Prop} {ltv:Value→Value→Bool}
structure KOut (ltv:Value→Value→Bool) (keys vs:List Value) (out:List Keyed):Prop where
  so:Srtd (lt2 ltv) out
  st:Stb (lt2 ltv) out (keys.zip vs)
end
section
variable {X:Cx} {pins:List (Addr×Obj)} {σ:L2.St} {H:Hp} {s:Shared}
theorem Vals.at_:∀ {xs:List V} {us:List Value} {j:Nat} {u:Value},Vals xs us→us[j]?=some u→∃ x,xs[j]?=some x∧RelV x u
  | _,_,_,_,.nil,h=>by simp at h
  | _,_,0,_,.cons r _,h=>by simp at h; subst h; exact ⟨_,rfl,r⟩
  | _,_,j + 1,_,.cons _ t,h=>by simpa using Vals.at_ (j:=j) t (by simpa using h)
theorem Vals.snoc {xs:List V} {us:List Value} {x:V} {u:Value} (h:Vals xs us) (r:RelV x u):Vals (xs ++ [x]) (us ++ [u]):=by
  induction h with
  | nil=>exact .cons r .nil
  | cons a t ih=>exact .cons a ih
theorem Vals.len {xs:List V} {us:List Value} (h:Vals xs us):xs.length=us.length:=by
  induction h with
  | nil=>rfl
  | cons a t ih=>rw [List.length_cons,List.length_cons,ih]
structure SkH (X:Cx) (pins:List (Addr×Obj)) (a kS:Addr):Prop where
  fa:∀ H:Hp,H a=none→FpOk X pins H a
  fk:∀ H:Hp,H kS=none→FpOk X pins H kS
  ne:kS≠a
theorem FpOk.more {b a:Addr} {o:Obj} (f:FpOk X pins H b) (ne:a≠b):FpOk X (pins ++ [(a,o)]) H b:=by
  obtain ⟨f0,f1,f2,f3,f4,f5⟩:=f
  refine ⟨f0,f1,f2,f3,f4,fun p hp=>?_⟩
  rcases List.mem_append.mp hp with z | z
  · exact f5 p (List.mem_append_left _ z)
  · rcases List.mem_append.mp z with z | z
    · exact f5 p (List.mem_append_right _ z)
    · rw [List.mem_singleton.mp z]; exact ne
end
section
variable {prog:Program} {w:World} {A:Around} {s:Shared}
end
theorem insD_perm {α:Type} (le:α→α→Bool) (a:α):∀ l:List α,(insD le a l).Perm (a :: l)
  | []=>.refl _
  | b :: l=>by
    unfold insD
    split
    · exact .refl _
    · exact ((insD_perm le a l).cons b).trans (.swap a b l)
theorem isort_perm {α:Type} (le:α→α→Bool):∀ l:List α,(isort le l).Perm l
  | []=>.refl _
  | a :: l=>(insD_perm le a (isort le l)).trans ((isort_perm le l).cons a)
theorem Stb.symm {α:Type} {lt:α→α→Bool} {l m:List α} (h:Stb lt l m):Stb lt m l:=⟨h.perm.symm,fun x=>(h.cls x).symm⟩
structure Lam1 (sc scope:Scope) (p:Str):Prop where
  kd:scope.kind=.function
  nco:scope.isCoroutine=false
  ngn:scope.isGenerator=false
  own:∀ y∈scope.names,y.2≠.cell∧(y.2=.local→y.1=p)
  par:scope.names.lookup p=some .local
  cap:∀ y∈scope.names,y.2=.free→sc.names.lookup y.1=some .cell∨sc.names.lookup y.1=some .free
section
variable {X:Cx} {pins:List (Addr×Obj)} {σ:L2.St} {H:Hp} {s:Shared} {scope:Scope} {p:Str} {ip:Nat}
theorem Lam1.has (L:Lam1 X.env.scope scope p) (ok:X.Ok):∀ y∈scope.names,y.2=.free→∃ c,X.env.cells.lookup y.1=some c:=fun y hy e=>ok.has _ (L.cap y hy e)
end
section
variable {X:Cx} {pins:List (Addr×Obj)} {σ:L2.St} {H:Hp} {s:Shared}
end
section
variable {X:Cx} {B:Base} {W:WX} {Γ:Ow} {l body:Expr} {fl fb:En→R D} {params:Arguments} {scope:Scope} {p:Str} {ip k:Nat} {lpos p0 kp pos:Pos}
theorem RDs.add {K:Frag} {G:Hp} {vs:List V} {ds:List D} {v:V} {d:D} (r:RDs K G vs ds) (h:RD K G v d):RDs K G (vs ++ [v]) (ds ++ [d]):=r.append (.cons h .nil)
end
def dLenD:D→R D
  | .dic true _ ds=>.ok (.int (ds.length:Nat))
  | _=>.stuck
theorem dLenD_noexc (x:D) (c:Str):dLenD x≠.exc c:=by unfold dLenD; split <;> exact fun z=>nomatch z
def rLenD:List V→Hp→VK→Prop:=fun xs H Q=>∃ (p:Addr) (kvs:List (List Key×V)),xs=[.ref p]∧Rd H p (.dT kvs)∧Q (.int ((kvs.length:Nat):Int)) H
theorem call_lenD {X:Cx}:CallR X (.builtin "len") rLenD:=fun pins s σ H xs us Q I r ⟨p,kvs,e,hp,q⟩=>by
  subst e
  obtain ⟨u,rfl,rx⟩:=vals1 r
  obtain rfl:u=.ref p:=rx
  obtain ⟨small,nosys,ys,rel,dd⟩:=dt_rd I.hok hp
  have same:kvs.length=ys.length:=Paired.length rel
  refine call_len_dictH nosys dd (by rw [← same]; rw [sizeLine_eq] at small; omega) ?_
  rw [← same]
  exact ⟨.int ((kvs.length:Nat):Int),H,I.tok _,⟨_,rfl⟩,q⟩
theorem cd_lenD {K:Frag}:CallD K rLenD (on1 dLenD) .fz:=calld1 fun x dx d G H Q e r hg k=>by
  unfold dLenD at hg
  split at hg
  · cases hg
    rcases r.dic e with ⟨z,_⟩ | ⟨_,a,kvs,rfl,hH,l,_,rs⟩
    · cases z
    · have hl:=rs.length
      rw [List.length_map] at hl
      refine ⟨a,kvs,rfl,hH,?_⟩
      rw [hl]
      exact k _ G H (.refl e) (.fz (.int _))
  · cases hg
end Hr
end
section
namespace Hr
open PySem PySem.Spec L2 PyProof.Rows
section
variable {X:Cx} {B:Base} {W:WX} {Γ Γ1 Γn:Ow} {o:OC} {a b c e:Expr} {fa fb fc fe:En→R D} {pos p p2 q:Pos} {g:En→MU}
def isDicT:D→R (Bool×List (List Key)×List D)
  | .dic t ks ds=>.ok (t,ks,ds)
  | _=>.stuck
theorem Rel.lendS {K : Frag} {s : En} {G H : Hp} {σ : St} {i : Nat} (r : Rel K B Γ s G σ H) (h1 : oty Γ1 i = .fz) (h2 : ∀ j, j ≠ i → oty Γ1 j = oty Γ j) :
    ∃ L:List Addr,(∀ c∈L,G c=none∧Cel H c∧(∀ o,H c=some o→isPl o=true)∧∀ us vs,H c≠some (pT us vs))∧Rel K B Γ1 s (join G H L) σ H:=by
  obtain ⟨φ,sl,hf⟩:=r.sl
  by_cases hs:∃ d,s[i]?=some (some d)
  · obtain ⟨d,e⟩:=hs
    obtain ⟨v,ev,ow⟩:=sl.at_ i d e
    have hG:∀ c∈φ i,G c=none:=fun c m=>(sl.ok i c m).2
    have eJ:Same G (join G H (φ i)):=join_same hG
    refine ⟨φ i,fun c m=>⟨hG c m,(sl.ok i c m).1,ow.pl c m,ow.kind c m⟩,r.len,⟨fun j=>if j=i then [] else φ j,⟨fun j d' q=>?_,fun j=>?_,fun j k a m n=>?_,fun j a m=>?_⟩,fun j a m=>?_⟩,r.hH,r.hG.trans eJ,join_le r.GH (ow.pl),fun a z1 z2=>?_,r.ob.mono (fun _ _=>rfl) fun a C dx fs e=>⟨e,fun n=>by rw [join_out (ow.noins e)]; exact n,fun q=>eJ _ _ q⟩⟩
    · by_cases hj:j=i
      · subst hj
        rw [e] at q; cases q
        rw [if_pos rfl,h1]
        exact ⟨v,ev,.fz (ow.now eJ fun a m o z=>by rw [join_in m]; exact z)⟩
      · rw [if_neg hj,h2 j hj]
        obtain ⟨v',q1,o⟩:=sl.at_ j d' q
        exact ⟨v',q1,o.mono eJ fun _ _ _ z=>z⟩
    · (try dsimp only); split
      · exact List.nodup_nil
      · exact sl.nd j
    · (try dsimp only at m n)
      split at m
      · cases m
      · split at n
        · cases n
        · exact sl.dj j k a m n
    · (try dsimp only at m)
      split at m
      · cases m
      · rename_i hj
        exact ⟨(sl.ok j a m).1,by rw [join_out fun z=>hj (sl.dj j i a m z)]; exact (sl.ok j a m).2⟩
    · (try dsimp only at m)
      split at m
      · cases m
      · exact hf j a m
    · rw [join_out fun m=>z2.ne (hf i a m)]
      exact r.fr a z1 z2
  · refine ⟨[],fun c m=>(by cases m),?_⟩
    rw [join_nil]
    refine ⟨r.len,⟨φ,⟨fun j d q=>?_,sl.nd,sl.dj,sl.ok⟩,hf⟩,r.hH,r.hG,r.GH,r.fr,r.ob⟩
    have hj:j≠i:=fun z=>hs ⟨d,by rw [← z]; exact q⟩
    rw [h2 j hj]
    exact sl.at_ j d q
def eLnd (t:OT) (f:En→R D):En→R D:=fun s=>f s >>= fun d=>if okRes t d=true then .ok d else .stuck
theorem eo_lnd {i:Nat} {t:OT} {f:En→R D} (h1:oty Γ1 i=.fz) (h2:∀ j,j≠i→oty Γ1 j=oty Γ j) (h:EO X B W Γ1 t e f):EO X B W Γ t e (eLnd t f):=PE.imp h fun σ H Q ⟨s,G,rl,k⟩=>by
  obtain ⟨L,hL,r2⟩:=rl.lendS h1 h2
  unfold eLnd at k
  refine ⟨s,join G H L,r2,k.bind.imp (fun d _ k v G2 H2 g2 n=>?_) fun c z=>fun G2 H2 g2=>?_⟩
  · obtain ⟨ok,k⟩:=k.ite
    obtain ⟨G3,g3,th⟩:=thinL rl.GH hL g2
    exact k v G3 H2 g3 (th v d t ok n)
  · obtain ⟨G3,g3,_⟩:=thinL rl.GH hL g2
    exact z G3 H2 g3
end
end Hr
end
section
namespace Hr
open PySem PySem.Spec L2 PyProof.Rows
def isLst:D→Bool
  | .lst _=>true
  | _=>false
mutual
def noL:D→Bool
  | .lst _=>false
  | .tup ds=>ds.all fun d=> !isLst d
  | .dic _ _ ds=>noLs ds
  | _=>true
def noLs:List D→Bool
  | []=>true
  | d :: ds=>noL d && noLs ds
end
mutual
def immL:D→Bool
  | .non=>true
  | .bl _=>true
  | .int _=>true
  | .str _=>true
  | .tup ds=>immLs ds
  | .lst ds=>immLs ds
  | _=>false
def immLs:List D→Bool
  | []=>true
  | d :: ds=>immL d && immLs ds
end
def okResF:OT→D→Bool
  | .fz,d=>immL d
  | .own .fz,.lst ds=>immLs ds
  | .own .fz,.dic _ _ ds=>immLs ds
  | _,_=>false
mutual
theorem RD.thinF {K:Frag} {G G3:Hp} (h:∀ b us vs,G b=some (pT us vs)→G3 b=some (pT us vs)) (h2:∀ b vs,G b=some (.lst vs)→G3 b=some (.lst vs)):∀ {v:V} {d:D},RD K G v d→immL d=true→RD K G3 v d
  | _,_,.non,_=>.non
  | _,_,.bl b,_=>.bl b
  | _,_,.int i,_=>.int i
  | _,_,.str x a b,_=>.str x a b
  | _,_,.tup ⟨us,z⟩ l r,i=>.tup ⟨us,h _ _ _ z⟩ l (RDs.thinF h h2 r i)
  | _,_,.lst z l r,i=>.lst (h2 _ _ z) l (RDs.thinF h h2 r i)
  | _,_,.arr _ _ _,i=>by cases i
  | _,_,.kt _ _ _,i=>by cases i
  | _,_,.dK _ _ _,i=>by cases i
  | _,_,.dT _ _ _,i=>by cases i
  | _,_,.exc _,i=>by cases i
  | _,_,.adr _,i=>by cases i
  | _,_,.lnk _,i=>by cases i
theorem RDs.thinF {K:Frag} {G G3:Hp} (h:∀ b us vs,G b=some (pT us vs)→G3 b=some (pT us vs)) (h2:∀ b vs,G b=some (.lst vs)→G3 b=some (.lst vs)):∀ {vs:List V} {ds:List D},RDs K G vs ds→immLs ds=true→RDs K G3 vs ds
  | _,_,.nil,_=>.nil
  | _,_,.cons a b,i=>.cons (RD.thinF h h2 a (and2 i).1) (RDs.thinF h h2 b (and2 i).2)
end
theorem New.thinF {K:Frag} {H G2 H2 G3:Hp} {v:V} {d:D} {t:OT} (h:∀ b us vs,G2 b=some (pT us vs)→G3 b=some (pT us vs)) (h2:∀ b vs,G2 b=some (.lst vs)→G3 b=some (.lst vs)) (hn:∀ b,G2 b=none→G3 b=none) (n:New K H G2 H2 v d t) (ok:okResF t d=true):New K H G3 H2 v d t:=by
  obtain ⟨fq,ow,nd,k⟩:=n
  cases ow with
  | fz r=>exact .fz (r.thinF h h2 ok)
  | @ol a vs ds t fp e l rs =>
    cases t with
    | own t=>cases ok
    | tp _=>cases ok
    | fz =>
      obtain ⟨rs',e0⟩:=rs.unfz
      subst e0
      exact ⟨_,.ol e l (OWs.fzs (rs'.thinF h h2 ok)),nd,fun b m=>⟨(k b m).1,(k b m).2.1,hn b (k b m).2.2⟩⟩
  | @odK a kvs ds t fp e l rs =>
    cases t with
    | own t=>cases ok
    | tp _=>cases ok
    | fz =>
      obtain ⟨rs',e0⟩:=rs.unfz
      subst e0
      exact ⟨_,.odK e l (OWs.fzs (rs'.thinF h h2 ok)),nd,fun b m=>⟨(k b m).1,(k b m).2.1,hn b (k b m).2.2⟩⟩
  | @odT a kvs ds t fp e l rs =>
    cases t with
    | own t=>cases ok
    | tp _=>cases ok
    | fz =>
      obtain ⟨rs',e0⟩:=rs.unfz
      subst e0
      exact ⟨_,.odT e l (OWs.fzs (rs'.thinF h h2 ok)),nd,fun b m=>⟨(k b m).1,(k b m).2.1,hn b (k b m).2.2⟩⟩
  | ot _ _ _ _ _ _ _=>cases ok
mutual
theorem OW.noL {K:Frag} {G H:Hp}:∀ {v:V} {d:D} {t:OT} {fp:List Addr},OW K G H v d t fp→Hr.noL d=true→∀ a∈fp,∀ xs,H a≠some (.lst xs)
  | _,_,_,_,.fz _,_,a,m=>by cases m
  | _,_,_,_,.ol h _ r,n,a,m=>by cases n
  | _,_,_,_,.odK h _ r,n,a,m=>fun xs e=>by
    rcases List.mem_cons.mp m with z | m
    · subst z; rw [h] at e; cases e
    · exact OWs.noL r n a m xs e
  | _,_,_,_,.odT h _ r,n,a,m=>fun xs e=>by
    rcases List.mem_cons.mp m with z | m
    · subst z; rw [h] at e; cases e
    · exact OWs.noL r n a m xs e
  | _,_,_,_,.ot _ _ _ _ e3 _ _,n,a,m=>by
    have:=List.all_eq_true.mp (show (List.all _ fun d=> !isLst d)=true from n) _ (List.mem_of_getElem? e3)
    cases this
theorem OWs.noL {K:Frag} {G H:Hp}:∀ {vs:List V} {ds:List D} {t:OT} {fp:List Addr},OWs K G H vs ds t fp→Hr.noLs ds=true→∀ a∈fp,∀ xs,H a≠some (.lst xs)
  | _,_,_,_,.nil,_,a,m=>by cases m
  | _,_,_,_,.cons x y,n,a,m=>by
    rcases List.mem_append.mp m with m | m
    · exact OW.noL x (and2 n).1 a m
    · exact OWs.noL y (and2 n).2 a m
end
section
variable {X:Cx} {B:Base} {W:WX} {Γ:Ow} {e ob:Expr} {es:List Expr} {fs:En→R (List D)} {p apos pos:Pos}
theorem lnd_read {Γa:Ow} {i:Nat} {t:OT} {f:En→R D} {σ:St} {H:Hp} {Q:VK} (h1:oty Γa i=.fz) (h2:∀ j,j≠i→oty Γa j=oty Γ j) (h:tOw X.K B W Γ t (eLnd t f) σ H Q):tOw X.K B W Γa t f σ H Q:=by
  obtain ⟨s,G,rl,k⟩:=h
  obtain ⟨L,hL,r2⟩:=rl.lendS h1 h2
  unfold eLnd at k
  refine ⟨s,join G H L,r2,k.bind.imp (fun d _ k v G2 H2 g2 n=>?_) fun c z=>fun G2 H2 g2=>?_⟩
  · obtain ⟨ok,k⟩:=k.ite
    obtain ⟨G3,g3,th⟩:=thinL rl.GH hL g2
    exact k v G3 H2 g3 (th v d t ok n)
  · obtain ⟨G3,g3,_⟩:=thinL rl.GH hL g2
    exact z G3 H2 g3
variable {o:OC}
theorem sv_lndLcd {j : Nat} {y : Str} {py spos : Pos} {elt tg it : Expr} {ifs : List Expr} {scope : Scope} {own : List (Str × Nat)} {ft : FT} {i : Nat} {gt : En → R Bool} {fe : En → R D} {Γ1 Γa : Ow} {i0 : Nat} (h1 : oty Γa i0 = .fz) (h2 : ∀ j, j ≠ i0 → oty Γa j = oty Γ j)
    (hp:B.pr j=false) (lx:leO Γ o.x) (ht:oty Γ1 j=.own .fz) (hΓ:∀ l,l≠j→oty Γ1 l=oty Γ l)
    (hc:X.calm=true) (hN:X.N.Nodup) (hy:X.N[j]?=some y) (hyl:X.env.scope.names.lookup y=some .local) (hsw:swapsWith (.ListComp elt [⟨tg,it,ifs,0⟩] scope pos) (some (.Name y py)) spos.line X.env=pure true)
    (L:LdOk X B Γa own i ft gt fe tg it elt ifs scope) :
    SV X B W Γ Γ1 o (.Assign [.Name y py] (.ListComp elt [⟨tg,it,ifs,0⟩] scope pos) spos) (sAsg (ftName j) (eLnd (.own .fz) (eLc (own.map (·.2)) ft (eKeys i) gt fe))):=by
  have P:PS X (.Assign [.Name y py] (.ListComp elt [⟨tg,it,ifs,0⟩] scope pos) spos) (fun Dn σ H=>∃ h0,∃ g0,tAsg (tLc (iKeys (tVarR X.K (B.re h0 g0) Γa i)) (tTg X.K (B.re h0 g0) Γa (own.map (·.2)) ft) (tTe X.K (B.re h0 g0) W0 Γa gt) (tV X.K (B.re h0 g0) W0 Γa fe) (own.map (·.2))) (gName j) Dn σ H):=PS.ex fun h0:Hp=>PS.ex fun g0:Hp=>ps_setLc hc hN hy hyl hsw (pi_keys (L.hb h0 g0)) L.ok (L.hg h0 g0) (L.ht h0 g0) (L.he h0 g0) (folded_ok L.st X.env)
  exact PS.imp (PS.or (ps_lock P) P) fun Dn σ H k=>lcd_read L.hw L.ho (lnd_read h1 h2 (own_read hp lx ht hΓ Dn σ H k))
end
end Hr
end
section
namespace Hr
open PySem PySem.Spec L2 PyProof.Rows
def lfD:D→Option Leaf
  | .non=>some .none
  | .int i=>some (.num i)
  | .str x=>some (.text x)
  | _=>none
section
variable {X:Cx} {B:Base} {W:WX} {Γ:Ow} {a b:Expr} {fa fb:En→R D} {pos:Pos}
end
end Hr
end
section
namespace Hr
open PySem PySem.Spec L2 PyProof.Rows
def lfV:Leaf→V
  | .none=>.non
  | .num i=>.int i
  | .text x=>.str x
def lfIs:Leaf→Value→Bool
  | .none,.none=>true
  | .num i,.int j _=>decide (j=i)
  | .text x,v=>Value.isStrOf x v
  | _,_=>false
theorem lfIs_of:∀ {k:Leaf} {v:Value},lfIs k v=true→Leaf.isOf k v=true
  | .none,v,h=>by cases v <;> first | rfl | exact absurd h Bool.false_ne_true
  | .num i,v,h=>by cases v <;> first | exact h | exact absurd h Bool.false_ne_true
  | .text x,v,h=>h
theorem lfIs_rel:∀ {k:Leaf} {v:Value},lfIs k v=true→RelV (lfV k) v
  | .none,v,h=>by cases v <;> first | rfl | exact absurd h Bool.false_ne_true
  | .num i,v,h=>by
    cases v with
    | int j t =>
      have:j=i:=of_decide_eq_true h
      subst this
      exact ⟨t,rfl⟩
    | _=>exact absurd h Bool.false_ne_true
  | .text x,v,h=>by
    obtain ⟨t,rfl⟩:=Value.isStrOf_shape (show Value.isStrOf x v=true from h)
    exact ⟨t,rfl⟩
theorem rel_lfIs:∀ {k:Leaf} {v:Value},RelV (lfV k) v→lfIs k v=true
  | .none,v,h=>by
    obtain rfl:v=Value.none:=h
    rfl
  | .num i,v,h=>by
    obtain ⟨t,rfl⟩:=(show ∃ t,v=Value.int i t from h)
    show decide (i=i)=true
    simp
  | .text x,v,h=>by
    obtain ⟨t,rfl⟩:=(show ∃ t,v=Value.str x t from h)
    show Value.isStrOf x (.str x t)=true
    simp [Value.isStrOf]
def nnKind (P:Program) (w:World):KeyKind P w Leaf where
  is:=lfIs
  hash:=(leafKind P w).hash
  inj:=fun v a b ha hb=>(leafKind P w).inj v a b (lfIs_of ha) (lfIs_of hb)
  byValue:=fun k v h=>(leafKind P w).byValue k v (lfIs_of h)
  pyHash:=fun hv h=>(leafKind P w).pyHash (lfIs_of hv) h
  eqBool:=fun hu hv h=>(leafKind P w).eqBool (lfIs_of hu) (lfIs_of hv) h
  «strs»:=fun k x t v h=>by
    cases k with
    | none=>exact absurd h Bool.false_ne_true
    | num i=>exact absurd h Bool.false_ne_true
    | text y=>exact (leafKind P w).strs (.text y) x t v h
def DNp (P:Program) (w:World) (a:Addr) (kvs:List (Leaf×V)) (h:Heap):Prop:=kvs.length≤sizeLine∧(a == sysModules)=false∧∃ vs,KV kvs vs∧h.DictOf (nnKind P w) a vs
def DN (P:Program) (w:World) (a:Addr) (kvs:List (Leaf×V)):HO:=.ext (DNp P w a kvs)
theorem dn_new {P : Program} {w : World} {H' : Hp} {h' : Heap} {a : Addr} {kvs : List (Leaf × V)} {vs : List (Leaf × Value)} (z : kvs.length ≤ sizeLine) (hd : (a == sysModules) = false) (rel : KV kvs vs) (dd : h'.DictOf (nnKind P w) a vs) :
    ObjOk P w H' h' a (DN P w a kvs):=by
  refine ⟨⟨z,hd,vs,rel,dd⟩,?_,fun h1 h2 q k=>?_⟩
  · obtain ⟨o,_,_,e,_⟩:=dd
    exact ⟨o,e⟩
  · obtain ⟨q1,q2,us,q3,o,es,ep,e,c⟩:=q
    exact ⟨q1,q2,us,q3,o,es,ep,k o e,c⟩
theorem dn_of {P:Program} {w:World} {H:Hp} {h:Heap} {a:Addr} {kvs:List (Leaf×V)} (ok:HOk P w H h) (e:H a=some (DN P w a kvs)):kvs.length≤sizeLine∧(a == sysModules)=false∧∃ vs,KV kvs vs∧h.DictOf (nnKind P w) a vs:=(ok a _ e).1
section
variable {X:Cx} {o e f i value:Expr} {td ty tx tv te:TE} {pos p apos cpos pos':Pos}
def tNNew (P:Program) (w:World):TE:=fun _ H Q=>∀ p,H p=none→Q (.ref p) (upd H p (DN P w p []))
theorem pe_nnew:PE X (.Dict [] [] pos) (tNNew X.prog X.w):=⟨fun pins s σ H Q I h =>
  wpAny_Dict_empty ⟨.ref s.heap.objs.size,_,I.laid (a:=s.heap.objs.size) (o:=DN X.prog X.w s.heap.objs.size []) (t':=s.toks) (fun _ _ q=>Heap.get?_push_of_some _ q) (Nat.le_refl _)
    (dn_new (Nat.zero_le _) (beq_eq_false_iff_ne.mpr (Ne.symm (Nat.ne_of_lt I.big))) (vs:=[]) .nil (Heap.DictOf.new s.heap)),rfl,h _ (I.hok.fresh (Nat.le_refl _))⟩⟩
def LfR (k:Leaf) (y:V):Prop:=∀ u,RelV y u→lfIs k u=true
def tNGet (P:Program) (w:World) (td ty tx:TE):TE:=fun σ H Q=>td σ H fun x H1=>∃ a kvs0,x=.ref a∧H1 a=some (DN P w a kvs0)∧ty σ H1 fun y H2=>tx σ H2 fun z H3=>∃ kvs k,H3 a=some (DN P w a kvs)∧LfR k y∧Q ((valV kvs k).getD z) H3
theorem pe_nget (ho:PE X o td) (he:PE X e ty) (hf:PE X f tx) (m:M2 X o "get" apos e f cpos):PE X (.Call (.Attribute o "get" apos) [e,f] [] cpos) (tNGet X.prog X.w td ty tx):=by
  refine ⟨fun pins s σ H Q I h=>?_⟩
  refine wpAny_Call_method m.base m.few m.line PySem.F.plainAttrs_dict PySem.F.slot_dict_get PySem.F.type_dict_get (thn (ho.run pins s σ H _ I h) fun u s1 ⟨x,H1,I1,rx,a,kvs0,ex,d,q1⟩=>?_)
  subst ex
  obtain rfl:u=Value.ref a:=rx
  obtain ⟨_,_,vs0,_,dd0⟩:=dn_of I1.hok d
  refine ⟨dd0.typeIs,fun b q=>?_,?_⟩
  · cases q
    obtain ⟨ob,_,_,h1,h2,_⟩:=dd0
    exact ⟨ob,h1,h2.2.1⟩
  rw [m.trees]
  refine Calls.callWith_builtin rfl (Calls.evalArgs_plain (Calls.spliced_cons (thn (he.run pins s1 σ H1 _ I1 q1) fun iv s2 ⟨y,H2,I2,ry,q2⟩ =>
    Calls.spliced_cons (thn (hf.run pins s2 σ H2 _ I2 q2) fun fv s3 ⟨z,H3,I3,rz,kvs,k,g,hk,q3⟩=>Calls.spliced_nil ?_))))
  obtain ⟨_,hd,vs,rel,dd⟩:=dn_of I3.hok g
  refine call_meetsIn PySem.F.slot_dict_get dd.typeIs PySem.F.entry_dict_get (PySem.F.args_dict_get_3 _ _ _) (meets_dict_get_default (nnKind X.prog X.w) a (hk _ ry) hd fv) ⟨_,dd.mapOf,?_⟩
  exact ⟨_,H3,I3.tok _,(rel.val k).getD rz,q3⟩
def sNPut (P:Program) (w:World) (td ty tv:TE):TS:=fun D σ H=>tv σ H fun v H1=>td σ H1 fun x H2=>ty σ H2 fun y H3=>∃ a kvs k,x=.ref a∧H3 a=some (DN P w a kvs)∧kvs.length < sizeLine∧LfR k y∧D.nx σ (upd H3 a (DN P w a (putK kvs k v)))
theorem ps_nput (ho : PE X o td) (hi : PE X i ty) (hv : PE X value tv) (hs : swapsWith value (some (.Subscript o i pos')) pos.line X.env = pure false) :
    PS X (.Assign [.Subscript o i pos'] value pos) (sNPut X.prog X.w td ty tv):=by
  refine ⟨fun pins s σ H D I h=>?_⟩
  refine wpAny_Assign_Subscript (thn (hv.run pins s σ H _ I h) fun r s1 ⟨v,H1,I1,rv,q1⟩=>thn (ho.run pins s1 σ H1 _ I1 q1) fun u s2 ⟨x,H2,I2,rx,q2⟩=>thn (hi.run pins s2 σ H2 _ I2 q2) fun iv s3 ⟨y,H3,I3,ry,a,kvs,k,ex,g,l,hk,q3⟩=>?_) hs
  subst ex
  obtain rfl:u=Value.ref a:=rx
  obtain ⟨z,hd,vs,rel,dd⟩:=dn_of I3.hok g
  have hz:vs.length≤sizeLine:=by rw [← rel.length]; exact z
  have hl:(putK kvs k v).length≤sizeLine:=by have:=length_putK kvs k v; omega
  refine wpAny_setItem_pairs (hsz:=hz) (hk _ ry) dd fun h' dd' hs=>⟨σ,_,?_,q3⟩
  have he:∃ q,h'.get? a=some q:=let ⟨q,_,_,hq,_⟩:=dd'; ⟨q,hq⟩
  exact d_write I3 (by rw [g]; exact True.intro) hs he (dn_new hl hd (rel.put k rv) dd')
def putO (H:Hp):List Addr→List HO→Hp
  | a :: as,o :: os=>putO (upd H a o) as os
  | _,_=>H
theorem putO_off:∀ (as:List Addr) (os:List HO) (H:Hp) {b:Addr},b∉as→putO H as os b=H b
  | [],_,H,b,_=>rfl
  | _ :: _,[],H,b,_=>rfl
  | a :: as,o :: os,H,b,h=>by
    show putO (upd H a o) as os b=H b
    rw [putO_off as os _ fun z=>h (List.mem_cons_of_mem _ z),upd_ne fun z=>h (by rw [z]; exact List.mem_cons_self)]
theorem putO_at:∀ (as:List Addr) (os:List HO) (H:Hp),as.Nodup→∀ (j:Nat) (a:Addr) (o:HO),as[j]?=some a→os[j]?=some o→putO H as os a=some o
  | [],_,H,_,j,a,o,h,_=>by simp at h
  | _ :: _,[],H,_,j,a,o,_,h=>by simp at h
  | a :: as,o :: os,H,nd,0,_,_,h1,h2=>by
    cases h1
    cases h2
    obtain ⟨n1,n2⟩:=List.nodup_cons.mp nd
    show putO (upd H a o) as os a=some o
    rw [putO_off as os _ n1,upd_same]
  | a :: as,o :: os,H,nd,j + 1,b,u,h1,h2=>by
    obtain ⟨n1,n2⟩:=List.nodup_cons.mp nd
    exact putO_at as os (upd H a o) n2 j b u (by simpa using h1) (by simpa using h2)
theorem pick_os {P:Nat→HO→Prop}:∀ n:Nat,(∀ j,j < n→∃ o,P j o)→∃ os:List HO,os.length=n∧∀ j o,os[j]?=some o→P j o
  | 0,_=>⟨[],rfl,fun j o h=>by simp at h⟩
  | n + 1,h=>by
    obtain ⟨os,h1,h2⟩:=pick_os n fun j hj=>h j (by omega)
    obtain ⟨o,ho⟩:=h n (by omega)
    refine ⟨os ++ [o],by simp [h1],fun j u e=>?_⟩
    by_cases c:j < os.length
    · rw [List.getElem?_append_left c] at e
      exact h2 j u e
    · rw [List.getElem?_append_right (by omega)] at e
      have hj:j - os.length=0:=by
        have:=(List.getElem?_eq_some_iff.mp e).1
        simp at this
        omega
      rw [hj] at e
      have e:o=u:=by simpa using e
      rw [← e,show j=n by omega]
      exact ho
def tNItems (P:Program) (w:World) (te:TE):TE:=fun σ H Q=>te σ H fun x H1=>∃ (d:Addr) (kvs:List (Leaf×V)),x=.ref d∧H1 d=some (DN P w d kvs) ∧
  ∀ (H':Hp) (p:Addr) (ts:List Addr),(∀ b o,H1 b=some o→H' b=some o)→H1 p=none→(∀ t∈ts,H1 t=none)→p∉ts→H' p=some (.lst (ts.map V.ref))→Paired (fun (t:Addr) (q:Leaf×V)=>PlT H' t [lfV q.1,q.2]) ts kvs→Q (.ref p) H'
theorem paired_of {α β:Type} {F:α→β→Prop}:∀ {xs:List α} {ys:List β},xs.length=ys.length→(∀ (j:Nat) (x:α) (y:β),xs[j]?=some x→ys[j]?=some y→F x y)→Paired F xs ys
  | [],[],_,_=>.nil
  | [],_ :: _,h,_=>by cases h
  | _ :: _,[],h,_=>by cases h
  | x :: xs,y :: ys,h,k=>.cons (k 0 x y rfl rfl) (paired_of (Nat.succ.inj h) fun j a b h1 h2=>k (j + 1) a b (by simpa using h1) (by simpa using h2))
theorem nitems_laid {pins : List (Addr × Obj)} {σ : L2.St} {H : Hp} {s : Shared} {h' : Heap} {tk : Nat} {kvs : List (Leaf × V)} {vs : List (Leaf × Value)} {acc : Array Value} {c : Nat} {as : List Addr} (I : Inv X pins σ H s) (hz : kvs.length ≤ sizeLine) (kv : KV kvs vs)
    (hk:∀ b o,s.heap.get? b=some o→h'.get? b=some o) (hS:h'.get? s.heap.objs.size=some { cls:=.type "list",dict:=none,data:=.seq acc c,slots:= #[] }) (hl:as.length=vs.length) (hG:PySem.W.KdxG (nnKind X.prog X.w) vs s.heap.objs.size h' as) (hacc:acc.toList=as.map Value.ref) :
    ∃ H':Hp,(∀ b o,H b=some o→H' b=some o)∧H s.heap.objs.size=none∧(∀ t∈as,H t=none)∧s.heap.objs.size∉as∧H' s.heap.objs.size=some (.lst (as.map V.ref))∧Paired (fun (t:Addr) (q:Leaf×V)=>PlT H' t [lfV q.1,q.2]) as kvs∧Inv X pins σ H' { s with heap:=h',toks:=tk }:=by
  have lk:kvs.length=vs.length:=Paired.length kv
  have hSn:s.heap.objs.size∉as:=fun z=>Nat.lt_irrefl _ (hG.above _ z)
  have nd:as.Nodup:=List.Pairwise.imp (fun {a b} (h:a < b)=>Nat.ne_of_lt h) hG.rise
  have new:∀ t∈as,H t=none:=fun t ht=>I.hok.fresh (Nat.le_of_lt (hG.above t ht))
  have newS:H s.heap.objs.size=none:=I.hok.fresh (Nat.le_refl _)
  obtain ⟨os,ol,oP⟩:=pick_os (P:=fun j o=>∀ a q,as[j]?=some a→kvs[j]?=some q→∃ us:List Value,o=pT us [lfV q.1,q.2]∧h'.get? a=some { cls:=.type "tuple",data:=.seq us.toArray }∧Vals [lfV q.1,q.2] us) as.length fun j hj=>by
    obtain ⟨a,ha⟩:∃ a,as[j]?=some a:=⟨_,List.getElem?_eq_getElem hj⟩
    obtain ⟨q,hq⟩:∃ q,kvs[j]?=some q:=⟨_,List.getElem?_eq_getElem (by omega)⟩
    obtain ⟨key,k,x,f1,f2,f3⟩:=hG.pairs j a ha
    obtain ⟨qv,g1,g2,g3⟩:=LiI.paired_get kv hq
    rw [f1] at g1
    cases g1
    refine ⟨pT [key,x] [lfV q.1,q.2],fun a' q' ha' hq'=>?_⟩
    rw [ha] at ha'
    rw [hq] at hq'
    cases ha'
    cases hq'
    refine ⟨[key,x],rfl,f3,.cons ?_ (.cons g3 .nil)⟩
    rw [g2]
    exact lfIs_rel f2
  have atO:∀ (j:Nat) (a:Addr),as[j]?=some a→∃ q us,kvs[j]?=some q∧putO (upd H s.heap.objs.size (.lst (as.map V.ref))) as os a=some (pT us [lfV q.1,q.2])∧h'.get? a=some { cls:=.type "tuple",data:=.seq us.toArray }∧Vals [lfV q.1,q.2] us:=fun j a ha=>by
    have hj:=(List.getElem?_eq_some_iff.mp ha).1
    obtain ⟨q,hq⟩:∃ q,kvs[j]?=some q:=⟨_,List.getElem?_eq_getElem (by omega)⟩
    obtain ⟨o,ho⟩:∃ o,os[j]?=some o:=⟨_,List.getElem?_eq_getElem (by omega)⟩
    obtain ⟨us,e1,e2,e3⟩:=oP j o ho a q ha hq
    exact ⟨q,us,hq,by rw [putO_at as os _ nd j a o ha ho,e1],e2,e3⟩
  have off:∀ b,b∉as→b≠s.heap.objs.size→putO (upd H s.heap.objs.size (.lst (as.map V.ref))) as os b=H b:=fun b h1 h2=>by rw [putO_off as os _ h1,upd_ne h2]
  have low:∀ b o,s.heap.get? b=some o→b∉as∧b≠s.heap.objs.size:=fun b o e=>⟨fun z=>absurd (Heap.lt_size e) (Nat.not_lt.mpr (Nat.le_of_lt (hG.above b z))),Nat.ne_of_lt (Heap.lt_size e)⟩
  have kp:∀ b u,H b=some u→(putO (upd H s.heap.objs.size (.lst (as.map V.ref))) as os) b=some u:=fun b u e=>by
    rw [off b (fun z=>by rw [new b z] at e; cases e) (fun z=>by rw [z,newS] at e; cases e)]
    exact e
  have eS:putO (upd H s.heap.objs.size (.lst (as.map V.ref))) as os s.heap.objs.size=some (.lst (as.map V.ref)):=by rw [putO_off as os _ hSn,upd_same]
  refine ⟨putO (upd H s.heap.objs.size (.lst (as.map V.ref))) as os,kp,newS,new,hSn,eS,paired_of (by omega) (fun j t q h1 h2=>?_),?_⟩
  · obtain ⟨q',us,e1,e2,_⟩:=atO j t h1
    rw [h2] at e1
    cases e1
    exact ⟨us,e2⟩
  refine I.call' (ch:=[]) rfl ⟨fun b o q _ _ _=>hk b o q,fun b o q _ _ _=>⟨o.slots,hk b o q⟩,fun b o q n _=>?_,fun b o q _=>⟨o,hk b o q⟩,fun b xs q=>kp b _ q,fun b o u q=>kp b _ q,fun b ps q=>⟨#[],by rw [kp b _ q]; simp⟩⟩ (fun b u q=>?_) I.bare fun b z=>by simp at z
  · obtain ⟨z1,z2⟩:=low b o q
    rw [off b z1 z2]
    exact n
  · by_cases hb:b∈as
    · obtain ⟨j,hj⟩:=List.mem_iff_getElem?.mp hb
      obtain ⟨pk,us,e1,e2,e3,e4⟩:=atO j b hj
      rw [e2] at q
      cases q
      have hlen:us.length=2:=(e4.length).symm
      exact pT_ok ⟨e3,by show 2≤sizeLine; decide,us,e4,⟨_,e3,rfl,_,rfl⟩⟩
    · by_cases hb2:b=s.heap.objs.size
      · rw [hb2] at q ⊢
        rw [eS] at q
        cases q
        refine ⟨by rw [List.length_map]; omega,acc.toList,c,by rw [hacc]; exact LiI.vals_refs as,?_⟩
        rw [Array.toArray_toList]
        exact hS
      · rw [off b hb hb2] at q
        exact (I.hok b u q).stay (fun d v _ y=>hk d v y) (fun d y=>kp d _ y) fun d xs y=>kp d _ y
theorem pe_nitems (hc : X.calm = true) (he : PE X e te) (hg : Gl X "list") (hm : X.mg "list" = none) (hv : bootBuiltins "list" = some (.type "list")) (hbase : attributeBase e "items" X.env (eval e X.env) = eval e X.env) (hline : (apos.endLine == cpos.line) = true) :
    PE X (.Call (.Name "list" p) [.Call (.Attribute e "items" apos) [] [] cpos] [] pos) (tNItems X.prog X.w te):=by
  refine ⟨fun pins s σ H Q I hq=>?_⟩
  refine wpAny_Call_Name_kw (ld_blt I hg hm hv ?_)
  refine PyProof.Rows.callWith_type1 ?_ (show starEach [.Call (.Attribute e "items" apos) [] [] cpos] X.env=(false,eval (.Call (.Attribute e "items" apos) [] [] cpos) X.env) :: starEach [] X.env from rfl) rfl
  show wpAny _ _ (spliced ((false,eval (.Call (.Attribute e "items" apos) [] [] cpos) X.env) :: backTo pos (starEach [] X.env))) _ _ s
  refine Calls.spliced_cons ?_
  refine wpAny_Call_method (T:= "dict") (id:= "dict.items") hbase rfl hline PySem.F.plainAttrs_dict PySem.F.slot_dict_items PySem.F.type_dict_items (thn (he.run pins s σ H _ I hq) fun u s1 ⟨x,H1,I1,rx,d,kvs,ex,hd,q⟩=>?_)
  subst ex
  obtain rfl:u=Value.ref d:=rx
  obtain ⟨hz,hs0,vs,kv,hdo⟩:=dn_of I1.hok hd
  obtain ⟨ep,hat⟩:=hdo.dictAt
  have lk:kvs.length=vs.length:=Paired.length kv
  have I2:Inv X pins σ H1 { s1 with heap:=s1.heap.push { cls:=.type "dict_items",data:=.fields #[.ref d] } }:=I1.kept (t':=s1.toks) fun b ob q=>Heap.get?_push_of_some _ q
  refine ⟨hdo.typeIs,hdo.mapOf.noDict,?_⟩
  show wpAny _ _ (callWith cpos (.builtin "dict.items") [.ref d] [] []) _ X.xe s1
  refine method_meetsIn PySem.F.slot_dict_items PySem.F.entry_dict_items rfl (PySem.evalArgs_none ⟨rfl,hdo.typeIs,PySem.F.args_dict_items_1 _,_,meets_dict_items (nnKind X.prog X.w) d hs0,⟨vs,hdo⟩,?_⟩)
  refine Calls.spliced_nil ?_
  refine PySem.W.kdx_call (knd:=nnKind X.prog X.w) (kvs:=vs) (ep:=ep) (I1.ok.hd hc) ⟨_,Heap.get?_push_size _ rfl,rfl,rfl⟩ (hat.push _) (by omega) fun h' tk acc c as hk hS hl hG hacc=>?_
  obtain ⟨H',k1,k2,k3,k4,k5,k6,J⟩:=nitems_laid (tk:=tk) I2 hz kv hk hS hl hG hacc
  exact ⟨.ref _,H',J,rfl,q H' _ as k1 k2 k3 k4 k5 k6⟩
end
end Hr
end
section
namespace Hr
open PySem PySem.Spec L2 PyProof.Rows
theorem dn_code {P:Program} {w:World} {a:Addr} {kvs:List (Leaf×V)} {q:Str}:DN P w a kvs≠LamX.CodeO a q:=by
  intro e
  have e:DNp P w a kvs=fun h=>∃ (oc:Obj) (vs:Array Value) (t:Tok),h.get? a=some oc∧oc.data=.fields vs∧vs[1]?=some (.str q t):=by
    unfold DN LamX.CodeO at e
    injection e
  let ob:Obj:={ cls:=.none,data:=.fields #[.none,.str q default] }
  let h:Heap:={ objs:=Array.replicate (a + 1) ob }
  have hg:h.get? a=some ob:=by
    show (match (Array.replicate (a + 1) ob)[a]? with
      | some ⟨_,_,.freed,_⟩=>none
      | o=>o)=some ob
    rw [Array.getElem?_replicate,if_pos (Nat.lt_succ_self a)]
  have hc:DNp P w a kvs h:=by
    rw [e]
    exact ⟨ob,_,_,hg,rfl,rfl⟩
  obtain ⟨_,_,us,_,o,es,ep,e1,e2,e3,_⟩:=hc
  rw [hg] at e1
  obtain rfl:=Option.some.inj e1
  cases e3
section
variable {K:Frag} {B:Base} {Γ:Ow} {s:En} {G H H0:Hp} {σ:St} {P:Program} {w:World} {a:Addr} {kvs kvs':List (Leaf×V)}
theorem tabS_dn {T:Addr} {q:Str} {o:HO} (t:LamX.TabS H T q) (h:H a=some (DN P w a kvs)):LamX.TabS (upd H a o) T q:=by
  obtain ⟨ps,h1,h2,h3⟩:=t
  refine ⟨ps,?_,h2,fun pos cv hc=>?_⟩
  · rw [upd_ne fun z=>by rw [z,h] at h1; cases h1]; exact h1
  · obtain ⟨c,e1,e2⟩:=h3 pos cv hc
    refine ⟨c,e1,?_⟩
    rw [upd_ne fun z=>?_]
    · exact e2
    · subst z
      rw [h] at e2
      exact dn_code (Option.some.inj e2)
theorem KpT.dn {o:HO} (k:KpT K H0 H) (h0:H0 a=none) (h:H a=some (DN P w a kvs)):KpT K H0 (upd H a o) :=
  ⟨⟨fun b u e n=>by rw [upd_ne (ne_of_none e h0)]; exact k.kp.at_ b u e n,fun b ps e=>by rw [upd_ne (ne_of_none e h0)]; exact k.kp.tb b ps e,fun p hp t=>tabS_dn (k.kp.ts p hp t) h⟩,fun p hp=>tabS_dn (k.tk p hp) h⟩
theorem Rel.dn (r:Rel K B Γ s G σ H) (h:H a=some (DN P w a kvs)) (h0:B.H0 a=none) (hG:G a=none):Rel K B Γ s G σ (upd H a (DN P w a kvs')):=by
  obtain ⟨φ,sl,hf⟩:=r.sl
  have ne:∀ b o,H b=some o→o≠DN P w a kvs→b≠a:=fun b o e n z=>by
    subst z
    rw [h] at e
    exact n (Option.some.inj e).symm
  refine ⟨r.len,⟨φ,⟨fun i d e=>?_,sl.nd,sl.dj,fun i b m=>?_⟩,hf⟩,r.hH.dn h0 h,r.hG,r.GH.set hG,r.fr,r.ob.mono (fun _ _=>rfl) fun b C dx fs e=>⟨by rw [upd_ne (ne b _ e fun z=>by cases z)]; exact e,id,id⟩⟩
  · obtain ⟨v,e1,ow⟩:=sl.at_ i d e
    refine ⟨v,e1,ow.mono (.refl _) fun b m o q=>?_⟩
    rw [upd_ne (ne b o q fun z=>?_)]
    · exact q
    · have:=ow.pl b m o q
      rw [z] at this
      cases this
  · obtain ⟨⟨o,c1,c2⟩,c3⟩:=sl.ok i b m
    refine ⟨?_,c3⟩
    by_cases z:b=a
    · subst z
      exact ⟨_,upd_same,fun _ y=>nomatch y⟩
    · exact ⟨o,by rw [upd_ne z]; exact c1,c2⟩
structure Jd (K:Frag) (B:Base) (Γ:Ow) (P:Program) (w:World) (i:Nat) (a:Addr) (m:List (Leaf×V)) (s:En) (G:Hp) (σ:St) (H:Hp):Prop where
  rel:Rel K B Γ s G σ H
  sl:σ[i]?=some (some (.ref a))
  cell:H a=some (DN P w a m)
  h0:B.H0 a=none
  g:G a=none
theorem Jd.grow {i:Nat} {m:List (Leaf×V)} {G' H':Hp} (j:Jd K B Γ P w i a m s G σ H) (g:Grow K G H G' H'):Jd K B Γ P w i a m s G' σ H' :=
  ⟨j.rel.grow g,j.sl,g.h.at_ _ _ j.cell rfl,j.h0,g.nw a j.g ⟨_,j.cell,fun _ z=>nomatch z⟩⟩
end
def getL (m:List (Leaf×Int)) (k:Leaf):Int:=((m.find? fun p=>decide (p.1=k)).map (·.2)).getD 0
def bump (m:List (Leaf×Int)) (k:Leaf):List (Leaf×Int):=if (m.any fun p=>decide (p.1=k))=true then m.map (fun p=>if p.1=k then (p.1,getL m k + 1) else p) else m ++ [(k,getL m k + 1)]
def mV (m:List (Leaf×Int)):List (Leaf×V):=m.map fun p=>(p.1,V.int p.2)
theorem valV_mV (m:List (Leaf×Int)) (k:Leaf):(valV (mV m) k).getD (.int 0)=.int (getL m k):=by
  unfold valV mV getL
  rw [List.find?_map]
  have:((fun kv:Leaf×V=>decide (kv.1=k)) ∘ fun p:Leaf×Int=>(p.1,V.int p.2))=fun p:Leaf×Int=>decide (p.1=k):=rfl
  rw [this]
  cases m.find? fun p=>decide (p.1=k) with
  | none=>rfl
  | some p=>rfl
theorem put_mV (m:List (Leaf×Int)) (k:Leaf):putK (mV m) k (.int (getL m k + 1))=mV (bump m k):=by
  unfold putK bump mV
  have e:((m.map fun p:Leaf×Int=>(p.1,V.int p.2)).any fun kv=>decide (kv.1=k))=m.any fun p=>decide (p.1=k):=by rw [List.any_map]; rfl
  rw [e]
  by_cases c:(m.any fun p=>decide (p.1=k))=true
  · rw [if_pos c,if_pos c,List.map_map,List.map_map]
    refine List.map_congr_left fun p _=>?_
    show (if p.1=k then (p.1,V.int (getL m k + 1)) else (p.1,V.int p.2))=((if p.1=k then (p.1,getL m k + 1) else p).1,V.int (if p.1=k then (p.1,getL m k + 1) else p).2)
    by_cases q:p.1=k
    · rw [if_pos q,if_pos q]
    · rw [if_neg q,if_neg q]
  · rw [if_neg c,if_neg c,List.map_append]; rfl
theorem bump_len (m:List (Leaf×Int)) (k:Leaf):(bump m k).length≤m.length + 1:=by
  unfold bump
  split
  · rw [List.length_map]; omega
  · rw [List.length_append,List.length_singleton]; omega
def vcRun (ft:FT) (fk:En→R D):List D→En→List (Leaf×Int)→Option (List (Leaf×Int))
  | [],_,m=>some m
  | d :: ds,s,m=>(ft d s).bind fun s'=>match fk s' with
    | .ok v=>(lfD v).bind fun k=>vcRun ft fk ds s' (bump m k)
    | _=>none
def dLf:Leaf→D
  | .none=>.non
  | .num i=>.int i
  | .text x=>.str x
def okLf:Leaf→Bool
  | .text x=>PyData.strOk x && decide (x.length≤sizeLine)
  | _=>true
def itD (p:Leaf×Int):D:=.tup [dLf p.1,.int p.2]
def sVc (i:Nat) (ft:FT) (fi:En→R (List D)) (fk:En→R D):En→Out:=fun s=>match fi (s.set i none) with
  | .ok ds=>(match vcRun ft fk ds (s.set i none) [] with
    | some m=>if i < s.length∧(m.all fun p=>okLf p.1)=true then .rt (.lst (m.map itD)) else .stuck
    | none=>.stuck)
  | _=>.stuck
theorem lf_R {K:Frag} {G:Hp} {v:V} {d:D} {k:Leaf} (r:RD K G v d) (h:lfD d=some k):LfR k v:=by
  intro u ru
  refine rel_lfIs ?_
  cases d with
  | non=>cases h; cases r; exact ru
  | int i=>cases h; cases r; exact ru
  | str x=>cases h; cases r; exact ru
  | _=>cases h
theorem it_rds {K:Frag} {H':Hp} {G':Hp}:∀ {ts:List Addr} {m:List (Leaf×Int)},Paired (fun (t:Addr) (q:Leaf×V)=>PlT H' t [lfV q.1,q.2]) ts (mV m)→(∀ t∈ts,G' t=H' t)→(m.all fun p=>okLf p.1)=true→RDs K G' (ts.map V.ref) (m.map itD)
  | [],[],.nil,_,_=>.nil
  | [],_ :: _,h,_,_=>by cases h
  | _ :: _,[],h,_,_=>by cases h
  | t :: ts,p :: m,.cons h hs,hg,ok=>by
    obtain ⟨o1,o2⟩:=Bool.and_eq_true_iff.mp (show (okLf p.1 && m.all fun p=>okLf p.1)=true from ok)
    obtain ⟨us,hu⟩:=h
    refine .cons (.tup (vs:=[lfV p.1,.int p.2]) ⟨us,?_⟩ (by show 2≤sizeLine; decide) (.cons ?_ (.cons (.int _) .nil))) (it_rds hs (fun t m=>hg t (List.mem_cons_of_mem _ m)) o2)
    · rw [hg t List.mem_cons_self]; exact hu
    · obtain ⟨k,i⟩:=p
      cases k with
      | none=>exact .non
      | num j=>exact .int j
      | text x =>
        obtain ⟨a1,a2⟩:=Bool.and_eq_true_iff.mp (show (PyData.strOk x && decide (x.length≤sizeLine))=true from o1)
        exact .str x a1 (of_decide_eq_true a2)
section
variable {X:Cx} {B:Base} {W:WX} {Γ Γn:Ow} {o:OC} {tg it ke1 ke2:Expr} {vs:List Nat} {ft:FT} {fi:En→R (List D)} {fk:En→R D} {i:Nat} {x:Str} {p1 p2 p3 p4 p5 p6 p7 p8 p9 p10 p11 p12 p13 p14 p15 p16 p17 p18 p19:Pos} {j1 j2:Nat}
theorem pe_key (hk:EV X B W Γ ke1 fk):PE X ke1 (fun σ H Q=>∃ a m s G d k,Jd X.K B Γ X.prog X.w i a m s G σ H∧fk s=.ok d∧lfD d=some k∧∀ v G' H',Same G G'→Jd X.K B Γ X.prog X.w i a m s G' σ H'→LfR k v→Q v H') :=
  PE.imp hk fun σ H Q ⟨a,m,s,G,d,k,j,e,el,q⟩=>⟨s,G,j.rel,by
    rw [e]
    exact fun v G' H' g r=>q v G' H' g.g (j.grow g) (lf_R r el)⟩
theorem ps_vcB (hu : X.A.units + 1 < cLine) (hN : X.N[i]? = some x) (hv : Vis X.env.scope x) (h1 : (x == ("__debug__" : Str)) = false) (h2 : (x == ("__classdict__" : Str)) = false) (hk1 : EV X B W Γ ke1 fk) (hk2 : EV X B W Γ ke2 fk) (hs : noStar ke2 = true) (hl : (p7.endLine == p9.line) = true)
    (hsw:swapsWith (.BinOp (.Call (.Attribute (.Name x p6) "get" p7) [ke2,.Constant (.int 0) j1 p8] [] p9) .Add (.Constant (.int 1) j2 p10) p11) (some (.Subscript (.Name x p4) ke1 p5)) p12.line X.env=pure false) :
    PS X (.Assign [.Subscript (.Name x p4) ke1 p5] (.BinOp (.Call (.Attribute (.Name x p6) "get" p7) [ke2,.Constant (.int 0) j1 p8] [] p9) .Add (.Constant (.int 1) j2 p10) p11) p12)
      (fun D σ H=>∃ a m s G d k,Jd X.K B Γ X.prog X.w i a (mV m) s G σ H∧fk s=.ok d∧lfD d=some k∧m.length < sizeLine∧∀ G' H',Same G G'→Jd X.K B Γ X.prog X.w i a (mV (bump m k)) s G' σ H'→D.nx σ H'):=by
  have hn:notSuper (.Name x p6)=true:=rfl
  have hs2:noStar (.Constant (.int 0) j1 p8)=true:=rfl
  have key1:=pe_key (i:=i) hk1
  have key2:=pe_key (i:=i) hk2
  have hget:=pe_nget (apos:=p7) (cpos:=p9) (pe_var (pos:=p6) hN hv h1 h2) key2 (pe_int (i:=0) (j:=j1) (pos:=p8)) (⟨base_ok2 hn _ _ _,few_ok (by simp [hs,hs2]) (by simp),hl,by rw [noStar_ok hs,noStar_ok hs2]; rfl⟩)
  have hval:=pe_op (pos:=p11) op_add hget (pe_int (i:=1) (j:=j2) (pos:=p10))
  refine PS.imp (ps_nput (pe_var (pos:=p4) hN hv h1 h2) key1 hval hsw) fun D σ H ⟨a,m,s,G,d,k,j,e,el,hlen,q⟩=>?_
  refine ⟨.ref a,j.sl,a,mV m,rfl,j.cell,a,mV m,s,G,d,k,j,e,el,fun y G1 H1 g1 j1' lk=>⟨mV m,k,j1'.cell,lk,?_⟩⟩
  refine ⟨getL m k,1,valV_mV m k,rfl,.ref a,j1'.sl,a,mV m,s,G1,d,k,j1',e,el,fun y2 G2 H2 g2 j2' lk2=>⟨a,mV m,k,rfl,j2'.cell,by unfold mV; rw [List.length_map]; exact hlen,lk2,?_⟩⟩
  rw [put_mV]
  exact q G2 _ (g1.trans g2) ⟨j2'.rel.dn j2'.cell j2'.h0 j2'.g,j2'.sl,upd_same,j2'.h0,j2'.g⟩
theorem join_its {K:Frag} {G H H':Hp} {ts:List Addr} (e:Sub G H) (h1:∀ b o,H b=some o→H' b=some o) (h3:∀ t∈ts,H t=none) (h4:∀ t∈ts,∃ us vs,H' t=some (pT us vs)):Grow K G H (join G H' ts) H':=by
  have h1:Same H H':=h1
  refine ⟨join_same fun a m=>e.free (h3 a m),.of h1,join_le (e.trans h1) fun a m o q=>?_,fun a z1 z2=>?_⟩
  · obtain ⟨us,vs,z⟩:=h4 a m
    rw [z] at q
    cases q
    unfold pT
    split <;> rfl
  · rw [join_out fun m=>z2.ne (h3 a m)]
    exact z1
theorem svs_vc (lx : leO Γ o.x) (ht : o.t = .own .fz) (hp : B.pr i = false) (hu : X.A.units + 1 < cLine) (hpo : PassesOwn (model X.prog X.w) X.A X.env X.xe) (hc : X.calm = true) (hNd : X.N.Nodup) (hN : X.N[i]? = some x) (hx : Loc X.env.scope x) (hfn : X.fn x = true ∨ X.env.scope.names.lookup x = some .local) (hv : Vis X.env.scope x) (h1 : (x == ("__debug__" : Str)) = false) (h2 : (x == ("__classdict__" : Str)) = false)
    (hs0:swapsWithSole [.Name x p1] (.Dict [] [] p2) p3.line X.env=pure false) (hw0:swappedStores [.Name x p1] (.Dict [] [] p2) X.env=pure none)
    (hst:notSet it=true) (hi:EIf X B W Γ tg it fi) (hg:EG X B Γ vs tg ft) (hvs:i∉vs)
    (hk1:EV X B W Γ ke1 fk) (hk2:EV X B W Γ ke2 fk) (hs:noStar ke2=true) (hl:(p7.endLine == p9.line)=true)
    (hsw:swapsWith (.BinOp (.Call (.Attribute (.Name x p6) "get" p7) [ke2,.Constant (.int 0) j1 p8] [] p9) .Add (.Constant (.int 1) j2 p10) p11) (some (.Subscript (.Name x p4) ke1 p5)) p12.line X.env=pure false)
    (hgl:Gl X "list") (hml:X.mg "list"=none) (hl2:(p15.endLine == p16.line)=true) :
    SVs X B W Γ Γn o [.Assign [.Name x p1] (.Dict [] [] p2) p3,.For tg it [.Assign [.Subscript (.Name x p4) ke1 p5] (.BinOp (.Call (.Attribute (.Name x p6) "get" p7) [ke2,.Constant (.int 0) j1 p8] [] p9) .Add (.Constant (.int 1) j2 p10) p11) p12] [] p13,
      .Return (some (.Call (.Name "list" p14) [.Call (.Attribute (.Name x p17) "items" p15) [] [] p16] [] p18)) p19] (sVc i ft fi fk):=by
  have st1:=ps_asg (pos:=p3) (pe_nnew (X:=X) (pos:=p2)) (pg_name (pos:=p1) hNd hN hx hfn) hs0 hw0 rfl
  have st2:=ps_for (pos:=p13) hpo hc hi hg (pss_cons (ps_vcB (p4:=p4) (p5:=p5) (p12:=p12) hu hN hv h1 h2 hk1 hk2 hs hl hsw) pss_nil) (folded_ok hst X.env)
  have st3:=ps_ret (pos:=p19) (pe_nitems (pos:=p18) (p:=p14) (apos:=p15) (cpos:=p16) hc (pe_var (pos:=p17) hN hv h1 h2) hgl hml boot_list (base_ok2 (show notSuper (.Name x p17)=true from rfl) _ _ _) hl2)
  refine PSs.imp (pss_cons st1 (pss_cons st2 (pss_cons st3 pss_nil))) fun Dn σ H ⟨s,G,rl,k⟩=>?_
  unfold sVc at k
  cases q1:fi (s.set i none) with
  | exc c=>rw [q1] at k; exact k.elim
  | stuck=>rw [q1] at k; exact k.elim
  | ok ds =>
    rw [q1] at k
    dsimp only at k
    cases q2:vcRun ft fk ds (s.set i none) [] with
    | none=>rw [q2] at k; exact k.elim
    | some mf =>
      rw [q2] at k
      dsimp only at k
      by_cases q3:i < s.length∧(mf.all fun p=>okLf p.1)=true
      · rw [if_pos q3] at k
        obtain ⟨hil,hok⟩:=q3
        intro a ha
        have g0:Grow X.K G H G (upd H a (DN X.prog X.w a [])):=⟨.refl _,.of (Same.upd ha),rl.GH.trans (Same.upd ha),fun _ h _=>h⟩
        have r1:=rl.grow g0
        have hils:i < σ.length:=by rw [← rl.len]; exact hil
        have r2:Rel X.K B Γ (s.set i none) G (σ.set i (some (.ref a))) (upd H a (DN X.prog X.w a [])):=r1.forget (by rw [List.length_set,List.length_set]; exact rl.len) (fun j d e=>by
          rcases getElem?_set_cases e with ⟨_,e'⟩ | ⟨ne,e'⟩
          · cases e'
          · exact ⟨e',fun v hv=>by rw [List.getElem?_set_ne (Ne.symm ne)]; exact hv⟩) fun j hj=>by
          rw [List.getElem?_set_ne fun z=>by rw [z,hj] at hp; cases hp]
        have J0:Jd X.K B Γ X.prog X.w i a (mV []) (s.set i none) G (σ.set i (some (.ref a))) (upd H a (DN X.prog X.w a [])) :=
          ⟨r2,by rw [List.getElem?_set_self hils],upd_same,rl.hH.free ha,rl.GH.free ha⟩
        refine ⟨s.set i none,G,r2,?_⟩
        rw [q1]
        intro J G1 H1 g1 itk
        have J1:=J0.grow g1
        refine ⟨fun n M σ' H'=>M=ds.length - n∧n≤ds.length∧∃ s' G' m,Same G1 G'∧Jd X.K B Γ X.prog X.w i a (mV m) s' G' σ' H'∧m.length≤n∧vcRun ft fk (ds.drop n) s' m=some mf,⟨ds.length,by simp,Nat.zero_le _,s.set i none,G1,[],.refl _,J1,Nat.zero_le _,q2⟩,?_⟩
        rintro n M σ' H' ⟨rfl,hn,s',G',m,e1,j',hml',hr⟩
        by_cases hlt:n < ds.length
        · obtain ⟨d,ed,dr⟩:=drop_at hlt
          rw [dr] at hr
          refine .inr ⟨itk.go n d G' H' ed e1 j'.rel.GH (.of (e1.trans j'.rel.GH.s)),fun σ2 H2=>∃ s2 G2 m2,Same G1 G2∧Jd X.K B Γ X.prog X.w i a (mV m2) s2 G2 σ2 H2∧m2.length≤n + 1∧vcRun ft fk (ds.drop (n + 1)) s2 m2=some mf,?_,fun y H2 yl=>?_⟩
          · rintro σ2 H2 ⟨s2,G2,m2,q⟩
            exact ⟨ds.length - (n + 1),by omega,rfl,hlt,s2,G2,m2,q⟩
          · obtain ⟨G2,g2,rd⟩:=itk.yld n d G' H' y H2 ed e1 j'.rel.GH (.of (e1.trans j'.rel.GH.s)) yl
            unfold vcRun at hr
            cases z1:ft d s' with
            | none=>rw [z1] at hr; cases hr
            | some s1 =>
              rw [z1] at hr
              have hr:(match fk s1 with
                | .ok v=>(lfD v).bind fun k=>vcRun ft fk (ds.drop (n + 1)) s1 (bump m k)
                | _=>none)=some mf:=hr
              cases z2:fk s1 with
              | exc c=>rw [z2] at hr; cases hr
              | stuck=>rw [z2] at hr; cases hr
              | ok kd =>
                rw [z2] at hr
                dsimp only at hr
                cases z3:lfD kd with
                | none=>rw [z3] at hr; cases hr
                | some kk =>
                  rw [z3] at hr
                  have hr:vcRun ft fk (ds.drop (n + 1)) s1 (bump m kk)=some mf:=hr
                  have j2:=j'.grow g2
                  refine ⟨s',G2,d,s1,j2.rel,rd,z1,fun σ2 r3 hwp=>?_⟩
                  have hsl:σ2[i]?=some (some (.ref a)):=by
                    have:=congrArg (fun l:St=>l[i]?) hwp
                    rw [wipe_out hvs,wipe_out hvs] at this
                    rw [this]; exact j2.sl
                  refine ⟨a,m,s1,G2,kd,kk,⟨r3,hsl,j2.cell,j2.h0,j2.g⟩,z2,z3,by have:=itk.len; omega,fun G3 H3 g3 j3=>?_⟩
                  exact ⟨s1,G3,bump m kk,e1.trans (g2.g.trans g3),j3,by have:=bump_len m kk; omega,hr⟩
        · have e:n=ds.length:=by omega
          subst e
          rw [List.drop_length] at hr
          obtain rfl:m=mf:=Option.some.inj hr
          refine .inl ⟨itk.stop G' H' e1 j'.rel.GH (.of (e1.trans j'.rel.GH.s)),?_⟩
          refine ⟨.ref a,j'.sl,a,mV m,rfl,j'.cell,fun H2 p ts k1 k2 k3 k4 k5 k6=>?_⟩
          have pts:∀ t∈ts,∃ us vs,H2 t=some (pT us vs):=fun t hm=>by
            obtain ⟨_,y,_,_,us,hu⟩:=LiI.paired_ix k6 hm
            exact ⟨us,_,hu⟩
          have gr:Grow X.K G' H' (join G' H2 ts) H2:=join_its j'.rel.GH k1 k3 pts
          have rds:=it_rds (K:=X.K) (G':=join G' H2 ts) k6 (fun t hm=>join_in hm) hok
          have hlen:ts.length=m.length:=by
            have:=Paired.length k6
            unfold mV at this
            rw [List.length_map] at this
            exact this
          refine k (.ref p) (join G' H2 ts) H2 (rel_grow0 (j'.rel.grow gr)) ?_
          rw [ht]
          refine ⟨[p],.ol k5 (by rw [List.length_map,hlen]; have:=itk.len; omega) (OWs.fzs rds),by simp,fun c hm=>?_⟩
          rw [List.mem_singleton.mp hm]
          exact ⟨j'.rel.hH.free k2,⟨_,k5,fun _ z=>nomatch z⟩,by rw [join_out k4]; exact j'.rel.GH.free k2⟩
      · rw [if_neg q3] at k; exact k.elim
end
end Hr
end
section
namespace Hr
open PySem PySem.Spec L2 PyProof.Rows
section
variable {X:Cx} {pins:List (Addr×Obj)} {σ:St} {H:Hp} {s:Shared} {a:Addr} {u r:Value} {d:V} {k:Leaf} {A:Around} {E:Value→Shared→Prop}
theorem n_setd {kvs : List (Leaf × V)} {Q : Value → Shared → Prop} (I : L2.Inv X pins σ H s) (e : H a = some (DN X.prog X.w a kvs)) (hk : lfIs k u = true) (rd : RelV d r) (hl : kvs.length < sizeLine)
    (h1:∀ v,valV kvs k=some v→∀ (w':Value) (s':Shared),L2.Inv X pins σ H s'→RelV v w'→Q w' s') (h2:valV kvs k=none→∀ (w':Value) (s':Shared),L2.Inv X pins σ (upd H a (DN X.prog X.w a (putK kvs k d))) s'→RelV d w'→Q w' s') :
    wpAny (model X.prog X.w) A (call (.builtin "dict.setdefault") [.ref a,u,r]) Q E s:=by
  obtain ⟨z,hd,vs,rel,dd⟩:=dn_of I.hok e
  have hz:vs.length≤sizeLine:=by
    rw [← rel.length]
    exact z
  refine call_meetsIn PySem.F.slot_dict_setdefault dd.typeIs PySem.F.entry_dict_setdefault (PySem.F.args_dict_setdefault_3 _ _ _) (kt_meets_setdefault (nnKind X.prog X.w) a hk hd r) ⟨vs,dd,hz,fun v hv=>?_,fun hn h' dd' hs=>?_⟩
  · have q:=rel.val k
    rw [hv] at q
    cases q0:valV kvs k with
    | none =>
      rw [q0] at q
      exact (show False from q).elim
    | some v0 =>
      rw [q0] at q
      exact h1 v0 q0 _ _ (I.tok _) q
  · have q:=rel.val k
    rw [hn] at q
    cases q0:valV kvs k with
    | some v0 =>
      rw [q0] at q
      exact (show False from q).elim
    | none =>
      have hl2:(putK kvs k d).length≤sizeLine:=by
        have:=length_putK kvs k d
        omega
      have he:∃ q,h'.get? a=some q:=let ⟨q,_,_,hq,_⟩:=dd'; ⟨q,hq⟩
      exact h2 q0 _ _ (d_write (t':=s.toks + 1) I (by rw [e]; exact True.intro) hs he (dn_new hl2 hd (rel.put k rd) dd')) rd
end
def tNSetd (P:Program) (w:World) (td ty tx:TE):TE:=fun σ H Q=>td σ H fun x H1=>∃ a kvs0,x=.ref a∧H1 a=some (DN P w a kvs0)∧ty σ H1 fun y H2=>tx σ H2 fun z H3=>∃ kvs k,H3 a=some (DN P w a kvs)∧LfR k y∧kvs.length < sizeLine ∧
  (∀ v,valV kvs k=some v→Q v H3)∧(valV kvs k=none→Q z (upd H3 a (DN P w a (putK kvs k z))))
section
variable {X:Cx} {o e f i tg:Expr} {td ty tx:TE} {apos cpos:Pos}
theorem pe_nsetd (ho:PE X o td) (he:PE X e ty) (hf:PE X f tx) (m:M2 X o "setdefault" apos e f cpos):PE X (.Call (.Attribute o "setdefault" apos) [e,f] [] cpos) (tNSetd X.prog X.w td ty tx):=by
  refine ⟨fun pins s σ H Q I h=>?_⟩
  refine wpAny_Call_method m.base m.few m.line PySem.F.plainAttrs_dict PySem.F.slot_dict_setdefault PySem.F.type_dict_setdefault (thn (ho.run pins s σ H _ I h) fun u s1 ⟨x,H1,I1,rx,a,kvs0,ex,d,q1⟩=>?_)
  subst ex
  obtain rfl:u=Value.ref a:=rx
  obtain ⟨_,_,vs0,_,dd0⟩:=dn_of I1.hok d
  refine ⟨dd0.typeIs,fun b q=>?_,?_⟩
  · cases q
    obtain ⟨ob,_,_,h1,h2,_⟩:=dd0
    exact ⟨ob,h1,h2.2.1⟩
  rw [m.trees]
  refine Calls.callWith_builtin rfl (Calls.evalArgs_plain (Calls.spliced_cons (thn (he.run pins s1 σ H1 _ I1 q1) fun iv s2 ⟨y,H2,I2,ry,q2⟩ =>
    Calls.spliced_cons (thn (hf.run pins s2 σ H2 _ I2 q2) fun fv s3 ⟨z,H3,I3,rz,kvs,k,ea,hk,hl,q3,q4⟩=>Calls.spliced_nil ?_))))
  exact n_setd I3 ea (hk _ ry) rz hl (fun v hv w' s4 I4 rw'=>⟨v,_,I4,rw',q3 v hv⟩) fun hn w' s4 I4 rw'=>⟨z,_,I4,rw',q4 hn⟩
theorem pss_freeze {st:List Stmt} {t:TS} (h:PSs X st t):PSs X st (fun D σ H=>∃ d u,H d=some u∧Mut (some u)∧∀ od,t D σ (upd H d (.frz od u))):=⟨fun pins s σ H D I ⟨d,u,hd,mu,hw⟩=>by
  obtain ⟨od,I1⟩:=I.lock hd mu
  exact h.run pins s σ _ _ I1 (hw od)⟩
theorem pss_gh {st:List Stmt} {t:TS} (h:PSs X st t):PSs X st (fun D σ H=>∃ σ',Gh X σ σ'∧t D σ' H):=⟨fun pins s σ H D I ⟨σ',g,hw⟩=>h.run pins s σ' H D (inv_gh I g) hw⟩
def FN (P:Program) (w:World) (H:Hp) (a:Addr) (o:Obj) (kvs:List (Leaf×V)):Prop:=H a=some (.frz o (DN P w a kvs))
theorem frzN {pins : List (Addr × Obj)} {σ : St} {H : Hp} {s : Shared} {d : Addr} {o : Obj} {kvs : List (Leaf × V)} (I : L2.Inv X pins σ H s) (h : FN X.prog X.w H d o kvs) :
    (d == sysModules)=false∧s.heap.get? d=some o∧o.ExactDict∧∃ (es:Array DictEntry) (ep:Nat) (vs:List (Leaf×Value)),o.data=.dict es ep∧es.size=kvs.length∧KV kvs vs∧s.heap.DictAt (nnKind X.prog X.w) d vs ep:=by
  obtain ⟨hd,x⟩:=I.hok d _ h
  obtain ⟨⟨z,hs,vs,kv,o',es,ep,ho,hx,hdt,r⟩,_⟩:=x
  rw [hd] at ho
  cases ho
  refine ⟨hs,hd,hx,es,ep,vs,hdt,?_,kv,o,es,hd,hx,hdt,r⟩
  have l1:=r.2.1.length
  have l2:kvs.length=vs.length:=Paired.length kv
  rw [Array.length_toList] at l1
  omega
def ItkN (P:Program) (w:World) (d:Addr) (o:Obj) (kvs:List (Leaf×V)):It :=
  ⟨fun i H=>FN P w H d o kvs∧i < kvs.length,fun i H x H'=>H'=H∧∃ k v,kvs[i]?=some (k,v)∧x=lfV k,fun i H=>FN P w H d o kvs∧kvs.length≤i⟩
theorem turn_keysN {P:Program} {w:World} {K:PySem.W.Frag} {d:Addr} {o:Obj} {es:Array DictEntry} {ep:Nat} {kvs:List (Leaf×V)} (it:Addr) (hod:o.data=.dict es ep):Turn P w K tg (ItkN P w d o kvs) [it] it (fun i h=>h.IsKeyIter it d i kvs.length ep) where
  mem:=by simp
  obj:=fun i h st b hb=>by
    have e:b=it:=by simpa using hb
    subst e
    obtain ⟨oi,e,c,dd⟩:=st
    exact ⟨oi,e,fun v z=>by rw [dd] at z; cases z⟩
  keep:=fun i h h' st k=>st.at fun oi e=>k it (by simp) oi e
  item:=by
    intro X hP hw hK hc i pins s σ H E I hf st hg
    subst hP hw hK
    obtain ⟨hd,hi⟩:=hg
    obtain ⟨f0,f1,f2,f3,f4,f5⟩:=hf it (by simp)
    obtain ⟨hs,hgd,hx,es',ep',vs,hdt,hsz,kv,hm⟩:=frzN I hd
    obtain ⟨rfl,rfl⟩:=dict_ep hod hdt
    obtain ⟨⟨k,v⟩,hkv⟩:∃ p,kvs[i]?=some p:=⟨kvs[i],List.getElem?_eq_getElem hi⟩
    obtain ⟨u,hu,ru⟩:=kv_get kv hkv
    have hl:kvs.length=vs.length:=Paired.length kv
    rw [hl] at st
    refine wpAny_pyNext_dict_item st hm hu fun key h' hkey st' sb=>?_
    have I1:L2.Inv X pins σ H { s with heap:=h' }:=I.turned (t':=s.toks) (fun b ob hb e=>(sb.2 b hb).trans e) f0 f1 f3 f4 f5
    obtain ⟨oi,e,c,dd⟩:=id st'
    refine ⟨key,rfl,go_of (s:={ s with heap:=h' }) e c dd (by decide) ⟨lfV k,H,I1,lfIs_rel hkey,⟨rfl,k,v,hkv,rfl⟩,?_,fun b hb=>(hf b hb).1⟩⟩
    show h'.IsKeyIter it d (i + 1) kvs.length _
    rw [hl]
    exact st'
  done:=by
    intro X hP hw hK hc i pins s σ H E I hf st hg
    subst hP hw hK
    obtain ⟨hd,hi⟩:=hg
    obtain ⟨f0,f1,f2,f3,f4,f5⟩:=hf it (by simp)
    obtain ⟨hs,hgd,hx,es',ep',vs,hdt,hsz,kv,hm⟩:=frzN I hd
    obtain ⟨rfl,rfl⟩:=dict_ep hod hdt
    exact next_key_end (I.ok.hd hc) st hgd hdt hsz hi fun h' eb=>⟨rfl,I.turned (t':=s.toks) (fun b ob hb e=>eb b ob hb e) f0 f1 f3 f4 f5⟩
  self:=fun A i s Q E st h=>wpAny_pyIter_keyiter st h
def iKeysN (P:Program) (w:World) (td:TE):TI:=fun σ H R=>td σ H fun x H1=>∃ d o kvs,x=.ref d∧FN P w H1 d o kvs∧R (ItkN P w d o kvs) H1
theorem pi_keysN (he:PE X e td):PI X tg e (iKeysN X.prog X.w td):=by
  refine ⟨fun pins s σ H R I h=>?_⟩
  refine thn (he.run pins s σ H _ I h) fun u s1 ⟨x,H1,I1,rx,d,o,kvs,ex,hd,q⟩=>?_
  subst ex
  obtain rfl:u=Value.ref d:=rx
  obtain ⟨hs,hgd,hx,es,ep,vs,hdt,hsz,kv,hm⟩:=frzN I1 hd
  refine iter_keys hs hgd hx hdt (pi_one (tk:=s1.toks) I1 _ (turn_keysN _ hdt) ⟨_,Heap.get?_push_size _ rfl,rfl,?_⟩ q)
  rw [hsz] <;> rfl
def rIxN (P:Program) (w:World):R2:=fun x y H Q=>∃ a o kvs k v,x=.ref a∧FN P w H a o kvs∧LfR k y∧valV kvs k=some v∧Q v H
theorem ix_nn:IxR X (rIxN X.prog X.w):=by
  intro value slice pins s σ H x y v u Q I rx ry h hs
  obtain ⟨a,o,kvs,k,z,rfl,g,hk,hz,q⟩:=h
  cases rx
  obtain ⟨hsy,hgd,hx,es,ep,vs,hdt,hsz,kv,hm⟩:=frzN I g
  have hT:=hm.dictOf.typeIs (s:=s)
  have get:∀ A:Around,wpAny (model X.prog X.w) A (getItem (.ref a) u) (EP X pins σ Q) X.xe s:=fun A=>by
    obtain ⟨w',hw,rw'⟩:=RelO.some_of (v:=z) (o:=valueAt vs k) (by rw [← hz]; exact kv.val k)
    exact wpAny_getItem_of (hk _ ry) hm.dictOf.mapOf hw ⟨z,H,I.tok _,rw',q⟩
  unfold subscriptTail
  refine wpAny_bind ?_
  rw [getitemInPython_of_ne hT.not_modules]
  refine wpAny_bind (wpAny_specialOf hT PySem.F.slot_dict_getitem.lookup ?_)
  have fin:wpAny (model X.prog X.w) X.A (subscripted slice false (.ref a) u) (fun r s₃=>wpAny (model X.prog X.w) X.A (letTemporaryGo value (.ref a) r >>= fun _=>pure r) (EP X pins σ Q) X.xe s₃) X.xe s:=by
    rw [hs]
    exact wpAny_operating (wpAny_mono (get _) (fun r s₃ h₃=>wpAny_bind (wpAny_letTemporaryGo (wpAny_pure h₃))) fun _ _ x=>x)
  first
    | exact wpAny_pure (wpAny_bind fin)
    | exact wpAny_bind (wpAny_pure (wpAny_bind fin))
    | exact wpAny_bind fin
def rNotInN (P:Program) (w:World):R2:=fun x y H Q=>∃ a o kvs k,y=.ref a∧FN P w H a o kvs∧LfR k x∧Q (.bl (!(valV kvs k).isSome)) H
theorem op_notInN:OpR X (compareOp .NotIn) (rNotInN X.prog X.w):=by
  intro pins s σ H x y v u Q I rx ry h
  obtain ⟨a,o,kvs,k,rfl,g,hk,q⟩:=h
  obtain rfl:u=Value.ref a:=ry
  obtain ⟨hsy,hgd,hx,es,ep,vs,hdt,hsz,kv,hm⟩:=frzN I g
  refine wpAny_notIn_of (hk _ rx) hsy hm.dictOf.mapOf ?_
  rw [← (kv.val k).isSome_eq]
  exact ⟨.bl _,H,I.tok _,rfl,q⟩
end
end Hr
end
section
namespace Hr
open PySem PySem.Spec L2 PyProof.Rows
abbrev Bk:=List (Leaf×List Int)
def prE:Nat→Nat→Nat
  | 0,b=>2 * b + 1
  | a + 1,b=>2 * prE a b
theorem prE_big:∀ a b:Nat,a≤prE a b∧b < prE a b
  | 0,b=>⟨Nat.zero_le _,by show b < 2 * b + 1; omega⟩
  | a + 1,b=>by
    obtain ⟨h1,h2⟩:=prE_big a b
    show a + 1≤2 * prE a b∧b < 2 * prE a b
    omega
def unE:Nat→Nat→Nat×Nat
  | 0,n=>(0,n / 2)
  | f + 1,n=>if n % 2=1 then (0,n / 2) else ((unE f (n / 2)).1 + 1,(unE f (n / 2)).2)
theorem unE_prE:∀ (a b f:Nat),a≤f→unE f (prE a b)=(a,b)
  | 0,b,0,_=>by show (0,(2 * b + 1) / 2)=_; congr 1; omega
  | 0,b,f + 1,_=>by
    show (if (2 * b + 1) % 2=1 then (0,(2 * b + 1) / 2) else _)=_
    rw [if_pos (by omega)]; congr 1; omega
  | a + 1,b,0,h=>by omega
  | a + 1,b,f + 1,h=>by
    show (if (2 * prE a b) % 2=1 then _ else ((unE f (2 * prE a b / 2)).1 + 1,(unE f (2 * prE a b / 2)).2))=_
    rw [if_neg (by omega),show 2 * prE a b / 2=prE a b by omega,unE_prE a b f (by omega)]
def enL:List Nat→Nat
  | []=>0
  | x :: xs=>prE x (enL xs)
def deL:Nat→Nat→List Nat
  | 0,_=>[]
  | f + 1,n=>if n=0 then [] else (unE n n).1 :: deL f (unE n n).2
theorem deL_enL:∀ (l:List Nat) (f:Nat),enL l≤f→deL f (enL l)=l
  | [],0,_=>rfl
  | [],f + 1,_=>rfl
  | x :: xs,0,h=>by
    have:=(prE_big x (enL xs)).2
    have h:prE x (enL xs)≤0:=h
    omega
  | x :: xs,f + 1,h=>by
    obtain ⟨h1,h2⟩:=prE_big x (enL xs)
    have h:prE x (enL xs)≤f + 1:=h
    show (if prE x (enL xs)=0 then [] else (unE (prE x (enL xs)) (prE x (enL xs))).1 :: deL f (unE (prE x (enL xs)) (prE x (enL xs))).2)=_
    rw [if_neg (by omega),unE_prE x (enL xs) _ h1,deL_enL xs f (by omega)]
def zig:Int→Nat
  | .ofNat n=>2 * n
  | .negSucc n=>2 * n + 1
def zag (n:Nat):Int:=if n % 2=0 then .ofNat (n / 2) else .negSucc (n / 2)
theorem zag_zig:∀ i:Int,zag (zig i)=i
  | .ofNat n=>by
    show (if (2 * n) % 2=0 then Int.ofNat (2 * n / 2) else _)=_
    rw [if_pos (by omega),show 2 * n / 2=n by omega]
  | .negSucc n=>by
    show (if (2 * n + 1) % 2=0 then _ else Int.negSucc ((2 * n + 1) / 2))=_
    rw [if_neg (by omega),show (2 * n + 1) / 2=n by omega]
def enLf:Leaf→Nat
  | .none=>0
  | .num i=>2 * zig i + 1
  | .text x=>2 * enL x.cps.toList + 2
def deLf (n:Nat):Leaf:=if n=0 then .none else if n % 2=1 then .num (zag (n / 2)) else .text ⟨(deL (n / 2 - 1) (n / 2 - 1)).toArray⟩
theorem deLf_enLf:∀ k:Leaf,deLf (enLf k)=k
  | .none=>rfl
  | .num i=>by
    show (if 2 * zig i + 1=0 then _ else if (2 * zig i + 1) % 2=1 then Leaf.num (zag ((2 * zig i + 1) / 2)) else _)=_
    rw [if_neg (by omega),if_pos (by omega),show (2 * zig i + 1) / 2=zig i by omega,zag_zig]
  | .text x=>by
    show (if 2 * enL x.cps.toList + 2=0 then _ else if (2 * enL x.cps.toList + 2) % 2=1 then _ else Leaf.text ⟨(deL ((2 * enL x.cps.toList + 2) / 2 - 1) ((2 * enL x.cps.toList + 2) / 2 - 1)).toArray⟩)=_
    rw [if_neg (by omega),if_neg (by omega),show (2 * enL x.cps.toList + 2) / 2 - 1=enL x.cps.toList by omega,deL_enL _ _ (Nat.le_refl _)]
def bkEnc (m:Bk):Nat:=enL (m.map fun p=>prE (enLf p.1) (enL (p.2.map zig)))
def bkDec (n:Nat):Bk:=(deL n n).map fun q=>(deLf (unE q q).1,(deL (unE q q).2 (unE q q).2).map zag)
theorem bkDec_enc (m:Bk):bkDec (bkEnc m)=m:=by
  unfold bkDec bkEnc
  rw [deL_enL _ _ (Nat.le_refl _),List.map_map]
  conv=>rhs; rw [← List.map_id m]
  refine List.map_congr_left fun p _=>?_
  show (deLf (unE (prE (enLf p.1) (enL (p.2.map zig))) (prE (enLf p.1) (enL (p.2.map zig)))).1,_)=p
  rw [unE_prE _ _ _ (prE_big _ _).1]
  show (deLf (enLf p.1),(deL (enL (p.2.map zig)) (enL (p.2.map zig))).map zag)=p
  rw [deLf_enLf,deL_enL _ _ (Nat.le_refl _),List.map_map]
  have:p.2.map (zag ∘ zig)=p.2:=by
    conv=>rhs; rw [← List.map_id p.2]
    exact List.map_congr_left fun i _=>zag_zig i
  rw [this]
def PlnC (x:Addr) (c:HO):Prop:=(∃ xs,c=.lst xs)∨(∃ P w kvs,c=DN P w x kvs)∨∃ o u,c=.frz o u
theorem PlnC.tbl {x:Addr} {c:HO} {ps:Array Value} (h:PlnC x c):c≠.tbl ps:=by
  rcases h with ⟨_,rfl⟩ | ⟨_,_,_,rfl⟩ | ⟨_,_,rfl⟩
  · exact fun z=>nomatch z
  · exact fun z=>nomatch z
  · exact fun z=>nomatch z
theorem PlnC.tb {x:Addr} {c:HO} (h:PlnC x c):isTb c=false:=by
  rcases h with ⟨_,rfl⟩ | ⟨_,_,_,rfl⟩ | ⟨_,_,rfl⟩ <;> rfl
theorem PlnC.code {x:Addr} {c:HO} {q:Str} (h:PlnC x c):c≠LamX.CodeO x q:=by
  rcases h with ⟨_,rfl⟩ | ⟨_,_,_,rfl⟩ | ⟨_,_,rfl⟩
  · exact fun z=>nomatch z
  · exact dn_code
  · exact fun z=>nomatch z
theorem tabS_wr {H:Hp} {x T:Addr} {q:Str} {o:HO} (t:LamX.TabS H T q) (h:∀ u,H x=some u→PlnC x u):LamX.TabS (upd H x o) T q:=by
  obtain ⟨ps,h1,h2,h3⟩:=t
  refine ⟨ps,?_,h2,fun pos cv hc=>?_⟩
  · rw [upd_ne fun z=>(h _ (by rw [← z]; exact h1)).tbl rfl]; exact h1
  · obtain ⟨c,e1,e2⟩:=h3 pos cv hc
    refine ⟨c,e1,?_⟩
    rw [upd_ne fun z=>?_]
    · exact e2
    · subst z
      exact (h _ e2).code rfl
theorem tabS_un {H:Hp} {x T:Addr} {q:Str} {o:HO} (ho:PlnC x o) (t:LamX.TabS (upd H x o) T q):LamX.TabS H T q:=by
  obtain ⟨ps,h1,h2,h3⟩:=t
  have n1:T≠x:=fun z=>by rw [z,upd_same] at h1; exact ho.tbl (Option.some.inj h1)
  rw [upd_ne n1] at h1
  refine ⟨ps,h1,h2,fun pos cv hcv=>?_⟩
  obtain ⟨c,e1,e2⟩:=h3 pos cv hcv
  refine ⟨c,e1,?_⟩
  rwa [upd_ne fun z=>by rw [z,upd_same] at e2; exact ho.code (Option.some.inj e2)] at e2
section
variable {K:Frag} {B:Base} {Γ:Ow} {s:En} {G H:Hp} {σ:St} {x:Addr} {c:HO}
theorem Rel.reb (r:Rel K B Γ s G σ H) (hO:B.O=[]) (hc:PlnC x c) (h:∀ u,H x=some u→PlnC x u) (h0:H x=none∨B.H0 x≠none) (hG:G x=none):Rel K (B.re (upd B.H0 x c) B.G0) Γ s G σ (upd H x c):=by
  obtain ⟨φ,sl,hf⟩:=r.sl
  have ne:∀ i a,a∈φ i→a≠x:=fun i a m z=>by
    subst z
    rcases h0 with h0 | h0
    · exact (sl.ok i a m).1.ne h0
    · exact h0 (hf i a m)
  have h0':∀ o,B.H0 x=some o→∃ u,H x=some u:=fun o e=>by
    obtain ⟨o',e',_⟩:=r.hH.kp.any e
    exact ⟨o',e'⟩
  refine ⟨r.len,⟨φ,⟨fun i d e=>?_,sl.nd,sl.dj,fun i b m=>?_⟩,fun i a m=>?_⟩,⟨⟨fun b u e n=>?_,fun b ps e=>?_,fun p hp t=>tabS_wr (r.hH.kp.ts p hp (tabS_un hc t)) h⟩,fun p hp=>tabS_wr (r.hH.tk p hp) h⟩,r.hG,r.GH.set hG,fun a h1 h2=>?_,.nil hO⟩
  · obtain ⟨v,e1,ow⟩:=sl.at_ i d e
    exact ⟨v,e1,ow.mono (.refl _) fun b m o q=>by rw [upd_ne (ne i b m)]; exact q⟩
  · obtain ⟨⟨o,c1,c2⟩,c3⟩:=sl.ok i b m
    exact ⟨⟨o,by rw [upd_ne (ne i b m)]; exact c1,c2⟩,c3⟩
  · show upd B.H0 x c a=none
    rw [upd_ne (ne i a m)]; exact hf i a m
  · have e:upd B.H0 x c b=some u:=e
    by_cases z:b=x
    · subst z; rw [upd_same] at e ⊢; exact e
    · rw [upd_ne z] at e ⊢; exact r.hH.kp.at_ b u e n
  · have e:upd B.H0 x c b=some (.tbl ps):=e
    by_cases z:b=x
    · subst z; rw [upd_same] at e; exact absurd (Option.some.inj e) hc.tbl
    · rw [upd_ne z] at e ⊢; exact r.hH.kp.tb b ps e
  · have h2:Cel (upd B.H0 x c) a:=h2
    by_cases z:a=x
    · subst z; exact hG
    · obtain ⟨o,e,n⟩:=h2
      rw [upd_ne z] at e
      exact r.fr a h1 ⟨o,e,n⟩
end
def kvB (m:Bk) (bs:List Addr):List (Leaf×V):=(m.zip bs).map fun p=>(p.1.1,V.ref p.2)
theorem kvB_len {m:Bk} {bs:List Addr} (h:bs.length=m.length):(kvB m bs).length=m.length:=by
  unfold kvB
  rw [List.length_map,List.length_zip,h,Nat.min_self]
theorem kvB_get {m:Bk} {bs:List Addr} {n:Nat} {k:Leaf} {v:V} (h:(kvB m bs)[n]?=some (k,v)):∃ (l:List Int) (b:Addr),m[n]?=some (k,l)∧bs[n]?=some b∧v=.ref b:=by
  unfold kvB at h
  rw [List.getElem?_map] at h
  obtain ⟨⟨⟨k',l⟩,b⟩,e1,e2⟩:=Option.map_eq_some_iff.mp h
  obtain ⟨e3,e4⟩:=List.getElem?_zip_eq_some.mp e1
  cases e2
  exact ⟨l,b,e3,e4,rfl⟩
theorem kvB_find {k : Leaf} : ∀ {m : Bk} {bs : List Addr}, bs.length = m.length →
    (valV (kvB m bs) k=none∧(m.find? fun p=>decide (p.1=k))=none∧k∉m.map (·.1))∨∃ (n:Nat) (l:List Int) (b:Addr),m[n]?=some (k,l)∧bs[n]?=some b∧valV (kvB m bs) k=some (.ref b)∧(m.find? fun p=>decide (p.1=k))=some (k,l)
  | [],[],_=>.inl ⟨rfl,rfl,fun h=>by cases h⟩
  | [],_ :: _,h=>by cases h
  | _ :: _,[],h=>by cases h
  | (k',l) :: m,b :: bs,h=>by
    by_cases c:k'=k
    · subst c
      refine .inr ⟨0,l,b,rfl,rfl,?_,by rw [List.find?_cons_of_pos (by simp)]⟩
      unfold valV kvB
      rw [List.zip_cons_cons,List.map_cons,List.find?_cons_of_pos (by simp)]
      rfl
    · have ev : valV (kvB ((k', l) :: m) (b :: bs)) k = valV (kvB m bs) k := by
        unfold valV kvB
        rw [List.zip_cons_cons,List.map_cons,List.find?_cons_of_neg (by simpa using c)]
      have ef:(((k',l) :: m).find? fun p=>decide (p.1=k))=m.find? fun p=>decide (p.1=k):=List.find?_cons_of_neg (by simpa using c)
      rcases kvB_find (k:=k) (m:=m) (bs:=bs) (by simpa using h) with ⟨h1,h2,h3⟩ | ⟨n,l',b',h1,h2,h3,h4⟩
      · exact .inl ⟨ev.trans h1, ef.trans h2, fun z => by
          rw [List.map_cons] at z
          rcases List.mem_cons.mp z with z | z
          · exact c z.symm
          · exact h3 z⟩
      · exact .inr ⟨n + 1,l',b',by simpa using h1,by simpa using h2,ev.trans h3,ef.trans h4⟩
def bkApp (m:Bk) (k:Leaf) (v:Int):Bk:=if (m.any fun p=>decide (p.1=k))=true then m.map (fun p=>if p.1=k then (p.1,p.2 ++ [v]) else p) else m ++ [(k,[v])]
theorem any_key {m:Bk} {k:Leaf}:(m.any fun p=>decide (p.1=k))=true↔k∈m.map (·.1):=by
  rw [List.any_eq_true,List.mem_map]
  constructor
  · rintro ⟨p,hp,e⟩; exact ⟨p,hp,of_decide_eq_true e⟩
  · rintro ⟨p,hp,e⟩; exact ⟨p,hp,decide_eq_true e⟩
theorem bkApp_new {m:Bk} {k:Leaf} {v:Int} (h:k∉m.map (·.1)):bkApp m k v=m ++ [(k,[v])]:=if_neg fun z=>h (any_key.mp z)
theorem bkApp_set {m:Bk} {k:Leaf} {l:List Int} {v:Int} {n:Nat} (nd:(m.map (·.1)).Nodup) (h:m[n]?=some (k,l)):bkApp m k v=m.set n (k,l ++ [v]):=by
  unfold bkApp
  rw [if_pos (any_key.mpr (List.mem_map.mpr ⟨_,List.mem_of_getElem? h,rfl⟩))]
  apply List.ext_getElem?
  intro j
  rw [List.getElem?_map]
  by_cases c:j=n
  · subst c
    rw [h,List.getElem?_set_self (List.getElem?_eq_some_iff.mp h).1]
    show some (if k=k then (k,l ++ [v]) else _)=_
    rw [if_pos rfl]
  · rw [List.getElem?_set_ne (Ne.symm c)]
    cases e:m[j]? with
    | none=>rfl
    | some p =>
      have:p.1≠k:=fun z=>c (by
        have e1:(m.map (·.1))[j]?=some k:=by rw [List.getElem?_map,e,← z]; rfl
        have e2:(m.map (·.1))[n]?=some k:=by rw [List.getElem?_map,h]; rfl
        exact (List.getElem?_inj (List.getElem?_eq_some_iff.mp e1).1 nd).mp (e1.trans e2.symm))
      show some (if p.1=k then _ else p)=_
      rw [if_neg this]
theorem set_keys {m:Bk} {k:Leaf} {l l':List Int} {n:Nat} (h:m[n]?=some (k,l)):(m.set n (k,l')).map (·.1)=m.map (·.1):=by
  apply List.ext_getElem?
  intro j
  rw [List.getElem?_map,List.getElem?_map]
  by_cases c:j=n
  · subst c
    rw [List.getElem?_set_self (List.getElem?_eq_some_iff.mp h).1,h]; rfl
  · rw [List.getElem?_set_ne (Ne.symm c)]
theorem kvB_set {m:Bk} {bs:List Addr} {k:Leaf} {l l':List Int} {n:Nat} (h:m[n]?=some (k,l)):kvB (m.set n (k,l')) bs=kvB m bs:=by
  have e:∀ m:Bk,kvB m bs=((m.map (·.1)).zip bs).map fun p=>(p.1,V.ref p.2):=fun m=>by
    unfold kvB
    rw [List.zip_map_left,List.map_map]; rfl
  rw [e,e,set_keys h]
theorem kvB_add {m:Bk} {bs:List Addr} {k:Leaf} {l:List Int} {p:Addr} (h:bs.length=m.length):kvB (m ++ [(k,l)]) (bs ++ [p])=kvB m bs ++ [(k,.ref p)]:=by
  unfold kvB
  rw [List.zip_append h.symm,List.map_append]; rfl
theorem putK_new {m:Bk} {bs:List Addr} {k:Leaf} {v:V} (h:valV (kvB m bs) k=none):putK (kvB m bs) k v=kvB m bs ++ [(k,v)]:=by
  unfold putK
  rw [if_neg fun z=>?_]
  obtain ⟨q,hq,e⟩:=List.any_eq_true.mp z
  unfold valV at h
  rw [Option.map_eq_none_iff,List.find?_eq_none] at h
  exact h q hq e
structure Jb (K:Frag) (B:Base) (Γ:Ow) (P:Program) (w:World) (i:Nat) (a:Addr) (m:Bk) (bs:List Addr) (h0:Hp) (s:En) (G:Hp) (σ:St) (H:Hp):Prop where
  rel:Rel K (B.re h0 B.G0) Γ s G σ H
  O:B.O=[]
  sl:σ[i]?=some (some (.ref a))
  nd:(m.map (·.1)).Nodup
  ln:bs.length=m.length
  bn:bs.Nodup
  an:a∉bs
  ca:h0 a=some (DN P w a (kvB m bs))
  cb:∀ (n:Nat) (k:Leaf) (l:List Int) (b:Addr),m[n]?=some (k,l)→bs[n]?=some b→h0 b=some (.lst (l.map V.int))
  ex:∀ x,x≠a→x∉bs→h0 x=B.H0 x
  fa:∀ x,x=a∨x∈bs→B.H0 x=none∧G x=none
section
variable {K:Frag} {B:Base} {Γ:Ow} {s:En} {G G' H H' h0:Hp} {σ:St} {P:Program} {w:World} {i:Nat} {a:Addr} {m:Bk} {bs:List Addr}
theorem Jb.cell (j:Jb K B Γ P w i a m bs h0 s G σ H):H a=some (DN P w a (kvB m bs)):=j.rel.hH.kp.at_ a _ j.ca rfl
theorem Jb.cells (j:Jb K B Γ P w i a m bs h0 s G σ H) {b:Addr} (hb:b∈bs):∃ (n:Nat) (k:Leaf) (l:List Int),m[n]?=some (k,l)∧bs[n]?=some b∧h0 b=some (.lst (l.map V.int))∧H b=some (.lst (l.map V.int)):=by
  obtain ⟨n,hn,e⟩:=List.getElem_of_mem hb
  have e1:bs[n]?=some b:=by rw [List.getElem?_eq_getElem hn,e]
  have hm:n < m.length:=by rw [← j.ln]; exact hn
  have e2:m[n]?=some (m[n].1,m[n].2):=List.getElem?_eq_getElem hm
  have e3:=j.cb n _ _ b e2 e1
  exact ⟨n,_,_,e2,e1,e3,j.rel.hH.kp.at_ b _ e3 rfl⟩
theorem Jb.grow (j:Jb K B Γ P w i a m bs h0 s G σ H) (g:Grow K G H G' H'):Jb K B Γ P w i a m bs h0 s G' σ H' :=
  ⟨j.rel.grow g,j.O,j.sl,j.nd,j.ln,j.bn,j.an,j.ca,j.cb,j.ex,fun x hx=>⟨(j.fa x hx).1,g.nw x (j.fa x hx).2 (by
    rcases hx with rfl | hx
    · exact ⟨_,j.cell,fun _ z=>nomatch z⟩
    · obtain ⟨_,_,_,_,_,_,e⟩:=j.cells hx
      exact ⟨_,e,fun _ z=>nomatch z⟩)⟩⟩
theorem Jb.app (j : Jb K B Γ P w i a m bs h0 s G σ H) {n : Nat} {k : Leaf} {l : List Int} {b : Addr} {v : Int} (hm : m[n]? = some (k, l)) (hb : bs[n]? = some b) :
    Jb K B Γ P w i a (m.set n (k,l ++ [v])) bs (upd h0 b (.lst (l.map V.int ++ [.int v]))) s G σ (upd H b (.lst (l.map V.int ++ [.int v]))):=by
  have hbm:=List.mem_of_getElem? hb
  have e0:=j.cb n k l b hm hb
  have e1:H b=some (.lst (l.map V.int)):=j.rel.hH.kp.at_ b _ e0 rfl
  have na:a≠b:=fun z=>j.an (by rw [z]; exact hbm)
  refine ⟨j.rel.reb (B:=B.re h0 B.G0) j.O (.inl ⟨_,rfl⟩) (fun u e=>.inl ⟨_,by rw [e1] at e; exact (Option.some.inj e).symm⟩) (.inr fun z=>by have z:h0 b=none:=z; rw [e0] at z; cases z) (j.fa b (.inr hbm)).2,j.O,j.sl,by rw [set_keys hm]; exact j.nd,by rw [List.length_set]; exact j.ln,j.bn,j.an,?_,fun n' k' l' b' h1 h2=>?_,fun x h1 h2=>?_,j.fa⟩
  · rw [upd_ne na,kvB_set hm]; exact j.ca
  · by_cases c:n'=n
    · subst c
      rw [List.getElem?_set_self (List.getElem?_eq_some_iff.mp hm).1] at h1
      cases h1
      rw [hb] at h2
      cases h2
      rw [upd_same,List.map_append]; rfl
    · rw [List.getElem?_set_ne (Ne.symm c)] at h1
      have:b'≠b:=fun z=>c (by
        subst z
        exact (List.getElem?_inj (List.getElem?_eq_some_iff.mp h2).1 j.bn).mp (h2.trans hb.symm))
      rw [upd_ne this]; exact j.cb n' k' l' b' h1 h2
  · rw [upd_ne fun z=>h2 (by rw [z]; exact hbm)]; exact j.ex x h1 h2
theorem Jb.add (j : Jb K B Γ P w i a m bs h0 s G σ H) {k : Leaf} {p : Addr} (hk : k ∉ m.map (·.1)) (hp : H p = none) :
    Jb K B Γ P w i a (m ++ [(k,[])]) (bs ++ [p]) (upd (upd h0 p (.lst [])) a (DN P w a (kvB m bs ++ [(k,.ref p)]))) s G σ (upd (upd H p (.lst [])) a (DN P w a (kvB m bs ++ [(k,.ref p)]))):=by
  have pa:a≠p:=fun z=>by have:=j.cell; rw [z,hp] at this; cases this
  have pb:p∉bs:=fun z=>by obtain ⟨_,_,_,_,_,_,e⟩:=j.cells z; rw [hp] at e; cases e
  have h0p:h0 p=none:=j.rel.hH.free hp
  have r1:=j.rel.reb (B:=B.re h0 B.G0) (x:=p) (c:=.lst []) j.O (.inl ⟨_,rfl⟩) (fun u e=>by rw [hp] at e; cases e) (.inl hp) (j.rel.GH.free hp)
  have ea:upd H p (.lst []) a=some (DN P w a (kvB m bs)):=by rw [upd_ne pa]; exact j.cell
  have r2:=r1.reb (B:=B.re (upd h0 p (.lst [])) B.G0) (x:=a) (c:=DN P w a (kvB m bs ++ [(k,.ref p)])) j.O (.inr (.inl ⟨P,w,_,rfl⟩)) (fun u e=>.inr (.inl ⟨P,w,kvB m bs,by rw [ea] at e; exact (Option.some.inj e).symm⟩)) (.inr fun z=>by
    have z:upd h0 p (.lst []) a=none:=z
    rw [upd_ne pa,j.ca] at z; cases z) (j.fa a (.inl rfl)).2
  refine ⟨r2,j.O,j.sl,?_,by rw [List.length_append,List.length_append,j.ln]; rfl,?_,?_,by rw [upd_same,kvB_add j.ln],fun n k' l' b' h1 h2=>?_,fun x h1 h2=>?_,fun x hx=>?_⟩
  · rw [List.map_append]
    exact List.nodup_append.mpr ⟨j.nd,by simp,fun x hx y hy z=>by
      have:y=k:=by simpa using hy
      subst this; subst z; exact hk hx⟩
  · exact List.nodup_append.mpr ⟨j.bn, by simp, fun x hx y hy z => by
      have:y=p:=by simpa using hy
      subst this; subst z; exact pb hx⟩
  · intro z
    rcases List.mem_append.mp z with z | z
    · exact j.an z
    · exact pa (by simpa using z)
  · have nb:b'∈bs ++ [p]:=List.mem_of_getElem? h2
    have na:b'≠a:=fun z=>by
      subst z
      rcases List.mem_append.mp nb with z | z
      · exact j.an z
      · exact pa (by simpa using z)
    rw [upd_ne na]
    by_cases c:n < m.length
    · rw [List.getElem?_append_left c] at h1
      rw [List.getElem?_append_left (by rw [j.ln]; exact c)] at h2
      rw [upd_ne fun z=>pb (by rw [← z]; exact List.mem_of_getElem? h2)]
      exact j.cb n k' l' b' h1 h2
    · have hn : n = m.length := by
        have:=(List.getElem?_eq_some_iff.mp h1).1
        rw [List.length_append,List.length_singleton] at this
        omega
      subst hn
      rw [List.getElem?_append_right (Nat.le_refl _),Nat.sub_self] at h1
      rw [← j.ln,List.getElem?_append_right (Nat.le_refl _),Nat.sub_self] at h2
      cases h1
      cases h2
      rw [upd_same]; rfl
  · rw [upd_ne h1,upd_ne fun z=>h2 (by rw [z]; simp)]
    exact j.ex x h1 fun z=>h2 (List.mem_append_left _ z)
  · rcases hx with hx | hx
    · exact j.fa x (.inl hx)
    · rcases List.mem_append.mp hx with hx | hx
      · exact j.fa x (.inr hx)
      · have:x=p:=by simpa using hx
        subst this
        exact ⟨by rw [← j.ex x (Ne.symm pa) pb]; exact h0p,j.rel.GH.free hp⟩
end
section
variable {X:Cx} {B:Base} {W:WX} {Γ Γn:Ow} {o:OC} {tg it ke ve e:Expr} {rest:List Stmt} {vs:List Nat} {ft:FT} {fi:En→R (List D)} {fk fv fe:En→R D} {fb:En→Out} {i j:Nat} {x y:Str} {p1 p2 p3 p4 p5 p6 p7 p8 p9 p10 p11 p12:Pos}
theorem bk_fin {a b : Addr} {m : Bk} {bs : List Addr} {h0 G H : Hp} {s : En} {σ : St} {n : Nat} {k : Leaf} {l : List Int} {v : Int} {Q : VK} (j : Jb X.K B Γ X.prog X.w i a m bs h0 s G σ H) (hm : m[n]? = some (k, l)) (hb : bs[n]? = some b) (e3 : fv s = .ok (.int v)) (hl : l.length < sizeLine)
    (q:∀ h0' G' H',Same G G'→Jb X.K B Γ X.prog X.w i a (m.set n (k,l ++ [v])) bs h0' s G' σ H'→Q .non H') :
    tyV X.K "list" (.ref b) H∧tCons (fun σ H Q=>∃ h0,tV X.K (B.re h0 B.G0) W0 Γ fv σ H Q) tNil σ H fun xs H2=>rAppend (.ref b) xs H2 Q:=by
  have hbH:∀ {h0 s G H},Jb X.K B Γ X.prog X.w i a m bs h0 s G σ H→H b=some (.lst (l.map V.int)):=fun j=>j.rel.hH.kp.at_ b _ (j.cb n k l b hm hb) rfl
  refine ⟨.inl ⟨rfl,_,.inl (.inl (hbH j))⟩,h0,s,G,j.rel,?_⟩
  rw [e3]
  intro z G' H' g rz
  have j':=j.grow g
  obtain rfl:z=.int v:=by cases rz; rfl
  exact ⟨b,l.map V.int,.int v,rfl,rfl,hbH j',by rw [List.length_map]; exact hl,q _ G' _ g.g (j'.app hm hb)⟩
theorem ps_bkB (hN : X.N[i]? = some x) (hv : Vis X.env.scope x) (h1 : (x == ("__debug__" : Str)) = false) (h2 : (x == ("__classdict__" : Str)) = false) (hk : ∀ h0, EV X (B.re h0 B.G0) W0 Γ ke fk) (hve : ∀ h0, EV X (B.re h0 B.G0) W0 Γ ve fv)
    (hs1:noStar ke=true) (hs2:noStar ve=true) (hl1:(p2.endLine == p4.line)=true) (hl2:(p5.endLine == p6.line)=true) :
    PS X (.Expr (.Call (.Attribute (.Call (.Attribute (.Name x p1) "setdefault" p2) [ke,.List [] p3] [] p4) "append" p5) [ve] [] p6) p7)
      (fun Dn σ H=>∃ a m bs h0 s G d k v,Jb X.K B Γ X.prog X.w i a m bs h0 s G σ H∧fk s=.ok d∧lfD d=some k∧fv s=.ok (.int v)∧m.length < sizeLine∧(∀ p∈m,p.2.length < sizeLine)∧∀ bs' h0' G' H',Same G G'→Jb X.K B Γ X.prog X.w i a (bkApp m k v) bs' h0' s G' σ H'→Dn.nx σ H'):=by
  have hn:notSuper (.Name x p1)=true:=rfl
  have hsl:noStar (.List [] p3)=true:=rfl
  have hset:=pe_nsetd (apos:=p2) (cpos:=p4) (pe_var (pos:=p1) hN hv h1 h2) (PE.ex fun h0:Hp=>hk h0) (pe_lst (pos:=p3) pa_nil) ⟨base_ok2 hn _ _ _,few_ok (by simp [hs1,hsl]) (by simp),hl1,by rw [noStar_ok hs1,noStar_ok hsl]; rfl⟩
  have pa:PA X [ve] (tCons (fun σ H Q=>∃ h0,tV X.K (B.re h0 B.G0) W0 Γ fv σ H Q) tNil):=pa_cons (PE.ex fun h0:Hp=>hve h0) pa_nil (noStar_ok hs2 _ _)
  refine PS.imp (ps_expr (pos:=p7) (pe_bm PySem.F.plainAttrs_list PySem.F.slot_list_append PySem.F.type_list_append mt_append hset pa (base_ok2 rfl _ _ _) (few_ok (by simp [hs2]) (by simp)) hl2 (noStar_ok hs2 _ _) rfl) rfl) fun Dn σ H ⟨a,m,bs,h0,s,G,d,k,v,j,e1,e2,e3,l1,l2,q⟩=>?_
  refine ⟨.ref a,j.sl,a,kvB m bs,rfl,j.cell,h0,s,G,j.rel,?_⟩
  rw [e1]
  intro z G1 H1 g1 rz
  have j1:=j.grow g1
  refine ⟨Nat.zero_le _,fun p hp=>?_⟩
  have gp:Grow X.K G1 H1 G1 (upd H1 p (.lst [])):=⟨.refl _,.of (Same.upd hp),j1.rel.GH.trans (Same.upd hp),fun _ h _=>h⟩
  have j2:=j1.grow gp
  refine ⟨kvB m bs,k,j2.cell,lf_R rz e2,by rw [kvB_len j.ln]; exact l1,fun u hu=>?_,fun hn=>?_⟩
  · rcases kvB_find (k:=k) j.ln with ⟨h,_,_⟩ | ⟨n,l,b,f1,f2,f3,_⟩
    · rw [h] at hu; cases hu
    · rw [f3] at hu; cases hu
      refine bk_fin j2 f1 f2 e3 (l2 _ (List.mem_of_getElem? f1)) fun h0' G' H' g' j'=>q bs h0' G' H' (g1.g.trans g') ?_
      rw [bkApp_set j.nd f1]; exact j'
  · rcases kvB_find (k:=k) j.ln with ⟨h,_,f⟩ | ⟨n,l,b,f1,f2,f3,_⟩
    · have j3:=j1.add f hp
      rw [putK_new h]
      refine bk_fin (n:=m.length) (l:=[]) j3 (by rw [List.getElem?_append_right (Nat.le_refl _),Nat.sub_self]; rfl) (by rw [← j.ln,List.getElem?_append_right (Nat.le_refl _),Nat.sub_self]; rfl) e3 (by decide) fun h0' G' H' g' j'=>q (bs ++ [p]) h0' G' H' (g1.g.trans g') ?_
      rw [bkApp_new f]
      have:(m ++ [(k,([]:List Int))]).set m.length (k,[] ++ [v])=m ++ [(k,[v])]:=by
        rw [List.set_append_right _ _ (Nat.le_refl _),Nat.sub_self]; rfl
      rw [← this]; exact j'
    · rw [f3] at hn; cases hn
end
def odA (i:Nat) (a:Addr):OD:=⟨[i],0,false,true,some a,[],true,[]⟩
structure NNok (X:Cx) (B:Base) (i j:Nat):Prop where
  ex:∃ (a:Addr) (od:Obj) (m:Bk) (bs:List Addr),B.O=[odA i a,odA j (bkEnc m)]∧FN X.prog X.w B.G0 a od (kvB m bs)∧bs.length=m.length ∧
    (∀ (n:Nat) (k:Leaf) (l:List Int) (b:Addr),m[n]?=some (k,l)→bs[n]?=some b→B.G0 b=some (.lst (l.map V.int)))∧m.length≤sizeLine∧(∀ p∈m,p.2.length≤sizeLine)∧(m.all fun p=>okLf p.1)=true
def bkAt (s:En) (j:Nat):Option Bk:=match s[j]? with
  | some (some (.adr c))=>some (bkDec c)
  | _=>none
theorem odA_at {K:Frag} {B:Base} {Γ:Ow} {s:En} {G H:Hp} {σ:St} {i n:Nat} {a:Addr} (r:Rel K B Γ s G σ H) (h:B.O[n]?=some (odA i a)):σ[i]?=some (some (.ref a)):=by
  obtain ⟨α,_,q⟩:=r.ob
  have q0:=q n _ h
  obtain ⟨l,hl,v,e⟩:=q0.al rfl
  obtain rfl:l=i:=by simpa [odA] using hl
  have:=q0.rt l hl v e
  rw [e,this,q0.ad a rfl]
theorem bk_code {K:Frag} {B:Base} {Γ:Ow} {s:En} {G H:Hp} {σ:St} {j n:Nat} {m m':Bk} (r:Rel K B Γ s G σ H) (h:B.O[n]?=some (odA j (bkEnc m))) (e:bkAt s j=some m'):m'=m:=by
  unfold bkAt at e
  split at e
  · rename_i c q
    obtain ⟨v,e1,rd,_⟩:=r.now q
    rw [odA_at r h] at e1
    cases rd
    cases e1
    rw [bkDec_enc] at e
    exact (Option.some.inj e).symm
  · cases e
theorem ints_rd {K:Frag} {G:Hp}:∀ l:List Int,RDs K G (l.map V.int) (l.map D.int)
  | []=>.nil
  | i :: l=>.cons (.int i) (ints_rd l)
theorem lf_rd {K:Frag} {G:Hp} {k:Leaf} (h:okLf k=true):RD K G (lfV k) (dLf k):=by
  cases k with
  | none=>exact .non
  | num i=>exact .int i
  | text x =>
    obtain ⟨a1,a2⟩:=Bool.and_eq_true_iff.mp (show (PyData.strOk x && decide (x.length≤sizeLine))=true from h)
    exact .str x a1 (of_decide_eq_true a2)
section
variable {X:Cx} {B:Base} {W:WX} {Γ:Ow} {tg e:Expr} {fe:En→R D} {i j:Nat} {x:Str} {p1 p2:Pos}
def bkGet (m:Bk) (k:Leaf):Option (List Int):=(m.find? fun p=>decide (p.1=k)).map (·.2)
def bkG (m:Option Bk) (d:D):R D:=R.of (m.bind fun m=>(lfD d).bind fun k=>(bkGet m k).map fun l=>D.lst (l.map D.int))
def eBkG (j:Nat) (fe:En→R D):En→R D:=fun s=>fe s >>= fun d=>bkG (bkAt s j) d
def bkN (m:Option Bk) (d:D):R Bool:=R.of (m.bind fun m=>(lfD d).map fun k=> !(bkGet m k).isSome)
def eBkN (j:Nat) (fe:En→R D):En→R Bool:=fun s=>fe s >>= fun d=>bkN (bkAt s j) d
def eBkI (j:Nat):En→R (List D):=fun s=>R.of ((bkAt s j).map fun m=>m.map fun p=>dLf p.1)
theorem of_ok {α:Type} {o:Option α} {P:α→Prop} {E:Str→Prop} (h:Done (R.of o) P E):∃ d,o=some d∧P d:=by
  cases o with
  | none=>exact h.elim
  | some d=>exact ⟨d,rfl,h⟩
theorem ev_bkG (hb:NNok X B i j) (hN:X.N[i]?=some x) (hv:Vis X.env.scope x) (h1:(x == ("__debug__":Str))=false) (h2:(x == ("__classdict__":Str))=false) (hs:PlainIx e) (he:EV X B W Γ e fe):EV X B W Γ (.Subscript (.Name x p1) e p2) (eBkG j fe):=by
  obtain ⟨a,od,m,bs,hO,hf,hl,hc,l1,l2,ok⟩:=hb.ex
  refine PE.imp (pe_ix ix_nn (pe_var hN hv h1 h2) he hs) fun σ H Q ⟨s,G,rl,k⟩=>⟨.ref a,odA_at rl (n:=0) (by rw [hO]; rfl),s,G,rl,k.bind.imp (fun d _ k y G1 H1 g1 ry=>?_) fun _ z=>z⟩
  obtain ⟨r,e1,k⟩:=of_ok k
  obtain ⟨m',em,e1⟩:=Option.bind_eq_some_iff.mp e1
  obtain ⟨kk,ek,e1⟩:=Option.bind_eq_some_iff.mp e1
  obtain rfl:=bk_code rl (n:=1) (by rw [hO]; rfl) em
  have r1:=rl.grow g1
  rcases kvB_find (k:=kk) hl with ⟨_,f,_⟩ | ⟨n,l,b,f1,f2,f3,f4⟩
  · unfold bkGet at e1; rw [f] at e1; cases e1
  · unfold bkGet at e1; rw [f4] at e1; cases e1
    refine ⟨a,od,kvB m' bs,kk,.ref b,rfl,r1.GH _ _ (r1.hG _ _ hf),lf_R ry ek,f3,?_⟩
    exact k (.ref b) G1 H1 g1 (.lst (r1.hG _ _ (hc n kk l b f1 f2)) (by rw [List.length_map]; exact l2 _ (List.mem_of_getElem? f1)) (ints_rd l))
theorem bkN_two (hb:NNok X B i j) {σ:St} {H:Hp} {Q:Bool→Hp→Prop} (k:tTe X.K B W Γ (eBkN j fe) σ H Q):tOp (rNotInN X.prog X.w) (tV X.K B W Γ fe) (fun σ H Q=>∃ v,σ[i]?=some (some v)∧Q v H) σ H (fun v H'=>∃ b,v=.bl b∧Q b H'):=by
  obtain ⟨a,od,m,bs,hO,hf,hl,hc,l1,l2,ok⟩:=hb.ex
  obtain ⟨s,G,rl,k⟩:=k
  refine ⟨s,G,rl,k.bind.imp (fun d _ k y G1 H1 g1 ry=>?_) fun _ z=>z⟩
  have r1:=rl.grow g1
  refine ⟨.ref a,odA_at r1 (n:=0) (by rw [hO]; rfl),?_⟩
  obtain ⟨r,e1,k⟩:=of_ok k
  obtain ⟨m',em,e1⟩:=Option.bind_eq_some_iff.mp e1
  obtain ⟨kk,ek,e1⟩:=Option.map_eq_some_iff.mp e1
  obtain rfl:=bk_code rl (n:=1) (by rw [hO]; rfl) em
  refine ⟨a,od,kvB m' bs,kk,rfl,r1.GH _ _ (r1.hG _ _ hf),lf_R ry ek,_,rfl,?_⟩
  have e2:(valV (kvB m' bs) kk).isSome=(bkGet m' kk).isSome:=by
    unfold bkGet
    rcases kvB_find (k:=kk) hl with ⟨h1,f,_⟩ | ⟨n,l,b,f1,f2,f3,f4⟩
    · rw [h1,f]; rfl
    · rw [f3,f4]; rfl
  rw [e2,e1]
  exact k G1 H1 g1
theorem et_bkN (hb:NNok X B i j) (hN:X.N[i]?=some x) (hv:Vis X.env.scope x) (h1:(x == ("__debug__":Str))=false) (h2:(x == ("__classdict__":Str))=false) (he:EV X B W Γ e fe):ET X B W Γ (.Compare e [.NotIn] [.Name x p1] p2) (eBkN j fe) :=
  PT.imp (pt_cmpR op_notInN he (pe_var hN hv h1 h2) rfl) fun σ H Q k=>bkN_two hb k
theorem ei_bk (hb:NNok X B i j) (hN:X.N[i]?=some x) (hv:Vis X.env.scope x) (h1:(x == ("__debug__":Str))=false) (h2:(x == ("__classdict__":Str))=false):EIf X B W Γ tg (.Name x p1) (eBkI j):=by
  obtain ⟨a,od,m,bs,hO,hf,hl,hc,l1,l2,ok⟩:=hb.ex
  refine PI.imp (pi_keysN (pe_var hN hv h1 h2)) fun σ H R ⟨s,G,rl,k⟩=>?_
  obtain ⟨ds,e1,k⟩:=of_ok k
  obtain ⟨m',em,e1⟩:=Option.map_eq_some_iff.mp e1
  obtain rfl:=bk_code rl (n:=1) (by rw [hO]; rfl) em
  subst e1
  have fG:FN X.prog X.w G a od (kvB m' bs):=rl.hG _ _ hf
  have ln:(m'.map fun p=>dLf p.1).length=(kvB m' bs).length:=by rw [List.length_map,kvB_len hl]
  refine ⟨.ref a,odA_at rl (n:=0) (by rw [hO]; rfl),a,od,kvB m' bs,rfl,rl.GH _ _ fG,k _ G H (.refl rl.GH) ⟨by rw [List.length_map]; exact l1,fun G1 H1 g gh _=>⟨gh _ _ (g _ _ fG),by rw [ln]; exact Nat.le_refl _⟩,fun n d G1 H1 e g gh _=>⟨gh _ _ (g _ _ fG),?_⟩,fun n d G1 H1 y H2 e g gh _ yl=>?_⟩⟩
  · have:=(List.getElem?_eq_some_iff.mp e).1
    rw [ln] at this; exact this
  · obtain ⟨rfl,kk,v,hkv,rfl⟩:=yl
    obtain ⟨l,b,f1,f2,_⟩:=kvB_get hkv
    rw [List.getElem?_map,f1] at e
    cases e
    exact ⟨G1,.refl gh,lf_rd (List.all_eq_true.mp ok _ (List.mem_of_getElem? f1))⟩
end
def odsB (i j:Nat) (a c:Addr):List OD:=[odA i a,odA j c]
def gBk (G h1:Hp) (a:Addr) (bs:List Addr):Hp:=fun x=>if x=a∨x∈bs then h1 x else G x
section
variable {K:Frag} {B:Base} {Γ:Ow} {s:En} {G H h0 h1:Hp} {σ:St} {P:Program} {w:World} {i j:Nat} {a c:Addr} {m:Bk} {bs:List Addr} {pr:Nat→Bool} {od:Obj}
theorem objA {G1 H1 g0:Hp} {O:List OD} {σ:St} {l:Nat} {b:Addr} (hp:pr l=true) (e:σ[l]?=some (some (.ref b))):ObjR ⟨h1,g0,O,pr⟩ G1 H1 σ (odA l b) b:=by
  refine ⟨⟨fun n hn=>?_,fun p hp=>(by cases hp),fun _=>⟨rfl,rfl⟩⟩,fun b' z=>Option.some.inj z,fun n hn v ev=>?_,⟨fun n hn=>(by cases hn),fun _ n hn=>(by cases hn)⟩,fun _=>⟨l,by simp [odA],_,e⟩,fun p hp=>(by cases hp),fun z=>(by cases z)⟩
  · have:n=l:=by simpa [odA] using hn
    subst this; exact hp
  · have:n=l:=by simpa [odA] using hn
    subst this
    rw [e] at ev; cases ev; rfl
theorem nn_in (J : Jb K B Γ P w i a m bs h0 s G σ H) (hij : i ≠ j) (hj : j < s.length) (oj : oty Γ j = .fz) (hpi : pr i = true) (hpj : pr j = true) :
    Rel K ⟨upd h0 a (.frz od (DN P w a (kvB m bs))),gBk G (upd h0 a (.frz od (DN P w a (kvB m bs)))) a bs,odsB i j a c,pr⟩ Γ ((s.set i none).set j (some (.adr c))) (gBk G (upd h0 a (.frz od (DN P w a (kvB m bs)))) a bs) (σ.set j (some (.ref c))) (upd H a (.frz od (DN P w a (kvB m bs)))) ∧
    Same B.H0 (upd h0 a (.frz od (DN P w a (kvB m bs))))∧Same G (gBk G (upd h0 a (.frz od (DN P w a (kvB m bs)))) a bs)∧(∀ x,B.G0 x=none→Cel B.H0 x→gBk G (upd h0 a (.frz od (DN P w a (kvB m bs)))) a bs x=none) ∧
    gBk G (upd h0 a (.frz od (DN P w a (kvB m bs)))) a bs a=some (.frz od (DN P w a (kvB m bs))) ∧
    ∀ (n:Nat) (k:Leaf) (l:List Int) (b:Addr),m[n]?=some (k,l)→bs[n]?=some b→gBk G (upd h0 a (.frz od (DN P w a (kvB m bs)))) a bs b=some (.lst (l.map V.int)):=by
  have hcell:=J.cell
  have r1:=J.rel.reb (B:=B.re h0 B.G0) (x:=a) (c:=.frz od (DN P w a (kvB m bs))) J.O (.inr (.inr ⟨_,_,rfl⟩)) (fun u e=>.inr (.inl ⟨P,w,kvB m bs,by rw [hcell] at e; exact (Option.some.inj e).symm⟩)) (.inr fun z=>by
    have z:h0 a=none:=z
    rw [J.ca] at z; cases z) (J.fa a (.inl rfl)).2
  have hb:∀ b∈bs,∃ xs,upd h0 a (.frz od (DN P w a (kvB m bs))) b=some (.lst xs):=fun b hm=>by
    obtain ⟨n,k,l,_,_,e,_⟩:=J.cells hm
    exact ⟨_,by rw [upd_ne fun z=>J.an (by rw [← z]; exact hm)]; exact e⟩
  have bk:∀ x,x=a∨x∈bs→∃ o,upd h0 a (.frz od (DN P w a (kvB m bs))) x=some o∧isTb o=false:=fun x hx=>by
    rcases hx with rfl | hx
    · exact ⟨_,upd_same,rfl⟩
    · obtain ⟨xs,e⟩:=hb x hx; exact ⟨_,e,rfl⟩
  have sG1:Same G (gBk G (upd h0 a (.frz od (DN P w a (kvB m bs)))) a bs):=fun x o e=>by
    unfold gBk
    rw [if_neg fun z=>by rw [(J.fa x z).2] at e; cases e]; exact e
  have gn:∀ x,upd h0 a (.frz od (DN P w a (kvB m bs))) x=none→G x=none→gBk G (upd h0 a (.frz od (DN P w a (kvB m bs)))) a bs x=none:=fun x e1 e2=>by
    unfold gBk
    split
    · exact e1
    · exact e2
  obtain ⟨φ,sl,hf⟩:=r1.sl
  have hf:∀ i x,x∈φ i→upd h0 a (.frz od (DN P w a (kvB m bs))) x=none:=hf
  refine ⟨⟨by rw [List.length_set,List.length_set,List.length_set]; exact r1.len,⟨fun n=>if n=j then [] else φ n,⟨fun n d e=>?_,fun n=>?_,fun n n' x h1 h2=>?_,fun n x h=>?_⟩,fun n x h=>?_⟩,r1.hH,.refl _,⟨fun x o e=>?_,fun x o e=>?_⟩,fun x e _=>e,?_⟩,fun x o e=>?_,sG1,fun x e1 e2=>?_,?_,fun n k l b e1 e2=>?_⟩
  · by_cases z:n=j
    · subst z
      rw [if_pos rfl]
      rw [List.getElem?_set_self (by rw [List.length_set]; exact hj)] at e
      cases e
      refine ⟨.ref c,by rw [List.getElem?_set_self (by rw [← r1.len]; exact hj)],?_⟩
      rw [oj]
      exact .fz (.adr c)
    · rw [if_neg z]
      rw [List.getElem?_set_ne (Ne.symm z)] at e
      rcases getElem?_set_cases e with ⟨_,e'⟩ | ⟨ne,e'⟩
      · cases e'
      · obtain ⟨v,e1,ow⟩:=sl.at_ n d e'
        exact ⟨v,by rw [List.getElem?_set_ne (Ne.symm z)]; exact e1,ow.mono sG1 fun _ _ _ q=>q⟩
  · split
    · exact List.nodup_nil
    · exact sl.nd n
  · split at h1
    · cases h1
    · split at h2
      · cases h2
      · exact sl.dj n n' x h1 h2
  · split at h
    · cases h
    · obtain ⟨c1,c2⟩:=sl.ok n x h
      exact ⟨c1,gn x (hf n x h) c2⟩
  · have h:x∈(if n=j then [] else φ n):=h
    by_cases z:n=j
    · rw [if_pos z] at h; cases h
    · rw [if_neg z] at h; exact hf n x h
  · unfold gBk at e
    split at e
    · rename_i hx
      obtain ⟨o',e1,e2⟩:=bk x hx
      rw [e1] at e; cases e
      exact r1.hH.kp.at_ x _ e1 e2
    · exact r1.GH _ _ e
  · unfold gBk at e
    split at e
    · rename_i hx
      obtain ⟨o',e1,e2⟩:=bk x hx
      rw [e1] at e; cases e; exact e2
    · exact r1.GH.n x o e
  · refine ⟨fun n=>if n=0 then a else c,fun k l o o' e1 _ ho=>?_,fun k o e=>?_⟩
    · match k,e1 with
      | 0,e1=>cases e1; cases ho
      | 1,e1=>cases e1; cases ho
    · match k,e with
      | 0,e =>
        cases e
        exact objA hpi (by rw [List.getElem?_set_ne (Ne.symm hij)]; exact J.sl)
      | 1,e =>
        cases e
        exact objA hpj (by rw [List.getElem?_set_self (by rw [← r1.len]; exact hj)])
  · by_cases z:x=a∨x∈bs
    · rw [(J.fa x z).1] at e; cases e
    · rw [upd_ne fun y=>z (.inl y),J.ex x (fun y=>z (.inl y)) fun y=>z (.inr y)]; exact e
  · obtain ⟨o,e,n⟩:=e2
    have z:¬(x=a∨x∈bs):=fun z=>by rw [(J.fa x z).1] at e; cases e
    unfold gBk
    rw [if_neg z]
    exact J.rel.fr x e1 ⟨o,by show h0 x=some o; rw [J.ex x (fun y=>z (.inl y)) fun y=>z (.inr y)]; exact e,n⟩
  · unfold gBk
    rw [if_pos (.inl rfl),upd_same]
  · unfold gBk
    have hm:=List.mem_of_getElem? e2
    rw [if_pos (.inr hm),upd_ne fun z=>J.an (by rw [← z]; exact hm)]
    exact J.cb n k l b e1 e2
def clrB (i j:Nat) (s:En):En:=(s.set i none).set j none
theorem nn_back {Γ':Ow} {s':En} {σ':St} {G1 G' H' g0:Hp} {O:List OD} (hO:B.O=[]) (sH:Same B.H0 h1) (sG:Same B.G0 G) (s1:Same G g0) (fr:∀ x,B.G0 x=none→Cel B.H0 x→g0 x=none) (r:Rel K ⟨h1,g0,O,pr⟩ Γ' s' G' σ' H'):Rel K B Γ' (clrB i j s') G' σ' H':=by
  obtain ⟨φ,sl,hf⟩:=r.sl
  refine ⟨by unfold clrB; rw [List.length_set,List.length_set]; exact r.len,⟨φ,⟨fun n d e=>?_,sl.nd,sl.dj,sl.ok⟩,fun n x h=>?_⟩,⟨(Kp.of sH).trans r.hH.kp,r.hH.tk⟩,sG.trans (s1.trans r.hG),r.GH,fun x e1 e2=>?_,.nil hO⟩
  · unfold clrB at e
    rcases getElem?_set_cases e with ⟨_,e'⟩ | ⟨_,e'⟩
    · cases e'
    · rcases getElem?_set_cases e' with ⟨_,e''⟩ | ⟨_,e''⟩
      · cases e''
      · exact sl.at_ n d e''
  · exact sH.free (hf n x h)
  · obtain ⟨o,e,n⟩:=e2
    exact r.fr x (fr x e1 ⟨o,e,n⟩) ⟨o,sH _ _ e,n⟩
def bkEnd (i j:Nat):Out→Out
  | .nx s=>.nx (clrB i j s)
  | .bk s=>.bk (clrB i j s)
  | .ct s=>.ct (clrB i j s)
  | .rt d=>.rt d
  | _=>.stuck
theorem nn_out {W:WX} {Γn:Ow} {o:OC} {Dn:Ends} {g0:Hp} {O:List OD} {r:Out} (hO:B.O=[]) (sH:Same B.H0 h1) (sG:Same B.G0 G) (s1:Same G g0) (fr:∀ x,B.G0 x=none→Cel B.H0 x→g0 x=none) (k:Fin K B W Γn o G Dn (bkEnd i j r)):Fin K ⟨h1,g0,O,pr⟩ W0 Γn o g0 Dn r:=by
  cases r with
  | nx s'=>exact fun σ' G' H' g rl=>k σ' G' H' (s1.trans g) (nn_back (G1:=g0) hO sH sG s1 fr rl)
  | bk s'=>exact fun σ' G' H' g rl=>k σ' G' H' (s1.trans g) (nn_back (G1:=g0) hO sH sG s1 fr rl)
  | ct s'=>exact fun σ' G' H' g rl=>k σ' G' H' (s1.trans g) (nn_back (G1:=g0) hO sH sG s1 fr rl)
  | ex c s'=>exact k.elim
  | stuck=>exact k.elim
  | rm x s'=>exact k.elim
  | rt x =>
    intro v G' H' g n
    refine k v G' H' ⟨sG.trans (s1.trans g.g),(Kp.of sH).trans g.h,g.gh,fun x e1 e2=>?_⟩ ?_
    · obtain ⟨o,e,n⟩:=e2
      exact g.nw x (fr x e1 ⟨o,e,n⟩) ⟨o,sH _ _ e,n⟩
    · obtain ⟨fq,ow,nd,okq⟩:=n
      exact ⟨fq,ow,nd,fun b m=>⟨sH.free (okq b m).1,(okq b m).2⟩⟩
end
def bkRun (ft:FT) (fk fv:En→R D):List D→En→Bk→Option (Bk×En)
  | [],s,m=>some (m,s)
  | d :: ds,s,m=>(ft d s).bind fun s'=>match fk s',fv s' with
    | .ok kd,.ok (.int v)=>(lfD kd).bind fun k=>bkRun ft fk fv ds s' (bkApp m k v)
    | _,_=>none
def sBk (i j:Nat) (ft:FT) (fi:En→R (List D)) (fk fv:En→R D) (fb:En→Out):En→Out:=fun s=>match fi (s.set i none) with
  | .ok ds=>(match bkRun ft fk fv ds (s.set i none) [] with
    | some (m,s')=>if i < s.length∧j < s'.length∧(m.all fun p=>okLf p.1)=true then bkEnd i j (fb ((s'.set i none).set j (some (.adr (bkEnc m))))) else .stuck
    | none=>.stuck)
  | _=>.stuck
theorem bkApp_len {m:Bk} {k:Leaf} {v:Int} {n:Nat} (h1:m.length≤n) (h2:∀ p∈m,p.2.length≤n):(bkApp m k v).length≤n + 1∧∀ p∈bkApp m k v,p.2.length≤n + 1:=by
  unfold bkApp
  split
  · refine ⟨by rw [List.length_map]; omega,fun p hp=>?_⟩
    obtain ⟨q,hq,rfl⟩:=List.mem_map.mp hp
    have:=h2 q hq
    split
    · show (q.2 ++ [v]).length≤n + 1
      rw [List.length_append,List.length_singleton]; omega
    · omega
  · refine ⟨by rw [List.length_append,List.length_singleton]; omega,fun p hp=>?_⟩
    rcases List.mem_append.mp hp with hp | hp
    · have:=h2 p hp; omega
    · rw [List.mem_singleton.mp hp]; show 1≤n + 1; omega
theorem PSs.ex {X:Cx} {st:List Stmt} {α:Type} {t:α→TS} (h:∀ a,PSs X st (t a)):PSs X st (fun D σ H=>∃ a,t a D σ H):=⟨fun pins s σ H D I ⟨a,q⟩=>(h a).run pins s σ H D I q⟩
theorem PSs.exP {X:Cx} {st:List Stmt} {α:Prop} {t:TS} (h:α→PSs X st t):PSs X st (fun D σ H=>α∧t D σ H):=⟨fun pins s σ H D I ⟨a,q⟩=>(h a).run pins s σ H D I q⟩
theorem PG.ex {X:Cx} {tg:Expr} {α:Type} {t:α→L2.TG} (h:∀ a,PG X tg (t a)):PG X tg (fun v σ H Q=>∃ a,t a v σ H Q):=⟨fun pins s σ H v u Q I r ⟨a,q⟩=>(h a).run pins s σ H v u Q I r q⟩
section
variable {X:Cx} {B:Base} {W:WX} {Γ Γn:Ow} {o:OC} {tg it ke ve e:Expr} {rest:List Stmt} {vs:List Nat} {ft:FT} {fi:En→R (List D)} {fk fv fe:En→R D} {fb:En→Out} {i j:Nat} {x y:Str} {pr:Nat→Bool} {p1 p2 p3 p4 p5 p6 p7 p8 p9 p10 p11 p12 p13:Pos}
theorem svs_bk (hij : i ≠ j) (hO : B.O = []) (oj : oty Γ j = .fz) (hpi : pr i = true) (hpj : pr j = true) (hpo : PassesOwn (model X.prog X.w) X.A X.env X.xe) (hc : X.calm = true) (hNd : X.N.Nodup) (hN : X.N[i]? = some x) (hNj : X.N[j]? = some y) (hgh : ¬ Vis X.env.scope y)
    (hx:Loc X.env.scope x) (hfn:X.fn x=true∨X.env.scope.names.lookup x=some .local) (hv:Vis X.env.scope x) (h1:(x == ("__debug__":Str))=false) (h2:(x == ("__classdict__":Str))=false)
    (hs0:swapsWithSole [.Name x p9] (.Dict [] [] p10) p11.line X.env=pure false) (hw0:swappedStores [.Name x p9] (.Dict [] [] p10) X.env=pure none)
    (hst:notSet it=true) (hi:EIf X B W Γ tg it fi) (hg:∀ h0,EG X (B.re h0 B.G0) Γ vs tg ft) (hvs:i∉vs)
    (hk:∀ h0,EV X (B.re h0 B.G0) W0 Γ ke fk) (hve:∀ h0,EV X (B.re h0 B.G0) W0 Γ ve fv) (hs1:noStar ke=true) (hs2:noStar ve=true) (hl1:(p2.endLine == p4.line)=true) (hl2:(p5.endLine == p6.line)=true)
    (hbd:∀ (h0 g0:Hp) (O:List OD),NNok X ⟨h0,g0,O,pr⟩ i j→SVs X ⟨h0,g0,O,pr⟩ W0 Γ Γn o rest fb) :
    SVs X B W Γ Γn o (.Assign [.Name x p9] (.Dict [] [] p10) p11 :: .For tg it [.Expr (.Call (.Attribute (.Call (.Attribute (.Name x p1) "setdefault" p2) [ke,.List [] p3] [] p4) "append" p5) [ve] [] p6) p7] [] p12 :: rest) (sBk i j ft fi fk fv fb):=by
  have st1:=ps_asg (pos:=p11) (pe_nnew (X:=X) (pos:=p10)) (pg_name (pos:=p9) hNd hN hx hfn) hs0 hw0 rfl
  have st2:=ps_for (pos:=p12) hpo hc hi (PG.ex fun h0:Hp=>hg h0) (pss_cons (ps_bkB (p1:=p1) (p2:=p2) (p3:=p3) (p4:=p4) (p5:=p5) (p6:=p6) (p7:=p7) hN hv h1 h2 hk hve hs1 hs2 hl1 hl2) pss_nil) (folded_ok hst X.env)
  have st3:=pss_freeze (pss_gh (PSs.ex fun q:Hp×Hp×List OD=>PSs.exP fun h:NNok X ⟨q.1,q.2.1,q.2.2,pr⟩ i j=>hbd q.1 q.2.1 q.2.2 h))
  refine PSs.imp (pss_cons st1 (pss_cons st2 st3)) fun Dn σ H ⟨s,G,rl,k⟩=>?_
  unfold sBk at k
  cases q1:fi (s.set i none) with
  | exc c=>rw [q1] at k; exact k.elim
  | stuck=>rw [q1] at k; exact k.elim
  | ok ds =>
    rw [q1] at k
    dsimp only at k
    cases q2:bkRun ft fk fv ds (s.set i none) [] with
    | none=>rw [q2] at k; exact k.elim
    | some ms =>
      obtain ⟨mf,sf⟩:=ms
      rw [q2] at k
      dsimp only at k
      by_cases q3:i < s.length∧j < sf.length∧(mf.all fun p=>okLf p.1)=true
      · rw [if_pos q3] at k
        obtain ⟨hil,hjl,hok⟩:=q3
        intro a ha
        have g0:Grow X.K G H G (upd H a (DN X.prog X.w a [])):=⟨.refl _,.of (Same.upd ha),rl.GH.trans (Same.upd ha),fun _ h _=>h⟩
        have hils:i < σ.length:=by rw [← rl.len]; exact hil
        have r1:=rl.grow g0
        have fg:∀ {B':Base} {H':Hp},B'.O=[]→Rel X.K B' Γ s G σ H'→Rel X.K B' Γ (s.set i none) G (σ.set i (some (.ref a))) H':=fun {B' H'} hB r=>by
          obtain ⟨φ,sl,hf⟩:=r.sl
          refine ⟨by rw [List.length_set,List.length_set]; exact r.len,⟨φ,⟨fun n d e=>?_,sl.nd,sl.dj,sl.ok⟩,hf⟩,r.hH,r.hG,r.GH,r.fr,.nil hB⟩
          rcases getElem?_set_cases e with ⟨_,e'⟩ | ⟨ne,e'⟩
          · cases e'
          · obtain ⟨v,e1,ow⟩:=sl.at_ n d e'
            exact ⟨v,by rw [List.getElem?_set_ne (Ne.symm ne)]; exact e1,ow⟩
        have r2:=fg hO r1
        have rb:=rl.reb (x:=a) (c:=DN X.prog X.w a []) hO (.inr (.inl ⟨_,_,_,rfl⟩)) (fun u e=>by rw [ha] at e; cases e) (.inl ha) (rl.GH.free ha)
        have J0:Jb X.K B Γ X.prog X.w i a [] [] (upd B.H0 a (DN X.prog X.w a [])) (s.set i none) G (σ.set i (some (.ref a))) (upd H a (DN X.prog X.w a [])) :=
          ⟨fg hO rb,hO,by rw [List.getElem?_set_self hils],List.nodup_nil,rfl,List.nodup_nil,by simp,upd_same,fun n k l b e=>by simp at e,fun z e _=>upd_ne e,fun z hz=>by
            have:z=a:=by simpa using hz
            subst this
            exact ⟨rl.hH.free ha,rl.GH.free ha⟩⟩
        refine ⟨s.set i none,G,r2,?_⟩
        rw [q1]
        intro J G1 H1 g1 itk
        have J1:=J0.grow g1
        refine ⟨fun n M σ' H'=>M=ds.length - n∧n≤ds.length∧∃ s' G' m bs h0,Same G1 G'∧Jb X.K B Γ X.prog X.w i a m bs h0 s' G' σ' H'∧(m.length≤n∧∀ p∈m,p.2.length≤n)∧bkRun ft fk fv (ds.drop n) s' m=some (mf,sf),⟨ds.length,by simp,Nat.zero_le _,s.set i none,G1,[],[],_,.refl _,J1,⟨Nat.zero_le _,fun p hp=>by cases hp⟩,q2⟩,?_⟩
        rintro n M σ' H' ⟨rfl,hn,s',G',m,bs,h0,e1,j',⟨hml,hll⟩,hr⟩
        by_cases hlt:n < ds.length
        · obtain ⟨d,ed,dr⟩:=drop_at hlt
          rw [dr] at hr
          refine .inr ⟨itk.go n d G' H' ed e1 j'.rel.GH (.of (e1.trans j'.rel.GH.s)),fun σ2 H2=>∃ s2 G2 m2 bs2 h02,Same G1 G2∧Jb X.K B Γ X.prog X.w i a m2 bs2 h02 s2 G2 σ2 H2∧(m2.length≤n + 1∧∀ p∈m2,p.2.length≤n + 1)∧bkRun ft fk fv (ds.drop (n + 1)) s2 m2=some (mf,sf),?_,fun y H2 yl=>?_⟩
          · rintro σ2 H2 ⟨s2,G2,m2,bs2,h02,q⟩
            exact ⟨ds.length - (n + 1),by omega,rfl,hlt,s2,G2,m2,bs2,h02,q⟩
          · obtain ⟨G2,g2,rd⟩:=itk.yld n d G' H' y H2 ed e1 j'.rel.GH (.of (e1.trans j'.rel.GH.s)) yl
            unfold bkRun at hr
            cases z1:ft d s' with
            | none=>rw [z1] at hr; cases hr
            | some s1 =>
              rw [z1] at hr
              have hr:(match fk s1,fv s1 with
                | .ok kd,.ok (.int v)=>(lfD kd).bind fun k=>bkRun ft fk fv (ds.drop (n + 1)) s1 (bkApp m k v)
                | _,_=>none)=some (mf,sf):=hr
              split at hr
              · rename_i kd v z2 z4
                cases z3:lfD kd with
                | none=>rw [z3] at hr; cases hr
                | some kk =>
                  rw [z3] at hr
                  have hr:bkRun ft fk fv (ds.drop (n + 1)) s1 (bkApp m kk v)=some (mf,sf):=hr
                  have j2:=j'.grow g2
                  refine ⟨h0,s',G2,d,s1,j2.rel,rd,z1,fun σ2 r3 hwp=>?_⟩
                  have hsl:σ2[i]?=some (some (.ref a)):=by
                    have:=congrArg (fun l:St=>l[i]?) hwp
                    rw [wipe_out hvs,wipe_out hvs] at this
                    rw [this]; exact j2.sl
                  have hlz:=itk.len
                  refine ⟨a,m,bs,h0,s1,G2,kd,kk,v,⟨r3,j2.O,hsl,j2.nd,j2.ln,j2.bn,j2.an,j2.ca,j2.cb,j2.ex,j2.fa⟩,z2,z3,z4,by omega,fun p hp=>by have:=hll p hp; omega,fun bs' h0' G3 H3 g3 j3=>?_⟩
                  exact ⟨s1,G3,bkApp m kk v,bs',h0',e1.trans (g2.g.trans g3),j3,bkApp_len hml hll,hr⟩
              · cases hr
        · have e:n=ds.length:=by omega
          subst e
          rw [List.drop_length] at hr
          obtain ⟨rfl,rfl⟩:m=mf∧s'=sf:=by
            have:=Option.some.inj hr
            exact ⟨congrArg Prod.fst this,congrArg Prod.snd this⟩
          refine .inl ⟨itk.stop G' H' e1 j'.rel.GH (.of (e1.trans j'.rel.GH.s)),a,_,j'.cell,True.intro,fun od=>?_⟩
          obtain ⟨rn,sH,s1,fr,ca,cb⟩:=nn_in (od:=od) (c:=bkEnc m) (pr:=pr) j' hij hjl oj hpi hpj
          have hlz:=itk.len
          have kf:=k.mono (g1.g.trans e1)
          refine ⟨σ'.set j (some (.ref (bkEnc m))),Gh.set hNj hgh _,⟨upd h0 a (.frz od (DN X.prog X.w a (kvB m bs))),gBk G' (upd h0 a (.frz od (DN X.prog X.w a (kvB m bs)))) a bs,odsB i j a (bkEnc m)⟩,⟨a,od,m,bs,rfl,ca,j'.ln,cb,by omega,fun p hp=>by have:=hll p hp; omega,hok⟩,_,_,rn,?_⟩
          exact nn_out hO sH (j'.rel.hG) s1 fr kf
      · rw [if_neg q3] at k; exact k.elim
end
end Hr
end
section
namespace Hr
open PySem PySem.Spec L2 PyProof.Rows
section
variable {X:Cx} {B:Base} {W:WX} {Γ:Ow} {a b e:Expr} {es:List Expr} {fa fb fe:En→R D} {fs:En→R (List D)} {pos p:Pos} {x1 jx:Nat}
end
end Hr
end
section
namespace Hr
open PySem PySem.Spec L2
inductive TG where
  | nm (i:Nat) | tp (l:TG) | nil | cons (a l:TG)
structure TGd where
  f:FT
  l:List D→En→Option En
def tgd:TG→TGd
  | .nm i=>⟨ftName i,fun _ _=>none⟩
  | .tp l=>⟨ftTup (tgd l).l,fun _ _=>none⟩
  | .nil=>⟨fun _ _=>none,ftNil⟩
  | .cons a l=>⟨fun _ _=>none,ftCons (tgd a).f (tgd l).l⟩
def TG.len:TG→Nat
  | .cons _ l=>l.len + 1
  | _=>0
inductive BI where
  | len | tuple | list | all | any | max | sum | int | sorted | str | listd | sortd | max2 | intx | lend
def biName:BI→Str
  | .len=> "len" | .tuple=> "tuple" | .list=> "list" | .all=> "all" | .any=> "any" | .max=> "max" | .sum=> "sum" | .int=> "int" | .sorted=> "sorted" | .str=> "str" | .listd=> "list" | .sortd=> "sorted" | .max2=> "max" | .intx=> "int" | .lend=> "len"
def biF:BI→List D→R D
  | .len=>on1 dLen
  | .tuple=>on1 dTuple
  | .list=>on1 dList
  | .all=>on1 dAll
  | .any=>on1 dAny
  | .max=>on1 dMax
  | .sum=>on1 dSum
  | .int=>on1 dInt
  | .sorted=>on1 dSort
  | .str=>on1 dStr
  | .listd=>on1 dListD
  | .lend=>on1 dLenD
  | .sortd=>on1 dSortD
  | .max2=>on2 dMax2
  | .intx=>on1 dIntS
def biT:BI→OT
  | .list=>.own .fz
  | .listd=>.own .fz
  | .sortd=>.own .fz
  | .sorted=>.own .fz
  | _=>.fz
def BL:List Str:=["len", "tuple", "list", "all", "any", "max", "sum", "int", "isinstance", "range", "enumerate", "zip", "str", "bool", "sorted", "set", "dict"]
inductive T where
  | var (i:Nat)
  | con (d:D)
  | glo (x:Str) (d:D)
  | neg (a:T)
  | bin (op:Operator) (a b:T)
  | cmp (op:CmpOp) (a b:T)
  | and (a b:T)
  | or (a b:T)
  | not (a:T)
  | one (a:T)
  | nil
  | cons (a l:T)
  | no
  | tup (l:T)
  | lst (l:T)
  | sub (a b:T)
  | sli (a lo hi:T)
  | call (x:Str) (n:Nat) (t:OT) (k:Nat) (φ:List D→R D) (l:T)
  | bi (b:BI) (l:T)
  | isi (t:String) (a:T)
  | idx (a b:T)
  | cnt (a b:T)
  | join (a b:T)
  | lc (own:List (Str×Nat)) (elt:T) (tg:TG) (it ifs:T)
  | lcd (own:List (Str×Nat)) (elt:T) (tg:TG) (i:Nat) (ifs:T)
  | itI (a:T)
  | itR1 (l:T)
  | itE (l:T)
  | itZ (l:T)
  | dnew (t:Bool)
  | dict (a:T)
  | fst (c:Str) (a b:T)
  | bkG (i j:Nat) (e:T)
  | bkN (i j:Nat) (e:T)
  | bkI (i j:Nat)
  | lnd (i:Nat) (t:OT) (e:T)
structure Den where
  v:En→R D
  t:En→R Bool
  l:En→R (List D)
  p:En→R (Option Int)
def mkD (v:En→R D):Den:=⟨v,eTru v,fun _=>.stuck,ePart (some v)⟩
def den:T→Den
  | .var i=>mkD (eVar i)
  | .con d=>mkD (eCon d)
  | .glo _ d=>mkD (eCon d)
  | .neg a=>mkD (eNeg (den a).v)
  | .bin op a b=>mkD (eBin (dBin op) (den a).v (den b).v)
  | .cmp op a b=>⟨eB (eCmp op (den a).v (den b).v),eCmp op (den a).v (den b).v,fun _=>.stuck,fun _=>.stuck⟩
  | .and a b=>⟨eAndV (den a).v (den b).v,eAnd (den a).t (den b).t,fun _=>.stuck,fun _=>.stuck⟩
  | .or a b=>⟨eOrV (den a).v (den b).v,eOr (den a).t (den b).t,fun _=>.stuck,fun _=>.stuck⟩
  | .not a=>⟨eNotV (den a).v,eNot (den a).t,fun _=>.stuck,fun _=>.stuck⟩
  | .one a=>den a
  | .nil=>⟨fun _=>.stuck,fun _=>.stuck,eNil,fun _=>.stuck⟩
  | .cons a l=>⟨fun _=>.stuck,fun _=>.stuck,eCons (den a).v (den l).l,fun _=>.stuck⟩
  | .no=>⟨fun _=>.stuck,eYes,fun _=>.stuck,ePart none⟩
  | .tup l=>mkD (eTup (den l).l)
  | .lst l=>mkD (eLst (den l).l)
  | .sub a b=>mkD (eBin dSub2 (den a).v (den b).v)
  | .sli a lo hi=>mkD (eSl (den a).v (den lo).p (den hi).p)
  | .call _ n _ _ φ l=>mkD (eCall φ n (den l).l)
  | .bi b l=>mkD (eApp (biF b) (den l).l)
  | .isi t a=>mkD (eIsi t (den a).v)
  | .idx a b=>mkD (eIndex (den a).v (den b).v)
  | .cnt a b=>mkD (eCount (den a).v (den b).v)
  | .join a b=>mkD (eM1 dJoin (den a).v (den b).v)
  | .lc own elt tg it ifs=>mkD (eLc (own.map (·.2)) (tgd tg).f (den it).l (den ifs).t (den elt).v)
  | .lcd own elt tg i ifs=>mkD (eLc (own.map (·.2)) (tgd tg).f (eKeys i) (den ifs).t (den elt).v)
  | .bkG _ j e=>mkD (eBkG j (den e).v)
  | .bkN _ j e=>⟨fun _=>.stuck,eBkN j (den e).v,fun _=>.stuck,fun _=>.stuck⟩
  | .bkI _ j=>⟨fun _=>.stuck,fun _=>.stuck,eBkI j,fun _=>.stuck⟩
  | .itI a=>⟨fun _=>.stuck,fun _=>.stuck,eItems (den a).v,fun _=>.stuck⟩
  | .itR1 l=>⟨fun _=>.stuck,fun _=>.stuck,eRng1 (den l).l,fun _=>.stuck⟩
  | .itE l=>⟨fun _=>.stuck,fun _=>.stuck,eEnum (den l).l,fun _=>.stuck⟩
  | .itZ l=>⟨fun _=>.stuck,fun _=>.stuck,eZip (den l).l,fun _=>.stuck⟩
  | .dnew t=>mkD (eCon (.dic t [] []))
  | .dict a=>mkD (eDict (den a).v)
  | .fst c a b=>mkD (eFst c (den a).v (den b).v)
  | .lnd _ t e=>mkD (eLnd t (den e).v)
def glB (sc:Scope) (x:Str):Bool:=(match sc.names.lookup x with | some .globalImplicit=>true | _=>false) && !(x == ("__debug__":Str))
def visB (sc:Scope) (x:Str):Bool:=(match sc.names.lookup x with | some .local=>true | some .cell=>true | some .free=>true | _=>false) && (!(x == ("__debug__":Str)) && !(x == ("__classdict__":Str)))
def locB (sc:Scope) (x:Str):Bool:=match sc.names.lookup x with | some .local=>true | some .cell=>true | _=>false
def lclB (sc:Scope) (x:Str):Bool:=match sc.names.lookup x with | some .local=>true | _=>false
theorem glB_ok {X:Cx} {x:Str} (h:glB X.env.scope x=true):Gl X x∧(x == ("__debug__":Str))=false:=by
  unfold glB at h
  obtain ⟨h1,h2⟩:=Bool.and_eq_true_iff.mp h
  refine ⟨?_,by simpa using h2⟩
  show X.env.scope.names.lookup x=some .globalImplicit
  split at h1
  · assumption
  · cases h1
theorem visB_ok {sc:Scope} {x:Str} (h:visB sc x=true):Vis sc x∧(x == ("__debug__":Str))=false∧(x == ("__classdict__":Str))=false:=by
  unfold visB at h
  obtain ⟨h1,h2⟩:=Bool.and_eq_true_iff.mp h
  obtain ⟨h2,h3⟩:=Bool.and_eq_true_iff.mp h2
  refine ⟨?_,by simpa using h2,by simpa using h3⟩
  unfold Vis
  split at h1
  · exact .inl (by assumption)
  · exact .inr (.inl (by assumption))
  · exact .inr (.inr (by assumption))
  · cases h1
theorem locB_ok {sc:Scope} {x:Str} (h:locB sc x=true):L2.Loc sc x:=by
  unfold locB at h
  unfold L2.Loc
  split at h
  · exact .inl (by assumption)
  · exact .inr (by assumption)
  · cases h
theorem lclB_ok {sc:Scope} {x:Str} (h:lclB sc x=true):sc.names.lookup x=some .local:=by
  unfold lclB at h
  split at h
  · assumption
  · cases h
def conB:D→Const→Bool
  | .non,.none=>true
  | .bl b,.bool c=>b == c
  | .int i,.int j=>decide (i=j)
  | .str x,.str y=>decide (x=y) && (PyData.strOk x && decide (x.length≤sizeLine))
  | _,_=>false
inductive Md where
  | v | b | t | w | i (tg:Expr) | f (tg:Expr) | o (t:OT)
abbrev Ck:=Scope→Md→Sum Expr (List Expr)→Bool
def Md.val:Md→Expr→Bool
  | .v,_=>true
  | .b,_=>true
  | .t,e=>plainTest e
  | _,_=>false
abbrev FKt:=Str→Nat→OT→Nat→(List D→R D)→Prop
structure Kn where
  FK:FKt
  GK:Str→D→Prop
  XK:Str→Prop
  MK:Str→List (Str×Bool)→Prop
  IK:Str→List (Str×Bool)→Prop
  VK:Str→Str→List Str→Nat→OT→Nat→(List D→R D)→Prop
  VF:Str→Str→List Str→Nat→OT→Nat→(List D→R D)→Prop
  UF:Str→Str→List (Str×OT)→Nat→OT→Nat→(List D→MR)→Prop
  UK:Str→Str→List (Str×OT)→Nat→OT→Nat→(List D→MR)→Prop
  NK:Str→List (Str×OT)→Nat→Nat→(List D→MR)→Prop
  OB:Nat→Str→List (Str×Nat)→Prop
  OM:Nat→Str→List (Str×Nat)→Prop
  ON:Nat→Str→List (Str×Nat)→Prop
  FS:Nat→Str→Nat→Prop
  LM:Prop
  LA:Str→Nat→OT→Nat→R D→Prop
  LF:Str→OT→OT→Nat→(R D→R D)→Prop
  UX:Str→Str→List (Str×OT)→Nat→List PK→Nat→OT→Nat→(List D→MR)→Prop
  DX:Prop:=True
  LK:Nat→Prop:=fun _=>False
  OA:List Hr.OB→Prop:=fun _=>False
  MB:Str→Str→BD→OT→Nat→(List D→MR)→Prop:=fun _ _ _ _ _ _=>False
  GB:Str→BD→OT→Nat→(List D→MR)→Prop:=fun _ _ _ _ _=>False
  IB:Str→BD→Nat→(List D→MR)→Prop:=fun _ _ _ _=>False
  FA:Str→Str→Prop:=fun _ _=>False
  NO:Prop:=False
  BK:Nat→Nat→Prop:=fun _ _=>False
def Kn.noL (kn:Kn):Kn:={ kn with LM:=False,LA:=fun _ _ _ _ _=>False,DX:=False }
def Kn.noR (kn:Kn):Kn:={ kn.noL with NO:=False,BK:=fun _ _=>False }
def Kn.bkK (kn:Kn) (i j:Nat):Kn:={ kn.noR with
  OB:=fun _ _ _=>False
  OM:=fun _ _ _=>False
  ON:=fun _ _ _=>False
  FS:=fun _ _ _=>False
  OA:=fun _=>False
  BK:=fun a b=>a=i∧b=j }
def Kn.low (kn:Kn) (j:Nat):Kn:={ kn.noL with
  FK:=fun x n t k φ=>k≤j∧kn.FK x n t k φ
  VK:=fun c m fn n t k φ=>k≤j∧kn.VK c m fn n t k φ
  VF:=fun x c fn n t k φ=>k≤j∧kn.VF x c fn n t k φ
  LF:=fun _ _ _ _ _=>False
  LK:=fun i=>i≤j
  NO:=False
  BK:=fun _ _=>False
  MB:=fun c m b t k ψ=>k≤j∧kn.MB c m b t k ψ
  GB:=fun x b t k ψ=>k≤j∧kn.GB x b t k ψ }
def IsTb (K:Frag) (mg:Str→Option Value) (c:Str) (tb:List (Str×Bool)):Prop:=∃ (v:V) (cv:Value),((mg c=some cv)∨(mg c=none∧bootBuiltins c=some cv∧c≠ "__name__"))∧RelV v cv∧(∀ u,RelV v u→u=cv) ∧
  ∀ d r,tb.lookup d=some r→ExcC K (He.ga K d)∧PySem.W.kitOne K (clsV K d) cv=some r
def dot (x f:Str):Str:=⟨x.cps ++ #[46] ++ f.cps⟩
def preB (x y:Str):Bool:=(x.cps.toList ++ [46]).isPrefixOf y.cps.toList
def mark (x:Str):Str:=⟨#[42] ++ x.cps⟩
def prN (N:List Str) (i:Nat):Bool:=match N[i]? with
  | some x=>dotB x || N.any (preB x) || N.any (fun y=>decide (y=mark x))
  | none=>false
structure Cok (N:List Str) (kk:Nat) (kn:Kn) (X:Cx) (B:Base) (sc:Scope) (W:WX):Prop where
  hN:X.N=N
  hS:X.env.scope=sc
  calm:X.calm=true
  nd:N.Nodup
  room:Room kk X.A
  tk:Takes X W
  blt:∀ x∈BL,X.mg x=none
  fk:∀ x n t k φ,kn.FK x n t k φ→k≤kk∧Fok X.prog X.w X.K X.mg X.base x n t k φ
  gk:∀ x d,kn.GK x d→∃ u v,X.mg x=some u∧RelV v u∧∀ G,RD X.K G v d
  ik:∀ c tb,kn.IK c tb→IsTb X.K X.mg c tb
  hp:∀ i,prN N i=false→B.pr i=false
  hfl:∀ (r j:Nat) (x f:Str),dotB f=false→N[r]?=some x→N[j]?=some (dot x f)→FldOk X.K B r f j
  vk:∀ c m fn n t k φ,kn.VK c m fn n t k φ→k≤kk∧Mok X.prog X.w X.K X.mg X.base c m fn n t k φ
  ob:∀ i c fj,kn.OB i c fj→ObOk X.K B i c fj
  vf:∀ x c fn n t k φ,kn.VF x c fn n t k φ→k≤kk∧FokV X.prog X.w X.K X.mg X.base x c fn n t k φ
  lm:kn.LM→LamOk X
  la:∀ x i t f r,kn.LA x i t f r→ActOk X B x i t f r
  lf:∀ x t u k ψ,kn.LF x t u k ψ→k + 1≤kk∧FokL X.prog X.w X.K X.mg X.base x t u k ψ
  dx:kn.DX→X.stack=X.env :: X.outer∧X.env.frame=some X.env.locals
  lk:∀ j,kn.LK j→j≤kk
  oa:∀ ob,kn.OA ob→∃ ac,B.O=ob.map (OB.od X.K ac)
  mb:∀ c m b t k ψ,kn.MB c m b t k ψ→k≤kk∧MokB X.prog X.w X.K X.mg X.base c m b t k ψ
  gb:∀ x b t k ψ,kn.GB x b t k ψ→k≤kk∧FokB X.prog X.w X.K X.mg X.base x b t k ψ
  no:kn.NO→B.O=[]
  bk:∀ i j,kn.BK i j→NNok X B i j
def Snd (X:Cx) (B:Base) (W:WX) (Γ:Ow) (d:Den):Md→Sum Expr (List Expr)→Prop
  | .v,.inl e=>EV X B W Γ e d.v
  | .b,.inl e=>EB X B W Γ e d.v
  | .t,.inl e=>ET X B W Γ e d.t
  | .w,.inl e=>EW X B W Γ e d.t
  | .i tg,.inl e=>EI X B W Γ tg e d.l
  | .f tg,.inl e=>EIf X B W Γ tg e d.l
  | .o t,.inl e=>EO X B W Γ t e d.v
  | .v,.inr es=>EVs X B W Γ es d.l
  | .b,.inr es=>EBs X B W Γ es d.l
  | _,.inr _=>False
def SndC (N:List Str) (kk:Nat) (kn:Kn) (Γ:Ow) (c:Ck) (d:Den):Prop:=∀ (X:Cx) (B:Base) (W:WX) (sc:Scope),Cok N kk kn X B sc W→∀ m e,c sc m e=true→Snd X B W Γ d m e
theorem EV.val {X:Cx} {B:Base} {W:WX} {Γ:Ow} {e:Expr} {f:En→R D} {m:Md} (h:EV X B W Γ e f) (hm:m.val e=true):Snd X B W Γ (mkD f) m (.inl e):=by
  cases m with
  | v=>exact h
  | b=>exact h.bo
  | t=>exact et_tru hm h.bo
  | _=>cases hm
theorem EV.ow {X:Cx} {B:Base} {W:WX} {Γ:Ow} {e:Expr} {f:En→R D} (h:EV X B W Γ e f):EO X B W Γ .fz e f:=PE.imp h fun σ H Q ⟨s,G,r,k⟩=>⟨s,G,r,k.imp (fun d _ k v G' H' g rd=>k v G' H' g (.fz rd)) fun _ z=>z⟩
def Md.made (t:OT):Md→Expr→Bool
  | .o t',_=>decide (t'=t)
  | m,e=>m.val e
theorem EO.made {X:Cx} {B:Base} {W:WX} {Γ:Ow} {e:Expr} {f:En→R D} {m:Md} {t:OT} (h:EO X B W Γ t e f) (hm:m.made t e=true):Snd X B W Γ (mkD f) m (.inl e):=by
  cases m with
  | o t'=>have:t'=t:=of_decide_eq_true hm; subst this; exact h
  | v=>exact h.v
  | b=>exact h.v.bo
  | t=>exact et_tru hm h.v.bo
  | _=>cases hm
section
variable {N:List Str} {kk:Nat} {kn:Kn} {Γ:Ow} {ca cb cc:Ck} {da db dc:Den}
def kBase1 (N:List Str) (sc:Scope) (i:Nat):Expr→Bool
  | .Name x _=>decide (N[i]?=some x) && visB sc x
  | .Attribute (.Name x _) f _=> !dotB f && decide (N[i]?=some (dot x f)) && visB sc x && (N.any fun y=>decide (y=x))
  | _=>false
def kBase (N:List Str) (sc:Scope) (i:Nat):Expr→Bool
  | .Name x _=>decide (N[i]?=some x) && visB sc x
  | .Attribute (.Name x _) f _=> !dotB f && decide (N[i]?=some (dot x f)) && visB sc x && (N.any fun y=>decide (y=x))
  | .Attribute (.Attribute a g q) f _=> !dotB f && N.zipIdx.any fun y=>decide (N[i]?=some (dot y.1 f)) && kBase1 N sc y.2 (.Attribute a g q)
  | _=>false
theorem kBase_nc {N:List Str} {sc:Scope} {i:Nat} {e:Expr} (h:kBase N sc i e=true):notCall e=true:=by
  unfold kBase at h
  split at h
  · rfl
  · rfl
  · rfl
  · cases h
theorem kBase1_ok {X:Cx} {B:Base} {sc:Scope} {W:WX} (hX:Cok N kk kn X B sc W) {i:Nat} {e:Expr} (h:kBase1 N sc i e=true):PE X e (tVarR X.K B Γ i):=by
  unfold kBase1 at h
  split at h
  · rename_i x p
    obtain ⟨h1,h2⟩:=and2 h
    obtain ⟨hv,d1,d2⟩:=visB_ok (sc:=X.env.scope) (x:=x) (by rw [hX.hS]; exact h2)
    exact name_pe (by rw [hX.hN]; exact of_decide_eq_true h1) hv d1 d2
  · rename_i x p f q
    obtain ⟨h,h3⟩:=and2 h
    obtain ⟨h,h2⟩:=and2 h
    obtain ⟨h0,h1⟩:=and2 h
    obtain ⟨hv,d1,d2⟩:=visB_ok (sc:=X.env.scope) (x:=x) (by rw [hX.hS]; exact h2)
    obtain ⟨y,hy,ey⟩:=List.any_eq_true.mp h3
    have ey:=of_decide_eq_true ey
    subst ey
    obtain ⟨r,hr,er⟩:=List.getElem_of_mem hy
    have hNr:N[r]?=some y:=by rw [List.getElem?_eq_getElem hr,er]
    exact fld_pe (by rw [hX.hN]; exact hNr) hv d1 d2 (hX.hfl r i y f (by simpa using h0) hNr (of_decide_eq_true h1))
  · cases h
theorem kBase_ok {X:Cx} {B:Base} {sc:Scope} {W:WX} (hX:Cok N kk kn X B sc W) {i:Nat} {e:Expr} (h:kBase N sc i e=true):PE X e (tVarR X.K B Γ i):=by
  unfold kBase at h
  split at h
  · exact kBase1_ok hX (by unfold kBase1; exact h)
  · exact kBase1_ok hX (by unfold kBase1; exact h)
  · rename_i a g q f p
    obtain ⟨h0,h⟩:=and2 h
    obtain ⟨⟨y,r⟩,hy,h⟩:=List.any_eq_true.mp h
    obtain ⟨h1,h2⟩:=and2 h
    exact fld_peG rfl (kBase1_ok hX h2) (hX.hfl r i y f (by simpa using h0) (List.mem_zipIdx_iff_getElem?.mp hy) (of_decide_eq_true h1))
  · cases h
def kVar (N:List Str) (Γ:Ow) (i:Nat):Ck:=fun sc m e=>match e with
  | .inl e => kBase N sc i e && (match m with
      | .v=>decide (oty Γ i=.fz)
      | .b=>decide (oty Γ i=.fz) || decide (oty Γ i=.own .fz)
      | .t=>(decide (oty Γ i=.fz) || decide (oty Γ i=.own .fz)) && Md.val .t e
      | _=>false)
  | _=>false
theorem s_var (i:Nat):SndC N kk kn Γ (kVar N Γ i) (den (.var i)):=by
  intro X B W sc hX m e h
  unfold kVar at h
  split at h
  · obtain ⟨h1,h3⟩:=and2 h
    have hb:=kBase_ok (Γ:=Γ) hX h1
    cases m with
    | v=>exact ev_slot hb (of_decide_eq_true h3)
    | b=>exact eb_slot hb ((Bool.or_eq_true_iff.mp h3).imp of_decide_eq_true of_decide_eq_true)
    | t =>
      obtain ⟨h3,h4⟩:=and2 h3
      exact et_tru h4 (eb_slot hb ((Bool.or_eq_true_iff.mp h3).imp of_decide_eq_true of_decide_eq_true))
    | _=>cases h3
  · cases h
def kCon (d:D):Ck:=fun sc m e=>match e with
  | .inl (.Constant c k p)=>conB d c && m.val (.Constant c k p)
  | _=>false
theorem s_con (d:D):SndC N kk kn Γ (kCon d) (den (.con d)):=by
  intro X B W sc hX m e h
  unfold kCon at h
  split at h
  · rename_i c k p
    obtain ⟨h1,h2⟩:=and2 h
    refine EV.val ?_ h2
    cases d with
    | non=>cases c with
      | none=>exact ev_con pe_non fun _=>.non
      | _=>cases h1
    | bl b=>cases c with
      | bool c => have : b = c := by simpa [conB] using h1
                  subst this; exact ev_con pe_bl fun _=>.bl _
      | _=>cases h1
    | int i=>cases c with
      | int j => have : i = j := of_decide_eq_true h1
                 subst this; exact ev_con pe_int fun _=>.int _
      | _=>cases h1
    | str x=>cases c with
      | str y =>
        obtain ⟨e1,h3⟩:=and2 (show (decide (x=y) && (PyData.strOk x && decide (x.length≤sizeLine)))=true from h1)
        obtain ⟨e2,e3⟩:=and2 h3
        have:x=y:=of_decide_eq_true e1
        subst this; exact ev_con pe_str fun _=>.str _ e2 (of_decide_eq_true e3)
      | _=>cases h1
    | _=>cases c <;> cases h1
  · cases h
def kGlo (x:Str):Ck:=fun sc m e=>match e with
  | .inl (.Name y p)=>decide (x=y) && glB sc x && m.val (.Name y p)
  | _=>false
theorem s_glo {x:Str} {d:D} (hg:kn.GK x d):SndC N kk kn Γ (kGlo x) (den (.glo x d)):=by
  intro X B W sc hX m e h
  unfold kGlo at h
  split at h
  · rename_i y p
    obtain ⟨h,h3⟩:=and2 h
    obtain ⟨h1,h2⟩:=and2 h
    have:x=y:=of_decide_eq_true h1
    subst this
    obtain ⟨g,db⟩:=glB_ok (X:=X) (by rw [hX.hS]; exact h2)
    obtain ⟨u,v,e1,e2,e3⟩:=hX.gk x d hg
    exact EV.val (ev_con (pe_glob g e1 e2 db) e3) h3
  · cases h
def kNeg (ca:Ck):Ck:=fun sc m e=>match e with
  | .inl (.UnaryOp .USub a p)=>ca sc .b (.inl a) && m.val (.UnaryOp .USub a p)
  | _=>false
theorem s_neg {a:T} (ha:SndC N kk kn Γ ca (den a)):SndC N kk kn Γ (kNeg ca) (den (.neg a)):=by
  intro X B W sc hX m e h
  unfold kNeg at h
  split at h
  · obtain ⟨h1,h2⟩:=and2 h
    exact EV.val (ev_neg (ha X B W sc hX .b _ h1)) h2
  · cases h
def arith:Operator→Bool
  | .Add=>true | .Sub=>true | .Mult=>true | .Mod=>true | .FloorDiv=>true | .Pow=>true | _=>false
def kBin (op:Operator) (ca cb:Ck):Ck:=fun sc m e=>match e with
  | .inl (.BinOp a op' b p)=>decide (op=op') && arith op && ca sc .b (.inl a) && cb sc .b (.inl b) && m.val (.BinOp a op' b p)
  | _=>false
theorem s_bin {op:Operator} {a b:T} (ha:SndC N kk kn Γ ca (den a)) (hb:SndC N kk kn Γ cb (den b)):SndC N kk kn Γ (kBin op ca cb) (den (.bin op a b)):=by
  intro X B W sc hX m e h
  unfold kBin at h
  split at h
  · obtain ⟨h,h5⟩:=and2 h
    obtain ⟨h,h4⟩:=and2 h
    obtain ⟨h,h3⟩:=and2 h
    obtain ⟨h1,h2⟩:=and2 h
    have e1:=of_decide_eq_true h1
    subst e1
    exact EV.val (ev_bin (by cases op <;> first | rfl | cases h2) (ha X B W sc hX .b _ h3) (hb X B W sc hX .b _ h4)) h5
  · cases h
def Md.vt:Md→Bool
  | .v=>true | .b=>true | .t=>true | _=>false
theorem vt_ok {X:Cx} {B:Base} {W:WX} {Γ:Ow} {e:Expr} {g:En→R Bool} {m:Md} {d:Den} (hv:d.v=eB g) (ht:d.t=g) (h1:EV X B W Γ e (eB g)) (h2:ET X B W Γ e g) (hm:m.vt=true):Snd X B W Γ d m (.inl e):=by
  cases m with
  | v=>show EV X B W Γ e d.v; rw [hv]; exact h1
  | b=>show EB X B W Γ e d.v; rw [hv]; exact h1.bo
  | t=>show ET X B W Γ e d.t; rw [ht]; exact h2
  | _=>cases hm
theorem Cok.un {X:Cx} {B:Base} {sc:Scope} {W:WX} (hX:Cok N kk kn X B sc W):X.A.units + 65 < cLine:=by
  have:=hX.room.un
  omega
def kCmp (op:CmpOp) (ca cb:Ck):Ck:=fun sc m e=>match e with
  | .inl (.Compare a [op'] [b] p)=>decide (op=op') && !(behindInMarks op b) && ca sc .b (.inl a) && cb sc .b (.inl b) && m.vt
  | _=>false
theorem s_cmp {op:CmpOp} {a b:T} (ha:SndC N kk kn Γ ca (den a)) (hb:SndC N kk kn Γ cb (den b)):SndC N kk kn Γ (kCmp op ca cb) (den (.cmp op a b)):=by
  intro X B W sc hX m e h
  unfold kCmp at h
  split at h
  · obtain ⟨h,h5⟩:=and2 h
    obtain ⟨h,h4⟩:=and2 h
    obtain ⟨h,h3⟩:=and2 h
    obtain ⟨h1,h2⟩:=and2 h
    have e1:=of_decide_eq_true h1
    subst e1
    have hm:=by simpa using h2
    have hu:X.A.units + 64 < cLine:=by have:=hX.un; omega
    exact vt_ok rfl rfl (ev_cmp hu hm (ha X B W sc hX .b _ h3) (hb X B W sc hX .b _ h4)) (et_cmp hu hm (ha X B W sc hX .b _ h3) (hb X B W sc hX .b _ h4)) h5
  · cases h
def kAnd (ca cb:Ck):Ck:=fun sc m e=>match e with
  | .inl (.BoolOp .And (a :: b :: es) p) => (match m with
      | .v=>ca sc .v (.inl a) && cb sc .v (.inl (.BoolOp .And (b :: es) p))
      | .b=>ca sc .v (.inl a) && cb sc .v (.inl (.BoolOp .And (b :: es) p))
      | .t=>ca sc .t (.inl a) && cb sc .w (.inl (.BoolOp .And (b :: es) p))
      | .w=>ca sc .t (.inl a) && cb sc .w (.inl (.BoolOp .And (b :: es) p))
      | _=>false)
  | _=>false
theorem s_and {a b:T} (ha:SndC N kk kn Γ ca (den a)) (hb:SndC N kk kn Γ cb (den b)):SndC N kk kn Γ (kAnd ca cb) (den (.and a b)):=by
  intro X B W sc hX m e h
  unfold kAnd at h
  split at h
  · cases m with
    | v=>obtain ⟨h1,h2⟩:=and2 h; exact ev_and (ha X B W sc hX .v _ h1) (hb X B W sc hX .v _ h2)
    | b=>obtain ⟨h1,h2⟩:=and2 h; exact EV.bo (ev_and (ha X B W sc hX .v _ h1) (hb X B W sc hX .v _ h2))
    | t=>obtain ⟨h1,h2⟩:=and2 h; exact PW.pt (ew_and (ha X B W sc hX .t _ h1) (hb X B W sc hX .w _ h2))
    | w=>obtain ⟨h1,h2⟩:=and2 h; exact ew_and (ha X B W sc hX .t _ h1) (hb X B W sc hX .w _ h2)
    | _=>cases h
  · cases h
def kOr (ca cb:Ck):Ck:=fun sc m e=>match e with
  | .inl (.BoolOp .Or (a :: b :: es) p) => (match m with
      | .v=>ca sc .v (.inl a) && cb sc .v (.inl (.BoolOp .Or (b :: es) p))
      | .b=>ca sc .v (.inl a) && cb sc .v (.inl (.BoolOp .Or (b :: es) p))
      | .t=>ca sc .t (.inl a) && cb sc .w (.inl (.BoolOp .Or (b :: es) p))
      | .w=>ca sc .t (.inl a) && cb sc .w (.inl (.BoolOp .Or (b :: es) p))
      | _=>false)
  | _=>false
theorem s_or {a b:T} (ha:SndC N kk kn Γ ca (den a)) (hb:SndC N kk kn Γ cb (den b)):SndC N kk kn Γ (kOr ca cb) (den (.or a b)):=by
  intro X B W sc hX m e h
  unfold kOr at h
  split at h
  · cases m with
    | v=>obtain ⟨h1,h2⟩:=and2 h; exact ev_or (ha X B W sc hX .v _ h1) (hb X B W sc hX .v _ h2)
    | b=>obtain ⟨h1,h2⟩:=and2 h; exact EV.bo (ev_or (ha X B W sc hX .v _ h1) (hb X B W sc hX .v _ h2))
    | t=>obtain ⟨h1,h2⟩:=and2 h; exact PW.pt (ew_or (ha X B W sc hX .t _ h1) (hb X B W sc hX .w _ h2))
    | w=>obtain ⟨h1,h2⟩:=and2 h; exact ew_or (ha X B W sc hX .t _ h1) (hb X B W sc hX .w _ h2)
    | _=>cases h
  · cases h
def kOne (ca:Ck):Ck:=fun sc m e=>match e with
  | .inl (.BoolOp _ [a] _) => (match m with
      | .v=>ca sc .v (.inl a)
      | .w=>ca sc .t (.inl a)
      | _=>false)
  | _=>false
theorem s_one {a:T} (ha:SndC N kk kn Γ ca (den a)):SndC N kk kn Γ (kOne ca) (den (.one a)):=by
  intro X B W sc hX m e h
  unfold kOne at h
  split at h
  · cases m with
    | v=>exact ev_one (ha X B W sc hX .v _ h)
    | w=>exact ew_one (ha X B W sc hX .t _ h)
    | _=>cases h
  · cases h
def kNot (ca:Ck):Ck:=fun sc m e=>match e with
  | .inl (.UnaryOp .Not a _) => (match m with
      | .v=>ca sc .b (.inl a)
      | .b=>ca sc .b (.inl a)
      | .t=>ca sc .t (.inl a)
      | _=>false)
  | _=>false
theorem s_not {a:T} (ha:SndC N kk kn Γ ca (den a)):SndC N kk kn Γ (kNot ca) (den (.not a)):=by
  intro X B W sc hX m e h
  unfold kNot at h
  split at h
  · cases m with
    | v=>exact ev_not (ha X B W sc hX .b _ h)
    | b=>exact EV.bo (ev_not (ha X B W sc hX .b _ h))
    | t=>exact et_not (ha X B W sc hX .t _ h)
    | _=>cases h
  · cases h
def kNil:Ck:=fun _ m e=>match e with
  | .inr []=>(match m with | .v=>true | .b=>true | _=>false)
  | _=>false
theorem s_nil:SndC N kk kn Γ kNil (den .nil):=by
  intro X B W sc hX m e h
  unfold kNil at h
  split at h
  · cases m with
    | v=>exact evs_nil
    | b=>exact ebs_nil
    | _=>cases h
  · cases h
def kCons (ca cl:Ck):Ck:=fun sc m e=>match e with
  | .inr (a :: es) => noStar a && (match m with
      | .v=>ca sc .v (.inl a) && cl sc .v (.inr es)
      | .b=>ca sc .b (.inl a) && cl sc .b (.inr es)
      | _=>false)
  | _=>false
theorem s_cons {a l:T} (ha:SndC N kk kn Γ ca (den a)) (hl:SndC N kk kn Γ cb (den l)):SndC N kk kn Γ (kCons ca cb) (den (.cons a l)):=by
  intro X B W sc hX m e h
  unfold kCons at h
  split at h
  · obtain ⟨h0,h⟩:=and2 h
    cases m with
    | v=>obtain ⟨h1,h2⟩:=and2 h; exact evs_cons h0 (ha X B W sc hX .v _ h1) (hl X B W sc hX .v _ h2)
    | b=>obtain ⟨h1,h2⟩:=and2 h; exact ebs_cons h0 (ha X B W sc hX .b _ h1) (hl X B W sc hX .b _ h2)
    | _=>cases h
  · cases h
def kTup (cl:Ck):Ck:=fun sc m e=>match e with
  | .inl (.Tuple es k p)=>cl sc .v (.inr es) && m.val (.Tuple es k p)
  | _=>false
theorem s_tup {l:T} (hl:SndC N kk kn Γ ca (den l)):SndC N kk kn Γ (kTup ca) (den (.tup l)):=by
  intro X B W sc hX m e h
  unfold kTup at h
  split at h
  · obtain ⟨h1,h2⟩:=and2 h
    exact EV.val (ev_tup (hl X B W sc hX .v _ h1)) h2
  · cases h
def kLst (cl:Ck):Ck:=fun sc m e=>match e with
  | .inl (.List es p)=>cl sc .v (.inr es) && m.made (.own .fz) (.List es p)
  | _=>false
theorem s_lst {l:T} (hl:SndC N kk kn Γ ca (den l)):SndC N kk kn Γ (kLst ca) (den (.lst l)):=by
  intro X B W sc hX m e h
  unfold kLst at h
  split at h
  · obtain ⟨h1,h2⟩:=and2 h
    exact EO.made (eo_lst (hl X B W sc hX .v _ h1)) h2
  · cases h
def notSl:Expr→Bool
  | .Slice _ _ _ _=>false
  | _=>true
theorem plainIx_ok {b:Expr} (h:notSl b=true):PlainIx b:=by
  intro o i
  cases b <;> first | rfl | cases h
def kSub (ca cb:Ck):Ck:=fun sc m e=>match e with
  | .inl (.Subscript a b p)=>notSl b && ca sc .b (.inl a) && cb sc .b (.inl b) && m.val (.Subscript a b p)
  | _=>false
theorem s_sub {a b:T} (ha:SndC N kk kn Γ ca (den a)) (hb:SndC N kk kn Γ cb (den b)):SndC N kk kn Γ (kSub ca cb) (den (.sub a b)):=by
  intro X B W sc hX m e h
  unfold kSub at h
  split at h
  · obtain ⟨h,h4⟩:=and2 h
    obtain ⟨h,h3⟩:=and2 h
    obtain ⟨h1,h2⟩:=and2 h
    exact EV.val (ev_sub (by have:=hX.un; omega) (plainIx_ok h1) (ha X B W sc hX .b _ h2) (hb X B W sc hX .b _ h3)) h4
  · cases h
end
end Hr
end
section
namespace Hr
open PySem PySem.Spec L2
theorem ans_str:tyAns "str":=fun K=>⟨kit_ty (by decide +kernel),kit_ty (by decide +kernel),kit_ty (by decide +kernel),kit_ty (by decide +kernel),kit_ty (by decide +kernel),kit_ty (by decide +kernel),kit_ty (by decide +kernel)⟩
theorem ans_int:tyAns "int":=fun K=>⟨kit_ty (by decide +kernel),kit_ty (by decide +kernel),kit_ty (by decide +kernel),kit_ty (by decide +kernel),kit_ty (by decide +kernel),kit_ty (by decide +kernel),kit_ty (by decide +kernel)⟩
theorem ans_bool:tyAns "bool":=fun K=>⟨kit_ty (by decide +kernel),kit_ty (by decide +kernel),kit_ty (by decide +kernel),kit_ty (by decide +kernel),kit_ty (by decide +kernel),kit_ty (by decide +kernel),kit_ty (by decide +kernel)⟩
theorem ans_tuple:tyAns "tuple":=fun K=>⟨kit_ty (by decide +kernel),kit_ty (by decide +kernel),kit_ty (by decide +kernel),kit_ty (by decide +kernel),kit_ty (by decide +kernel),kit_ty (by decide +kernel),kit_ty (by decide +kernel)⟩
theorem ans_list:tyAns "list":=fun K=>⟨kit_ty (by decide +kernel),kit_ty (by decide +kernel),kit_ty (by decide +kernel),kit_ty (by decide +kernel),kit_ty (by decide +kernel),kit_ty (by decide +kernel),kit_ty (by decide +kernel)⟩
def tyOk (T:String):Bool:=T == "str" || (T == "int" || (T == "bool" || (T == "tuple" || T == "list")))
theorem tyOk_ans {T:String} (h:tyOk T=true):tyAns T:=by
  unfold tyOk at h
  rcases Bool.or_eq_true_iff.mp h with h | h
  · rw [beq_iff_eq.mp h]; exact ans_str
  · rcases Bool.or_eq_true_iff.mp h with h | h
    · rw [beq_iff_eq.mp h]; exact ans_int
    · rcases Bool.or_eq_true_iff.mp h with h | h
      · rw [beq_iff_eq.mp h]; exact ans_bool
      · rcases Bool.or_eq_true_iff.mp h with h | h
        · rw [beq_iff_eq.mp h]; exact ans_tuple
        · rw [beq_iff_eq.mp h]; exact ans_list
theorem bl_len:("len":Str)∈BL:=by decide +kernel
theorem bl_tuple:("tuple":Str)∈BL:=by decide +kernel
theorem bl_list:("list":Str)∈BL:=by decide +kernel
theorem bl_all:("all":Str)∈BL:=by decide +kernel
theorem bl_any:("any":Str)∈BL:=by decide +kernel
theorem bl_max:("max":Str)∈BL:=by decide +kernel
theorem bl_sum:("sum":Str)∈BL:=by decide +kernel
theorem bl_int:("int":Str)∈BL:=by decide +kernel
theorem bl_isinstance:("isinstance":Str)∈BL:=by decide +kernel
theorem bl_range:("range":Str)∈BL:=by decide +kernel
theorem bl_enumerate:("enumerate":Str)∈BL:=by decide +kernel
theorem bl_zip:("zip":Str)∈BL:=by decide +kernel
theorem bl_str:("str":Str)∈BL:=by decide +kernel
theorem bl_bool:("bool":Str)∈BL:=by decide +kernel
theorem bl_sorted:("sorted":Str)∈BL:=by decide +kernel
section
variable {N:List Str} {kk:Nat} {kn:Kn} {Γ:Ow} {ca cb cc ci cf ce:Ck} {da db dc:Den}
def kPart (no:Bool) (c:Ck) (sc:Scope):Option Expr→Bool
  | none=>no
  | some e=> !no && c sc .v (.inl e)
def kSli (nl nh:Bool) (ca cl ch:Ck):Ck:=fun sc m e=>match e with
  | .inl (.Subscript a (.Slice lo hi none q) p)=>ca sc .b (.inl a) && kPart nl cl sc lo && kPart nh ch sc hi && m.val (.Subscript a (.Slice lo hi none q) p)
  | _=>false
def T.isNo:T→Bool
  | .no=>true
  | _=>false
def T.pOk:T→Bool
  | .var _=>true | .con _=>true | .glo _ _=>true | .neg _=>true | .bin _ _ _=>true | .sub _ _=>true | .bi _ _=>true | .call _ _ _ _ _ _=>true | _=>false
theorem pOk_eq {t:T} (h:t.pOk=true):(den t).p=ePart (some (den t).v):=by
  cases t <;> first | rfl | cases h
theorem s_sli {a lo hi:T} (hlo:(lo.isNo || lo.pOk)=true) (hhi:(hi.isNo || hi.pOk)=true) (ha:SndC N kk kn Γ ca (den a)) (hl:SndC N kk kn Γ cb (den lo)) (hh:SndC N kk kn Γ cc (den hi)):SndC N kk kn Γ (kSli lo.isNo hi.isNo ca cb cc) (den (.sli a lo hi)):=by
  intro X B W sc hX m e h
  unfold kSli at h
  split at h
  · obtain ⟨h,h4⟩:=and2 h
    obtain ⟨h,h3⟩:=and2 h
    obtain ⟨h1,h2⟩:=and2 h
    have part:∀ {t:T} {c:Ck} {eo:Option Expr},(t.isNo || t.pOk)=true→SndC N kk kn Γ c (den t)→kPart t.isNo c sc eo=true→EP' X B W Γ eo (den t).p:=by
      intro t c eo ht hc hk
      cases eo with
      | none =>
        cases t with
        | no=>exact ep_none
        | _=>cases hk
      | some e =>
        obtain ⟨k1,k2⟩:=and2 (show (!t.isNo && c sc .v (.inl e))=true from hk)
        have hn:t.isNo=false:=by simpa using k1
        rw [hn,Bool.false_or] at ht
        rw [pOk_eq ht]
        exact ep_some (hc X B W sc hX .v _ k2)
    exact EV.val (ev_sl (ha X B W sc hX .b _ h1) (part hlo hl h2) (part hhi hh h3)) h4
  · cases h
def kCall (x:Str) (t:OT) (cl:Ck):Ck:=fun sc m e=>match e with
  | .inl (.Call (.Name y p) (a :: es) [] q)=>decide (x=y) && glB sc x && (a :: es).all noStar && cl sc .v (.inr (a :: es)) && m.made t (.Call (.Name y p) (a :: es) [] q)
  | _=>false
theorem s_call {x:Str} {n:Nat} {t:OT} {k:Nat} {φ:List D→R D} {l:T} (hf:kn.FK x n t k φ) (hl:SndC N kk kn Γ ca (den l)):SndC N kk kn Γ (kCall x t ca) (den (.call x n t k φ l)):=by
  intro X B W sc hX m e h
  unfold kCall at h
  split at h
  · obtain ⟨h,h5⟩:=and2 h
    obtain ⟨h,h4⟩:=and2 h
    obtain ⟨h,h3⟩:=and2 h
    obtain ⟨h1,h2⟩:=and2 h
    have e1:=of_decide_eq_true h1
    subst e1
    obtain ⟨g,db⟩:=glB_ok (X:=X) (x:=x) (by rw [hX.hS]; exact h2)
    obtain ⟨hk,F⟩:=hX.fk _ _ _ _ _ hf
    exact EO.made (eo_call F (hX.room.mono hk) g hX.tk db h3 (hl X B W sc hX .v _ h4)) h5
  · cases h
def kBi (b:BI) (cl:Ck):Ck:=fun sc m e=>match e with
  | .inl (.Call (.Name y p) (a :: es) [] q)=>decide (biName b=y) && glB sc (biName b) && (a :: es).all noStar && cl sc .b (.inr (a :: es)) && m.made (biT b) (.Call (.Name y p) (a :: es) [] q)
  | _=>false
theorem s_bi {b:BI} {l:T} (hl:SndC N kk kn Γ ca (den l)):SndC N kk kn Γ (kBi b ca) (den (.bi b l)):=by
  intro X B W sc hX m e h
  unfold kBi at h
  split at h
  · obtain ⟨h,h5⟩:=and2 h
    obtain ⟨h,h4⟩:=and2 h
    obtain ⟨h,h3⟩:=and2 h
    obtain ⟨h1,h2⟩:=and2 h
    have e1:=of_decide_eq_true h1
    subst e1
    obtain ⟨g,db⟩:=glB_ok (X:=X) (x:=biName b) (by rw [hX.hS]; exact h2)
    have hl:=hl X B W sc hX .b _ h4
    refine EO.made ?_ h5
    cases b with
    | len=>exact eo_app call_len cd_len (on1_noexc dLen_noexc) g (hX.blt _ bl_len) boot_len (by decide) db h3 hl
    | lend=>exact eo_app call_lenD cd_lenD (on1_noexc dLenD_noexc) g (hX.blt _ bl_len) boot_len (by decide) db h3 hl
    | tuple=>exact eo_ty call_tupleP cd_tuple (on1_noexc dTuple_noexc) g (hX.blt _ bl_tuple) (by decide +kernel) (by decide) db h3 hl
    | list=>exact eo_ty call_list_of cd_list (on1_noexc dList_noexc) g (hX.blt _ bl_list) (by decide +kernel) (by decide) db h3 hl
    | listd=>exact eo_ty (call_list_dT hX.calm) cd_listd (on1_noexc dListD_noexc) g (hX.blt _ bl_list) (by decide +kernel) (by decide) db h3 hl
    | all=>exact eo_app (cr_all hX.calm) cd_all (on1_noexc dAll_noexc) g (hX.blt _ bl_all) (by decide +kernel) (by decide) db h3 hl
    | any=>exact eo_app (cr_any hX.calm) cd_any (on1_noexc dAny_noexc) g (hX.blt _ bl_any) (by decide +kernel) (by decide) db h3 hl
    | max=>exact eo_app (cr_max hX.calm) cd_max (on1_noexc dMax_noexc) g (hX.blt _ bl_max) (by decide +kernel) (by decide) db h3 hl
    | intx=>exact eo_ty call_int_str cd_intS (on1_noexc dIntS_noexc) g (hX.blt _ bl_int) (by decide +kernel) (by decide) db h3 hl
    | max2=>exact eo_app (call_max2 hX.calm) cd_max2 dMax2_noexc g (hX.blt _ bl_max) (by decide +kernel) (by decide) db h3 hl
    | sum=>exact eo_app (cr_sum hX.calm) cd_sum (on1_noexc dSum_noexc) g (hX.blt _ bl_sum) (by decide +kernel) (by decide) db h3 hl
    | sortd=>exact eo_app (call_sortedT hX.calm (by have:=hX.un; omega)) cd_sortd (on1_noexc dSortD_noexc) g (hX.blt _ bl_sorted) (by decide +kernel) (by decide) db h3 hl
    | sorted=>exact eo_app (cr_sortedD (by have:=hX.un; omega)) cd_sort (on1_noexc dSort_noexc) g (hX.blt _ bl_sorted) (by decide +kernel) (by decide) db h3 hl
    | str=>exact eo_ty call_str_int cd_str (on1_noexc dStr_noexc) g (hX.blt _ bl_str) (by decide +kernel) (by decide) db h3 hl
    | int=>exact eo_ty call_int1 cd_int (on1_noexc dInt_noexc) g (hX.blt _ bl_int) (by decide +kernel) (by decide) db h3 hl
  · cases h
def tyName:String→Str
  | "str"=> "str" | "int"=> "int" | "bool"=> "bool" | "tuple"=> "tuple" | "list"=> "list" | _=> ""
def kIsi (T:String) (ca:Ck):Ck:=fun sc m e=>match e with
  | .inl (.Call (.Name y p) [a,.Name z p2] [] q)=>decide (("isinstance":Str)=y) && glB sc "isinstance" && noStar a && tyOk T && decide (tyName T=z) && glB sc (tyName T) && ca sc .b (.inl a) && m.val (.Call (.Name y p) [a,.Name z p2] [] q)
  | _=>false
theorem s_isi {ty:String} {a:T} (ha:SndC N kk kn Γ ca (den a)):SndC N kk kn Γ (kIsi ty ca) (den (.isi ty a)):=by
  intro X B W sc hX m e h
  unfold kIsi at h
  split at h
  · obtain ⟨h,h8⟩:=and2 h
    obtain ⟨h,h7⟩:=and2 h
    obtain ⟨h,h6⟩:=and2 h
    obtain ⟨h,h5⟩:=and2 h
    obtain ⟨h,h4⟩:=and2 h
    obtain ⟨h,h3⟩:=and2 h
    obtain ⟨h1,h2⟩:=and2 h
    have e1:=of_decide_eq_true h1
    have e2:=of_decide_eq_true h5
    subst e1 e2
    obtain ⟨g,db⟩:=glB_ok (X:=X) (x:= "isinstance") (by rw [hX.hS]; exact h2)
    obtain ⟨g2,db2⟩:=glB_ok (X:=X) (x:=tyName ty) (by rw [hX.hS]; exact h6)
    refine EV.val (ev_isi (tyOk_ans h4) g (hX.blt _ bl_isinstance) h3 ?_ rfl (ha X B W sc hX .b _ h7)) h8
    unfold tyOk at h4
    rcases Bool.or_eq_true_iff.mp h4 with h | h
    · have:=beq_iff_eq.mp h; subst this; exact pe_bltn g2 (hX.blt _ bl_str) (by decide +kernel) rfl (by decide) db2
    · rcases Bool.or_eq_true_iff.mp h with h | h
      · have:=beq_iff_eq.mp h; subst this; exact pe_bltn g2 (hX.blt _ bl_int) (by decide +kernel) rfl (by decide) db2
      · rcases Bool.or_eq_true_iff.mp h with h | h
        · have:=beq_iff_eq.mp h; subst this; exact pe_bltn g2 (hX.blt _ bl_bool) (by decide +kernel) rfl (by decide) db2
        · rcases Bool.or_eq_true_iff.mp h with h | h
          · have:=beq_iff_eq.mp h; subst this; exact pe_bltn g2 (hX.blt _ bl_tuple) (by decide +kernel) rfl (by decide) db2
          · have:=beq_iff_eq.mp h; subst this; exact pe_bltn g2 (hX.blt _ bl_list) (by decide +kernel) rfl (by decide) db2
  · cases h
def kIdx (ca cb:Ck):Ck:=fun sc m e=>match e with
  | .inl (.Call (.Attribute a y ap) [b] [] q)=>decide (("index":Str)=y) && notSuper a && (ap.endLine == q.line) && noStar b && ca sc .b (.inl a) && cb sc .b (.inl b) && m.val (.Call (.Attribute a y ap) [b] [] q)
  | _=>false
theorem s_idx {a b:T} (ha:SndC N kk kn Γ ca (den a)) (hb:SndC N kk kn Γ cb (den b)):SndC N kk kn Γ (kIdx ca cb) (den (.idx a b)):=by
  intro X B W sc hX m e h
  unfold kIdx at h
  split at h
  · obtain ⟨h,h7⟩:=and2 h
    obtain ⟨h,h6⟩:=and2 h
    obtain ⟨h,h5⟩:=and2 h
    obtain ⟨h,h4⟩:=and2 h
    obtain ⟨h,h3⟩:=and2 h
    obtain ⟨h1,h2⟩:=and2 h
    have e1:=of_decide_eq_true h1
    subst e1
    exact EV.val (ev_index hX.un h2 h3 h4 (ha X B W sc hX .b _ h5) (hb X B W sc hX .b _ h6)) h7
  · cases h
def kItI (ca:Ck):Ck:=fun sc m e=>match e with
  | .inl a=>(match m with
    | .i _=>ca sc .b (.inl a)
    | .f _=>ca sc .v (.inl a)
    | _=>false)
  | _=>false
theorem s_itI {a:T} (ha:SndC N kk kn Γ ca (den a)):SndC N kk kn Γ (kItI ca) (den (.itI a)):=by
  intro X B W sc hX m e h
  unfold kItI at h
  split at h
  · cases m with
    | i tg=>exact ei_items (ha X B W sc hX .b _ h)
    | f tg=>exact eif_items (ha X B W sc hX .v _ h)
    | _=>cases h
  · cases h
def kItR1 (cl:Ck):Ck:=fun sc m e=>match e with
  | .inl (.Call (.Name y p) [a] [] q)=>decide (("range":Str)=y) && glB sc "range" && noStar a && cl sc .v (.inr [a]) && (match m with | .i _=>true | .f _=>true | _=>false)
  | _=>false
theorem s_itR1 {l:T} (hl:SndC N kk kn Γ ca (den l)):SndC N kk kn Γ (kItR1 ca) (den (.itR1 l)):=by
  intro X B W sc hX m e h
  unfold kItR1 at h
  split at h
  · obtain ⟨h,h5⟩:=and2 h
    obtain ⟨h,h4⟩:=and2 h
    obtain ⟨h,h3⟩:=and2 h
    obtain ⟨h1,h2⟩:=and2 h
    have e1:=of_decide_eq_true h1
    subst e1
    obtain ⟨g,db⟩:=glB_ok (X:=X) (x:= "range") (by rw [hX.hS]; exact h2)
    cases m with
    | i tg=>exact EIf.bo (eif_rng1 h3 g (hX.blt _ bl_range) (hl X B W sc hX .v _ h4))
    | f tg=>exact eif_rng1 h3 g (hX.blt _ bl_range) (hl X B W sc hX .v _ h4)
    | _=>cases h5
  · cases h
def kItE (cl:Ck):Ck:=fun sc m e=>match e with
  | .inl (.Call (.Name y p) [a] [] q) => decide (("enumerate" : Str) = y) && glB sc "enumerate" && noStar a && (match m with
      | .i (.Tuple _ _ _)=>cl sc .b (.inr [a])
      | .f (.Tuple _ _ _)=>cl sc .v (.inr [a])
      | _=>false)
  | _=>false
theorem s_itE {l:T} (hl:SndC N kk kn Γ ca (den l)):SndC N kk kn Γ (kItE ca) (den (.itE l)):=by
  intro X B W sc hX m e h
  unfold kItE at h
  split at h
  · obtain ⟨h,h4⟩:=and2 h
    obtain ⟨h,h3⟩:=and2 h
    obtain ⟨h1,h2⟩:=and2 h
    have e1:=of_decide_eq_true h1
    subst e1
    obtain ⟨g,db⟩:=glB_ok (X:=X) (x:= "enumerate") (by rw [hX.hS]; exact h2)
    split at h4
    · exact ei_enum h3 g (hX.blt _ bl_enumerate) (hl X B W sc hX .b _ h4)
    · exact eif_enum h3 g (hX.blt _ bl_enumerate) (hl X B W sc hX .v _ h4)
    · cases h4
  · cases h
def kItZ (cl:Ck):Ck:=fun sc m e=>match e with
  | .inl (.Call (.Name y p) [a, b] [] q) => decide (("zip" : Str) = y) && glB sc "zip" && noStar a && noStar b && (match m with
      | .i (.Tuple _ _ _)=>cl sc .b (.inr [a,b])
      | .f (.Tuple _ _ _)=>cl sc .v (.inr [a,b])
      | _=>false)
  | _=>false
theorem s_itZ {l:T} (hl:SndC N kk kn Γ ca (den l)):SndC N kk kn Γ (kItZ ca) (den (.itZ l)):=by
  intro X B W sc hX m e h
  unfold kItZ at h
  split at h
  · obtain ⟨h,h5⟩:=and2 h
    obtain ⟨h,h4⟩:=and2 h
    obtain ⟨h,h3⟩:=and2 h
    obtain ⟨h1,h2⟩:=and2 h
    have e1:=of_decide_eq_true h1
    subst e1
    obtain ⟨g,db⟩:=glB_ok (X:=X) (x:= "zip") (by rw [hX.hS]; exact h2)
    split at h5
    · exact ei_zip h3 h4 g (hX.blt _ bl_zip) (hl X B W sc hX .b _ h5)
    · exact eif_zip h3 h4 g (hX.blt _ bl_zip) (hl X B W sc hX .v _ h5)
    · cases h5
  · cases h
abbrev Cg:=Scope→Sum Expr (List Expr)→Bool
def kNm (N:List Str) (Γ:Ow) (vs:List Nat) (any:Bool) (i:Nat):Cg:=fun sc e=>match e with
  | .inl (.Name x _)=> !prN N i && (decide (N[i]?=some x) && (if any=true then locB sc x else lclB sc x) && decide (oty Γ i=.fz) && decide (i∈vs))
  | _=>false
def chkG (N:List Str) (Γ:Ow) (vs:List Nat) (any:Bool):TG→Cg
  | .nm i=>kNm N Γ vs any i
  | .tp l=>fun sc e=>match e with
    | .inl (.Tuple es _ _)=>es.all noStar && decide (l.len=es.length) && chkG N Γ vs any l sc (.inr es)
    | _=>false
  | .nil=>fun _ e=>match e with
    | .inr []=>true
    | _=>false
  | .cons a l=>fun sc e=>match e with
    | .inr (x :: es)=>noStar x && chkG N Γ vs any a sc (.inl x) && chkG N Γ vs any l sc (.inr es)
    | _=>false
def SndG (X:Cx) (B:Base) (Γ:Ow) (vs:List Nat) (d:TGd):Sum Expr (List Expr)→Prop
  | .inl e=>EG X B Γ vs e d.f
  | .inr es=>EGs X B Γ vs es d.l
theorem tgd_len:∀ (l:TG) (ds:List D) (s s':En),(tgd l).l ds s=some s'→ds.length=l.len
  | .nm _,_,_,_,h=>by cases h
  | .tp _,_,_,_,h=>by cases h
  | .nil,ds,_,_,h=>ftNil_len h
  | .cons a l,ds,s,s',h=>ftCons_len (fun ds s s'=>tgd_len l ds s s') ds s s' h
theorem chkG_ok {vs:List Nat} {any:Bool} {X:Cx} {B:Base} {sc:Scope} (hN:X.N=N) (hS:X.env.scope=sc) (hc:X.calm=true) (nd:N.Nodup) (hp:∀ i,prN N i=false→B.pr i=false) (hf:any=true→∀ x,X.fn x=true):∀ (t:TG) (e:Sum Expr (List Expr)),chkG N Γ vs any t sc e=true→SndG X B Γ vs (tgd t) e
  | .nm i,e,h=>by
    have h:kNm N Γ vs any i sc e=true:=h
    unfold kNm at h
    split at h
    · rename_i x p
      obtain ⟨h0,h⟩:=and2 h
      have hpi:=hp i (by simpa using h0)
      obtain ⟨h,h4⟩:=and2 h
      obtain ⟨h,h3⟩:=and2 h
      obtain ⟨h1,h2⟩:=and2 h
      have hfa:any=true→∀ y,X.fn y=true:=hf
      cases any with
      | true =>
        rw [if_pos rfl] at h2
        exact eg_name (by rw [hN]; exact nd) (by rw [hN]; exact of_decide_eq_true h1) (by rw [hS]; exact locB_ok h2) (.inl (hfa rfl _)) (of_decide_eq_true h3) (of_decide_eq_true h4) hpi
      | false =>
        rw [if_neg Bool.false_ne_true] at h2
        exact eg_name (by rw [hN]; exact nd) (by rw [hN]; exact of_decide_eq_true h1) (by rw [hS]; exact .inl (lclB_ok h2)) (.inr (by rw [hS]; exact lclB_ok h2)) (of_decide_eq_true h3) (of_decide_eq_true h4) hpi
    · cases h
  | .tp l,e,h=>by
    unfold chkG at h
    split at h
    · obtain ⟨h,h3⟩:=and2 h
      obtain ⟨h1,h2⟩:=and2 h
      have hl:l.len=_:=of_decide_eq_true h2
      exact eg_tup hc h1 (fun ds s s' q=>by rw [← hl]; exact tgd_len l ds s s' q) (chkG_ok hN hS hc nd hp hf l _ h3)
    · cases h
  | .nil,e,h=>by
    unfold chkG at h
    split at h
    · exact egs_nil
    · cases h
  | .cons a l,e,h=>by
    unfold chkG at h
    split at h
    · obtain ⟨h,h3⟩:=and2 h
      obtain ⟨h1,h2⟩:=and2 h
      exact egs_cons h1 (chkG_ok hN hS hc nd hp hf a _ h2) (chkG_ok hN hS hc nd hp hf l _ h3)
    · cases h
def kCnt (ca cb:Ck):Ck:=fun sc m e=>match e with
  | .inl (.Call (.Attribute a y ap) [b] [] cp)=>decide (("count":Str)=y) && notSuper a && (ap.endLine == cp.line) && noStar b && ca sc .b (.inl a) && cb sc .b (.inl b) && m.val (.Call (.Attribute a y ap) [b] [] cp)
  | _=>false
theorem s_cnt {a b:T} (ha:SndC N kk kn Γ ca (den a)) (hb:SndC N kk kn Γ cb (den b)):SndC N kk kn Γ (kCnt ca cb) (den (.cnt a b)):=by
  intro X B W sc hX m e h
  unfold kCnt at h
  split at h
  · obtain ⟨h,h7⟩:=and2 h
    obtain ⟨h,h6⟩:=and2 h
    obtain ⟨h,h5⟩:=and2 h
    obtain ⟨h,h4⟩:=and2 h
    obtain ⟨h,h3⟩:=and2 h
    obtain ⟨h1,h2⟩:=and2 h
    have e1:=of_decide_eq_true h1
    subst e1
    exact EV.val (ev_count (by have:=hX.un; omega) h2 h3 h4 (ha X B W sc hX .b _ h5) (hb X B W sc hX .b _ h6)) h7
  · cases h
def kJoin (ca cb:Ck):Ck:=fun sc m e=>match e with
  | .inl (.Call (.Attribute a y ap) [b] [] cp)=>decide (("join":Str)=y) && notSuper a && (ap.endLine == cp.line) && noStar b && ca sc .b (.inl a) && cb sc .b (.inl b) && m.val (.Call (.Attribute a y ap) [b] [] cp)
  | _=>false
theorem s_join {a b:T} (ha:SndC N kk kn Γ ca (den a)) (hb:SndC N kk kn Γ cb (den b)):SndC N kk kn Γ (kJoin ca cb) (den (.join a b)):=by
  intro X B W sc hX m e h
  unfold kJoin at h
  split at h
  · obtain ⟨h,h7⟩:=and2 h
    obtain ⟨h,h6⟩:=and2 h
    obtain ⟨h,h5⟩:=and2 h
    obtain ⟨h,h4⟩:=and2 h
    obtain ⟨h,h3⟩:=and2 h
    obtain ⟨h1,h2⟩:=and2 h
    have e1:=of_decide_eq_true h1
    subst e1
    exact EV.val (ev_join h2 h3 h4 (ha X B W sc hX .b _ h5) (hb X B W sc hX .b _ h6)) h7
  · cases h
def kBkG (N:List Str) (i:Nat) (ca:Ck):Ck:=fun sc m e=>match e with
  | .inl (.Subscript (.Name x p1) a p2)=>decide (N[i]?=some x) && visB sc x && notSl a && ca sc .v (.inl a) && m.val (.Subscript (.Name x p1) a p2)
  | _=>false
theorem s_bkG {i j:Nat} {a:T} (hb:kn.BK i j) (ha:SndC N kk kn Γ ca (den a)):SndC N kk kn Γ (kBkG N i ca) (den (.bkG i j a)):=by
  intro X B W sc hX m e h
  unfold kBkG at h
  split at h
  · rename_i x p1 a p2
    obtain ⟨h,h5⟩:=and2 h
    obtain ⟨h,h4⟩:=and2 h
    obtain ⟨h,h3⟩:=and2 h
    obtain ⟨h1,h2⟩:=and2 h
    obtain ⟨v,d1,d2⟩:=visB_ok (sc:=X.env.scope) (x:=x) (by rw [hX.hS]; exact h2)
    exact (ev_bkG (hX.bk i j hb) (by rw [hX.hN]; exact of_decide_eq_true h1) v d1 d2 (plainIx_ok h3) (ha X B W sc hX .v _ h4)).val h5
  · cases h
def kBkN (N:List Str) (i:Nat) (ca:Ck):Ck:=fun sc m e=>match e with
  | .inl (.Compare a [.NotIn] [.Name x p1] p2)=>decide (N[i]?=some x) && visB sc x && ca sc .v (.inl a) && (match m with | .t=>true | _=>false)
  | _=>false
theorem s_bkN {i j:Nat} {a:T} (hb:kn.BK i j) (ha:SndC N kk kn Γ ca (den a)):SndC N kk kn Γ (kBkN N i ca) (den (.bkN i j a)):=by
  intro X B W sc hX m e h
  unfold kBkN at h
  split at h
  · rename_i a x p1 p2
    obtain ⟨h,h4⟩:=and2 h
    obtain ⟨h,h3⟩:=and2 h
    obtain ⟨h1,h2⟩:=and2 h
    obtain ⟨v,d1,d2⟩:=visB_ok (sc:=X.env.scope) (x:=x) (by rw [hX.hS]; exact h2)
    cases m with
    | t=>exact et_bkN (hX.bk i j hb) (by rw [hX.hN]; exact of_decide_eq_true h1) v d1 d2 (ha X B W sc hX .v _ h3)
    | _=>cases h4
  · cases h
def kBkI (N:List Str) (i:Nat):Ck:=fun sc m e=>match e with
  | .inl (.Name x p1)=>decide (N[i]?=some x) && visB sc x && (match m with | .i _=>true | .f _=>true | _=>false)
  | _=>false
theorem s_bkI {i j:Nat} (hb:kn.BK i j):SndC N kk kn Γ (kBkI N i) (den (.bkI i j)):=by
  intro X B W sc hX m e h
  unfold kBkI at h
  split at h
  · rename_i x p1
    obtain ⟨h,h3⟩:=and2 h
    obtain ⟨h1,h2⟩:=and2 h
    obtain ⟨v,d1,d2⟩:=visB_ok (sc:=X.env.scope) (x:=x) (by rw [hX.hS]; exact h2)
    cases m with
    | i tg=>exact (ei_bk (hX.bk i j hb) (by rw [hX.hN]; exact of_decide_eq_true h1) v d1 d2).bo
    | f tg=>exact ei_bk (hX.bk i j hb) (by rw [hX.hN]; exact of_decide_eq_true h1) v d1 d2
    | _=>cases h3
  · cases h
def kIfs (no:Bool) (c:Ck) (sc:Scope):List Expr→Bool
  | []=>no
  | [e]=> !no && c sc .t (.inl e)
  | _=>false
theorem rel_scope {X:Cx} {sc scope:Scope} (h:X.env.scope=sc) (cl:List (Str×Addr)) (C:Addr):(compEnvC scope cl C X.env).scope=relS scope sc:=by
  subst h; rfl
theorem Cok.blk {X:Cx} {B:Base} {sc:Scope} {W:WX} (hX:Cok N kk kn X B sc W) (s:Shared) (H:Hp) (scope:Scope) (cl:List (Str×Addr)) (C:Addr) (fp:List Addr):Cok N kk kn.noL (X.blk s H scope (compEnvC scope cl C X.env) fp) B (relS scope sc) W0 :=
  ⟨hX.hN,rel_scope hX.hS cl C,hX.calm,hX.nd,hX.room,takes0,hX.blt,hX.fk,hX.gk,hX.ik,hX.hp,hX.hfl,hX.vk,hX.ob,hX.vf,fun z=>z.elim,fun _ _ _ _ _ z=>z.elim,hX.lf,fun z=>z.elim,hX.lk,hX.oa,hX.mb,hX.gb,hX.no,fun i j q=>⟨(hX.bk i j q).ex⟩⟩
theorem Cok.blkX {X:Cx} {B:Base} {sc:Scope} {W:WX} (hX:Cok N kk kn X B sc W) (W':WX) (s:Shared) (H:Hp) (scope:Scope) (cl:List (Str×Addr)) (C:Addr) (fp:List Addr):Cok N kk kn.noL (Hr.blkX X W' s H scope (compEnvC scope cl C X.env) fp) B (relS scope sc) W' :=
  ⟨hX.hN,rel_scope hX.hS cl C,hX.calm,hX.nd,hX.room,takesX,hX.blt,hX.fk,hX.gk,hX.ik,hX.hp,hX.hfl,hX.vk,hX.ob,hX.vf,fun z=>z.elim,fun _ _ _ _ _ z=>z.elim,hX.lf,fun z=>z.elim,hX.lk,hX.oa,hX.mb,hX.gb,hX.no,fun i j q=>⟨(hX.bk i j q).ex⟩⟩
def lcCore (N:List Str) (Γ:Ow) (own:List (Str×Nat)) (tg:TG) (no:Bool) (ce ci cf:Ck) (sc:Scope):Expr→Bool
  | .ListComp elt [⟨t,it,ifs,as⟩] scope p=>((own.map (·.2)).all fun i=> !prN N i) && decide (as=0) && notSet it && blkC N sc scope own && chkG N Γ (own.map (·.2)) false tg (relS scope sc) (.inl t) && ci sc (.i t) (.inl it) && kIfs no cf (relS scope sc) ifs && ce (relS scope sc) .v (.inl elt)
  | _=>false
structure LcOk (X:Cx) (B:Base) (W:WX) (Γ:Ow) (own:List (Str×Nat)) (tg:TG) (it ifs elt:Den) (t iter e:Expr) (fs:List Expr) (scope:Scope):Prop where
  st:notSet iter=true
  hw:∀ i∈own.map (·.2),B.pr i=false
  hi:EI X B W Γ t iter it.l
  ok:BlkOk X.N X.env.scope scope own
  hg:∀ (s:Shared) (H:Hp) (C:Addr) (cl:List (Str×Addr)) (fp:List Addr),EG (X.blk s H scope (compEnvC scope cl C X.env) fp) B Γ (own.map (·.2)) t (tgd tg).f
  ht:∀ (s:Shared) (H:Hp) (C:Addr) (cl:List (Str×Addr)) (fp:List Addr),ETs (X.blk s H scope (compEnvC scope cl C X.env) fp) B W0 Γ fs ifs.t
  he:∀ (s:Shared) (H:Hp) (C:Addr) (cl:List (Str×Addr)) (fp:List Addr),EV (X.blk s H scope (compEnvC scope cl C X.env) fp) B W0 Γ e elt.v
  hx:∀ (W':WX) (s:Shared) (H:Hp) (C:Addr) (cl:List (Str×Addr)) (fp:List Addr),EV (blkX X W' s H scope (compEnvC scope cl C X.env) fp) B W' Γ e elt.v
theorem lcCore_ok {X : Cx} {B : Base} {W : WX} {sc : Scope} (hX : Cok N kk kn X B sc W) {own : List (Str × Nat)} {tg : TG} {elt it ifs : T} {e : Expr} (he : SndC N kk kn.noL Γ ce (den elt)) (hi : SndC N kk kn Γ ci (den it)) (hf : SndC N kk kn.noL Γ cf (den ifs)) (h : lcCore N Γ own tg ifs.isNo ce ci cf sc e = true) :
    ∃ e0 t iter fs scope p,e=.ListComp e0 [⟨t,iter,fs,0⟩] scope p∧LcOk X B W Γ own tg (den it) (den ifs) (den elt) t iter e0 fs scope:=by
  unfold lcCore at h
  split at h
  · rename_i e0 t iter fs as scope p
    obtain ⟨h,h7⟩:=and2 h
    obtain ⟨h,h6⟩:=and2 h
    obtain ⟨h,h5⟩:=and2 h
    obtain ⟨h,h4⟩:=and2 h
    obtain ⟨h,h3⟩:=and2 h
    obtain ⟨h,h2⟩:=and2 h
    obtain ⟨h0,h1⟩:=and2 h
    have e1:=of_decide_eq_true h1
    subst e1
    refine ⟨e0,t,iter,fs,scope,p,rfl,h2,fun i hi=>hX.hp i (by simpa using List.all_eq_true.mp h0 i hi),hi X B W sc hX (.i t) _ h5,?_,fun s H C cl fp=>?_,fun s H C cl fp=>?_,fun s H C cl fp=>?_,fun W' s H C cl fp=>he _ B W' _ (hX.blkX W' s H scope cl C fp) .v _ h7⟩
    · rw [hX.hN,hX.hS]
      exact blkOk_by h3
    · exact chkG_ok (any:=false) (X:=X.blk s H scope (compEnvC scope cl C X.env) fp) hX.hN (rel_scope hX.hS cl C) hX.calm hX.nd hX.hp (fun z=>by cases z) tg _ h4
    · cases fs with
      | nil =>
        have hn:ifs.isNo=true:=h6
        cases ifs with
        | no=>exact ets_nil
        | _=>cases hn
      | cons f fr =>
        cases fr with
        | cons _ _=>cases h6
        | nil =>
          obtain ⟨k1,k2⟩:=and2 (show (!ifs.isNo && cf (relS scope sc) .t (.inl f))=true from h6)
          exact ets_one (hf _ B W0 _ (hX.blk s H scope cl C fp) .t _ k2)
    · exact he _ B W0 _ (hX.blk s H scope cl C fp) .v _ h7
  · cases h
def kLc (N:List Str) (Γ:Ow) (own:List (Str×Nat)) (tg:TG) (no:Bool) (ce ci cf:Ck):Ck:=fun sc m e=>match e with
  | .inl e=>lcCore N Γ own tg no ce ci cf sc e && m.made (.own .fz) e
  | _=>false
theorem s_lc {own:List (Str×Nat)} {tg:TG} {elt it ifs:T} (he:SndC N kk kn.noL Γ ce (den elt)) (hi:SndC N kk kn Γ ci (den it)) (hf:SndC N kk kn.noL Γ cf (den ifs)):SndC N kk kn Γ (kLc N Γ own tg ifs.isNo ce ci cf) (den (.lc own elt tg it ifs)):=by
  intro X B W sc hX m e h
  unfold kLc at h
  split at h
  · obtain ⟨h1,h2⟩:=and2 h
    obtain ⟨e0,t,iter,fs,scope,p,rfl,L⟩:=lcCore_ok (B:=B) hX he hi hf h1
    exact EO.made (eo_lc hX.calm (by rw [hX.hN]; exact hX.nd) rfl L.st L.hw L.hi L.ok L.hg L.ht L.he) h2
  · cases h
theorem FldOk.re {K:Frag} {B:Base} {i j:Nat} {f:Str} {h0 g0:Hp} (h:FldOk K B i f j):FldOk K (B.re h0 g0) i f j:=⟨h.ex⟩
theorem ObOk.re {K:Frag} {B:Base} {i:Nat} {c:Str} {fj:List (Str×Nat)} {h0 g0:Hp} (h:ObOk K B i c fj):ObOk K (B.re h0 g0) i c fj:=⟨h.ex⟩
theorem Cok.re {X:Cx} {B:Base} {sc:Scope} {W:WX} (hX:Cok N kk kn X B sc W) (h0 g0:Hp):Cok N kk kn.noR X (B.re h0 g0) sc W :=
  ⟨hX.hN,hX.hS,hX.calm,hX.nd,hX.room,hX.tk,hX.blt,hX.fk,hX.gk,hX.ik,hX.hp,fun r j x f e0 e1 e2=>(hX.hfl r j x f e0 e1 e2).re,hX.vk,fun i c fj q=>(hX.ob i c fj q).re,hX.vf,fun z=>z.elim,fun _ _ _ _ _ z=>z.elim,hX.lf,fun z=>z.elim,hX.lk,hX.oa,hX.mb,hX.gb,fun z=>z.elim,fun _ _ z=>z.elim⟩
theorem Cok.w0 {X:Cx} {B:Base} {sc:Scope} {W:WX} (hX:Cok N kk kn X B sc W):Cok N kk kn X B sc W0 :=
  ⟨hX.hN,hX.hS,hX.calm,hX.nd,hX.room,takes0,hX.blt,hX.fk,hX.gk,hX.ik,hX.hp,hX.hfl,hX.vk,hX.ob,hX.vf,hX.lm,hX.la,hX.lf,hX.dx,hX.lk,hX.oa,hX.mb,hX.gb,hX.no,hX.bk⟩
def lcdCore (N:List Str) (Γ:Ow) (own:List (Str×Nat)) (tg:TG) (i:Nat) (no:Bool) (ce cf:Ck) (sc:Scope):Expr→Bool
  | .ListComp elt [⟨t,it,ifs,as⟩] scope p=>((own.map (·.2)).all fun i=> !prN N i) && decide (as=0) && notSet it && blkC N sc scope own && chkG N Γ (own.map (·.2)) false tg (relS scope sc) (.inl t) && (kBase N sc i it && decide (oty Γ i=.fz)) && kIfs no cf (relS scope sc) ifs && ce (relS scope sc) .v (.inl elt)
  | _=>false
theorem lcdCore_ok {X : Cx} {B : Base} {W : WX} {sc : Scope} (hX : Cok N kk kn X B sc W) {own : List (Str × Nat)} {tg : TG} {i : Nat} {elt ifs : T} {e : Expr} (he : SndC N kk kn.noR Γ ce (den elt)) (hf : SndC N kk kn.noR Γ cf (den ifs)) (h : lcdCore N Γ own tg i ifs.isNo ce cf sc e = true) :
    ∃ e0 t iter fs scope p,e=.ListComp e0 [⟨t,iter,fs,0⟩] scope p∧LdOk X B Γ own i (tgd tg).f (den ifs).t (den elt).v t iter e0 fs scope:=by
  unfold lcdCore at h
  split at h
  · rename_i e0 t iter fs as scope p
    obtain ⟨h,h7⟩:=and2 h
    obtain ⟨h,h6⟩:=and2 h
    obtain ⟨h,h5⟩:=and2 h
    obtain ⟨h,h4⟩:=and2 h
    obtain ⟨h,h3⟩:=and2 h
    obtain ⟨h,h2⟩:=and2 h
    obtain ⟨h0,h1⟩:=and2 h
    obtain ⟨h5,h8⟩:=and2 h5
    have e1:=of_decide_eq_true h1
    subst e1
    refine ⟨e0,t,iter,fs,scope,p,rfl,h2,fun i hi=>hX.hp i (by simpa using List.all_eq_true.mp h0 i hi),of_decide_eq_true h8,fun a b=>kBase_ok (hX.re a b) h5,?_,fun a b s H C cl fp=>?_,fun a b s H C cl fp=>?_,fun a b s H C cl fp=>?_⟩
    · rw [hX.hN,hX.hS]
      exact blkOk_by h3
    · exact chkG_ok (any:=false) (X:=X.blk s H scope (compEnvC scope cl C X.env) fp) hX.hN (rel_scope hX.hS cl C) hX.calm hX.nd (hX.re a b).hp (fun z=>by cases z) tg _ h4
    · cases fs with
      | nil =>
        have hn:ifs.isNo=true:=h6
        cases ifs with
        | no=>exact ets_nil
        | _=>cases hn
      | cons f fr =>
        cases fr with
        | cons _ _=>cases h6
        | nil =>
          obtain ⟨k1,k2⟩:=and2 (show (!ifs.isNo && cf (relS scope sc) .t (.inl f))=true from h6)
          exact ets_one (hf _ (B.re a b) W0 _ ((hX.re a b).blk s H scope cl C fp) .t _ k2)
    · exact he _ (B.re a b) W0 _ ((hX.re a b).blk s H scope cl C fp) .v _ h7
  · cases h
def kLcd (N:List Str) (Γ:Ow) (own:List (Str×Nat)) (tg:TG) (i:Nat) (no:Bool) (ce cf:Ck):Ck:=fun sc m e=>match e with
  | .inl e=>lcdCore N Γ own tg i no ce cf sc e && m.made (.own .fz) e
  | _=>false
theorem s_lcd {own:List (Str×Nat)} {tg:TG} {i:Nat} {elt ifs:T} (he:SndC N kk kn.noR Γ ce (den elt)) (hf:SndC N kk kn.noR Γ cf (den ifs)):SndC N kk kn Γ (kLcd N Γ own tg i ifs.isNo ce cf) (den (.lcd own elt tg i ifs)):=by
  intro X B W sc hX m e h
  unfold kLcd at h
  split at h
  · obtain ⟨h1,h2⟩:=and2 h
    obtain ⟨e0,t,iter,fs,scope,p,rfl,L⟩:=lcdCore_ok (B:=B) hX he hf h1
    exact EO.made (eo_lcd hX.calm (by rw [hX.hN]; exact hX.nd) L) h2
  · cases h
def kDnew:Ck:=fun _ m e=>match e with
  | .inl (.Dict [] [] p)=>m.made (.own .fz) (.Dict [] [] p)
  | _=>false
theorem s_dnew {t:Bool}:SndC N kk kn Γ kDnew (den (.dnew t)):=by
  intro X B W sc hX m e h
  unfold kDnew at h
  split at h
  · exact EO.made (eo_dnew t) h
  · cases h
def kDict (ca:Ck):Ck:=fun sc m e=>match e with
  | .inl (.Call (.Name y p) [a] [] pos)=>decide (("dict":Str)=y) && glB sc "dict" && noStar a && ca sc .b (.inl a) && m.val (.Call (.Name y p) [a] [] pos)
  | _=>false
theorem s_dict {a:T} (ha:SndC N kk kn Γ ca (den a)):SndC N kk kn Γ (kDict ca) (den (.dict a)):=by
  intro X B W sc hX m e h
  unfold kDict at h
  split at h
  · obtain ⟨h,h5⟩:=and2 h
    obtain ⟨h,h4⟩:=and2 h
    obtain ⟨h,h3⟩:=and2 h
    obtain ⟨h1,h2⟩:=and2 h
    have e1:=of_decide_eq_true h1
    subst e1
    obtain ⟨g,_⟩:=glB_ok (X:=X) (x:= "dict") (by rw [hX.hS]; exact h2)
    exact EV.val (ev_dict hX.calm g (hX.blt _ (by decide +kernel)) h3 (ha X B W sc hX .b _ h4)) h5
  · cases h
theorem oty_cons_self (i:Nat) (t:OT) (Γ:Ow):oty ((i,t) :: Γ) i=t:=by unfold oty; simp [List.lookup]
theorem oty_cons_ne {i k:Nat} {t:OT} {Γ:Ow} (h:k≠i):oty ((i,t) :: Γ) k=oty Γ k:=by
  unfold oty
  have:(k == i)=false:=by simpa using h
  simp [List.lookup,this]
def kLnd (t:OT) (ca:Ck):Ck:=fun sc m e=>match e with
  | .inl x => (match m with
      | .o u=>decide (t=u) && ca sc (.o u) (.inl x)
      | _=>false)
  | _=>false
theorem s_lnd {i:Nat} {t:OT} {a:T} (ha:SndC N kk kn ((i,.fz) :: Γ) ca (den a)):SndC N kk kn Γ (kLnd t ca) (den (.lnd i t a)):=by
  intro X B W sc hX m e h
  unfold kLnd at h
  split at h
  · cases m with
    | o u =>
      obtain ⟨h1,h2⟩:=and2 h
      have e1:=of_decide_eq_true h1
      subst e1
      exact eo_lnd (oty_cons_self ..) (fun j hj=>oty_cons_ne hj) (ha X B W sc hX (.o t) _ h2)
    | _=>cases h
  · cases h
def kFst (c:Str) (ca cb:Ck):Ck:=fun sc m e=>match e with
  | .inl (.JoinedStr [.FormattedValue a v1 none p1,.Constant (.str y) k p2,.FormattedValue b v2 none p3] pos)=>decide (v1= -1) && decide (v2= -1) && decide (c=y) && ca sc .b (.inl a) && cb sc .b (.inl b) && m.val (.JoinedStr [.FormattedValue a v1 none p1,.Constant (.str y) k p2,.FormattedValue b v2 none p3] pos)
  | _=>false
theorem s_fst {c:Str} {a b:T} (ha:SndC N kk kn Γ ca (den a)) (hb:SndC N kk kn Γ cb (den b)):SndC N kk kn Γ (kFst c ca cb) (den (.fst c a b)):=by
  intro X B W sc hX m e h
  unfold kFst at h
  split at h
  · obtain ⟨h,h6⟩:=and2 h
    obtain ⟨h,h5⟩:=and2 h
    obtain ⟨h,h4⟩:=and2 h
    obtain ⟨h,h3⟩:=and2 h
    obtain ⟨h1,h2⟩:=and2 h
    have e1:=of_decide_eq_true h1
    have e2:=of_decide_eq_true h2
    have e3:=of_decide_eq_true h3
    subst e1 e2 e3
    exact EV.val (ev_fst (ha X B W sc hX .b _ h4) (hb X B W sc hX .b _ h5)) h6
  · cases h
def kNone:Ck:=fun _ _ _=>false
theorem s_none {d:Den}:SndC N kk kn Γ kNone d:=fun _ _ _ _ _ _ _ h=>by cases h
end
def chk (N:List Str) (Γ:Ow):T→Ck
  | .var i=>kVar N Γ i
  | .con d=>kCon d
  | .glo x _=>kGlo x
  | .neg a=>kNeg (chk N Γ a)
  | .bin op a b=>kBin op (chk N Γ a) (chk N Γ b)
  | .cmp op a b=>kCmp op (chk N Γ a) (chk N Γ b)
  | .and a b=>kAnd (chk N Γ a) (chk N Γ b)
  | .or a b=>kOr (chk N Γ a) (chk N Γ b)
  | .not a=>kNot (chk N Γ a)
  | .one a=>kOne (chk N Γ a)
  | .nil=>kNil
  | .cons a l=>kCons (chk N Γ a) (chk N Γ l)
  | .no=>kNone
  | .tup l=>kTup (chk N Γ l)
  | .lst l=>kLst (chk N Γ l)
  | .sub a b=>kSub (chk N Γ a) (chk N Γ b)
  | .sli a lo hi=>if ((lo.isNo || lo.pOk) && (hi.isNo || hi.pOk))=true then kSli lo.isNo hi.isNo (chk N Γ a) (chk N Γ lo) (chk N Γ hi) else kNone
  | .call x _ t _ _ l=>kCall x t (chk N Γ l)
  | .bi b l=>kBi b (chk N Γ l)
  | .isi t a=>kIsi t (chk N Γ a)
  | .idx a b=>kIdx (chk N Γ a) (chk N Γ b)
  | .cnt a b=>kCnt (chk N Γ a) (chk N Γ b)
  | .join a b=>kJoin (chk N Γ a) (chk N Γ b)
  | .lc own elt tg it ifs=>kLc N Γ own tg ifs.isNo (chk N Γ elt) (chk N Γ it) (chk N Γ ifs)
  | .lcd own elt tg i ifs=>kLcd N Γ own tg i ifs.isNo (chk N Γ elt) (chk N Γ ifs)
  | .itI a=>kItI (chk N Γ a)
  | .itR1 l=>kItR1 (chk N Γ l)
  | .itE l=>kItE (chk N Γ l)
  | .itZ l=>kItZ (chk N Γ l)
  | .dnew _=>kDnew
  | .dict a=>kDict (chk N Γ a)
  | .fst c a b=>kFst c (chk N Γ a) (chk N Γ b)
  | .bkG i _ e=>kBkG N i (chk N Γ e)
  | .bkN i _ e=>kBkN N i (chk N Γ e)
  | .bkI i _=>kBkI N i
  | .lnd i t e=>kLnd t (chk N ((i,.fz) :: Γ) e)
def TOk (kn:Kn):T→Prop
  | .glo x d=>kn.GK x d
  | .neg a=>TOk kn a
  | .bin _ a b=>TOk kn a∧TOk kn b
  | .cmp _ a b=>TOk kn a∧TOk kn b
  | .and a b=>TOk kn a∧TOk kn b
  | .or a b=>TOk kn a∧TOk kn b
  | .not a=>TOk kn a
  | .one a=>TOk kn a
  | .cons a l=>TOk kn a∧TOk kn l
  | .tup l=>TOk kn l
  | .lst l=>TOk kn l
  | .sub a b=>TOk kn a∧TOk kn b
  | .sli a lo hi=>TOk kn a∧TOk kn lo∧TOk kn hi
  | .call x n t k φ l=>kn.FK x n t k φ∧TOk kn l
  | .bi _ l=>TOk kn l
  | .isi _ a=>TOk kn a
  | .idx a b=>TOk kn a∧TOk kn b
  | .cnt a b=>TOk kn a∧TOk kn b
  | .join a b=>TOk kn a∧TOk kn b
  | .lc _ elt _ it ifs=>TOk kn.noL elt∧TOk kn it∧TOk kn.noL ifs
  | .lcd _ elt _ _ ifs=>TOk kn.noR elt∧TOk kn.noR ifs
  | .itI a=>TOk kn a
  | .itR1 l=>TOk kn l
  | .itE l=>TOk kn l
  | .itZ l=>TOk kn l
  | .dict a=>TOk kn a
  | .fst _ a b=>TOk kn a∧TOk kn b
  | .bkG i j e=>kn.BK i j∧TOk kn e
  | .bkN i j e=>kn.BK i j∧TOk kn e
  | .bkI i j=>kn.BK i j
  | .lnd _ _ e=>TOk kn e
  | _=>True
theorem sound {N:List Str}:∀ (t:T) {Γ:Ow} {kk:Nat} {kn:Kn},TOk kn t→SndC N kk kn Γ (chk N Γ t) (den t)
  | .var i,_,_,_,_=>s_var i
  | .con d,_,_,_,_=>s_con d
  | .glo x d,_,_,_,h=>s_glo h
  | .neg a,_,_,_,h=>s_neg (sound a h)
  | .bin op a b,_,_,_,h=>s_bin (sound a h.1) (sound b h.2)
  | .cmp op a b,_,_,_,h=>s_cmp (sound a h.1) (sound b h.2)
  | .and a b,_,_,_,h=>s_and (sound a h.1) (sound b h.2)
  | .or a b,_,_,_,h=>s_or (sound a h.1) (sound b h.2)
  | .not a,_,_,_,h=>s_not (sound a h)
  | .one a,_,_,_,h=>s_one (sound a h)
  | .nil,_,_,_,_=>s_nil
  | .cons a l,_,_,_,h=>s_cons (sound a h.1) (sound l h.2)
  | .no,_,_,_,_=>s_none
  | .tup l,_,_,_,h=>s_tup (sound l h)
  | .lst l,_,_,_,h=>s_lst (sound l h)
  | .sub a b,_,_,_,h=>s_sub (sound a h.1) (sound b h.2)
  | .sli a lo hi,_,_,_,h=>by
    unfold chk
    split
    · rename_i q
      obtain ⟨q1,q2⟩:=and2 q
      exact s_sli q1 q2 (sound a h.1) (sound lo h.2.1) (sound hi h.2.2)
    · exact s_none
  | .call x n t k φ l,_,_,_,h=>s_call h.1 (sound l h.2)
  | .bi b l,_,_,_,h=>s_bi (sound l h)
  | .isi t a,_,_,_,h=>s_isi (sound a h)
  | .idx a b,_,_,_,h=>s_idx (sound a h.1) (sound b h.2)
  | .cnt a b,_,_,_,h=>s_cnt (sound a h.1) (sound b h.2)
  | .join a b,_,_,_,h=>s_join (sound a h.1) (sound b h.2)
  | .lc own elt tg it ifs,_,_,_,h=>s_lc (sound elt h.1) (sound it h.2.1) (sound ifs h.2.2)
  | .lcd own elt tg i ifs,_,_,_,h=>s_lcd (sound elt h.1) (sound ifs h.2)
  | .itI a,_,_,_,h=>s_itI (sound a h)
  | .itR1 l,_,_,_,h=>s_itR1 (sound l h)
  | .itE l,_,_,_,h=>s_itE (sound l h)
  | .itZ l,_,_,_,h=>s_itZ (sound l h)
  | .dnew t,_,_,_,_=>s_dnew
  | .dict a,_,_,_,h=>s_dict (sound a h)
  | .fst c a b,_,_,_,h=>s_fst (sound a h.1) (sound b h.2)
  | .bkG _ _ e,_,_,_,h=>s_bkG h.1 (sound e h.2)
  | .bkN _ _ e,_,_,_,h=>s_bkN h.1 (sound e h.2)
  | .bkI _ _,_,_,_,h=>s_bkI h
  | .lnd i t e,_,_,_,h=>s_lnd (sound e h)
end Hr
end
section
namespace Hr
open PySem PySem.Spec L2 PyProof.Rows
inductive HK where
  | two (c1 c2:Str) (tb1 tb2:List (Str×Bool)) (za zb:Str)
  | tab (j:Nat) (cs:List (Str×List (Str×Bool))) (cl:Str×List (Str×Bool)) (zs:List Str)
def okStr (z:Str):Bool:=PyData.strOk z && decide (z.length≤sizeLine)
def txt:R D→Option Str
  | .ok (.str z)=>if okStr z then some z else none
  | _=>none
section
variable {X:Cx} {B:Base} {W:WX} {Γ Γn:Ow} {o:OC} {n x:Str} {i:Nat} {a:Addr} {oe:Obj} {pn:List (Addr×Obj)} {c:Str} {e:Expr} {fe:En→R D} {b₀:Stmt} {suite:List Stmt} {np pr pos pos' p p1 p2 q:Pos}
structure HvOk (X:Cx) (B:Base) (Γ:Ow) (o:OC) (i m:Nat) (suite:List Stmt) (hv:Str→Option Str):Prop where
  run:∀ (a:Addr) (oe:Obj) (c:Str) (pn:List (Addr×Obj)) (z:Str),Zc (clsV X.K c) none oe→(∃ vs,oe.data=.fields vs)→hv c=some z →
    ∃ F:En→Out,SVs (X.suite a ((a,oe) :: pn)) B W0 Γ Γ o suite F∧∀ s:En,s[i]?=some (some (.adr a))→m < s.length→F s=.rt (.str z)
  str:∀ c z,hv c=some z→okStr z=true
section
variable {N:List Str} {kk:Nat} {kn:Kn} {sc:Scope}
end
end
end Hr
end
section
namespace Hr
open PySem PySem.Spec L2
structure BQ where
  ob:List OB
  b:BD
  prs:List Pr
  out:List Pr
  ks:List AK
  gi:List Nat
  gj:List Nat
  ji:List Nat
  jj:List Nat
structure MC where
  x:Bool
  i:Nat
  c:Str
  m:Str
  fj:List (Str×Nat)
  ft:List (Str×OT)
  n:Nat
  t:OT
  k:Nat
  ψ:List D→MR
  l:T
  bq:Option BQ
def dM0 (q:MC):En→MU:=eMu q.ψ q.n (q.fj.map (·.2)) (den q.l).l
def dM (q:MC):En→MU:=match q.bq with
  | none=>dM0 q
  | some r=>eMuB q.ψ q.n r.gj r.jj (den q.l).l
structure NQ where
  i:Nat
  k:Nat
  ob:List OB
  p:OB
  kl:List Nat
  kx:List Nat
  b:BD
  prs:List Pr
  out:List Pr
  ks:List AK
  gi:List Nat
  gj:List Nat
  ji:List Nat
  jj:List Nat
  n:Nat
  m:Nat
  ψ:List D→MR
  l:T
structure LQ where
  ob:List OB
  ks:Nat
  ky:Nat
  i:Nat
  j:Nat
  jy:Nat
  f:Str
  ps:OB
  py:OB
structure RQ where
  ob:List OB
  ks:Nat
  kv:Nat
  i:Nat
  j:Nat
  f:Str
  ps:OB
  pv:OB
  ft:List (Str×OT)
  n:Nat
  m:Nat
  ψ:List D→MR
  l:T
inductive S where
  | asg (vs:List Nat) (tg:TG) (e:T)
  | own (i:Nat) (t:OT) (e:T)
  | app (i:Nat) (e:T)
  | ext (i:Nat) (e:T)
  | put (i:Nat) (k e:T)
  | ret (e:T)
  | ite (c:T) (a b:S)
  | fr (vs:List Nat) (tg:TG) (it:T) (body:S)
  | lnk (q:LQ)
  | vc (i:Nat) (vs:List Nat) (tg:TG) (it k:T)
  | bk (i j:Nat) (vs:List Nat) (tg:TG) (it k v:T) (b:S)
  | brk
  | cnt
  | pas
  | nil
  | seq (Γ1:Ow) (a b:S)
  | wk (Γ1:Ow) (b:S)
def dS:S→En→Out
  | .asg _ tg e=>sAsg (tgd tg).f (den e).v
  | .own i _ e=>sAsg (ftName i) (den e).v
  | .app i e=>sApp i (den e).v
  | .ext i e=>sExt i (den e).v
  | .put i k e=>sPut i (den k).v (den e).v
  | .ret e=>sRet (den e).v
  | .ite c a b=>sIte (den c).t (dS a) (dS b)
  | .fr _ tg it body=>sFor (tgd tg).f (den it).l (dS body)
  | .vc i _ tg it k=>sVc i (tgd tg).f (den it).l (den k).v
  | .bk i j _ tg it k v b=>sBk i j (tgd tg).f (den it).l (den k).v (den v).v (dS b)
  | .lnk q=>sLnk q.j
  | .brk=>sBrk
  | .cnt=>sCnt
  | .pas=>sSkip
  | .nil=>sSkip
  | .seq _ a b=>sSeq (dS a) (dS b)
  | .wk _ b=>dS b
structure CokS (N:List Str) (kk:Nat) (kn:Kn) (X:Cx) (B:Base) (sc:Scope) (W:WX):Prop where
  e:Cok N kk kn X B sc W
  po:PassesOwn (model X.prog X.w) X.A X.env X.xe
  fn:∀ x,X.fn x=true
  kd:sc.kind=.function
  xk:∀ c,kn.XK c→PySem.W.excIn X.K (He.ga X.K c) He.veBase "ValueError.__new__"=true∧X.mg c=some (.ref (He.ga X.K c))∧PySem.W.keepIn X.K (.ref (He.ga X.K c))=true∧Raises X (.ref (He.ga X.K c))
  xm:∀ c tb,kn.MK c tb→X.mg c=some (clsV X.K c)∧∀ d b,tb.lookup d=some b→PySem.W.exmOne X.K (clsV X.K d) (clsV X.K c)=some b
  hs:X.stack=X.env :: X.outer
  hf:X.env.frame=some X.env.locals
  hex:X.ex=[]
  uk:∀ c m ft n t k ψ,kn.UK c m ft n t k ψ→k≤kk∧MokM X.prog X.w X.K X.mg X.base c m ft n t k ψ
  uf:∀ x c ft n t k ψ,kn.UF x c ft n t k ψ→k≤kk∧FokM X.prog X.w X.K X.mg X.base x c ft n t k ψ
  nk:∀ c ft n k ψ,kn.NK c ft n k ψ→k + 1≤kk∧MokI X.prog X.w X.K X.mg X.base c ft n k ψ
  om:∀ i c fj,kn.OM i c fj→ObM X B i c fj
  on:∀ i c fj,kn.ON i c fj→ObN X B i c fj
  fs:∀ i f j,kn.FS i f j→FldSet X.K B i f j
  ux:∀ x c ft nf ks n t k ψ,kn.UX x c ft nf ks n t k ψ→k≤kk∧FokX X.prog X.w X.K X.mg X.base x c ft nf ks n t k ψ
  np:PrO B
  ib:∀ c b k ψ,kn.IB c b k ψ→k + 1≤kk∧IokB X.prog X.w X.K X.mg X.base c b k ψ
  fa:∀ c f,kn.FA c f→Cls X.K (He.ga X.K c)∧NoAttr X.K (He.ga X.K c) f
def isComp:Expr→Bool
  | .ListComp _ _ _ _=>true
  | .SetComp _ _ _ _=>true
  | .DictComp _ _ _ _ _=>true
  | _=>false
theorem swaps_plain {e:Expr} (h:isComp e=false) (t:Option Expr) (l:Nat) (env:Env):swapsWith e t l env=pure false:=by
  cases e <;> first | rfl | cases h
theorem swapsSole_plain {e:Expr} (h:isComp e=false) (t:Expr) (l:Nat) (env:Env):swapsWithSole [t] e l env=pure false:=swaps_plain h _ _ _
def noPar:Expr→Expr→Bool
  | .Tuple _ _ _,.Tuple _ _ _=>false
  | .List _ _,.Tuple _ _ _=>false
  | _,_=>true
theorem noPar_ok {tg e:Expr} (h:noPar tg e=true) (env:Env):swappedStores [tg] e env=pure none:=by
  cases tg <;> first
    | rfl
    | (cases e <;> first | rfl | cases h)
def swapB (sc:Scope) (y:Str) (py:Pos) (e:Expr):Bool:=match e with
  | .ListComp _ _ scope pos=>lclB sc y && (py.line == pos.line) && !(scope.names.any fun (n,k)=>n == y && (k == .local || k == .cell))
  | _=>false
def isLc:Expr→Bool
  | .ListComp _ _ _ _=>true
  | _=>false
theorem kindOf_scope (env:Env) (x:Str):env.kindOf x=env.scope.names.lookup x:=rfl
theorem swapB_false {sc:Scope} {y:Str} {py:Pos} {e:Expr} {env:Env} (hk:env.scope.kind=.function) (hs:env.scope=sc) (he:isLc e=true) (h:swapB sc y py e=false) (l:Nat):swapsWith e (some (.Name y py)) l env=pure false:=by
  cases e with
  | ListComp elt gs scope pos =>
    have hb:env.blockKind=.function:=by unfold Env.blockKind; rw [hk]; rfl
    unfold swapsWith
    simp only [hb]
    unfold swapB lclB at h
    subst hs
    rw [kindOf_scope]
    cases q:env.scope.names.lookup y with
    | none=>simp
    | some k =>
      rw [q] at h
      cases k <;> first | rfl | skip
      · simp only [Bool.true_and] at h
        cases q1:(py.line == pos.line) with
        | false=>simp [Expr.pos,q1]
        | true =>
          rw [q1] at h
          simp only [Bool.true_and] at h
          have h':(scope.names.any fun (n,k)=>n == y && (k == .local || k == .cell))=true:=by simpa using h
          simp only [Expr.pos,q1]
          rw [h']
          rfl
  | _=>cases he
def sameOff (i:Nat) (Γ Γn:Ow):Bool:=(Γ.map (·.1) ++ Γn.map (·.1)).all fun j=>decide (j=i) || decide (oty Γn j=oty Γ j)
theorem sameOff_ok {i:Nat} {Γ Γn:Ow} (h:sameOff i Γ Γn=true):∀ j,j≠i→oty Γn j=oty Γ j:=by
  intro j hj
  by_cases m:j∈Γ.map (·.1) ++ Γn.map (·.1)
  · have:=List.all_eq_true.mp h j m
    rcases Bool.or_eq_true_iff.mp this with q | q
    · exact absurd (of_decide_eq_true q) hj
    · exact of_decide_eq_true q
  · rw [oty_none fun q=>m (List.mem_append_right _ q),oty_none fun q=>m (List.mem_append_left _ q)]
abbrev Cs:=Ow→Ow→OC→Sum Stmt (List Stmt)→Bool
def SndS (N:List Str) (kk:Nat) (kn:Kn) (sc:Scope) (c:Cs) (f:En→Out):Prop:=∀ (X:Cx) (B:Base) (W:WX),CokS N kk kn X B sc W→∀ Γ Γn o st,c Γ Γn o st=true→match st with
  | .inl st=>SV X B W Γ Γn o st f
  | .inr sts=>SVs X B W Γ Γn o sts f
section
variable {N:List Str} {kk:Nat} {kn:Kn} {sc:Scope} {ca cb:Cs} {f g:En→Out}
def kAsg (N:List Str) (sc:Scope) (vs:List Nat) (tg:TG) (e:T):Cs:=fun Γ Γn o st=>match st with
  | .inl (.Assign [t] x p)=>decide (Γn=Γ) && leB Γ o.x && !(isComp x) && noPar t x && noStar t && chk N Γ e sc .v (.inl x) && chkG N Γ vs true tg sc (.inl t)
  | _=>false
theorem s_asg {vs:List Nat} {tg:TG} {e:T} (he:TOk kn e):SndS N kk kn sc (kAsg N sc vs tg e) (dS (.asg vs tg e)):=by
  intro X B W hX Γ Γn o st h
  unfold kAsg at h
  split at h
  · obtain ⟨h,h7⟩:=and2 h
    obtain ⟨h,h6⟩:=and2 h
    obtain ⟨h,h5⟩:=and2 h
    obtain ⟨h,h4⟩:=and2 h
    obtain ⟨h,h3⟩:=and2 h
    obtain ⟨h1,h2⟩:=and2 h
    have e1:=of_decide_eq_true h1
    subst e1
    exact sv_asg (leB_ok h2) (swaps_plain (by simpa using h3) _ _ _) (noPar_ok h4 _) h5 (sound e he X B W sc hX.e .v _ h6) (chkG_ok hX.e.hN hX.e.hS hX.e.calm hX.e.nd hX.e.hp (fun _=>hX.fn) tg _ h7)
  · cases h
def kOwn (N:List Str) (sc:Scope) (i:Nat) (t:OT) (e:T):Cs:=fun Γ Γn o st=>match st with
  | .inl (.Assign [.Name x q] y p) => !prN N i && leB Γ o.x && decide (oty Γn i = t) && sameOff i Γ Γn && decide (N[i]? = some x) && locB sc x && noPar (.Name x q) y &&
      (if isComp y = true then isLc y && (if swapB sc x q y = true then (match e with
          | .lc own elt tg it ifs=>decide (t=.own .fz) && lcCore N Γ own tg ifs.isNo (chk N Γ elt) (chk N Γ it) (chk N Γ ifs) sc y
          | .lcd own elt tg l ifs=>decide (t=.own .fz) && lcdCore N Γ own tg l ifs.isNo (chk N Γ elt) (chk N Γ ifs) sc y
          | .lnd i' t' (.lcd own elt tg l ifs)=>decide (t=.own .fz) && decide (t'=.own .fz) && lcdCore N ((i',.fz) :: Γ) own tg l ifs.isNo (chk N ((i',.fz) :: Γ) elt) (chk N ((i',.fz) :: Γ) ifs) sc y
          | _=>false) else chk N Γ e sc (.o t) (.inl y)) else chk N Γ e sc (.o t) (.inl y))
  | _=>false
theorem s_own {i:Nat} {t:OT} {e:T} (he:TOk kn e):SndS N kk kn sc (kOwn N sc i t e) (dS (.own i t e)):=by
  intro X B W hX Γ Γn o st h
  unfold kOwn at h
  split at h
  · rename_i x q y p
    obtain ⟨h,h7⟩:=and2 h
    obtain ⟨h,h6⟩:=and2 h
    obtain ⟨h,h5⟩:=and2 h
    obtain ⟨h,h4⟩:=and2 h
    obtain ⟨h,h3⟩:=and2 h
    obtain ⟨h,h2⟩:=and2 h
    obtain ⟨h0,h1⟩:=and2 h
    have hpi:=hX.e.hp i (by simpa using h0)
    have hN:X.N[i]?=some x:=by rw [hX.e.hN]; exact of_decide_eq_true h4
    have hnd:X.N.Nodup:=by rw [hX.e.hN]; exact hX.e.nd
    have hx:L2.Loc X.env.scope x:=by rw [hX.e.hS]; exact locB_ok h5
    have hk:X.env.scope.kind=.function:=by rw [hX.e.hS]; exact hX.kd
    by_cases c:isComp y=true
    · rw [if_pos c] at h7
      obtain ⟨hl,h7⟩:=and2 h7
      by_cases w:swapB sc x q y=true
      · rw [if_pos w] at h7
        cases e with
        | lc own elt tg it ifs =>
          obtain ⟨h8,h9⟩:=and2 h7
          have et:t=.own .fz:=of_decide_eq_true h8
          subst et
          have he:TOk kn.noL elt∧TOk kn it∧TOk kn.noL ifs:=he
          obtain ⟨e0,tt,iter,fs,scope,pp,rfl,L⟩:=lcCore_ok (B:=B) hX.e (sound elt he.1) (sound it he.2.1) (sound ifs he.2.2) h9
          obtain ⟨w,w3⟩:=and2 (show (lclB sc x && (q.line == pp.line) && !(scope.names.any fun (n,k)=>n == x && (k == .local || k == .cell)))=true from w)
          obtain ⟨w1,w2⟩:=and2 w
          have hl:X.env.scope.names.lookup x=some .local:=by rw [hX.e.hS]; exact lclB_ok w1
          exact sv_setLc (t:=.own .fz) hpi L.hw (leB_ok h1) (of_decide_eq_true h2) (sameOff_ok h3) hX.e.calm hnd hN hl (sw_true hk hl w2 (by simpa using w3)) rfl L.st L.hi L.ok L.hg L.ht L.he
        | lcd own elt tg l ifs =>
          obtain ⟨h8,h9⟩:=and2 h7
          have et:t=.own .fz:=of_decide_eq_true h8
          subst et
          have he:TOk kn.noR elt∧TOk kn.noR ifs:=he
          obtain ⟨e0,tt,iter,fs,scope,pp,rfl,L⟩:=lcdCore_ok (B:=B) hX.e (sound elt he.1) (sound ifs he.2) h9
          obtain ⟨w,w3⟩:=and2 (show (lclB sc x && (q.line == pp.line) && !(scope.names.any fun (n,k)=>n == x && (k == .local || k == .cell)))=true from w)
          obtain ⟨w1,w2⟩:=and2 w
          have hl:X.env.scope.names.lookup x=some .local:=by rw [hX.e.hS]; exact lclB_ok w1
          exact sv_setLcd hpi (leB_ok h1) (of_decide_eq_true h2) (sameOff_ok h3) hX.e.calm hnd hN hl (sw_true hk hl w2 (by simpa using w3)) L
        | lnd i' t' e' =>
          cases e' with
          | lcd own elt tg l ifs =>
            obtain ⟨h8,h9⟩:=and2 h7
            obtain ⟨h8a,h8b⟩:=and2 h8
            have et':t'=.own .fz:=of_decide_eq_true h8b
            subst et'
            have et:t=.own .fz:=of_decide_eq_true h8a
            subst et
            have he:TOk kn.noR elt∧TOk kn.noR ifs:=he
            obtain ⟨e0,tt,iter,fs,scope,pp,rfl,L⟩:=lcdCore_ok (B:=B) hX.e (sound elt he.1) (sound ifs he.2) h9
            obtain ⟨w,w3⟩:=and2 (show (lclB sc x && (q.line == pp.line) && !(scope.names.any fun (n,k)=>n == x && (k == .local || k == .cell)))=true from w)
            obtain ⟨w1,w2⟩:=and2 w
            have hl:X.env.scope.names.lookup x=some .local:=by rw [hX.e.hS]; exact lclB_ok w1
            exact sv_lndLcd (oty_cons_self ..) (fun j hj=>oty_cons_ne hj) hpi (leB_ok h1) (of_decide_eq_true h2) (sameOff_ok h3) hX.e.calm hnd hN hl (sw_true hk hl w2 (by simpa using w3)) L
          | _=>cases h7
        | _=>cases h7
      · rw [if_neg w] at h7
        exact sv_own hpi (leB_ok h1) (of_decide_eq_true h2) (sameOff_ok h3) (show swapsWithSole [.Name x q] y p.line X.env=pure false from swapB_false hk hX.e.hS hl (by simpa using w) p.line) (noPar_ok h6 _) hnd hN hx (.inl (hX.fn x)) (sound e he X B W sc hX.e (.o t) _ h7)
    · rw [if_neg c] at h7
      exact sv_own hpi (leB_ok h1) (of_decide_eq_true h2) (sameOff_ok h3) (swapsSole_plain (by simpa using c) _ _ _) (noPar_ok h6 _) hnd hN hx (.inl (hX.fn x)) (sound e he X B W sc hX.e (.o t) _ h7)
  · cases h
def kApp (N:List Str) (sc:Scope) (nm:Str) (i:Nat) (e:T) (m:Md):Cs:=fun Γ Γn o st=>match st with
  | .inl (.Expr (.Call (.Attribute be y ap) [a] [] cp) q)=>decide (Γn=Γ) && leB Γ o.x && decide (nm=y) && decide (oty Γ i=.own .fz) && kBase N sc i be && (ap.endLine == cp.line) && noStar a && chk N Γ e sc m (.inl a)
  | _=>false
theorem s_app {i:Nat} {e:T} (he:TOk kn e):SndS N kk kn sc (kApp N sc "append" i e .v) (dS (.app i e)):=by
  intro X B W hX Γ Γn o st h
  unfold kApp at h
  split at h
  · rename_i be y ap a cp q
    obtain ⟨h,h9⟩:=and2 h
    obtain ⟨h,h8⟩:=and2 h
    obtain ⟨h,h7⟩:=and2 h
    obtain ⟨h,h5⟩:=and2 h
    obtain ⟨h,h4⟩:=and2 h
    obtain ⟨h,h3⟩:=and2 h
    obtain ⟨h1,h2⟩:=and2 h
    have e1:=of_decide_eq_true h1
    have e3:=of_decide_eq_true h3
    subst e1 e3
    exact sv_app (leB_ok h2) (of_decide_eq_true h4) (kBase_ok hX.e h5) (kBase_nc h5) h7 h8 (sound e he X B W sc hX.e .v _ h9)
  · cases h
theorem s_ext {i:Nat} {e:T} (he:TOk kn e):SndS N kk kn sc (kApp N sc "extend" i e .b) (dS (.ext i e)):=by
  intro X B W hX Γ Γn o st h
  unfold kApp at h
  split at h
  · rename_i be y ap a cp q
    obtain ⟨h,h9⟩:=and2 h
    obtain ⟨h,h8⟩:=and2 h
    obtain ⟨h,h7⟩:=and2 h
    obtain ⟨h,h5⟩:=and2 h
    obtain ⟨h,h4⟩:=and2 h
    obtain ⟨h,h3⟩:=and2 h
    obtain ⟨h1,h2⟩:=and2 h
    have e1:=of_decide_eq_true h1
    have e3:=of_decide_eq_true h3
    subst e1 e3
    exact sv_ext (leB_ok h2) (of_decide_eq_true h4) (kBase_ok hX.e h5) (kBase_nc h5) h7 h8 (sound e he X B W sc hX.e .b _ h9)
  · cases h
def kPut (N:List Str) (sc:Scope) (i:Nat) (k e:T):Cs:=fun Γ Γn o st=>match st with
  | .inl (.Assign [.Subscript be ke q] a r)=>decide (Γn=Γ) && leB Γ o.x && decide (oty Γ i=.own .fz) && kBase N sc i be && !(isComp a) && chk N Γ k sc .v (.inl ke) && chk N Γ e sc .v (.inl a)
  | _=>false
theorem s_put {i:Nat} {k e:T} (hk:TOk kn k) (he:TOk kn e):SndS N kk kn sc (kPut N sc i k e) (dS (.put i k e)):=by
  intro X B W hX Γ Γn o st h
  unfold kPut at h
  split at h
  · rename_i be ke q a r
    obtain ⟨h,h8⟩:=and2 h
    obtain ⟨h,h7⟩:=and2 h
    obtain ⟨h,h6⟩:=and2 h
    obtain ⟨h,h4⟩:=and2 h
    obtain ⟨h,h3⟩:=and2 h
    obtain ⟨h1,h2⟩:=and2 h
    have e1:=of_decide_eq_true h1
    subst e1
    exact sv_put (by have:=hX.e.un; omega) (leB_ok h2) (of_decide_eq_true h3) (kBase_ok hX.e h4) (swaps_plain (by simpa using h6) _ _ _) (sound k hk X B W sc hX.e .v _ h7) (sound e he X B W sc hX.e .v _ h8)
  · cases h
def kRet (N:List Str) (sc:Scope) (e:T):Cs:=fun Γ Γn o st=>match st with
  | .inl (.Return (some a) q)=>leB Γ o.x && decide (o.t=.fz) && chk N Γ e sc .v (.inl a)
  | _=>false
theorem s_ret {e:T} (he:TOk kn e):SndS N kk kn sc (kRet N sc e) (dS (.ret e)):=by
  intro X B W hX Γ Γn o st h
  unfold kRet at h
  split at h
  · obtain ⟨h,h3⟩:=and2 h
    obtain ⟨h1,h2⟩:=and2 h
    exact sv_ret (leB_ok h1) (of_decide_eq_true h2) (sound e he X B W sc hX.e .v _ h3)
  · cases h
def kIte (N:List Str) (sc:Scope) (c:T) (ca cb:Cs):Cs:=fun Γ Γn o st=>match st with
  | .inl (.If t a b p)=>leB Γ o.x && chk N Γ c sc .t (.inl t) && ca Γ Γn o (.inr a) && cb Γ Γn o (.inr b)
  | _=>false
theorem s_ite {c:T} {a b:S} (hc:TOk kn c) (ha:SndS N kk kn sc ca (dS a)) (hb:SndS N kk kn sc cb (dS b)):SndS N kk kn sc (kIte N sc c ca cb) (dS (.ite c a b)):=by
  intro X B W hX Γ Γn o st h
  unfold kIte at h
  split at h
  · obtain ⟨h,h4⟩:=and2 h
    obtain ⟨h,h3⟩:=and2 h
    obtain ⟨h1,h2⟩:=and2 h
    exact sv_ite (leB_ok h1) (sound c hc X B W sc hX.e .t _ h2) (ha X B W hX Γ Γn o _ h3) (hb X B W hX Γ Γn o _ h4)
  · cases h
def kFor (N:List Str) (sc:Scope) (vs:List Nat) (tg:TG) (it:T) (cb:Cs):Cs:=fun Γ Γn o st=>match st with
  | .inl (.For t i body [] p)=>decide (Γn=Γ) && leB Γ o.x && notSet i && chk N Γ it sc (.f t) (.inl i) && chkG N Γ vs true tg sc (.inl t) && cb Γ Γ { o with l:=Γ } (.inr body)
  | _=>false
theorem s_for {vs:List Nat} {tg:TG} {it:T} {b:S} (hi:TOk kn it) (hb:SndS N kk kn sc cb (dS b)):SndS N kk kn sc (kFor N sc vs tg it cb) (dS (.fr vs tg it b)):=by
  intro X B W hX Γ Γn o st h
  unfold kFor at h
  split at h
  · obtain ⟨h,h6⟩:=and2 h
    obtain ⟨h,h5⟩:=and2 h
    obtain ⟨h,h4⟩:=and2 h
    obtain ⟨h,h3⟩:=and2 h
    obtain ⟨h1,h2⟩:=and2 h
    have e1:=of_decide_eq_true h1
    subst e1
    exact sv_for (leB_ok h2) hX.po hX.e.calm h3 (sound it hi X B W sc hX.e (.f _) _ h4) (chkG_ok hX.e.hN hX.e.hS hX.e.calm hX.e.nd hX.e.hp (fun _=>hX.fn) tg _ h5) (hb X B W hX _ _ _ _ h6)
  · cases h
def kVc (N:List Str) (sc:Scope) (i:Nat) (vs:List Nat) (tg:TG) (it k:T):Cs:=fun Γ Γn o st=>match st with
  | .inr [.Assign [.Name x p1] (.Dict [] [] p2) p3, .For t iter [.Assign [.Subscript (.Name x2 p4) ke1 p5] (.BinOp (.Call (.Attribute (.Name x3 p6) g p7) [ke2, .Constant (.int 0) j1 p8] [] p9) .Add (.Constant (.int 1) j2 p10) p11) p12] [] p13,
      .Return (some (.Call (.Name l p14) [.Call (.Attribute (.Name x4 p17) m p15) [] [] p16] [] p18)) p19] =>
    (decide (x2=x) && decide (x3=x) && decide (x4=x) && decide (("get":Str)=g) && decide (("items":Str)=m) && decide (("list":Str)=l)) &&
    (!prN N i && leB Γ o.x && decide (o.t=.own .fz) && decide (N[i]?=some x) && locB sc x && visB sc x && noPar (.Name x p1) (.Dict [] [] p2)) &&
    (notSet iter && chk N Γ it sc (.f t) (.inl iter) && chkG N Γ vs true tg sc (.inl t) && decide (i∉vs) && chk N Γ k sc .v (.inl ke1) && chk N Γ k sc .v (.inl ke2)) &&
    (noStar ke2 && (p7.endLine == p9.line) && (p15.endLine == p16.line) && glB sc "list")
  | _=>false
theorem s_vc {i:Nat} {vs:List Nat} {tg:TG} {it k:T} (hi:TOk kn it) (hk:TOk kn k):SndS N kk kn sc (kVc N sc i vs tg it k) (dS (.vc i vs tg it k)):=by
  intro X B W hX Γ Γn o st h
  unfold kVc at h
  split at h
  · rename_i x p1 p2 p3 t iter x2 p4 ke1 p5 x3 p6 g p7 ke2 j1 p8 p9 j2 p10 p11 p12 p13 l p14 x4 p17 m p15 p16 p18 p19
    obtain ⟨h,hD⟩:=and2 h
    obtain ⟨h,hC⟩:=and2 h
    obtain ⟨hA,hB⟩:=and2 h
    obtain ⟨hA,a6⟩:=and2 hA
    obtain ⟨hA,a5⟩:=and2 hA
    obtain ⟨hA,a4⟩:=and2 hA
    obtain ⟨hA,a3⟩:=and2 hA
    obtain ⟨a1,a2⟩:=and2 hA
    obtain ⟨hB,b7⟩:=and2 hB
    obtain ⟨hB,b6⟩:=and2 hB
    obtain ⟨hB,b5⟩:=and2 hB
    obtain ⟨hB,b4⟩:=and2 hB
    obtain ⟨hB,b3⟩:=and2 hB
    obtain ⟨b1,b2⟩:=and2 hB
    obtain ⟨hC,c6⟩:=and2 hC
    obtain ⟨hC,c5⟩:=and2 hC
    obtain ⟨hC,c4⟩:=and2 hC
    obtain ⟨hC,c3⟩:=and2 hC
    obtain ⟨c1,c2⟩:=and2 hC
    obtain ⟨hD,d4⟩:=and2 hD
    obtain ⟨hD,d3⟩:=and2 hD
    obtain ⟨d1,d2⟩:=and2 hD
    have e1:=of_decide_eq_true a1
    have e2:=of_decide_eq_true a2
    have e3:=of_decide_eq_true a3
    have e4:=of_decide_eq_true a4
    have e5:=of_decide_eq_true a5
    have e6:=of_decide_eq_true a6
    subst e1 e2 e3 e4 e5 e6
    have hN:X.N[i]?=some x4:=by rw [hX.e.hN]; exact of_decide_eq_true b4
    have hnd:X.N.Nodup:=by rw [hX.e.hN]; exact hX.e.nd
    have hx:L2.Loc X.env.scope x4:=by rw [hX.e.hS]; exact locB_ok b5
    obtain ⟨v,w1,w2⟩:=visB_ok (sc:=X.env.scope) (x:=x4) (by rw [hX.e.hS]; exact b6)
    obtain ⟨gl,_⟩:=glB_ok (X:=X) (x:= "list") (by rw [hX.e.hS]; exact d4)
    exact svs_vc (leB_ok b2) (of_decide_eq_true b3) (hX.e.hp i (by simpa using b1)) (by have:=hX.e.un; omega) hX.po hX.e.calm hnd hN hx (.inl (hX.fn x4)) v w1 w2
      (swapsSole_plain (show isComp (.Dict [] [] p2)=false from rfl) _ _ _) (noPar_ok b7 _) c1 (sound it hi X B W sc hX.e (.f _) _ c2) (chkG_ok hX.e.hN hX.e.hS hX.e.calm hX.e.nd hX.e.hp (fun _=>hX.fn) tg _ c3) (of_decide_eq_true c4)
      (sound k hk X B W sc hX.e .v _ c5) (sound k hk X B W sc hX.e .v _ c6) d1 d2 (swaps_plain (show isComp (.BinOp _ _ _ _)=false from rfl) _ _ _) gl (hX.e.blt _ bl_list) d3
  · cases h
theorem CokS.re {X:Cx} {B:Base} {W:WX} (hX:CokS N kk kn X B sc W) (h0 g0:Hp):CokS N kk kn.noR X (B.re h0 g0) sc W0 :=
  ⟨(hX.e.re h0 g0).w0,hX.po,hX.fn,hX.kd,hX.xk,hX.xm,hX.hs,hX.hf,hX.hex,hX.uk,hX.uf,hX.nk,fun i c fj q=>by
    obtain ⟨⟨k,od,S,a,b⟩,g⟩:=hX.om i c fj q
    exact ⟨⟨k,od,⟨S.at_,S.rs,S.own,S.al,S.nd,S.nr,S.nf⟩,a,b⟩,g⟩,fun i c fj q=>by
    obtain ⟨⟨k,od,S,a,b⟩,g⟩:=hX.on i c fj q
    exact ⟨⟨k,od,⟨S.at_,S.rs,S.nm,S.own,S.ad,S.nd,S.ni,S.nr⟩,a,b⟩,g⟩,fun i f j q=>⟨(hX.fs i f j q).ex⟩,hX.ux,hX.np,hX.ib,hX.fa⟩
def offB (sc:Scope) (x:Str):Bool:=match sc.names.lookup x with
  | none=>true
  | some _=>false
theorem offB_ok {sc:Scope} {x:Str} (h:offB sc x=true):¬ Vis sc x:=by
  unfold offB at h
  cases q:sc.names.lookup x with
  | none =>
    intro v
    unfold Vis at v
    rw [q] at v
    rcases v with v | v | v <;> cases v
  | some k=>rw [q] at h; cases h
theorem dotB_dot (x f:Str):dotB (dot x f)=true:=by
  obtain ⟨x⟩:=x
  obtain ⟨f⟩:=f
  show ((x ++ #[46] ++ f).toList.any fun c=>c == 46)=true
  rw [Array.toList_append,Array.toList_append,List.any_append,List.any_append]
  simp
theorem prO_bk {X:Cx} {i j:Nat} {h0 g0:Hp} {O:List OD} {pr:Nat→Bool} (hi:pr i=true) (hj:pr j=true) (hn:NNok X ⟨h0,g0,O,pr⟩ i j):PrO ⟨h0,g0,O,pr⟩:=fun l od e=>by
  obtain ⟨a,_,m,_,hO,_⟩:=hn.ex
  have hO:O=[odA i a,odA j (bkEnc m)]:=hO
  have e:O[l]?=some od:=e
  rw [hO] at e
  have key:∀ (q:Nat) (b:Addr),pr q=true→od=odA q b→(∀ n∈od.rs,pr n=true)∧(∀ p∈od.fs,pr p.2=true)∧∀ n∈od.nm,pr n=true:=fun q b hq ho=>by
    subst ho
    exact ⟨fun n hn=>by
      have:n=q:=by simpa [odA] using hn
      subst this; exact hq,fun p hp=>(by cases hp),fun n hn=>(by cases hn)⟩
  match l,e with
  | 0,e=>exact key i a hi (Option.some.inj e).symm
  | 1,e=>exact key j _ hj (Option.some.inj e).symm
theorem CokS.bk {X:Cx} {B:Base} {W:WX} {i j:Nat} {h0 g0:Hp} {O:List OD} (hX:CokS N kk kn X B sc W) (hd:(N.all fun y=> !dotB y)=true) (hi:prN N i=true) (hj:prN N j=true) (hn:NNok X ⟨h0,g0,O,prN N⟩ i j):CokS N kk (kn.bkK i j) X ⟨h0,g0,O,prN N⟩ sc W0 :=
  ⟨⟨hX.e.hN, hX.e.hS, hX.e.calm, hX.e.nd, hX.e.room, takes0, hX.e.blt, hX.e.fk, hX.e.gk, hX.e.ik, fun _ h => h, fun r l x f _ _ e => (by
      have:=List.all_eq_true.mp hd _ (List.mem_of_getElem? e)
      rw [dotB_dot] at this
      cases this),hX.e.vk,fun _ _ _ z=>z.elim,hX.e.vf,fun z=>z.elim,fun _ _ _ _ _ z=>z.elim,hX.e.lf,fun z=>z.elim,hX.e.lk,fun _ z=>z.elim,hX.e.mb,hX.e.gb,fun z=>z.elim,fun a b z=>(by obtain ⟨rfl,rfl⟩:=z; exact hn)⟩,
    hX.po,hX.fn,hX.kd,hX.xk,hX.xm,hX.hs,hX.hf,hX.hex,hX.uk,hX.uf,hX.nk,fun _ _ _ z=>z.elim,fun _ _ _ z=>z.elim,fun _ _ _ z=>z.elim,hX.ux,prO_bk hi hj hn,hX.ib,hX.fa⟩
def offN (N:List Str) (sc:Scope) (j:Nat):Bool:=match N[j]? with
  | some y=>offB sc y
  | none=>false
def kBk (N:List Str) (sc:Scope) (i j:Nat) (vs:List Nat) (tg:TG) (it k v:T) (cb:Cs):Cs:=fun Γ Γn o st=>match st with
  | .inr (.Assign [.Name x p9] (.Dict [] [] p10) p11 :: .For t iter [.Expr (.Call (.Attribute (.Call (.Attribute (.Name x2 p1) m1 p2) [ke,.List [] p3] [] p4) m2 p5) [ve] [] p6) p7] [] p12 :: rest) =>
    (decide (x2=x) && decide (("setdefault":Str)=m1) && decide (("append":Str)=m2)) &&
    (decide (i≠j) && decide (oty Γ j=.fz) && prN N i && prN N j && decide (N[i]?=some x) && offN N sc j && locB sc x && visB sc x && noPar (.Name x p9) (.Dict [] [] p10) && (N.all fun y=> !dotB y)) &&
    (notSet iter && chk N Γ it sc (.f t) (.inl iter) && chkG N Γ vs true tg sc (.inl t) && decide (i∉vs) && chk N Γ k sc .v (.inl ke) && chk N Γ v sc .v (.inl ve)) &&
    (noStar ke && noStar ve && (p2.endLine == p4.line) && (p5.endLine == p6.line) && cb Γ Γn o (.inr rest))
  | _=>false
theorem s_bk {i j:Nat} {vs:List Nat} {tg:TG} {it k v:T} {b:S} (hn:kn.NO) (hi:TOk kn it) (hk:TOk kn.noR k) (hv:TOk kn.noR v) (hb:SndS N kk (kn.bkK i j) sc cb (dS b)):SndS N kk kn sc (kBk N sc i j vs tg it k v cb) (dS (.bk i j vs tg it k v b)):=by
  intro X B W hX Γ Γn o st h
  unfold kBk at h
  split at h
  · rename_i x p9 p10 p11 t iter x2 p1 m1 p2 ke p3 p4 m2 p5 ve p6 p7 p12 rest
    obtain ⟨h,hD⟩:=and2 h
    obtain ⟨h,hC⟩:=and2 h
    obtain ⟨hA,hB⟩:=and2 h
    obtain ⟨hA,a3⟩:=and2 hA
    obtain ⟨a1,a2⟩:=and2 hA
    obtain ⟨hB,b10⟩:=and2 hB
    obtain ⟨hB,b9⟩:=and2 hB
    obtain ⟨hB,b8⟩:=and2 hB
    obtain ⟨hB,b7⟩:=and2 hB
    obtain ⟨hB,b6⟩:=and2 hB
    obtain ⟨hB,b5⟩:=and2 hB
    obtain ⟨hB,b4⟩:=and2 hB
    obtain ⟨hB,b3⟩:=and2 hB
    obtain ⟨b1,b2⟩:=and2 hB
    obtain ⟨hC,c6⟩:=and2 hC
    obtain ⟨hC,c5⟩:=and2 hC
    obtain ⟨hC,c4⟩:=and2 hC
    obtain ⟨hC,c3⟩:=and2 hC
    obtain ⟨c1,c2⟩:=and2 hC
    obtain ⟨hD,d5⟩:=and2 hD
    obtain ⟨hD,d4⟩:=and2 hD
    obtain ⟨hD,d3⟩:=and2 hD
    obtain ⟨d1,d2⟩:=and2 hD
    have e1:=of_decide_eq_true a1
    have e2:=of_decide_eq_true a2
    have e3:=of_decide_eq_true a3
    subst e1 e2 e3
    have hN:X.N[i]?=some x2:=by rw [hX.e.hN]; exact of_decide_eq_true b5
    obtain ⟨y,hNj,hgh⟩:∃ y,X.N[j]?=some y∧¬ Vis X.env.scope y:=by
      unfold offN at b6
      cases q:N[j]? with
      | none=>rw [q] at b6; cases b6
      | some y =>
        rw [q] at b6
        exact ⟨y,by rw [hX.e.hN]; exact q,by rw [hX.e.hS]; exact offB_ok b6⟩
    have hnd:X.N.Nodup:=by rw [hX.e.hN]; exact hX.e.nd
    have hx:L2.Loc X.env.scope x2:=by rw [hX.e.hS]; exact locB_ok b7
    obtain ⟨vv,w1,w2⟩:=visB_ok (sc:=X.env.scope) (x:=x2) (by rw [hX.e.hS]; exact b8)
    exact svs_bk (pr:=prN N) (of_decide_eq_true b1) (hX.e.no hn) (of_decide_eq_true b2) b3 b4 hX.po hX.e.calm hnd hN hNj hgh hx (.inl (hX.fn x2)) vv w1 w2
      (swapsSole_plain (show isComp (.Dict [] [] p10)=false from rfl) _ _ _) (noPar_ok b9 _) c1 (sound it hi X B W sc hX.e (.f _) _ c2) (fun h0=>chkG_ok hX.e.hN hX.e.hS hX.e.calm hX.e.nd (hX.e.re h0 B.G0).hp (fun _=>hX.fn) tg _ c3) (of_decide_eq_true c4)
      (fun h0=>sound k hk X (B.re h0 B.G0) W0 sc (hX.e.re h0 B.G0).w0 .v _ c5) (fun h0=>sound v hv X (B.re h0 B.G0) W0 sc (hX.e.re h0 B.G0).w0 .v _ c6) d1 d2 d3 d4
      (fun h0 g0 O q=>hb X ⟨h0,g0,O,prN N⟩ W0 (hX.bk b10 b3 b4 q) Γ Γn o _ d5)
  · cases h
def offsB (N:List Str) (sc:Scope) (js:List Nat):Bool:=js.all fun j=>match N[j]? with
  | some x=>offB sc x
  | none=>true
theorem offsB_ok {N:List Str} {sc:Scope} {js:List Nat} (h:offsB N sc js=true):∀ j∈js,∀ x,N[j]?=some x→¬ Vis sc x:=fun j hj x e=>by
  have:=List.all_eq_true.mp h j hj
  rw [e] at this
  exact offB_ok this
def kLnk (N:List Str) (sc:Scope) (q:LQ):Cs:=fun Γ Γn o st=>match st with
  | .inl (.Assign [.Attribute (.Name x p) f' p'] (.Name y p2) r)=>decide (Γn=Γ) && (decide (q.f=f') && (decide (oty Γ q.j=.fz) && (decide (N[q.i]?=some x) && (visB sc x && (decide (N[q.jy]?=some y) && (visB sc y && (offsB N sc [q.j] && lnkB q.ob q.ks q.ky q.i q.j q.jy q.f q.ps q.py)))))))
  | _=>false
theorem s_lnk {q:LQ} (hf:kn.FA q.ps.c q.f) (ho:kn.OA q.ob):SndS N kk kn sc (kLnk N sc q) (dS (.lnk q)):=by
  intro X B W hX Γ Γn o st h
  unfold kLnk at h
  split at h
  · rename_i x p f' p' y p2 r
    obtain ⟨h1,h⟩:=and2 h
    obtain ⟨h2,h⟩:=and2 h
    obtain ⟨h3,h⟩:=and2 h
    obtain ⟨h4,h⟩:=and2 h
    obtain ⟨h5,h⟩:=and2 h
    obtain ⟨h6,h⟩:=and2 h
    obtain ⟨h7,h⟩:=and2 h
    obtain ⟨h8,h9⟩:=and2 h
    have e1:=of_decide_eq_true h1
    subst e1
    have e2:=of_decide_eq_true h2
    subst e2
    obtain ⟨ac,hB⟩:=hX.e.oa _ ho
    obtain ⟨hc,hn⟩:=hX.fa _ _ hf
    obtain ⟨hv,d1,d2⟩:=visB_ok (sc:=X.env.scope) (x:=x) (by rw [hX.e.hS]; exact h5)
    obtain ⟨hvy,k1,k2⟩:=visB_ok (sc:=X.env.scope) (x:=y) (by rw [hX.e.hS]; exact h7)
    have ho:=offsB_ok h8 q.j List.mem_cons_self
    exact sv_lnk hB (lnkB_ok h9 hc hn) (of_decide_eq_true h3) (by rw [hX.e.hN]; exact of_decide_eq_true h4) hv d1 d2 (by rw [hX.e.hN]; exact of_decide_eq_true h6) hvy k1 k2 (fun σ w=>⟨List.length_set,fun m y hN hv=>by
      rw [List.getElem?_set_ne]
      intro z
      subst z
      exact ho y (by rw [← hX.e.hN]; exact hN) (by rw [← hX.e.hS]; exact hv)⟩)
  · cases h
end
def chkS (N:List Str) (sc:Scope):S→Cs
  | .asg vs tg e=>kAsg N sc vs tg e
  | .own i t e=>kOwn N sc i t e
  | .app i e=>kApp N sc "append" i e .v
  | .ext i e=>kApp N sc "extend" i e .b
  | .put i k e=>kPut N sc i k e
  | .ret e=>kRet N sc e
  | .ite c a b=>kIte N sc c (chkS N sc a) (chkS N sc b)
  | .fr vs tg it b=>kFor N sc vs tg it (chkS N sc b)
  | .brk=>fun Γ Γn o st=>match st with
    | .inl (.Break _)=>leB Γ o.l
    | _=>false
  | .cnt=>fun Γ Γn o st=>match st with
    | .inl (.Continue _)=>leB Γ o.l
    | _=>false
  | .pas=>fun Γ Γn o st=>match st with
    | .inl (.Pass _)=>leB Γ Γn
    | _=>false
  | .nil=>fun Γ Γn o st=>match st with
    | .inr []=>leB Γ Γn
    | _=>false
  | .seq Γ1 a b=>fun Γ Γn o st=>match st with
    | .inr (x :: xs)=>chkS N sc a Γ Γ1 o (.inl x) && chkS N sc b Γ1 Γn o (.inr xs)
    | _=>false
  | .lnk q=>kLnk N sc q
  | .vc i vs tg it k=>kVc N sc i vs tg it k
  | .bk i j vs tg it k v b=>kBk N sc i j vs tg it k v (chkS N sc b)
  | .wk Γ1 b=>fun Γ Γn o st=>match st with
    | .inr xs=>leB Γ Γ1 && chkS N sc b Γ1 Γn o (.inr xs)
    | _=>false
def SOk (kn:Kn):S→Prop
  | .asg _ _ e=>TOk kn e
  | .own _ _ e=>TOk kn e
  | .app _ e=>TOk kn e
  | .ext _ e=>TOk kn e
  | .put _ k e=>TOk kn k∧TOk kn e
  | .ret e=>TOk kn e
  | .ite c a b=>TOk kn c∧SOk kn a∧SOk kn b
  | .fr _ _ it b=>TOk kn it∧SOk kn b
  | .seq _ a b=>SOk kn a∧SOk kn b
  | .lnk q=>kn.FA q.ps.c q.f∧kn.OA q.ob
  | .vc _ _ _ it k=>TOk kn it∧TOk kn k
  | .bk i j _ _ it k v b=>kn.NO∧TOk kn it∧TOk kn.noR k∧TOk kn.noR v∧SOk (kn.bkK i j) b
  | .wk _ b=>SOk kn b
  | _=>True
theorem soundS {N:List Str} {kk:Nat} {kn:Kn} {sc:Scope}:∀ s:S,SOk kn s→SndS N kk kn sc (chkS N sc s) (dS s)
  | .asg _ _ e,h=>s_asg h
  | .own _ _ e,h=>s_own h
  | .app _ e,h=>s_app h
  | .ext _ e,h=>s_ext h
  | .put _ k e,h=>s_put h.1 h.2
  | .ret e,h=>s_ret h
  | .ite c a b,h=>s_ite h.1 (soundS a h.2.1) (soundS b h.2.2)
  | .fr _ _ it b,h=>s_for h.1 (soundS b h.2)
  | .brk,_=>by
    intro X B W hX Γ Γn o st h
    unfold chkS at h
    split at h
    · exact sv_brk (leB_ok h)
    · cases h
  | .cnt,_=>by
    intro X B W hX Γ Γn o st h
    unfold chkS at h
    split at h
    · exact sv_cnt (leB_ok h)
    · cases h
  | .pas,_=>by
    intro X B W hX Γ Γn o st h
    unfold chkS at h
    split at h
    · exact sv_pass (leB_ok h)
    · cases h
  | .nil,_=>by
    intro X B W hX Γ Γn o st h
    unfold chkS at h
    split at h
    · exact svs_nil (leB_ok h)
    · cases h
  | .seq Γ1 a b,hs=>by
    intro X B W hX Γ Γn o st h
    unfold chkS at h
    split at h
    · obtain ⟨h1,h2⟩:=and2 h
      exact svs_cons (soundS a hs.1 X B W hX Γ Γ1 o _ h1) (soundS b hs.2 X B W hX Γ1 Γn o _ h2)
    · cases h
  | .lnk q,hs=>s_lnk hs.1 hs.2
  | .vc _ _ _ it k,h=>s_vc h.1 h.2
  | .bk _ _ _ _ it k v b,h=>s_bk h.1 h.2.1 h.2.2.1 h.2.2.2.1 (soundS b h.2.2.2.2)
  | .wk Γ1 b,hs=>by
    intro X B W hX Γ Γn o st h
    unfold chkS at h
    split at h
    · obtain ⟨h1,h2⟩:=and2 h
      exact svs_pre (leB_ok h1) (soundS b hs X B W hX Γ1 Γn o _ h2)
    · cases h
def enter (n:Nat) (ds:List D):En:=ds.map some ++ List.replicate (n - ds.length) none
def leave (t:OT):Out→R D
  | .rt d=>.ok d
  | .nx _=>if t=.fz then .ok .non else .stuck
  | .ex c _=>.exc c
  | _=>.stuck
def runS (n:Nat) (t:OT) (b:S) (ds:List D):R D:=leave t (dS b (enter n ds))
theorem enter_get {n:Nat} {ds:List D} {i:Nat} {d:D} (h:(enter n ds)[i]?=some (some d)):ds[i]?=some d:=by
  unfold enter at h
  by_cases q:i < ds.length
  · rw [List.getElem?_append_left (by simpa using q),List.getElem?_map] at h
    cases z:ds[i]? with
    | none=>rw [z] at h; cases h
    | some y=>rw [z] at h; cases h; rfl
  · rw [List.getElem?_append_right (by simpa using q)] at h
    rw [List.getElem?_replicate] at h
    split at h <;> cases h
theorem start_get {N:List Str} {vs:List V} {i:Nat} {v:V} (h:vs[i]?=some v):(L2.start N vs)[i]?=some (some v):=by
  unfold L2.start
  have q:=(List.getElem?_eq_some_iff.mp h).1
  rw [List.getElem?_append_left (by simpa using q),List.getElem?_map,h]
  rfl
structure Wld where
  P:Program
  w:World
  K:Frag
  mg:Str→Option Value
  base:Heap
def Wld.FK (M:Wld) (kk:Nat):FKt:=fun x n t k φ=>k≤kk∧Fok M.P M.w M.K M.mg M.base x n t k φ
def Wld.GK (M:Wld):Str→D→Prop:=fun x d=>∃ u v,M.mg x=some u∧RelV v u∧∀ G,RD M.K G v d
def Wld.XK (M:Wld):Str→Prop:=fun c=>PySem.W.excIn M.K (He.ga M.K c) He.veBase "ValueError.__new__"=true∧M.mg c=some (.ref (He.ga M.K c))∧PySem.W.keepIn M.K (.ref (He.ga M.K c))=true∧PySem.W.subIn M.K (.ref (He.ga M.K c)) (.type "BaseException")=some true∧PySem.W.typeIn M.K (.ref (He.ga M.K c))=some (.type "type")
def Wld.MK (M:Wld):Str→List (Str×Bool)→Prop:=fun c tb=>M.mg c=some (clsV M.K c)∧∀ d b,tb.lookup d=some b→PySem.W.exmOne M.K (clsV M.K d) (clsV M.K c)=some b
end Hr
end
section
namespace Hr
open PySem PySem.Spec L2 PyProof.Rows
structure OS where
  i:Nat
  c:Str
  own:Bool
  al:Bool
  fs:List (Str×Nat)
def OS.od (K:Frag) (a:Option Addr) (q:OS):OD:=⟨[q.i],He.ga K q.c,q.own,q.al,if q.al=true then a else none,q.fs,false,[]⟩
def slots (ob:List OS):List Nat:=ob.flatMap fun q=>q.i :: q.fs.map (·.2)
def dropD1 (x y:Str):Str:=⟨(y.cps.toList.drop (x.cps.toList.length + 1)).toArray⟩
def okF (ob:List OS) (r j:Nat) (f:Str):Bool:=ob.any fun q=>decide (q.i=r) && q.fs.any fun p=>decide (p=(f,j))
def wfO (N:List Str) (sc:Scope) (ob:List OS):Bool :=
  decide (slots ob).Nodup && (ob.all fun q=>decide (q.fs.length≤900) && decide (q.fs.map (·.1)).Nodup && prN N q.i && (q.fs.all fun p=>prN N p.2 && (match N[q.i]?,N[p.2]? with
    | some x,some y=>decide (y=dot x p.1) && offB sc y
    | _,_=>false))) &&
  (N.zipIdx.all fun a=>N.zipIdx.all fun b=> !(preB a.1 b.1) || okF ob a.2 b.2 (dropD1 a.1 b.1))
structure OC1 (K:Frag) (q:OS):Prop where
  cls:Cls K (He.ga K q.c)
  no:∀ p∈q.fs,NoAttr K (He.ga K q.c) p.1
theorem dot_pre (x f:Str):preB x (dot x f)=true∧dropD1 x (dot x f)=f:=by
  obtain ⟨x⟩:=x
  obtain ⟨f⟩:=f
  constructor
  · show (x.toList ++ [46]).isPrefixOf (x ++ #[46] ++ f).toList=true
    rw [Array.toList_append,Array.toList_append]
    exact List.isPrefixOf_iff_prefix.mpr ⟨f.toList,rfl⟩
  · show (⟨((x ++ #[46] ++ f).toList.drop (x.toList.length + 1)).toArray⟩:Str)=⟨f⟩
    rw [Array.toList_append,Array.toList_append]
    congr 1
    rw [List.drop_left' (by simp)]
section
variable {N:List Str} {sc:Scope} {ob:List OS}
theorem flatMap_nd {α β:Type} {f:α→List β}:∀ {l:List α},(l.flatMap f).Nodup→∀ (k m:Nat) (a b:α) (x:β),l[k]?=some a→l[m]?=some b→x∈f a→x∈f b→k=m
  | [],_,k,_,_,_,_,h,_,_,_=>by simp at h
  | c :: l,nd,k,m,a,b,x,h1,h2,m1,m2=>by
    rw [List.flatMap_cons,List.nodup_append] at nd
    cases k with
    | zero =>
      cases m with
      | zero=>rfl
      | succ m =>
        simp at h1 h2
        subst h1
        exact absurd rfl (nd.2.2 x m1 x (List.mem_flatMap.mpr ⟨b,List.mem_of_getElem? h2,m2⟩))
    | succ k =>
      cases m with
      | zero =>
        simp at h1 h2
        subst h2
        exact absurd rfl (nd.2.2 x m2 x (List.mem_flatMap.mpr ⟨a,List.mem_of_getElem? h1,m1⟩))
      | succ m=>exact congrArg Nat.succ (flatMap_nd nd.2.1 k m a b x (by simpa using h1) (by simpa using h2) m1 m2)
theorem flatMap_nd1 {α β:Type} {f:α→List β}:∀ {l:List α},(l.flatMap f).Nodup→∀ a∈l,(f a).Nodup
  | [],_,a,h=>by cases h
  | c :: l,nd,a,h=>by
    rw [List.flatMap_cons,List.nodup_append] at nd
    rcases List.mem_cons.mp h with rfl | h
    · exact nd.1
    · exact flatMap_nd1 nd.2.1 a h
structure WfO (N:List Str) (sc:Scope) (ob:List OS):Prop where
  nd:(slots ob).Nodup
  len:∀ q∈ob,q.fs.length≤900
  nf:∀ q∈ob,(q.fs.map (·.1)).Nodup
  pr:∀ q∈ob,prN N q.i=true∧∀ p∈q.fs,prN N p.2=true
  off:∀ q∈ob,∀ p∈q.fs,∀ y,N[p.2]?=some y→¬ Vis sc y
  fl:∀ (r j:Nat) (x f:Str),N[r]?=some x→N[j]?=some (dot x f)→∃ q∈ob,q.i=r∧(f,j)∈q.fs
theorem wfO_ok (h:wfO N sc ob=true):WfO N sc ob:=by
  unfold wfO at h
  obtain ⟨h,h3⟩:=and2 h
  obtain ⟨h1,h2⟩:=and2 h
  have key:∀ q∈ob,(q.fs.length≤900∧(q.fs.map (·.1)).Nodup∧prN N q.i=true)∧∀ p∈q.fs,prN N p.2=true∧∀ y,N[p.2]?=some y→¬ Vis sc y:=fun q hq=>by
    have:=List.all_eq_true.mp h2 q hq
    obtain ⟨a,a4⟩:=and2 this
    obtain ⟨a,a3⟩:=and2 a
    obtain ⟨a1,a2⟩:=and2 a
    refine ⟨⟨of_decide_eq_true a1,of_decide_eq_true a2,a3⟩,fun p hp=>?_⟩
    have:=List.all_eq_true.mp a4 p hp
    obtain ⟨b1,b2⟩:=and2 this
    refine ⟨b1,fun y hy=>?_⟩
    rw [hy] at b2
    split at b2
    · rename_i x y' e1 e2
      cases e2
      exact offB_ok (and2 b2).2
    · cases b2
  refine ⟨of_decide_eq_true h1,fun q hq=>(key q hq).1.1,fun q hq=>(key q hq).1.2.1,fun q hq=>⟨(key q hq).1.2.2,fun p hp=>((key q hq).2 p hp).1⟩,fun q hq p hp=>((key q hq).2 p hp).2,fun r j x f e1 e2=>?_⟩
  have m1:(x,r)∈N.zipIdx:=List.mem_zipIdx_iff_getElem?.mpr e1
  have m2:(dot x f,j)∈N.zipIdx:=List.mem_zipIdx_iff_getElem?.mpr e2
  have:=List.all_eq_true.mp (List.all_eq_true.mp h3 _ m1) _ m2
  obtain ⟨p1,p2⟩:=dot_pre x f
  rw [p1,p2] at this
  have:okF ob r j f=true:=this
  obtain ⟨q,hq,z⟩:=List.any_eq_true.mp this
  obtain ⟨z1,z2⟩:=and2 z
  obtain ⟨p,hp,z3⟩:=List.any_eq_true.mp z2
  have:=of_decide_eq_true z3
  subst this
  exact ⟨q,hq,of_decide_eq_true z1,hp⟩
variable {K:Frag} {a:Option Addr}
theorem od_at {k:Nat} {od:OD} (h:(ob.map (OS.od K a))[k]?=some od):∃ q,ob[k]?=some q∧od=q.od K a:=by
  rw [List.getElem?_map] at h
  cases z:ob[k]? with
  | none=>rw [z] at h; cases h
  | some q=>rw [z] at h; cases h; exact ⟨q,rfl,rfl⟩
theorem os_idx {q:OS} (hq:q∈ob):∃ k:Nat,ob[k]?=some q:=by
  obtain ⟨k,hk,e⟩:=List.getElem_of_mem hq
  exact ⟨k,by rw [List.getElem?_eq_getElem hk,e]⟩
theorem od_get {k:Nat} {q:OS} (h:ob[k]?=some q):(ob.map (OS.od K a))[k]?=some (q.od K a):=by rw [List.getElem?_map,h]; rfl
def BO (K:Frag) (a:Option Addr) (H0 G0:Hp) (N:List Str) (ob:List OS):Base:=⟨H0,G0,ob.map (OS.od K a),prN N⟩
variable {H0 G0:Hp}
theorem fldOk_of (w:WfO N sc ob) (hc:∀ q∈ob,OC1 K q) {r j:Nat} {x f:Str} (e1:N[r]?=some x) (e2:N[j]?=some (dot x f)):FldOk K (BO K a H0 G0 N ob) r f j:=by
  obtain ⟨q,hq,rfl,hp⟩:=w.fl r j x f e1 e2
  obtain ⟨k,hk⟩:=os_idx hq
  exact ⟨k,q.od K a,od_get hk,.inl rfl,hp,(hc q hq).cls,(hc q hq).no _ hp⟩
theorem in_slots {q:OS} {p:Str×Nat} (hp:p∈q.fs):p.2∈q.i :: q.fs.map (·.2):=List.mem_cons_of_mem _ (List.mem_map.mpr ⟨p,hp,rfl⟩)
theorem obS_of (w:WfO N sc ob) {q:OS} (hq:q∈ob) (ho:q.own=true) (ha:q.al=true∨q.fs≠[]):∃ k,ObjS (BO K a H0 G0 N ob) k q.i (q.od K a):=by
  obtain ⟨k,hk⟩:=os_idx hq
  have nd1:=flatMap_nd1 w.nd q hq
  refine ⟨k,od_get hk,.inl rfl,ho,ha,(List.nodup_cons.mp nd1).2,fun l od' e p hp=>?_,w.nf q hq⟩
  obtain ⟨q',hq',rfl⟩:=od_at e
  refine ⟨⟨fun m=>?_,fun m=>(by cases m)⟩,fun hne p' hp' z=>?_⟩
  · have m:p.2∈[q'.i]:=m
    have m:p.2=q'.i:=by simpa using m
    have e3:=flatMap_nd w.nd k l q q' p.2 hk hq' (in_slots hp) (by rw [m]; exact List.mem_cons_self)
    subst e3
    rw [hk] at hq'; cases hq'
    exact (List.nodup_cons.mp nd1).1 (by rw [← m]; exact List.mem_map.mpr ⟨p,hp,rfl⟩)
  · exact hne (flatMap_nd w.nd k l q q' p.2 hk hq' (in_slots hp) (by rw [← z]; exact in_slots hp')).symm
theorem obN_of (w:WfO N sc ob) {q:OS} (hq:q∈ob) (ho:q.own=true) (hal:q.al=false):∃ k,ObjN (BO K a H0 G0 N ob) k q.i (q.od K a):=by
  obtain ⟨k,hk⟩:=os_idx hq
  have nd1:=flatMap_nd1 w.nd q hq
  refine ⟨k,od_get hk,rfl,(fun j hj=>by cases hj),ho,(by show (if q.al=true then a else none)=none; rw [if_neg (by rw [hal]; decide)]),(List.nodup_cons.mp nd1).2,(List.nodup_cons.mp nd1).1,fun l od' e=>?_⟩
  obtain ⟨q',hq',rfl⟩:=od_at e
  refine ⟨fun p hp=>⟨⟨fun m=>?_,fun m=>(by cases m)⟩,fun hne p' hp' z=>?_⟩,fun hne=>⟨⟨fun m=>?_,fun m=>(by cases m)⟩,fun p' hp' z=>?_⟩⟩
  · have m:p.2∈[q'.i]:=m
    have m:p.2=q'.i:=by simpa using m
    have e3:=flatMap_nd w.nd k l q q' p.2 hk hq' (in_slots hp) (by rw [m]; exact List.mem_cons_self)
    subst e3
    rw [hk] at hq'; cases hq'
    exact (List.nodup_cons.mp nd1).1 (by rw [← m]; exact List.mem_map.mpr ⟨p,hp,rfl⟩)
  · exact hne (flatMap_nd w.nd k l q q' p.2 hk hq' (in_slots hp) (by rw [← z]; exact in_slots hp')).symm
  · have m:q.i∈[q'.i]:=m
    have m:q.i=q'.i:=by simpa using m
    exact hne (flatMap_nd w.nd k l q q' q.i hk hq' List.mem_cons_self (by rw [m]; exact List.mem_cons_self)).symm
  · exact hne (flatMap_nd w.nd k l q q' q.i hk hq' List.mem_cons_self (by rw [← z]; exact in_slots hp')).symm
theorem fldSet_of (w:WfO N sc ob) (hc:∀ q∈ob,OC1 K q) {q:OS} (hq:q∈ob) (ho:q.own=true) (ha:q.al=true) {f:Str} {j:Nat} (hp:(f,j)∈q.fs):FldSet K (BO K a H0 G0 N ob) q.i f j:=by
  obtain ⟨k,S⟩:=obS_of (K:=K) (a:=a) (H0:=H0) (G0:=G0) w hq ho (.inl ha)
  refine ⟨k,q.od K a,S.at_,.inl rfl,hp,ho,ha,(hc q hq).cls,(hc q hq).no _ hp,w.len q hq,fun p hp'=>⟨fun z=>?_,fun z=>?_⟩,fun l od' e=>⟨(S.nr l od' e _ hp).1,fun hne p' hp'=>(S.nr l od' e _ hp).2 hne p' hp'⟩⟩
  · obtain ⟨n,hn,en⟩:=List.getElem_of_mem hp
    have hp':p∈q.fs:=hp'
    obtain ⟨m,hm,em⟩:=List.getElem_of_mem hp'
    have x1:(q.fs.map (·.1))[n]'(by simpa using hn)=(q.fs.map (·.1))[m]'(by simpa using hm):=by rw [List.getElem_map,List.getElem_map,en,em,z]
    have:=(List.getElem_inj (w.nf q hq)).mp x1
    subst this
    rw [en] at em
    rw [← em]
  · obtain ⟨n,hn,en⟩:=List.getElem_of_mem hp
    have hp':p∈q.fs:=hp'
    obtain ⟨m,hm,em⟩:=List.getElem_of_mem hp'
    have x1:(q.fs.map (·.2))[n]'(by simpa using hn)=(q.fs.map (·.2))[m]'(by simpa using hm):=by rw [List.getElem_map,List.getElem_map,en,em,z]
    have:=(List.getElem_inj (show (q.fs.map (·.2)).Nodup from S.nd)).mp x1
    subst this
    rw [en] at em
    rw [← em]
end
def Wld.knO (M:Wld) (kk:Nat) (ob:List OS):Kn where
  FK:=M.FK kk
  GK:=M.GK
  XK:=M.XK
  MK:=M.MK
  IK:=IsTb M.K M.mg
  VK:=fun c m fn n t k φ=>k≤kk∧Mok M.P M.w M.K M.mg M.base c m fn n t k φ
  VF:=fun x c fn n t k φ=>k≤kk∧FokV M.P M.w M.K M.mg M.base x c fn n t k φ
  UF:=fun x c ft n t k ψ=>k≤kk∧FokM M.P M.w M.K M.mg M.base x c ft n t k ψ
  UK:=fun c m ft n t k ψ=>k≤kk∧MokM M.P M.w M.K M.mg M.base c m ft n t k ψ
  NK:=fun c ft n k ψ=>k + 1≤kk∧MokI M.P M.w M.K M.mg M.base c ft n k ψ
  OB:=fun i c fj=>∃ q∈ob,q.i=i∧q.c=c∧q.fs=fj∧(q.al=true∨q.fs≠[])
  OM:=fun i c fj=>∃ q∈ob,q.i=i∧q.c=c∧q.fs=fj∧q.own=true∧(q.al=true∨q.fs≠[])
  ON:=fun i c fj=>∃ q∈ob,q.i=i∧q.c=c∧q.fs=fj∧q.own=true∧q.al=false
  FS:=fun i f j=>∃ q∈ob,q.i=i∧q.own=true∧q.al=true∧(f,j)∈q.fs
  LM:=False
  LA:=fun _ _ _ _ _=>False
  LF:=fun x t u k ψ=>k + 1≤kk∧FokL M.P M.w M.K M.mg M.base x t u k ψ
  LK:=fun j=>j≤kk
  UX:=fun x c ft nf ks n t k ψ=>k≤kk∧FokX M.P M.w M.K M.mg M.base x c ft nf ks n t k ψ
  NO:=ob=[]
def LamD (M:Wld) (f:Addr) (qual:Str):Prop:=∃ c P:Addr,tabAd M.K f=some (c,P)∧LamX.TabB M.base M.mg c P∧(P,qual ++ ".<locals>." ++ "<lambda>")∈tabsK M.K∧∀ p∈tabsK M.K,p.1=P→p.2=qual ++ ".<locals>." ++ "<lambda>"
def Wld.knL (M:Wld) (kk:Nat) (ob:List OS) (f:Addr) (qual:Str):Kn:={ M.knO kk ob with LM:=LamD M f qual }
def CdOf (K:Frag) (f:Addr) (cdv:Value):Prop:=∃ (oc:Value) (od:Option Addr) (fd:FuncData) (osl:Array (Option Value)),K.lookup f=some ⟨oc,od,.func fd,osl⟩∧fd.code=cdv
theorem lamOk_of {M:Wld} {N:List Str} {qual:Str} {scope:Scope} {f:Addr} {cdv:Value} {A:Around} {outer:List Env} {s:Shared} {H:Hp} {E:XK} (hc:CdOf M.K f cdv) (h:LamD M f qual):LamOk (cxOf (L2.CX M.P M.w) M.P M.w M.K M.mg M.base N qual scope f cdv A outer s H E):=by
  obtain ⟨oc,od,fd,osl,lk,e⟩:=hc
  obtain ⟨c,P,ht,tb,hm,hu⟩:=h
  refine ⟨c,P,?_,tb,hm,hu⟩
  unfold tabAd at ht
  rw [lk] at ht
  dsimp only at ht
  subst e
  show fd.code=.ref c
  split at ht
  · rename_i c' e'
    split at ht
    · split at ht
      · cases ht; exact e'
      · cases ht
    · cases ht
  · cases ht
theorem funD_okC {P : Program} {w : World} {K : PySem.W.Frag} {mg : Str → Option Value} {base : Heap} {x qual : Str} {params : Arguments} {body : List Stmt} {scope : Scope} {dvs : List V} {kws : List (Str × V)} {f : Addr} {fd : FuncData} {CX : CXT} {N ps : List Str} {k : Nat} {sp : Sp}
    (F:FunD K x qual params body scope dvs kws f fd) (S:FnScope N ps scope) (len:∀ vs H Q E,sp vs H Q E→vs.length=ps.length)
    (hbody:∀ (cdv:Value) (A:Around) (outer:List Env) (s:Shared) (H:Hp) (vs:List V) (Q:VK) (E:XK),CdOf K f cdv→Room k (A.deeper (envOfC qual scope s.heap.objs.size f cdv))→sp vs H Q E →
      ∃ t,PSs (cxOf CX P w K mg base N qual scope f cdv A outer s H E) body t∧t { nx:=fun _ H'=>Q .non H',rt:=Q } (L2.start N vs) H):FnOk P w K mg base CX (k + 1) f fd ps sp:=by
  obtain ⟨oc,od,dV,kV,doc,pm,an,cdv,ct,osl,rfl,lk,hcd,_,_⟩:=F.ex
  exact fn_of lk hcd S len fun A outer s H vs Q E=>hbody cdv A outer s H vs Q E ⟨oc,od,_,osl,lk,rfl⟩
def Wld.kn (M:Wld) (kk:Nat):Kn:=M.knO kk []
theorem cokS_of {a : Option Addr} {M : Wld} {N : List Str} {qual : Str} {scope : Scope} {f : Addr} {cdv : Value} {A : Around} {outer : List Env} {s : Shared} {H : Hp} {E : XK} {k : Nat} {ob : List OS} {H0 G0 : Hp} (hcd : CdOf M.K f cdv) (hBL : ∀ x ∈ BL, M.mg x = none) (nd : N.Nodup) (kd : scope.kind = .function) (hr : Room k (A.deeper (envOfC qual scope s.heap.objs.size f cdv))) (w : WfO N scope ob) (hc : ∀ q ∈ ob, OC1 M.K q) :
    CokS N k (M.knL k ob f qual) (cxOf (L2.CX M.P M.w) M.P M.w M.K M.mg M.base N qual scope f cdv A outer s H E) (BO M.K a H0 G0 N ob) scope (fun cls d _ H'=>E cls d H'):=by
  refine ⟨⟨rfl,rfl,rfl,nd,hr,takes_of rfl rfl rfl rfl,hBL,fun _ _ _ _ _ q=>q,fun _ _ q=>q,fun _ _ q=>q,fun _ h=>h,fun r j x f _ e1 e2=>fldOk_of w hc e1 e2,fun _ _ _ _ _ _ _ h=>h,?_,fun _ _ _ _ _ _ _ h=>h,lamOk_of hcd,fun _ _ _ _ _ z=>z.elim,fun _ _ _ _ _ z=>z,fun _=>⟨rfl,rfl⟩,fun _ z=>z,fun _ z=>z.elim,fun _ _ _ _ _ _ z=>z.elim,fun _ _ _ _ _ z=>z.elim,fun z=>(by subst z; rfl),fun _ _ z=>z.elim⟩,passes_of rfl,fun _=>rfl,kd,fun c q=>⟨q.1,q.2.1,q.2.2.1,raises_own q.2.2.2.1 q.2.2.2.2⟩,fun _ _ q=>q,rfl,rfl,rfl,fun _ _ _ _ _ _ _ h=>h,fun _ _ _ _ _ _ _ h=>h,fun _ _ _ _ _ h=>h,?_,?_,?_,fun _ _ _ _ _ _ _ _ _ h=>h,fun l od e=>?_,fun _ _ _ _ z=>z.elim,fun _ _ z=>z.elim⟩
  rotate_right
  · obtain ⟨q,hq,rfl⟩:=od_at e
    have p0:=w.pr q (List.mem_of_getElem? hq)
    exact ⟨fun j hj => (by have : j = q.i := by simpa [OS.od] using hj
                           subst this; exact p0.1),fun p hp=>p0.2 p hp,fun j hj=>by cases hj⟩
  · rintro i c fj ⟨q,hq,rfl,rfl,rfl,ha⟩
    obtain ⟨kk,hk⟩:=os_idx hq
    exact ⟨kk,q.od M.K a,od_get hk,.inl rfl,rfl,rfl,ha,rfl⟩
  · rintro i c fj ⟨q,hq,rfl,rfl,rfl,ho,ha⟩
    obtain ⟨kk,S⟩:=obS_of (K:=M.K) (a:=a) (H0:=H0) (G0:=G0) w hq ho ha
    exact ⟨⟨kk,q.od M.K a,S,rfl,rfl⟩,fun j hj x hx=>by
      obtain ⟨p,hp,rfl⟩:=List.mem_map.mp hj
      exact w.off q hq p hp x hx⟩
  · rintro i c fj ⟨q,hq,rfl,rfl,rfl,ho,hal⟩
    obtain ⟨kk,S⟩:=obN_of (K:=M.K) (a:=a) (H0:=H0) (G0:=G0) w hq ho hal
    exact ⟨⟨kk,q.od M.K a,S,rfl,rfl⟩,fun j hj x hx=>by
      obtain ⟨p,hp,rfl⟩:=List.mem_map.mp hj
      exact w.off q hq p hp x hx⟩
  · rintro i f j ⟨q,hq,rfl,ho,ha,hp⟩
    exact fldSet_of w hc hq ho ha hp
theorem obs_unset {a:Option Addr} {K:Frag} {H0 G0 G H:Hp} {N:List Str} {sc:Scope} {ob:List OS} {σ:St} (w:WfO N sc ob) (hu:∀ q∈ob,q.al=false∧∀ j∈q.i :: q.fs.map (·.2),∀ v,σ[j]?≠some (some v)):Obs (BO K a H0 G0 N ob) G H σ:=by
  have nl:∀ (k:Nat) (od:OD),(BO K a H0 G0 N ob).O[k]?=some od→¬ Live od σ:=fun k od e ⟨i,hi,v,ev⟩=>by
    obtain ⟨q,hq,rfl⟩:=od_at e
    have:i=q.i:=by simpa [OS.od] using hi
    subst this
    exact (hu q (List.mem_of_getElem? hq)).2 _ List.mem_cons_self v ev
  refine ⟨fun _=>0,fun k l od od' e1 _ _ _ lv=>absurd lv (nl k od e1),fun k od e=>?_⟩
  have n0:=nl k od e
  obtain ⟨q,hq,rfl⟩:=od_at e
  have hm:=List.mem_of_getElem? hq
  refine ⟨⟨fun i hi=>?_,fun p hp=>(w.pr q hm).2 p hp,fun z=>(by cases z)⟩,fun b hb=>(by have hb:(if q.al=true then a else none)=some b:=hb; rw [if_neg (by rw [(hu q hm).1]; decide)] at hb; cases hb),fun i hi v ev=>?_,⟨fun i hi=>(by cases hi),fun _ i hi=>(by cases hi)⟩,fun z=>?_,fun p hp v ev=>?_,fun _ lv=>absurd lv n0⟩
  · have:i=q.i:=by simpa [OS.od] using hi
    subst this
    exact (w.pr q hm).1
  · have:i=q.i:=by simpa [OS.od] using hi
    subst this
    exact absurd ev ((hu q hm).2 _ List.mem_cons_self v)
  · have z:q.al=true:=z
    rw [(hu q hm).1] at z; cases z
  · exact absurd ev ((hu q hm).2 _ (in_slots hp) v)
theorem start_none {N:List Str} {vs:List V} {i:Nat} (h:vs.length≤i) (v:V):(L2.start N vs)[i]?≠some (some v):=by
  unfold L2.start
  rw [List.getElem?_append_right (by rw [List.length_map]; exact h),List.getElem?_replicate]
  split <;> exact fun z=>by cases z
def lateB (n:Nat) (ob:List OS):Bool:=ob.all fun q=> !q.al && (q.i :: q.fs.map (·.2)).all fun j=>decide (n≤j)
theorem body_ok {M : Wld} {qual : Str} {body : List Stmt} {scope : Scope} {f : Addr} {cdv : Value} {A : Around} {outer : List Env} {s : Shared} {N : List Str} {np k : Nat} {t : OT} {b : S} {ob : List OS} {kn : Kn} {H G : Hp} {E : XK} {Q : VK} {vs : List V} {ds : List D}
    (w:WfO N scope ob) (hl:lateB np ob=true) (hok:SOk kn b) (hc:chkS N scope b [] [] { t:=t } (.inr body)=true)
    (hX:CokS N k kn (cxOf (L2.CX M.P M.w) M.P M.w M.K M.mg M.base N qual scope f cdv A outer s H E) (BO M.K none H G N ob) scope (fun cls d _ H'=>E cls d H'))
    (e:Sub G H) (tk:TK M.K H) (r:RDs M.K G vs ds) (hvl:vs.length=np) (h:Done (runS N.length t b ds) (fun d=>∀ v G' H',Grow M.K G H G' H'→New M.K H G' H' v d t→Q v H') (fun c=>∀ G' H',Grow M.K G H G' H'→E (clsV M.K c) none H')) :
    ∃ tt,PSs (cxOf (L2.CX M.P M.w) M.P M.w M.K M.mg M.base N qual scope f cdv A outer s H E) body tt∧tt { nx:=fun _ H'=>Q .non H',rt:=Q } (L2.start N vs) H:=by
  refine ⟨_,soundS b hok _ (BO M.K none H G N ob) _ hX [] [] { t:=t } (.inr body) hc,enter N.length ds,G,?_,?_⟩
  · refine ⟨?_,⟨fun _=>[],⟨fun i d q=>?_,fun _=>List.nodup_nil,fun _ _ _ m=>(by cases m),fun _ _ m=>(by cases m)⟩,fun _ _ m=>(by cases m)⟩,⟨.refl _,tk⟩,.refl _,e,fun a h1 _=>h1,obs_unset w fun q hq=>?_⟩
    · unfold enter L2.start
      rw [List.length_append,List.length_append,List.length_map,List.length_map,List.length_replicate,List.length_replicate,r.length]
    · obtain ⟨v,ev,rd⟩:=r.get (enter_get q)
      exact ⟨v,start_get ev,.fz rd⟩
    · obtain ⟨z1,z2⟩:=and2 (List.all_eq_true.mp hl q hq)
      exact ⟨by simpa using z1,fun j hj v=>start_none (by rw [hvl]; exact of_decide_eq_true (List.all_eq_true.mp z2 j hj)) v⟩
  unfold runS at h
  cases q:dS b (enter N.length ds) with
  | rt d=>rw [q] at h; exact h
  | nx s' =>
    rw [q] at h
    unfold leave at h
    by_cases ht:t=.fz
    · rw [if_pos ht] at h
      exact fun σ' G' H' g rl=>h .non G' H' (rel_grow0 rl) (by rw [ht]; exact .fz .non)
    · rw [if_neg ht] at h; exact h.elim
  | bk s'=>rw [q] at h; exact h.elim
  | ct s'=>rw [q] at h; exact h.elim
  | ex c s'=>rw [q] at h; exact fun σ' G' H' g rl=>h G' H' (rel_grow0 rl)
  | stuck=>rw [q] at h; exact h.elim
  | rm d s'=>rw [q] at h; exact h.elim
theorem fn_okO {M : Wld} {x qual : Str} {params : Arguments} {body : List Stmt} {scope : Scope} {f : Addr} {fd : FuncData} {N ps : List Str} {k : Nat} {t : OT} {b : S} {ob : List OS} (hBL : ∀ x ∈ BL, M.mg x = none)
    (F:FunD M.K x qual params body scope [] [] f fd) (Sc:FnScope N ps scope) (hw:wfO N scope ob=true) (hl:lateB ps.length ob=true) (hcl:∀ q∈ob,OC1 M.K q) (hok:SOk (M.knL k ob f qual) b) (hc:chkS N scope b [] [] { t:=t } (.inr body)=true) :
    FnOk M.P M.w M.K M.mg M.base (L2.CX M.P M.w) (k + 1) f fd ps (spD M.K ps.length t (runS N.length t b)):=by
  have w:=wfO_ok hw
  refine funD_okC F Sc (fun vs H Q E h=>?_) (fun cdv A outer s H vs Q E hcd hr h=>?_)
  · obtain ⟨ds,G,_,_,r,hl,_⟩:=h
    rw [r.length,hl]
  · obtain ⟨ds,G,e,tk,r,hn,h⟩:=h
    have hvl:vs.length=ps.length:=by rw [r.length,hn]
    have hX:=cokS_of (M:=M) (N:=N) (qual:=qual) (f:=f) (cdv:=cdv) (A:=A) (outer:=outer) (s:=s) (H:=H) (E:=E) (a:=none) (H0:=H) (G0:=G) hcd hBL Sc.nd Sc.kind hr w hcl
    exact body_ok (np:=ps.length) w hl hok hc hX e tk r hvl h
theorem fn_ok {M : Wld} {x qual : Str} {params : Arguments} {body : List Stmt} {scope : Scope} {f : Addr} {fd : FuncData} {N ps : List Str} {k : Nat} {t : OT} {b : S} (hBL : ∀ x ∈ BL, M.mg x = none)
    (F:FunD M.K x qual params body scope [] [] f fd) (Sc:FnScope N ps scope) (hok:SOk (M.knL k [] f qual) b) (hc:chkS N scope b [] [] { t:=t } (.inr body)=true) (hd:wfO N scope []=true:=by decide +kernel) :
    FnOk M.P M.w M.K M.mg M.base (L2.CX M.P M.w) (k + 1) f fd ps (spD M.K ps.length t (runS N.length t b)):=fn_okO hBL F Sc hd rfl (fun q hq=>by cases hq) hok hc
end Hr
end
section
namespace Hr
open PySem PySem.Spec L2 PyProof.Rows
def enter0 (n:Nat) (ds:List D):En:=none :: (ds.map some ++ List.replicate (n - 1 - ds.length) none)
def enterM (n:Nat) (ds:List D) (js:List Nat) (fds:List D):En:=setFs (enter0 n ds) js fds
section
variable {K:Frag} {N:List Str} {sc:Scope} {ob:List OS} {c:Str} {own:Bool} {fj:List (Str×Nat)} {a:Addr} {rest:List V} {ds:List D} {G H H0:Hp}
structure MS (N:List Str) (n:Nat) (fj:List (Str×Nat)) (ob:List OS):Prop where
  late:∀ j∈fj.map (·.2),n + 1≤j∧j < N.length
  lo:∀ q∈ob,q.al=false∧∀ j∈q.i :: q.fs.map (·.2),n + 1≤j
  nn:n + 1≤N.length
end
def leaveM (t:OT) (js:List Nat):Out→MR
  | .rm d s=>match fldsAt s js with
    | some fds=>.ok d fds
    | none=>.stuck
  | .nx s=>if t=.fz then (match fldsAt s js with
    | some fds=>.ok .non fds
    | none=>.stuck) else .stuck
  | .ex c s=>match fldsAt s js with
    | some fds=>.exc c fds
    | none=>.stuck
  | _=>.stuck
end Hr
end
section
namespace Hr
open PySem PySem.Spec L2 PyProof.Rows
structure OC1B (K:Frag) (q:OB):Prop where
  cls:Cls K (He.ga K q.c)
  no:∀ p∈q.fs,NoAttr K (He.ga K q.c) p.1
def rtP (q:OB) (i:Nat):Prop:=(i=q.i∧q.rx=[])∨i∈q.nm
instance (q:OB) (i:Nat):Decidable (rtP q i):=by unfold rtP; infer_instance
def flatP (ob:List OB) (k:Nat) (q:OB):Prop:=(q.fs.map (·.2)).Nodup∧(q.fs.map (·.1)).Nodup∧∀ z∈ob.zipIdx,∀ p∈q.fs,(p.2∉z.1.i :: z.1.rx∧p.2∉z.1.nm)∧(z.2≠k→∀ y∈z.1.fs,y.2≠p.2)
instance (ob:List OB) (k:Nat) (q:OB):Decidable (flatP ob k q):=by unfold flatP; infer_instance
def newP (ob:List OB) (k i:Nat) (q:OB):Prop:=i∉q.fs.map (·.2)∧∀ z∈ob.zipIdx,z.2≠k→(i∉z.1.i :: z.1.rx∧i∉z.1.nm)∧∀ y∈z.1.fs,y.2≠i
instance (ob:List OB) (k i:Nat) (q:OB):Decidable (newP ob k i q):=by unfold newP; infer_instance
def setP (ob:List OB) (k:Nat) (q:OB) (f:Str) (j:Nat):Prop:=q.fs.length≤900∧(∀ p∈q.fs,p.1=f↔p.2=j)∧∀ z∈ob.zipIdx,(j∉z.1.i :: z.1.rx∧j∉z.1.nm)∧(z.2≠k→∀ y∈z.1.fs,y.2≠j)
instance (ob:List OB) (k:Nat) (q:OB) (f:Str) (j:Nat):Decidable (setP ob k q f j):=by unfold setP; infer_instance
structure WfB (N:List Str) (sc:Scope) (ob:List OB):Prop where
  pr:∀ q∈ob,(∀ i∈q.i :: q.rx,prN N i=true)∧(∀ x∈q.fs,prN N x.2=true)∧(∀ i∈q.nm,prN N i=true)∧∀ x∈q.fs,ghB N x.2=true
  off:∀ x∈N,dotB x=true→¬ Vis sc x
  fl:∀ (r j:Nat) (x f:Str),dotB f=false→N[r]?=some x→N[j]?=some (dot x f)→∃ q∈ob,rtP q r∧(f,j)∈q.fs
section
variable {M:Wld} {x qual:Str} {params:Arguments} {body:List Stmt} {scope:Scope} {f:Addr} {fd:FuncData} {ps:List Str} {bd:BD} {k:Nat} {t:OT} {b:S}
end
end Hr
end
section
namespace Hr
open PySem PySem.Spec L2 PyProof.Rows
def lsFrom:Nat→List PK→List Nat
  | _,[]=>[]
  | m,.l :: ks=>m :: lsFrom (m + 1) ks
  | m,.p :: ks=>lsFrom (m + 1) ks
  | m,.o :: ks=>lsFrom (m + 1) ks
def isO:Option PK→Bool
  | some .o=>true
  | _=>false
def entP:List PK→List D→List (Option D)
  | [],_=>[]
  | .p :: ks,d :: ds=>some d :: entP ks ds
  | .p :: ks,[]=>none :: entP ks []
  | .o :: ks,ds=>none :: entP ks ds
  | .l :: ks,ds=>none :: entP ks ds
theorem ArgS.len:∀ {ks:List PK} {vs:List V} {a:V} {rs ls:List V},ArgS ks vs a rs ls→vs.length=ks.length
  | [],_,_,_,_,h=>by rw [h.1]; rfl
  | .p :: ks,_,_,_,_,⟨v,vs',rs',h1,h2,h⟩=>by rw [h1,List.length_cons,ArgS.len h]; rfl
  | .o :: ks,_,_,_,_,⟨vs',h1,h⟩=>by rw [h1,List.length_cons,ArgS.len h]; rfl
  | .l :: ks,_,_,_,_,⟨v,vs',ls',h1,h2,h⟩=>by rw [h1,List.length_cons,ArgS.len h]; rfl
theorem ArgS.obj:∀ {ks:List PK} {vs:List V} {a:V} {rs ls:List V} {i:Nat},ArgS ks vs a rs ls→isO ks[i]?=true→vs[i]?=some a
  | [],_,_,_,_,i,h,e=>by simp [isO] at e
  | .p :: ks,_,_,_,_,0,h,e=>by simp [isO] at e
  | .l :: ks,_,_,_,_,0,h,e=>by simp [isO] at e
  | .o :: ks,_,_,_,_,0,⟨vs',h1,h⟩,e=>by rw [h1]; rfl
  | .p :: ks,_,_,_,_,i + 1,⟨v,vs',rs',h1,h2,h⟩,e=>by rw [h1,List.getElem?_cons_succ]; exact ArgS.obj h (by simpa using e)
  | .o :: ks,_,_,_,_,i + 1,⟨vs',h1,h⟩,e=>by rw [h1,List.getElem?_cons_succ]; exact ArgS.obj h (by simpa using e)
  | .l :: ks,_,_,_,_,i + 1,⟨v,vs',ls',h1,h2,h⟩,e=>by rw [h1,List.getElem?_cons_succ]; exact ArgS.obj h (by simpa using e)
theorem ArgS.lst:∀ {ks:List PK} {vs:List V} {a:V} {rs ls:List V} (m:Nat),ArgS ks vs a rs ls→ls.length=(lsFrom m ks).length∧∀ (n j:Nat) (v:V),(lsFrom m ks)[n]?=some j→ls[n]?=some v→m≤j∧vs[j - m]?=some v
  | [],_,_,_,_,m,h=>⟨by rw [h.2.2]; rfl,fun n j v e=>by simp [lsFrom] at e⟩
  | .p :: ks,_,_,_,_,m,⟨v,vs',rs',h1,h2,h⟩=>by
    obtain ⟨l,k⟩:=ArgS.lst (m + 1) h
    refine ⟨l,fun n j v e1 e2=>?_⟩
    obtain ⟨k1,k2⟩:=k n j v e1 e2
    refine ⟨by omega,?_⟩
    rw [h1,show j - m=(j - (m + 1)) + 1 by omega,List.getElem?_cons_succ]; exact k2
  | .o :: ks,_,_,_,_,m,⟨vs',h1,h⟩=>by
    obtain ⟨l,k⟩:=ArgS.lst (m + 1) h
    refine ⟨l,fun n j v e1 e2=>?_⟩
    obtain ⟨k1,k2⟩:=k n j v e1 e2
    refine ⟨by omega,?_⟩
    rw [h1,show j - m=(j - (m + 1)) + 1 by omega,List.getElem?_cons_succ]; exact k2
  | .l :: ks,_,_,_,_,m,⟨v,vs',ls',h1,h2,h⟩=>by
    obtain ⟨l,k⟩:=ArgS.lst (m + 1) h
    refine ⟨by rw [h2,List.length_cons,l]; rfl,fun n j v' e1 e2=>?_⟩
    rw [h2] at e2
    cases n with
    | zero =>
      simp [lsFrom] at e1 e2
      subst e1 e2
      exact ⟨Nat.le_refl _,by rw [h1,Nat.sub_self]; rfl⟩
    | succ n =>
      obtain ⟨k1,k2⟩:=k n j v' (by simpa [lsFrom] using e1) (by simpa using e2)
      refine ⟨by omega,?_⟩
      rw [h1,show j - m=(j - (m + 1)) + 1 by omega,List.getElem?_cons_succ]; exact k2
theorem ArgS.ent {K:Frag} {G:Hp}:∀ {ks:List PK} {vs:List V} {a:V} {rs ls:List V} {ds:List D} {i:Nat} {d:D},ArgS ks vs a rs ls→RDs K G rs ds→(entP ks ds)[i]?=some (some d)→∃ v,vs[i]?=some v∧RD K G v d
  | [],_,_,_,_,_,i,_,h,r,e=>by simp [entP] at e
  | .p :: ks,_,_,_,_,[],i,d,⟨v,vs',rs',h1,h2,h⟩,r,e=>by rw [h2] at r; cases r
  | .p :: ks,_,_,_,_,d' :: ds,0,d,⟨v,vs',rs',h1,h2,h⟩,r,e=>by
    rw [h2] at r
    cases r with
    | cons r1 r2=>simp [entP] at e; subst e; exact ⟨v,by rw [h1]; rfl,r1⟩
  | .p :: ks,_,_,_,_,d' :: ds,i + 1,d,⟨v,vs',rs',h1,h2,h⟩,r,e=>by
    rw [h2] at r
    cases r with
    | cons r1 r2=>rw [h1,List.getElem?_cons_succ]; exact ArgS.ent h r2 (by simpa [entP] using e)
  | .o :: ks,_,_,_,_,ds,0,d,⟨vs',h1,h⟩,r,e=>by simp [entP] at e
  | .o :: ks,_,_,_,_,ds,i + 1,d,⟨vs',h1,h⟩,r,e=>by rw [h1,List.getElem?_cons_succ]; exact ArgS.ent h r (by simpa [entP] using e)
  | .l :: ks,_,_,_,_,ds,0,d,⟨v,vs',ls',h1,h2,h⟩,r,e=>by simp [entP] at e
  | .l :: ks,_,_,_,_,ds,i + 1,d,⟨v,vs',ls',h1,h2,h⟩,r,e=>by rw [h1,List.getElem?_cons_succ]; exact ArgS.ent h r (by simpa [entP] using e)
def lod (p:Nat×Addr):OD:=⟨[p.1],0,false,false,some p.2,[],true,[]⟩
def Base.ext (B:Base) (ll:List (Nat×Addr)):Base:=⟨B.H0,B.G0,B.O ++ ll.map lod,B.pr⟩
theorem ext_at {B:Base} {ll:List (Nat×Addr)} {k:Nat} {od:OD} (h:(B.ext ll).O[k]?=some od):(k < B.O.length∧B.O[k]?=some od)∨(B.O.length≤k∧∃ p,ll[k - B.O.length]?=some p∧od=lod p):=by
  have h:(B.O ++ ll.map lod)[k]?=some od:=h
  by_cases hk:k < B.O.length
  · rw [List.getElem?_append_left hk] at h; exact .inl ⟨hk,h⟩
  · rw [List.getElem?_append_right (by omega),List.getElem?_map] at h
    cases z:ll[k - B.O.length]? with
    | none=>rw [z] at h; cases h
    | some p=>rw [z] at h; cases h; exact .inr ⟨by omega,p,rfl,rfl⟩
theorem ext_get {B:Base} {ll:List (Nat×Addr)} {k:Nat} {od:OD} (h:B.O[k]?=some od):(B.ext ll).O[k]?=some od:=by
  show (B.O ++ ll.map lod)[k]?=some od
  rw [List.getElem?_append_left (List.getElem?_eq_some_iff.mp h).1]; exact h
theorem Obs.ext {B:Base} {G H:Hp} {σ:St} {ll:List (Nat×Addr)} (o:Obs B G H σ) (h:∀ p∈ll,B.pr p.1=true∧σ[p.1]?=some (some (.ref p.2))):Obs (B.ext ll) G H σ:=by
  obtain ⟨α,inj,r⟩:=o
  refine ⟨fun k=>if k < B.O.length then α k else ((ll[k - B.O.length]?).map (·.2)).getD 0,fun k l od od' e1 e2 ho hl l1 l2 e=>?_,fun k od e=>?_⟩
  · rcases ext_at e1 with ⟨a1,a2⟩ | ⟨a1,p,a2,rfl⟩
    · rcases ext_at e2 with ⟨b1,b2⟩ | ⟨b1,p,b2,rfl⟩
      · dsimp only at e
        rw [if_pos a1,if_pos b1] at e
        exact inj k l od od' a2 b2 ho hl l1 l2 e
      · cases hl
    · cases ho
  · rcases ext_at e with ⟨a1,a2⟩ | ⟨a1,p,a2,rfl⟩
    · dsimp only
      rw [if_pos a1]
      have q:=r k od a2
      exact ⟨q.pr,q.ad,q.rt,q.nm,q.al,q.fld,q.ins⟩
    · dsimp only
      rw [if_neg (by omega),a2]
      have hp:=h p (List.mem_of_getElem? a2)
      refine ⟨⟨fun i hi=>?_,fun q hq=>(by cases hq),fun _=>⟨rfl,rfl⟩⟩,fun b hb=>Option.some.inj hb,fun i hi v ev=>?_,⟨fun i hi=>(by cases hi),fun _ i hi=>(by cases hi)⟩,fun z=>(by cases z),fun q hq=>(by cases hq),fun z=>(by cases z)⟩
      · rw [List.mem_singleton.mp hi]; exact hp.1
      · rw [List.mem_singleton.mp hi,hp.2] at ev; cases ev; rfl
theorem Obs.lod {B:Base} {G H:Hp} {σ:St} {ll:List (Nat×Addr)} (o:Obs (B.ext ll) G H σ) {p:Nat×Addr} (hp:p∈ll) {v:V} (h:σ[p.1]?=some (some v)):v=.ref p.2:=by
  obtain ⟨α,_,r⟩:=o
  obtain ⟨n,hn,en⟩:=List.getElem_of_mem hp
  have e:(B.ext ll).O[B.O.length + n]?=some (Hr.lod p):=by
    show (B.O ++ ll.map Hr.lod)[B.O.length + n]?=_
    rw [List.getElem?_append_right (by omega),Nat.add_sub_cancel_left,List.getElem?_map,List.getElem?_eq_getElem hn,en]; rfl
  have q:=r _ _ e
  rw [q.rt p.1 (by simp [Hr.lod]) v h,q.ad p.2 rfl]
def Dis (B:Base) (ll:List (Nat×Addr)):Prop:=∀ p∈ll,∀ (l:Nat) (od:OD),B.O[l]?=some od→p.1∉od.rs∧∀ q∈od.fs,q.2≠p.1
section
variable {K:Frag} {B:Base} {ll:List (Nat×Addr)} {i j k:Nat} {f c:Str} {fj:List (Str×Nat)} {X:Cx} {od:OD}
theorem FldOk.ext (h:FldOk K B i f j):FldOk K (B.ext ll) i f j:=let ⟨k,od,h1,h2⟩:=h.ex; ⟨k,od,ext_get h1,h2⟩
theorem ObOk.ext (h:ObOk K B i c fj):ObOk K (B.ext ll) i c fj:=let ⟨k,od,h1,h2⟩:=h.ex; ⟨k,od,ext_get h1,h2⟩
theorem FldSet.ext (h:FldSet K B i f j) (d:Dis B ll):FldSet K (B.ext ll) i f j:=by
  obtain ⟨k,od,h1,h2,h3,h4,h5,h6,h7,h8,h9,h10⟩:=h.ex
  refine ⟨k,od,ext_get h1,h2,h3,h4,h5,h6,h7,h8,h9,fun l od' e=>?_⟩
  rcases ext_at e with ⟨_,e2⟩ | ⟨_,p,e2,rfl⟩
  · exact h10 l od' e2
  · have dp:=d p (List.mem_of_getElem? e2) k od h1
    exact ⟨⟨fun m=>dp.2 _ h3 (List.mem_singleton.mp m),fun m=>by cases m⟩,fun _ q hq=>by cases hq⟩
theorem ObjS.ext (h:ObjS B k i od) (d:Dis B ll):ObjS (B.ext ll) k i od:=by
  refine ⟨ext_get h.at_,h.rs,h.own,h.al,h.nd,fun l od' e p hp=>?_,h.nf⟩
  rcases ext_at e with ⟨_,e2⟩ | ⟨_,p',e2,rfl⟩
  · exact h.nr l od' e2 p hp
  · have dp:=d p' (List.mem_of_getElem? e2) k od h.at_
    exact ⟨⟨fun m=>dp.2 _ hp (List.mem_singleton.mp m),fun m=>by cases m⟩,fun _ q hq=>by cases hq⟩
theorem ObM.ext (h:ObM X B i c fj) (d:Dis B ll):ObM X (B.ext ll) i c fj:=let ⟨k,od,S,q⟩:=h.ex; ⟨⟨k,od,S.ext d,q⟩,h.gh⟩
theorem ObjN.ext (h:ObjN B k i od) (d:Dis B ll):ObjN (B.ext ll) k i od:=by
  refine ⟨ext_get h.at_,h.rs,h.nm,h.own,h.ad,h.nd,h.ni,fun l od' e=>?_⟩
  rcases ext_at e with ⟨_,e2⟩ | ⟨_,p',e2,rfl⟩
  · exact h.nr l od' e2
  · have dp:=d p' (List.mem_of_getElem? e2) k od h.at_
    exact ⟨fun p hp=>⟨⟨fun m=>dp.2 _ hp (List.mem_singleton.mp m),fun m=>by cases m⟩,fun _ q hq=>by cases hq⟩,fun _=>⟨⟨fun m=>dp.1 (by rw [h.rs,List.mem_singleton.mp m]; exact List.mem_cons_self),fun m=>by cases m⟩,fun q hq=>by cases hq⟩⟩
theorem ObN.ext (h:ObN X B i c fj) (d:Dis B ll):ObN X (B.ext ll) i c fj:=let ⟨k,od,S,q⟩:=h.ex; ⟨⟨k,od,S.ext d,q⟩,h.gh⟩
theorem PrO.ext (h:PrO B) (hl:∀ p∈ll,B.pr p.1=true):PrO (B.ext ll):=fun l od' e=>by
  rcases ext_at e with ⟨_,e2⟩ | ⟨_,p',e2,rfl⟩
  · exact h l od' e2
  · exact ⟨fun j hj=>by rw [List.mem_singleton.mp hj]; exact hl _ (List.mem_of_getElem? e2),fun q hq=>(by cases hq),fun j hj=>by cases hj⟩
theorem CokS.ext {N:List Str} {kk:Nat} {kn:Kn} {sc:Scope} {W:WX} (h:CokS N kk kn X B sc W) (d:Dis B ll) (hl:∀ p∈ll,B.pr p.1=true) (hla:∀ x i t f r,¬ kn.LA x i t f r) (hoa:∀ ob,¬ kn.OA ob) (hno:¬ kn.NO) (hbk:∀ i j,¬ kn.BK i j):CokS N kk kn X (B.ext ll) sc W :=
  ⟨⟨h.e.hN,h.e.hS,h.e.calm,h.e.nd,h.e.room,h.e.tk,h.e.blt,h.e.fk,h.e.gk,h.e.ik,h.e.hp,fun r j x f c a b=>(h.e.hfl r j x f c a b).ext,h.e.vk,fun i c fj a=>(h.e.ob i c fj a).ext,h.e.vf,h.e.lm,fun x i t f r a=>absurd a (hla x i t f r),h.e.lf,h.e.dx,h.e.lk,fun ob z=>absurd z (hoa ob),h.e.mb,h.e.gb,fun z=>absurd z hno,fun i j z=>absurd z (hbk i j)⟩,
    h.po,h.fn,h.kd,h.xk,h.xm,h.hs,h.hf,h.hex,h.uk,h.uf,h.nk,fun i c fj a=>(h.om i c fj a).ext d,fun i c fj a=>(h.on i c fj a).ext d,fun i f j a=>(h.fs i f j a).ext d,h.ux,h.np.ext hl,h.ib,h.fa⟩
end
structure MSX (N:List Str) (ks:List PK) (i0:Nat) (Γ0:Ow) (fj:List (Str×Nat)) (ob:List OS):Prop where
  late:∀ j∈fj.map (·.2),ks.length≤j∧j < N.length
  lo:∀ q∈ob,q.al=false∧∀ j∈q.i :: q.fs.map (·.2),ks.length≤j
  nn:ks.length≤N.length
  o:isO ks[i0]?=true
  il:i0 < ks.length
  ni:i0∉lsFrom 0 ks
  nd:(lsFrom 0 ks).Nodup
  ex:∀ j∈lsFrom 0 ks,prN N j=true∧∃ t,oty Γ0 j=.own t
theorem refs_at {σ:St}:∀ (js:List Nat),(∀ j∈js,∃ b,σ[j]?=some (some (.ref b)))→∃ ll:List (Nat×Addr),ll.map (·.1)=js∧∀ p∈ll,σ[p.1]?=some (some (.ref p.2))
  | [],_=>⟨[],rfl,fun p hp=>by cases hp⟩
  | j :: js,h=>by
    obtain ⟨b,hb⟩:=h j List.mem_cons_self
    obtain ⟨ll,e,k⟩:=refs_at js fun j hj=>h j (List.mem_cons_of_mem _ hj)
    refine ⟨(j,b) :: ll,by rw [List.map_cons,e],fun p hp=>?_⟩
    rcases List.mem_cons.mp hp with z | hp
    · rw [z]; exact hb
    · exact k p hp
section
variable {K:Frag} {N:List Str} {sc:Scope} {ob:List OS} {c:Str} {fj:List (Str×Nat)} {a:Addr} {G H H0:Hp} {i0:Nat} {Γ0:Ow} {ks:List PK}
end
end Hr
end
section
namespace Hr
open PySem PySem.Spec L2
theorem fok_of {M : Wld} {x : Str} {params : Arguments} {body : List Stmt} {scope : Scope} {fd : FuncData} {N ps : List Str} {k : Nat} {t : OT} {b : S} (hBL : ∀ x ∈ BL, M.mg x = none) (g : M.mg x = some (.ref (He.ga M.K x)))
    (F:FunD M.K x x params body scope [] [] (He.ga M.K x) fd) (Sc:FnScope N ps scope)
    (hb:∀ (kV doc pm:Value) (an:Option Addr) (cdv ct:Value) (us:List Value),us.length=ps.length→bindArgs (PySem.W.fnOf x x params body scope .none kV doc pm an cdv ct) ⟨us,[]⟩=pure (ps.zip us))
    (hok:SOk (M.knL k [] (He.ga M.K x) x) b) (hc:chkS N scope b [] [] { t:=t } (.inr body)=true) (hd:wfO N scope []=true:=by decide +kernel):Fok M.P M.w M.K M.mg M.base x ps.length t (k + 1) (runS N.length t b) :=
  ⟨g,F.kp,fd,ps,F.bindsN hb,rfl,fn_ok hBL F Sc hok hc hd⟩
section
variable {M:Wld} {x qual c:Str} {params:Arguments} {body:List Stmt} {scope:Scope} {f:Addr} {fd:FuncData} {N ps:List Str} {k n:Nat} {t:OT} {b:S} {fj:List (Str×Nat)} {ob:List OS} {Γ0:Ow}
end
section
variable {M:Wld} {x qual c:Str} {params:Arguments} {body:List Stmt} {scope:Scope} {f:Addr} {fd:FuncData} {ps:List Str} {k:Nat} {t:OT} {b:S} {bd:BD}
end
def noT (H:Hp):Hp:=fun b=>match H b with
  | some o=>if isTb o=true then none else some o
  | none=>none
theorem noT_sub (H:Hp):Sub (noT H) H:=by
  constructor
  · intro b o z
    unfold noT at z
    split at z
    · rename_i o' e
      split at z
      · cases z
      · cases z; exact e
    · cases z
  · intro b o z
    unfold noT at z
    split at z
    · split at z
      · cases z
      · rename_i n; cases z; simpa using n
    · cases z
theorem noT_at {H:Hp} {b:Addr} {o:HO} (h:H b=some o) (n:isTb o=false):noT H b=some o:=by
  unfold noT
  rw [h]
  simp [n]
theorem law_end {K:Frag} {φ:List D→R D} {ns:List Int} {H:Hp} {a:Addr} (hl:ns.length≤63) (hT:∀ p∈tabC K,H p.2=some (.tbl #[])) (hS:SqL K H a (ns.map V.int)) (h:φ [.arr (ns.map D.int)]=.ok (.bl true)):spD K 1 .fz φ [.ref a] H (fun v _=>v=.bl true) fun _ _ _=>False:=by
  have rds:∀ ns:List Int,RDs K (noT H) (ns.map V.int) (ns.map D.int):=by
    intro ns
    induction ns with
    | nil=>exact .nil
    | cons n ns ih=>exact .cons (.int n) ih
  have hS':SqL K (noT H) a (ns.map V.int):=hS.imp (fun q=>q.imp (fun e=>noT_at e rfl) fun ⟨o,e⟩=>⟨o,noT_at e rfl⟩) id
  have tk:TK K H:=fun p hp=>by
    obtain ⟨c,hc⟩:=tabsK_C p hp
    exact LamX.TabS.nil (hT _ hc)
  refine ⟨[.arr (ns.map D.int)],noT H,noT_sub H,tk,.cons (.arr hS' (by rw [List.length_map]; have:=sizeLine_eq; omega) (rds ns)) .nil,rfl,?_⟩
  rw [h]
  intro v G' H' g n
  obtain ⟨fq,ow,_,_⟩:=n
  cases ow with
  | fz r=>exact r.bl_inv
end Hr
end
section
namespace Hr
open PySem PySem.Spec L2
structure FX where
  excs:List Str
  isa:List (Str×List (Str×Bool))
  exm:List (Str×List (Str×Bool))
  tup:List (Str×List D)
  lam:List ((Str×Option Str)×Str)
def cval (K:Frag) (c:Str):Value:=if c= "ValueError" then .type "ValueError" else clsV K c
def excCB (K:Frag) (C:Addr):Bool :=
  He.eqO (PySem.W.findIn K (.ref C) "__getattribute__") (some (some (.builtin "BaseException.__getattribute__"))) && (He.eqO (PySem.W.findIn K (.ref C) "__getattr__") (some none) &&
  (decide (PySem.W.subIn K (.ref C) (.type "BaseException")=some true) && (PySem.W.hasDictIn K C && (He.eqO (PySem.W.findIn K (.ref C) "__class__") (some (some (.builtin "object.__class__"))) &&
  (He.eqO (PySem.W.specialIn K (.builtin "object.__class__") "__get__") (some (some (.builtin "getset_descriptor.__get__"))) && (decide (PySem.W.takesIn K (.builtin "object.__class__")=some true) && decide (PySem.W.mroIn K C (.type "object")=some true)))))))
theorem excCB_ok {K:Frag} {C:Addr} (h:excCB K C=true):ExcC K C:=by
  unfold excCB at h
  obtain ⟨h1,h⟩:=and2 h
  obtain ⟨h2,h⟩:=and2 h
  obtain ⟨h3,h⟩:=and2 h
  obtain ⟨h4,h⟩:=and2 h
  obtain ⟨h5,h⟩:=and2 h
  obtain ⟨h6,h⟩:=and2 h
  obtain ⟨h7,h8⟩:=and2 h
  exact ⟨He.eqO_ok h1,He.eqO_ok h2,of_decide_eq_true h3,h4,He.eqO_ok h5,He.eqO_ok h6,of_decide_eq_true h7,of_decide_eq_true h8⟩
def conV:D→Value→Bool
  | .non,.none=>true
  | .bl b,.bool c=>b == c
  | .int i,.int j _=>decide (i=j)
  | .str x,.str y _=>decide (x=y) && (PyData.strOk x && decide (x.length≤sizeLine))
  | _,_=>false
def conVs:List D→List Value→Bool
  | [],[]=>true
  | d :: ds,v :: vs=>conV d v && conVs ds vs
  | _,_=>false
def tupB (K:Frag) (x:Str) (ds:List D):Bool:=match PySem.W.nsIn K mainGlobals x with
  | some (some (.ref a))=>(match K.lookup a with
    | some ⟨.type c,none,.seq its n,sl⟩=>decide (c= "tuple") && decide (its.size≤sizeLine) && conVs ds its.toList
    | _=>false)
  | _=>false
def lamB (K:Frag) (p:(Str×Option Str)×Str):Bool:=decide (p∈lamDefs) && (tabAd K (He.fAd K p.1)).isSome
def FX.ok (f:FX) (K:Frag):Bool :=
  (f.excs.all fun d=>excCB K (He.ga K d)) && ((f.isa.all fun p=>p.2.all fun q=>f.excs.contains q.1 && decide (PySem.W.kitOne K (clsV K q.1) (cval K p.1)=some q.2)) &&
  ((f.exm.all fun p=>p.2.all fun q=>decide (PySem.W.exmOne K (clsV K q.1) (clsV K p.1)=some q.2)) && ((f.tup.all fun p=>tupB K p.1 p.2) && f.lam.all fun p=>lamB K p)))
abbrev AlX:Type:=He.AlD×Bool
def tabsB (g:Addr→Option Obj) (K:Frag):Bool:=((tabC K).all fun p=>PySem.W.codeHdIn K p.1 p.2 && (match g p.2 with
  | some o=>He.emptyTab o
  | none=>false)) && decide ((tabsK K).map (·.1)).Nodup
structure SaysX (fa:List He.Fa) (fn:List He.DefD) (f:FX) (h:Heap) (K:Frag):Prop where
  d:He.SaysD fa fn K
  x:f.ok K=true
  hd:∀ p∈tabC K,PySem.W.codeHdIn K p.1 p.2=true
  nd:((tabsK K).map (·.1)).Nodup
  out:∀ p∈tabC K,K.lookup p.2=none
  empty:∀ p∈tabC K,h.get? p.2=some { cls:=.none,data:=.fields #[] }
def obsXG (n:Nat) (fa:List He.Fa) (fn:List He.DefD) (f:FX) (g:Addr→Option Obj):AlX:=(He.obsD fa fn (He.frT g (He.asD g n)),f.ok (He.frT g (He.asD g n)) && tabsB g (He.frT g (He.asD g n)))
theorem saysX_of {n:Nat} {fa:List He.Fa} {fn:List He.DefD} {f:FX} {h:Heap} (e:obsXG n fa fn f h.get?=(He.valD fn,true)):SaysX fa fn f h (He.frT h.get? (He.asD h.get? n)):=by
  have e1:He.obsD fa fn (He.frT h.get? (He.asD h.get? n))=He.valD fn:=congrArg (fun z:AlX=>z.1) e
  have e2:(f.ok (He.frT h.get? (He.asD h.get? n)) && tabsB h.get? (He.frT h.get? (He.asD h.get? n)))=true:=congrArg (fun z:AlX=>z.2) e
  obtain ⟨h1,h2⟩:=and2 e2
  obtain ⟨h2,h3⟩:=and2 h2
  have key:∀ p∈tabC (He.frT h.get? (He.asD h.get? n)),PySem.W.codeHdIn (He.frT h.get? (He.asD h.get? n)) p.1 p.2=true∧∃ o,h.get? p.2=some o∧He.emptyTab o=true:=fun p hp=>by
    obtain ⟨h3,h4⟩:=and2 (List.all_eq_true.mp h2 p hp)
    refine ⟨h3,?_⟩
    cases q:h.get? p.2 with
    | none=>rw [q] at h4; cases h4
    | some o=>rw [q] at h4; exact ⟨o,rfl,h4⟩
  exact ⟨e1,h1,fun p hp=>(key p hp).1,of_decide_eq_true h3,fun p hp=>(let ⟨_,_,q,z⟩:=key p hp; He.frT_none q z),fun p hp=>by
    obtain ⟨_,o,q,z⟩:=key p hp
    rw [q,He.emptyTab_eq z]⟩
def hookX (n:Nat) (fa:List He.Fa) (fn:List He.DefD) (f:FX):PySem.W.Hook where
  α:=AlX
  obs:=fun s=>obsXG n fa fn f s.heap.get?
  val:=fun _=>(He.valD fn,true)
  says:=fun _ h=>∃ K:Frag,K.In h∧SaysX fa fn f h K
  of:=fun _ _ e=>⟨_,He.frT_in,saysX_of e⟩
  keeps:=fun _ _ _ ⟨K,hK,c⟩ k=>⟨K,PySem.W.Frag.In.keeps hK k,⟨c.d,c.x,c.hd,c.nd,c.out,fun p hp=>k _ _ (c.empty p hp)⟩⟩
theorem obsXG_eq {n:Nat} {fa:List He.Fa} {fn:List He.DefD} {f:FX} {g:Addr→Option Obj} {s:Shared} (h:∀ a,g a=s.heap.get? a):obsXG n fa fn f g=(hookX n fa fn f).obs s:=by
  have e:g=s.heap.get?:=funext h
  rw [e] <;> rfl
section
variable {fa:List He.Fa} {fn:List He.DefD} {f:FX} {K:PySem.W.Frag} {h0:Heap}
theorem lookup_mem {α:Type}:∀ {l:List (Str×α)} {x:Str} {a:α},l.lookup x=some a→(x,a)∈l
  | [],_,_,h=>by cases h
  | (y,b) :: l,x,a,h=>by
    rw [List.lookup_cons] at h
    by_cases q:x=y
    · subst q
      rw [beq_self_eq_true] at h
      cases h
      exact List.mem_cons_self ..
    · rw [beq_eq_false_iff_ne.mpr q] at h
      exact List.mem_cons_of_mem _ (lookup_mem h)
theorem SaysX.isTb (c:SaysX fa fn f h0 K) {mg:Str→Option Value} {x:Str} {tb:List (Str×Bool)} (hm:(x,tb)∈f.isa) (h:mg x=some (clsV K x)∧x≠ "ValueError"∨(mg x=none∧x= "ValueError")):IsTb K mg x tb:=by
  have o:=c.x
  unfold FX.ok at o
  obtain ⟨o1,o⟩:=and2 o
  obtain ⟨o2,o⟩:=and2 o
  have ot:=List.all_eq_true.mp o2 _ hm
  have key:∀ d r,tb.lookup d=some r→ExcC K (He.ga K d)∧PySem.W.kitOne K (clsV K d) (cval K x)=some r:=fun d r hl=>by
    obtain ⟨k1,k2⟩:=and2 (List.all_eq_true.mp ot _ (lookup_mem hl))
    exact ⟨excCB_ok (List.all_eq_true.mp o1 d (List.contains_iff_mem.mp k1)),of_decide_eq_true k2⟩
  rcases h with ⟨h,hn⟩ | ⟨h,hx⟩
  · refine ⟨.ref (He.ga K x),clsV K x,.inl h,rfl,fun u r=>r,fun d r hl=>?_⟩
    have:=key d r hl
    unfold cval at this
    rw [if_neg hn] at this
    exact this
  · subst hx
    refine ⟨.ty "ValueError",.type "ValueError",.inr ⟨h,boot_ValueError,by decide⟩,rfl,fun u r=>r,fun d r hl=>?_⟩
    have:=key d r hl
    unfold cval at this
    rw [if_pos rfl] at this
    exact this
theorem SaysX.exm (c:SaysX fa fn f h0 K) {x:Str} {tb:List (Str×Bool)} (hm:(x,tb)∈f.exm):∀ d b,tb.lookup d=some b→PySem.W.exmOne K (clsV K d) (clsV K x)=some b:=fun d b hl=>by
  have o:=c.x
  unfold FX.ok at o
  obtain ⟨_,o⟩:=and2 o
  obtain ⟨_,o⟩:=and2 o
  obtain ⟨o3,_⟩:=and2 o
  exact of_decide_eq_true (List.all_eq_true.mp (List.all_eq_true.mp o3 _ hm) _ (lookup_mem hl))
end
def LawK (l:PySem.W.OpenLaw) (w:World) (K:Frag) (k n:Nat) (x:Str) (mg:Str→Option Value) (fa:Addr):Prop :=
  ∃ (fd:FuncData) (sp:Sp),(∀ (s:Shared) (u:Value),BindsTo s fd ⟨[u],[]⟩ [(x,u)]) ∧
    (∀ (H:Hp) (a:Addr) (ns:List Int),ns.length≤n→(∀ p∈tabC K,H p.2=some (.tbl #[]))→SqL K H a (ns.map V.int)→sp [.ref a] H (fun v _=>v=.bl true) fun _ _ _=>False) ∧
    ∀ base:Heap,K.In base→base.Ns mainGlobals mg→(∀ p∈tabC K,LamX.TabB base mg p.1 p.2)→FnOk l.prog w K mg base (L2.CX l.prog w) k fa fd [x] sp
theorem walk_ofH {l : PySem.W.OpenLaw} {n k : Nat} {q : Program} {loose : List Str} {XP : (Str → Option Value) → Heap → Prop} {nn : Nat} {fas : List He.Fa} {fn : List He.DefD} {fx : FX} {d : DefRec} {x : Str}
    (hn:l.most=some n) (hn2:n≤sizeLine) (hdf:d.params.defaults=[]) (hr:Room k callerA)
    (F:∀ (w:World) (mg:Str→Option Value) (fa:Addr) (h:Heap) (K:Frag),K.In h→SaysX fas fn fx h K→h.Ns mainGlobals mg→mg d.name=some (.ref fa)→LawK l w K k n x mg fa) :
    PySem.W.WalkO q loose XP (hookX nn fas fn fx).says l.row.toRowW d [] (fun f vs=>PySem.call f vs):=by
  refine LamX.walk_ofTsE (CX:=fun w=>L2.CX l.prog w) (x:=x) hn hn2 hdf hr (fun w mg fa h Y G hmg=>?_) fun w H s e s' ⟨_,_,_,_,_,_,_,_,_,_,_,_,z⟩=>z
  obtain ⟨K,KX,c⟩:=Y
  obtain ⟨fd,sp,hb,hsp,hF⟩:=F w mg fa h K KX c G hmg
  exact ⟨K,KX,fd,tabC K,sp,c.empty,c.out,fun p hp=>PySem.W.codeHd_of_K KX (c.hd p hp),hb,fun H a ns hl _ hT hS=>hsp H a ns hl hT hS,hF⟩
def isFree (x:Str):He.Fa→Bool
  | .free y=>decide (y=x)
  | _=>false
theorem free_in {fa:List He.Fa} {x:Str} (h:(BL.all fun x=>fa.any (isFree x))=true) (hx:x∈BL):He.Fa.free x∈fa:=by
  obtain ⟨f,hf,e⟩:=List.any_eq_true.mp (List.all_eq_true.mp h x hx)
  cases f with
  | free y=>rw [← of_decide_eq_true (show decide (y=x)=true from e)]; exact hf
  | _=>cases e
end Hr
end
section
namespace Hr
open PySem PySem.Spec L2
def Out.thn (r:Out) (k:En→Out):Out:=match r with
  | .nx s'=>k s'
  | r=>r
def iteS (k:Bool) (f g:En→Out) (s:En):Out:=if k then f s else g s
def iteV {α:Type} (k:Bool) (f g:En→R α) (s:En):R α:=if k then f s else g s
@[simp] theorem thn_nx (s:En) (k:En→Out):(Out.nx s).thn k=k s:=rfl
@[simp] theorem thn_rt (d:D) (k:En→Out):(Out.rt d).thn k=.rt d:=rfl
@[simp] theorem thn_ex (c:Str) (s:En) (k:En→Out):(Out.ex c s).thn k=.ex c s:=rfl
@[simp] theorem thn_bk (s:En) (k:En→Out):(Out.bk s).thn k=.bk s:=rfl
@[simp] theorem thn_ct (s:En) (k:En→Out):(Out.ct s).thn k=.ct s:=rfl
@[simp] theorem thn_rm (d:D) (s:En) (k:En→Out):(Out.rm d s).thn k=.rm d s:=rfl
@[simp] theorem thn_stuck (k:En→Out):(Out.stuck).thn k=.stuck:=rfl
@[simp] theorem iteS_t (f g:En→Out) (s:En):iteS true f g s=f s:=rfl
@[simp] theorem iteS_f (f g:En→Out) (s:En):iteS false f g s=g s:=rfl
@[simp] theorem iteV_t {α:Type} (f g:En→R α) (s:En):iteV true f g s=f s:=rfl
@[simp] theorem iteV_f {α:Type} (f g:En→R α) (s:En):iteV false f g s=g s:=rfl
@[simp] theorem go_ok {α:Type} (a:α) (s:En) (k:α→Out):(R.ok a).go s k=k a:=rfl
@[simp] theorem go_exc {α:Type} (c:Str) (s:En) (k:α→Out):(R.exc c:R α).go s k=.ex c s:=rfl
@[simp] theorem go_stuck {α:Type} (s:En) (k:α→Out):(R.stuck:R α).go s k=.stuck:=rfl
@[simp] theorem outO_some (s:En):outO (some s)=.nx s:=rfl
@[simp] theorem nox_ok {α:Type} (a:α):(R.ok a).nox=.ok a:=rfl
@[simp] theorem dS_asg (vs:List Nat) (tg:TG) (e:T) (s:En):dS (.asg vs tg e) s=((den e).v s).go s fun d=>outO ((tgd tg).f d s):=rfl
@[simp] theorem dS_own (i:Nat) (t:OT) (e:T) (s:En):dS (.own i t e) s=((den e).v s).go s fun d=>outO (ftName i d s):=rfl
@[simp] theorem dS_app (i:Nat) (e:T) (s:En):dS (.app i e) s=optO (lstAt s i) fun ds=>((den e).v s).go s fun d=>if ds.length < sizeLine then .nx (s.set i (some (.lst (ds ++ [d])))) else .stuck:=rfl
@[simp] theorem dS_ext (i:Nat) (e:T) (s:En):dS (.ext i e) s=sExt i (den e).v s:=rfl
@[simp] theorem dS_put (i:Nat) (k e:T) (s:En):dS (.put i k e) s=((den e).v s).go s fun d=>optO (dicAt s i) fun q=>((den k).v s).go s fun dk=>optO (keyOf q.1 dk) fun k=>if q.2.2.length < sizeLine then .nx (s.set i (some (.dic q.1 (putD q.2.1 q.2.2 k d).1 (putD q.2.1 q.2.2 k d).2))) else .stuck:=rfl
@[simp] theorem v_dict (a:T) (s:En):(den (.dict a)).v s=(den a).v s >>= dDict:=rfl
@[simp] theorem v_lnd (i:Nat) (t:OT) (e:T) (s:En):(den (.lnd i t e)).v s=(den e).v s >>= fun d=>if okRes t d=true then .ok d else .stuck:=rfl
@[simp] theorem isDicT_d (t:Bool) (ks:List (List Key)) (ds:List D):isDicT (.dic t ks ds)=.ok (t,ks,ds):=rfl
@[simp] theorem v_fst (c:Str) (a b:T) (s:En):(den (.fst c a b)).v s=eFst c (den a).v (den b).v s:=rfl
@[simp] theorem dS_ret (e:T) (s:En):dS (.ret e) s=((den e).v s).go s .rt:=rfl
@[simp] theorem dS_ite (c:T) (a b:S) (s:En):dS (.ite c a b) s=((den c).t s).go s fun k=>iteS k (dS a) (dS b) s:=rfl
@[simp] theorem dS_vc (i:Nat) (vs:List Nat) (tg:TG) (it k:T) (s:En):dS (.vc i vs tg it k) s=sVc i (tgd tg).f (den it).l (den k).v s:=rfl
@[simp] theorem dS_bk (i j:Nat) (vs:List Nat) (tg:TG) (it k v:T) (b:S) (s:En):dS (.bk i j vs tg it k v b) s=sBk i j (tgd tg).f (den it).l (den k).v (den v).v (dS b) s:=rfl
@[simp] theorem v_bkG (i j:Nat) (e:T) (s:En):(den (.bkG i j e)).v s=(den e).v s >>= fun d=>bkG (bkAt s j) d:=rfl
@[simp] theorem t_bkN (i j:Nat) (e:T) (s:En):(den (.bkN i j e)).t s=(den e).v s >>= fun d=>bkN (bkAt s j) d:=rfl
@[simp] theorem l_bkI (i j:Nat) (s:En):(den (.bkI i j)).l s=eBkI j s:=rfl
@[simp] theorem dS_fr (vs:List Nat) (tg:TG) (it:T) (b:S) (s:En):dS (.fr vs tg it b) s=((den it).l s).go s fun ds=>forD (tgd tg).f (dS b) ds s:=rfl
@[simp] theorem act_adr (f:Nat) (r:R D) (s:En):eAct 0 f r (some (.adr f) :: s)=r:=if_pos rfl
def tryrO (i m:Nat) (tbl:List (Str×Bool)) (hv:Str→Option Str) (s:En):R D→Out
  | .ok d=>.rt d
  | .exc c=>(match tbl.lookup c with
    | some true=>(match hv c with
      | some z=>if i < s.length∧m < s.length then .rt (.str z) else .stuck
      | none=>.stuck)
    | some false=>.ex c s
    | none=>.stuck)
  | .stuck=>.stuck
def tryR (i m n:Nat) (tbl:List (Str×Bool)) (hv:Str→Option Str):R D→R D
  | .ok d=>.ok d
  | .exc c=>(match tbl.lookup c with
    | some true=>(match hv c with
      | some z=>if i < n∧m < n then .ok (.str z) else .stuck
      | none=>.stuck)
    | some false=>.exc c
    | none=>.stuck)
  | .stuck=>.stuck
@[simp] theorem leave_tryr (t:OT) (i m:Nat) (tbl:List (Str×Bool)) (hv:Str→Option Str) (s:En) (r:R D) (k:En→Out):leave t ((tryrO i m tbl hv s r).thn k)=tryR i m s.length tbl hv r:=by
  unfold tryrO tryR
  cases r with
  | ok d=>rfl
  | stuck=>rfl
  | exc c =>
    dsimp only
    cases tbl.lookup c with
    | none=>rfl
    | some b=>cases b with
      | false=>rfl
      | true =>
        dsimp only
        cases hv c with
        | none=>rfl
        | some z =>
          dsimp only
          by_cases h:i < s.length∧m < s.length
          · rw [if_pos h,if_pos h]; rfl
          · rw [if_neg h,if_neg h]; rfl
@[simp] theorem dS_brk (s:En):dS .brk s=.bk s:=rfl
@[simp] theorem dS_cnt (s:En):dS .cnt s=.ct s:=rfl
@[simp] theorem dS_pas (s:En):dS .pas s=.nx s:=rfl
@[simp] theorem dS_nil (s:En):dS .nil s=.nx s:=rfl
@[simp] theorem dS_seq (Γ:Ow) (a b:S) (s:En):dS (.seq Γ a b) s=(dS a s).thn (dS b):=rfl
@[simp] theorem dS_wk (Γ:Ow) (b:S) (s:En):dS (.wk Γ b) s=dS b s:=rfl
@[simp] theorem tg_nm (i:Nat) (d:D) (s:En):(tgd (.nm i)).f d s=ftName i d s:=rfl
@[simp] theorem tg_tp (l:TG) (ds:List D) (s:En):(tgd (.tp l)).f (.tup ds) s=(tgd l).l ds s:=rfl
@[simp] theorem tg_nil (s:En):(tgd .nil).l [] s=some s:=rfl
@[simp] theorem tg_cons (a l:TG) (d:D) (ds:List D) (s:En):(tgd (.cons a l)).l (d :: ds) s=((tgd a).f d s).bind fun s'=>(tgd l).l ds s':=rfl
@[simp] theorem v_var (i:Nat) (s:En):(den (.var i)).v s=eVar i s:=rfl
@[simp] theorem v_con (d:D) (s:En):(den (.con d)).v s=.ok d:=rfl
@[simp] theorem v_glo (x:Str) (d:D) (s:En):(den (.glo x d)).v s=.ok d:=rfl
@[simp] theorem v_neg (a:T) (s:En):(den (.neg a)).v s=(den a).v s >>= dNeg:=rfl
@[simp] theorem v_bin (op:Operator) (a b:T) (s:En):(den (.bin op a b)).v s=(den a).v s >>= fun x=>(den b).v s >>= fun y=>dBin op x y:=rfl
@[simp] theorem v_cmp (op:CmpOp) (a b:T) (s:En):(den (.cmp op a b)).v s=((den a).v s >>= fun x=>(den b).v s >>= fun y=>dCmp op x y) >>= fun b=>.ok (.bl b):=rfl
@[simp] theorem v_and (a b:T) (s:En):(den (.and a b)).v s=(den a).v s >>= fun x=>dTru x >>= fun k=>iteV k (den b).v (fun _=>.ok x) s:=rfl
@[simp] theorem v_or (a b:T) (s:En):(den (.or a b)).v s=(den a).v s >>= fun x=>dTru x >>= fun k=>iteV k (fun _=>.ok x) (den b).v s:=rfl
@[simp] theorem v_not (a:T) (s:En):(den (.not a)).v s=(den a).v s >>= fun x=>dTru x >>= fun k=>.ok (.bl (!k)):=rfl
@[simp] theorem v_one (a:T) (s:En):(den (.one a)).v s=(den a).v s:=rfl
@[simp] theorem v_tup (l:T) (s:En):(den (.tup l)).v s=(den l).l s >>= fun ds=>if ds.length≤sizeLine then .ok (.tup ds) else .stuck:=rfl
@[simp] theorem v_lst (l:T) (s:En):(den (.lst l)).v s=(den l).l s >>= fun ds=>if ds.length≤sizeLine then .ok (.lst ds) else .stuck:=rfl
@[simp] theorem v_sub (a b:T) (s:En):(den (.sub a b)).v s=(den a).v s >>= fun x=>(den b).v s >>= fun y=>dSub2 x y:=rfl
@[simp] theorem v_sli (a lo hi:T) (s:En):(den (.sli a lo hi)).v s=(den a).v s >>= fun x=>(den lo).p s >>= fun l=>(den hi).p s >>= fun h=>dSl x l h:=rfl
@[simp] theorem v_call (x:Str) (n:Nat) (t:OT) (k:Nat) (φ:List D→R D) (l:T) (s:En):(den (.call x n t k φ l)).v s=(den l).l s >>= fun ds=>if ds.length=n then φ ds else .stuck:=rfl
@[simp] theorem v_bi (b:BI) (l:T) (s:En):(den (.bi b l)).v s=(den l).l s >>= biF b:=rfl
@[simp] theorem v_isi (t:String) (a:T) (s:En):(den (.isi t a)).v s=(den a).v s >>= fun d=>isTy t d >>= fun b=>.ok (.bl b):=rfl
@[simp] theorem v_idx (a b:T) (s:En):(den (.idx a b)).v s=(den a).v s >>= fun x=>asL x >>= fun ds=>(den b).v s >>= fun y=>dIndex ds y:=rfl
@[simp] theorem v_cnt (a b:T) (s:En):(den (.cnt a b)).v s=(den a).v s >>= fun x=>asL x >>= fun ds=>(den b).v s >>= fun y=>dCount ds y:=rfl
@[simp] theorem v_join (a b:T) (s:En):(den (.join a b)).v s=(den a).v s >>= fun x=>isStr x >>= fun a=>(den b).v s >>= fun y=>dJoin (.str a) y:=rfl
@[simp] theorem v_lc (own:List (Str×Nat)) (elt:T) (tg:TG) (it ifs:T) (s:En):(den (.lc own elt tg it ifs)).v s=(den it).l s >>= fun ds=>lcA (lcT (tgd tg).f (den ifs).t (den elt).v (wipeE s (own.map (·.2)))) ds [] >>= fun out=>.ok (.lst out):=rfl
@[simp] theorem v_dnew (t:Bool) (s:En):(den (.dnew t)).v s=.ok (.dic t [] []):=rfl
@[simp] theorem t_cmp (op:CmpOp) (a b:T) (s:En):(den (.cmp op a b)).t s=(den a).v s >>= fun x=>(den b).v s >>= fun y=>dCmp op x y:=rfl
@[simp] theorem t_and (a b:T) (s:En):(den (.and a b)).t s=(den a).t s >>= fun k=>iteV k (den b).t (fun _=>.ok false) s:=rfl
@[simp] theorem t_or (a b:T) (s:En):(den (.or a b)).t s=(den a).t s >>= fun k=>iteV k (fun _=>.ok true) (den b).t s:=rfl
@[simp] theorem t_not (a:T) (s:En):(den (.not a)).t s=(den a).t s >>= fun k=>.ok (!k):=rfl
@[simp] theorem t_one (a:T) (s:En):(den (.one a)).t s=(den a).t s:=rfl
@[simp] theorem t_no (s:En):(den .no).t s=.ok true:=rfl
@[simp] theorem t_var (i:Nat) (s:En):(den (.var i)).t s=eVar i s >>= dTru:=rfl
@[simp] theorem t_con (d:D) (s:En):(den (.con d)).t s=dTru d:=rfl
@[simp] theorem t_sub (a b:T) (s:En):(den (.sub a b)).t s=(den (.sub a b)).v s >>= dTru:=rfl
@[simp] theorem t_call (x:Str) (n:Nat) (t:OT) (k:Nat) (φ:List D→R D) (l:T) (s:En):(den (.call x n t k φ l)).t s=(den (.call x n t k φ l)).v s >>= dTru:=rfl
@[simp] theorem t_bi (b:BI) (l:T) (s:En):(den (.bi b l)).t s=(den (.bi b l)).v s >>= dTru:=rfl
@[simp] theorem t_isi (c:String) (a:T) (s:En):(den (.isi c a)).t s=(den (.isi c a)).v s >>= dTru:=rfl
@[simp] theorem l_nil (s:En):(den .nil).l s=.ok []:=rfl
@[simp] theorem l_cons (a l:T) (s:En):(den (.cons a l)).l s=(den a).v s >>= fun x=>(den l).l s >>= fun xs=>.ok (x :: xs):=rfl
@[simp] theorem l_itI (a:T) (s:En):(den (.itI a)).l s=(den a).v s >>= dItems:=rfl
@[simp] theorem l_itR1 (l:T) (s:En):(den (.itR1 l)).l s=eRng1 (den l).l s:=rfl
@[simp] theorem l_itE (l:T) (s:En):(den (.itE l)).l s=eEnum (den l).l s:=rfl
@[simp] theorem l_itZ (l:T) (s:En):(den (.itZ l)).l s=eZip (den l).l s:=rfl
def rngA:List D→R (List D):=fun ds=>match ds with
  | [.int j]=>if -(2 ^ 62)≤j∧j≤16777216 then .ok (rngD 0 j.toNat) else .stuck
  | _=>.stuck
def rngB:List D→R (List D):=fun ds=>match ds with
  | [.int i,.int j]=>if (-(2 ^ 62)≤i∧i < 2 ^ 62∧ -(2 ^ 62)≤j∧j < 2 ^ 62)∧j - i≤16777216 then .ok (rngD i (j - i).toNat) else .stuck
  | _=>.stuck
def enumA:List D→R (List D):=fun ds=>match ds with
  | [d]=>dItems d >>= fun xs=>.ok (enumL xs)
  | _=>.stuck
def zipA:List D→R (List D):=fun ds=>match ds with
  | [d,e]=>dItems d >>= fun xs=>dItems e >>= fun ys=>.ok (zipL xs ys)
  | _=>.stuck
@[simp] theorem p_no (s:En):(den .no).p s=.ok none:=rfl
@[simp] theorem p_var (i:Nat) (s:En):(den (.var i)).p s=ePart (some (den (.var i)).v) s:=rfl
@[simp] theorem p_con (d:D) (s:En):(den (.con d)).p s=ePart (some (den (.con d)).v) s:=rfl
@[simp] theorem p_bin (op:Operator) (a b:T) (s:En):(den (.bin op a b)).p s=ePart (some (den (.bin op a b)).v) s:=rfl
@[simp] theorem p_call (x:Str) (n:Nat) (t:OT) (k:Nat) (φ:List D→R D) (l:T) (s:En):(den (.call x n t k φ l)).p s=ePart (some (den (.call x n t k φ l)).v) s:=rfl
@[simp] theorem p_neg (a:T) (s:En):(den (.neg a)).p s=ePart (some (den (.neg a)).v) s:=rfl
def asP:D→R (Option Int)
  | .int i=>.ok (some i)
  | _=>.stuck
@[simp] theorem part_s (f:En→R D) (s:En):ePart (some f) s=f s >>= asP:=rfl
@[simp] theorem asP_i (i:Int):asP (.int i)=.ok (some i):=rfl
@[simp] theorem rng1_eq (fs:En→R (List D)) (s:En):eRng1 fs s=fs s >>= rngA:=rfl
@[simp] theorem rng2_eq (fs:En→R (List D)) (s:En):eRng2 fs s=fs s >>= rngB:=rfl
theorem rngA_nat {n:Nat} (h:n≤16777216):rngA [.int (n:Int)]=.ok ((List.range n).map fun i:Nat=>.int (i:Int)):=by
  show (if _ then _ else _)=_
  rw [if_pos (by omega)]
  unfold rngD
  simp
@[simp] theorem enum_eq (fs:En→R (List D)) (s:En):eEnum fs s=fs s >>= enumA:=rfl
@[simp] theorem enumA_l (ds:List D):enumA [.lst ds]=.ok (enumL ds):=rfl
@[simp] theorem enumA_t (ds:List D):enumA [.tup ds]=.ok (enumL ds):=rfl
def enumZA (ds:List D):R (List D):=match ds with
  | [d,e]=>dItems d >>= fun xs=>dItems e >>= fun ys=>.ok (enumL (zipL xs ys))
  | _=>.stuck
@[simp] theorem enumZ_eq (fs:En→R (List D)) (s:En):eEnumZ fs s=fs s >>= enumZA:=rfl
@[simp] theorem enumZA_tt (ds es:List D):enumZA [.tup ds,.tup es]=.ok (enumL (zipL ds es)):=rfl
@[simp] theorem zip_eq (fs:En→R (List D)) (s:En):eZip fs s=fs s >>= zipA:=rfl
@[simp] theorem zipA_tt (ds es:List D):zipA [.tup ds,.tup es]=.ok (zipL ds es):=rfl
theorem enumL_map {α:Type} (f:α→D) (xs:List α):enumL (xs.map f)=xs.zipIdx.map fun p=>.tup [.int (p.2:Nat),f p.1]:=by
  unfold enumL
  rw [List.zipIdx_map,List.map_map]
  rfl
theorem zipL_map {α β:Type} (f:α→D) (g:β→D) (xs:List α) (ys:List β):zipL (xs.map f) (ys.map g)=(xs.zip ys).map fun p=>.tup [f p.1,g p.2]:=by
  unfold zipL
  rw [List.zipWith_map,List.zip,List.map_zipWith]
@[simp] theorem b_add (a b:D):dBin .Add a b=dAdd a b:=rfl
@[simp] theorem b_sub (a b:D):dBin .Sub a b=dSub a b:=rfl
@[simp] theorem b_mul (a b:D):dBin .Mult a b=dMul a b:=rfl
@[simp] theorem b_mod (a b:D):dBin .Mod a b=dMod a b:=rfl
@[simp] theorem b_div (a b:D):dBin .FloorDiv a b=dDiv a b:=rfl
@[simp] theorem b_pow (a b:D):dBin .Pow a b=dPow a b:=rfl
@[simp] theorem add_i (i j:Int):dAdd (.int i) (.int j)=.ok (.int (i + j)):=rfl
@[simp] theorem sub_i (i j:Int):dSub (.int i) (.int j)=.ok (.int (i - j)):=rfl
@[simp] theorem neg_i (i:Int):dNeg (.int i)=.ok (.int (-i)):=rfl
theorem mul_r {i j:Int} (h:nrw j=true):dMul (.int i) (.int j)=.ok (.int (i * j)):=by show (if (nrw i || nrw j)=true then _ else _)=_; rw [h,Bool.or_true]; rfl
theorem mul_l {i j:Int} (h:nrw i=true):dMul (.int i) (.int j)=.ok (.int (i * j)):=by show (if (nrw i || nrw j)=true then _ else _)=_; rw [h,Bool.true_or]; rfl
theorem mod_i {i j:Int} (h:0 < j):dMod (.int i) (.int j)=.ok (.int (i % j)):=by show (if 0 < j then _ else _)=_; rw [if_pos h]
theorem div_i {i j:Int} (h:0 < j) (h2:j < 1073741824):dDiv (.int i) (.int j)=.ok (.int (i / j)):=by show (if 0 < j∧j < 18446744073709551616 then _ else _)=_; rw [if_pos ⟨h,by omega⟩]
@[simp] theorem c_lt (a b:D):dCmp .Lt a b=dLt a b:=rfl
@[simp] theorem c_le (a b:D):dCmp .LtE a b=dLe a b:=rfl
@[simp] theorem c_gt (a b:D):dCmp .Gt a b=dLt b a:=rfl
@[simp] theorem c_ge (a b:D):dCmp .GtE a b=dLe b a:=rfl
@[simp] theorem c_eq (a b:D):dCmp .Eq a b=dEq a b:=rfl
@[simp] theorem c_ne (a b:D):dCmp .NotEq a b=dEq a b >>= fun c=>.ok (!c):=rfl
@[simp] theorem c_in (a b:D):dCmp .In a b=dIn a b:=rfl
@[simp] theorem c_ni (a b:D):dCmp .NotIn a b=dIn a b >>= fun c=>.ok (!c):=rfl
@[simp] theorem c_is (a b:D):dCmp .Is a b=dIs a b:=rfl
@[simp] theorem c_isn (a b:D):dCmp .IsNot a b=dIs a b >>= fun c=>.ok (!c):=rfl
@[simp] theorem lt_i (i j:Int):dLt (.int i) (.int j)=.ok (decide (i < j)):=rfl
@[simp] theorem le_i (i j:Int):dLe (.int i) (.int j)=.ok (decide (i≤j)):=rfl
@[simp] theorem is_n (x:D):dIs x .non=.ok x.isN:=rfl
@[simp] theorem tru_b (b:Bool):dTru (.bl b)=.ok b:=rfl
@[simp] theorem len_t (ds:List D):biF .len [.tup ds]=.ok (.int ds.length):=rfl
@[simp] theorem len_l (ds:List D):biF .len [.lst ds]=.ok (.int ds.length):=rfl
@[simp] theorem len_a (ds:List D):biF .len [.arr ds]=.ok (.int ds.length):=rfl
@[simp] theorem tuple_l (ds:List D):biF .tuple [.lst ds]=.ok (.tup ds):=rfl
@[simp] theorem items_l (ds:List D):dItems (.lst ds)=.ok ds:=rfl
@[simp] theorem items_t (ds:List D):dItems (.tup ds)=.ok ds:=rfl
@[simp] theorem asL_l (ds:List D):asL (.lst ds)=.ok ds:=rfl
theorem atI_nat {α:Type} {xs:List α} {k:Nat} {x:α} (h:xs[k]?=some x):L2.atI xs (k:Int)=some x:=by
  have hk:=(List.getElem?_eq_some_iff.mp h).1
  unfold L2.atI L2.ixN
  rw [if_pos (by omega),if_pos (by omega)]
  simpa using h
theorem sub_l {xs:List D} {k:Nat} {x:D} (h:xs[k]?=some x):dSub2 (.lst xs) (.int (k:Int))=.ok x:=by
  show R.of (L2.atI xs _)=_
  rw [atI_nat h]; rfl
theorem sub_t {xs:List D} {k:Nat} {x:D} (h:xs[k]?=some x):dSub2 (.tup xs) (.int (k:Int))=.ok x:=by
  show R.of (L2.atI xs _)=_
  rw [atI_nat h]; rfl
theorem sub_a {xs:List D} {k:Nat} {x:D} (h:xs[k]?=some x):dSub2 (.arr xs) (.int (k:Int))=.ok x:=by
  show R.of (L2.atI xs _)=_
  rw [atI_nat h]; rfl
@[simp] theorem sub_t0 (a:D) (xs:List D):dSub2 (.tup (a :: xs)) (.int 0)=.ok a:=sub_t (k:=0) rfl
@[simp] theorem sub_t1 (a b:D) (xs:List D):dSub2 (.tup (a :: b :: xs)) (.int 1)=.ok b:=sub_t (k:=1) rfl
@[simp] theorem sub_t2 (a b c:D) (xs:List D):dSub2 (.tup (a :: b :: c :: xs)) (.int 2)=.ok c:=sub_t (k:=2) rfl
@[simp] theorem sub_t3 (a b c d:D) (xs:List D):dSub2 (.tup (a :: b :: c :: d :: xs)) (.int 3)=.ok d:=sub_t (k:=3) rfl
@[simp] theorem sub_l0 (a:D) (xs:List D):dSub2 (.lst (a :: xs)) (.int 0)=.ok a:=sub_l (k:=0) rfl
@[simp] theorem sub_l1 (a b:D) (xs:List D):dSub2 (.lst (a :: b :: xs)) (.int 1)=.ok b:=sub_l (k:=1) rfl
@[simp] theorem sub_l2 (a b c:D) (xs:List D):dSub2 (.lst (a :: b :: c :: xs)) (.int 2)=.ok c:=sub_l (k:=2) rfl
@[simp] theorem sub_l3 (a b c d:D) (xs:List D):dSub2 (.lst (a :: b :: c :: d :: xs)) (.int 3)=.ok d:=sub_l (k:=3) rfl
@[simp] theorem sub_l4 (a b c d e:D) (xs:List D):dSub2 (.lst (a :: b :: c :: d :: e :: xs)) (.int 4)=.ok e:=sub_l (k:=4) rfl
@[simp] theorem sub_l5 (a b c d e f:D) (xs:List D):dSub2 (.lst (a :: b :: c :: d :: e :: f :: xs)) (.int 5)=.ok f:=sub_l (k:=5) rfl
@[simp] theorem sub_l6 (a b c d e f g:D) (xs:List D):dSub2 (.lst (a :: b :: c :: d :: e :: f :: g :: xs)) (.int 6)=.ok g:=sub_l (k:=6) rfl
@[simp] theorem eq_s (x y:Str):dEq (.str x) (.str y)=.ok (x == y):=rfl
@[simp] theorem eq_i (i j:Int):dEq (.int i) (.int j)=.ok (i == j):=rfl
@[simp] theorem eq_is (i:Int) (y:Str):dEq (.int i) (.str y)=.ok false:=rfl
@[simp] theorem eq_si (i:Int) (y:Str):dEq (.str y) (.int i)=.ok false:=rfl
@[simp] theorem eq_ni (i:Int):dEq .non (.int i)=.ok false:=rfl
@[simp] theorem isN_n:D.isN .non=true:=rfl
@[simp] theorem isN_i (i:Int):(D.int i).isN=false:=rfl
@[simp] theorem isN_s (x:Str):(D.str x).isN=false:=rfl
@[simp] theorem isN_t (ds:List D):(D.tup ds).isN=false:=rfl
@[simp] theorem isN_l (ds:List D):(D.lst ds).isN=false:=rfl
@[simp] theorem isN_x (c:Str):(D.exc c).isN=false:=rfl
@[simp] theorem enter_eq (n:Nat) (ds:List D):enter n ds=ds.map some ++ List.replicate (n - ds.length) none:=rfl
@[simp] theorem leave_rt (t:OT) (d:D):leave t (.rt d)=.ok d:=rfl
@[simp] theorem leave_ex (t:OT) (c:Str) (s:En):leave t (.ex c s)=.exc c:=rfl
@[simp] theorem leave_nx (s:En):leave .fz (.nx s)=.ok .non:=rfl
theorem lcA_over {α:Type} {f:α→D} {t:D→R (Option D)} {g:α→Option D} {xs:List α} (h:∀ a∈xs,t (f a)=.ok (g a)):lcA t (xs.map f) []=.ok (xs.filterMap g):=by
  have key:∀ (xs:List α) (acc:List D),(∀ a∈xs,t (f a)=.ok (g a))→lcA t (xs.map f) acc=.ok (acc ++ xs.filterMap g):=by
    intro xs
    induction xs with
    | nil=>intro acc _; simp [lcA]
    | cons a xs ih =>
      intro acc h
      have e:lcA t (f a :: xs.map f) acc=t (f a) >>= fun o=>lcA t (xs.map f) (acc ++ o.toList):=rfl
      rw [List.map_cons,e,h a (List.mem_cons_self ..),R.ok_bind,ih _ fun x m=>h x (List.mem_cons_of_mem _ m)]
      cases q:g a with
      | none=>simp [q]
      | some y=>simp [q]
  have:=key xs [] h
  simpa using this
theorem forD_inv {α : Type} {f : α → D} {ft : FT} {body : En → Out} (I : List α → En → Prop) {xs : List α} {s : En} (h0 : I [] s)
    (step:∀ (pre:List α) (a:α) (post:List α) (s:En),xs=pre ++ a :: post→I pre s→∃ s1 s2,ft (f a) s=some s1∧(body s1=.nx s2∨body s1=.ct s2)∧I (pre ++ [a]) s2) :
    ∃ s',forD ft body (xs.map f) s=.nx s'∧I xs s':=by
  have key:∀ (post pre:List α) (s:En),xs=pre ++ post→I pre s→∃ s',forD ft body (post.map f) s=.nx s'∧I xs s':=by
    intro post
    induction post with
    | nil =>
      intro pre s e i
      rw [List.append_nil] at e
      subst e
      exact ⟨s,rfl,i⟩
    | cons a post ih =>
      intro pre s e i
      obtain ⟨s1,s2,h1,h2,h3⟩:=step pre a post s e i
      obtain ⟨s',h4,h5⟩:=ih (pre ++ [a]) s2 (by rw [e,List.append_assoc]; rfl) h3
      refine ⟨s',?_,h5⟩
      show (match ft (f a) s with | none=>Out.stuck | some s1=>_)=_
      rw [h1]
      dsimp only
      rcases h2 with h2 | h2 <;> rw [h2] <;> exact h4
  exact key xs [] s rfl h0
theorem lcA_ex {α β : Type} {f : α → D} {e : β → D} {t : D → R (Option D)} {P : α → β → Prop} {xs : List α} (h : ∀ a ∈ xs, ∃ y, t (f a) = .ok (some (e y)) ∧ P a y) :
    ∃ ys:List β,lcA t (xs.map f) []=.ok (ys.map e)∧ys.length=xs.length∧∀ (i:Nat) (a:α) (y:β),xs[i]?=some a→ys[i]?=some y→P a y:=by
  have key:∀ (xs:List α) (acc:List D),(∀ a∈xs,∃ y,t (f a)=.ok (some (e y))∧P a y)→∃ ys:List β,lcA t (xs.map f) acc=.ok (acc ++ ys.map e)∧ys.length=xs.length∧∀ (i:Nat) (a:α) (y:β),xs[i]?=some a→ys[i]?=some y→P a y:=by
    intro xs
    induction xs with
    | nil=>intro acc _; exact ⟨[],by simp [lcA],rfl,fun i a y h=>by simp at h⟩
    | cons a xs ih =>
      intro acc h
      obtain ⟨y,hy,hp⟩:=h a (List.mem_cons_self ..)
      obtain ⟨ys,h1,h2,h3⟩:=ih (acc ++ [e y]) fun x m=>h x (List.mem_cons_of_mem _ m)
      refine ⟨y :: ys,?_,by simp [h2],fun i a' y' e1 e2=>?_⟩
      · have e1:lcA t (f a :: xs.map f) acc=t (f a) >>= fun o=>lcA t (xs.map f) (acc ++ o.toList):=rfl
        rw [List.map_cons,e1,hy,R.ok_bind]
        show lcA t (xs.map f) (acc ++ [e y])=_
        rw [h1]
        simp
      · cases i with
        | zero =>
          simp at e1 e2
          subst e1 e2
          exact hp
        | succ i=>exact h3 i a' y' (by simpa using e1) (by simpa using e2)
  have:=key xs [] h
  simpa using this
def turnD (ft:FT) (body:En→Out) (d:D) (s:En):Out:=(outO (ft d s)).thn body
theorem forD_run {α : Type} {f : α → D} {ft : FT} {body : En → Out} {I : List α → En → Prop} {xs : List α} {s : En} (h0 : I [] s)
    (step:∀ (pre:List α) (a:α) (post:List α) (s:En),xs=pre ++ a :: post→I pre s→∃ s2,turnD ft body (f a) s=.nx s2∧I (pre ++ [a]) s2) :
    ∃ s',forD ft body (xs.map f) s=.nx s'∧I xs s' :=
  forD_inv I h0 fun pre a post s e i=>by
    obtain ⟨s2,h1,h2⟩:=step pre a post s e i
    unfold turnD at h1
    cases q:ft (f a) s with
    | none=>rw [q] at h1; cases h1
    | some s1=>rw [q] at h1; exact ⟨s1,s2,rfl,.inl h1,h2⟩
@[simp] theorem v_lcd (own:List (Str×Nat)) (elt:T) (tg:TG) (i:Nat) (ifs:T) (s:En):(den (.lcd own elt tg i ifs)).v s=eKeys i s >>= fun ds=>lcA (lcT (tgd tg).f (den ifs).t (den elt).v (wipeE s (own.map (·.2)))) ds [] >>= fun out=>.ok (.lst out):=rfl
@[simp] theorem t_lcd (own:List (Str×Nat)) (elt:T) (tg:TG) (i:Nat) (ifs:T) (s:En):(den (.lcd own elt tg i ifs)).t s=(den (.lcd own elt tg i ifs)).v s >>= dTru:=rfl
@[simp] theorem noex_nx (s:En):(Out.nx s).noex=.nx s:=rfl
@[simp] theorem noex_rt (d:D):(Out.rt d).noex=.rt d:=rfl
@[simp] theorem noex_bk (s:En):(Out.bk s).noex=.bk s:=rfl
@[simp] theorem noex_ct (s:En):(Out.ct s).noex=.ct s:=rfl
def MU.on (r:MU) (f:D→En→Out):Out:=match r with
  | .ok d s=>f d s
  | .exc c s=>.ex c s
  | .stuck=>.stuck
@[simp] theorem on_ok (d:D) (s:En) (f:D→En→Out):(MU.ok d s).on f=f d s:=rfl
@[simp] theorem on_exc (c:Str) (s:En) (f:D→En→Out):(MU.exc c s).on f=.ex c s:=rfl
@[simp] theorem on_stuck (f:D→En→Out):MU.stuck.on f=.stuck:=rfl
def R.goM {α:Type} (r:R α) (s:En) (k:α→MU):MU:=match r with
  | .ok a=>k a
  | .exc c=>.exc c s
  | .stuck=>.stuck
@[simp] theorem goM_ok {α:Type} (a:α) (s:En) (k:α→MU):(R.ok a).goM s k=k a:=rfl
@[simp] theorem goM_exc {α:Type} (c:Str) (s:En) (k:α→MU):(R.exc c:R α).goM s k=.exc c s:=rfl
def MR.mu (r:MR) (s:En) (js:List Nat):MU:=match r with
  | .ok d fds=>.ok d (setFs s js fds)
  | .exc c fds=>.exc c (setFs s js fds)
  | .stuck=>.stuck
@[simp] theorem mu_ok (d:D) (fds:List D) (s:En) (js:List Nat):(MR.ok d fds).mu s js=.ok d (setFs s js fds):=rfl
@[simp] theorem mu_exc (c:Str) (fds:List D) (s:En) (js:List Nat):(MR.exc c fds).mu s js=.exc c (setFs s js fds):=rfl
def optM {α:Type} (o:Option α) (f:α→MU):MU:=match o with
  | some a=>f a
  | none=>.stuck
@[simp] theorem optM_some {α:Type} (a:α) (f:α→MU):optM (some a) f=f a:=rfl
def optR {α β:Type} (o:Option α) (f:α→R β):R β:=match o with
  | some a=>f a
  | none=>.stuck
@[simp] theorem optR_some {α β:Type} (a:α) (f:α→R β):optR (some a) f=f a:=rfl
@[simp] theorem fldsAt_nil (s:En):fldsAt s []=some []:=rfl
@[simp] theorem fldsAt_c (s:En) (j:Nat) (js:List Nat):fldsAt s (j :: js)=((s[j]?).bind id).bind fun d=>(fldsAt s js).map fun ds=>d :: ds:=by
  show (match (s[j]?).bind id with | some d=>(fldsAt s js).map fun ds=>d :: ds | none=>none)=_
  cases (s[j]?).bind id <;> rfl
@[simp] theorem setFs_nil {α:Type} (s:List (Option α)) (ds:List α):setFs s [] ds=s:=by cases ds <;> rfl
@[simp] theorem setFs_cons {α:Type} (s:List (Option α)) (j:Nat) (js:List Nat) (d:α) (ds:List α):setFs s (j :: js) (d :: ds)=setFs (s.set j (some d)) js ds:=rfl
@[simp] theorem dM0_eq (x : Bool) (i : Nat) (c m : Str) (fj : List (Str × Nat)) (ft : List (Str × OT)) (n : Nat) (t : OT) (k : Nat) (ψ : List D → MR) (l : T) (bq : Option BQ) (s : En) :
    dM0 ⟨x,i,c,m,fj,ft,n,t,k,ψ,l,bq⟩ s=optM (fldsAt s (fj.map (·.2))) fun fds=>((den l).l s).goM s fun ds=>if ds.length=n then (ψ (fds ++ ds)).mu s (fj.map (·.2)) else .stuck:=by
  show eMu ψ n (fj.map (·.2)) (den l).l s=_
  unfold eMu
  cases fldsAt s (fj.map (·.2)) with
  | none=>rfl
  | some fds =>
    cases (den l).l s with
    | ok ds=>rfl
    | exc c=>rfl
    | stuck=>rfl
@[simp] theorem dM_eq (x : Bool) (i : Nat) (c m : Str) (fj : List (Str × Nat)) (ft : List (Str × OT)) (n : Nat) (t : OT) (k : Nat) (ψ : List D → MR) (l : T) (s : En) :
    dM ⟨x,i,c,m,fj,ft,n,t,k,ψ,l,none⟩ s=optM (fldsAt s (fj.map (·.2))) fun fds=>((den l).l s).goM s fun ds=>if ds.length=n then (ψ (fds ++ ds)).mu s (fj.map (·.2)) else .stuck:=by
  show eMu ψ n (fj.map (·.2)) (den l).l s=_
  unfold eMu
  cases fldsAt s (fj.map (·.2)) with
  | none=>rfl
  | some fds =>
    cases (den l).l s with
    | ok ds=>rfl
    | exc c=>rfl
    | stuck=>rfl
@[simp] theorem dM_eqB (x : Bool) (i : Nat) (c m : Str) (fj : List (Str × Nat)) (ft : List (Str × OT)) (n : Nat) (t : OT) (k : Nat) (ψ : List D → MR) (l : T) (r : BQ) (s : En) :
    dM ⟨x,i,c,m,fj,ft,n,t,k,ψ,l,some r⟩ s=optM (fldsAt s r.gj) fun fds=>((den l).l s).goM s fun ds=>if ds.length=n then (ψ (fds ++ ds)).mu s r.jj else .stuck:=by
  show eMuB ψ n r.gj r.jj (den l).l s=_
  unfold eMuB
  cases fldsAt s r.gj with
  | none=>rfl
  | some fds =>
    cases (den l).l s with
    | ok ds=>rfl
    | exc c=>rfl
    | stuck=>rfl
def MR.nwB (r:MR) (s:En) (js:List Nat):Out:=match r with
  | .ok .non fds=>.nx (setFs s js fds)
  | _=>.stuck
@[simp] theorem nwB_ok (fds:List D) (s:En) (js:List Nat):(MR.ok .non fds).nwB s js=.nx (setFs s js fds):=rfl
@[simp] theorem clr_nil {α:Type} (s:List (Option α)):clr s []=s:=rfl
@[simp] theorem clr_cons {α:Type} (s:List (Option α)) (j:Nat) (js:List Nat):clr s (j :: js)=clr (s.set j none) js:=rfl
@[simp] theorem dS_lnk (q:LQ) (s:En):dS (.lnk q) s=if q.j < s.length then .nx (s.set q.j (some .lnk)) else .stuck:=rfl
def MR.nw (r:MR) (s:En) (js:List Nat):Out:=match r with
  | .ok .non fds=>.nx (setFs s js fds)
  | .exc c _=>.ex c s
  | _=>.stuck
@[simp] theorem nw_ok (fds:List D) (s:En) (js:List Nat):(MR.ok .non fds).nw s js=.nx (setFs s js fds):=rfl
@[simp] theorem nw_exc (c:Str) (fds:List D) (s:En) (js:List Nat):(MR.exc c fds).nw s js=.ex c s:=rfl
@[simp] theorem unset_none {s:En} {i:Nat} (h:s[i]?=some none):unset s i=true:=by unfold unset; rw [h]
def optE (o:Option (List D)) (f:List D→MR):MR:=match o with
  | some fds=>f fds
  | none=>.stuck
@[simp] theorem optE_some (fds:List D) (f:List D→MR):optE (some fds) f=f fds:=rfl
@[simp] theorem leaveM_rm (t:OT) (js:List Nat) (d:D) (s:En):leaveM t js (.rm d s)=optE (fldsAt s js) fun fds=>.ok d fds:=by
  have key:∀ o:Option (List D),(match o with | some fds=>MR.ok d fds | none=>.stuck)=optE o fun fds=>.ok d fds:=fun o=>by cases o <;> rfl
  exact key _
@[simp] theorem leaveM_ex (t:OT) (js:List Nat) (c:Str) (s:En):leaveM t js (.ex c s)=optE (fldsAt s js) fun fds=>.exc c fds:=by
  have key:∀ o:Option (List D),(match o with | some fds=>MR.exc c fds | none=>.stuck)=optE o fun fds=>.exc c fds:=fun o=>by cases o <;> rfl
  exact key _
@[simp] theorem leaveM_nx (js:List Nat) (s:En):leaveM .fz js (.nx s)=optE (fldsAt s js) fun fds=>.ok .non fds:=by
  have key:∀ o:Option (List D),(match o with | some fds=>MR.ok .non fds | none=>.stuck)=optE o fun fds=>.ok .non fds:=fun o=>by cases o <;> rfl
  show (if OT.fz=OT.fz then (match fldsAt s js with | some fds=>MR.ok .non fds | none=>.stuck) else .stuck)=_
  rw [if_pos rfl]
  exact key _
@[simp] theorem enterM_eq (n:Nat) (ds:List D) (js:List Nat) (fds:List D):enterM n ds js fds=setFs (none :: (ds.map some ++ List.replicate (n - 1 - ds.length) none)) js fds:=rfl
@[simp] theorem enter0_eq (n:Nat) (ds:List D):enter0 n ds=none :: (ds.map some ++ List.replicate (n - 1 - ds.length) none):=rfl
def Out.leaveI (o:Out) (js:List Nat):MR:=match o with
  | .nx s=>optE (fldsAt s js) fun fds=>.ok .non fds
  | .ex c _=>.exc c []
  | _=>.stuck
@[simp] theorem leaveI_nx (s:En) (js:List Nat):(Out.nx s).leaveI js=optE (fldsAt s js) fun fds=>.ok .non fds:=rfl
@[simp] theorem leaveI_ex (c:Str) (s:En) (js:List Nat):(Out.ex c s).leaveI js=.exc c []:=rfl
def MR.nwd (r:MR) (s:En) (js:List Nat) (f:En→Out):Out:=match r with
  | .ok .non fds=>f (setFs s js fds)
  | .exc c _=>.ex c s
  | _=>.stuck
@[simp] theorem nwd_ok (fds:List D) (s:En) (js:List Nat) (f:En→Out):(MR.ok .non fds).nwd s js f=f (setFs s js fds):=rfl
@[simp] theorem nwd_exc (c:Str) (fds:List D) (s:En) (js:List Nat) (f:En→Out):(MR.exc c fds).nwd s js f=.ex c s:=rfl
def MR.nwl (r:MR) (s:En) (js:List Nat) (i j:Nat) (d e:D):Out:=match r with
  | .ok .non fds=>.nx (setFs ((s.set i (some d)).set j (some e)) js fds)
  | .exc c _=>.ex c s
  | _=>.stuck
@[simp] theorem nwl_ok (fds:List D) (s:En) (js:List Nat) (i j:Nat) (d e:D):(MR.ok .non fds).nwl s js i j d e=.nx (setFs ((s.set i (some d)).set j (some e)) js fds):=rfl
end Hr
end
section
namespace Hd
open PySem PySem.Spec PyProof.Rows L2
def top (i : Nat) : Stmt := PySem.Challenge.pw_heldrows_k17_whole_values_counted.main.body.getD i (.Pass ⟨0, 0, 0, 0⟩)
abbrev s_is_plain:Stmt:=top 1
def d_is_plain:He.DefD:=⟨("is_plain",none), "is_plain", "is_plain",defArgs s_is_plain,defBody s_is_plain,defScope s_is_plain,[],[]⟩
abbrev s_kind_names:Stmt:=top 2
def d_kind_names:He.DefD:=⟨("kind_names",none), "kind_names", "kind_names",defArgs s_kind_names,defBody s_kind_names,defScope s_kind_names,[],[]⟩
abbrev s_fields_of:Stmt:=top 3
def d_fields_of:He.DefD:=⟨("fields_of",none), "fields_of", "fields_of",defArgs s_fields_of,defBody s_fields_of,defScope s_fields_of,[],[]⟩
abbrev s_place_of:Stmt:=top 4
def d_place_of:He.DefD:=⟨("place_of",none), "place_of", "place_of",defArgs s_place_of,defBody s_place_of,defScope s_place_of,[],[]⟩
abbrev s_link_fields:Stmt:=top 5
def d_link_fields:He.DefD:=⟨("link_fields",none), "link_fields", "link_fields",defArgs s_link_fields,defBody s_link_fields,defScope s_link_fields,[],[]⟩
abbrev s_shelf_of:Stmt:=top 7
def d_shelf_of:He.DefD:=⟨("shelf_of",none), "shelf_of", "shelf_of",defArgs s_shelf_of,defBody s_shelf_of,defScope s_shelf_of,[],[]⟩
abbrev s_keys_of:Stmt:=top 8
def d_keys_of:He.DefD:=⟨("keys_of",none), "keys_of", "keys_of",defArgs s_keys_of,defBody s_keys_of,defScope s_keys_of,[],[]⟩
abbrev s_links_to:Stmt:=top 9
def d_links_to:He.DefD:=⟨("links_to",none), "links_to", "links_to",defArgs s_links_to,defBody s_links_to,defScope s_links_to,[],[]⟩
abbrev s_row_counts:Stmt:=top 11
def d_row_counts:He.DefD:=⟨("row_counts",none), "row_counts", "row_counts",defArgs s_row_counts,defBody s_row_counts,defScope s_row_counts,[],[]⟩
abbrev s_rows_with:Stmt:=top 13
def d_rows_with:He.DefD:=⟨("rows_with",none), "rows_with", "rows_with",defArgs s_rows_with,defBody s_rows_with,defScope s_rows_with,[],[]⟩
abbrev s_value_counts:Stmt:=top 14
def d_value_counts:He.DefD:=⟨("value_counts",none), "value_counts", "value_counts",defArgs s_value_counts,defBody s_value_counts,defScope s_value_counts,[],[]⟩
abbrev s__law_cell:Stmt:=top 16
def d__law_cell:He.DefD:=⟨("_law_cell",none), "_law_cell", "_law_cell",defArgs s__law_cell,defBody s__law_cell,defScope s__law_cell,[],[]⟩
abbrev s__law_pick:Stmt:=top 17
def d__law_pick:He.DefD:=⟨("_law_pick",none), "_law_pick", "_law_pick",defArgs s__law_pick,defBody s__law_pick,defScope s__law_pick,[],[]⟩
abbrev s__law_sort:Stmt:=top 18
def d__law_sort:He.DefD:=⟨("_law_sort",none), "_law_sort", "_law_sort",defArgs s__law_sort,defBody s__law_sort,defScope s__law_sort,[],[]⟩
abbrev s__law_schema:Stmt:=top 19
def d__law_schema:He.DefD:=⟨("_law_schema",none), "_law_schema", "_law_schema",defArgs s__law_schema,defBody s__law_schema,defScope s__law_schema,[],[]⟩
abbrev s__law_counts:Stmt:=top 20
def d__law_counts:He.DefD:=⟨("_law_counts",none), "_law_counts", "_law_counts",defArgs s__law_counts,defBody s__law_counts,defScope s__law_counts,[],[]⟩
abbrev s__law_plain:Stmt:=top 21
def d__law_plain:He.DefD:=⟨("_law_plain",none), "_law_plain", "_law_plain",defArgs s__law_plain,defBody s__law_plain,defScope s__law_plain,[],[]⟩
abbrev s__law_value:Stmt:=top 22
def d__law_value:He.DefD:=⟨("_law_value",none), "_law_value", "_law_value",defArgs s__law_value,defBody s__law_value,defScope s__law_value,[],[]⟩
abbrev s__law_store:Stmt:=top 23
def d__law_store:He.DefD:=⟨("_law_store",none), "_law_store", "_law_store",defArgs s__law_store,defBody s__law_store,defScope s__law_store,[],[]⟩
abbrev s__law_goals:Stmt:=top 24
def d__law_goals:He.DefD:=⟨("_law_goals",none), "_law_goals", "_law_goals",defArgs s__law_goals,defBody s__law_goals,defScope s__law_goals,[],[]⟩
abbrev s__law_rows:Stmt:=top 25
def d__law_rows:He.DefD:=⟨("_law_rows",none), "_law_rows", "_law_rows",defArgs s__law_rows,defBody s__law_rows,defScope s__law_rows,[],[]⟩
abbrev s__law_reached:Stmt:=top 26
def d__law_reached:He.DefD:=⟨("_law_reached",none), "_law_reached", "_law_reached",defArgs s__law_reached,defBody s__law_reached,defScope s__law_reached,[],[]⟩
abbrev s_law:Stmt:=top 27
def d_law:He.DefD:=⟨("law",none), "law", "law",defArgs s_law,defBody s_law,defScope s_law,[],[]⟩
def fn:List He.DefD:=([d_is_plain,d_kind_names,d_fields_of,d_place_of,d_link_fields,d_shelf_of,d_keys_of,d_links_to,d_row_counts,d_rows_with,d_value_counts,d__law_cell,d__law_pick,d__law_sort,d__law_schema,d__law_counts,d__law_plain,d__law_value,d__law_store,d__law_goals,d__law_rows,d__law_reached,d_law]:List He.DefD)
def fa:List He.Fa:=([.glo "is_plain",.glo "kind_names",.glo "fields_of",.glo "place_of",.glo "link_fields",.glo "shelf_of",.glo "keys_of",.glo "links_to",.glo "row_counts",.glo "rows_with",.glo "value_counts",.glo "_law_cell",.glo "_law_pick",.glo "_law_sort",.glo "_law_schema",.glo "_law_counts",.glo "_law_plain",.glo "_law_value",.glo "_law_store",.glo "_law_goals",.glo "_law_rows",.glo "_law_reached",.glo "law",.free "all",.free "any",.free "bool",.free "dict",.free "enumerate",.free "int",.free "isinstance"]:List He.Fa) ++ ([.free "len",.free "list",.free "max",.free "range",.free "set",.free "sorted",.free "str",.free "sum",.free "tuple",.free "zip"]:List He.Fa)
def names:List PySem.Str:=(["is_plain", "kind_names", "fields_of", "place_of", "link_fields", "shelf_of", "keys_of", "links_to", "row_counts", "rows_with", "value_counts", "_law_cell", "_law_pick", "_law_sort", "_law_schema", "_law_counts", "_law_plain", "_law_value", "_law_store", "_law_goals", "_law_rows", "_law_reached"]:List PySem.Str)
abbrev R : PySem.W.OpenRow := PySem.W.OpenLaw.row PySem.Challenge.rw_heldrows_k17_whole_values_counted
abbrev fx_is_plain:Nat:=0
abbrev fx_kind_names:Nat:=1
abbrev fx_fields_of:Nat:=2
abbrev fx_place_of:Nat:=3
abbrev fx_link_fields:Nat:=4
abbrev fx_shelf_of:Nat:=5
abbrev fx_keys_of:Nat:=6
abbrev fx_links_to:Nat:=7
abbrev fx_row_counts:Nat:=8
abbrev fx_rows_with:Nat:=9
abbrev fx_value_counts:Nat:=10
abbrev fx__law_cell:Nat:=11
abbrev fx__law_pick:Nat:=12
abbrev fx__law_sort:Nat:=13
abbrev fx__law_schema:Nat:=14
abbrev fx__law_counts:Nat:=15
abbrev fx__law_plain:Nat:=16
abbrev fx__law_value:Nat:=17
abbrev fx__law_store:Nat:=18
abbrev fx_law:Nat:=22
abbrev ix_is_plain:Nat:=0
abbrev ix_kind_names:Nat:=1
abbrev ix_fields_of:Nat:=2
abbrev ix_place_of:Nat:=3
abbrev ix_link_fields:Nat:=4
abbrev ix_shelf_of:Nat:=5
abbrev ix_keys_of:Nat:=6
abbrev ix_links_to:Nat:=7
abbrev ix_row_counts:Nat:=8
abbrev ix_rows_with:Nat:=9
abbrev ix_value_counts:Nat:=10
abbrev ix__law_cell:Nat:=11
abbrev ix__law_pick:Nat:=12
abbrev ix__law_sort:Nat:=13
abbrev ix__law_schema:Nat:=14
abbrev ix__law_counts:Nat:=15
abbrev ix__law_plain:Nat:=16
abbrev ix__law_value:Nat:=17
abbrev ix__law_store:Nat:=18
abbrev ix_law:Nat:=22
def fx:Hr.FX:=⟨[],[],[],[],[]⟩
abbrev hk:PySem.W.Hook:=Hr.hookX 5 fa fn fx
def ob (s:PySem.W.SharedT):Hr.AlX:=Hr.obsXG 5 fa fn fx (HandSHeadRun.getT s)
theorem ob_eq (s:PySem.W.SharedT):ob s=hk.obs s.abs:=Hr.obsXG_eq (HandSHeadRun.getT_eq s)
theorem run (w:World):HandSHeadRun.RunEq R (PySem.W.view R.prog [27]) hk ob 4000 names w:=by
  intro os
  kernel_rfl
end Hd
namespace Wk
open PySem PySem.Spec L2 Hr Hd
def N__law_cell:List PySem.Str:=["script", "k"]
def ir__law_cell:S:=(.seq [] (.ite (.cmp .Lt (.var 1) (.bi .len (.cons (.var 0) .nil)))
  (.seq [] (.ret (.sub (.var 0) (.var 1)))
  .nil)
  .nil)
  (.seq [] (.ite (.cmp .Eq (.var 0) (.lst .nil))
  (.seq [] (.ret (.con (.int (0))))
  .nil)
  .nil)
  (.seq [] (.ret (.bin .Add (.bin .Mult (.sub (.var 0) (.bin .Mod (.var 1) (.bi .len (.cons (.var 0) .nil)))) (.con (.int (31)))) (.var 1)))
  .nil)))
def φ__law_cell:List D→R D:=runS 2 .fz ir__law_cell
theorem sc__law_cell:FnScope N__law_cell ["script", "k"] (defScope s__law_cell):=⟨rfl,rfl,rfl,by decide +kernel,rfl,by decide +kernel,by decide +kernel⟩
theorem ck__law_cell:chkS N__law_cell (defScope s__law_cell) ir__law_cell [] [] { t:=.fz } (.inr (defBody s__law_cell))=true:=by decide +kernel
def N__law_pick:List PySem.Str:=["script", "k", "many", "drawn"]
def ir__law_pick:S:=(.seq [] (.asg [3] (.nm 3) (.bin .Mod (.bin .Mult (.bin .Add (.call "_law_cell" 2 .fz 1 φ__law_cell (.cons (.var 0) (.cons (.var 1) .nil))) (.bin .Mult (.con (.int (6151))) (.bin .Add (.var 1) (.con (.int (1)))))) (.con (.int (40692)))) (.con (.int (2147483399)))))
  (.seq [] (.ret (.bin .Mod (.bin .Mod (.bin .Add (.bin .Mult (.var 3) (.var 3)) (.bin .FloorDiv (.var 3) (.con (.int (31))))) (.con (.int (2147483629)))) (.var 2)))
  .nil))
def φ__law_pick:List D→R D:=runS 4 .fz ir__law_pick
theorem sc__law_pick:FnScope N__law_pick ["script", "k", "many"] (defScope s__law_pick):=⟨rfl,rfl,rfl,by decide +kernel,rfl,by decide +kernel,by decide +kernel⟩
theorem ck__law_pick:chkS N__law_pick (defScope s__law_pick) ir__law_pick [] [] { t:=.fz } (.inr (defBody s__law_pick))=true:=by decide +kernel
def N__law_sort:List PySem.Str:=["script", "at", "names", "way", "may", "rule"]
def ir__law_sort:S:=(.seq [] (.asg [3] (.nm 3) (.call "_law_pick" 3 .fz 2 φ__law_pick (.cons (.var 0) (.cons (.var 1) (.cons (.con (.int (7))) .nil)))))
  (.seq [] (.ite (.cmp .Lt (.var 3) (.con (.int (3))))
  (.seq [] (.ret (.sub (.lst (.cons (.con (.str "number")) (.cons (.con (.str "number")) (.cons (.con (.str "text")) .nil)))) (.var 3)))
  .nil)
  .nil)
  (.seq [] (.asg [4] (.nm 4) (.cmp .Gt (.call "_law_pick" 3 .fz 2 φ__law_pick (.cons (.var 0) (.cons (.bin .Add (.var 1) (.con (.int (1)))) (.cons (.con (.int (3))) .nil)))) (.con (.int (0)))))
  (.seq [] (.asg [5] (.nm 5) (.sub (.lst (.cons (.con (.str "bar")) (.cons (.con (.str "none")) (.cons (.con (.str "along")) .nil)))) (.call "_law_pick" 3 .fz 2 φ__law_pick (.cons (.var 0) (.cons (.bin .Add (.var 1) (.con (.int (2)))) (.cons (.con (.int (3))) .nil))))))
  (.seq [] (.ite (.and (.cmp .Eq (.var 5) (.con (.str "none"))) (.one (.not (.var 4))))
  (.seq [] (.asg [5] (.nm 5) (.con (.str "bar")))
  .nil)
  .nil)
  (.seq [] (.ret (.tup (.cons (.con (.str "link")) (.cons (.sub (.var 2) (.call "_law_pick" 3 .fz 2 φ__law_pick (.cons (.var 0) (.cons (.bin .Add (.var 1) (.con (.int (3)))) (.cons (.bi .len (.cons (.var 2) .nil)) .nil))))) (.cons (.var 4) (.cons (.var 5) .nil))))))
  .nil))))))
def φ__law_sort:List D→R D:=runS 6 .fz ir__law_sort
theorem sc__law_sort:FnScope N__law_sort ["script", "at", "names"] (defScope s__law_sort):=⟨rfl,rfl,rfl,by decide +kernel,rfl,by decide +kernel,by decide +kernel⟩
theorem ck__law_sort:chkS N__law_sort (defScope s__law_sort) ir__law_sort [] [] { t:=.fz } (.inr (defBody s__law_sort))=true:=by decide +kernel
def N__law_schema:List PySem.Str:=["script", "at", "names", "kinds", "j", "name", "many", "fields", "k"]
def E__law_schema_0:T:=(.tup (.cons (.bin .Mult (.sub (.con (.str "rpsq")) (.var 8)) (.bin .Add (.con (.int (1))) (.var 4))) (.cons (.call "_law_sort" 3 .fz 3 φ__law_sort (.cons (.var 0) (.cons (.bin .Add (.bin .Add (.bin .Add (.var 1) (.con (.int (3)))) (.bin .Mult (.con (.int (20))) (.var 4))) (.bin .Mult (.con (.int (4))) (.var 8))) (.cons (.var 2) .nil)))) .nil)))
def L__law_schema_0:S:=(.seq [(3,.own .fz)] (.asg [6] (.nm 6) (.bin .Add (.con (.int (1))) (.call "_law_pick" 3 .fz 2 φ__law_pick (.cons (.var 0) (.cons (.bin .Add (.bin .Add (.var 1) (.con (.int (2)))) (.bin .Mult (.con (.int (20))) (.var 4))) (.cons (.con (.int (4))) .nil))))))
  (.seq [(3,.own .fz),(7,.own .fz)] (.own 7 (.own .fz) (.lc [("k",8)] E__law_schema_0 (.nm 8) (.itR1 (.cons (.var 6) .nil)) .no))
  (.seq [(3,.own .fz),(7,.own .fz)] (.app 3 (.tup (.cons (.var 5) (.cons (.bi .tuple (.cons (.var 7) .nil)) .nil))))
  .nil)))
def ir__law_schema:S:=(.seq [] (.asg [2] (.nm 2) (.sli (.sli (.lst (.cons (.con (.str "oak")) (.cons (.con (.str "a")) (.cons (.con (.str "zzzzzz")) (.cons (.con (.str "elm")) .nil))))) (.call "_law_pick" 3 .fz 2 φ__law_pick (.cons (.var 0) (.cons (.var 1) (.cons (.con (.int (2))) .nil)))) .no) .no (.bin .Add (.con (.int (1))) (.call "_law_pick" 3 .fz 2 φ__law_pick (.cons (.var 0) (.cons (.bin .Add (.var 1) (.con (.int (1)))) (.cons (.con (.int (3))) .nil)))))))
  (.seq [(3,.own .fz)] (.own 3 (.own .fz) (.lst .nil))
  (.seq [(3,.own .fz)] (.fr [4,5] (.tp (.cons (.nm 4) (.cons (.nm 5) .nil))) (.itE (.cons (.var 2) .nil))
  L__law_schema_0)
  (.seq [(3,.own .fz),(7,.own .fz)] (.ret (.bi .tuple (.cons (.var 3) .nil)))
  .nil))))
def φ__law_schema:List D→R D:=runS 9 .fz ir__law_schema
theorem sc__law_schema:FnScope N__law_schema ["script", "at"] (defScope s__law_schema):=⟨rfl,rfl,rfl,by decide +kernel,rfl,by decide +kernel,by decide +kernel⟩
theorem ck__law_schema:chkS N__law_schema (defScope s__law_schema) ir__law_schema [] [] { t:=.fz } (.inr (defBody s__law_schema))=true:=by decide +kernel
def N__law_counts:List PySem.Str:=["script", "at", "schema", "most", "counts", "again", "j", "kind", "name", "fields", "field", "sort"]
def L__law_counts_0:S:=(.seq [(4,.own .fz)] (.put 4 (.sub (.var 7) (.con (.int (0)))) (.call "_law_pick" 3 .fz 2 φ__law_pick (.cons (.var 0) (.cons (.bin .Add (.var 1) (.var 6)) (.cons (.bin .Add (.var 3) (.con (.int (1)))) .nil)))))
  .nil)
def L__law_counts_3:S:=(.seq [(4,.own .fz)] (.ite (.and (.cmp .Eq (.sub (.var 11) (.con (.int (0)))) (.con (.str "link"))) (.and (.not (.sub (.var 11) (.con (.int (2))))) (.one (.cmp .Eq (.sub (.var 4) (.sub (.var 11) (.con (.int (1))))) (.con (.int (0)))))))
  (.seq [(4,.own .fz)] (.put 4 (.var 8) (.con (.int (0))))
  .nil)
  .nil)
  .nil)
def L__law_counts_2:S:=(.seq [(4,.own .fz)] (.fr [10,11] (.tp (.cons (.nm 10) (.cons (.nm 11) .nil))) (.itI (.var 9))
  L__law_counts_3)
  .nil)
def L__law_counts_1:S:=(.seq [(4,.own .fz)] (.fr [8,9] (.tp (.cons (.nm 8) (.cons (.nm 9) .nil))) (.itI (.var 2))
  L__law_counts_2)
  .nil)
def ir__law_counts:S:=(.seq [(4,.own .fz)] (.own 4 (.own .fz) (.dnew false))
  (.seq [(4,.own .fz)] (.fr [6,7] (.tp (.cons (.nm 6) (.cons (.nm 7) .nil))) (.itE (.cons (.var 2) .nil))
  L__law_counts_0)
  (.seq [(4,.own .fz)] (.fr [5] (.nm 5) (.itR1 (.cons (.bi .len (.cons (.var 2) .nil)) .nil))
  L__law_counts_1)
  (.wk [] (.seq [(4,.own .fz)] (.ret (.var 4))
  .nil)))))
def φ__law_counts:List D→R D:=runS 12 .fz ir__law_counts
theorem sc__law_counts:FnScope N__law_counts ["script", "at", "schema", "most"] (defScope s__law_counts):=⟨rfl,rfl,rfl,by decide +kernel,rfl,by decide +kernel,by decide +kernel⟩
theorem ck__law_counts:chkS N__law_counts (defScope s__law_counts) ir__law_counts [] [] { t:=.fz } (.inr (defBody s__law_counts))=true:=by decide +kernel
def N__law_plain:List PySem.Str:=["script", "at", "sort", "drawn", "signs", "k"]
def E__law_plain_0:T:=(.sub (.var 4) (.call "_law_pick" 3 .fz 2 φ__law_pick (.cons (.var 0) (.cons (.bin .Add (.var 1) (.var 5)) (.cons (.con (.int (31))) .nil)))))
def ir__law_plain:S:=(.seq [] (.asg [3] (.nm 3) (.call "_law_pick" 3 .fz 2 φ__law_pick (.cons (.var 0) (.cons (.var 1) (.cons (.bin .Pow (.con (.int (10))) (.con (.int (6)))) .nil)))))
  (.seq [] (.ite (.cmp .Eq (.var 2) (.con (.str "number")))
  (.seq [] (.ret (.sub (.lst (.cons (.con (.int (0))) (.cons (.con (.int (1))) (.cons (.neg (.con (.int (1)))) (.cons (.con (.int (9999))) (.cons (.neg (.con (.int (9999)))) (.cons (.bin .Sub (.bin .Mod (.var 3) (.con (.int (19999)))) (.con (.int (9999)))) (.cons (.bin .Sub (.bin .Mod (.var 3) (.con (.int (20)))) (.con (.int (9)))) .nil)))))))) (.bin .Mod (.bin .FloorDiv (.var 3) (.con (.int (20000)))) (.con (.int (7))))))
  .nil)
  .nil)
  (.seq [] (.asg [4] (.nm 4) (.con (.str " !'#&,:;0123456789ABCXYZabcxyz~")))
  (.seq [] (.ret (.join (.con (.str "")) (.lc [("k",5)] E__law_plain_0 (.nm 5) (.itR1 (.cons (.sub (.lst (.cons (.con (.int (0))) (.cons (.con (.int (1))) (.cons (.con (.int (2))) (.cons (.con (.int (3))) (.cons (.con (.int (8))) .nil)))))) (.bin .Mod (.var 3) (.con (.int (5))))) .nil)) .no)))
  .nil))))
def φ__law_plain:List D→R D:=runS 6 .fz ir__law_plain
theorem sc__law_plain:FnScope N__law_plain ["script", "at", "sort"] (defScope s__law_plain):=⟨rfl,rfl,rfl,by decide +kernel,rfl,by decide +kernel,by decide +kernel⟩
theorem ck__law_plain:chkS N__law_plain (defScope s__law_plain) ir__law_plain [] [] { t:=.fz } (.inr (defBody s__law_plain))=true:=by decide +kernel
def N__law_value:List PySem.Str:=["script", "at", "sort", "keys", "some"]
def ir__law_value:S:=(.seq [] (.ite (.cmp .NotEq (.sub (.var 2) (.con (.int (0)))) (.con (.str "link")))
  (.seq [] (.ret (.call "_law_plain" 3 .fz 3 φ__law_plain (.cons (.var 0) (.cons (.var 1) (.cons (.var 2) .nil)))))
  .nil)
  .nil)
  (.seq [] (.asg [4] (.nm 4) (.sub (.var 3) (.sub (.var 2) (.con (.int (1))))))
  (.seq [] (.ite (.and (.sub (.var 2) (.con (.int (2)))) (.one (.or (.cmp .Eq (.var 4) (.lst .nil)) (.one (.cmp .Eq (.call "_law_pick" 3 .fz 2 φ__law_pick (.cons (.var 0) (.cons (.var 1) (.cons (.con (.int (3))) .nil)))) (.con (.int (0))))))))
  (.seq [] (.ret (.con .non))
  .nil)
  .nil)
  (.seq [] (.ret (.sub (.var 4) (.call "_law_pick" 3 .fz 2 φ__law_pick (.cons (.var 0) (.cons (.bin .Add (.var 1) (.con (.int (1)))) (.cons (.bi .len (.cons (.var 4) .nil)) .nil))))))
  .nil))))
def φ__law_value:List D→R D:=runS 5 .fz ir__law_value
theorem sc__law_value:FnScope N__law_value ["script", "at", "sort", "keys"] (defScope s__law_value):=⟨rfl,rfl,rfl,by decide +kernel,rfl,by decide +kernel,by decide +kernel⟩
theorem ck__law_value:chkS N__law_value (defScope s__law_value) ir__law_value [] [] { t:=.fz } (.inr (defBody s__law_value))=true:=by decide +kernel
def N__law_store:List PySem.Str:=["script", "at", "schema", "most", "counts", "keys", "shelves", "j", "kind", "row", "k", "rows", "name", "fields", "key", "base", "values", "f", "field"]
def L__law_store_1:S:=(.seq [(5,.own .fz),(9,.own .fz)] (.app 9 (.bin .Add (.bin .Add (.bi .max (.cons (.bin .Add (.lst (.cons (.con (.int (0))) .nil)) (.var 9)) .nil)) (.con (.int (1)))) (.call "_law_pick" 3 .fz 2 φ__law_pick (.cons (.var 0) (.cons (.bin .Add (.bin .Add (.bin .Add (.var 1) (.con (.int (5)))) (.bin .Mult (.con (.int (7))) (.var 7))) (.var 10)) (.cons (.con (.int (2))) .nil))))))
  .nil)
def L__law_store_0:S:=(.seq [(5,.own .fz),(9,.own .fz)] (.own 9 (.own .fz) (.lst .nil))
  (.seq [(5,.own .fz),(9,.own .fz)] (.fr [10] (.nm 10) (.itR1 (.cons (.sub (.var 4) (.sub (.var 8) (.con (.int (0))))) .nil))
  L__law_store_1)
  (.wk [(5,.own .fz)] (.seq [(5,.own .fz)] (.put 5 (.sub (.var 8) (.con (.int (0)))) (.var 9))
  .nil))))
def E__law_store_0:T:=(.call "_law_value" 4 .fz 4 φ__law_value (.cons (.var 0) (.cons (.bin .Add (.var 15) (.bin .Mult (.con (.int (7))) (.var 17))) (.cons (.sub (.var 18) (.con (.int (1)))) (.cons (.var 5) .nil)))))
def L__law_store_3:S:=(.seq [(6,.own .fz),(11,.own .fz)] (.asg [15] (.nm 15) (.bin .Add (.bin .Add (.bin .Add (.var 1) (.con (.int (30)))) (.bin .Mult (.con (.int (150))) (.var 7))) (.bin .Mult (.con (.int (30))) (.var 10))))
  (.seq [(6,.own .fz),(11,.own .fz),(16,.own .fz)] (.own 16 (.own .fz) (.lc [("f",17),("field",18)] E__law_store_0 (.tp (.cons (.nm 17) (.cons (.nm 18) .nil))) (.itE (.cons (.var 13) .nil)) .no))
  (.seq [(6,.own .fz),(11,.own .fz),(16,.own .fz)] (.app 11 (.tup (.cons (.var 14) (.cons (.bin .Add (.con (.int (1))) (.call "_law_pick" 3 .fz 2 φ__law_pick (.cons (.var 0) (.cons (.bin .Add (.var 15) (.con (.int (28)))) (.cons (.con (.int (3))) .nil))))) (.cons (.bi .tuple (.cons (.var 16) .nil)) .nil)))))
  .nil)))
def L__law_store_2:S:=(.seq [(6,.own .fz),(11,.own .fz)] (.own 11 (.own .fz) (.lst .nil))
  (.seq [(6,.own .fz),(11,.own .fz)] (.fr [10,14] (.tp (.cons (.nm 10) (.cons (.nm 14) .nil))) (.itE (.cons (.sub (.var 5) (.var 12)) .nil))
  L__law_store_3)
  (.seq [(6,.own .fz),(11,.own .fz)] (.app 6 (.tup (.cons (.bin .Add (.bin .Add (.bi .max (.cons (.bin .Add (.lst (.cons (.con (.int (0))) .nil)) (.sub (.var 5) (.var 12))) .nil)) (.con (.int (1)))) (.call "_law_pick" 3 .fz 2 φ__law_pick (.cons (.var 0) (.cons (.bin .Add (.var 1) (.con (.int (4)))) (.cons (.con (.int (2))) .nil))))) (.cons (.bi .tuple (.cons (.var 11) .nil)) .nil))))
  .nil)))
def ir__law_store:S:=(.seq [] (.asg [4] (.nm 4) (.call "_law_counts" 4 .fz 3 φ__law_counts (.cons (.var 0) (.cons (.var 1) (.cons (.var 2) (.cons (.var 3) .nil))))))
  (.seq [(5,.own .fz)] (.own 5 (.own .fz) (.dnew false))
  (.seq [(5,.own .fz)] (.fr [7,8] (.tp (.cons (.nm 7) (.cons (.nm 8) .nil))) (.itE (.cons (.var 2) .nil))
  L__law_store_0)
  (.seq [(5,.own .fz),(6,.own .fz)] (.own 6 (.own .fz) (.lst .nil))
  (.wk [(6,.own .fz)] (.seq [(6,.own .fz)] (.fr [7,12,13] (.tp (.cons (.nm 7) (.cons (.tp (.cons (.nm 12) (.cons (.nm 13) .nil))) .nil))) (.itE (.cons (.var 2) .nil))
  L__law_store_2)
  (.seq [(5,.own .fz),(6,.own .fz),(9,.own .fz),(11,.own .fz),(16,.own .fz)] (.ret (.bi .tuple (.cons (.var 6) .nil)))
  .nil)))))))
def φ__law_store:List D→R D:=runS 19 .fz ir__law_store
theorem sc__law_store:FnScope N__law_store ["script", "at", "schema", "most"] (defScope s__law_store):=⟨rfl,rfl,rfl,by decide +kernel,rfl,by decide +kernel,by decide +kernel⟩
theorem ck__law_store:chkS N__law_store (defScope s__law_store) ir__law_store [] [] { t:=.fz } (.inr (defBody s__law_store))=true:=by decide +kernel
def N_kind_names:List PySem.Str:=["schema", "kind"]
def E_kind_names_0:T:=(.sub (.var 1) (.con (.int (0))))
def ir_kind_names:S:=(.seq [] (.ret (.lc [("kind",1)] E_kind_names_0 (.nm 1) (.itI (.var 0)) .no))
  .nil)
def φ_kind_names:List D→R D:=runS 2 .fz ir_kind_names
theorem sc_kind_names:FnScope N_kind_names ["schema"] (defScope s_kind_names):=⟨rfl,rfl,rfl,by decide +kernel,rfl,by decide +kernel,by decide +kernel⟩
theorem ck_kind_names:chkS N_kind_names (defScope s_kind_names) ir_kind_names [] [] { t:=.fz } (.inr (defBody s_kind_names))=true:=by decide +kernel
def N_shelf_of:List PySem.Str:=["schema", "store", "kind"]
def ir_shelf_of:S:=(.seq [] (.ret (.sub (.var 1) (.idx (.call "kind_names" 1 .fz 1 φ_kind_names (.cons (.var 0) .nil)) (.var 2))))
  .nil)
def φ_shelf_of:List D→R D:=runS 3 .fz ir_shelf_of
theorem sc_shelf_of:FnScope N_shelf_of ["schema", "store", "kind"] (defScope s_shelf_of):=⟨rfl,rfl,rfl,by decide +kernel,rfl,by decide +kernel,by decide +kernel⟩
theorem ck_shelf_of:chkS N_shelf_of (defScope s_shelf_of) ir_shelf_of [] [] { t:=.fz } (.inr (defBody s_shelf_of))=true:=by decide +kernel
def N_keys_of:List PySem.Str:=["schema", "store", "kind", "row"]
def E_keys_of_0:T:=(.sub (.var 3) (.con (.int (0))))
def ir_keys_of:S:=(.seq [] (.ret (.lc [("row",3)] E_keys_of_0 (.nm 3) (.itI (.sub (.call "shelf_of" 3 .fz 2 φ_shelf_of (.cons (.var 0) (.cons (.var 1) (.cons (.var 2) .nil)))) (.con (.int (1))))) .no))
  .nil)
def φ_keys_of:List D→R D:=runS 4 .fz ir_keys_of
theorem sc_keys_of:FnScope N_keys_of ["schema", "store", "kind"] (defScope s_keys_of):=⟨rfl,rfl,rfl,by decide +kernel,rfl,by decide +kernel,by decide +kernel⟩
theorem ck_keys_of:chkS N_keys_of (defScope s_keys_of) ir_keys_of [] [] { t:=.fz } (.inr (defBody s_keys_of))=true:=by decide +kernel
def N_row_counts:List PySem.Str:=["schema", "store", "kind"]
def E_row_counts_0:T:=(.tup (.cons (.var 2) (.cons (.bi .len (.cons (.call "keys_of" 3 .fz 3 φ_keys_of (.cons (.var 0) (.cons (.var 1) (.cons (.var 2) .nil)))) .nil)) .nil)))
def ir_row_counts:S:=(.seq [] (.ret (.lc [("kind",2)] E_row_counts_0 (.nm 2) (.itI (.call "kind_names" 1 .fz 1 φ_kind_names (.cons (.var 0) .nil))) .no))
  .nil)
def φ_row_counts:List D→R D:=runS 3 .fz ir_row_counts
theorem sc_row_counts:FnScope N_row_counts ["schema", "store"] (defScope s_row_counts):=⟨rfl,rfl,rfl,by decide +kernel,rfl,by decide +kernel,by decide +kernel⟩
theorem ck_row_counts:chkS N_row_counts (defScope s_row_counts) ir_row_counts [] [] { t:=.fz } (.inr (defBody s_row_counts))=true:=by decide +kernel
def N_fields_of:List PySem.Str:=["schema", "kind"]
def ir_fields_of:S:=(.seq [] (.ret (.sub (.sub (.var 0) (.idx (.call "kind_names" 1 .fz 1 φ_kind_names (.cons (.var 0) .nil)) (.var 1))) (.con (.int (1)))))
  .nil)
def φ_fields_of:List D→R D:=runS 2 .fz ir_fields_of
theorem sc_fields_of:FnScope N_fields_of ["schema", "kind"] (defScope s_fields_of):=⟨rfl,rfl,rfl,by decide +kernel,rfl,by decide +kernel,by decide +kernel⟩
theorem ck_fields_of:chkS N_fields_of (defScope s_fields_of) ir_fields_of [] [] { t:=.fz } (.inr (defBody s_fields_of))=true:=by decide +kernel
def N_place_of:List PySem.Str:=["schema", "kind", "field", "one"]
def E_place_of_0:T:=(.sub (.var 3) (.con (.int (0))))
def ir_place_of:S:=(.seq [] (.ret (.idx (.lc [("one",3)] E_place_of_0 (.nm 3) (.itI (.call "fields_of" 2 .fz 2 φ_fields_of (.cons (.var 0) (.cons (.var 1) .nil)))) .no) (.var 2)))
  .nil)
def φ_place_of:List D→R D:=runS 4 .fz ir_place_of
theorem sc_place_of:FnScope N_place_of ["schema", "kind", "field"] (defScope s_place_of):=⟨rfl,rfl,rfl,by decide +kernel,rfl,by decide +kernel,by decide +kernel⟩
theorem ck_place_of:chkS N_place_of (defScope s_place_of) ir_place_of [] [] { t:=.fz } (.inr (defBody s_place_of))=true:=by decide +kernel
def N_value_counts:List PySem.Str:=["schema", "store", "kind", "field", "at", "made", "row"]
def ir_value_counts:S:=(.seq [] (.asg [4] (.nm 4) (.call "place_of" 3 .fz 3 φ_place_of (.cons (.var 0) (.cons (.var 2) (.cons (.var 3) .nil)))))
  (.vc 5 [6] (.nm 6) (.itI (.sub (.call "shelf_of" 3 .fz 2 φ_shelf_of (.cons (.var 0) (.cons (.var 1) (.cons (.var 2) .nil)))) (.con (.int (1))))) (.sub (.sub (.var 6) (.con (.int (2)))) (.var 4))))
def φ_value_counts:List D→R D:=runS 7 (.own .fz) ir_value_counts
theorem sc_value_counts:FnScope N_value_counts ["schema", "store", "kind", "field"] (defScope s_value_counts):=⟨rfl,rfl,rfl,by decide +kernel,rfl,by decide +kernel,by decide +kernel⟩
theorem ck_value_counts:chkS N_value_counts (defScope s_value_counts) ir_value_counts [] [] { t:=(.own .fz) } (.inr (defBody s_value_counts))=true:=by decide +kernel
def N_rows_with:List PySem.Str:=["schema", "store", "kind", "field", "value", "at", "row"]
def E_rows_with_0:T:=(.sub (.var 6) (.con (.int (0))))
def J_rows_with_0:T:=(.cmp .Eq (.sub (.sub (.var 6) (.con (.int (2)))) (.var 5)) (.var 4))
def ir_rows_with:S:=(.seq [] (.asg [5] (.nm 5) (.call "place_of" 3 .fz 3 φ_place_of (.cons (.var 0) (.cons (.var 2) (.cons (.var 3) .nil)))))
  (.seq [] (.ret (.lc [("row",6)] E_rows_with_0 (.nm 6) (.itI (.sub (.call "shelf_of" 3 .fz 2 φ_shelf_of (.cons (.var 0) (.cons (.var 1) (.cons (.var 2) .nil)))) (.con (.int (1))))) J_rows_with_0))
  .nil))
def φ_rows_with:List D→R D:=runS 7 .fz ir_rows_with
theorem sc_rows_with:FnScope N_rows_with ["schema", "store", "kind", "field", "value"] (defScope s_rows_with):=⟨rfl,rfl,rfl,by decide +kernel,rfl,by decide +kernel,by decide +kernel⟩
theorem ck_rows_with:chkS N_rows_with (defScope s_rows_with) ir_rows_with [] [] { t:=.fz } (.inr (defBody s_rows_with))=true:=by decide +kernel
def N_is_plain:List PySem.Str:=["sort"]
def ir_is_plain:S:=(.seq [] (.ret (.isi "str" (.var 0)))
  .nil)
def φ_is_plain:List D→R D:=runS 1 .fz ir_is_plain
theorem sc_is_plain:FnScope N_is_plain ["sort"] (defScope s_is_plain):=⟨rfl,rfl,rfl,by decide +kernel,rfl,by decide +kernel,by decide +kernel⟩
theorem ck_is_plain:chkS N_is_plain (defScope s_is_plain) ir_is_plain [] [] { t:=.fz } (.inr (defBody s_is_plain))=true:=by decide +kernel
def N_link_fields:List PySem.Str:=["schema", "kind", "at", "field"]
def E_link_fields_0:T:=(.tup (.cons (.var 2) (.cons (.sub (.var 3) (.con (.int (1)))) .nil)))
def J_link_fields_0:T:=(.not (.call "is_plain" 1 .fz 1 φ_is_plain (.cons (.sub (.var 3) (.con (.int (1)))) .nil)))
def ir_link_fields:S:=(.seq [] (.ret (.lc [("at",2),("field",3)] E_link_fields_0 (.tp (.cons (.nm 2) (.cons (.nm 3) .nil))) (.itE (.cons (.call "fields_of" 2 .fz 2 φ_fields_of (.cons (.var 0) (.cons (.var 1) .nil))) .nil)) J_link_fields_0))
  .nil)
def φ_link_fields:List D→R D:=runS 4 .fz ir_link_fields
theorem sc_link_fields:FnScope N_link_fields ["schema", "kind"] (defScope s_link_fields):=⟨rfl,rfl,rfl,by decide +kernel,rfl,by decide +kernel,by decide +kernel⟩
theorem ck_link_fields:chkS N_link_fields (defScope s_link_fields) ir_link_fields [] [] { t:=.fz } (.inr (defBody s_link_fields))=true:=by decide +kernel
def N_links_to:List PySem.Str:=["schema", "store", "kind", "key", "made", "name", "fields", "row", "at", "sort"]
def L_links_to_2:S:=(.seq [(4,.own .fz)] (.ite (.and (.cmp .Eq (.sub (.var 9) (.con (.int (1)))) (.var 2)) (.one (.cmp .Eq (.sub (.sub (.var 7) (.con (.int (2)))) (.var 8)) (.var 3))))
  (.seq [(4,.own .fz)] (.app 4 (.tup (.cons (.var 5) (.cons (.sub (.var 7) (.con (.int (0)))) (.cons (.sub (.sub (.var 6) (.var 8)) (.con (.int (0)))) .nil)))))
  .nil)
  .nil)
  .nil)
def L_links_to_1:S:=(.seq [(4,.own .fz)] (.fr [8,9] (.tp (.cons (.nm 8) (.cons (.nm 9) .nil))) (.itI (.call "link_fields" 2 .fz 3 φ_link_fields (.cons (.var 0) (.cons (.var 5) .nil))))
  L_links_to_2)
  .nil)
def L_links_to_0:S:=(.seq [(4,.own .fz)] (.fr [7] (.nm 7) (.itI (.sub (.call "shelf_of" 3 .fz 2 φ_shelf_of (.cons (.var 0) (.cons (.var 1) (.cons (.var 5) .nil)))) (.con (.int (1)))))
  L_links_to_1)
  .nil)
def ir_links_to:S:=(.seq [(4,.own .fz)] (.own 4 (.own .fz) (.lst .nil))
  (.seq [(4,.own .fz)] (.fr [5,6] (.tp (.cons (.nm 5) (.cons (.nm 6) .nil))) (.itI (.var 0))
  L_links_to_0)
  (.seq [(4,.own .fz)] (.ret (.bi .sorted (.cons (.var 4) .nil)))
  .nil)))
def φ_links_to:List D→R D:=runS 10 .fz ir_links_to
theorem sc_links_to:FnScope N_links_to ["schema", "store", "kind", "key"] (defScope s_links_to):=⟨rfl,rfl,rfl,by decide +kernel,rfl,by decide +kernel,by decide +kernel⟩
theorem ck_links_to:chkS N_links_to (defScope s_links_to) ir_links_to [] [] { t:=.fz } (.inr (defBody s_links_to))=true:=by decide +kernel
def N_law:List PySem.Str:=["script", "schema", "store", "many_of", "shelf", "name", "fields", "at", "book", "told", "value", "field", "sort", "key", "version", "values", "links", "count", "kind", "one", "*book", "**book"]
def E_law_0:T:=(.tup (.cons (.var 10) (.cons (.bi .len (.cons (.bkG 8 20 (.var 10)) .nil)) .nil)))
def E_law_1:T:=(.var 17)
def E_law_2:T:=(.var 13)
def J_law_2:T:=(.cmp .Eq (.tup (.cons (.var 18) (.cons (.var 19) .nil))) (.tup (.cons (.var 5) (.cons (.var 11) .nil))))
def L_law_3:S:=(.seq [] (.ite (.cmp .NotEq (.call "rows_with" 5 .fz 4 φ_rows_with (.cons (.var 1) (.cons (.var 2) (.cons (.var 5) (.cons (.var 11) (.cons (.var 10) .nil)))))) (.bi .sorted (.cons (.bkG 8 20 (.var 10)) .nil)))
  (.seq [] (.ret (.con (.bl false)))
  .nil)
  .nil)
  (.seq [] (.ite (.and (.cmp .Eq (.sub (.var 12) (.con (.int (0)))) (.con (.str "link"))) (.one (.cmp .IsNot (.var 10) (.con .non))))
  (.seq [] (.asg [16] (.nm 16) (.call "links_to" 4 .fz 4 φ_links_to (.cons (.var 1) (.cons (.var 2) (.cons (.sub (.var 12) (.con (.int (1)))) (.cons (.var 10) .nil))))))
  (.seq [] (.ite (.cmp .NotEq (.lc [("kind",18),("key",13),("one",19)] E_law_2 (.tp (.cons (.nm 18) (.cons (.nm 13) (.cons (.nm 19) .nil)))) (.itI (.var 16)) J_law_2) (.bi .sorted (.cons (.bkG 8 20 (.var 10)) .nil)))
  (.seq [] (.ret (.con (.bl false)))
  .nil)
  .nil)
  .nil))
  .nil)
  .nil))
def L_law_4:S:=(.seq [] (.ite (.and (.bkN 8 20 (.var 10)) (.one (.cmp .NotEq (.call "rows_with" 5 .fz 4 φ_rows_with (.cons (.var 1) (.cons (.var 2) (.cons (.var 5) (.cons (.var 11) (.cons (.var 10) .nil)))))) (.lst .nil))))
  (.seq [] (.ret (.con (.bl false)))
  .nil)
  .nil)
  .nil)
def L_law_1:S:=(.bk 8 20 [13,14,15] (.tp (.cons (.nm 13) (.cons (.nm 14) (.cons (.nm 15) .nil)))) (.itI (.sub (.var 4) (.con (.int (1))))) (.sub (.var 15) (.var 7)) (.var 13)
  (.seq [] (.asg [9] (.nm 9) (.call "value_counts" 4 (.own .fz) 4 φ_value_counts (.cons (.var 1) (.cons (.var 2) (.cons (.var 5) (.cons (.var 11) .nil))))))
  (.seq [] (.ite (.cmp .NotEq (.var 9) (.lc [("value",10)] E_law_0 (.nm 10) (.bkI 8 20) .no))
  (.seq [] (.ret (.con (.bl false)))
  .nil)
  .nil)
  (.seq [] (.ite (.cmp .NotEq (.bi .sum (.cons (.lc [("value",10),("count",17)] E_law_1 (.tp (.cons (.nm 10) (.cons (.nm 17) .nil))) (.itI (.var 9)) .no) .nil)) (.sub (.var 3) (.var 5)))
  (.seq [] (.ret (.con (.bl false)))
  .nil)
  .nil)
  (.seq [] (.fr [10] (.nm 10) (.bkI 8 20)
  L_law_3)
  (.seq [] (.fr [10] (.nm 10) (.itI (.tup (.cons (.con (.str "none of")) (.cons (.con (.int (7777))) (.cons (.con .non) (.cons (.con (.int (99))) .nil))))))
  L_law_4)
  .nil))))))
def L_law_0:S:=(.seq [] (.fr [7,11,12] (.tp (.cons (.nm 7) (.cons (.tp (.cons (.nm 11) (.cons (.nm 12) .nil))) .nil))) (.itE (.cons (.var 6) .nil))
  L_law_1)
  .nil)
def ir_law:S:=(.seq [] (.asg [1] (.nm 1) (.call "_law_schema" 2 .fz 4 φ__law_schema (.cons (.var 0) (.cons (.con (.int (0))) .nil))))
  (.seq [] (.asg [2] (.nm 2) (.call "_law_store" 4 .fz 5 φ__law_store (.cons (.var 0) (.cons (.con (.int (100))) (.cons (.var 1) (.cons (.con (.int (4))) .nil))))))
  (.seq [] (.asg [3] (.nm 3) (.dict (.call "row_counts" 2 .fz 4 φ_row_counts (.cons (.var 1) (.cons (.var 2) .nil)))))
  (.seq [] (.fr [5,6,4] (.tp (.cons (.tp (.cons (.nm 5) (.cons (.nm 6) .nil))) (.cons (.nm 4) .nil))) (.itZ (.cons (.var 1) (.cons (.var 2) .nil)))
  L_law_0)
  (.seq [] (.ret (.con (.bl true)))
  .nil)))))
def φ_law:List D→R D:=runS 22 .fz ir_law
theorem sc_law:FnScope N_law ["script"] (defScope s_law):=⟨rfl,rfl,rfl,by decide +kernel,rfl,by decide +kernel,by decide +kernel⟩
theorem ck_law:chkS N_law (defScope s_law) ir_law [] [] { t:=.fz } (.inr (defBody s_law))=true:=by decide +kernel
section
variable {M:Wld}
theorem walk (hBL : ∀ x ∈ BL, M.mg x = none)
    (u__law_cell:M.mg "_law_cell"=some (.ref (He.ga M.K "_law_cell"))) (d__law_cell:∃ fd,FunD M.K "_law_cell" "_law_cell" (defArgs s__law_cell) (defBody s__law_cell) (defScope s__law_cell) [] [] (He.ga M.K "_law_cell") fd)
    (u__law_pick:M.mg "_law_pick"=some (.ref (He.ga M.K "_law_pick"))) (d__law_pick:∃ fd,FunD M.K "_law_pick" "_law_pick" (defArgs s__law_pick) (defBody s__law_pick) (defScope s__law_pick) [] [] (He.ga M.K "_law_pick") fd)
    (u__law_sort:M.mg "_law_sort"=some (.ref (He.ga M.K "_law_sort"))) (d__law_sort:∃ fd,FunD M.K "_law_sort" "_law_sort" (defArgs s__law_sort) (defBody s__law_sort) (defScope s__law_sort) [] [] (He.ga M.K "_law_sort") fd)
    (u__law_schema:M.mg "_law_schema"=some (.ref (He.ga M.K "_law_schema"))) (d__law_schema:∃ fd,FunD M.K "_law_schema" "_law_schema" (defArgs s__law_schema) (defBody s__law_schema) (defScope s__law_schema) [] [] (He.ga M.K "_law_schema") fd)
    (u__law_counts:M.mg "_law_counts"=some (.ref (He.ga M.K "_law_counts"))) (d__law_counts:∃ fd,FunD M.K "_law_counts" "_law_counts" (defArgs s__law_counts) (defBody s__law_counts) (defScope s__law_counts) [] [] (He.ga M.K "_law_counts") fd)
    (u__law_plain:M.mg "_law_plain"=some (.ref (He.ga M.K "_law_plain"))) (d__law_plain:∃ fd,FunD M.K "_law_plain" "_law_plain" (defArgs s__law_plain) (defBody s__law_plain) (defScope s__law_plain) [] [] (He.ga M.K "_law_plain") fd)
    (u__law_value:M.mg "_law_value"=some (.ref (He.ga M.K "_law_value"))) (d__law_value:∃ fd,FunD M.K "_law_value" "_law_value" (defArgs s__law_value) (defBody s__law_value) (defScope s__law_value) [] [] (He.ga M.K "_law_value") fd)
    (u__law_store:M.mg "_law_store"=some (.ref (He.ga M.K "_law_store"))) (d__law_store:∃ fd,FunD M.K "_law_store" "_law_store" (defArgs s__law_store) (defBody s__law_store) (defScope s__law_store) [] [] (He.ga M.K "_law_store") fd)
    (u_kind_names:M.mg "kind_names"=some (.ref (He.ga M.K "kind_names"))) (d_kind_names:∃ fd,FunD M.K "kind_names" "kind_names" (defArgs s_kind_names) (defBody s_kind_names) (defScope s_kind_names) [] [] (He.ga M.K "kind_names") fd)
    (u_shelf_of:M.mg "shelf_of"=some (.ref (He.ga M.K "shelf_of"))) (d_shelf_of:∃ fd,FunD M.K "shelf_of" "shelf_of" (defArgs s_shelf_of) (defBody s_shelf_of) (defScope s_shelf_of) [] [] (He.ga M.K "shelf_of") fd)
    (u_keys_of:M.mg "keys_of"=some (.ref (He.ga M.K "keys_of"))) (d_keys_of:∃ fd,FunD M.K "keys_of" "keys_of" (defArgs s_keys_of) (defBody s_keys_of) (defScope s_keys_of) [] [] (He.ga M.K "keys_of") fd)
    (u_row_counts:M.mg "row_counts"=some (.ref (He.ga M.K "row_counts"))) (d_row_counts:∃ fd,FunD M.K "row_counts" "row_counts" (defArgs s_row_counts) (defBody s_row_counts) (defScope s_row_counts) [] [] (He.ga M.K "row_counts") fd)
    (u_fields_of:M.mg "fields_of"=some (.ref (He.ga M.K "fields_of"))) (d_fields_of:∃ fd,FunD M.K "fields_of" "fields_of" (defArgs s_fields_of) (defBody s_fields_of) (defScope s_fields_of) [] [] (He.ga M.K "fields_of") fd)
    (u_place_of:M.mg "place_of"=some (.ref (He.ga M.K "place_of"))) (d_place_of:∃ fd,FunD M.K "place_of" "place_of" (defArgs s_place_of) (defBody s_place_of) (defScope s_place_of) [] [] (He.ga M.K "place_of") fd)
    (u_value_counts:M.mg "value_counts"=some (.ref (He.ga M.K "value_counts"))) (d_value_counts:∃ fd,FunD M.K "value_counts" "value_counts" (defArgs s_value_counts) (defBody s_value_counts) (defScope s_value_counts) [] [] (He.ga M.K "value_counts") fd)
    (u_rows_with:M.mg "rows_with"=some (.ref (He.ga M.K "rows_with"))) (d_rows_with:∃ fd,FunD M.K "rows_with" "rows_with" (defArgs s_rows_with) (defBody s_rows_with) (defScope s_rows_with) [] [] (He.ga M.K "rows_with") fd)
    (u_is_plain:M.mg "is_plain"=some (.ref (He.ga M.K "is_plain"))) (d_is_plain:∃ fd,FunD M.K "is_plain" "is_plain" (defArgs s_is_plain) (defBody s_is_plain) (defScope s_is_plain) [] [] (He.ga M.K "is_plain") fd)
    (u_link_fields:M.mg "link_fields"=some (.ref (He.ga M.K "link_fields"))) (d_link_fields:∃ fd,FunD M.K "link_fields" "link_fields" (defArgs s_link_fields) (defBody s_link_fields) (defScope s_link_fields) [] [] (He.ga M.K "link_fields") fd)
    (u_links_to:M.mg "links_to"=some (.ref (He.ga M.K "links_to"))) (d_links_to:∃ fd,FunD M.K "links_to" "links_to" (defArgs s_links_to) (defBody s_links_to) (defScope s_links_to) [] [] (He.ga M.K "links_to") fd)
    {fd:FuncData} (F:FunD M.K "law" "law" (defArgs s_law) (defBody s_law) (defScope s_law) [] [] (He.ga M.K "law") fd)
    :FnOk M.P M.w M.K M.mg M.base (L2.CX M.P M.w) 6 (He.ga M.K "law") fd ["script"] (spD M.K 1 .fz φ_law):=by
  have F__law_cell:∀ k,1≤k→(M.kn k).FK "_law_cell" 2 .fz 1 φ__law_cell:=by
    obtain ⟨fd,F⟩:=d__law_cell
    intro k hk
    exact ⟨hk,fok_of (k:=0) hBL u__law_cell F sc__law_cell (fun _ _ _ _ _ _ us hl=>match us,hl with | [_,_],_=>rfl) ⟨⟨⟨trivial,⟨trivial,trivial⟩⟩,⟨⟨trivial,trivial⟩,trivial⟩,trivial⟩,⟨⟨⟨trivial,trivial⟩,⟨trivial,trivial⟩,trivial⟩,⟨⟨⟨⟨trivial,⟨trivial,⟨trivial,trivial⟩⟩⟩,trivial⟩,trivial⟩,trivial⟩⟩⟩ ck__law_cell⟩
  have F__law_pick:∀ k,2≤k→(M.kn k).FK "_law_pick" 3 .fz 2 φ__law_pick:=by
    obtain ⟨fd,F⟩:=d__law_pick
    intro k hk
    exact ⟨hk,fok_of (k:=1) hBL u__law_pick F sc__law_pick (fun _ _ _ _ _ _ us hl=>match us,hl with | [_,_,_],_=>rfl) ⟨⟨⟨⟨⟨(F__law_cell 1 (by decide)),⟨trivial,⟨trivial,trivial⟩⟩⟩,⟨trivial,⟨trivial,trivial⟩⟩⟩,trivial⟩,trivial⟩,⟨⟨⟨⟨⟨trivial,trivial⟩,⟨trivial,trivial⟩⟩,trivial⟩,trivial⟩,trivial⟩⟩ ck__law_pick⟩
  have F__law_sort:∀ k,3≤k→(M.kn k).FK "_law_sort" 3 .fz 3 φ__law_sort:=by
    obtain ⟨fd,F⟩:=d__law_sort
    intro k hk
    exact ⟨hk,fok_of (k:=2) hBL u__law_sort F sc__law_sort (fun _ _ _ _ _ _ us hl=>match us,hl with | [_,_,_],_=>rfl) ⟨⟨(F__law_pick 2 (by decide)),⟨trivial,⟨trivial,⟨trivial,trivial⟩⟩⟩⟩,⟨⟨⟨trivial,trivial⟩,⟨⟨⟨trivial,⟨trivial,⟨trivial,trivial⟩⟩⟩,trivial⟩,trivial⟩,trivial⟩,⟨⟨⟨(F__law_pick 2 (by decide)),⟨trivial,⟨⟨trivial,trivial⟩,⟨trivial,trivial⟩⟩⟩⟩,trivial⟩,⟨⟨⟨trivial,⟨trivial,⟨trivial,trivial⟩⟩⟩,⟨(F__law_pick 2 (by decide)),⟨trivial,⟨⟨trivial,trivial⟩,⟨trivial,trivial⟩⟩⟩⟩⟩,⟨⟨⟨⟨trivial,trivial⟩,trivial⟩,⟨trivial,trivial⟩,trivial⟩,⟨⟨trivial,⟨⟨trivial,⟨(F__law_pick 2 (by decide)),⟨trivial,⟨⟨trivial,trivial⟩,⟨⟨trivial,trivial⟩,trivial⟩⟩⟩⟩⟩,⟨trivial,⟨trivial,trivial⟩⟩⟩⟩,trivial⟩⟩⟩⟩⟩⟩ ck__law_sort⟩
  have F__law_schema:∀ k,4≤k→(M.kn k).FK "_law_schema" 2 .fz 4 φ__law_schema:=by
    obtain ⟨fd,F⟩:=d__law_schema
    intro k hk
    exact ⟨hk,fok_of (k:=3) hBL u__law_schema F sc__law_schema (fun _ _ _ _ _ _ us hl=>match us,hl with | [_,_],_=>rfl) ⟨⟨⟨⟨trivial,⟨trivial,⟨trivial,⟨trivial,trivial⟩⟩⟩⟩,⟨(F__law_pick 3 (by decide)),⟨trivial,⟨trivial,⟨trivial,trivial⟩⟩⟩⟩,trivial⟩,trivial,⟨trivial,⟨(F__law_pick 3 (by decide)),⟨trivial,⟨⟨trivial,trivial⟩,⟨trivial,trivial⟩⟩⟩⟩⟩⟩,⟨trivial,⟨⟨⟨trivial,trivial⟩,⟨⟨trivial,⟨(F__law_pick 3 (by decide)),⟨trivial,⟨⟨⟨trivial,trivial⟩,⟨trivial,trivial⟩⟩,⟨trivial,trivial⟩⟩⟩⟩⟩,⟨⟨⟨⟨⟨trivial,trivial⟩,⟨trivial,trivial⟩⟩,⟨⟨(F__law_sort 3 (by decide)),⟨trivial,⟨⟨⟨⟨trivial,trivial⟩,⟨trivial,trivial⟩⟩,⟨trivial,trivial⟩⟩,⟨trivial,trivial⟩⟩⟩⟩,trivial⟩⟩,⟨trivial,trivial⟩,trivial⟩,⟨⟨trivial,⟨⟨trivial,trivial⟩,trivial⟩⟩,trivial⟩⟩⟩⟩,⟨⟨trivial,trivial⟩,trivial⟩⟩⟩⟩ ck__law_schema⟩
  have F__law_counts:∀ k,3≤k→(M.kn k).FK "_law_counts" 4 .fz 3 φ__law_counts:=by
    obtain ⟨fd,F⟩:=d__law_counts
    intro k hk
    exact ⟨hk,fok_of (k:=2) hBL u__law_counts F sc__law_counts (fun _ _ _ _ _ _ us hl=>match us,hl with | [_,_,_,_],_=>rfl) ⟨trivial,⟨⟨⟨trivial,trivial⟩,⟨⟨⟨trivial,trivial⟩,⟨(F__law_pick 2 (by decide)),⟨trivial,⟨⟨trivial,trivial⟩,⟨⟨trivial,trivial⟩,trivial⟩⟩⟩⟩⟩,trivial⟩⟩,⟨⟨⟨⟨trivial,trivial⟩,trivial⟩,⟨⟨trivial,⟨⟨trivial,⟨⟨⟨⟨⟨trivial,trivial⟩,trivial⟩,⟨⟨trivial,trivial⟩,⟨⟨trivial,⟨trivial,trivial⟩⟩,trivial⟩⟩⟩,⟨⟨trivial,trivial⟩,trivial⟩,trivial⟩,trivial⟩⟩,trivial⟩⟩,trivial⟩⟩,⟨trivial,trivial⟩⟩⟩⟩ ck__law_counts⟩
  have F__law_plain:∀ k,3≤k→(M.kn k).FK "_law_plain" 3 .fz 3 φ__law_plain:=by
    obtain ⟨fd,F⟩:=d__law_plain
    intro k hk
    exact ⟨hk,fok_of (k:=2) hBL u__law_plain F sc__law_plain (fun _ _ _ _ _ _ us hl=>match us,hl with | [_,_,_],_=>rfl) ⟨⟨(F__law_pick 2 (by decide)),⟨trivial,⟨trivial,⟨⟨trivial,trivial⟩,trivial⟩⟩⟩⟩,⟨⟨⟨trivial,trivial⟩,⟨⟨⟨trivial,⟨trivial,⟨trivial,⟨trivial,⟨trivial,⟨⟨⟨trivial,trivial⟩,trivial⟩,⟨⟨⟨trivial,trivial⟩,trivial⟩,trivial⟩⟩⟩⟩⟩⟩⟩,⟨⟨trivial,trivial⟩,trivial⟩⟩,trivial⟩,trivial⟩,⟨trivial,⟨⟨trivial,⟨⟨trivial,⟨(F__law_pick 2 (by decide)),⟨trivial,⟨⟨trivial,trivial⟩,⟨trivial,trivial⟩⟩⟩⟩⟩,⟨⟨⟨trivial,⟨trivial,⟨trivial,⟨trivial,⟨trivial,trivial⟩⟩⟩⟩⟩,⟨trivial,trivial⟩⟩,trivial⟩,trivial⟩⟩,trivial⟩⟩⟩⟩ ck__law_plain⟩
  have F__law_value:∀ k,4≤k→(M.kn k).FK "_law_value" 4 .fz 4 φ__law_value:=by
    obtain ⟨fd,F⟩:=d__law_value
    intro k hk
    exact ⟨hk,fok_of (k:=3) hBL u__law_value F sc__law_value (fun _ _ _ _ _ _ us hl=>match us,hl with | [_,_,_,_],_=>rfl) ⟨⟨⟨⟨trivial,trivial⟩,trivial⟩,⟨⟨(F__law_plain 3 (by decide)),⟨trivial,⟨trivial,⟨trivial,trivial⟩⟩⟩⟩,trivial⟩,trivial⟩,⟨⟨trivial,⟨trivial,trivial⟩⟩,⟨⟨⟨⟨trivial,trivial⟩,⟨⟨trivial,trivial⟩,⟨⟨(F__law_pick 3 (by decide)),⟨trivial,⟨trivial,⟨trivial,trivial⟩⟩⟩⟩,trivial⟩⟩⟩,⟨trivial,trivial⟩,trivial⟩,⟨⟨trivial,⟨(F__law_pick 3 (by decide)),⟨trivial,⟨⟨trivial,trivial⟩,⟨⟨trivial,trivial⟩,trivial⟩⟩⟩⟩⟩,trivial⟩⟩⟩⟩ ck__law_value⟩
  have F__law_store:∀ k,5≤k→(M.kn k).FK "_law_store" 4 .fz 5 φ__law_store:=by
    obtain ⟨fd,F⟩:=d__law_store
    intro k hk
    exact ⟨hk,fok_of (k:=4) hBL u__law_store F sc__law_store (fun _ _ _ _ _ _ us hl=>match us,hl with | [_,_,_,_],_=>rfl) ⟨⟨(F__law_counts 4 (by decide)),⟨trivial,⟨trivial,⟨trivial,⟨trivial,trivial⟩⟩⟩⟩⟩,⟨trivial,⟨⟨⟨trivial,trivial⟩,⟨trivial,⟨⟨⟨⟨trivial,⟨trivial,trivial⟩⟩,trivial⟩,⟨⟨⟨⟨⟨⟨trivial,trivial⟩,trivial⟩,trivial⟩,trivial⟩,⟨(F__law_pick 4 (by decide)),⟨trivial,⟨⟨⟨⟨trivial,trivial⟩,⟨trivial,trivial⟩⟩,trivial⟩,⟨trivial,trivial⟩⟩⟩⟩⟩,trivial⟩⟩,⟨⟨⟨trivial,trivial⟩,trivial⟩,trivial⟩⟩⟩⟩,⟨trivial,⟨⟨⟨trivial,trivial⟩,⟨trivial,⟨⟨⟨⟨trivial,trivial⟩,trivial⟩,⟨⟨⟨⟨trivial,trivial⟩,⟨trivial,trivial⟩⟩,⟨trivial,trivial⟩⟩,⟨⟨⟨(F__law_value 4 (by decide)),⟨trivial,⟨⟨trivial,⟨trivial,trivial⟩⟩,⟨⟨trivial,trivial⟩,⟨trivial,trivial⟩⟩⟩⟩⟩,⟨trivial,trivial⟩,trivial⟩,⟨⟨trivial,⟨⟨trivial,⟨(F__law_pick 4 (by decide)),⟨trivial,⟨⟨trivial,trivial⟩,⟨trivial,trivial⟩⟩⟩⟩⟩,⟨⟨trivial,trivial⟩,trivial⟩⟩⟩,trivial⟩⟩⟩⟩,⟨⟨⟨⟨⟨⟨⟨trivial,trivial⟩,⟨trivial,trivial⟩⟩,trivial⟩,trivial⟩,⟨(F__law_pick 4 (by decide)),⟨trivial,⟨⟨trivial,trivial⟩,⟨trivial,trivial⟩⟩⟩⟩⟩,⟨⟨trivial,trivial⟩,trivial⟩⟩,trivial⟩⟩⟩⟩,⟨⟨trivial,trivial⟩,trivial⟩⟩⟩⟩⟩⟩ ck__law_store⟩
  have F_kind_names:∀ k,1≤k→(M.kn k).FK "kind_names" 1 .fz 1 φ_kind_names:=by
    obtain ⟨fd,F⟩:=d_kind_names
    intro k hk
    exact ⟨hk,fok_of (k:=0) hBL u_kind_names F sc_kind_names (fun _ _ _ _ _ _ us hl=>match us,hl with | [_],_=>rfl) ⟨⟨⟨trivial,trivial⟩,trivial,trivial⟩,trivial⟩ ck_kind_names⟩
  have F_shelf_of:∀ k,2≤k→(M.kn k).FK "shelf_of" 3 .fz 2 φ_shelf_of:=by
    obtain ⟨fd,F⟩:=d_shelf_of
    intro k hk
    exact ⟨hk,fok_of (k:=1) hBL u_shelf_of F sc_shelf_of (fun _ _ _ _ _ _ us hl=>match us,hl with | [_,_,_],_=>rfl) ⟨⟨trivial,⟨⟨(F_kind_names 1 (by decide)),⟨trivial,trivial⟩⟩,trivial⟩⟩,trivial⟩ ck_shelf_of⟩
  have F_keys_of:∀ k,3≤k→(M.kn k).FK "keys_of" 3 .fz 3 φ_keys_of:=by
    obtain ⟨fd,F⟩:=d_keys_of
    intro k hk
    exact ⟨hk,fok_of (k:=2) hBL u_keys_of F sc_keys_of (fun _ _ _ _ _ _ us hl=>match us,hl with | [_,_,_],_=>rfl) ⟨⟨⟨trivial,trivial⟩,⟨⟨(F_shelf_of 2 (by decide)),⟨trivial,⟨trivial,⟨trivial,trivial⟩⟩⟩⟩,trivial⟩,trivial⟩,trivial⟩ ck_keys_of⟩
  have F_row_counts:∀ k,4≤k→(M.kn k).FK "row_counts" 2 .fz 4 φ_row_counts:=by
    obtain ⟨fd,F⟩:=d_row_counts
    intro k hk
    exact ⟨hk,fok_of (k:=3) hBL u_row_counts F sc_row_counts (fun _ _ _ _ _ _ us hl=>match us,hl with | [_,_],_=>rfl) ⟨⟨⟨trivial,⟨⟨⟨(F_keys_of 3 (by decide)),⟨trivial,⟨trivial,⟨trivial,trivial⟩⟩⟩⟩,trivial⟩,trivial⟩⟩,⟨(F_kind_names 3 (by decide)),⟨trivial,trivial⟩⟩,trivial⟩,trivial⟩ ck_row_counts⟩
  have F_fields_of:∀ k,2≤k→(M.kn k).FK "fields_of" 2 .fz 2 φ_fields_of:=by
    obtain ⟨fd,F⟩:=d_fields_of
    intro k hk
    exact ⟨hk,fok_of (k:=1) hBL u_fields_of F sc_fields_of (fun _ _ _ _ _ _ us hl=>match us,hl with | [_,_],_=>rfl) ⟨⟨⟨trivial,⟨⟨(F_kind_names 1 (by decide)),⟨trivial,trivial⟩⟩,trivial⟩⟩,trivial⟩,trivial⟩ ck_fields_of⟩
  have F_place_of:∀ k,3≤k→(M.kn k).FK "place_of" 3 .fz 3 φ_place_of:=by
    obtain ⟨fd,F⟩:=d_place_of
    intro k hk
    exact ⟨hk,fok_of (k:=2) hBL u_place_of F sc_place_of (fun _ _ _ _ _ _ us hl=>match us,hl with | [_,_,_],_=>rfl) ⟨⟨⟨⟨trivial,trivial⟩,⟨(F_fields_of 2 (by decide)),⟨trivial,⟨trivial,trivial⟩⟩⟩,trivial⟩,trivial⟩,trivial⟩ ck_place_of⟩
  have F_value_counts:∀ k,4≤k→(M.kn k).FK "value_counts" 4 (.own .fz) 4 φ_value_counts:=by
    obtain ⟨fd,F⟩:=d_value_counts
    intro k hk
    exact ⟨hk,fok_of (k:=3) hBL u_value_counts F sc_value_counts (fun _ _ _ _ _ _ us hl=>match us,hl with | [_,_,_,_],_=>rfl) ⟨⟨(F_place_of 3 (by decide)),⟨trivial,⟨trivial,⟨trivial,trivial⟩⟩⟩⟩,⟨⟨⟨(F_shelf_of 3 (by decide)),⟨trivial,⟨trivial,⟨trivial,trivial⟩⟩⟩⟩,trivial⟩,⟨⟨trivial,trivial⟩,trivial⟩⟩⟩ ck_value_counts⟩
  have F_rows_with:∀ k,4≤k→(M.kn k).FK "rows_with" 5 .fz 4 φ_rows_with:=by
    obtain ⟨fd,F⟩:=d_rows_with
    intro k hk
    exact ⟨hk,fok_of (k:=3) hBL u_rows_with F sc_rows_with (fun _ _ _ _ _ _ us hl=>match us,hl with | [_,_,_,_,_],_=>rfl) ⟨⟨(F_place_of 3 (by decide)),⟨trivial,⟨trivial,⟨trivial,trivial⟩⟩⟩⟩,⟨⟨⟨trivial,trivial⟩,⟨⟨(F_shelf_of 3 (by decide)),⟨trivial,⟨trivial,⟨trivial,trivial⟩⟩⟩⟩,trivial⟩,⟨⟨⟨trivial,trivial⟩,trivial⟩,trivial⟩⟩,trivial⟩⟩ ck_rows_with⟩
  have F_is_plain:∀ k,1≤k→(M.kn k).FK "is_plain" 1 .fz 1 φ_is_plain:=by
    obtain ⟨fd,F⟩:=d_is_plain
    intro k hk
    exact ⟨hk,fok_of (k:=0) hBL u_is_plain F sc_is_plain (fun _ _ _ _ _ _ us hl=>match us,hl with | [_],_=>rfl) ⟨trivial,trivial⟩ ck_is_plain⟩
  have F_link_fields:∀ k,3≤k→(M.kn k).FK "link_fields" 2 .fz 3 φ_link_fields:=by
    obtain ⟨fd,F⟩:=d_link_fields
    intro k hk
    exact ⟨hk,fok_of (k:=2) hBL u_link_fields F sc_link_fields (fun _ _ _ _ _ _ us hl=>match us,hl with | [_,_],_=>rfl) ⟨⟨⟨trivial,⟨⟨trivial,trivial⟩,trivial⟩⟩,⟨⟨(F_fields_of 2 (by decide)),⟨trivial,⟨trivial,trivial⟩⟩⟩,trivial⟩,⟨(F_is_plain 2 (by decide)),⟨⟨trivial,trivial⟩,trivial⟩⟩⟩,trivial⟩ ck_link_fields⟩
  have F_links_to:∀ k,4≤k→(M.kn k).FK "links_to" 4 .fz 4 φ_links_to:=by
    obtain ⟨fd,F⟩:=d_links_to
    intro k hk
    exact ⟨hk,fok_of (k:=3) hBL u_links_to F sc_links_to (fun _ _ _ _ _ _ us hl=>match us,hl with | [_,_,_,_],_=>rfl) ⟨trivial,⟨⟨trivial,⟨⟨⟨⟨(F_shelf_of 3 (by decide)),⟨trivial,⟨trivial,⟨trivial,trivial⟩⟩⟩⟩,trivial⟩,⟨⟨⟨(F_link_fields 3 (by decide)),⟨trivial,⟨trivial,trivial⟩⟩⟩,⟨⟨⟨⟨⟨trivial,trivial⟩,trivial⟩,⟨⟨⟨trivial,trivial⟩,trivial⟩,trivial⟩⟩,⟨⟨trivial,⟨⟨trivial,trivial⟩,⟨⟨⟨trivial,trivial⟩,trivial⟩,trivial⟩⟩⟩,trivial⟩,trivial⟩,trivial⟩⟩,trivial⟩⟩,trivial⟩⟩,⟨⟨trivial,trivial⟩,trivial⟩⟩⟩ ck_links_to⟩
  exact fn_ok (k:=5) hBL F sc_law ⟨⟨(F__law_schema 5 (by decide)),⟨trivial,⟨trivial,trivial⟩⟩⟩,⟨⟨(F__law_store 5 (by decide)),⟨trivial,⟨trivial,⟨trivial,⟨trivial,trivial⟩⟩⟩⟩⟩,⟨⟨(F_row_counts 5 (by decide)),⟨trivial,⟨trivial,trivial⟩⟩⟩,⟨⟨⟨trivial,⟨trivial,trivial⟩⟩,⟨⟨⟨trivial,trivial⟩,⟨rfl,⟨trivial,trivial⟩,⟨trivial,trivial⟩,trivial,⟨⟨(F_value_counts 5 (by decide)),⟨trivial,⟨trivial,⟨trivial,⟨trivial,trivial⟩⟩⟩⟩⟩,⟨⟨⟨trivial,⟨⟨trivial,⟨⟨⟨⟨rfl,rfl⟩,trivial⟩,trivial⟩,trivial⟩⟩,⟨rfl,rfl⟩,trivial⟩⟩,⟨trivial,trivial⟩,trivial⟩,⟨⟨⟨⟨⟨trivial,trivial,trivial⟩,trivial⟩,⟨trivial,trivial⟩⟩,⟨trivial,trivial⟩,trivial⟩,⟨⟨⟨rfl,rfl⟩,⟨⟨⟨⟨(F_rows_with 5 (by decide)),⟨trivial,⟨trivial,⟨trivial,⟨trivial,⟨trivial,trivial⟩⟩⟩⟩⟩⟩,⟨⟨⟨rfl,rfl⟩,trivial⟩,trivial⟩⟩,⟨trivial,trivial⟩,trivial⟩,⟨⟨⟨⟨⟨trivial,trivial⟩,trivial⟩,⟨trivial,trivial⟩⟩,⟨⟨(F_links_to 5 (by decide)),⟨trivial,⟨trivial,⟨⟨trivial,trivial⟩,⟨trivial,trivial⟩⟩⟩⟩⟩,⟨⟨⟨⟨trivial,trivial,⟨⟨trivial,⟨trivial,trivial⟩⟩,⟨trivial,⟨trivial,trivial⟩⟩⟩⟩,⟨⟨⟨rfl,rfl⟩,trivial⟩,trivial⟩⟩,⟨trivial,trivial⟩,trivial⟩,trivial⟩⟩,trivial⟩,trivial⟩⟩⟩,⟨⟨⟨trivial,⟨trivial,⟨trivial,⟨trivial,trivial⟩⟩⟩⟩,⟨⟨⟨⟨⟨rfl,rfl⟩,trivial⟩,⟨⟨(F_rows_with 5 (by decide)),⟨trivial,⟨trivial,⟨trivial,⟨trivial,⟨trivial,trivial⟩⟩⟩⟩⟩⟩,trivial⟩⟩,⟨trivial,trivial⟩,trivial⟩,trivial⟩⟩,trivial⟩⟩⟩⟩⟩⟩⟩,trivial⟩⟩,⟨trivial,trivial⟩⟩⟩⟩⟩ ck_law
end
end Wk
namespace Wk
open PySem PySem.Spec L2 Hr
theorem facts {P : Program} {w : World} {K : PySem.W.Frag} {h : Heap} {mg : PySem.Str → Option Value} {f : Addr} (X : K.In h) (G : h.Ns mainGlobals mg) (hfa : mg ("law" : PySem.Str) = some (.ref f)) (c : SaysX Hd.fa Hd.fn Hd.fx h K)
    (hp:∀ ns:List Int,ns.length≤63→φ_law [.arr (ns.map D.int)]=.ok (.bl true)) :
    ∃ (fd:FuncData) (sp:Sp),(∀ (s:Shared) (v:Value),BindsTo s fd ⟨[v],[]⟩ [("script",v)])∧(∀ (H:Hp) (a:Addr) (ns:List Int),ns.length≤63→(∀ p∈tabC K,H p.2=some (.tbl #[]))→SqL K H a (ns.map V.int)→sp [.ref a] H (fun v _=>v=.bl true) fun _ _ _=>False) ∧
      ∀ base:Heap,K.In base→base.Ns mainGlobals mg→(∀ p∈tabC K,LamX.TabB base mg p.1 p.2)→FnOk P w K mg base (L2.CX P w) 6 f fd ["script"] sp:=by
  have cd:=c.d
  obtain ⟨fd,F⟩:=cd.def_ Hd.ix_law (d:=Hd.d_law) rfl
  have e:=hfa.symm.trans (He.glo_ok X G (cd.fact Hd.fx_law (f:=.glo "law") rfl))
  cases e
  have b:=FunD.bindsA (ps:=["script"]) F fun _ _ _ _ _ _ us hl=>match us,hl with | [_],_=>rfl
  refine ⟨fd,_,fun s v=>b s [v] rfl,fun H a ns hl hT hS=>law_end hl hT hS (hp ns hl),fun base _ _ hTB=>?_⟩
  refine walk (M:=⟨P,w,K,mg,base⟩) (fun x hx=>?_)
    (He.glo_ok X G (cd.fact Hd.fx__law_cell (f:=.glo "_law_cell") rfl)) (cd.def_ Hd.ix__law_cell (d:=Hd.d__law_cell) rfl)
    (He.glo_ok X G (cd.fact Hd.fx__law_pick (f:=.glo "_law_pick") rfl)) (cd.def_ Hd.ix__law_pick (d:=Hd.d__law_pick) rfl)
    (He.glo_ok X G (cd.fact Hd.fx__law_sort (f:=.glo "_law_sort") rfl)) (cd.def_ Hd.ix__law_sort (d:=Hd.d__law_sort) rfl)
    (He.glo_ok X G (cd.fact Hd.fx__law_schema (f:=.glo "_law_schema") rfl)) (cd.def_ Hd.ix__law_schema (d:=Hd.d__law_schema) rfl)
    (He.glo_ok X G (cd.fact Hd.fx__law_counts (f:=.glo "_law_counts") rfl)) (cd.def_ Hd.ix__law_counts (d:=Hd.d__law_counts) rfl)
    (He.glo_ok X G (cd.fact Hd.fx__law_plain (f:=.glo "_law_plain") rfl)) (cd.def_ Hd.ix__law_plain (d:=Hd.d__law_plain) rfl)
    (He.glo_ok X G (cd.fact Hd.fx__law_value (f:=.glo "_law_value") rfl)) (cd.def_ Hd.ix__law_value (d:=Hd.d__law_value) rfl)
    (He.glo_ok X G (cd.fact Hd.fx__law_store (f:=.glo "_law_store") rfl)) (cd.def_ Hd.ix__law_store (d:=Hd.d__law_store) rfl)
    (He.glo_ok X G (cd.fact Hd.fx_kind_names (f:=.glo "kind_names") rfl)) (cd.def_ Hd.ix_kind_names (d:=Hd.d_kind_names) rfl)
    (He.glo_ok X G (cd.fact Hd.fx_shelf_of (f:=.glo "shelf_of") rfl)) (cd.def_ Hd.ix_shelf_of (d:=Hd.d_shelf_of) rfl)
    (He.glo_ok X G (cd.fact Hd.fx_keys_of (f:=.glo "keys_of") rfl)) (cd.def_ Hd.ix_keys_of (d:=Hd.d_keys_of) rfl)
    (He.glo_ok X G (cd.fact Hd.fx_row_counts (f:=.glo "row_counts") rfl)) (cd.def_ Hd.ix_row_counts (d:=Hd.d_row_counts) rfl)
    (He.glo_ok X G (cd.fact Hd.fx_fields_of (f:=.glo "fields_of") rfl)) (cd.def_ Hd.ix_fields_of (d:=Hd.d_fields_of) rfl)
    (He.glo_ok X G (cd.fact Hd.fx_place_of (f:=.glo "place_of") rfl)) (cd.def_ Hd.ix_place_of (d:=Hd.d_place_of) rfl)
    (He.glo_ok X G (cd.fact Hd.fx_value_counts (f:=.glo "value_counts") rfl)) (cd.def_ Hd.ix_value_counts (d:=Hd.d_value_counts) rfl)
    (He.glo_ok X G (cd.fact Hd.fx_rows_with (f:=.glo "rows_with") rfl)) (cd.def_ Hd.ix_rows_with (d:=Hd.d_rows_with) rfl)
    (He.glo_ok X G (cd.fact Hd.fx_is_plain (f:=.glo "is_plain") rfl)) (cd.def_ Hd.ix_is_plain (d:=Hd.d_is_plain) rfl)
    (He.glo_ok X G (cd.fact Hd.fx_link_fields (f:=.glo "link_fields") rfl)) (cd.def_ Hd.ix_link_fields (d:=Hd.d_link_fields) rfl)
    (He.glo_ok X G (cd.fact Hd.fx_links_to (f:=.glo "links_to") rfl)) (cd.def_ Hd.ix_links_to (d:=Hd.d_links_to) rfl)
    F
  · exact He.free_ok X G (cd.facts (f:=.free x) (free_in (by decide +kernel) hx))
end Wk
end
section
open Hr PySem
namespace Pu
theorem pls_ints:∀ ns:List Int,D.pls (ns.map D.int)=true
  | []=>rfl
  | n :: ns=>by show (D.pl (.int n) && D.pls (ns.map D.int))=true; rw [pls_ints ns]; rfl
abbrev A (ns:List Int):D:=.arr (ns.map D.int)
theorem A_nil (ns:List Int):dEq (A ns) (.lst [])=.ok ns.isEmpty:=by
  unfold dEq
  have h1:(A ns).pl=true:=pls_ints ns
  have h2:(D.lst []).pl=true:=rfl
  have h3:(D.lst []).dep≤60:=by decide
  rw [h1,h2,if_pos (by simp; omega)]
  cases ns with
  | nil=>rfl
  | cons n ns=>rfl
theorem A_sub {ns:List Int} {k:Nat} {c:Int} (h:ns[k]?=some c):dSub2 (A ns) (.int (k:Int))=.ok (.int c):=sub_a (by rw [List.getElem?_map,h]; rfl)
end Pu
end
section
open Hr Wk PySem
namespace Pu
theorem cell_ok (ns:List Int) (k:Nat):∃ c,φ__law_cell [A ns,.int k]=.ok (.int c):=by
  unfold φ__law_cell runS ir__law_cell
  by_cases hk:k < ns.length
  · have hS:ns[k]?=some ns[k]:=by simp [hk]
    have hs:=A_sub hS
    have hd:decide ((k:Int) < (ns.length:Int))=true:=decide_eq_true (by omega)
    refine ⟨ns[k],?_⟩
    simp [eVar,hk,hs]
  · by_cases he:ns=[]
    · subst he
      refine ⟨0,?_⟩
      have:=A_nil []
      simp at this
      have h0:decide ((k:Int) < 0)=false:=by simp
      simp [eVar,this,h0]
    · have hp:0 < ns.length:=List.length_pos_iff.mpr he
      have hm:k % ns.length < ns.length:=Nat.mod_lt _ hp
      have hS:ns[k % ns.length]?=some ns[k % ns.length]:=by simp [hm]
      have ha:=A_nil ns
      have hi:ns.isEmpty=false:=by cases ns with | nil=>exact absurd rfl he | cons _ _=>rfl
      rw [hi] at ha
      refine ⟨ns[k % ns.length] * 31 + k,?_⟩
      have hs:=A_sub hS
      simp [eVar,hk,ha,mod_i (show (0:Int) < ns.length by omega),← Int.natCast_emod,hs,mul_r (show nrw 31=true by decide)]
theorem pick_ok (ns:List Int) (k:Nat) {m:Int} (hm:0 < m):∃ c,φ__law_pick [A ns,.int k,.int m]=.ok (.int c)∧0≤c∧c < m:=by
  obtain ⟨c,hc⟩:=cell_ok ns k
  unfold φ__law_pick runS ir__law_pick
  generalize hd:(c + 6151 * ((k:Int) + 1)) * 40692 % 2147483399=d
  have hn:nrw d=true:=by unfold nrw; exact decide_eq_true (by omega)
  refine ⟨(d * d + d / 31) % 2147483629 % m,?_,Int.emod_nonneg _ (by omega),Int.emod_lt_of_pos _ hm⟩
  simp [eVar,hc,ftName,mul_l (show nrw 6151=true by decide),mul_r (show nrw 40692=true by decide),mod_i (show (0:Int) < 2147483399 by decide),mod_i (show (0:Int) < 2147483629 by decide),mod_i hm,hd,div_i (show (0:Int) < 31 by decide) (by decide),mul_r hn]
inductive Srt where
  | num | txt | lnk (g:Str) (may:Bool) (rule:Str)
def Srt.d:Srt→D
  | .num=>.str "number"
  | .txt=>.str "text"
  | .lnk g m r=>.tup [.str "link",.str g,.bl m,.str r]
def Srt.goal:Srt→Option Str
  | .lnk g _ _=>some g
  | _=>none
theorem sub_ls {xs:List D} {i:Int} {n:Nat} (h:xs.length=n) (h0:0≤i) (h1:i < n):∃ x,dSub2 (.lst xs) (.int i)=.ok x∧xs[i.toNat]?=some x:=by
  have hk:i.toNat < xs.length:=by omega
  have e:((i.toNat:Nat):Int)=i:=by omega
  have:=sub_l (List.getElem?_eq_getElem hk)
  rw [e] at this
  exact ⟨_,this,List.getElem?_eq_getElem hk⟩
theorem sort_ok (ns:List Int) (k:Nat) {names:List Str} (hn:names≠[]):∃ s:Srt,φ__law_sort [A ns,.int k,.lst (names.map D.str)]=.ok s.d∧(∀ g,s.goal=some g→g∈names)∧(∀ g m r,s=.lnk g m r→(r= "bar"∨r= "none"∨r= "along")∧(r= "none"→m=true)):=by
  obtain ⟨w,hw,w0,w1⟩:=pick_ok ns k (m:=7) (by decide)
  obtain ⟨a,ha,a0,a1⟩:=pick_ok ns (k + 1) (m:=3) (by decide)
  obtain ⟨b,hb,b0,b1⟩:=pick_ok ns (k + 2) (m:=3) (by decide)
  have hl:0 < names.length:=List.length_pos_iff.mpr hn
  obtain ⟨c,hc,c0,c1⟩:=pick_ok ns (k + 3) (m:=names.length) (by omega)
  have ha':φ__law_pick [A ns,.int ((k:Int) + 1),.int 3]=.ok (.int a):=ha
  have hb':φ__law_pick [A ns,.int ((k:Int) + 2),.int 3]=.ok (.int b):=hb
  have hc':φ__law_pick [A ns,.int ((k:Int) + 3),.int (names.length:Int)]=.ok (.int c):=hc
  obtain ⟨g,hg1,hg2⟩:=sub_ls (xs:=names.map D.str) (i:=c) (n:=names.length) (by simp) c0 c1
  have hgm:∃ gs,g=.str gs∧gs∈names:=by
    rw [List.getElem?_map] at hg2
    cases q:names[c.toNat]? with
    | none=>rw [q] at hg2; cases hg2
    | some gs=>rw [q] at hg2; cases hg2; exact ⟨gs,rfl,List.mem_of_getElem? q⟩
  obtain ⟨gs,rfl,hgm⟩:=hgm
  unfold φ__law_sort runS ir__law_sort
  by_cases h3:w < 3
  · have:w=0∨w=1∨w=2:=by omega
    rcases this with rfl | rfl | rfl
    · exact ⟨.num,by simp [eVar,hw,ftName,sizeLine_eq,Srt.d],by simp [Srt.goal],by simp⟩
    · exact ⟨.num,by simp [eVar,hw,ftName,sizeLine_eq,Srt.d],by simp [Srt.goal],by simp⟩
    · exact ⟨.txt,by simp [eVar,hw,ftName,sizeLine_eq,Srt.d],by simp [Srt.goal],by simp⟩
  · have n1:(Str.ofString "bar" == Str.ofString "none")=false:=by decide +kernel
    have n2:(Str.ofString "along" == Str.ofString "none")=false:=by decide +kernel
    have h4:decide (w < 3)=false:=decide_eq_false h3
    have:b=0∨b=1∨b=2:=by omega
    rcases this with rfl | rfl | rfl
    · refine ⟨.lnk gs (decide (0 < a)) "bar",by simp [eVar,hw,h4,ha',hb',hc',hg1,ftName,sizeLine_eq,Srt.d,n1],by simpa [Srt.goal] using hgm,?_⟩
      rintro g m r ⟨⟩
      exact ⟨.inl rfl,fun z=>absurd z (by decide +kernel)⟩
    · by_cases hm:0 < a
      · refine ⟨.lnk gs true "none",by simp [eVar,hw,h4,ha',hb',hc',hg1,ftName,sizeLine_eq,Srt.d,hm],by simpa [Srt.goal] using hgm,?_⟩
        rintro g m r ⟨⟩
        exact ⟨.inr (.inl rfl),fun _=>rfl⟩
      · refine ⟨.lnk gs false "bar",by simp [eVar,hw,h4,ha',hb',hc',hg1,ftName,sizeLine_eq,Srt.d,hm],by simpa [Srt.goal] using hgm,?_⟩
        rintro g m r ⟨⟩
        exact ⟨.inl rfl,fun z=>absurd z (by decide +kernel)⟩
    · refine ⟨.lnk gs (decide (0 < a)) "along",by simp [eVar,hw,h4,ha',hb',hc',hg1,ftName,sizeLine_eq,Srt.d,n2],by simpa [Srt.goal] using hgm,?_⟩
      rintro g m r ⟨⟩
      exact ⟨.inr (.inr rfl),fun z=>absurd z (by decide +kernel)⟩
abbrev Fld:=Str×Srt
abbrev Knd:=Str×List Fld
def fldD (f:Fld):D:=.tup [.str f.1,f.2.d]
def kndD (k:Knd):D:=.tup [.str k.1,.tup (k.2.map fldD)]
def schD (s:List Knd):D:=.tup (s.map kndD)
def six:List (List Str):=[["oak"],["oak", "a"],["oak", "a", "zzzzzz"],["a"],["a", "zzzzzz"],["a", "zzzzzz", "elm"]]
def srtWf (names:List Str) (s:Srt):Prop:=(∀ g,s.goal=some g→g∈names)∧(∀ g m r,s=.lnk g m r→(r= "bar"∨r= "none"∨r= "along")∧(r= "none"→m=true))
def rch (k:Nat):Str:=⟨#[("rpsq":Str).cps.getD k 0]⟩
def fname (j k:Nat):Str:=rept (rch k) (1 + j)
theorem rpsq_at {k:Nat} (h:k < 4):dSub2 (.str "rpsq") (.int (k:Int))=.ok (.str (rch k)):=by
  have:k=0∨k=1∨k=2∨k=3:=by omega
  rcases this with rfl | rfl | rfl | rfl <;> rfl
theorem names_ok {p q:Int} (hp:0≤p∧p < 2) (hq:0≤q∧q < 3):∃ names∈six,(dSl (.lst [.str "oak",.str "a",.str "zzzzzz",.str "elm"]) (some p) none >>= fun x=>dSl x none (some (1 + q)))=.ok (.lst (names.map D.str)):=by
  have hp:p=0∨p=1:=by omega
  have hq:q=0∨q=1∨q=2:=by omega
  rcases hp with rfl | rfl <;> rcases hq with rfl | rfl | rfl
  · exact ⟨["oak"],by simp [six],rfl⟩
  · exact ⟨["oak", "a"],by simp [six],rfl⟩
  · exact ⟨["oak", "a", "zzzzzz"],by simp [six],rfl⟩
  · exact ⟨["a"],by simp [six],rfl⟩
  · exact ⟨["a", "zzzzzz"],by simp [six],rfl⟩
  · exact ⟨["a", "zzzzzz", "elm"],by simp [six],rfl⟩
theorem six_facts {names:List Str} (h:names∈six):names≠[]∧names.length≤3∧names.Nodup:=by
  simp only [six,List.mem_cons,List.not_mem_nil,or_false] at h
  rcases h with rfl | rfl | rfl | rfl | rfl | rfl <;> exact ⟨by simp,by simp,by decide +kernel⟩
theorem zipIdx_at {α:Type} {l:List α} {pre post:List (α×Nat)} {x:α} {j:Nat} (h:l.zipIdx=pre ++ (x,j) :: post):j=pre.length∧l[j]?=some x∧pre.length < l.length:=by
  have e:l.zipIdx[pre.length]?=some (x,j):=by rw [h,List.getElem?_append_right (Nat.le_refl _),Nat.sub_self]; rfl
  rw [List.getElem?_zipIdx] at e
  cases q:l[pre.length]? with
  | none=>rw [q] at e; cases e
  | some y =>
    rw [q] at e
    simp at e
    obtain ⟨rfl,rfl⟩:=e
    exact ⟨rfl,q,(List.getElem?_eq_some_iff.mp q).1⟩
def kndWf (names:List Str) (j:Nat) (kd:Knd):Prop:=1≤kd.2.length∧kd.2.length≤4∧∀ (k:Nat) (f:Fld),kd.2[k]?=some f→f.1=fname j k∧srtWf names f.2
theorem mul_str (x:Str) {j:Nat} (h:j≤1000) (hx:x.length≤1000):dMul (.str x) (.int (j:Int))=.ok (.str (rept x j)):=by
  show (if _ then _ else _)=_
  rw [if_pos ⟨by omega,by omega,hx⟩]
  rfl
def ISch (ns:List Int) (a:Nat) (names:List Str) (pre:List (Str×Nat)) (s:En):Prop:=∃ (x4 x5 x6 x7 x8:Option D) (ks:List Knd),s=[some (A ns),some (.int a),some (.lst (names.map D.str)),some (.lst (ks.map kndD)),x4,x5,x6,x7,x8]∧ks.map (·.1)=pre.map (·.1)∧∀ (j:Nat) (kd:Knd),ks[j]?=some kd→kndWf names j kd
theorem schema_step (ns : List Int) (a : Nat) {names : List Str} (n1 : names ≠ []) (n2 : names.length ≤ 3) (pre : List (Str × Nat)) (b : Str × Nat) (post : List (Str × Nat)) (s : En) (hx : names.zipIdx = pre ++ b :: post) (hi : ISch ns a names pre s) :
    ∃ s2,turnD (tgd (.tp (.cons (.nm 4) (.cons (.nm 5) .nil)))).f (dS L__law_schema_0) (D.tup [.int (b.2:Nat),.str b.1]) s=.nx s2∧ISch ns a names (pre ++ [b]) s2:=by
  obtain ⟨nm,j⟩:=b
  obtain ⟨x4,x5,x6,x7,x8,ks,rfl,e2,e3⟩:=hi
  obtain ⟨hj,hnm,hlt⟩:=zipIdx_at hx
  have hkl:ks.length=pre.length:=by have:=congrArg List.length e2; simpa using this
  obtain ⟨m,hm,m0,m1⟩:=pick_ok ns (a + 2 + 20 * j) (m:=4) (by decide)
  have hm':φ__law_pick [A ns,.int ((a:Int) + 2 + 20 * (j:Int)),.int 4]=.ok (.int m):=by
    have e:((a + 2 + 20 * j:Nat):Int)=(a:Int) + 2 + 20 * (j:Int):=by omega
    rw [← e]; exact hm
  obtain ⟨mm,rfl⟩:∃ mm:Nat,m=mm:=⟨m.toNat,by omega⟩
  have turn:∀ k∈List.range (1 + mm),∃ f:Fld,lcT (tgd (.nm 8)).f (den .no).t (den E__law_schema_0).v [some (A ns),some (.int a),some (.lst (names.map D.str)),some (.lst (ks.map kndD)),some (.int j),some (.str nm),some (.int (1 + (mm:Int))),x7,none] (.int (k:Nat))=.ok (some (fldD f))∧(f.1=fname j k∧srtWf names f.2):=by
    intro k hk
    have hk4:k < 4:=by have:=List.mem_range.mp hk; omega
    obtain ⟨st,hs,hw⟩:=sort_ok ns (a + 3 + 20 * j + 4 * k) n1
    have hs':φ__law_sort [A ns,.int ((a:Int) + 3 + 20 * (j:Int) + 4 * (k:Int)),.lst (names.map D.str)]=.ok st.d:=by
      have e:((a + 3 + 20 * j + 4 * k:Nat):Int)=(a:Int) + 3 + 20 * (j:Int) + 4 * (k:Int):=by omega
      rw [← e]; exact hs
    refine ⟨(fname j k,st),?_,rfl,hw⟩
    have hmul:dMul (.str (rch k)) (.int (1 + (j:Int)))=.ok (.str (fname j k)):=by
      have e:(1 + (j:Int))=((1 + j:Nat):Int):=by omega
      rw [e]
      exact mul_str _ (by omega) (by show 1≤1000; decide)
    simp [lcT,ftName,E__law_schema_0,eVar,rpsq_at hk4,hmul,hs',mul_l (show nrw 20=true by decide),mul_l (show nrw 4=true by decide),sizeLine_eq,fldD]
  obtain ⟨fs,g1,g2,g3⟩:=lcA_ex (f:=fun k:Nat=>D.int (k:Int)) (e:=fldD) turn
  have hr:=rngA_nat (n:=1 + mm) (by omega)
  have e1:((1 + mm:Nat):Int)=1 + (mm:Int):=by omega
  rw [e1] at hr
  have hlen:ks.length < 16777216:=by omega
  refine ⟨[some (A ns),some (.int a),some (.lst (names.map D.str)),some (.lst ((ks ++ [(nm,fs)]).map kndD)),some (.int j),some (.str nm),some (.int (1 + (mm:Int))),some (.lst (fs.map fldD)),x8],?_,?_⟩
  · simp [turnD,L__law_schema_0,wipeE,eVar,hm',mul_l (show nrw 20=true by decide),ftName,hr,g1,lstAt,optO,sizeLine_eq,hlen,kndD]
  · refine ⟨_,_,_,_,_,ks ++ [(nm,fs)],rfl,by simp [e2],fun i kd h=>?_⟩
    by_cases hi:i < ks.length
    · rw [List.getElem?_append_left hi] at h
      exact e3 i kd h
    · rw [List.getElem?_append_right (by omega)] at h
      have hi0:i - ks.length=0:=by
        cases q:i - ks.length with
        | zero=>rfl
        | succ _=>rw [q] at h; simp at h
      rw [hi0] at h
      simp at h
      subst h
      have hij:i=j:=by omega
      subst hij
      rw [List.length_range] at g2
      refine ⟨by show 1≤fs.length; omega,by show fs.length≤4; omega,fun k f hf=>?_⟩
      have hk:k < fs.length:=(List.getElem?_eq_some_iff.mp hf).1
      exact g3 k k f (by rw [List.getElem?_range (by omega)]) hf
theorem schema_ok (ns:List Int) (a:Nat):∃ sch:List Knd,φ__law_schema [A ns,.int a]=.ok (schD sch)∧sch.map (·.1)∈six∧∀ (j:Nat) (kd:Knd),sch[j]?=some kd→kndWf (sch.map (·.1)) j kd:=by
  obtain ⟨p,hp,p0,p1⟩:=pick_ok ns a (m:=2) (by decide)
  obtain ⟨q,hq,q0,q1⟩:=pick_ok ns (a + 1) (m:=3) (by decide)
  have hq':φ__law_pick [A ns,.int ((a:Int) + 1),.int 3]=.ok (.int q):=hq
  obtain ⟨names,hn,hN⟩:=names_ok ⟨p0,p1⟩ ⟨q0,q1⟩
  obtain ⟨n1,n2,n3⟩:=six_facts hn
  obtain ⟨s',h1,x4,x5,x6,x7,x8,ks,rfl,e2,e3⟩:=forD_run (I:=ISch ns a names) (s:=[some (A ns),some (.int a),some (.lst (names.map D.str)),some (.lst []),none,none,none,none,none])
    ⟨none,none,none,none,none,[],rfl,rfl,fun j kd h=>by simp at h⟩ (schema_step ns a n1 n2)
  have e2:ks.map (·.1)=names:=by rw [e2]; simp
  refine ⟨ks,?_,by rw [e2]; exact hn,by rw [e2]; exact e3⟩
  unfold φ__law_schema runS ir__law_schema
  simp [eVar,hp,hq',ftName,sizeLine_eq,hN,enumL_map,h1,schD]
end Pu
end
section
open Hr Wk PySem
namespace Pu
def cdic (names:List Str) (v:Str→D):D:=.dic false (names.map fun n=>[Sum.inr n]) (names.map v)
theorem look_cdic {names:List Str} {v:Str→D} {g:Str} (h:g∈names):lookK (names.map fun n=>[Sum.inr n]) (names.map v) [Sum.inr g]=some (v g):=by
  induction names with
  | nil=>cases h
  | cons n ns ih =>
    show (if [Sum.inr n]=[Sum.inr g] then some (v n) else lookK (ns.map fun n=>[Sum.inr n]) (ns.map v) [Sum.inr g])=_
    by_cases q:n=g
    · subst q; rw [if_pos rfl]
    · rw [if_neg (by simpa using q)]
      exact ih (by rcases List.mem_cons.mp h with e | e; exact absurd e.symm q; exact e)
theorem sub_cdic {names:List Str} {v:Str→D} {g:Str} (h:g∈names):dSub2 (cdic names v) (.str g)=.ok (v g):=by
  show R.of ((keyOf false (.str g)).bind fun k=>lookK _ _ k)=_
  show R.of (lookK _ _ [Sum.inr g])=_
  rw [look_cdic h]; rfl
def fput {α:Type} (v:Str→α) (n:Str) (x:α):Str→α:=fun m=>if m=n then x else v m
theorem setAll_cdic (names:List Str) (v:Str→D) (g:Str) (d:D):setAll [Sum.inr g] d (names.map fun n=>[Sum.inr n]) (names.map v)=names.map (fput v g d):=by
  induction names with
  | nil=>rfl
  | cons n ns ih =>
    show (if [Sum.inr n]=[Sum.inr g] then d else v n) :: setAll _ _ _ _=fput v g d n :: _
    rw [ih]
    unfold fput
    by_cases q:n=g
    · subst q; simp
    · simp [q]
theorem put_old {names:List Str} {v:Str→D} {g:Str} {d:D} (h:g∈names):putD (names.map fun n=>[Sum.inr n]) (names.map v) [Sum.inr g] d=(names.map fun n=>[Sum.inr n],names.map (fput v g d)):=by
  unfold putD
  rw [if_pos,setAll_cdic]
  exact List.any_eq_true.mpr ⟨[Sum.inr g],List.mem_map.mpr ⟨g,h,rfl⟩,by simp⟩
theorem put_new {names:List Str} {v:Str→D} {g:Str} {d:D} (h:g∉names):putD (names.map fun n=>[Sum.inr n]) (names.map v) [Sum.inr g] d=((names ++ [g]).map fun n=>[Sum.inr n],(names ++ [g]).map (fput v g d)):=by
  unfold putD
  rw [if_neg]
  · have : names.map v = names.map (fput v g d) := by
      apply List.map_congr_left
      intro n hn
      unfold fput
      rw [if_neg fun e=>h (by rw [← e]; exact hn)]
    rw [this]
    simp [fput]
  · intro z
    obtain ⟨k,hk,e⟩:=List.any_eq_true.mp z
    obtain ⟨n,hn,rfl⟩:=List.mem_map.mp hk
    have:n=g:=by simpa using of_decide_eq_true e
    exact h (by rw [← this]; exact hn)
def cD (c:Str→Nat):Str→D:=fun n=>.int (c n:Nat)
theorem cD_put (c:Str→Nat) (g:Str) (x:Nat):fput (cD c) g (.int (x:Nat))=cD (fput c g x):=by
  funext m
  show (if m=g then D.int x else .int (c m:Nat))=D.int ((if m=g then x else c m:Nat):Int)
  split <;> rfl
def st1 (nm:Str) (c:Str→Nat) (s:Srt):Str→Nat:=match s with
  | .lnk g false _=>if c g=0 then fput c nm 0 else c
  | _=>c
def stK (c:Str→Nat) (kd:Knd):Str→Nat:=kd.2.foldl (fun c f=>st1 kd.1 c f.2) c
def stR (sch:List Knd) (c:Str→Nat):Str→Nat:=sch.foldl stK c
theorem st1_le (nm:Str) (c:Str→Nat) (s:Srt) (m:Str):st1 nm c s m=c m∨(st1 nm c s m=0∧m=nm):=by
  unfold st1
  split
  · split
    · unfold fput
      split
      · exact .inr ⟨rfl,by assumption⟩
      · exact .inl rfl
    · exact .inl rfl
  · exact .inl rfl
theorem foldl_le {α:Type} (f:(Str→Nat)→α→(Str→Nat)) (h:∀ c a m,f c a m≤c m):∀ (l:List α) (c:Str→Nat) (m:Str),l.foldl f c m≤c m
  | [],c,m=>Nat.le_refl _
  | a :: l,c,m=>Nat.le_trans (foldl_le f h l (f c a) m) (h c a m)
theorem st1_le' (nm:Str) (c:Str→Nat) (s:Srt) (m:Str):st1 nm c s m≤c m:=by
  rcases st1_le nm c s m with e | ⟨e,_⟩ <;> omega
theorem stK_le (c:Str→Nat) (kd:Knd) (m:Str):stK c kd m≤c m:=foldl_le (fun c (f:Fld)=>st1 kd.1 c f.2) (fun c f m=>st1_le' kd.1 c f.2 m) kd.2 c m
theorem stR_le (sch:List Knd) (c:Str→Nat) (m:Str):stR sch c m≤c m:=foldl_le _ stK_le sch c m
def Closed (sch:List Knd) (c:Str→Nat):Prop:=∀ kd∈sch,∀ f∈kd.2,∀ g r,f.2=.lnk g false r→c g=0→c kd.1=0
theorem foldl_mid {α:Type} {f:(Str→Nat)→α→(Str→Nat)} (h:∀ c a m,f c a m≤c m) {l:List α} {c:Str→Nat} (e:l.foldl f c=c):∀ a∈l,f c a=c:=by
  induction l with
  | nil=>intro a m; cases m
  | cons b l ih =>
    have e1:l.foldl f (f c b)=c:=e
    have e2:f c b=c:=by
      funext m
      have h1:=foldl_le f h l (f c b) m
      rw [e1] at h1
      have h2:=h c b m
      omega
    intro a hm
    rcases List.mem_cons.mp hm with q | q
    · rw [q]; exact e2
    · rw [e2] at e1
      exact ih e1 a q
theorem closed_of {sch:List Knd} {c:Str→Nat} (e:stR sch c=c):Closed sch c:=by
  intro kd hk f hf g r hs hg
  have h1:stK c kd=c:=foldl_mid stK_le e kd hk
  have h2:st1 kd.1 c f.2=c:=foldl_mid (f:=fun c (f:Fld)=>st1 kd.1 c f.2) (fun c f m=>st1_le' kd.1 c f.2 m) h1 f hf
  rw [← h2,hs]
  show (if c g=0 then fput c kd.1 0 else c) kd.1=0
  rw [if_pos hg]
  unfold fput
  rw [if_pos rfl]
theorem st_zero {α:Type} {f:(Str→Nat)→α→(Str→Nat)} (h:∀ c a m,f c a m=c m∨f c a m=0):∀ (l:List α) (c:Str→Nat) (m:Str),l.foldl f c m=c m∨l.foldl f c m=0
  | [],c,m=>.inl rfl
  | a :: l,c,m=>by
    rcases st_zero h l (f c a) m with e | e
    · rcases h c a m with q | q
      · exact .inl (e.trans q)
      · exact .inr (e.trans q)
    · exact .inr e
theorem stK_zero (c:Str→Nat) (kd:Knd) (m:Str):stK c kd m=c m∨stK c kd m=0:=st_zero (f:=fun c (f:Fld)=>st1 kd.1 c f.2) (fun c f m=>(st1_le kd.1 c f.2 m).imp id fun z=>z.1) kd.2 c m
theorem stK_out {kd:Knd} {m:Str} (hm:m≠kd.1) (c:Str→Nat):stK c kd m=c m:=by
  unfold stK
  generalize kd.2=fs
  induction fs generalizing c with
  | nil=>rfl
  | cons f fs ih =>
    show fs.foldl _ (st1 kd.1 c f.2) m=_
    rw [ih]
    rcases st1_le kd.1 c f.2 m with e | ⟨_,e⟩
    · exact e
    · exact absurd e hm
theorem stR_out {sch:List Knd} {m:Str} (hm:m∉sch.map (·.1)) (c:Str→Nat):stR sch c m=c m:=by
  unfold stR
  induction sch generalizing c with
  | nil=>rfl
  | cons kd sch ih =>
    show sch.foldl stK (stK c kd) m=_
    rw [ih (fun z=>hm (List.mem_cons_of_mem _ z)),stK_out (fun z=>hm (by rw [z]; exact List.mem_cons_self ..))]
def nz:List Str→(Str→Nat)→Nat
  | [],_=>0
  | n :: l,c=>(if c n=0 then 0 else 1) + nz l c
theorem nz_le (c:Str→Nat):∀ l:List Str,nz l c≤l.length
  | []=>Nat.le_refl _
  | n :: l=>by have:=nz_le c l; unfold nz; rw [List.length_cons]; split <;> omega
theorem nz_mono {c c':Str→Nat} (h:∀ m,c' m=c m∨c' m=0):∀ l:List Str,nz l c'≤nz l c
  | []=>Nat.le_refl _
  | n :: l=>by
    have:=nz_mono h l
    unfold nz
    rcases h n with e | e
    · rw [e]; omega
    · rw [e,if_pos rfl]; omega
theorem nz_lt {c c':Str→Nat} (h:∀ m,c' m=c m∨c' m=0) {n:Str} (h1:c n≠0) (h2:c' n=0):∀ {names:List Str},n∈names→nz names c' < nz names c
  | m :: l,hn=>by
    unfold nz
    rcases List.mem_cons.mp hn with e | e
    · subst e
      have:=nz_mono h l
      rw [h2,if_pos rfl,if_neg h1]
      omega
    · have:=nz_lt h h1 h2 e
      rcases h m with q | q
      · rw [q]; omega
      · rw [q,if_pos rfl]; omega
theorem nz_zero {c:Str→Nat}:∀ {names:List Str},nz names c=0→∀ n∈names,c n=0
  | m :: l,h,n,hn=>by
    unfold nz at h
    rcases List.mem_cons.mp hn with e | e
    · subst e
      by_cases q:c n=0
      · exact q
      · rw [if_neg q] at h; omega
    · exact nz_zero (by omega) n e
def rounds (sch:List Knd) (c:Str→Nat):Nat→(Str→Nat)
  | 0=>c
  | k + 1=>stR sch (rounds sch c k)
theorem rounds_nz (sch:List Knd) (c:Str→Nat):∀ k,stR sch (rounds sch c k)=rounds sch c k∨nz (sch.map (·.1)) (rounds sch c k) + k≤sch.length
  | 0=>.inr (by have:=nz_le (rounds sch c 0) (sch.map (·.1)); rw [List.length_map] at this; omega)
  | k + 1=>by
    by_cases e:stR sch (rounds sch c k)=rounds sch c k
    · left
      show stR sch (stR sch (rounds sch c k))=stR sch (rounds sch c k)
      rw [e,e]
    · right
      rcases rounds_nz sch c k with q | q
      · exact absurd q e
      · have : ∃ n, stR sch (rounds sch c k) n ≠ rounds sch c k n := by
          apply Classical.byContradiction
          intro z
          exact e (funext fun n=>Classical.byContradiction fun w=>z ⟨n,w⟩)
        obtain ⟨n,hn⟩:=this
        have hm:n∈sch.map (·.1):=Classical.byContradiction fun z=>hn (stR_out z _)
        have hz:∀ m,stR sch (rounds sch c k) m=rounds sch c k m∨stR sch (rounds sch c k) m=0:=fun m=>st_zero stK_zero sch (rounds sch c k) m
        have h0:stR sch (rounds sch c k) n=0:=(hz n).resolve_left hn
        have:=nz_lt hz (fun z=>hn (by rw [h0,z])) h0 hm
        show nz _ (stR sch (rounds sch c k)) + (k + 1)≤_
        omega
theorem rounds_closed (sch:List Knd) (c:Str→Nat):Closed sch (rounds sch c sch.length):=by
  rcases rounds_nz sch c sch.length with e | e
  · exact closed_of e
  · intro kd hk f hf g r hs hg
    have h0:nz (sch.map (·.1)) (rounds sch c sch.length)=0:=by omega
    exact nz_zero h0 kd.1 (List.mem_map.mpr ⟨kd,hk,rfl⟩)
theorem rounds_le (sch:List Knd) (c:Str→Nat) (m:Str):∀ k,rounds sch c k m≤c m
  | 0=>Nat.le_refl _
  | k + 1=>Nat.le_trans (stR_le _ _ _) (rounds_le sch c m k)
def IC0 (ns:List Int) (a most:Nat) (sch:List Knd) (pre:List (Knd×Nat)) (s:En):Prop:=∃ (x6 x7:Option D) (c:Str→Nat),s=[some (A ns),some (.int a),some (schD sch),some (.int most),some (cdic (pre.map (·.1.1)) (cD c)),none,x6,x7,none,none,none,none]∧∀ m,c m≤most
theorem counts_step0 (ns : List Int) (a most : Nat) {sch : List Knd} (nd : (sch.map (·.1)).Nodup) (hl : sch.length ≤ 3) (pre : List (Knd × Nat)) (b : Knd × Nat) (post : List (Knd × Nat)) (s : En) (hx : sch.zipIdx = pre ++ b :: post) (hi : IC0 ns a most sch pre s) :
    ∃ s2,turnD (tgd (.tp (.cons (.nm 6) (.cons (.nm 7) .nil)))).f (dS L__law_counts_0) (D.tup [.int (b.2:Nat),kndD b.1]) s=.nx s2∧IC0 ns a most sch (pre ++ [b]) s2:=by
  obtain ⟨kd,j⟩:=b
  obtain ⟨x6,x7,c,rfl,hc⟩:=hi
  obtain ⟨hj,hk,hlt⟩:=zipIdx_at hx
  obtain ⟨v,hv,v0,v1⟩:=pick_ok ns (a + j) (m:=most + 1) (by omega)
  have hv':φ__law_pick [A ns,.int ((a:Int) + (j:Int)),.int ((most:Int) + 1)]=.ok (.int v):=hv
  obtain ⟨vv,rfl⟩:∃ vv:Nat,v=vv:=⟨v.toNat,by omega⟩
  have hnew:kd.1∉pre.map (·.1.1):=by
    have e:sch.map (·.1)=pre.map (·.1.1) ++ kd.1 :: post.map (·.1.1):=by
      have:=congrArg (List.map fun p:Knd×Nat=>p.1.1) hx
      have e0:sch.zipIdx.map (fun p:Knd×Nat=>p.1.1)=sch.map (·.1):=by
        have:(fun p:Knd×Nat=>p.1.1)=(fun k:Knd=>k.1) ∘ Prod.fst:=rfl
        rw [this,← List.map_map,List.zipIdx_map_fst]
      rw [e0] at this
      rw [this]; simp
    rw [e] at nd
    have:=List.nodup_append.mp nd
    intro z
    exact this.2.2 _ z _ (List.mem_cons_self ..) rfl
  have hlen:pre.length < 16777216:=by omega
  refine ⟨[some (A ns),some (.int a),some (schD sch),some (.int most),some (cdic ((pre ++ [(kd,j)]).map (·.1.1)) (cD (fput c kd.1 vv))),none,some (.int j),some (kndD kd),none,none,none,none],?_,?_⟩
  · have hp:=put_new (v:=cD c) (d:=.int (vv:Int)) hnew
    rw [cD_put] at hp
    simp only [List.map_map] at hp
    simp [turnD,L__law_counts_0,ftName,eVar,kndD,hv',dicAt,optO,keyOf,cdic,hp,sizeLine_eq,hlen]
  · refine ⟨_,_,fput c kd.1 vv,rfl,fun m=>?_⟩
    unfold fput
    split
    · omega
    · exact hc m
end Pu
end
section
open Hr Wk PySem
namespace Pu
@[simp] theorem num0:dSub2 (.str "number") (.int 0)=.ok (.str "n"):=rfl
@[simp] theorem txt0:dSub2 (.str "text") (.int 0)=.ok (.str "t"):=rfl
@[simp] theorem n_link:(("n":Str) == ("link":Str))=false:=by decide +kernel
@[simp] theorem t_link:(("t":Str) == ("link":Str))=false:=by decide +kernel
def IC3 (ns:List Int) (a most:Nat) (sch:List Knd) (names:List Str) (kd:Knd) (c:Str→Nat) (x5 x6 x7:Option D) (pre:List Fld) (s:En):Prop:=∃ (x10 x11:Option D),s=[some (A ns),some (.int a),some (schD sch),some (.int most),some (cdic names (cD (pre.foldl (fun c f=>st1 kd.1 c f.2) c))),x5,x6,x7,some (.str kd.1),some (.tup (kd.2.map fldD)),x10,x11]
theorem counts_step3 (ns : List Int) (a most : Nat) {sch : List Knd} {names : List Str} {kd : Knd} (hn : kd.1 ∈ names) (hl : names.length ≤ 3) (c : Str → Nat) (x5 x6 x7 : Option D) (pre : List Fld) (b : Fld) (post : List Fld) (s : En) (hg : ∀ g, b.2.goal = some g → g ∈ names) (hi : IC3 ns a most sch names kd c x5 x6 x7 pre s) :
    ∃ s2,turnD (tgd (.tp (.cons (.nm 10) (.cons (.nm 11) .nil)))).f (dS L__law_counts_3) (fldD b) s=.nx s2∧IC3 ns a most sch names kd c x5 x6 x7 (pre ++ [b]) s2:=by
  obtain ⟨fnm,srt⟩:=b
  obtain ⟨x10,x11,rfl⟩:=hi
  have hf:(pre ++ [(fnm,srt)]).foldl (fun c f=>st1 kd.1 c f.2) c=st1 kd.1 (pre.foldl (fun c (f:Fld)=>st1 kd.1 c f.2) c) srt:=by simp
  generalize pre.foldl (fun c (f:Fld)=>st1 kd.1 c f.2) c=c0 at hf
  unfold IC3
  rw [hf]
  refine ⟨_,?_,some (.str fnm),some srt.d,rfl⟩
  cases srt with
  | num=>simp [turnD,L__law_counts_3,ftName,eVar,fldD,Srt.d,st1]
  | txt=>simp [turnD,L__law_counts_3,ftName,eVar,fldD,Srt.d,st1]
  | lnk g m r =>
    cases m with
    | true=>simp [turnD,L__law_counts_3,ftName,eVar,fldD,Srt.d,st1]
    | false =>
      have hg':g∈names:=hg g rfl
      have hs:=sub_cdic (v:=cD c0) hg'
      by_cases hz:c0 g=0
      · have hp:=put_old (v:=cD c0) (d:=.int ((0:Nat):Int)) hn
        rw [cD_put] at hp
        simp at hp
        have hlen:names.length < 16777216:=by omega
        simp [turnD,L__law_counts_3,ftName,eVar,fldD,Srt.d,st1,hs,cD,hz]
        simp [cdic,dicAt,optO,keyOf,hp,sizeLine_eq,hlen]
      · have hz':((c0 g:Int) == 0)=false:=by simpa using hz
        simp [turnD,L__law_counts_3,ftName,eVar,fldD,Srt.d,st1,hs,hz,hz']
        simp [cD,hz']
def IC2 (ns:List Int) (a most:Nat) (sch:List Knd) (c:Str→Nat) (x5 x6 x7:Option D) (pre:List Knd) (s:En):Prop:=∃ (x8 x9 x10 x11:Option D),s=[some (A ns),some (.int a),some (schD sch),some (.int most),some (cdic (sch.map (·.1)) (cD (pre.foldl stK c))),x5,x6,x7,x8,x9,x10,x11]
theorem counts_step2 (ns : List Int) (a most : Nat) {sch : List Knd} (hl : sch.length ≤ 3) (hw : ∀ kd ∈ sch, ∀ f ∈ kd.2, ∀ g, f.2.goal = some g → g ∈ sch.map (·.1)) (c : Str → Nat) (x5 x6 x7 : Option D) (pre : List Knd) (b : Knd) (post : List Knd) (s : En) (hx : sch = pre ++ b :: post) (hi : IC2 ns a most sch c x5 x6 x7 pre s) :
    ∃ s2,turnD (tgd (.tp (.cons (.nm 8) (.cons (.nm 9) .nil)))).f (dS L__law_counts_2) (kndD b) s=.nx s2∧IC2 ns a most sch c x5 x6 x7 (pre ++ [b]) s2:=by
  obtain ⟨x8,x9,x10,x11,rfl⟩:=hi
  have hb:b∈sch:=by rw [hx]; simp
  obtain ⟨s',h1,y10,y11,rfl⟩:=forD_run (I:=IC3 ns a most sch (sch.map (·.1)) b (pre.foldl stK c) x5 x6 x7) (s:=[some (A ns),some (.int a),some (schD sch),some (.int most),some (cdic (sch.map (·.1)) (cD (pre.foldl stK c))),x5,x6,x7,some (.str b.1),some (.tup (b.2.map fldD)),x10,x11])
    (f:=fldD) (xs:=b.2) ⟨x10,x11,rfl⟩ (fun p f q s e i=>counts_step3 ns a most (List.mem_map.mpr ⟨b,hb,rfl⟩) (by simpa using hl) _ x5 x6 x7 p f q s (hw b hb f (by rw [e]; simp)) i)
  refine ⟨[some (A ns),some (.int a),some (schD sch),some (.int most),some (cdic (sch.map (·.1)) (cD (stK (pre.foldl stK c) b))),x5,x6,x7,some (.str b.1),some (.tup (b.2.map fldD)),y10,y11],?_,?_⟩
  · simp [turnD,L__law_counts_2,ftName,eVar,kndD,h1,stK]
  · exact ⟨some (.str b.1),some (.tup (b.2.map fldD)),y10,y11,by rw [List.foldl_append]; rfl⟩
def IC1 (ns:List Int) (a most:Nat) (sch:List Knd) (c:Str→Nat) (x6 x7:Option D) (pre:List Nat) (s:En):Prop:=∃ (x5 x8 x9 x10 x11:Option D),s=[some (A ns),some (.int a),some (schD sch),some (.int most),some (cdic (sch.map (·.1)) (cD (rounds sch c pre.length))),x5,x6,x7,x8,x9,x10,x11]
theorem counts_step1 (ns : List Int) (a most : Nat) {sch : List Knd} (hl : sch.length ≤ 3) (hw : ∀ kd ∈ sch, ∀ f ∈ kd.2, ∀ g, f.2.goal = some g → g ∈ sch.map (·.1)) (c : Str → Nat) (x6 x7 : Option D) (pre : List Nat) (b : Nat) (s : En) (hi : IC1 ns a most sch c x6 x7 pre s) :
    ∃ s2,turnD (tgd (.nm 5)).f (dS L__law_counts_1) (.int (b:Nat)) s=.nx s2∧IC1 ns a most sch c x6 x7 (pre ++ [b]) s2:=by
  obtain ⟨x5,x8,x9,x10,x11,rfl⟩:=hi
  obtain ⟨s',h1,y8,y9,y10,y11,rfl⟩:=forD_run (I:=IC2 ns a most sch (rounds sch c pre.length) (some (.int b)) x6 x7) (s:=[some (A ns),some (.int a),some (schD sch),some (.int most),some (cdic (sch.map (·.1)) (cD (rounds sch c pre.length))),some (.int b),x6,x7,x8,x9,x10,x11])
    (f:=kndD) (xs:=sch) ⟨x8,x9,x10,x11,rfl⟩ (fun p k q s e i=>counts_step2 ns a most hl hw _ _ x6 x7 p k q s e i)
  refine ⟨[some (A ns),some (.int a),some (schD sch),some (.int most),some (cdic (sch.map (·.1)) (cD (rounds sch c (pre.length + 1)))),some (.int b),x6,x7,y8,y9,y10,y11],?_,?_⟩
  · simp only [schD] at h1
    simp [turnD,L__law_counts_1,ftName,eVar,h1,schD,rounds,stR]
  · exact ⟨some (.int b),y8,y9,y10,y11,by rw [List.length_append]; rfl⟩
theorem counts_ok (ns : List Int) (a most : Nat) {sch : List Knd} (nd : (sch.map (·.1)).Nodup) (hl : sch.length ≤ 3) (hw : ∀ kd ∈ sch, ∀ f ∈ kd.2, ∀ g, f.2.goal = some g → g ∈ sch.map (·.1)) :
    ∃ c:Str→Nat,φ__law_counts [A ns,.int a,schD sch,.int most]=.ok (cdic (sch.map (·.1)) (cD c))∧(∀ m,c m≤most)∧Closed sch c:=by
  obtain ⟨s',h1,x6,x7,c,rfl,hc⟩:=forD_run (I:=IC0 ns a most sch) (s:=[some (A ns),some (.int a),some (schD sch),some (.int most),some (.dic false [] []),none,none,none,none,none,none,none])
    (f:=fun p:Knd×Nat=>D.tup [.int (p.2:Nat),kndD p.1]) (xs:=sch.zipIdx) ⟨none,none,fun _=>0,rfl,fun _=>Nat.zero_le _⟩ (fun p b q s e i=>counts_step0 ns a most nd hl p b q s e i)
  have e0:sch.zipIdx.map (fun p:Knd×Nat=>p.1.1)=sch.map (·.1):=by
    have:(fun p:Knd×Nat=>p.1.1)=(fun k:Knd=>k.1) ∘ Prod.fst:=rfl
    rw [this,← List.map_map,List.zipIdx_map_fst]
  rw [e0] at h1
  obtain ⟨s2,h2,x5,x8,x9,x10,x11,rfl⟩:=forD_run (I:=IC1 ns a most sch c x6 x7) (s:=[some (A ns),some (.int a),some (schD sch),some (.int most),some (cdic (sch.map (·.1)) (cD c)),none,x6,x7,none,none,none,none])
    (f:=fun i:Nat=>D.int (i:Int)) (xs:=List.range sch.length) ⟨none,none,none,none,none,rfl⟩ (fun p b q s e i=>counts_step1 ns a most hl hw c x6 x7 p b s i)
  rw [List.length_range] at h2
  refine ⟨rounds sch c sch.length,?_,fun m=>Nat.le_trans (rounds_le sch c m _) (hc m),rounds_closed sch c⟩
  have hr:=rngA_nat (n:=sch.length) (by omega)
  unfold φ__law_counts runS ir__law_counts
  simp [eVar,ftName,schD,enumL_map,hr]
  simp [schD,A] at h1 h2
  rw [h1]
  simp [eVar,ftName,schD,hr,h2]
end Pu
end
section
open Hr Wk PySem
namespace Pu
theorem pow6:dPow (.int 10) (.int 6)=.ok (.int 1000000):=rfl
def signs:Str:= " !'#&,:;0123456789ABCXYZabcxyz~"
def sgn (k:Nat):Nat:=signs.cps.getD k 0
theorem sgn_at {k:Nat} (h:k < 31):dSub2 (.str " !'#&,:;0123456789ABCXYZabcxyz~") (.int (k:Int))=.ok (.str ⟨#[sgn k]⟩):=by
  have e:signs.cps.toList.length=31:=by decide +kernel
  have hk:signs.cps.toList[k]?=some (sgn k):=by
    unfold sgn
    rw [Array.getD_eq_getD_getElem?,← Array.getElem?_toList,List.getElem?_eq_getElem (by omega)]
    rfl
  show R.of ((L2.atI signs.cps.toList (k:Int)).map fun c=>D.str ⟨#[c]⟩)=_
  rw [atI_nat hk]
  rfl
theorem sgn_ok {k:Nat} (h:k < 31):32≤sgn k∧sgn k≤126:=by
  have:∀ k,k < 31→32≤sgn k∧sgn k≤126:=by decide +kernel
  exact this k h
def txtOk (x:Str):Prop:=x.length≤8∧∀ c∈x.cps.toList,32≤c∧c≤126
theorem strsD_map (ys:List Str):strsD (ys.map D.str)=some ys:=by
  induction ys with
  | nil=>rfl
  | cons y ys ih=>show (strsD (ys.map D.str)).map _=_; rw [ih]; rfl
theorem join1_cps:∀ (cs:List Nat),(Str.join "" (cs.map fun c=>(⟨#[c]⟩:Str))).cps.toList=cs
  | []=>by decide +kernel
  | [c]=>rfl
  | c :: d :: cs=>by
    have:=join1_cps (d :: cs)
    show ((⟨#[c]⟩:Str) ++ ("":Str) ++ Str.join "" ((d :: cs).map fun c=>(⟨#[c]⟩:Str))).cps.toList=_
    have e:∀ x y:Str,(x ++ y).cps.toList=x.cps.toList ++ y.cps.toList:=fun x y=>Array.toList_append
    rw [e,e,this]
    rfl
theorem sum1:∀ cs:List Nat,((cs.map fun c=>(⟨#[c]⟩:Str)).map (·.length)).sum=cs.length
  | []=>rfl
  | c :: cs=>by
    show (1:Nat) + ((cs.map fun c=>(⟨#[c]⟩:Str)).map (·.length)).sum=cs.length + 1
    rw [sum1 cs]; omega
def IsPlain:Srt→D→Prop
  | .num,d=>∃ v:Int,d=.int v∧ -9999≤v∧v≤9999
  | .txt,d=>∃ x:Str,d=.str x∧txtOk x
  | _,_=>False
theorem plain_num (ns:List Int) (a:Nat):∃ d,φ__law_plain [A ns,.int a,Srt.num.d]=.ok d∧IsPlain .num d:=by
  obtain ⟨w,hw,w0,w1⟩:=pick_ok ns a (m:=1000000) (by decide)
  have key:∃ v:Int,dSub2 (.lst [.int 0,.int 1,.int (-1),.int 9999,.int (-9999),.int (w % 19999 - 9999),.int (w % 20 - 9)]) (.int (w / 20000 % 7))=.ok (.int v)∧ -9999≤v∧v≤9999:=by
    have:w / 20000 % 7=0∨w / 20000 % 7=1∨w / 20000 % 7=2∨w / 20000 % 7=3∨w / 20000 % 7=4∨w / 20000 % 7=5∨w / 20000 % 7=6:=by omega
    rcases this with e | e | e | e | e | e | e <;> rw [e]
    · exact ⟨0,by simp,by omega,by omega⟩
    · exact ⟨1,by simp,by omega,by omega⟩
    · exact ⟨-1,by simp,by omega,by omega⟩
    · exact ⟨9999,by simp,by omega,by omega⟩
    · exact ⟨-9999,by simp,by omega,by omega⟩
    · exact ⟨w % 19999 - 9999,by simp,by omega,by omega⟩
    · exact ⟨w % 20 - 9,by simp,by omega,by omega⟩
  obtain ⟨v,hv,v0,v1⟩:=key
  refine ⟨.int v,?_,v,rfl,v0,v1⟩
  unfold φ__law_plain runS ir__law_plain
  simp [eVar,ftName,hw,pow6,Srt.d,mod_i (show (0:Int) < 19999 by decide),mod_i (show (0:Int) < 20 by decide),mod_i (show (0:Int) < 7 by decide),div_i (show (0:Int) < 20000 by decide) (by decide),sizeLine_eq,hv]
theorem plain_txt (ns:List Int) (a:Nat):∃ d,φ__law_plain [A ns,.int a,Srt.txt.d]=.ok d∧IsPlain .txt d:=by
  obtain ⟨w,hw,w0,w1⟩:=pick_ok ns a (m:=1000000) (by decide)
  have key:∃ n:Nat,dSub2 (.lst [.int 0,.int 1,.int 2,.int 3,.int 8]) (.int (w % 5))=.ok (.int (n:Int))∧n≤8:=by
    have:w % 5=0∨w % 5=1∨w % 5=2∨w % 5=3∨w % 5=4:=by omega
    rcases this with e | e | e | e | e <;> rw [e]
    · exact ⟨0,by simp,by omega⟩
    · exact ⟨1,by simp,by omega⟩
    · exact ⟨2,by simp,by omega⟩
    · exact ⟨3,by simp,by omega⟩
    · exact ⟨8,by simp,by omega⟩
  obtain ⟨n,hn,n8⟩:=key
  have nt:(("text":Str) == ("number":Str))=false:=by decide +kernel
  have turn:∀ k∈List.range n,∃ c:Nat,lcT (tgd (.nm 5)).f (den .no).t (den E__law_plain_0).v [some (A ns),some (.int a),some (.str "text"),some (.int w),some (.str " !'#&,:;0123456789ABCXYZabcxyz~"),none] (.int (k:Nat))=.ok (some (D.str ⟨#[c]⟩))∧(32≤c∧c≤126):=by
    intro k hk
    obtain ⟨p,hp,p0,p1⟩:=pick_ok ns (a + k) (m:=31) (by decide)
    have hp':φ__law_pick [A ns,.int ((a:Int) + (k:Int)),.int 31]=.ok (.int p):=hp
    obtain ⟨pp,rfl⟩:∃ pp:Nat,p=pp:=⟨p.toNat,by omega⟩
    refine ⟨sgn pp,?_,sgn_ok (by omega)⟩
    simp [lcT,ftName,E__law_plain_0,eVar,hp',sgn_at (show pp < 31 by omega)]
  obtain ⟨cs,g1,g2,g3⟩:=lcA_ex (f:=fun k:Nat=>D.int (k:Int)) (e:=fun c:Nat=>D.str ⟨#[c]⟩) turn
  rw [List.length_range] at g2
  have hr:=rngA_nat (n:=n) (by omega)
  have e1:cs.map (fun c:Nat=>D.str ⟨#[c]⟩)=(cs.map fun c=>(⟨#[c]⟩:Str)).map D.str:=by rw [List.map_map]; rfl
  have hj:dJoin (.str "") (.lst (cs.map fun c:Nat=>D.str ⟨#[c]⟩))=.ok (.str (Str.join "" (cs.map fun c=>(⟨#[c]⟩:Str)))):=by
    rw [e1]
    show R.of ((strsD _).bind _)=_
    rw [strsD_map]
    have hs:=sum1 cs
    have hz:("":Str).length=0:=rfl
    show R.of (if _ then _ else _)=_
    rw [if_pos (by rw [hs,hz]; omega)]
    rfl
  have hc:=join1_cps cs
  refine ⟨.str (Str.join "" (cs.map fun c=>(⟨#[c]⟩:Str))),?_,_,rfl,?_,fun c m=>?_⟩
  · unfold φ__law_plain runS ir__law_plain
    simp [eVar,ftName,hw,pow6,Srt.d,nt,mod_i (show (0:Int) < 5 by decide),sizeLine_eq,hn,hr,wipeE,g1,isStr,hj]
  · show (Str.join _ _).cps.size≤8
    rw [← Array.length_toList,hc]
    omega
  · rw [hc] at m
    obtain ⟨i,hi,e⟩:=List.getElem_of_mem m
    exact g3 i i c (by rw [List.getElem?_range (by omega)]) (by rw [List.getElem?_eq_getElem hi,e])
theorem lst_nil (xs:List Int):dEq (.lst (xs.map D.int)) (.lst [])=.ok xs.isEmpty:=by
  unfold dEq
  have h1:(D.lst (xs.map D.int)).pl=true:=pls_ints xs
  have h2:(D.lst []).pl=true:=rfl
  have h3:(D.lst []).dep≤60:=by decide
  rw [h1,h2,if_pos (by simp; omega)]
  cases xs with
  | nil=>rfl
  | cons n ns=>rfl
def kD (ks:Str→List Int):Str→D:=fun n=>.lst ((ks n).map D.int)
def ValOk (ks:Str→List Int):Srt→D→Prop
  | .lnk g m _,d=>(d=.non∧m=true)∨∃ k∈ks g,d=.int k
  | s,d=>IsPlain s d
theorem value_ok (ns : List Int) (a : Nat) {names : List Str} (ks : Str → List Int) (srt : Srt) (hg : ∀ g, srt.goal = some g → g ∈ names) (hz : ∀ g r, srt = .lnk g false r → ks g ≠ []) :
    ∃ d,φ__law_value [A ns,.int a,srt.d,cdic names (kD ks)]=.ok d∧ValOk ks srt d:=by
  cases srt with
  | num =>
    obtain ⟨d,h1,h2⟩:=plain_num ns a
    refine ⟨d,?_,h2⟩
    simp only [Srt.d] at h1
    unfold φ__law_value runS ir__law_value
    simp [eVar,ftName,Srt.d,h1]
  | txt =>
    obtain ⟨d,h1,h2⟩:=plain_txt ns a
    refine ⟨d,?_,h2⟩
    simp only [Srt.d] at h1
    unfold φ__law_value runS ir__law_value
    simp [eVar,ftName,Srt.d,h1]
  | lnk g m r =>
    have hs:=sub_cdic (v:=kD ks) (hg g rfl)
    have hn:=lst_nil (ks g)
    obtain ⟨p,hp,p0,p1⟩:=pick_ok ns a (m:=3) (by decide)
    have draw:ks g≠[]→∃ (q:Int) (k:Int),φ__law_pick [A ns,.int ((a:Int) + 1),.int ((ks g).length:Int)]=.ok (.int q)∧dSub2 (kD ks g) (.int q)=.ok (.int k)∧k∈ks g:=by
      intro hne
      have hl:0 < (ks g).length:=List.length_pos_iff.mpr hne
      obtain ⟨q,hq,q0,q1⟩:=pick_ok ns (a + 1) (m:=((ks g).length:Int)) (by omega)
      obtain ⟨x,hx1,hx2⟩:=sub_ls (xs:=(ks g).map D.int) (i:=q) (n:=(ks g).length) (by simp) q0 q1
      rw [List.getElem?_map] at hx2
      cases z:(ks g)[q.toNat]? with
      | none=>rw [z] at hx2; cases hx2
      | some k =>
        rw [z] at hx2
        cases hx2
        exact ⟨q,k,hq,hx1,List.mem_of_getElem? z⟩
    by_cases he:ks g=[]
    · have hm : m = true := by
        cases m with
        | true=>rfl
        | false=>exact absurd he (hz g r rfl)
      subst hm
      refine ⟨.non,?_,.inl ⟨rfl,rfl⟩⟩
      unfold φ__law_value runS ir__law_value
      have hs':dSub2 (cdic names (kD ks)) (.str g)=.ok (.lst []):=by rw [hs]; unfold kD; rw [he]; rfl
      have hn':dEq (.lst []) (.lst [])=.ok true:=by rw [he] at hn; exact hn
      simp [eVar,ftName,Srt.d,hs',hn',sizeLine_eq]
    · obtain ⟨q,k,hq,hk,hm⟩:=draw he
      have hi:(ks g).isEmpty=false:=by cases z:ks g with | nil=>exact absurd z he | cons _ _=>rfl
      rw [hi] at hn
      have hs':dSub2 (cdic names (kD ks)) (.str g)=.ok (.lst ((ks g).map D.int)):=hs
      have hk':dSub2 (.lst ((ks g).map D.int)) (.int q)=.ok (.int k):=hk
      cases m with
      | false =>
        refine ⟨.int k,?_,.inr ⟨k,hm,rfl⟩⟩
        unfold φ__law_value runS ir__law_value
        simp [eVar,ftName,Srt.d,hs',sizeLine_eq,hq,hk']
      | true =>
        by_cases hp0:p=0
        · refine ⟨.non,?_,.inl ⟨rfl,rfl⟩⟩
          subst hp0
          unfold φ__law_value runS ir__law_value
          simp [eVar,ftName,Srt.d,hs',hn,hp,sizeLine_eq]
        · refine ⟨.int k,?_,.inr ⟨k,hm,rfl⟩⟩
          have hpb:(p == 0)=false:=by simpa using hp0
          unfold φ__law_value runS ir__law_value
          simp [eVar,ftName,Srt.d,hs',hn,hp,hpb,sizeLine_eq,hq,hk']
end Pu
end
section
open Hr Wk PySem
namespace Pu
theorem intsD_map:∀ xs:List Int,intsD (xs.map D.int)=some xs
  | []=>rfl
  | x :: xs=>by show (intsD (xs.map D.int)).map _=_; rw [intsD_map xs]; rfl
theorem max_0 (xs:List Int):biF .max [.lst (.int 0 :: xs.map D.int)]=.ok (.int (maxI xs 0)):=by
  show R.of ((intsD ((0 :: xs).map D.int)).bind _)=_
  rw [intsD_map]
  rfl
theorem add_0 {xs:List Int} (h:xs.length≤1000):dAdd (.lst [.int 0]) (.lst (xs.map D.int))=.ok (.lst (.int 0 :: xs.map D.int)):=by
  show (if _ then _ else _)=_
  rw [if_pos (by simp [sizeLine_eq]; omega)]
  rfl
structure KeysOk (xs:List Int):Prop where
  pw:xs.Pairwise (· < ·)
  bd:∀ x∈xs,1≤x∧x≤2 * xs.length
theorem KeysOk.nil:KeysOk []:=⟨List.Pairwise.nil,fun x m=>by cases m⟩
theorem max_bd {xs:List Int} (h:KeysOk xs):0≤maxI xs 0∧maxI xs 0≤2 * xs.length∧∀ x∈xs,x≤maxI xs 0:=by
  obtain ⟨h1,h2⟩:=maxI_ok xs 0
  refine ⟨h2 0 (List.mem_cons_self ..),?_,fun x m=>h2 x (List.mem_cons_of_mem _ m)⟩
  rcases List.mem_cons.mp h1 with e | e
  · rw [e]; omega
  · exact (h.bd _ e).2
theorem KeysOk.snoc {xs:List Int} (h:KeysOk xs) {p:Int} (p0:0≤p) (p1:p < 2):KeysOk (xs ++ [maxI xs 0 + 1 + p]):=by
  obtain ⟨m0,m1,m2⟩:=max_bd h
  refine ⟨List.pairwise_append.mpr ⟨h.pw,List.pairwise_singleton ..,fun x hx y hy=>?_⟩,fun x hx=>?_⟩
  · rw [List.mem_singleton.mp hy]
    have:=m2 x hx
    omega
  · rw [List.length_append,List.length_singleton]
    rcases List.mem_append.mp hx with q | q
    · have:=h.bd x q
      omega
    · rw [List.mem_singleton.mp q]
      omega
def S19 (ns:List Int) (a most:Nat) (sch:List Knd) (x4 x5 x6 x7 x8 x9 x10 x11 x12 x13 x14 x15 x16 x17 x18:Option D):En :=
  [some (A ns),some (.int a),some (schD sch),some (.int most),x4,x5,x6,x7,x8,x9,x10,x11,x12,x13,x14,x15,x16,x17,x18]
def IK1 (ns:List Int) (a most:Nat) (sch:List Knd) (x4 x5:Option D) (j:Nat) (x8:Option D) (pre:List Nat) (s:En):Prop:=∃ (x10:Option D) (xs:List Int),s=S19 ns a most sch x4 x5 none (some (.int j)) x8 (some (.lst (xs.map D.int))) x10 none none none none none none none none∧KeysOk xs∧xs.length=pre.length
theorem store_step1 (ns : List Int) (a most : Nat) (sch : List Knd) (x4 x5 : Option D) (j : Nat) (x8 : Option D) (pre : List Nat) (b : Nat) (s : En) (hp : pre.length ≤ 900) (hi : IK1 ns a most sch x4 x5 j x8 pre s) :
    ∃ s2,turnD (tgd (.nm 10)).f (dS L__law_store_1) (.int (b:Nat)) s=.nx s2∧IK1 ns a most sch x4 x5 j x8 (pre ++ [b]) s2:=by
  obtain ⟨x10,xs,rfl,hk,hl⟩:=hi
  obtain ⟨p,hp',p0,p1⟩:=pick_ok ns (a + 5 + 7 * j + b) (m:=2) (by decide)
  have hp2:φ__law_pick [A ns,.int ((a:Int) + 5 + 7 * (j:Int) + (b:Int)),.int 2]=.ok (.int p):=by
    have e:((a + 5 + 7 * j + b:Nat):Int)=(a:Int) + 5 + 7 * (j:Int) + (b:Int):=by omega
    rw [← e]; exact hp'
  have ha:=add_0 (xs:=xs) (by omega)
  have hm:=max_0 xs
  have hlen:xs.length < 16777216:=by omega
  refine ⟨S19 ns a most sch x4 x5 none (some (.int j)) x8 (some (.lst ((xs ++ [maxI xs 0 + 1 + p]).map D.int))) (some (.int b)) none none none none none none none none,?_,some (.int b),_,rfl,hk.snoc p0 p1,by simp [hl]⟩
  simp [turnD,S19,L__law_store_1,ftName,eVar,ha,hm,hp2,mul_l (show nrw 7=true by decide),lstAt,optO,sizeLine_eq,hlen]
theorem kD_put (ks:Str→List Int) (g:Str) (xs:List Int):fput (kD ks) g (.lst (xs.map D.int))=kD (fput ks g xs):=by
  funext m
  show (if m=g then D.lst (xs.map D.int) else .lst ((ks m).map D.int))=D.lst ((if m=g then xs else ks m).map D.int)
  split <;> rfl
theorem pre_new {sch:List Knd} (nd:(sch.map (·.1)).Nodup) {pre post:List (Knd×Nat)} {kd:Knd} {j:Nat} (hx:sch.zipIdx=pre ++ (kd,j) :: post):kd.1∉pre.map (·.1.1):=by
  have e:sch.map (·.1)=pre.map (·.1.1) ++ kd.1 :: post.map (·.1.1):=by
    have:=congrArg (List.map fun p:Knd×Nat=>p.1.1) hx
    have e0:sch.zipIdx.map (fun p:Knd×Nat=>p.1.1)=sch.map (·.1):=by
      have:(fun p:Knd×Nat=>p.1.1)=(fun k:Knd=>k.1) ∘ Prod.fst:=rfl
      rw [this,← List.map_map,List.zipIdx_map_fst]
    rw [e0] at this
    rw [this]; simp
  rw [e] at nd
  have:=List.nodup_append.mp nd
  intro z
  exact this.2.2 _ z _ (List.mem_cons_self ..) rfl
def IK0 (ns:List Int) (a most:Nat) (sch:List Knd) (c:Str→Nat) (pre:List (Knd×Nat)) (s:En):Prop:=∃ (x7 x8 x9 x10:Option D) (ks:Str→List Int),s=S19 ns a most sch (some (cdic (sch.map (·.1)) (cD c))) (some (cdic (pre.map (·.1.1)) (kD ks))) none x7 x8 x9 x10 none none none none none none none none∧∀ n∈pre.map (·.1.1),KeysOk (ks n)∧(ks n).length=c n
theorem store_step0 (ns : List Int) (a most : Nat) {sch : List Knd} (nd : (sch.map (·.1)).Nodup) (hl : sch.length ≤ 3) {c : Str → Nat} (hc : ∀ m, c m ≤ 900) (pre : List (Knd × Nat)) (b : Knd × Nat) (post : List (Knd × Nat)) (s : En) (hx : sch.zipIdx = pre ++ b :: post) (hi : IK0 ns a most sch c pre s) :
    ∃ s2,turnD (tgd (.tp (.cons (.nm 7) (.cons (.nm 8) .nil)))).f (dS L__law_store_0) (D.tup [.int (b.2:Nat),kndD b.1]) s=.nx s2∧IK0 ns a most sch c (pre ++ [b]) s2:=by
  obtain ⟨kd,j⟩:=b
  obtain ⟨x7,x8,x9,x10,ks,rfl,hk⟩:=hi
  obtain ⟨hj,hkd,hlt⟩:=zipIdx_at hx
  have hnew:=pre_new nd hx
  have hmem:kd.1∈sch.map (·.1):=List.mem_map.mpr ⟨kd,List.mem_of_getElem? hkd,rfl⟩
  have hs:=sub_cdic (v:=cD c) hmem
  obtain ⟨s',h1,y10,xs,rfl,hxs,hxl⟩:=forD_run (I:=IK1 ns a most sch (some (cdic (sch.map (·.1)) (cD c))) (some (cdic (pre.map (·.1.1)) (kD ks))) j (some (kndD kd)))
    (s:=S19 ns a most sch (some (cdic (sch.map (·.1)) (cD c))) (some (cdic (pre.map (·.1.1)) (kD ks))) none (some (.int j)) (some (kndD kd)) (some (.lst [])) x10 none none none none none none none none)
    (f:=fun i:Nat=>D.int (i:Int)) (xs:=List.range (c kd.1)) ⟨x10,[],rfl,.nil,rfl⟩ (fun p b q s e i=>store_step1 ns a most sch _ _ j _ p b s (by
      have:=congrArg List.length e
      rw [List.length_range,List.length_append] at this
      have:=hc kd.1
      omega) i)
  rw [List.length_range] at hxl
  have hr:=rngA_nat (n:=c kd.1) (by have:=hc kd.1; omega)
  have hlen:pre.length < 16777216:=by omega
  have hp:=put_new (v:=kD ks) (d:=.lst (xs.map D.int)) hnew
  rw [kD_put] at hp
  simp only [List.map_map] at hp
  refine ⟨S19 ns a most sch (some (cdic (sch.map (·.1)) (cD c))) (some (cdic ((pre ++ [(kd,j)]).map (·.1.1)) (kD (fput ks kd.1 xs)))) none (some (.int j)) (some (kndD kd)) (some (.lst (xs.map D.int))) y10 none none none none none none none none,?_,_,_,_,_,fput ks kd.1 xs,rfl,fun n hn=>?_⟩
  · have hr':rngA [cD c kd.1]=.ok ((List.range (c kd.1)).map fun i:Nat=>.int (i:Int)):=hr
    simp only [S19,kndD] at h1
    simp only [List.map_append,List.map_cons,List.map_nil] at hp
    simp [turnD,S19,L__law_store_0,ftName,eVar,kndD,hs,hr',sizeLine_eq,h1]
    simp [cdic,dicAt,optO,keyOf,hp,hlen]
  · unfold fput
    by_cases e:n=kd.1
    · rw [if_pos e,e]; exact ⟨hxs,hxl⟩
    · rw [if_neg e]
      refine hk n ?_
      simp at hn
      rcases hn with q | q
      · simpa using q
      · exact absurd q e
end Pu
end
section
open Hr Wk PySem
namespace Pu
structure Rw where
  key:Int
  ver:Int
  vals:List D
def rwD (r:Rw):D:=.tup [.int r.key,.int r.ver,.tup r.vals]
structure Shf where
  num:Int
  rows:List Rw
def shD (s:Shf):D:=.tup [.int s.num,.tup (s.rows.map rwD)]
def stoD (l:List Shf):D:=.tup (l.map shD)
structure RwOk (ks:Str→List Int) (fs:List Fld) (r:Rw):Prop where
  ver:1≤r.ver∧r.ver≤3
  len:r.vals.length=fs.length
  val:∀ (i:Nat) (f:Fld) (d:D),fs[i]?=some f→r.vals[i]?=some d→ValOk ks f.2 d
def IR3 (ns:List Int) (a most:Nat) (sch:List Knd) (ks:Str→List Int) (kd:Knd) (x4 x6:Option D) (j:Nat) (x8 x9:Option D) (pre:List (Int×Nat)) (s:En):Prop:=∃ (x10 x14 x15 x16 x17 x18:Option D) (rows:List Rw),
  s=S19 ns a most sch x4 (some (cdic (sch.map (·.1)) (kD ks))) x6 (some (.int j)) x8 x9 x10 (some (.lst (rows.map rwD))) (some (.str kd.1)) (some (.tup (kd.2.map fldD))) x14 x15 x16 x17 x18∧rows.map (·.key)=pre.map (·.1)∧∀ r∈rows,RwOk ks kd.2 r
theorem store_step3 (ns : List Int) (a most : Nat) {sch : List Knd} (ks : Str → List Int) (kd : Knd) (x4 x6 : Option D) (j : Nat) (x8 x9 : Option D) (hg : ∀ f ∈ kd.2, ∀ g, f.2.goal = some g → g ∈ sch.map (·.1)) (hz : ∀ f ∈ kd.2, ∀ g r, f.2 = .lnk g false r → ks g ≠ []) (hf : kd.2.length ≤ 4)
    (pre:List (Int×Nat)) (b:Int×Nat) (s:En) (hp:pre.length≤900) (hi:IR3 ns a most sch ks kd x4 x6 j x8 x9 pre s) :
    ∃ s2,turnD (tgd (.tp (.cons (.nm 10) (.cons (.nm 14) .nil)))).f (dS L__law_store_3) (D.tup [.int (b.2:Nat),.int b.1]) s=.nx s2∧IR3 ns a most sch ks kd x4 x6 j x8 x9 (pre ++ [b]) s2:=by
  obtain ⟨key,k⟩:=b
  obtain ⟨x10,x14,x15,x16,x17,x18,rows,rfl,hr,ho⟩:=hi
  have hrl:rows.length=pre.length:=by have:=congrArg List.length hr; simpa using this
  obtain ⟨v,hv,v0,v1⟩:=pick_ok ns (a + 30 + 150 * j + 30 * k + 28) (m:=3) (by decide)
  have eb:((a + 30 + 150 * j + 30 * k:Nat):Int)=(a:Int) + 30 + 150 * (j:Int) + 30 * (k:Int):=by omega
  have hv':φ__law_pick [A ns,.int ((a:Int) + 30 + 150 * (j:Int) + 30 * (k:Int) + 28),.int 3]=.ok (.int v):=by
    rw [← eb]; exact hv
  have turn:∀ p∈kd.2.zipIdx,∃ d:D,lcT (tgd (.tp (.cons (.nm 17) (.cons (.nm 18) .nil)))).f (den .no).t (den E__law_store_0).v (S19 ns a most sch x4 (some (cdic (sch.map (·.1)) (kD ks))) x6 (some (.int j)) x8 x9 (some (.int k)) (some (.lst (rows.map rwD))) (some (.str kd.1)) (some (.tup (kd.2.map fldD))) (some (.int key)) (some (.int ((a:Int) + 30 + 150 * (j:Int) + 30 * (k:Int)))) x16 none none) (.tup [.int (p.2:Nat),fldD p.1])=.ok (some d)∧ValOk ks p.1.2 d:=by
    rintro ⟨f,i⟩ hp
    have hfm:f∈kd.2:=by
      have:=List.mem_map_of_mem (f:=Prod.fst) hp
      rwa [List.zipIdx_map_fst] at this
    obtain ⟨d,h1,h2⟩:=value_ok ns (a + 30 + 150 * j + 30 * k + 7 * i) (names:=sch.map (·.1)) ks f.2 (hg f hfm) (hz f hfm)
    have h1':φ__law_value [A ns,.int ((a:Int) + 30 + 150 * (j:Int) + 30 * (k:Int) + 7 * (i:Int)),f.2.d,cdic (sch.map (·.1)) (kD ks)]=.ok d:=by
      have e:((a + 30 + 150 * j + 30 * k + 7 * i:Nat):Int)=(a:Int) + 30 + 150 * (j:Int) + 30 * (k:Int) + 7 * (i:Int):=by omega
      rw [← e]; exact h1
    refine ⟨d,?_,h2⟩
    simp [lcT,S19,ftName,E__law_store_0,eVar,fldD,mul_l (show nrw 7=true by decide),h1']
  obtain ⟨vals,g1,g2,g3⟩:=lcA_ex (f:=fun p:Fld×Nat=>D.tup [.int (p.2:Nat),fldD p.1]) (e:=fun d:D=>d) turn
  rw [List.map_id'] at g1
  rw [List.length_zipIdx] at g2
  have hlen:rows.length < 16777216:=by omega
  refine ⟨S19 ns a most sch x4 (some (cdic (sch.map (·.1)) (kD ks))) x6 (some (.int j)) x8 x9 (some (.int k)) (some (.lst ((rows ++ [Rw.mk key (1 + v) vals]).map rwD))) (some (.str kd.1)) (some (.tup (kd.2.map fldD))) (some (.int key)) (some (.int ((a:Int) + 30 + 150 * (j:Int) + 30 * (k:Int)))) (some (.lst vals)) x17 x18,?_,_,_,_,_,_,_,rows ++ [Rw.mk key (1 + v) vals],rfl,by simp [hr],fun r hm=>?_⟩
  · simp only [S19] at g1
    simp [turnD,S19,L__law_store_3,ftName,eVar,wipeE,mul_l (show nrw 150=true by decide),mul_l (show nrw 30=true by decide),enumL_map,g1,hv',lstAt,optO,sizeLine_eq,hlen,rwD]
  · rcases List.mem_append.mp hm with q | q
    · exact ho r q
    · rw [List.mem_singleton.mp q]
      refine ⟨⟨by show 1≤1 + v; omega,by show 1 + v≤3; omega⟩,g2,fun i f d e1 e2=>?_⟩
      exact g3 i (f,i) d (by rw [List.getElem?_zipIdx,e1]; simp) e2
structure ShOk (ks:Str→List Int) (kd:Knd) (sh:Shf):Prop where
  keys:sh.rows.map (·.key)=ks kd.1
  lt:∀ k∈ks kd.1,k < sh.num
  num:1≤sh.num∧sh.num≤2 * (ks kd.1).length + 2
  rows:∀ r∈sh.rows,RwOk ks kd.2 r
def IR2 (ns:List Int) (a most:Nat) (sch:List Knd) (ks:Str→List Int) (x4:Option D) (pre:List (Knd×Nat)) (s:En):Prop:=∃ (x7 x8 x9 x10 x11 x12 x13 x14 x15 x16 x17 x18:Option D) (shs:List Shf),
  s=S19 ns a most sch x4 (some (cdic (sch.map (·.1)) (kD ks))) (some (.lst (shs.map shD))) x7 x8 x9 x10 x11 x12 x13 x14 x15 x16 x17 x18∧shs.length=pre.length∧∀ (i:Nat) (kd:Knd) (sh:Shf),sch[i]?=some kd→shs[i]?=some sh→ShOk ks kd sh
theorem store_step2 (ns : List Int) (a most : Nat) {sch : List Knd} (hl : sch.length ≤ 3) (ks : Str → List Int) (x4 : Option D) (hk : ∀ kd ∈ sch, KeysOk (ks kd.1) ∧ (ks kd.1).length ≤ 900) (hg : ∀ kd ∈ sch, ∀ f ∈ kd.2, ∀ g, f.2.goal = some g → g ∈ sch.map (·.1)) (hz : ∀ kd ∈ sch, ks kd.1 ≠ [] → ∀ f ∈ kd.2, ∀ g r, f.2 = .lnk g false r → ks g ≠ []) (hf : ∀ kd ∈ sch, kd.2.length ≤ 4)
    (pre:List (Knd×Nat)) (b:Knd×Nat) (post:List (Knd×Nat)) (s:En) (hx:sch.zipIdx=pre ++ b :: post) (hi:IR2 ns a most sch ks x4 pre s) :
    ∃ s2,turnD (tgd (.tp (.cons (.nm 7) (.cons (.tp (.cons (.nm 12) (.cons (.nm 13) .nil))) .nil)))).f (dS L__law_store_2) (D.tup [.int (b.2:Nat),kndD b.1]) s=.nx s2∧IR2 ns a most sch ks x4 (pre ++ [b]) s2:=by
  obtain ⟨kd,j⟩:=b
  obtain ⟨x7,x8,x9,x10,x11,x12,x13,x14,x15,x16,x17,x18,shs,rfl,hsl,hso⟩:=hi
  obtain ⟨hj,hkd,hlt⟩:=zipIdx_at hx
  have hm:kd∈sch:=List.mem_of_getElem? hkd
  obtain ⟨hk1,hk2⟩:=hk kd hm
  have hs:=sub_cdic (v:=kD ks) (List.mem_map.mpr ⟨kd,hm,rfl⟩:kd.1∈sch.map (·.1))
  have hs':dSub2 (cdic (sch.map (·.1)) (kD ks)) (.str kd.1)=.ok (.lst ((ks kd.1).map D.int)):=hs
  obtain ⟨p,hp,p0,p1⟩:=pick_ok ns (a + 4) (m:=2) (by decide)
  have hp':φ__law_pick [A ns,.int ((a:Int) + 4),.int 2]=.ok (.int p):=hp
  obtain ⟨s',h1,y10,y14,y15,y16,y17,y18,rows,rfl,hr,ho⟩:=forD_run (I:=IR3 ns a most sch ks kd x4 (some (.lst (shs.map shD))) j x8 x9)
    (s:=S19 ns a most sch x4 (some (cdic (sch.map (·.1)) (kD ks))) (some (.lst (shs.map shD))) (some (.int j)) x8 x9 x10 (some (.lst [])) (some (.str kd.1)) (some (.tup (kd.2.map fldD))) x14 x15 x16 x17 x18)
    (f:=fun p:Int×Nat=>D.tup [.int (p.2:Nat),.int p.1]) (xs:=(ks kd.1).zipIdx) ⟨x10,x14,x15,x16,x17,x18,[],rfl,rfl,fun r m=>by cases m⟩ (fun pr b po s e i=>store_step3 ns a most ks kd x4 _ j x8 x9 (hg kd hm) (hz kd hm (fun z=>by
      rw [z] at e
      have:=congrArg List.length e
      simp at this)) (hf kd hm) pr b s (by
      have:=congrArg List.length e
      rw [List.length_zipIdx,List.length_append] at this
      omega) i)
  rw [List.zipIdx_map_fst] at hr
  have hlen:shs.length < 16777216:=by omega
  have ha:=add_0 (xs:=ks kd.1) (by omega)
  have hmx:=max_0 (ks kd.1)
  obtain ⟨m0,m1,m2⟩:=max_bd hk1
  refine ⟨S19 ns a most sch x4 (some (cdic (sch.map (·.1)) (kD ks))) (some (.lst ((shs ++ [Shf.mk (maxI (ks kd.1) 0 + 1 + p) rows]).map shD))) (some (.int j)) x8 x9 y10 (some (.lst (rows.map rwD))) (some (.str kd.1)) (some (.tup (kd.2.map fldD))) y14 y15 y16 y17 y18,?_,_,_,_,_,_,_,_,_,_,_,_,_,shs ++ [Shf.mk (maxI (ks kd.1) 0 + 1 + p) rows],rfl,by simp [hsl],fun i kd' sh e1 e2=>?_⟩
  · simp only [S19] at h1
    simp [turnD,S19,L__law_store_2,ftName,eVar,kndD,hs',enumL_map,h1,ha,hmx,hp',lstAt,optO,sizeLine_eq,hlen,shD]
  · by_cases hi:i < shs.length
    · rw [List.getElem?_append_left hi] at e2
      exact hso i kd' sh e1 e2
    · rw [List.getElem?_append_right (by omega)] at e2
      have hi0:i - shs.length=0:=by
        cases q:i - shs.length with
        | zero=>rfl
        | succ _=>rw [q] at e2; simp at e2
      rw [hi0] at e2
      simp at e2
      subst e2
      have hij:i=j:=by omega
      subst hij
      rw [hkd] at e1
      cases e1
      exact ⟨hr,fun k hk=>by have:=m2 k hk; show k < maxI (ks kd.1) 0 + 1 + p; omega,⟨by show 1≤maxI (ks kd.1) 0 + 1 + p; omega,by show maxI (ks kd.1) 0 + 1 + p≤_; omega⟩,ho⟩
theorem store_ok (ns : List Int) (a most : Nat) (hmost : most ≤ 900) {sch : List Knd} (h6 : sch.map (·.1) ∈ six) (hw : ∀ (j : Nat) (kd : Knd), sch[j]? = some kd → kndWf (sch.map (·.1)) j kd) :
    ∃ (ks:Str→List Int) (sto:List Shf),φ__law_store [A ns,.int a,schD sch,.int most]=.ok (stoD sto)∧sto.length=sch.length∧(∀ kd∈sch,KeysOk (ks kd.1)∧(ks kd.1).length≤most) ∧
      ∀ (i:Nat) (kd:Knd) (sh:Shf),sch[i]?=some kd→sto[i]?=some sh→ShOk ks kd sh:=by
  obtain ⟨n1,n2,n3⟩:=six_facts h6
  have hl:sch.length≤3:=by simpa using n2
  have wf:∀ kd∈sch,∃ j,kndWf (sch.map (·.1)) j kd:=fun kd hm=>by
    obtain ⟨j,hj,e⟩:=List.getElem_of_mem hm
    exact ⟨j,hw j kd (by rw [List.getElem?_eq_getElem hj,e])⟩
  have hg:∀ kd∈sch,∀ f∈kd.2,∀ g,f.2.goal=some g→g∈sch.map (·.1):=fun kd hm f hf g e=>by
    obtain ⟨j,w⟩:=wf kd hm
    obtain ⟨i,hi,ei⟩:=List.getElem_of_mem hf
    exact (w.2.2 i f (by rw [List.getElem?_eq_getElem hi,ei])).2.1 g e
  obtain ⟨c,hc1,hc2,hc3⟩:=counts_ok ns a most n3 hl hg
  obtain ⟨s1,h1,x7,x8,x9,x10,ks,rfl,hk⟩:=forD_run (I:=IK0 ns a most sch c) (s:=S19 ns a most sch (some (cdic (sch.map (·.1)) (cD c))) (some (.dic false [] [])) none none none none none none none none none none none none none)
    (f:=fun p:Knd×Nat=>D.tup [.int (p.2:Nat),kndD p.1]) (xs:=sch.zipIdx) ⟨none,none,none,none,fun _=>[],rfl,fun n m=>by cases m⟩ (fun p b q s e i=>store_step0 ns a most n3 hl (fun m=>Nat.le_trans (hc2 m) hmost) p b q s e i)
  have e0:sch.zipIdx.map (fun p:Knd×Nat=>p.1.1)=sch.map (·.1):=by
    have:(fun p:Knd×Nat=>p.1.1)=(fun k:Knd=>k.1) ∘ Prod.fst:=rfl
    rw [this,← List.map_map,List.zipIdx_map_fst]
  rw [e0] at h1 hk
  have hk':∀ kd∈sch,KeysOk (ks kd.1)∧(ks kd.1).length=c kd.1:=fun kd hm=>hk kd.1 (List.mem_map.mpr ⟨kd,hm,rfl⟩)
  have hz:∀ kd∈sch,ks kd.1≠[]→∀ f∈kd.2,∀ g r,f.2=.lnk g false r→ks g≠[]:=fun kd hm hne f hf g r e hgz=>by
    have hgm:g∈sch.map (·.1):=hg kd hm f hf g (by rw [e]; rfl)
    have h0:c g=0:=by have:=(hk g hgm).2; rw [hgz] at this; exact this.symm
    have:=hc3 kd hm f hf g r e h0
    have hl:=(hk' kd hm).2
    rw [this] at hl
    exact hne (List.length_eq_zero_iff.mp hl)
  obtain ⟨s2,h2,y7,y8,y9,y10,y11,y12,y13,y14,y15,y16,y17,y18,shs,rfl,hsl,hso⟩:=forD_run (I:=IR2 ns a most sch ks (some (cdic (sch.map (·.1)) (cD c)))) (s:=S19 ns a most sch (some (cdic (sch.map (·.1)) (cD c))) (some (cdic (sch.map (·.1)) (kD ks))) (some (.lst [])) x7 x8 x9 x10 none none none none none none none none)
    (f:=fun p:Knd×Nat=>D.tup [.int (p.2:Nat),kndD p.1]) (xs:=sch.zipIdx) ⟨x7,x8,x9,x10,none,none,none,none,none,none,none,none,[],rfl,rfl,fun i kd sh _ e=>by simp at e⟩
    (fun p b q s e i=>store_step2 ns a most hl ks _ (fun kd hm=>⟨(hk' kd hm).1,by rw [(hk' kd hm).2]; exact Nat.le_trans (hc2 _) hmost⟩) hg hz (fun kd hm=>by obtain ⟨j,w⟩:=wf kd hm; exact w.2.1) p b q s e i)
  rw [List.length_zipIdx] at hsl
  refine ⟨ks,shs,?_,hsl,fun kd hm=>⟨(hk' kd hm).1,by rw [(hk' kd hm).2]; exact hc2 _⟩,hso⟩
  simp only [schD] at hc1
  simp only [S19,schD] at h1 h2
  unfold φ__law_store runS ir__law_store
  simp [eVar,ftName,schD,hc1,enumL_map,h1,h2,sizeLine_eq,stoD]
end Pu
end
section
open Hr Wk PySem
namespace Pu
inductive Smp:D→Prop
  | non:Smp .non
  | int (i:Int):Smp (.int i)
  | str (x:Str):Smp (.str x)
theorem Smp.eqv {d:D} (h:Smp d):D.eqv d d=true:=by
  cases h with
  | non=>rfl
  | int i=>show (i == i)=true; simp
  | str x=>show (x == x)=true; simp
theorem Smp.pl {d:D} (h:Smp d):d.pl=true:=by cases h <;> rfl
theorem Smp.dep {d:D} (h:Smp d):d.py.depth=0:=by cases h <;> rfl
theorem smp_pls:∀ {ds:List D},(∀ d∈ds,Smp d)→D.pls ds=true
  | [],_=>rfl
  | d :: ds,h=>by
    show (d.pl && D.pls ds)=true
    rw [smp_pls fun x m=>h x (List.mem_cons_of_mem _ m),(h d (List.mem_cons_self ..)).pl]
    rfl
theorem smp_dep:∀ {ds:List D},(∀ d∈ds,Smp d)→PyData.depthAll (D.pys ds)=0
  | [],_=>rfl
  | d :: ds,h=>by
    show max d.py.depth (PyData.depthAll (D.pys ds))=0
    rw [smp_dep fun x m=>h x (List.mem_cons_of_mem _ m),(h d (List.mem_cons_self ..)).dep]
    rfl
theorem kind_names_ok (sch:List Knd):φ_kind_names [schD sch]=.ok (.lst ((sch.map (·.1)).map D.str)):=by
  have h:=lcA_over (f:=kndD) (t:=lcT (tgd (.nm 1)).f (den .no).t (den E_kind_names_0).v [some (schD sch),none]) (g:=fun k:Knd=>some (.str k.1)) (xs:=sch) fun k _=>by
    simp [lcT,ftName,E_kind_names_0,eVar,kndD]
  have e:sch.filterMap (fun k:Knd=>some (D.str k.1))=(sch.map (·.1)).map D.str:=by
    rw [List.map_map]
    have:(fun k:Knd=>some (D.str k.1))=some ∘ (D.str ∘ fun x:Knd=>x.1):=rfl
    rw [this,List.filterMap_eq_map]
  rw [e] at h
  simp only [schD] at h
  unfold φ_kind_names runS ir_kind_names
  simp [eVar,schD,wipeE,h]
theorem str_smps (names:List Str):∀ d∈names.map D.str,Smp d:=fun d m=>by
  obtain ⟨x,_,rfl⟩:=List.mem_map.mp m
  exact .str x
theorem idxD_names:∀ {names:List Str} {j:Nat} {nm:Str} (o:Nat),names.Nodup→names[j]?=some nm→idxD (.str nm) (names.map D.str) o=some (o + j)
  | [],j,nm,o,_,h=>by simp at h
  | n :: ns,0,nm,o,_,h=>by
    simp at h
    subst h
    show (if D.eqv (.str n) (.str n) then some o else _)=_
    rw [if_pos (Smp.str n).eqv]
    rfl
  | n :: ns,j + 1,nm,o,nd,h=>by
    have h':ns[j]?=some nm:=by simpa using h
    obtain ⟨h1,h2⟩:=List.nodup_cons.mp nd
    have hne:n≠nm:=fun e=>h1 (by rw [e]; exact List.mem_of_getElem? h')
    show (if D.eqv (.str n) (.str nm) then some o else idxD (.str nm) (ns.map D.str) (o + 1))=_
    have:D.eqv (.str n) (.str nm)=false:=by show (n == nm)=false; simpa using hne
    rw [this]
    simp only [Bool.false_eq_true,if_false]
    rw [idxD_names (o + 1) h2 h']
    congr 1
    omega
theorem index_names {names:List Str} {j:Nat} {nm:Str} (nd:names.Nodup) (h:names[j]?=some nm):dIndex (names.map D.str) (.str nm)=.ok (.int (j:Nat)):=by
  unfold dIndex
  rw [if_pos,idxD_names 0 nd h]
  · simp
  · rw [smp_pls (str_smps names),smp_dep (str_smps names)]
    rfl
structure SS (sch:List Knd) (sto:List Shf):Prop where
  nd:(sch.map (·.1)).Nodup
  len:sto.length=sch.length
theorem names_get {sch:List Knd} {j:Nat} {kd:Knd} (h:sch[j]?=some kd):(sch.map (·.1))[j]?=some kd.1:=by rw [List.getElem?_map,h]; rfl
theorem shelf_ok {sch:List Knd} {sto:List Shf} (w:SS sch sto) {j:Nat} {kd:Knd} {sh:Shf} (h1:sch[j]?=some kd) (h2:sto[j]?=some sh):φ_shelf_of [schD sch,stoD sto,.str kd.1]=.ok (shD sh):=by
  have hi:=index_names w.nd (names_get h1)
  have hn:=kind_names_ok sch
  have hs:dSub2 (.tup (sto.map shD)) (.int (j:Nat))=.ok (shD sh):=sub_t (by rw [List.getElem?_map,h2]; rfl)
  unfold φ_shelf_of runS ir_shelf_of
  simp [eVar,hn,hi,stoD,hs, -List.map_map]
theorem fields_ok {sch:List Knd} (nd:(sch.map (·.1)).Nodup) {j:Nat} {kd:Knd} (h1:sch[j]?=some kd):φ_fields_of [schD sch,.str kd.1]=.ok (.tup (kd.2.map fldD)):=by
  have hi:=index_names nd (names_get h1)
  have hn:=kind_names_ok sch
  have hs:dSub2 (.tup (sch.map kndD)) (.int (j:Nat))=.ok (kndD kd):=sub_t (by rw [List.getElem?_map,h1]; rfl)
  unfold φ_fields_of runS ir_fields_of
  simp only [schD] at hn
  simp [eVar,hn,hi,schD,hs, -List.map_map]
  simp [kndD]
theorem filterMap_if {α β:Type} (b:α→Bool) (f:α→β):∀ l:List α,l.filterMap (fun p=>if b p then some (f p) else none)=(l.filter b).map f
  | []=>rfl
  | a :: l=>by
    rw [List.filterMap_cons,List.filter_cons,filterMap_if b f l]
    cases b a <;> rfl
def Srt.isLnk:Srt→Bool
  | .lnk _ _ _=>true
  | _=>false
theorem plain_is (s:Srt):φ_is_plain [s.d]=.ok (.bl (!s.isLnk)):=by
  unfold φ_is_plain runS ir_is_plain
  cases s <;> simp [eVar,Srt.d,isTy,Srt.isLnk]
theorem links_fields_ok {sch : List Knd} (nd : (sch.map (·.1)).Nodup) {j : Nat} {kd : Knd} (h1 : sch[j]? = some kd) :
    φ_link_fields [schD sch,.str kd.1]=.ok (.lst ((kd.2.zipIdx.filter fun p=>p.1.2.isLnk).map fun p=>.tup [.int (p.2:Nat),p.1.2.d])):=by
  have hf:=fields_ok nd h1
  have h:=lcA_over (f:=fun p:Fld×Nat=>D.tup [.int (p.2:Nat),fldD p.1]) (t:=lcT (tgd (.tp (.cons (.nm 2) (.cons (.nm 3) .nil)))).f (den J_link_fields_0).t (den E_link_fields_0).v [some (schD sch),some (.str kd.1),none,none])
    (g:=fun p:Fld×Nat=>if p.1.2.isLnk then some (D.tup [.int (p.2:Nat),p.1.2.d]) else none) (xs:=kd.2.zipIdx) fun p _=>by
      have hp:=plain_is p.1.2
      cases q:p.1.2.isLnk with
      | true=>rw [q] at hp; simp [lcT,ftName,E_link_fields_0,J_link_fields_0,eVar,fldD,hp,sizeLine_eq]
      | false=>rw [q] at hp; simp [lcT,ftName,E_link_fields_0,J_link_fields_0,eVar,fldD,hp,sizeLine_eq]
  have e:kd.2.zipIdx.filterMap (fun p:Fld×Nat=>if p.1.2.isLnk then some (D.tup [.int (p.2:Nat),p.1.2.d]) else none)=(kd.2.zipIdx.filter fun p=>p.1.2.isLnk).map fun p=>.tup [.int (p.2:Nat),p.1.2.d]:=by
    exact filterMap_if _ _ _
  rw [e] at h
  unfold φ_link_fields runS ir_link_fields
  simp [eVar,hf,wipeE,enumL_map,h]
end Pu
end
section
open Hr Wk PySem
namespace Pu
mutual
def flat:Nat→D→Bool
  | _,.non=>true
  | _,.bl _=>true
  | _,.int _=>true
  | _,.str _=>true
  | 0,.tup _=>false
  | 0,.lst _=>false
  | n + 1,.tup ds=>flats n ds
  | n + 1,.lst ds=>flats n ds
  | _,_=>false
def flats:Nat→List D→Bool
  | _,[]=>true
  | n,d :: ds=>flat n d && flats n ds
end
mutual
theorem flat_ok:∀ (n:Nat) (d:D),flat n d=true→d.pl=true∧d.py.depth≤n∧PyData.eqv d.py d.py=true
  | _,.non,_=>⟨rfl,Nat.zero_le _,rfl⟩
  | _,.bl b,_=>⟨rfl,Nat.zero_le _,by show (b == b)=true; simp⟩
  | _,.int i,_=>⟨rfl,Nat.zero_le _,by show (i == i)=true; simp⟩
  | _,.str x,_=>⟨rfl,Nat.zero_le _,by show (x == x)=true; simp⟩
  | n + 1,.tup ds,h=>by
    obtain ⟨h1,h2,h3⟩:=flats_ok n ds (by simpa [flat] using h)
    exact ⟨h1,Nat.succ_le_succ h2,h3⟩
  | n + 1,.lst ds,h=>by
    obtain ⟨h1,h2,h3⟩:=flats_ok n ds (by simpa [flat] using h)
    exact ⟨h1,Nat.succ_le_succ h2,h3⟩
  | 0,.tup ds,h=>by simp [flat] at h
  | 0,.lst ds,h=>by simp [flat] at h
  | _,.arr _,h=>by simp [flat] at h
  | _,.kt _,h=>by simp [flat] at h
  | _,.exc _,h=>by simp [flat] at h
  | _,.dic _ _ _,h=>by simp [flat] at h
theorem flats_ok:∀ (n:Nat) (ds:List D),flats n ds=true→D.pls ds=true∧PyData.depthAll (D.pys ds)≤n∧PyData.eqvAll (D.pys ds) (D.pys ds)=true
  | _,[],_=>⟨rfl,Nat.zero_le _,rfl⟩
  | n,d :: ds,h=>by
    obtain ⟨h1,h2⟩:=Bool.and_eq_true_iff.mp (show (flat n d && flats n ds)=true by simpa [flats] using h)
    obtain ⟨a1,a2,a3⟩:=flat_ok n d h1
    obtain ⟨b1,b2,b3⟩:=flats_ok n ds h2
    refine ⟨by show (d.pl && D.pls ds)=true; rw [a1,b1]; rfl,?_,by show (PyData.eqv d.py d.py && PyData.eqvAll (D.pys ds) (D.pys ds))=true; rw [a3,b3]; rfl⟩
    show max d.py.depth (PyData.depthAll (D.pys ds))≤n
    omega
end
theorem flats_of {n:Nat}:∀ {ds:List D},(∀ d∈ds,flat n d=true)→flats n ds=true
  | [],_=>by simp [flats]
  | d :: ds,h=>by simp [flats,h d (List.mem_cons_self ..),flats_of fun x m=>h x (List.mem_cons_of_mem _ m)]
theorem eq_self {n:Nat} {d:D} (h:flat n d=true) (hn:n≤60):dEq d d=.ok true:=by
  obtain ⟨h1,h2,h3⟩:=flat_ok n d h
  unfold dEq D.dep D.eqv
  rw [h1,h3,if_pos]
  simp
  omega
theorem eq_pl {a b:D} (ha:a.pl=true) (hb:b.pl=true) (hd:b.dep≤60):dEq a b=.ok (D.eqv a b):=by
  unfold dEq
  rw [ha,hb,if_pos (by simp; omega)]
theorem fm_some {α:Type} (g:α→D) (xs:List α):xs.filterMap (fun a=>some (g a))=xs.map g:=by
  rw [← List.filterMap_eq_map]; rfl
theorem boolsD_map {α:Type} (g:α→Bool):∀ xs:List α,boolsD (xs.map fun a=>D.bl (g a))=some (xs.map g)
  | []=>rfl
  | a :: xs=>by show (boolsD (xs.map fun a=>D.bl (g a))).map _=_; rw [boolsD_map g xs]; rfl
theorem all_map {α:Type} (g:α→Bool) (xs:List α):biF .all [.lst (xs.map fun a=>D.bl (g a))]=.ok (.bl (xs.all g)):=by
  show R.of ((boolsD _).map _)=_
  rw [boolsD_map]
  show R.ok (D.bl ((xs.map g).all id))=_
  rw [List.all_map]
  rfl
theorem zip_at {α β:Type} {l:List α} {m:List β} {pre post:List (α×β)} {b:α×β} (h:l.zip m=pre ++ b :: post):l[pre.length]?=some b.1∧m[pre.length]?=some b.2:=by
  have e:(l.zip m)[pre.length]?=some b:=by rw [h,List.getElem?_append_right (Nat.le_refl _),Nat.sub_self]; rfl
  rw [List.getElem?_zip_eq_some] at e
  exact e
end Pu
end
section
open Hr Wk PySem
namespace Pu
def ValS:Srt→D→Prop
  | .lnk _ _ _,d=>(d=.non∧True)∨∃ k:Int,True∧d=.int k
  | s,d=>IsPlain s d
structure RowS (fs:List Fld) (r:Rw):Prop where
  len:r.vals.length=fs.length
  val:∀ (i:Nat) (f:Fld) (d:D),fs[i]?=some f→r.vals[i]?=some d→ValS f.2 d
structure ShS (kd:Knd) (sh:Shf):Prop where
  rows:∀ r∈sh.rows,RowS kd.2 r
theorem ValOk.s {ks:Str→List Int} {s:Srt} {d:D} (h:ValOk ks s d):ValS s d:=by
  cases s with
  | num=>exact h
  | txt=>exact h
  | lnk g m r=>rcases h with ⟨e,_⟩ | ⟨k,_,e⟩; exact .inl ⟨e,trivial⟩; exact .inr ⟨k,trivial,e⟩
theorem RwOk.s {ks:Str→List Int} {fs:List Fld} {r:Rw} (h:RwOk ks fs r):RowS fs r:=⟨h.len,fun i f d e1 e2=>(h.val i f d e1 e2).s⟩
theorem ShOk.s {ks:Str→List Int} {kd:Knd} {sh:Shf} (h:ShOk ks kd sh):ShS kd sh:=⟨fun r m=>(h.rows r m).s⟩
end Pu
end
section
open Hr Wk PySem
namespace Pu
def isK (key:Int):Option D→Bool
  | some (.int k)=>k == key
  | _=>false
def lnkOf (nm:Str) (key:Int) (kd:Knd) (r:Rw) (p:Fld×Nat):Option D:=match p.1.2 with
  | .lnk g _ _=>if (g == nm && isK key (r.vals[p.2]?))=true then some (.tup [.str kd.1,.int r.key,.str p.1.1]) else none
  | _=>none
def valAt (vals:List D) (i:Nat):D:=vals.getD i .non
def rowL (nm:Str) (key:Int) (kd:Knd) (r:Rw):List D:=kd.2.zipIdx.filterMap (lnkOf nm key kd r)
def kindL (nm:Str) (key:Int) (p:Knd×Shf):List D:=p.2.rows.flatMap (rowL nm key p.1)
def allL (nm:Str) (key:Int) (sch:List Knd) (sto:List Shf):List D:=(sch.zip sto).flatMap (kindL nm key)
theorem rowL_len (nm:Str) (key:Int) (kd:Knd) (r:Rw):(rowL nm key kd r).length≤kd.2.length:=by
  have:=List.length_filterMap_le (lnkOf nm key kd r) kd.2.zipIdx
  rw [List.length_zipIdx] at this
  exact this
theorem flat_len {α:Type} {g:α→List D} {n:Nat}:∀ {l:List α},(∀ a∈l,(g a).length≤n)→(l.flatMap g).length≤n * l.length
  | [],_=>Nat.zero_le _
  | a :: l,h=>by
    have h1:=h a (List.mem_cons_self ..)
    have h2:=flat_len (g:=g) (l:=l) fun x m=>h x (List.mem_cons_of_mem _ m)
    rw [List.flatMap_cons,List.length_append,List.length_cons,Nat.mul_succ]
    omega
theorem val_key {g:Str} {m:Bool} {r:Str} {v:D} (h:ValS (.lnk g m r) v) (key:Int):dEq v (.int key)=.ok (isK key (some v)):=by
  rcases h with ⟨rfl,_⟩ | ⟨k,_,rfl⟩
  · rfl
  · rfl
theorem zipIdx_mem {α:Type} {l:List α} {a:α} {i:Nat} {pre post:List (α×Nat)} (h:l.zipIdx=pre ++ (a,i) :: post):l[i]?=some a:=(zipIdx_at h).2.1
@[simp] theorem link_link:(("link":Str) == ("link":Str))=true:=by decide +kernel
theorem kindL_len {nm:Str} {key:Int} {p:Knd×Shf} (hf:p.1.2.length≤8) (hr:p.2.rows.length≤900):(kindL nm key p).length≤7200:=by
  have:=flat_len (g:=rowL nm key p.1) (n:=8) (l:=p.2.rows) fun a _=>Nat.le_trans (rowL_len nm key p.1 a) hf
  unfold kindL
  omega
end Pu
end
section
open Hr Wk PySem
namespace Pu
def Tri (d:D):Prop:=∃ (a:Str) (k:Int) (b:Str),d=.tup [.str a,.int k,.str b]
theorem tri_all {nm:Str} {key:Int} {sch:List Knd} {sto:List Shf}:∀ d∈allL nm key sch sto,Tri d:=by
  intro d hd
  obtain ⟨p,_,hd⟩:=List.mem_flatMap.mp hd
  obtain ⟨r,_,hd⟩:=List.mem_flatMap.mp hd
  obtain ⟨q,_,hd⟩:=List.mem_filterMap.mp hd
  unfold lnkOf at hd
  split at hd
  · split at hd
    · cases hd; exact ⟨_,_,_,rfl⟩
    · cases hd
  · cases hd
theorem sortOk_tri {ds:List D} (h:∀ d∈ds,Tri d):sortOk ds=true:=by
  have pls:∀ ds:List D,(∀ d∈ds,Tri d)→D.pls ds=true:=by
    intro ds
    induction ds with
    | nil=>intro _; rfl
    | cons d ds ih =>
      intro h
      obtain ⟨a,k,b,rfl⟩:=h d (List.mem_cons_self ..)
      show (true && D.pls ds)=true
      rw [ih fun x m=>h x (List.mem_cons_of_mem _ m)]; rfl
  unfold sortOk
  rw [Bool.and_eq_true,Bool.and_eq_true,Bool.and_eq_true]
  refine ⟨⟨⟨pls ds h,?_⟩,?_⟩,?_⟩
  · rw [List.all_eq_true]
    intro x hx
    rw [List.all_eq_true]
    intro y hy
    obtain ⟨a,k,b,rfl⟩:=h x hx
    obtain ⟨a',k',b',rfl⟩:=h y hy
    rfl
  · rw [Bool.or_eq_true]
    left
    rw [List.all_eq_true]
    intro x hx
    obtain ⟨a,k,b,rfl⟩:=h x hx
    rfl
  · rw [List.all_eq_true]
    intro x hx
    obtain ⟨a,k,b,rfl⟩:=h x hx
    rfl
theorem sorted_tri {ds:List D} (h:∀ d∈ds,Tri d):biF .sorted [.lst ds]=.ok (.lst (isort leD ds)):=by
  show (if sortOk ds=true then _ else _)=_
  rw [if_pos (sortOk_tri h)]
structure Sto (sch:List Knd) (sto:List Shf):Prop where
  ss:SS sch sto
  few:sch.length≤8
  fl:∀ kd∈sch,kd.2.length≤8
  sh:∀ (i:Nat) (kd:Knd) (sh:Shf),sch[i]?=some kd→sto[i]?=some sh→ShS kd sh
  rw:∀ sh∈sto,sh.rows.length≤900
theorem Sto.at_ {sch:List Knd} {sto:List Shf} (w:Sto sch sto) {p:Knd×Shf} (h:p∈sch.zip sto):∃ i:Nat,sch[i]?=some p.1∧sto[i]?=some p.2∧ShS p.1 p.2∧p.1.2.length≤8∧p.2.rows.length≤900:=by
  obtain ⟨pre,post,e⟩:=List.append_of_mem h
  obtain ⟨h1,h2⟩:=zip_at e
  exact ⟨_,h1,h2,w.sh _ _ _ h1 h2,w.fl _ (List.mem_of_getElem? h1),w.rw _ (List.mem_of_getElem? h2)⟩
def E10 (sch:List Knd) (sto:List Shf) (nm:Str) (key:Int) (made:List D) (x5 x6 x7 x8 x9:Option D):En:=[some (schD sch),some (stoD sto),some (.str nm),some (.int key),some (.lst made),x5,x6,x7,x8,x9]
def JL2 (sch:List Knd) (sto:List Shf) (nm:Str) (key:Int) (kd:Knd) (r:Rw) (acc:List D) (pre:List (Fld×Nat)) (s:En):Prop:=∃ x8 x9:Option D,s=E10 sch sto nm key (acc ++ pre.filterMap (lnkOf nm key kd r)) (some (.str kd.1)) (some (.tup (kd.2.map fldD))) (some (rwD r)) x8 x9
theorem links_2 (sch : List Knd) (sto : List Shf) (nm : Str) (key : Int) (kd : Knd) {r : Rw} (hr : RowS kd.2 r) (hf : kd.2.length ≤ 8) {acc : List D} (ha : acc.length ≤ 1000000) (pre : List (Fld × Nat)) (b : Fld × Nat) (post : List (Fld × Nat)) (s : En) (hx : (kd.2.zipIdx.filter fun p => p.1.2.isLnk) = pre ++ b :: post) (hi : JL2 sch sto nm key kd r acc pre s) :
    ∃ s2,turnD (tgd (.tp (.cons (.nm 8) (.cons (.nm 9) .nil)))).f (dS L_links_to_2) (D.tup [.int (b.2:Nat),b.1.2.d]) s=.nx s2∧JL2 sch sto nm key kd r acc (pre ++ [b]) s2:=by
  obtain ⟨⟨fnm,srt⟩,i⟩:=b
  obtain ⟨x8,x9,rfl⟩:=hi
  have hm:((fnm,srt),i)∈kd.2.zipIdx.filter fun p=>p.1.2.isLnk:=by rw [hx]; simp
  obtain ⟨hm1,hm2⟩:=List.mem_filter.mp hm
  obtain ⟨p1,q1,e1⟩:=List.append_of_mem hm1
  have hfi:=zipIdx_mem e1
  have hil:i < r.vals.length:=by rw [hr.len]; exact (List.getElem?_eq_some_iff.mp hfi).1
  have hvi:r.vals[i]?=some (valAt r.vals i):=by unfold valAt; rw [List.getElem?_eq_getElem hil,List.getD_eq_getElem?_getD,List.getElem?_eq_getElem hil]; rfl
  have hv:=hr.val i _ _ hfi hvi
  generalize valAt r.vals i=v at hvi hv
  have hlen:(acc ++ pre.filterMap (lnkOf nm key kd r)).length < 16777216:=by
    have h1:=List.length_filterMap_le (lnkOf nm key kd r) pre
    have h2:=congrArg List.length hx
    have h3:=List.length_filter_le (fun p:Fld×Nat=>p.1.2.isLnk) kd.2.zipIdx
    rw [List.length_zipIdx] at h3
    rw [List.length_append,List.length_cons] at h2
    rw [List.length_append]
    omega
  have hfm:acc ++ (pre ++ [((fnm,srt),i)]).filterMap (lnkOf nm key kd r)=(acc ++ pre.filterMap (lnkOf nm key kd r)) ++ (lnkOf nm key kd r ((fnm,srt),i)).toList:=by
    rw [List.filterMap_append,List.append_assoc]
    have e:[((fnm,srt),i)].filterMap (lnkOf nm key kd r)=(lnkOf nm key kd r ((fnm,srt),i)).toList:=by
      rw [List.filterMap_cons]
      cases lnkOf nm key kd r ((fnm,srt),i) <;> rfl
    rw [e]
  unfold JL2
  rw [hfm]
  generalize acc ++ pre.filterMap (lnkOf nm key kd r)=made at hlen
  refine ⟨_,?_,some (.int (i:Nat)),some srt.d,rfl⟩
  have hs1:dSub2 (.tup r.vals) (.int (i:Nat))=.ok v:=sub_t hvi
  have hs2:dSub2 (.tup (kd.2.map fldD)) (.int (i:Nat))=.ok (fldD (fnm,srt)):=sub_t (by rw [List.getElem?_map,hfi]; rfl)
  cases srt with
  | num=>cases hm2
  | txt=>cases hm2
  | lnk g m ru =>
    have hk:=val_key hv key
    cases q1:(g == nm) with
    | false=>simp [turnD,E10,L_links_to_2,ftName,eVar,fldD,Srt.d,lnkOf,q1]
    | true =>
      cases q2:isK key (some v) with
      | false =>
        rw [q2] at hk
        simp [turnD,E10,L_links_to_2,ftName,eVar,Srt.d,lnkOf,q1,hvi,q2,hk,rwD,hs1]
      | true =>
        rw [q2] at hk
        simp [turnD,E10,L_links_to_2,ftName,eVar,Srt.d,lnkOf,q1,hvi,q2,hk,rwD,hs1,hs2,sizeLine_eq,lstAt,optO,hlen]
        simp [fldD,hlen]
theorem rowL_links (nm:Str) (key:Int) (kd:Knd) (r:Rw):(kd.2.zipIdx.filter fun p=>p.1.2.isLnk).filterMap (lnkOf nm key kd r)=rowL nm key kd r:=by
  unfold rowL
  rw [List.filterMap_filter]
  congr 1
  funext p
  obtain ⟨⟨fnm,srt⟩,i⟩:=p
  cases srt <;> simp [Srt.isLnk,lnkOf]
def JL1 (sch:List Knd) (sto:List Shf) (nm:Str) (key:Int) (kd:Knd) (acc:List D) (pre:List Rw) (s:En):Prop:=∃ x7 x8 x9:Option D,s=E10 sch sto nm key (acc ++ pre.flatMap (rowL nm key kd)) (some (.str kd.1)) (some (.tup (kd.2.map fldD))) x7 x8 x9
theorem links_1 {sch : List Knd} (nd : (sch.map (·.1)).Nodup) (sto : List Shf) (nm : Str) (key : Int) {j : Nat} {kd : Knd} (hj : sch[j]? = some kd) (hf : kd.2.length ≤ 8) {acc : List D} (ha : acc.length ≤ 100000) (pre : List Rw) (r : Rw) (s : En) (hr : RowS kd.2 r) (hp : pre.length ≤ 900) (hi : JL1 sch sto nm key kd acc pre s) :
    ∃ s2,turnD (tgd (.nm 7)).f (dS L_links_to_1) (rwD r) s=.nx s2∧JL1 sch sto nm key kd acc (pre ++ [r]) s2:=by
  obtain ⟨x7,x8,x9,rfl⟩:=hi
  have hl:(acc ++ pre.flatMap (rowL nm key kd)).length≤1000000:=by
    have:=flat_len (g:=rowL nm key kd) (n:=8) (l:=pre) fun a _=>Nat.le_trans (rowL_len nm key kd a) hf
    rw [List.length_append]
    omega
  obtain ⟨s',h1,y8,y9,rfl⟩:=forD_run (I:=JL2 sch sto nm key kd r (acc ++ pre.flatMap (rowL nm key kd))) (s:=E10 sch sto nm key (acc ++ pre.flatMap (rowL nm key kd)) (some (.str kd.1)) (some (.tup (kd.2.map fldD))) (some (rwD r)) x8 x9)
    (f:=fun p:Fld×Nat=>D.tup [.int (p.2:Nat),p.1.2.d]) (xs:=kd.2.zipIdx.filter fun p=>p.1.2.isLnk) ⟨x8,x9,by simp⟩ (fun p b q s e i=>links_2 sch sto nm key kd hr hf hl p b q s e i)
  rw [rowL_links] at h1
  have hlf:=links_fields_ok nd hj
  refine ⟨E10 sch sto nm key (acc ++ (pre ++ [r]).flatMap (rowL nm key kd)) (some (.str kd.1)) (some (.tup (kd.2.map fldD))) (some (rwD r)) y8 y9,?_,_,_,_,rfl⟩
  simp only [E10] at h1
  simp [turnD,E10,L_links_to_1,ftName,eVar,hlf,h1]
def JL0 (sch:List Knd) (sto:List Shf) (nm:Str) (key:Int) (pre:List (Knd×Shf)) (s:En):Prop:=∃ x5 x6 x7 x8 x9:Option D,s=E10 sch sto nm key (pre.flatMap (kindL nm key)) x5 x6 x7 x8 x9
theorem links_0 {sch : List Knd} {sto : List Shf} (w : SS sch sto) (nm : Str) (key : Int) (pre : List (Knd × Shf)) (b : Knd × Shf) (s : En) {j : Nat} (hj1 : sch[j]? = some b.1) (hj2 : sto[j]? = some b.2) (hp : pre.length ≤ 7) (hpl : ∀ p ∈ pre, (kindL nm key p).length ≤ 7200) (hf : b.1.2.length ≤ 8) (hr : b.2.rows.length ≤ 900) (ho : ∀ r ∈ b.2.rows, RowS b.1.2 r) (hi : JL0 sch sto nm key pre s) :
    ∃ s2,turnD (tgd (.tp (.cons (.nm 5) (.cons (.nm 6) .nil)))).f (dS L_links_to_0) (kndD b.1) s=.nx s2∧JL0 sch sto nm key (pre ++ [b]) s2:=by
  obtain ⟨kd,sh⟩:=b
  obtain ⟨x5,x6,x7,x8,x9,rfl⟩:=hi
  have hl:=flat_len (g:=kindL nm key) (n:=7200) (l:=pre) hpl
  obtain ⟨s',h1,y7,y8,y9,rfl⟩:=forD_run (I:=JL1 sch sto nm key kd (pre.flatMap (kindL nm key))) (s:=E10 sch sto nm key (pre.flatMap (kindL nm key)) (some (.str kd.1)) (some (.tup (kd.2.map fldD))) x7 x8 x9)
    (f:=rwD) (xs:=sh.rows) ⟨x7,x8,x9,by simp⟩ (fun p r q s e i=>links_1 w.nd sto nm key hj1 hf (by omega) p r s (ho r (by rw [show (kd,sh).2.rows=sh.rows from rfl,e]; simp)) (by
      have:=congrArg List.length e
      rw [List.length_append,List.length_cons] at this
      have:sh.rows.length≤900:=hr
      omega) i)
  have hs:=shelf_ok w hj1 hj2
  refine ⟨E10 sch sto nm key ((pre ++ [(kd,sh)]).flatMap (kindL nm key)) (some (.str kd.1)) (some (.tup (kd.2.map fldD))) y7 y8 y9,?_,_,_,_,_,_,rfl⟩
  simp only [E10] at h1
  simp only [shD] at hs
  simp [turnD,E10,L_links_to_0,ftName,eVar,kndD,hs,h1,kindL]
theorem links_ok {sch:List Knd} {sto:List Shf} (w:Sto sch sto) (nm:Str) (key:Int):φ_links_to [schD sch,stoD sto,.str nm,.int key]=.ok (.lst (isort leD (allL nm key sch sto))):=by
  obtain ⟨s',h1,x5,x6,x7,x8,x9,rfl⟩:=forD_run (I:=JL0 sch sto nm key) (s:=E10 sch sto nm key [] none none none none none)
    (f:=fun p:Knd×Shf=>kndD p.1) (xs:=sch.zip sto) ⟨none,none,none,none,none,rfl⟩ (fun p b q s e i=>by
      obtain ⟨j,a1,a2,a3,a4,a5⟩:=w.at_ (p:=b) (by rw [e]; simp)
      have hl:=congrArg List.length e
      rw [List.length_zip,List.length_append,List.length_cons] at hl
      have:=w.few
      exact links_0 w.ss nm key p b s a1 a2 (by omega) (fun x hx=>by
        obtain ⟨_,_,_,_,c4,c5⟩:=w.at_ (p:=x) (by rw [e]; exact List.mem_append_left _ hx)
        exact kindL_len c4 c5) a4 a5 a3.rows i)
  have hm:(sch.zip sto).map (fun p:Knd×Shf=>kndD p.1)=sch.map kndD:=by
    have:(fun p:Knd×Shf=>kndD p.1)=kndD ∘ Prod.fst:=rfl
    rw [this,← List.map_map,List.map_fst_zip (by rw [w.ss.len]; exact Nat.le_refl _)]
  rw [hm] at h1
  have hs:=sorted_tri (tri_all (nm:=nm) (key:=key) (sch:=sch) (sto:=sto))
  unfold φ_links_to runS ir_links_to
  simp only [E10,schD,stoD] at h1
  simp only [allL] at hs ⊢
  simp [eVar,ftName,schD,stoD,sizeLine_eq,h1,hs]
end Pu
end
section
open Hr Wk PySem
namespace Pu
end Pu
end
section
open Hr Wk PySem
namespace Pu
structure WS (sch:List Knd) (sto:List Shf):Prop where
  st:Sto sch sto
  goal:∀ kd∈sch,∀ f∈kd.2,∀ g,f.2.goal=some g→g∈sch.map (·.1)
  pos:∀ kd∈sch,1≤kd.2.length
theorem ValS.flat {s:Srt} {d:D} (h:ValS s d):flat 0 d=true:=by
  cases s with
  | num=>obtain ⟨v,rfl,_⟩:=h; simp [Pu.flat]
  | txt=>obtain ⟨x,rfl,_⟩:=h; simp [Pu.flat]
  | lnk g m r=>rcases h with ⟨rfl,_⟩ | ⟨k,_,rfl⟩ <;> simp [Pu.flat]
theorem RowS.flat {fs:List Fld} {r:Rw} (h:RowS fs r):flats 0 r.vals=true:=flats_of fun d m=>by
  obtain ⟨i,hi,e⟩:=List.getElem_of_mem m
  have hl:=h.len
  exact (h.val i (fs[i]'(by omega)) d (List.getElem?_eq_getElem (by omega)) (by rw [List.getElem?_eq_getElem hi,e])).flat
theorem keys_ok {sch:List Knd} {sto:List Shf} (w:SS sch sto) {j:Nat} {kd:Knd} {sh:Shf} (h1:sch[j]?=some kd) (h2:sto[j]?=some sh):φ_keys_of [schD sch,stoD sto,.str kd.1]=.ok (.lst ((sh.rows.map (·.key)).map D.int)):=by
  have hs:=shelf_ok w h1 h2
  have h:=lcA_over (f:=rwD) (t:=lcT (tgd (.nm 3)).f (den .no).t (den E_keys_of_0).v [some (schD sch),some (stoD sto),some (.str kd.1),none]) (g:=fun r:Rw=>some (.int r.key)) (xs:=sh.rows) fun k _=>by
    simp [lcT,ftName,E_keys_of_0,eVar,rwD]
  have e:sh.rows.filterMap (fun r:Rw=>some (D.int r.key))=(sh.rows.map (·.key)).map D.int:=by
    rw [List.map_map]
    have:(fun r:Rw=>some (D.int r.key))=some ∘ (D.int ∘ fun x:Rw=>x.key):=rfl
    rw [this,List.filterMap_eq_map]
  rw [e] at h
  simp only [shD] at hs
  unfold φ_keys_of runS ir_keys_of
  simp [eVar,hs,wipeE,h, -List.map_map]
def keysAt:List Knd→List Shf→Str→List Int
  | kd :: sch,sh :: sto,g=>if kd.1=g then sh.rows.map (·.key) else keysAt sch sto g
  | _,_,_=>[]
theorem keysAt_eq:∀ {sch:List Knd} {sto:List Shf} {j:Nat} {kd:Knd} {sh:Shf},(sch.map (·.1)).Nodup→sch[j]?=some kd→sto[j]?=some sh→keysAt sch sto kd.1=sh.rows.map (·.key)
  | [],_,_,_,_,_,h1,_=>by simp at h1
  | _ :: _,[],_,_,_,_,_,h2=>by simp at h2
  | k :: sch,s :: sto,0,kd,sh,_,h1,h2=>by
    simp at h1 h2
    subst h1 h2
    simp [keysAt]
  | k :: sch,s :: sto,j + 1,kd,sh,nd,h1,h2=>by
    obtain ⟨n1,n2⟩:=List.nodup_cons.mp nd
    have h1':sch[j]?=some kd:=by simpa using h1
    have hne:k.1≠kd.1:=fun e=>n1 (by show k.1∈_; rw [e]; exact List.mem_map.mpr ⟨kd,List.mem_of_getElem? h1',rfl⟩)
    rw [keysAt,if_neg hne]
    exact keysAt_eq n2 h1' (by simpa using h2)
end Pu
end
section
open Hr Wk PySem
namespace Pu
theorem kd_of {sch:List Knd} (nd:(sch.map (·.1)).Nodup) {j:Nat} {kd kd':Knd} (h1:sch[j]?=some kd) (m:kd'∈sch) (e:kd'.1=kd.1):kd'=kd:=by
  obtain ⟨i,hi,e2⟩:=List.getElem_of_mem m
  have hj:=(List.getElem?_eq_some_iff.mp h1).1
  have e3:(sch.map (·.1))[i]'(by simpa using hi)=(sch.map (·.1))[j]'(by simpa using hj):=by
    rw [List.getElem_map,List.getElem_map,e2,e]
    rw [List.getElem?_eq_getElem hj] at h1
    cases h1; rfl
  have:i=j:=(List.getElem_inj nd).mp e3
  subst this
  rw [List.getElem?_eq_getElem hi] at h1
  cases h1
  exact e2.symm
def VRow (ks:Str→List Int) (fs:List Fld) (vals:List D):Prop:=vals.length=fs.length∧∀ p∈fs.zip vals,ValOk ks p.1.2 p.2
structure ShW (ks:Str→List Int) (kd:Knd) (sh:Shf):Prop where
  num:1≤sh.num
  pw:(sh.rows.map (·.key)).Pairwise (· < ·)
  rng:∀ r∈sh.rows,1≤r.key∧r.key < sh.num∧1≤r.ver
  val:∀ r∈sh.rows,VRow ks kd.2 r.vals
structure Wh (sch:List Knd) (sto:List Shf):Prop where
  nd:(sch.map (·.1)).Nodup
  len:sto.length=sch.length
  sh:∀ p∈sch.zip sto,ShW (keysAt sch sto) p.1 p.2
structure ScF (sch:List Knd):Prop where
  nd:(sch.map (·.1)).Nodup
  n1:1≤sch.length
  n8:sch.length≤8
  f8:∀ kd∈sch,1≤kd.2.length∧kd.2.length≤8
  gl:∀ kd∈sch,∀ f∈kd.2,∀ g,f.2.goal=some g→g∈sch.map (·.1)
structure St (sch:List Knd) (sto:List Shf):Prop where
  wh:Wh sch sto
  sc:ScF sch
  rw:∀ sh∈sto,sh.rows.length≤60
theorem VRow.at_ {ks:Str→List Int} {fs:List Fld} {vals:List D} (h:VRow ks fs vals) {i:Nat} {f:Fld} {d:D} (e1:fs[i]?=some f) (e2:vals[i]?=some d):ValOk ks f.2 d:=by
  refine h.2 (f,d) (List.mem_of_getElem? (i:=i) ?_)
  rw [List.getElem?_zip_eq_some]
  exact ⟨e1,e2⟩
theorem VRow.of {ks:Str→List Int} {fs:List Fld} {vals:List D} (hl:vals.length=fs.length) (h:∀ (i:Nat) (f:Fld) (d:D),fs[i]?=some f→vals[i]?=some d→ValOk ks f.2 d):VRow ks fs vals:=by
  refine ⟨hl,fun p hp=>?_⟩
  obtain ⟨i,hi,e⟩:=List.getElem_of_mem hp
  have:(fs.zip vals)[i]?=some p:=by rw [List.getElem?_eq_getElem hi,e]
  rw [List.getElem?_zip_eq_some] at this
  exact h i _ _ this.1 this.2
theorem ValOk.mono {ks ks':Str→List Int} {s:Srt} {d:D} (h:ValOk ks s d) (hk:∀ g,s.goal=some g→∀ k∈ks g,k∈ks' g):ValOk ks' s d:=by
  cases s with
  | num=>exact h
  | txt=>exact h
  | lnk g m r=>exact h.imp id fun ⟨k,hm,e⟩=>⟨k,hk g rfl k hm,e⟩
theorem ValOk.smp {ks:Str→List Int} {s:Srt} {d:D} (h:ValOk ks s d):Smp d:=by
  cases s with
  | num=>obtain ⟨v,rfl,_⟩:=h; exact .int v
  | txt=>obtain ⟨v,rfl,_⟩:=h; exact .str v
  | lnk g m r=>rcases h with ⟨rfl,_⟩ | ⟨k,_,rfl⟩; exact .non; exact .int k
theorem VRow.mem {ks:Str→List Int} {fs:List Fld} {vals:List D} (h:VRow ks fs vals) {d:D} (hd:d∈vals):∃ f∈fs,ValOk ks f.2 d:=by
  obtain ⟨i,hi,e⟩:=List.getElem_of_mem hd
  have hl:=h.1
  have hf:fs[i]?=some (fs[i]'(by omega)):=List.getElem?_eq_getElem _
  exact ⟨_,List.mem_of_getElem? hf,h.at_ hf (by rw [List.getElem?_eq_getElem hi,e])⟩
theorem VRow.smp {ks:Str→List Int} {fs:List Fld} {vals:List D} (h:VRow ks fs vals):∀ d∈vals,Smp d:=fun d hd=>by
  obtain ⟨f,_,hv⟩:=h.mem hd
  exact hv.smp
theorem zip_mem_of {α β:Type} {l:List α} {m:List β} {i:Nat} {a:α} {b:β} (h1:l[i]?=some a) (h2:m[i]?=some b):(a,b)∈l.zip m:=by
  refine List.mem_of_getElem? (i:=i) ?_
  rw [List.getElem?_zip_eq_some]
  exact ⟨h1,h2⟩
theorem zip_mem_at {α β:Type} {l:List α} {m:List β} {p:α×β} (h:p∈l.zip m):∃ i:Nat,l[i]?=some p.1∧m[i]?=some p.2:=by
  obtain ⟨i,hi,e⟩:=List.getElem_of_mem h
  have:(l.zip m)[i]?=some p:=by rw [List.getElem?_eq_getElem hi,e]
  rw [List.getElem?_zip_eq_some] at this
  exact ⟨i,this⟩
theorem zip_of_left {α β:Type} {l:List α} {m:List β} (h:m.length=l.length) {a:α} (ha:a∈l):∃ b,(a,b)∈l.zip m:=by
  obtain ⟨i,hi,e⟩:=List.getElem_of_mem ha
  exact ⟨m[i]'(by omega),zip_mem_of (by rw [List.getElem?_eq_getElem hi,e]) (List.getElem?_eq_getElem _)⟩
theorem zip_of_right {α β:Type} {l:List α} {m:List β} (h:m.length=l.length) {b:β} (hb:b∈m):∃ a,(a,b)∈l.zip m:=by
  obtain ⟨i,hi,e⟩:=List.getElem_of_mem hb
  exact ⟨l[i]'(by omega),zip_mem_of (List.getElem?_eq_getElem _) (by rw [List.getElem?_eq_getElem hi,e])⟩
theorem keysAt_mem {sch:List Knd} {sto:List Shf} (nd:(sch.map (·.1)).Nodup) {p:Knd×Shf} (h:p∈sch.zip sto):keysAt sch sto p.1.1=p.2.rows.map (·.key):=by
  obtain ⟨i,h1,h2⟩:=zip_mem_at h
  exact keysAt_eq nd h1 h2
theorem Wh.key1 {sch:List Knd} {sto:List Shf} (w:Wh sch sto) {g:Str} (hg:g∈sch.map (·.1)) {k:Int} (hk:k∈keysAt sch sto g):1≤k:=by
  obtain ⟨kd,hm,rfl⟩:=List.mem_map.mp hg
  obtain ⟨sh,hp⟩:=zip_of_left w.len hm
  rw [keysAt_mem w.nd hp] at hk
  obtain ⟨r,hr,rfl⟩:=List.mem_map.mp hk
  exact ((w.sh _ hp).rng r hr).1
theorem St.ws {sch:List Knd} {sto:List Shf} (w:St sch sto):WS sch sto :=
  ⟨⟨⟨w.wh.nd,w.wh.len⟩,w.sc.n8,fun kd hm=>(w.sc.f8 kd hm).2,fun i kd sh h1 h2=>⟨fun r hr=>by
    have q:=(w.wh.sh _ (zip_mem_of h1 h2)).val r hr
    exact ⟨q.1,fun j f d e1 e2=>(q.at_ e1 e2).s⟩⟩,fun sh hm=>Nat.le_trans (w.rw sh hm) (by decide)⟩,w.sc.gl,fun kd hm=>(w.sc.f8 kd hm).1⟩
theorem draw_st (ns:List Int) (b most:Nat) (hm:most≤60):∃ (sch:List Knd) (sto:List Shf),φ__law_schema [A ns,.int 0]=.ok (schD sch)∧φ__law_store [A ns,.int b,schD sch,.int most]=.ok (stoD sto)∧St sch sto∧sch.map (·.1)∈six∧(∀ (j:Nat) (kd:Knd),sch[j]?=some kd→kndWf (sch.map (·.1)) j kd)∧(∀ sh∈sto,sh.rows.length≤most):=by
  obtain ⟨sch,hs,h6,hw⟩:=schema_ok ns 0
  obtain ⟨n1,n2,n3⟩:=six_facts h6
  have hl:sch.length≤3:=by simpa using n2
  have hpos:0 < sch.length:=by have:=List.length_pos_iff.mpr n1; simpa using this
  obtain ⟨ks,sto,h1,h2,h3,h4⟩:=store_ok ns b most (by omega) h6 hw
  have wf:∀ kd∈sch,∃ j,kndWf (sch.map (·.1)) j kd:=fun kd hm=>by
    obtain ⟨j,hj,e⟩:=List.getElem_of_mem hm
    exact ⟨j,hw j kd (by rw [List.getElem?_eq_getElem hj,e])⟩
  have gl:∀ kd∈sch,∀ f∈kd.2,∀ g,f.2.goal=some g→g∈sch.map (·.1):=fun kd hm f hf g e=>by
    obtain ⟨j,q⟩:=wf kd hm
    obtain ⟨i,hi,ei⟩:=List.getElem_of_mem hf
    exact (q.2.2 i f (by rw [List.getElem?_eq_getElem hi,ei])).2.1 g e
  have at_:∀ p∈sch.zip sto,ShOk ks p.1 p.2:=fun p hp=>by
    obtain ⟨i,e1,e2⟩:=zip_mem_at hp
    exact h4 i _ _ e1 e2
  have keq:∀ g∈sch.map (·.1),keysAt sch sto g=ks g:=fun g hg=>by
    obtain ⟨kd,hm,rfl⟩:=List.mem_map.mp hg
    obtain ⟨sh,hp⟩:=zip_of_left h2 hm
    rw [keysAt_mem n3 hp]
    exact (at_ _ hp).keys
  have rows:∀ sh∈sto,sh.rows.length≤most:=fun sh hm=>by
    obtain ⟨kd,hp⟩:=zip_of_right h2 hm
    have:=congrArg List.length (at_ _ hp).keys
    rw [List.length_map] at this
    have:=(h3 kd (List.of_mem_zip hp).1).2
    simp only at *
    omega
  refine ⟨sch,sto,hs,h1,⟨⟨n3,h2,fun p hp=>?_⟩,⟨n3,hpos,by omega,fun kd hm=>?_,gl⟩,fun sh hm=>Nat.le_trans (rows sh hm) (by omega)⟩,h6,hw,rows⟩
  · have ho:=at_ p hp
    have hkd:p.1∈sch:=(List.of_mem_zip (show (p.1,p.2)∈_ from hp)).1
    have hk:=(h3 p.1 hkd).1
    have hm:∀ r∈p.2.rows,r.key∈ks p.1.1:=fun r hr=>by rw [← ho.keys]; exact List.mem_map.mpr ⟨r,hr,rfl⟩
    refine ⟨ho.num.1,by rw [ho.keys]; exact hk.pw,fun r hr=>⟨(hk.bd _ (hm r hr)).1,ho.lt _ (hm r hr),(ho.rows r hr).ver.1⟩,fun r hr=>VRow.of (ho.rows r hr).len fun i f d e1 e2=>?_⟩
    refine ((ho.rows r hr).val i f d e1 e2).mono fun g e k hk=>?_
    rw [keq g (gl p.1 hkd f (List.mem_of_getElem? e1) g e)]
    exact hk
  · obtain ⟨j,q⟩:=wf kd hm
    exact ⟨q.1,by have:=q.2.1; omega⟩
end Pu
end
section
open Hr Wk PySem
namespace Pu
abbrev Ent:=Str×Rw
def kk (e:Ent):D:=.tup [.str e.1,.int e.2.key]
theorem isort_perm {α:Type} {le:α→α→Bool}:∀ l:List α,(isort le l).Perm l
  | []=>.refl _
  | a :: l=>by
    have ins:∀ (a:α) (l:List α),(insD le a l).Perm (a :: l):=by
      intro a l
      induction l with
      | nil=>exact .refl _
      | cons b l ih =>
        unfold insD
        split
        · exact .refl _
        · exact (ih.cons b).trans (.swap ..)
    exact (ins a _).trans ((isort_perm l).cons a)
theorem isort_pw {α:Type} {le:α→α→Bool} (tr:∀ a b c:α,le a b=true→le b c=true→le a c=true) (to:∀ a b:α,(le a b || le b a)=true) (l:List α):(isort le l).Pairwise (fun a b=>le a b=true):=by
  rw [← msort_eq tr to]
  exact List.pairwise_mergeSort tr to l
end Pu
end
section
open Hr Wk PySem
namespace Pu
abbrev Pr:=Str×Int
def lk1 (p:Fld×D):Option Pr:=match p.1.2,p.2 with
  | .lnk g _ _,.int k=>some (g,k)
  | _,_=>none
def lksR (fs:List Fld) (vals:List D):List Pr:=(fs.zip vals).filterMap lk1
def gls1 (p:Pr) (q:Knd×Shf):List Pr:=q.2.rows.flatMap fun r=>if (q.1.1,r.key)=p then lksR q.1.2 r.vals else []
def glsP (sch:List Knd) (sto:List Shf) (p:Pr):List Pr:=(sch.zip sto).flatMap (gls1 p)
def rowsP (sch:List Knd) (sto:List Shf):List Pr:=(sch.zip sto).flatMap fun q=>q.2.rows.map fun r=>(q.1.1,r.key)
theorem mem_rowsP {sch:List Knd} {sto:List Shf} {p:Pr}:p∈rowsP sch sto↔∃ q∈sch.zip sto,∃ r∈q.2.rows,(q.1.1,r.key)=p:=by
  unfold rowsP
  simp only [List.mem_flatMap,List.mem_map]
theorem zip_pw {sch:List Knd} {sto:List Shf} (nd:(sch.map (·.1)).Nodup) (hl:sto.length=sch.length):(sch.zip sto).Pairwise (fun a b=>a.1.1≠b.1.1):=by
  have e:(sch.zip sto).map (·.1)=sch:=List.map_fst_zip (by omega)
  have:((sch.zip sto).map fun x=>x.1.1).Nodup:=by
    have q:((sch.zip sto).map fun x=>x.1.1)=((sch.zip sto).map (·.1)).map (·.1):=by rw [List.map_map]; rfl
    rw [q,e]; exact nd
  exact List.pairwise_map.mp this
theorem keys_pw {ks:Str→List Int} {kd:Knd} {sh:Shf} (h:ShW ks kd sh):sh.rows.Pairwise (fun a b=>a.key≠b.key):=(List.pairwise_map.mp h.pw).imp fun h=>by omega
theorem flatMap_nil {α β:Type} {f:α→List β}:∀ {l:List α},(∀ x∈l,f x=[])→l.flatMap f=[]
  | [],_=>rfl
  | a :: l,h=>by rw [List.flatMap_cons,h a List.mem_cons_self,flatMap_nil fun x hx=>h x (List.mem_cons_of_mem _ hx)]; rfl
theorem flatMap_one {α β κ:Type} {key:α→κ} {f:α→List β} {a:α}:∀ {l:List α},a∈l→l.Pairwise (fun x y=>key x≠key y)→(∀ x∈l,key x≠key a→f x=[])→l.flatMap f=f a
  | [],ha,_,_=>by cases ha
  | x :: l,ha,pw,h=>by
    obtain ⟨p1,p2⟩:=List.pairwise_cons.mp pw
    rw [List.flatMap_cons]
    rcases List.mem_cons.mp ha with e | ha
    · subst e
      rw [flatMap_nil fun y hy=>h y (List.mem_cons_of_mem _ hy) fun z=>p1 y hy z.symm]
      simp
    · rw [h x List.mem_cons_self (p1 a ha),flatMap_one ha p2 fun y hy=>h y (List.mem_cons_of_mem _ hy)]
      rfl
theorem glsP_at {sch:List Knd} {sto:List Shf} (w:Wh sch sto) {q:Knd×Shf} (hq:q∈sch.zip sto) {r:Rw} (hr:r∈q.2.rows):glsP sch sto (q.1.1,r.key)=lksR q.1.2 r.vals:=by
  unfold glsP
  rw [flatMap_one (key:=fun x:Knd×Shf=>x.1.1) (f:=gls1 (q.1.1,r.key)) hq (zip_pw w.nd w.len) fun x hx hne=>flatMap_nil fun y hy=>if_neg fun z=>hne (Prod.mk.inj z).1]
  unfold gls1
  rw [flatMap_one (key:=fun x:Rw=>x.key) (f:=fun x=>if (q.1.1,x.key)=(q.1.1,r.key) then lksR q.1.2 x.vals else []) hr (keys_pw (w.sh q hq)) fun x hx hne=>if_neg fun z=>hne (Prod.mk.inj z).2]
  exact if_pos rfl
theorem glsP_none {sch:List Knd} {sto:List Shf} {p:Pr} (h:p∉rowsP sch sto):glsP sch sto p=[] :=
  flatMap_nil fun q hq=>flatMap_nil fun r hr=>if_neg fun z=>h (mem_rowsP.mpr ⟨q,hq,r,hr,z⟩)
theorem keysAt_rowG {sch:List Knd} {sto:List Shf} (wnd:(sch.map (·.1)).Nodup) (wlen:sto.length=sch.length) {g:Str} (hg:g∈sch.map (·.1)) {k:Int}:k∈keysAt sch sto g↔(g,k)∈rowsP sch sto:=by
  obtain ⟨kd,hm,rfl⟩:=List.mem_map.mp hg
  obtain ⟨sh,hp⟩:=zip_of_left wlen hm
  have e:=keysAt_mem wnd hp
  simp only at e
  rw [e,mem_rowsP]
  constructor
  · intro h
    obtain ⟨r,hr,rfl⟩:=List.mem_map.mp h
    exact ⟨_,hp,r,hr,rfl⟩
  · rintro ⟨q,hq,r,hr,z⟩
    injection z with z1 z2
    obtain ⟨i,e1,e2⟩:=zip_mem_at hq
    obtain ⟨i',e1',e2'⟩:=zip_mem_at hp
    have ek:=kd_of wnd e1' (List.mem_of_getElem? e1) z1
    have:q=(kd,sh):=by
      have pw:=zip_pw wnd wlen
      have:=keysAt_eq wnd e1 e2
      by_cases hqe:q=(kd,sh)
      · exact hqe
      · exfalso
        have key:∀ {l:List (Knd×Shf)},l.Pairwise (fun a b=>a.1.1≠b.1.1)→∀ a∈l,∀ b∈l,a.1.1=b.1.1→a=b:=by
          intro l
          induction l with
          | nil=>intro _ a ha; cases ha
          | cons x l ih =>
            intro pw a ha b hb e
            obtain ⟨p1,p2⟩:=List.pairwise_cons.mp pw
            rcases List.mem_cons.mp ha with h1 | h1
            · rcases List.mem_cons.mp hb with h2 | h2
              · rw [h1,h2]
              · rw [h1] at e; exact absurd e (p1 b h2)
            · rcases List.mem_cons.mp hb with h2 | h2
              · rw [h2] at e; exact absurd e.symm (p1 a h1)
              · exact ih p2 a h1 b h2 e
        exact hqe (key pw q hq _ hp z1)
    subst this
    rw [← z2]
    exact List.mem_map.mpr ⟨r,hr,rfl⟩
theorem keysAt_row {sch:List Knd} {sto:List Shf} (w:Wh sch sto) {g:Str} (hg:g∈sch.map (·.1)) {k:Int}:k∈keysAt sch sto g↔(g,k)∈rowsP sch sto:=keysAt_rowG w.nd w.len hg
theorem lk1_mem {fs:List Fld} {vals:List D} {p:Pr}:p∈lksR fs vals↔∃ f d m ru,(f,d)∈fs.zip vals∧f.2=.lnk p.1 m ru∧d=.int p.2:=by
  unfold lksR
  rw [List.mem_filterMap]
  constructor
  · rintro ⟨⟨f,d⟩,hm,e⟩
    unfold lk1 at e
    simp only at e
    split at e
    · rename_i g m ru k e1
      cases e
      exact ⟨f,_,m,ru,hm,e1,rfl⟩
    · cases e
  · rintro ⟨f,d,m,ru,hm,e1,e2⟩
    refine ⟨(f,d),hm,?_⟩
    unfold lk1
    simp only [e1,e2]
theorem gls_rows {sch:List Knd} {sto:List Shf} (w:St sch sto) {p q:Pr} (h:q∈glsP sch sto p):q∈rowsP sch sto:=by
  by_cases hp:p∈rowsP sch sto
  · obtain ⟨x,hx,r,hr,rfl⟩:=mem_rowsP.mp hp
    rw [glsP_at w.wh hx hr] at h
    obtain ⟨f,d,m,ru,hm,e1,e2⟩:=lk1_mem.mp h
    have v:=((w.wh.sh x hx).val r hr).2 (f,d) hm
    simp only at v
    rw [e1,e2] at v
    have hf:f∈x.1.2:=(List.of_mem_zip hm).1
    have hkd:x.1∈sch:=(List.of_mem_zip (show (x.1,x.2)∈_ from hx)).1
    have hg:=w.sc.gl x.1 hkd f hf q.1 (by rw [e1]; rfl)
    rcases v with ⟨z,_⟩ | ⟨k,hk,z⟩
    · cases z
    · cases z
      exact (keysAt_row w.wh hg).mp hk
  · rw [glsP_none hp] at h; cases h
inductive Rch (sch:List Knd) (sto:List Shf) (p:Pr):Pr→Prop
  | one {q:Pr}:q∈glsP sch sto p→Rch sch sto p q
  | more {q r:Pr}:Rch sch sto p q→r∈glsP sch sto q→Rch sch sto p r
theorem Rch.row {sch:List Knd} {sto:List Shf} (w:St sch sto) {p q:Pr} (h:Rch sch sto p q):q∈rowsP sch sto:=by cases h with
  | one h=>exact gls_rows w h
  | more _ h=>exact gls_rows w h
theorem Rch.sub {sch:List Knd} {sto:List Shf} {p q:Pr} {M:Pr→Prop} (h:Rch sch sto p q) (h1:∀ x∈glsP sch sto p,M x) (h2:∀ x,M x→∀ y∈glsP sch sto x,M y):M q:=by
  induction h with
  | one h=>exact h1 _ h
  | more _ h ih=>exact h2 _ ih _ h
theorem Rch.trans {sch:List Knd} {sto:List Shf} {p q r:Pr} (h:Rch sch sto p q) (h2:Rch sch sto q r):Rch sch sto p r :=
  h2.sub (fun x hx=>.more h hx) fun x hx y hy=>.more hx hy
end Pu
end
section
open Hr Wk PySem
namespace Pu
theorem zip_idx {fs:List Fld} {vals:List D} (h:vals.length=fs.length):fs.zip vals=fs.zipIdx.map fun p=>(p.1,valAt vals p.2):=by
  apply List.ext_getElem?
  intro i
  rw [List.getElem?_map,List.getElem?_zipIdx]
  by_cases hi:i < fs.length
  · rw [List.getElem?_eq_getElem (by rw [List.length_zip]; omega),List.getElem_zip]
    simp [valAt,List.getD_eq_getElem?_getD,List.getElem?_eq_getElem (show i < vals.length by omega),List.getElem?_eq_getElem hi]
  · rw [List.getElem?_eq_none (by rw [List.length_zip]; omega),List.getElem?_eq_none (by omega)]
    rfl
theorem names_zip {sch:List Knd} {sto:List Shf} (hl:sto.length=sch.length):(sch.map (·.1)).map D.str=(sch.zip sto).map fun p=>D.str p.1.1:=by
  have e:(sch.zip sto).map (·.1)=sch:=List.map_fst_zip (by omega)
  have q:((sch.zip sto).map fun x=>D.str x.1.1)=(((sch.zip sto).map (·.1)).map (·.1)).map D.str:=by rw [List.map_map,List.map_map]; rfl
  rw [q,e]
theorem row_counts_ok {sch:List Knd} {sto:List Shf} (w:St sch sto):φ_row_counts [schD sch,stoD sto]=.ok (.lst ((sch.zip sto).map fun p=>D.tup [.str p.1.1,.int (p.2.rows.length:Nat)])):=by
  have h:=lcA_over (f:=fun p:Knd×Shf=>D.str p.1.1) (t:=lcT (tgd (.nm 2)).f (den .no).t (den E_row_counts_0).v [some (schD sch),some (stoD sto),none]) (g:=fun p:Knd×Shf=>some (D.tup [.str p.1.1,.int (p.2.rows.length:Nat)])) (xs:=sch.zip sto) fun b hb=>by
    obtain ⟨j,a1,a2⟩:=zip_mem_at hb
    have hk:=keys_ok w.ws.st.ss a1 a2
    simp [lcT,ftName,E_row_counts_0,eVar,hk,sizeLine_eq]
  rw [fm_some] at h
  have hn:=kind_names_ok sch
  rw [names_zip w.wh.len] at hn
  unfold φ_row_counts runS ir_row_counts
  simp [eVar,hn,wipeE,h, -List.map_map]
end Pu
end
section
open Hr Wk PySem
namespace Pu
abbrev RV:=Pr×List D
end Pu
end
section
open Hr Wk PySem
namespace Pu
def hv (s:Srt) (d:D):D:=match s,d with
  | .lnk g _ _,.int k=>prD (g,k)
  | _,d=>d
end Pu
end
section
open Hr Wk PySem
namespace Pu
end Pu
end
section
open Hr Wk PySem
namespace Pu
theorem fnames_lc {E:T} {c:List (Option D)} {i:Nat} (fs:List Fld) (h:∀ f:Fld,lcT (tgd (.nm i)).f (den .no).t (den E).v c (fldD f)=.ok (some (.str f.1))):lcA (lcT (tgd (.nm i)).f (den .no).t (den E).v c) (fs.map fldD) []=.ok (.map D.str (fs.map (·.1))):=by
  have:=lcA_over (f:=fldD) (g:=fun f:Fld=>some (D.str f.1)) (xs:=fs) fun f _=>h f
  rw [this,fm_some,List.map_map]
  rfl
theorem place_ok {sch:List Knd} (nd:(sch.map (·.1)).Nodup) {j:Nat} {kd:Knd} (h1:sch[j]?=some kd) (nf:(kd.2.map (·.1)).Nodup) {i:Nat} {f:Fld} (h2:kd.2[i]?=some f):φ_place_of [schD sch,.str kd.1,.str f.1]=.ok (.int (i:Nat)):=by
  have hf:=fields_ok nd h1
  have hl:=fnames_lc (E:=E_place_of_0) (c:=[some (schD sch),some (.str kd.1),some (.str f.1),none]) (i:=3) kd.2 fun f=>by simp [lcT,ftName,E_place_of_0,eVar,fldD]
  have hi:=index_names nf (j:=i) (nm:=f.1) (by rw [List.getElem?_map,h2]; rfl)
  unfold φ_place_of runS ir_place_of
  simp [eVar,hf,wipeE,hl,hi, -List.map_map]
@[simp] theorem isDic_d (ks:List (List L2.Key)) (ds:List D):isDic (.dic false ks ds)=.ok (ks,ds):=rfl
@[simp] theorem keyOf_s (x:Str):keyOf false (.str x)=some [Sum.inr x]:=rfl
@[simp] theorem Rof_some {α:Type} (a:α):(R.of (some a):R α)=.ok a:=rfl
end Pu
end
section
open Hr Wk PySem
namespace Pu
section
variable {sch:List Knd} {F:D} {m:List RV} {n:Int}
end
end Pu
end
section
open Hr Wk PySem
namespace Pu
theorem eq_selfL {l:List D} {n:Nat} (h:flats n l=true) (hn:n < 60):dEq (.lst l) (.lst l)=.ok true:=by
  obtain ⟨p,q,r⟩:=flats_ok n l h
  have p1:(D.lst l).pl=true:=p
  have q1:(D.lst l).dep≤60:=by
    show PyData.depthAll (D.pys l) + 1≤60
    omega
  rw [eq_pl p1 p1 q1]
  exact congrArg R.ok r
theorem nf_of {sch:List Knd} (h6:sch.map (·.1)∈six) (hw:∀ (j:Nat) (kd:Knd),sch[j]?=some kd→kndWf (sch.map (·.1)) j kd):∀ kd∈sch,(kd.2.map (·.1)).Nodup:=fun kd hk=>by
  have fname_nd:∀ j < 3,∀ n < 5,((List.range n).map (fname j)).Nodup:=by decide +kernel
  obtain ⟨n1,n2,n3⟩:=six_facts h6
  have hl:sch.length≤3:=by simpa using n2
  obtain ⟨j,hj,e⟩:=List.getElem_of_mem hk
  obtain ⟨q1,q2,q3⟩:=hw j kd (by rw [List.getElem?_eq_getElem hj,e])
  have:kd.2.map (·.1)=(List.range kd.2.length).map (fname j):=by
    apply List.ext_getElem?
    intro i
    rw [List.getElem?_map,List.getElem?_map]
    by_cases hi:i < kd.2.length
    · have ef:kd.2[i]?=some kd.2[i]:=List.getElem?_eq_getElem hi
      rw [ef,List.getElem?_range hi]
      show some kd.2[i].1=some (fname j i)
      rw [(q3 i _ ef).1]
    · rw [List.getElem?_eq_none (by omega),List.getElem?_eq_none (by rw [List.length_range]; omega)]
      rfl
  rw [this]
  exact fname_nd j (by omega) _ (by omega)
section
variable {sch:List Knd} {sto:List Shf}
theorem txt_strOk {x:Str} (h:txtOk x):PyData.strOk x=true∧x.length≤sizeLine:=by
  refine ⟨?_,by have:=h.1; rw [sizeLine_eq]; omega⟩
  show x.cps.all (fun c=>decide (c < 0x110000))=true
  rw [← Array.all_toList,List.all_eq_true]
  intro c hc
  have:=h.2 c hc
  exact decide_eq_true (by omega)
theorem at_leaf {ks:Str→List Int} {kd:Knd} {r:Rw} (h:VRow ks kd.2 r.vals) {i:Nat} {f:Fld} (hf:kd.2[i]?=some f):∃ d,r.vals[i]?=some d∧Smp d∧∃ k,lfD d=some k∧okLf k=true:=by
  have hl:=h.1
  have hi:=(List.getElem?_eq_some_iff.mp hf).1
  have hd:r.vals[i]?=some r.vals[i]:=List.getElem?_eq_getElem (by omega)
  have hv:=h.at_ hf hd
  refine ⟨_,hd,hv.smp,?_⟩
  generalize r.vals[i]=d at hv
  obtain ⟨fn,s⟩:=f
  cases s with
  | num=>obtain ⟨v,rfl,_⟩:=hv; exact ⟨_,rfl,rfl⟩
  | txt =>
    obtain ⟨x,rfl,t⟩:=hv
    refine ⟨_,rfl,?_⟩
    obtain ⟨t1,t2⟩:=txt_strOk t
    show (PyData.strOk x && decide (x.length≤sizeLine))=true
    rw [t1,decide_eq_true t2]; rfl
  | lnk g may ru=>rcases hv with ⟨rfl,_⟩ | ⟨k,_,rfl⟩ <;> exact ⟨_,rfl,rfl⟩
theorem it_flat (m:List (Leaf×Int)):flats 1 (m.map itD)=true:=flats_of fun d hd=>by
  obtain ⟨p,_,rfl⟩:=List.mem_map.mp hd
  obtain ⟨k,i⟩:=p
  cases k <;> rfl
end
end Pu
end
section
open Hr Wk PySem
namespace Pu
def lfR (i:Nat) (r:Rw):Leaf:=(lfD ((r.vals[i]?).getD .non)).getD .none
theorem lfD_eq {d:D} {k:Leaf} (h:lfD d=some k):d=dLf k:=by cases d <;> cases h <;> rfl
theorem lfD_dLf (k:Leaf):lfD (dLf k)=some k:=by cases k <;> rfl
theorem lfR_at {ks:Str→List Int} {kd:Knd} {r:Rw} (h:VRow ks kd.2 r.vals) {i:Nat} {f:Fld} (hf:kd.2[i]?=some f):r.vals[i]?=some (dLf (lfR i r))∧okLf (lfR i r)=true:=by
  obtain ⟨d,e1,_,k,e2,e3⟩:=at_leaf h hf
  have:lfR i r=k:=by unfold lfR; rw [e1]; show (lfD d).getD .none=k; rw [e2]; rfl
  rw [this,e1,lfD_eq e2]
  exact ⟨rfl,e3⟩
def addR (i:Nat) (m:Bk) (r:Rw):Bk:=bkApp m (lfR i r) r.key
theorem bkGet_map {g:Leaf×List Int→Leaf×List Int} (hg:∀ p,(g p).1=p.1) (k:Leaf) (m:Bk):bkGet (m.map g) k=(m.find? fun p=>decide (p.1=k)).map fun p=>(g p).2:=by
  unfold bkGet
  rw [List.find?_map]
  have:((fun p:Leaf×List Int=>decide (p.1=k)) ∘ g)=fun p=>decide (p.1=k):=funext fun p=>by show decide ((g p).1=k)=_; rw [hg]
  rw [this,Option.map_map]; rfl
theorem bkGet_app (m:Bk) (k k':Leaf) (v:Int):bkGet (bkApp m k v) k'=if k=k' then some ((bkGet m k').getD [] ++ [v]) else bkGet m k':=by
  unfold bkApp
  by_cases c:(m.any fun p=>decide (p.1=k))=true
  · rw [if_pos c,bkGet_map (g:=fun p=>if p.1=k then (p.1,p.2 ++ [v]) else p) fun p=>by split <;> rfl]
    unfold bkGet
    cases q:m.find? fun p=>decide (p.1=k') with
    | none =>
      by_cases e:k=k'
      · subst e
        obtain ⟨p,hp,e⟩:=List.any_eq_true.mp c
        exact absurd e (List.find?_eq_none.mp q p hp)
      · rw [if_neg e]; rfl
    | some p =>
      have hp:p.1=k':=of_decide_eq_true (List.find?_some (p:=fun p:Leaf×List Int=>decide (p.1=k')) q)
      show some (if p.1=k then (p.1,p.2 ++ [v]) else p).2=_
      by_cases e:k=k'
      · rw [if_pos (hp.trans e.symm),if_pos e]; rfl
      · rw [if_neg fun z=>e (z.symm.trans hp),if_neg e]; rfl
  · rw [if_neg c]
    unfold bkGet
    rw [List.find?_append]
    by_cases e:k=k'
    · subst e
      have:(m.find? fun p=>decide (p.1=k))=none:=List.find?_eq_none.mpr fun p hp z=>c (List.any_eq_true.mpr ⟨p,hp,z⟩)
      rw [this,if_pos rfl]
      show ((([(k,[v])]:Bk).find? fun p=>decide (p.1=k)).map (·.2))=_
      rw [List.find?_cons_of_pos (by simp)]; rfl
    · rw [if_neg e]
      have:(([(k,[v])]:Bk).find? fun p=>decide (p.1=k'))=none:=by
        rw [List.find?_cons_of_neg (by simpa using e)]; rfl
      rw [this,Option.or_none]
theorem bkGet_rows (i:Nat) (k:Leaf):∀ (rs:List Rw) (m:Bk),((bkGet (rs.foldl (addR i) m) k).getD []=(bkGet m k).getD [] ++ (rs.filter fun r=>decide (lfR i r=k)).map (·.key))∧(bkGet (rs.foldl (addR i) m) k).isSome=((bkGet m k).isSome || rs.any fun r=>decide (lfR i r=k))
  | [],m=>⟨by simp,by simp⟩
  | r :: rs,m=>by
    obtain ⟨h1,h2⟩:=bkGet_rows i k rs (addR i m r)
    have e:bkGet (addR i m r) k=if lfR i r=k then some ((bkGet m k).getD [] ++ [r.key]) else bkGet m k:=bkGet_app m (lfR i r) k r.key
    rw [List.foldl_cons,h1,h2,e]
    by_cases c:lfR i r=k
    · rw [if_pos c,List.filter_cons_of_pos (by simpa using c),List.any_cons,decide_eq_true c]
      simp
    · rw [if_neg c,List.filter_cons_of_neg (by simpa using c),List.any_cons,decide_eq_false c]
      simp
def mB (i:Nat) (rs:List Rw):Bk:=rs.foldl (addR i) []
def keysOf (i:Nat) (k:Leaf) (rs:List Rw):List Int:=(rs.filter fun r=>decide (lfR i r=k)).map (·.key)
theorem mB_some {i:Nat} {k:Leaf} {rs:List Rw} {l:List Int} (h:bkGet (mB i rs) k=some l):l=keysOf i k rs:=by
  have:=(bkGet_rows i k rs []).1
  unfold mB at h
  rw [h] at this
  exact this
theorem mB_none {i:Nat} {k:Leaf} {rs:List Rw} (h:(bkGet (mB i rs) k).isSome=false):keysOf i k rs=[]:=by
  have:=(bkGet_rows i k rs []).2
  unfold mB at h
  rw [h] at this
  have this:(rs.any fun r=>decide (lfR i r=k))=false:=by simpa [bkGet] using this.symm
  unfold keysOf
  rw [List.filter_eq_nil_iff.mpr fun r hr z=>by
    have:=List.any_eq_false.mp this r hr
    exact this z]
  rfl
theorem app_nd {m:Bk} {k:Leaf} {v:Int} (nd:(m.map (·.1)).Nodup):((bkApp m k v).map (·.1)).Nodup:=by
  by_cases c:k∈m.map (·.1)
  · obtain ⟨p,hp,e⟩:=List.mem_map.mp c
    obtain ⟨n,hn,e2⟩:=List.getElem_of_mem hp
    have hm:m[n]?=some (k,p.2):=by rw [List.getElem?_eq_getElem hn,e2,← e]
    rw [bkApp_set nd hm,set_keys hm]; exact nd
  · rw [bkApp_new c,List.map_append]
    exact List.nodup_append.mpr ⟨nd,by simp,fun x hx y hy z=>by
      have:y=k:=by simpa using hy
      subst this; subst z; exact c hx⟩
theorem mB_nd' (i:Nat):∀ (rs:List Rw) (m:Bk),(m.map (·.1)).Nodup→((rs.foldl (addR i) m).map (·.1)).Nodup
  | [],_,h=>h
  | r :: rs,m,h=>mB_nd' i rs _ (app_nd h)
theorem mB_nd (i:Nat) (rs:List Rw):((mB i rs).map (·.1)).Nodup:=mB_nd' i rs [] List.nodup_nil
theorem get_mem {m:Bk} (nd:(m.map (·.1)).Nodup) {p:Leaf×List Int} (hp:p∈m):bkGet m p.1=some p.2:=by
  unfold bkGet
  induction m with
  | nil=>cases hp
  | cons q m ih =>
    rw [List.map_cons,List.nodup_cons] at nd
    rcases List.mem_cons.mp hp with rfl | hp
    · rw [List.find?_cons_of_pos (by simp)]; rfl
    · have:q.1≠p.1:=fun z=>nd.1 (List.mem_map.mpr ⟨p,hp,z.symm⟩)
      rw [List.find?_cons_of_neg (by simpa using this)]
      exact ih nd.2 hp
theorem mB_mem {i:Nat} {rs:List Rw} {p:Leaf×List Int} (hp:p∈mB i rs):p.2=keysOf i p.1 rs:=mB_some (get_mem (mB_nd i rs) hp)
theorem mB_ok' {i:Nat}:∀ (rs:List Rw) (m:Bk),(∀ r∈rs,okLf (lfR i r)=true)→(∀ p∈m,okLf p.1=true)→∀ p∈rs.foldl (addR i) m,okLf p.1=true
  | [],_,_,h=>h
  | r :: rs,m,h1,h2=>mB_ok' rs _ (fun q hq=>h1 q (List.mem_cons_of_mem _ hq)) fun p hp=>by
    have hp:p∈bkApp m (lfR i r) r.key:=hp
    unfold bkApp at hp
    split at hp
    · obtain ⟨q,hq,rfl⟩:=List.mem_map.mp hp
      split
      · exact h2 q hq
      · exact h2 q hq
    · rcases List.mem_append.mp hp with hp | hp
      · exact h2 p hp
      · rw [List.mem_singleton.mp hp]; exact h1 r List.mem_cons_self
def cnt (m:Bk):List (Leaf×Int):=m.map fun p=>(p.1,(p.2.length:Int))
theorem bump_cnt {m:Bk} (nd:(m.map (·.1)).Nodup) (k:Leaf) (v:Int):Hr.bump (cnt m) k=cnt (bkApp m k v):=by
  have ea:((cnt m).any fun p=>decide (p.1=k))=m.any fun p=>decide (p.1=k):=by unfold cnt; rw [List.any_map]; rfl
  have eg:∀ l,bkGet m k=some l→getL (cnt m) k=(l.length:Int):=fun l h=>by
    unfold getL cnt
    rw [List.find?_map]
    show (((m.find? fun p=>decide (p.1=k)).map _).map _).getD 0=_
    unfold bkGet at h
    obtain ⟨p,hp,rfl⟩:=Option.map_eq_some_iff.mp h
    rw [hp]; rfl
  unfold Hr.bump bkApp
  rw [ea]
  by_cases c:(m.any fun p=>decide (p.1=k))=true
  · rw [if_pos c,if_pos c]
    unfold cnt
    rw [List.map_map,List.map_map]
    refine List.map_congr_left fun p hp=>?_
    show (if p.1=k then (p.1,getL (cnt m) k + 1) else (p.1,(p.2.length:Int)))=((if p.1=k then (p.1,p.2 ++ [v]) else p).1,(((if p.1=k then (p.1,p.2 ++ [v]) else p).2.length:Nat):Int))
    by_cases e:p.1=k
    · rw [if_pos e,if_pos e,eg p.2 (by rw [← e]; exact get_mem nd hp)]
      show (p.1,(p.2.length:Int) + 1)=(p.1,(((p.2 ++ [v]).length:Nat):Int))
      rw [List.length_append,List.length_singleton]; rfl
    · rw [if_neg e,if_neg e]
  · rw [if_neg c,if_neg c]
    have:getL (cnt m) k=0:=by
      unfold getL
      rw [List.find?_eq_none.mpr fun p hp z=>c (by rw [← ea]; exact List.any_eq_true.mpr ⟨p,hp,z⟩)]
      rfl
    rw [this]
    unfold cnt
    rw [List.map_append]; rfl
theorem sum_app {k:Leaf} {v:Int}:∀ {m:Bk},(m.map (·.1)).Nodup→((cnt (bkApp m k v)).map (·.2)).sum=((cnt m).map (·.2)).sum + 1:=fun {m} nd=>by
  by_cases c:k∈m.map (·.1)
  · obtain ⟨p,hp,e⟩:=List.mem_map.mp c
    obtain ⟨n,hn,e2⟩:=List.getElem_of_mem hp
    have hm:m[n]?=some (k,p.2):=by rw [List.getElem?_eq_getElem hn,e2,← e]
    rw [bkApp_set nd hm]
    clear nd c hp
    induction m generalizing n with
    | nil=>simp at hm
    | cons q m ih =>
      cases n with
      | zero =>
        have:q=(k,p.2):=by simpa using hm
        subst this
        show (((p.2 ++ [v]).length:Nat):Int) + ((cnt m).map (·.2)).sum=((p.2.length:Nat):Int) + ((cnt m).map (·.2)).sum + 1
        rw [List.length_append,List.length_singleton]
        omega
      | succ n =>
        have hm':m[n]?=some (k,p.2):=by simpa using hm
        have hn':n < m.length:=(List.getElem?_eq_some_iff.mp hm').1
        have:=ih n hn' (by have:=(List.getElem?_eq_some_iff.mp hm').2; rw [this,← e]) hm'
        show ((q.2.length:Nat):Int) + ((cnt (m.set n (k,p.2 ++ [v]))).map (·.2)).sum=((q.2.length:Nat):Int) + ((cnt m).map (·.2)).sum + 1
        omega
  · rw [bkApp_new c]
    unfold cnt
    rw [List.map_append,List.map_append,List.sum_append]
    rfl
theorem sum_rows' (i:Nat):∀ (rs:List Rw) (m:Bk),(m.map (·.1)).Nodup→((cnt (rs.foldl (addR i) m)).map (·.2)).sum=((cnt m).map (·.2)).sum + (rs.length:Nat)
  | [],m,_=>by simp
  | r :: rs,m,h=>by
    have e:=sum_rows' i rs (addR i m r) (app_nd h)
    have:=sum_app (k:=lfR i r) (v:=r.key) h
    have this:((cnt (addR i m r)).map (·.2)).sum=((cnt m).map (·.2)).sum + 1:=this
    rw [List.foldl_cons,e,this,List.length_cons]
    omega
theorem sum_rows (i:Nat) (rs:List Rw):((cnt (mB i rs)).map (·.2)).sum=(rs.length:Nat):=by
  have:=sum_rows' i rs [] List.nodup_nil
  simpa [mB,cnt] using this
end Pu
end
section
open Hr Wk PySem
namespace Pu
section
variable {sch:List Knd} {sto:List Shf}
theorem vc_exact {ks : Str → List Int} {kd : Knd} {a b c d : D} {i : Nat} {f : Fld} (hf : kd.2[i]? = some f) : ∀ (rs : List Rw) (x : Option D) (m : Bk), (∀ r ∈ rs, VRow ks kd.2 r.vals) → (m.map (·.1)).Nodup →
    vcRun (tgd (.nm 6)).f (den (.sub (.sub (.var 6) (.con (.int (2)))) (.var 4))).v (rs.map rwD) [some a,some b,some c,some d,some (.int (i:Nat)),none,x] (cnt m)=some (cnt (rs.foldl (addR i) m))
  | [],_,m,_,_=>rfl
  | r :: rs,x,m,hv,h=>by
    obtain ⟨e1,_⟩:=lfR_at (hv r List.mem_cons_self) hf
    have e4:rwD r=.tup [.int r.key,.int r.ver,.tup r.vals]:=rfl
    have e5:(den (.sub (.sub (.var 6) (.con (.int (2)))) (.var 4))).v [some a,some b,some c,some d,some (.int (i:Nat)),none,some (rwD r)]=.ok (dLf (lfR i r)):=by
      have:=sub_t e1
      rw [e4]
      generalize r.vals=VS at *
      generalize dLf (lfR i r)=DL at *
      simp [eVar,this]
    have ih:=vc_exact (a:=a) (b:=b) (c:=c) (d:=d) hf rs (some (rwD r)) (addR i m r) (fun q hq=>hv q (List.mem_cons_of_mem _ hq)) (app_nd h)
    rw [List.map_cons]
    show ((tgd (.nm 6)).f (rwD r) _).bind _=_
    have e6:(tgd (.nm 6)).f (rwD r) [some a,some b,some c,some d,some (.int (i:Nat)),none,x]=some [some a,some b,some c,some d,some (.int (i:Nat)),none,some (rwD r)]:=rfl
    rw [e6]
    show (match (den (.sub (.sub (.var 6) (.con (.int (2)))) (.var 4))).v [some a,some b,some c,some d,some (.int (i:Nat)),none,some (rwD r)] with
      | .ok v=>(lfD v).bind fun k=>vcRun (tgd (.nm 6)).f (den (.sub (.sub (.var 6) (.con (.int (2)))) (.var 4))).v (rs.map rwD) [some a,some b,some c,some d,some (.int (i:Nat)),none,some (rwD r)] (Hr.bump (cnt m) k)
      | _=>none)=_
    rw [e5]
    dsimp only
    rw [lfD_dLf]
    show vcRun _ _ _ _ (Hr.bump (cnt m) (lfR i r))=_
    rw [bump_cnt h (lfR i r) r.key]
    exact ih
theorem counts_exact (w : St sch sto) (nf : ∀ kd ∈ sch, (kd.2.map (·.1)).Nodup) {j : Nat} {kd : Knd} {sh : Shf} (h1 : sch[j]? = some kd) (h2 : sto[j]? = some sh) {i : Nat} {f : Fld} (hf : kd.2[i]? = some f) :
    φ_value_counts [schD sch,stoD sto,.str kd.1,.str f.1]=.ok (.lst ((cnt (mB i sh.rows)).map itD))∧(∀ p∈mB i sh.rows,okLf p.1=true):=by
  have hp:=place_ok w.sc.nd h1 (nf kd (List.mem_of_getElem? h1)) hf
  have hs:=shelf_ok w.ws.st.ss h1 h2
  have hd:shD sh=.tup [.int sh.num,.tup (sh.rows.map rwD)]:=rfl
  rw [hd] at hs
  have shw:=w.wh.sh _ (zip_mem_of h1 h2)
  have g1:=vc_exact (a:=schD sch) (b:=stoD sto) (c:=.str kd.1) (d:=.str f.1) hf sh.rows none [] shw.val List.nodup_nil
  have okm:∀ p∈mB i sh.rows,okLf p.1=true:=mB_ok' sh.rows [] (fun r hr=>(lfR_at (shw.val r hr) hf).2) fun p hp=>by cases hp
  have g2:((cnt (mB i sh.rows)).all fun p=>okLf p.1)=true:=by
    unfold cnt
    rw [List.all_map,List.all_eq_true]
    exact okm
  refine ⟨?_,okm⟩
  have e1:∀ l,φ_value_counts [schD sch,stoD sto,.str kd.1,.str f.1]=l↔leave (.own .fz) (dS ir_value_counts [some (schD sch),some (stoD sto),some (.str kd.1),some (.str f.1),none,none,none])=l:=fun l=>Iff.rfl
  rw [e1]
  have hi:dItems (.tup (sh.rows.map rwD))=.ok (sh.rows.map rwD):=rfl
  have hfi:(den (.itI (.sub (.call "shelf_of" 3 .fz 2 φ_shelf_of (.cons (.var 0) (.cons (.var 1) (.cons (.var 2) .nil)))) (.con (.int (1)))))).l [some (schD sch),some (stoD sto),some (.str kd.1),some (.str f.1),some (.int (i:Nat)),none,none]=.ok (sh.rows.map rwD):=by
    generalize sh.rows.map rwD=RW at *
    generalize schD sch=SD at *
    generalize stoD sto=TD at *
    simp [eVar,hs,hi]
  have hvc:sVc 5 (tgd (.nm 6)).f (den (.itI (.sub (.call "shelf_of" 3 .fz 2 φ_shelf_of (.cons (.var 0) (.cons (.var 1) (.cons (.var 2) .nil)))) (.con (.int (1)))))).l (den (.sub (.sub (.var 6) (.con (.int (2)))) (.var 4))).v [some (schD sch),some (stoD sto),some (.str kd.1),some (.str f.1),some (.int (i:Nat)),none,none]=.rt (.lst ((cnt (mB i sh.rows)).map itD)):=by
    unfold sVc
    have es:([some (schD sch),some (stoD sto),some (.str kd.1),some (.str f.1),some (.int (i:Nat)),none,none]:En).set 5 none=[some (schD sch),some (stoD sto),some (.str kd.1),some (.str f.1),some (.int (i:Nat)),none,none]:=rfl
    rw [es,hfi]
    dsimp only
    have g1:vcRun (tgd (.nm 6)).f (den (.sub (.sub (.var 6) (.con (.int (2)))) (.var 4))).v (sh.rows.map rwD) [some (schD sch),some (stoD sto),some (.str kd.1),some (.str f.1),some (.int (i:Nat)),none,none] []=some (cnt (mB i sh.rows)):=g1
    rw [g1]
    dsimp only
    rw [if_pos ⟨(show 5 < 7 by decide),g2⟩]
  unfold ir_value_counts
  generalize schD sch=SD at *
  generalize stoD sto=TD at *
  simp [ftName,eVar,hp, -dS_vc]
  rw [dS_vc,hvc]
  rfl
theorem eqv_leaf (a b:Leaf):dEq (dLf a) (dLf b)=.ok (decide (a=b)):=by
  have pl:∀ k:Leaf,(dLf k).pl=true:=fun k=>by cases k <;> rfl
  have dp:∀ k:Leaf,(dLf k).dep≤60:=fun k=>by cases k <;> exact Nat.zero_le 60
  rw [eq_pl (pl a) (pl b) (dp b)]
  congr 1
  cases a <;> cases b <;> first | rfl | (simp [dLf,D.eqv,D.py]; done) | skip
  · rename_i i j
    show (i == j)=_
    by_cases h:i=j
    · subst h; simp
    · simp [h]
  · rename_i x y
    show (x == y)=_
    by_cases h:x=y
    · subst h; simp
    · simp [h]
theorem rows_exact (w : St sch sto) (nf : ∀ kd ∈ sch, (kd.2.map (·.1)).Nodup) {j : Nat} {kd : Knd} {sh : Shf} (h1 : sch[j]? = some kd) (h2 : sto[j]? = some sh) {i : Nat} {f : Fld} (hf : kd.2[i]? = some f) (k : Leaf) :
    φ_rows_with [schD sch,stoD sto,.str kd.1,.str f.1,dLf k]=.ok (.lst ((keysOf i k sh.rows).map D.int)):=by
  have hp:=place_ok w.sc.nd h1 (nf kd (List.mem_of_getElem? h1)) hf
  have hs:=shelf_ok w.ws.st.ss h1 h2
  have hd:shD sh=.tup [.int sh.num,.tup (sh.rows.map rwD)]:=rfl
  rw [hd] at hs
  have shw:=w.wh.sh _ (zip_mem_of h1 h2)
  have h0:=lcA_over (f:=rwD) (t:=lcT (tgd (.nm 6)).f (den J_rows_with_0).t (den E_rows_with_0).v [some (schD sch),some (stoD sto),some (.str kd.1),some (.str f.1),some (dLf k),some (.int (i:Nat)),none]) (g:=fun r:Rw=>if lfR i r=k then some (D.int r.key) else none) (xs:=sh.rows) fun r hr=>by
    obtain ⟨e1,_⟩:=lfR_at (shw.val r hr) hf
    have e3:rwD r=.tup [.int r.key,.int r.ver,.tup r.vals]:=rfl
    have e4:=sub_t e1
    have e5:=eqv_leaf (lfR i r) k
    rw [e3]
    generalize lfR i r=LR at *
    generalize r.vals=VS at *
    by_cases q:LR=k
    · rw [if_pos q]
      rw [decide_eq_true q] at e5
      generalize dLf LR=DL at *
      generalize dLf k=DK at *
      simp [lcT,ftName,E_rows_with_0,J_rows_with_0,eVar,e4,e5]
    · rw [if_neg q]
      rw [decide_eq_false q] at e5
      generalize dLf LR=DL at *
      generalize dLf k=DK at *
      simp [lcT,ftName,E_rows_with_0,J_rows_with_0,eVar,e4,e5]
  have hfm:sh.rows.filterMap (fun r:Rw=>if lfR i r=k then some (D.int r.key) else none)=(keysOf i k sh.rows).map D.int:=by
    unfold keysOf
    generalize sh.rows=RS
    induction RS with
    | nil=>rfl
    | cons r rs ih =>
      by_cases q:lfR i r=k
      · rw [List.filterMap_cons_some (by rw [if_pos q]),List.filter_cons_of_pos (by simpa using q),List.map_cons,List.map_cons,ih]
      · rw [List.filterMap_cons_none (by rw [if_neg q]),List.filter_cons_of_neg (by simpa using q),ih]
  rw [hfm] at h0
  unfold φ_rows_with runS ir_rows_with
  generalize (keysOf i k sh.rows).map D.int=LL at *
  generalize sh.rows.map rwD=RW at *
  generalize dLf k=DK at *
  generalize schD sch=SD at *
  generalize stoD sto=TD at *
  simp [enter,ftName,eVar,wipeE,hp,hs,h0]
theorem isort_id {α:Type} {le:α→α→Bool}:∀ {l:List α},(l.Pairwise fun a b=>le a b=true)→isort le l=l
  | [],_=>rfl
  | [a],_=>rfl
  | a :: b :: l,h=>by
    obtain ⟨h1,h2⟩:=List.pairwise_cons.mp h
    show insD le a (isort le (b :: l))=_
    rw [isort_id h2]
    show (if le a b then a :: b :: l else _)=_
    rw [if_pos (h1 b List.mem_cons_self)]
theorem itm_int (a b:Int):PyProof.Rows.itemLt (Sum.inl a) (Sum.inl b)=decide (a < b):=by
  first | rfl | (unfold PyProof.Rows.itemLt; rfl) | simp [PyProof.Rows.itemLt]
theorem le_int7 (a b:Int):leD (.int a) (.int b)=decide (a≤b):=by
  show (!PyProof.Rows.lexLt PyProof.Rows.itemOrd [.inl b] [.inl a])=_
  simp [PyProof.Rows.lexLt,itm_int]
  by_cases h:b < a <;> simp [h] <;> omega
theorem keysOf_pw {sh:Shf} (pw:(sh.rows.map (·.key)).Pairwise (· < ·)) (i:Nat) (k:Leaf):(keysOf i k sh.rows).Pairwise (· < ·):=by
  unfold keysOf
  exact pw.sublist (List.filter_sublist.map _)
theorem sortOk_i7 (xs:List Int):sortOk (xs.map D.int)=true:=by
  unfold sortOk
  rw [Bool.and_eq_true,Bool.and_eq_true,Bool.and_eq_true]
  refine ⟨⟨⟨pls_ints xs,?_⟩,?_⟩,?_⟩
  · rw [List.all_eq_true]
    intro x hx
    rw [List.all_eq_true]
    intro y hy
    obtain ⟨a,_,rfl⟩:=List.mem_map.mp hx
    obtain ⟨b,_,rfl⟩:=List.mem_map.mp hy
    rfl
  · rw [Bool.or_eq_true,List.all_eq_true,List.all_eq_true]
    right
    intro x hx
    obtain ⟨a,_,rfl⟩:=List.mem_map.mp hx
    rfl
  · rw [List.all_eq_true]
    intro x hx
    obtain ⟨a,_,rfl⟩:=List.mem_map.mp hx
    rfl
theorem sorted_i7 {l:List Int} (pw:l.Pairwise (· < ·)):biF .sorted [.lst (l.map D.int)]=.ok (.lst (l.map D.int)):=by
  show (if sortOk (l.map D.int)=true then R.ok (D.lst (isort leD (l.map D.int))) else _)=_
  rw [if_pos (sortOk_i7 l),isort_id]
  rw [List.pairwise_map]
  exact pw.imp fun {a b} h=>by rw [le_int7]; exact decide_eq_true (by omega)
theorem fm_flat {α β γ:Type} (g:β→Option γ) (h:α→List β):∀ l:List α,(l.flatMap h).filterMap g=l.flatMap fun a=>(h a).filterMap g
  | []=>rfl
  | a :: l=>by rw [List.flatMap_cons,List.filterMap_append,fm_flat g h l,List.flatMap_cons]
theorem fm_congr {α β:Type} {f g:α→Option β}:∀ {l:List α},(∀ a∈l,f a=g a)→l.filterMap f=l.filterMap g
  | [],_=>rfl
  | a :: l,h=>by
    rw [List.filterMap_cons,List.filterMap_cons,h a List.mem_cons_self,fm_congr fun b hb=>h b (List.mem_cons_of_mem _ hb)]
def lkG (nm fd:Str):D→Option Int
  | .tup [.str a,.int k,.str b]=>if a=nm∧b=fd then some k else none
  | _=>none
theorem row_lk {ks : Str → List Int} {kd : Knd} {r : Rw} (hv : VRow ks kd.2 r.vals) (nd : (kd.2.map (·.1)).Nodup) {i : Nat} {f : Fld} (hf : kd.2[i]? = some f) {g : Str} {m : Bool} {ru : Str} (e : f.2 = .lnk g m ru) (key : Int) :
    (rowL g key kd r).filterMap (lkG kd.1 f.1)=if lfR i r=.num key then [r.key] else []:=by
  obtain ⟨e1,_⟩:=lfR_at hv hf
  have ek:isK key (r.vals[i]?)=decide (lfR i r=.num key):=by
    rw [e1]
    cases lfR i r with
    | none=>rfl
    | num j =>
      show (j == key)=_
      by_cases h:j=key
      · subst h; simp
      · simp [h]
    | text x=>rfl
  unfold rowL
  rw [List.filterMap_filterMap]
  have key1:∀ p∈kd.2.zipIdx,((lnkOf g key kd r p).bind (lkG kd.1 f.1))=if p.2=i then (if lfR i r=.num key then some r.key else none) else none:=fun p hp=>by
    obtain ⟨⟨n,s⟩,q⟩:=p
    have hq:kd.2[q]?=some (n,s):=List.mem_zipIdx_iff_getElem?.mp hp
    by_cases c:q=i
    · subst c
      rw [if_pos rfl]
      rw [hf] at hq
      cases hq
      unfold lnkOf
      have e:s=.lnk g m ru:=e
      subst e
      show (if (g == g && isK key (r.vals[q]?))=true then some (D.tup [.str kd.1,.int r.key,.str n]) else none).bind (lkG kd.1 n)=_
      rw [ek]
      by_cases z:lfR q r=.num key
      · rw [if_pos (by simp [z]),if_pos z]
        show (if kd.1=kd.1∧n=n then some r.key else none)=_
        rw [if_pos ⟨rfl,rfl⟩]
      · rw [if_neg (by simp [z]),if_neg z]; rfl
    · rw [if_neg c]
      have nn:n≠f.1:=fun z=>c (by
        have a1:(kd.2.map (·.1))[q]?=some n:=by rw [List.getElem?_map,hq]; rfl
        have a2:(kd.2.map (·.1))[i]?=some n:=by rw [List.getElem?_map,hf,z]; rfl
        exact (List.getElem?_inj (List.getElem?_eq_some_iff.mp a1).1 nd).mp (a1.trans a2.symm))
      unfold lnkOf
      split
      · split
        · show (if kd.1=kd.1∧n=f.1 then some r.key else none)=none
          rw [if_neg fun z=>nn z.2]
        · rfl
      · rfl
  rw [fm_congr key1]
  have hmem:i∈kd.2.zipIdx.map (·.2):=List.mem_map.mpr ⟨(f,i),List.mem_zipIdx_iff_getElem?.mpr hf,rfl⟩
  have ndz:(kd.2.zipIdx.map (·.2)).Nodup:=by rw [List.zipIdx_map_snd]; exact List.nodup_range'
  generalize kd.2.zipIdx=Z at hmem ndz
  clear key1
  induction Z with
  | nil=>cases hmem
  | cons a Z ih =>
    rw [List.map_cons,List.nodup_cons] at ndz
    obtain ⟨n1,n2⟩:=ndz
    by_cases c:a.2=i
    · have rest : Z.filterMap (fun p => if p.2 = i then (if lfR i r = .num key then some r.key else none) else none) = [] := by
        rw [List.filterMap_eq_nil_iff]
        intro p hp
        rw [if_neg fun z=>n1 (List.mem_map.mpr ⟨p,hp,z.trans c.symm⟩)]
      by_cases z:lfR i r=.num key
      · rw [List.filterMap_cons_some (by rw [if_pos c,if_pos z]),rest,if_pos z]
      · rw [List.filterMap_cons_none (by rw [if_pos c,if_neg z]),rest,if_neg z]
    · rw [List.filterMap_cons_none (by rw [if_neg c])]
      rw [List.map_cons] at hmem
      exact ih ((List.mem_cons.mp hmem).resolve_left fun z=>c z.symm) n2
theorem kind_no {nm fd:Str} {g:Str} {key:Int} {p:Knd×Shf} (h:p.1.1≠nm):(kindL g key p).filterMap (lkG nm fd)=[]:=by
  rw [List.filterMap_eq_nil_iff]
  intro d hd
  obtain ⟨r,_,hd⟩:=List.mem_flatMap.mp hd
  obtain ⟨q,_,hd⟩:=List.mem_filterMap.mp hd
  unfold lnkOf at hd
  split at hd
  · split at hd
    · cases hd
      show (if p.1.1=nm∧q.1.1=fd then some r.key else none)=none
      rw [if_neg fun z=>h z.1]
    · cases hd
  · cases hd
theorem all_lk {sch : List Knd} {sto : List Shf} (w : St sch sto) (nf : ∀ kd ∈ sch, (kd.2.map (·.1)).Nodup) {j : Nat} {kd : Knd} {sh : Shf} (h1 : sch[j]? = some kd) (h2 : sto[j]? = some sh) {i : Nat} {f : Fld} (hf : kd.2[i]? = some f) {g : Str} {m : Bool} {ru : Str} (e : f.2 = .lnk g m ru) (key : Int) :
    (allL g key sch sto).filterMap (lkG kd.1 f.1)=keysOf i (.num key) sh.rows:=by
  have shw:=w.wh.sh _ (zip_mem_of h1 h2)
  have rows:(kindL g key (kd,sh)).filterMap (lkG kd.1 f.1)=keysOf i (.num key) sh.rows:=by
    unfold kindL keysOf
    rw [fm_flat]
    have hv:=shw.val
    generalize sh.rows=RS at hv
    show RS.flatMap (fun r=>(rowL g key kd r).filterMap (lkG kd.1 f.1))=_
    induction RS with
    | nil=>rfl
    | cons r rs ih =>
      rw [List.flatMap_cons,ih fun q hq=>hv q (List.mem_cons_of_mem _ hq),row_lk (hv r List.mem_cons_self) (nf kd (List.mem_of_getElem? h1)) hf e key]
      by_cases z:lfR i r=.num key
      · rw [if_pos z,List.filter_cons_of_pos (by simpa using z)]; rfl
      · rw [if_neg z,List.filter_cons_of_neg (by simpa using z)]; rfl
  unfold allL
  rw [fm_flat]
  have hz:(sch.zip sto)[j]?=some (kd,sh):=List.getElem?_zip_eq_some.mpr ⟨h1,h2⟩
  have hnd:((sch.zip sto).map (·.1.1)).Nodup:=by
    have:(sch.zip sto).map (·.1.1)=sch.map (·.1):=by
      rw [show ((fun p:Knd×Shf=>p.1.1))=(fun k:Knd=>k.1) ∘ Prod.fst from rfl,← List.map_map,List.map_fst_zip (by rw [w.wh.len]; exact Nat.le_refl _)]
    rw [this]; exact w.wh.nd
  rw [← rows]
  clear rows h1 h2 shw
  generalize sch.zip sto=Z at hz hnd
  induction Z generalizing j with
  | nil=>simp at hz
  | cons a Z ih =>
    rw [List.map_cons,List.nodup_cons] at hnd
    rw [List.flatMap_cons]
    have off:∀ p∈Z,p.1.1≠a.1.1:=fun p hp z=>hnd.1 (List.mem_map.mpr ⟨p,hp,z⟩)
    cases j with
    | zero =>
      have:a=(kd,sh):=by simpa using hz
      subst this
      have rest:Z.flatMap (fun p=>(kindL g key p).filterMap (lkG kd.1 f.1))=[]:=by
        rw [List.flatMap_eq_nil_iff]
        exact fun p hp=>kind_no (off p hp)
      rw [rest,List.append_nil]
    | succ j =>
      have hz:Z[j]?=some (kd,sh):=by simpa using hz
      rw [kind_no fun z=>off _ (List.mem_of_getElem? hz) z.symm,List.nil_append]
      exact ih hz hnd.2
end
end Pu
end
section
open Hr Wk PySem
namespace Pu
theorem le_tri (a b:Str) (k k':Int) (h:leD (.tup [.str a,.int k,.str b]) (.tup [.str a,.int k',.str b])=true):k≤k':=by
  refine Int.not_lt.mp fun hlt=>?_
  have e:PySem.W.dataLt (D.py (.tup [.str a,.int k',.str b])) (D.py (.tup [.str a,.int k,.str b]))=true:=by
    show PyProof.Rows.lexLt PyProof.Rows.itemOrd ([.inl 1,.inr a.cps.toList,.inl 1] ++ [.inl k',.inl 1,.inr b.cps.toList,.inl 0]) ([.inl 1,.inr a.cps.toList,.inl 1] ++ [.inl k,.inl 1,.inr b.cps.toList,.inl 0])=true
    rw [PySem.W.lex_pre,PySem.W.lex_atom (by intro z; injection z with z; omega)]
    have:(Sum.inl k':Int ⊕ List Nat)≠Sum.inl k:=by intro z; injection z with z; omega
    simp [PyProof.Rows.lexLt,PyProof.Rows.itemLt,this,hlt]
  unfold leD at h
  rw [e] at h
  cases h
theorem lkG_some {nm fd:Str} {d:D} {k:Int} (h:lkG nm fd d=some k):d=.tup [.str nm,.int k,.str fd]:=by
  unfold lkG at h
  split at h
  · split at h
    · rename_i z
      obtain ⟨rfl,rfl⟩:=z
      cases h; rfl
    · cases h
  · cases h
theorem srt_lk {sch : List Knd} {sto : List Shf} (w : St sch sto) (nf : ∀ kd ∈ sch, (kd.2.map (·.1)).Nodup) {j : Nat} {kd : Knd} {sh : Shf} (h1 : sch[j]? = some kd) (h2 : sto[j]? = some sh) {i : Nat} {f : Fld} (hf : kd.2[i]? = some f) {g : Str} {m : Bool} {ru : Str} (e : f.2 = .lnk g m ru) (key : Int) :
    (isort leD (allL g key sch sto)).filterMap (lkG kd.1 f.1)=keysOf i (.num key) sh.rows:=by
  have shw:=w.wh.sh _ (zip_mem_of h1 h2)
  have hp:=(isort_perm (le:=leD) (allL g key sch sto)).filterMap (lkG kd.1 f.1)
  rw [all_lk w nf h1 h2 hf e key] at hp
  refine List.Perm.eq_of_pairwise (le:=fun a b:Int=>a≤b) (fun a b _ _ x y=>by omega) ?_ ((keysOf_pw shw.pw i (.num key)).imp fun {a b} x=>by omega) hp
  refine (isort_pw leD_tr leD_to (allL g key sch sto)).filterMap _ fun a b hab k hk k' hk'=>?_
  obtain rfl:=lkG_some hk
  obtain rfl:=lkG_some hk'
  exact le_tri _ _ _ _ hab
abbrev Zt:=List (Knd×Shf)
def moD (Z:Zt):D:=.dic false (Z.map fun p=>[Sum.inr p.1.1]) (Z.map fun p=>D.int (p.2.rows.length:Nat))
theorem pairs_cnt:∀ Z:Zt,pairsD (Z.map fun p=>D.tup [.str p.1.1,.int (p.2.rows.length:Nat)])=some (Z.map (fun p=>[Sum.inr p.1.1]),Z.map fun p=>D.int (p.2.rows.length:Nat))
  | []=>rfl
  | p :: Z=>by
    show (keyOf false (.str p.1.1)).bind (fun q=>(pairsD (Z.map fun p=>D.tup [.str p.1.1,.int (p.2.rows.length:Nat)])).map fun r=>(q :: r.1,D.int (p.2.rows.length:Nat) :: r.2))=_
    rw [pairs_cnt Z]
    rfl
theorem dict_cnt {Z:Zt} (nd:(Z.map (·.1.1)).Nodup):dDict (.lst (Z.map fun p=>D.tup [.str p.1.1,.int (p.2.rows.length:Nat)]))=.ok (moD Z):=by
  show dicOf _=_
  unfold dicOf
  rw [pairs_cnt]
  show R.of (if (Z.map (fun p=>[(Sum.inr p.1.1:L2.Key)])).Nodup then _ else none)=_
  rw [if_pos]
  · rfl
  · have:Z.map (fun p=>[(Sum.inr p.1.1:L2.Key)])=(Z.map (·.1.1)).map fun n=>[(Sum.inr n:L2.Key)]:=by rw [List.map_map]; rfl
    rw [this]
    generalize Z.map (·.1.1)=names at nd
    induction names with
    | nil=>simp
    | cons a xs ih =>
      obtain ⟨n1,n2⟩:=List.nodup_cons.mp nd
      rw [List.map_cons,List.nodup_cons]
      refine ⟨fun z=>?_,ih n2⟩
      obtain ⟨b,hb,e⟩:=List.mem_map.mp z
      have:b=a:=by simpa using e
      exact n1 (this ▸ hb)
theorem look_cnt {Z:Zt} (nd:(Z.map (·.1.1)).Nodup) {p:Knd×Shf} (hp:p∈Z):lookK (Z.map fun p=>[Sum.inr p.1.1]) (Z.map fun p=>D.int (p.2.rows.length:Nat)) [Sum.inr p.1.1]=some (D.int (p.2.rows.length:Nat)):=by
  induction Z with
  | nil=>cases hp
  | cons q Z ih =>
    rw [List.map_cons,List.nodup_cons] at nd
    show (if [Sum.inr q.1.1]=[(Sum.inr p.1.1:L2.Key)] then some (D.int (q.2.rows.length:Nat)) else lookK (Z.map fun p=>[Sum.inr p.1.1]) (Z.map fun p=>D.int (p.2.rows.length:Nat)) [Sum.inr p.1.1])=_
    rcases List.mem_cons.mp hp with rfl | hp
    · rw [if_pos rfl]
    · rw [if_neg fun z=>nd.1 (List.mem_map.mpr ⟨p,hp,by simpa using z.symm⟩)]
      exact ih nd.2 hp
theorem sub_cnt {Z:Zt} (nd:(Z.map (·.1.1)).Nodup) {p:Knd×Shf} (hp:p∈Z):dSub2 (moD Z) (.str p.1.1)=.ok (.int (p.2.rows.length:Nat)):=by
  have e:=look_cnt nd hp
  unfold moD
  generalize Z.map (fun p=>[(Sum.inr p.1.1:L2.Key)])=KS at *
  generalize Z.map (fun p=>D.int (p.2.rows.length:Nat))=VS at *
  show R.of ((keyOf false (.str p.1.1)).bind fun k=>lookK KS VS k)=_
  show R.of (lookK KS VS [Sum.inr p.1.1])=_
  rw [e]; rfl
theorem zip_nd {sch:List Knd} {sto:List Shf} (w:St sch sto):((sch.zip sto).map (·.1.1)).Nodup:=by
  have:(sch.zip sto).map (·.1.1)=sch.map (·.1):=by
    rw [show ((fun p:Knd×Shf=>p.1.1))=(fun k:Knd=>k.1) ∘ Prod.fst from rfl,← List.map_map,List.map_fst_zip (by rw [w.wh.len]; exact Nat.le_refl _)]
  rw [this]; exact w.wh.nd
def W7 (ns:List Int) (sch:List Knd) (sto:List Shf) (x4 x5 x6 x7 x9 x10 x11 x12 x13 x14 x15 x16 x20:Option D):En:=[some (A ns),some (schD sch),some (stoD sto),some (moD (sch.zip sto)),x4,x5,x6,x7,none,x9,x10,x11,x12,x13,x14,x15,x16,none,none,none,x20,none]
theorem ne_no {a b:T} {s:En} {x:D} (ha:(den a).v s=.ok x) (hb:(den b).v s=.ok x) (e:dEq x x=.ok true):(den (.cmp .NotEq a b)).t s=.ok false:=by
  rw [t_cmp,ha,hb]
  show (dEq x x >>= fun b=>R.ok (!b))=_
  rw [e]; rfl
theorem ite_no {c:T} {a:S} {s:En} (h:(den c).t s=.ok false):dS (.ite c a .nil) s=.nx s:=by
  rw [dS_ite,h]; rfl
theorem ite_yes {c:T} {a b:S} {s:En} {r:Out} (h:(den c).t s=.ok true) (h2:dS a s=r):dS (.ite c a b) s=r:=by
  rw [dS_ite,h]; exact h2
theorem seq_1 {Γ:Ow} {a b:S} {s s':En} {r:Out} (h:dS a s=.nx s') (h2:dS b s'=r):dS (.seq Γ a b) s=r:=by
  rw [dS_seq,h]; exact h2
theorem bk_w7 (ns:List Int) (sch:List Knd) (sto:List Shf) (x4 x5 x6 x7 x9 x10 x11 x12 x13 x14 x15 x16:Option D) (m:Bk):bkAt (W7 ns sch sto x4 x5 x6 x7 x9 x10 x11 x12 x13 x14 x15 x16 (some (.adr (bkEnc m)))) 20=some m:=by
  show some (bkDec (bkEnc m))=_
  rw [bkDec_enc]
theorem bk_rows (ns : List Int) (sch : List Knd) (sto : List Shf) (x4 x5 x6 x9 x10 x11 x12 x16 : Option D) {ks : Str → List Int} {kd : Knd} {i : Nat} {f : Fld} (hf : kd.2[i]? = some f) : ∀ (rs : List Rw) (x13 x14 x15 : Option D) (m : Bk), (∀ r ∈ rs, VRow ks kd.2 r.vals) →
    ∃ y13 y14 y15,bkRun (tgd (.tp (.cons (.nm 13) (.cons (.nm 14) (.cons (.nm 15) .nil))))).f (den (.sub (.var 15) (.var 7))).v (den (.var 13)).v (rs.map rwD) (W7 ns sch sto x4 x5 x6 (some (.int (i:Nat))) x9 x10 x11 x12 x13 x14 x15 x16 none) m=some (rs.foldl (addR i) m,W7 ns sch sto x4 x5 x6 (some (.int (i:Nat))) x9 x10 x11 x12 y13 y14 y15 x16 none)
  | [],x13,x14,x15,m,_=>⟨x13,x14,x15,rfl⟩
  | r :: rs,x13,x14,x15,m,hv=>by
    obtain ⟨e1,_⟩:=lfR_at (hv r List.mem_cons_self) hf
    obtain ⟨y13,y14,y15,ih⟩:=bk_rows ns sch sto x4 x5 x6 x9 x10 x11 x12 x16 hf rs (some (.int r.key)) (some (.int r.ver)) (some (.tup r.vals)) (addR i m r) fun q hq=>hv q (List.mem_cons_of_mem _ hq)
    refine ⟨y13,y14,y15,?_⟩
    rw [List.map_cons,List.foldl_cons,← ih]
    have t1:(tgd (.tp (.cons (.nm 13) (.cons (.nm 14) (.cons (.nm 15) .nil))))).f (rwD r) (W7 ns sch sto x4 x5 x6 (some (.int (i:Nat))) x9 x10 x11 x12 x13 x14 x15 x16 none)=some (W7 ns sch sto x4 x5 x6 (some (.int (i:Nat))) x9 x10 x11 x12 (some (.int r.key)) (some (.int r.ver)) (some (.tup r.vals)) x16 none):=rfl
    have t2:(den (.sub (.var 15) (.var 7))).v (W7 ns sch sto x4 x5 x6 (some (.int (i:Nat))) x9 x10 x11 x12 (some (.int r.key)) (some (.int r.ver)) (some (.tup r.vals)) x16 none)=.ok (dLf (lfR i r)):=sub_t e1
    have t3:(den (.var 13)).v (W7 ns sch sto x4 x5 x6 (some (.int (i:Nat))) x9 x10 x11 x12 (some (.int r.key)) (some (.int r.ver)) (some (.tup r.vals)) x16 none)=.ok (.int r.key):=rfl
    show ((tgd _).f (rwD r) _).bind _=_
    rw [t1]
    show (match (den (.sub (.var 15) (.var 7))).v _,(den (.var 13)).v _ with
      | .ok kd,.ok (.int v)=>(lfD kd).bind fun k=>bkRun _ _ _ (rs.map rwD) _ (bkApp m k v)
      | _,_=>none)=_
    rw [t2,t3]
    dsimp only
    rw [lfD_dLf]
    rfl
end Pu
end
section
open Hr Wk PySem
namespace Pu
theorem bi1 {b:BI} {a:T} {s:En} {x:D} (h:(den a).v s=.ok x):(den (.bi b (.cons a .nil))).v s=biF b [x]:=by simp [h]
theorem asg_1 {vs:List Nat} {tg:TG} {e:T} {s s':En} {d:D} (h:(den e).v s=.ok d) (h2:(tgd tg).f d s=some s'):dS (.asg vs tg e) s=.nx s':=by simp [h,h2]
theorem sum_i7 (xs:List Int):biF .sum [.lst (xs.map D.int)]=.ok (.int xs.sum):=by
  have:∀ xs:List Int,intsD (xs.map D.int)=some xs:=fun xs=>by
    induction xs with
    | nil=>rfl
    | cons x xs ih =>
      show (intsD (xs.map D.int)).map (fun l=>x :: l)=_
      rw [ih]; rfl
  show R.of ((intsD (xs.map D.int)).map fun is=>D.int is.sum)=_
  rw [this]
  rfl
section
variable (ns:List Int) {sch:List Knd} {sto:List Shf} {x4 x6 x9 x10 x13 x14 x15 x16:Option D} {j:Nat} {kd:Knd} {sh:Shf} {i:Nat} {f:Fld} {m:Bk}
theorem bkG_v {k:Leaf} {l:List Int} {x5 x7 x11 x12:Option D} (h:bkGet m k=some l):(den (.bkG 8 20 (.var 10))).v (W7 ns sch sto x4 x5 x6 x7 x9 (some (dLf k)) x11 x12 x13 x14 x15 x16 (some (.adr (bkEnc m))))=.ok (.lst (l.map D.int)):=by
  rw [v_bkG,bk_w7]
  show bkG (some m) (dLf k)=_
  unfold bkG
  rw [show (some m).bind (fun m=>(lfD (dLf k)).bind fun k=>(bkGet m k).map fun l=>D.lst (l.map D.int))=(lfD (dLf k)).bind fun k=>(bkGet m k).map fun l=>D.lst (l.map D.int) from rfl,lfD_dLf]
  show R.of ((bkGet m k).map _)=_
  rw [h]; rfl
theorem srt_v {k:Leaf} {l:List Int} {x5 x7 x11 x12:Option D} (h:bkGet m k=some l) (pw:l.Pairwise (· < ·)):(den (.bi .sorted (.cons (.bkG 8 20 (.var 10)) .nil))).v (W7 ns sch sto x4 x5 x6 x7 x9 (some (dLf k)) x11 x12 x13 x14 x15 x16 (some (.adr (bkEnc m))))=.ok (.lst (l.map D.int)):=by
  rw [bi1 (bkG_v ns h)]
  exact sorted_i7 pw
theorem rows_v (w : St sch sto) (nf : ∀ kd ∈ sch, (kd.2.map (·.1)).Nodup) (h1 : sch[j]? = some kd) (h2 : sto[j]? = some sh) (hf : kd.2[i]? = some f) (k : Leaf) {x7 x12 x20 : Option D} :
    (den (.call "rows_with" 5 .fz 4 φ_rows_with (.cons (.var 1) (.cons (.var 2) (.cons (.var 5) (.cons (.var 11) (.cons (.var 10) .nil))))))).v (W7 ns sch sto x4 (some (.str kd.1)) x6 x7 x9 (some (dLf k)) (some (.str f.1)) x12 x13 x14 x15 x16 x20)=.ok (.lst ((keysOf i k sh.rows).map D.int)):=by
  rw [v_call]
  show (if [schD sch,stoD sto,.str kd.1,.str f.1,dLf k].length=5 then φ_rows_with [schD sch,stoD sto,.str kd.1,.str f.1,dLf k] else .stuck)=_
  exact (if_pos rfl).trans (rows_exact w nf h1 h2 hf k)
theorem told_v (w : St sch sto) (nf : ∀ kd ∈ sch, (kd.2.map (·.1)).Nodup) (h1 : sch[j]? = some kd) (h2 : sto[j]? = some sh) (hf : kd.2[i]? = some f) {x7 x12 x20 : Option D} :
    (den (.call "value_counts" 4 (.own .fz) 4 φ_value_counts (.cons (.var 1) (.cons (.var 2) (.cons (.var 5) (.cons (.var 11) .nil)))))).v (W7 ns sch sto x4 (some (.str kd.1)) x6 x7 x9 x10 (some (.str f.1)) x12 x13 x14 x15 x16 x20)=.ok (.lst ((cnt (mB i sh.rows)).map itD)):=by
  rw [v_call]
  show (if [schD sch,stoD sto,.str kd.1,.str f.1].length=4 then φ_value_counts [schD sch,stoD sto,.str kd.1,.str f.1] else .stuck)=_
  exact (if_pos rfl).trans (counts_exact w nf h1 h2 hf).1
theorem lc1_v {x5 x7 x11 x12:Option D} (nd:(m.map (·.1)).Nodup):(den (.lc [("value",10)] E_law_0 (.nm 10) (.bkI 8 20) .no)).v (W7 ns sch sto x4 x5 x6 x7 x9 x10 x11 x12 x13 x14 x15 x16 (some (.adr (bkEnc m))))=.ok (.lst ((cnt m).map itD)):=by
  have h:=lcA_over (f:=fun p:Leaf×List Int=>dLf p.1) (t:=lcT (tgd (.nm 10)).f (den .no).t (den E_law_0).v (W7 ns sch sto x4 x5 x6 x7 x9 none x11 x12 x13 x14 x15 x16 (some (.adr (bkEnc m))))) (g:=fun p=>some (D.tup [dLf p.1,.int (p.2.length:Nat)])) (xs:=m) fun p hp=>by
    have g:=bkG_v ns (sch:=sch) (sto:=sto) (x4:=x4) (x5:=x5) (x6:=x6) (x7:=x7) (x9:=x9) (x11:=x11) (x12:=x12) (x13:=x13) (x14:=x14) (x15:=x15) (x16:=x16) (get_mem nd hp)
    have g2:=bi1 (b:=.len) g
    have g3:biF .len [.lst (p.2.map D.int)]=.ok (.int (p.2.length:Nat)):=by
      show R.ok (D.int ((p.2.map D.int).length:Nat))=_
      rw [List.length_map]
    rw [g3] at g2
    have hs:(tgd (.nm 10)).f (dLf p.1) (W7 ns sch sto x4 x5 x6 x7 x9 none x11 x12 x13 x14 x15 x16 (some (.adr (bkEnc m))))=some (W7 ns sch sto x4 x5 x6 x7 x9 (some (dLf p.1)) x11 x12 x13 x14 x15 x16 (some (.adr (bkEnc m)))):=rfl
    have hv:(den (.var 10)).v (W7 ns sch sto x4 x5 x6 x7 x9 (some (dLf p.1)) x11 x12 x13 x14 x15 x16 (some (.adr (bkEnc m))))=.ok (dLf p.1):=rfl
    have he:(den E_law_0).v (W7 ns sch sto x4 x5 x6 x7 x9 (some (dLf p.1)) x11 x12 x13 x14 x15 x16 (some (.adr (bkEnc m))))=.ok (.tup [dLf p.1,.int (p.2.length:Nat)]):=by
      generalize W7 ns sch sto x4 x5 x6 x7 x9 (some (dLf p.1)) x11 x12 x13 x14 x15 x16 (some (.adr (bkEnc m)))=s at *
      simp only [E_law_0]
      generalize T.bi .len (.cons (.bkG 8 20 (.var 10)) .nil)=B at *
      generalize T.var 10=V10 at *
      simp [hv,g2,sizeLine_eq]
    unfold lcT
    rw [hs]
    simp [he]
  rw [fm_some] at h
  have e:(cnt m).map itD=m.map fun p=>D.tup [dLf p.1,.int (p.2.length:Nat)]:=by
    unfold cnt; rw [List.map_map]; rfl
  rw [v_lc,l_bkI]
  have hi:eBkI 20 (W7 ns sch sto x4 x5 x6 x7 x9 x10 x11 x12 x13 x14 x15 x16 (some (.adr (bkEnc m))))=.ok (m.map fun p=>dLf p.1):=by
    unfold eBkI
    rw [bk_w7]; rfl
  rw [hi]
  rw [e]
  show (lcA (lcT (tgd (.nm 10)).f (den .no).t (den E_law_0).v (W7 ns sch sto x4 x5 x6 x7 x9 none x11 x12 x13 x14 x15 x16 (some (.adr (bkEnc m))))) (m.map fun p=>dLf p.1) [] >>= fun out=>R.ok (D.lst out))=_
  rw [h]; rfl
theorem lc2_v {x5 x7 x11 x12 x20:Option D} (c:List (Leaf×Int)):(den (.lc [("value",10),("count",17)] E_law_1 (.tp (.cons (.nm 10) (.cons (.nm 17) .nil))) (.itI (.var 9)) .no)).v (W7 ns sch sto x4 x5 x6 x7 (some (.lst (c.map itD))) x10 x11 x12 x13 x14 x15 x16 x20)=.ok (.lst ((c.map (·.2)).map D.int)):=by
  have h:=lcA_over (f:=itD) (t:=lcT (tgd (.tp (.cons (.nm 10) (.cons (.nm 17) .nil)))).f (den .no).t (den E_law_1).v (W7 ns sch sto x4 x5 x6 x7 (some (.lst (c.map itD))) none x11 x12 x13 x14 x15 x16 x20)) (g:=fun p=>some (D.int p.2)) (xs:=c) fun p hp=>rfl
  rw [fm_some] at h
  rw [v_lc]
  have hi:(den (.itI (.var 9))).l (W7 ns sch sto x4 x5 x6 x7 (some (.lst (c.map itD))) x10 x11 x12 x13 x14 x15 x16 x20)=.ok (c.map itD):=rfl
  rw [hi]
  show (lcA (lcT (tgd (.tp (.cons (.nm 10) (.cons (.nm 17) .nil)))).f (den .no).t (den E_law_1).v (W7 ns sch sto x4 x5 x6 x7 (some (.lst (c.map itD))) none x11 x12 x13 x14 x15 x16 x20)) (c.map itD) [] >>= fun out=>R.ok (D.lst out))=_
  rw [h,List.map_map]; rfl
theorem ints_eq (l:List Int):dEq (.lst (l.map D.int)) (.lst (l.map D.int))=.ok true:=eq_selfL (n:=0) (flats_of fun d hd=>by obtain ⟨p,_,rfl⟩:=List.mem_map.mp hd; rfl) (by decide)
end
end Pu
end
section
open Hr Wk PySem
namespace Pu
theorem all_tr {g:Str} {key:Int} {sch:List Knd} {sto:List Shf}:∀ d∈isort leD (allL g key sch sto),∃ a k b,d=D.tup [.str a,.int k,.str b]:=fun d hd=>by
  have hd:d∈allL g key sch sto:=(isort_perm (le:=leD) (allL g key sch sto)).mem_iff.mp hd
  obtain ⟨p,_,hd⟩:=List.mem_flatMap.mp hd
  obtain ⟨r,_,hd⟩:=List.mem_flatMap.mp hd
  obtain ⟨q,_,hd⟩:=List.mem_filterMap.mp hd
  unfold lnkOf at hd
  split at hd
  · split at hd
    · cases hd; exact ⟨_,_,_,rfl⟩
    · cases hd
  · cases hd
theorem eq_ss (a b c d:Str):dEq (.tup [.str a,.str b]) (.tup [.str c,.str d])=.ok (decide (a=c∧b=d)):=by
  show R.ok ((a == c) && ((b == d) && true))=_
  rw [Bool.and_true]
  congr 1
  rw [Bool.eq_iff_iff,Bool.and_eq_true,beq_iff_eq,beq_iff_eq,decide_eq_true_iff]
section
variable (ns:List Int) {sch:List Knd} {sto:List Shf} {x4 x6 x9 x10 x13 x14 x15 x16:Option D} {j:Nat} {kd:Knd} {sh:Shf} {i:Nat} {f:Fld} {m:Bk}
theorem lc3_v {nm fd : Str} {l : List D} (hl : ∀ d ∈ l, ∃ a k b, d = D.tup [.str a, .int k, .str b]) {x7 x12 x20 : Option D} :
    (den (.lc [("kind",18),("key",13),("one",19)] E_law_2 (.tp (.cons (.nm 18) (.cons (.nm 13) (.cons (.nm 19) .nil)))) (.itI (.var 16)) J_law_2)).v (W7 ns sch sto x4 (some (.str nm)) x6 x7 x9 x10 (some (.str fd)) x12 x13 x14 x15 (some (.lst l)) x20)=.ok (.lst ((l.filterMap (lkG nm fd)).map D.int)):=by
  have h:=lcA_over (f:=fun d:D=>d) (t:=lcT (tgd (.tp (.cons (.nm 18) (.cons (.nm 13) (.cons (.nm 19) .nil))))).f (den J_law_2).t (den E_law_2).v (W7 ns sch sto x4 (some (.str nm)) x6 x7 x9 x10 (some (.str fd)) x12 none x14 x15 (some (.lst l)) x20)) (g:=fun d=>(lkG nm fd d).map D.int) (xs:=l) fun d hd=>by
    obtain ⟨a,k,b,rfl⟩:=hl d hd
    have e:=eq_ss a b nm fd
    have hz:2≤sizeLine:=by rw [sizeLine_eq]; decide
    simp only [W7]
    generalize moD (sch.zip sto)=MD at *
    generalize D.lst l=LL at *
    generalize A ns=AN at *
    generalize schD sch=SD at *
    generalize stoD sto=TD at *
    by_cases c:a=nm∧b=fd
    · rw [decide_eq_true c] at e
      obtain ⟨rfl,rfl⟩:=c
      simp [lcT,ftName,E_law_2,J_law_2,eVar,e,lkG,hz,R.nox]
    · rw [decide_eq_false c] at e
      simp [lcT,ftName,E_law_2,J_law_2,eVar,e,lkG,c,hz,R.nox]
  rw [v_lc]
  have hi:(den (.itI (.var 16))).l (W7 ns sch sto x4 (some (.str nm)) x6 x7 x9 x10 (some (.str fd)) x12 x13 x14 x15 (some (.lst l)) x20)=.ok l:=rfl
  rw [hi]
  show (lcA (lcT (tgd (.tp (.cons (.nm 18) (.cons (.nm 13) (.cons (.nm 19) .nil))))).f (den J_law_2).t (den E_law_2).v (W7 ns sch sto x4 (some (.str nm)) x6 x7 x9 x10 (some (.str fd)) x12 none x14 x15 (some (.lst l)) x20)) l [] >>= fun out=>R.ok (D.lst out))=_
  have e2:l.filterMap (fun d=>(lkG nm fd d).map D.int)=(l.filterMap (lkG nm fd)).map D.int:=by rw [List.map_filterMap]
  rw [e2,show List.map (fun d:D=>d) l=l from by simp] at h
  rw [h]; rfl
theorem lnk_leaf {ks:Str→List Int} {kd:Knd} {r:Rw} (h:VRow ks kd.2 r.vals) {i:Nat} {f:Fld} (hf:kd.2[i]?=some f) {g:Str} {mm:Bool} {ru:Str} (e:f.2=.lnk g mm ru):lfR i r=.none∨∃ k,lfR i r=.num k:=by
  have hl:=h.1
  have hi:=(List.getElem?_eq_some_iff.mp hf).1
  have hd:r.vals[i]?=some r.vals[i]:=List.getElem?_eq_getElem (by omega)
  have hv:=h.at_ hf hd
  rw [e] at hv
  unfold lfR
  rw [hd]
  rcases hv with ⟨q,_⟩ | ⟨k,_,q⟩
  · left; rw [q]; rfl
  · right; refine ⟨k,?_⟩; rw [q]; rfl
theorem mB_lnk {ks:Str→List Int} {kd:Knd} {rs:List Rw} (hv:∀ r∈rs,VRow ks kd.2 r.vals) {i:Nat} {f:Fld} (hf:kd.2[i]?=some f) {g:Str} {mm:Bool} {ru:Str} (e:f.2=.lnk g mm ru) {p:Leaf×List Int} (hp:p∈mB i rs):p.1=.none∨∃ k,p.1=.num k:=by
  have h:=(bkGet_rows i p.1 rs []).2
  have g1:=get_mem (mB_nd i rs) hp
  unfold mB at g1
  rw [g1] at h
  have h:(rs.any fun r=>decide (lfR i r=p.1))=true:=by simpa [bkGet] using h.symm
  obtain ⟨r,hr,hq⟩:=List.any_eq_true.mp h
  rw [← of_decide_eq_true hq]
  exact lnk_leaf (hv r hr) hf e
theorem and_no {a b:T} {s:En} (h:(den a).t s=.ok false):(den (.and a b)).t s=.ok false:=by
  rw [t_and,h]; rfl
theorem and_yes {a b:T} {s:En} {k:Bool} (h:(den a).t s=.ok true) (h2:(den b).t s=.ok k):(den (.and a b)).t s=.ok k:=by
  rw [t_and,h]; exact h2
theorem cmp_t {op:CmpOp} {a b:T} {s:En} {x y:D} {r:R Bool} (h1:(den a).v s=.ok x) (h2:(den b).v s=.ok y) (h3:dCmp op x y=r):(den (.cmp op a b)).t s=r:=by
  rw [t_cmp,h1,h2]; exact h3
theorem isnot_v {d:D} {x5 x7 x11 x12 x20:Option D}:(den (.one (.cmp .IsNot (.var 10) (.con .non)))).t (W7 ns sch sto x4 x5 x6 x7 x9 (some d) x11 x12 x13 x14 x15 x16 x20)=dCmp .IsNot d .non:=by
  rw [t_one]
  exact cmp_t (x:=d) (y:=.non) rfl rfl rfl
theorem srt0_v {s:Srt} {x5 x7 x10 x11 x20:Option D}:(den (.cmp .Eq (.sub (.var 12) (.con (.int (0)))) (.con (.str "link")))).t (W7 ns sch sto x4 x5 x6 x7 x9 x10 x11 (some s.d) x13 x14 x15 x16 x20)=.ok (match s with | .lnk _ _ _=>true | _=>false):=by
  cases s with
  | num=>exact cmp_t (x:=.str "n") (y:=.str "link") rfl rfl rfl
  | txt=>exact cmp_t (x:=.str "t") (y:=.str "link") rfl rfl rfl
  | lnk g m r=>exact cmp_t (x:=.str "link") (y:=.str "link") (show dSub2 (.tup [.str "link",.str g,.bl m,.str r]) (.int ((0:Nat):Int))=_ from sub_t (x:=.str "link") rfl) rfl rfl
theorem turn3 (w : St sch sto) (nf : ∀ kd ∈ sch, (kd.2.map (·.1)).Nodup) (h1 : sch[j]? = some kd) (h2 : sto[j]? = some sh) (hf : kd.2[i]? = some f) {p : Leaf × List Int} (hp : p ∈ mB i sh.rows) {x7 : Option D} :
    ∃ y16,turnD (tgd (.nm 10)).f (dS L_law_3) (dLf p.1) (W7 ns sch sto x4 (some (.str kd.1)) x6 x7 x9 x10 (some (.str f.1)) (some f.2.d) x13 x14 x15 x16 (some (.adr (bkEnc (mB i sh.rows)))))=.nx (W7 ns sch sto x4 (some (.str kd.1)) x6 x7 x9 (some (dLf p.1)) (some (.str f.1)) (some f.2.d) x13 x14 x15 y16 (some (.adr (bkEnc (mB i sh.rows))))):=by
  have shw:=w.wh.sh _ (zip_mem_of h1 h2)
  have e0:∀ y16,turnD (tgd (.nm 10)).f (dS L_law_3) (dLf p.1) (W7 ns sch sto x4 (some (.str kd.1)) x6 x7 x9 x10 (some (.str f.1)) (some f.2.d) x13 x14 x15 x16 (some (.adr (bkEnc (mB i sh.rows)))))=y16↔dS L_law_3 (W7 ns sch sto x4 (some (.str kd.1)) x6 x7 x9 (some (dLf p.1)) (some (.str f.1)) (some f.2.d) x13 x14 x15 x16 (some (.adr (bkEnc (mB i sh.rows)))))=y16:=fun _=>Iff.rfl
  have hk:=mB_mem hp
  have pw:=keysOf_pw shw.pw i p.1
  have hg:bkGet (mB i sh.rows) p.1=some (keysOf i p.1 sh.rows):=by rw [← hk]; exact get_mem (mB_nd i sh.rows) hp
  have a1:=rows_v ns (x4:=x4) (x6:=x6) (x9:=x9) (x13:=x13) (x14:=x14) (x15:=x15) (x16:=x16) (x7:=x7) (x12:=some f.2.d) (x20:=some (.adr (bkEnc (mB i sh.rows)))) w nf h1 h2 hf p.1
  have a2:∀ y16,_:=fun y16=>srt_v ns (sch:=sch) (sto:=sto) (x4:=x4) (x5:=some (.str kd.1)) (x6:=x6) (x7:=x7) (x9:=x9) (x11:=some (.str f.1)) (x12:=some f.2.d) (x13:=x13) (x14:=x14) (x15:=x15) (x16:=y16) hg pw
  have s1:=ite_no (a:=.seq [] (.ret (.con (.bl false))) .nil) (ne_no a1 (a2 x16) (ints_eq _))
  have key : ∃ y16, dS (.ite (.and (.cmp .Eq (.sub (.var 12) (.con (.int (0)))) (.con (.str "link"))) (.one (.cmp .IsNot (.var 10) (.con .non))))
      (.seq [] (.asg [16] (.nm 16) (.call "links_to" 4 .fz 4 φ_links_to (.cons (.var 1) (.cons (.var 2) (.cons (.sub (.var 12) (.con (.int (1)))) (.cons (.var 10) .nil))))))
      (.seq [] (.ite (.cmp .NotEq (.lc [("kind",18),("key",13),("one",19)] E_law_2 (.tp (.cons (.nm 18) (.cons (.nm 13) (.cons (.nm 19) .nil)))) (.itI (.var 16)) J_law_2) (.bi .sorted (.cons (.bkG 8 20 (.var 10)) .nil)))
      (.seq [] (.ret (.con (.bl false)))
      .nil)
      .nil)
      .nil))
      .nil) (W7 ns sch sto x4 (some (.str kd.1)) x6 x7 x9 (some (dLf p.1)) (some (.str f.1)) (some f.2.d) x13 x14 x15 x16 (some (.adr (bkEnc (mB i sh.rows)))))=.nx (W7 ns sch sto x4 (some (.str kd.1)) x6 x7 x9 (some (dLf p.1)) (some (.str f.1)) (some f.2.d) x13 x14 x15 y16 (some (.adr (bkEnc (mB i sh.rows))))):=by
    have b1:=srt0_v ns (sch:=sch) (sto:=sto) (x4:=x4) (x5:=some (.str kd.1)) (x6:=x6) (x7:=x7) (x9:=x9) (x10:=some (dLf p.1)) (x11:=some (.str f.1)) (x13:=x13) (x14:=x14) (x15:=x15) (x16:=x16) (x20:=some (.adr (bkEnc (mB i sh.rows)))) (s:=f.2)
    have b2:=isnot_v ns (sch:=sch) (sto:=sto) (x4:=x4) (x5:=some (.str kd.1)) (x6:=x6) (x7:=x7) (x9:=x9) (d:=dLf p.1) (x11:=some (.str f.1)) (x12:=some f.2.d) (x13:=x13) (x14:=x14) (x15:=x15) (x16:=x16) (x20:=some (.adr (bkEnc (mB i sh.rows))))
    cases es:f.2 with
    | num=>rw [es] at b1; have b1:_=R.ok false:=b1; exact ⟨x16,by rw [← es] at b1 ⊢; exact ite_no (and_no b1)⟩
    | txt=>rw [es] at b1; have b1:_=R.ok false:=b1; exact ⟨x16,by rw [← es] at b1 ⊢; exact ite_no (and_no b1)⟩
    | lnk g mm ru =>
      rw [es] at b1
      have b1:_=R.ok true:=b1
      rw [← es] at b1 ⊢
      rcases mB_lnk shw.val hf es hp with q | ⟨k,q⟩
      · have b2:_=R.ok false:=b2.trans (by rw [q]; rfl)
        exact ⟨x16,ite_no (and_yes b1 b2)⟩
      · have b2:_=R.ok true:=b2.trans (by rw [q]; rfl)
        have hlk:=links_ok w.ws.st g k
        have hsl:=srt_lk w nf h1 h2 hf es k
        refine ⟨some (.lst (isort leD (allL g k sch sto))),ite_yes (and_yes b1 b2) (seq_1 (asg_1 (d:=.lst (isort leD (allL g k sch sto))) (s':=W7 ns sch sto x4 (some (.str kd.1)) x6 x7 x9 (some (dLf p.1)) (some (.str f.1)) (some f.2.d) x13 x14 x15 (some (.lst (isort leD (allL g k sch sto)))) (some (.adr (bkEnc (mB i sh.rows))))) ?_ rfl) (seq_1 (ite_no (ne_no (x:=.lst ((keysOf i p.1 sh.rows).map D.int)) ?_ (a2 _) (ints_eq _))) rfl))⟩
        · have c1 : (den (.sub (.var 12) (.con (.int (1))))).v (W7 ns sch sto x4 (some (.str kd.1)) x6 x7 x9 (some (dLf p.1)) (some (.str f.1)) (some f.2.d) x13 x14 x15 x16 (some (.adr (bkEnc (mB i sh.rows))))) = .ok (.str g) := by
            rw [es]; exact (show dSub2 (.tup [.str "link",.str g,.bl mm,.str ru]) (.int ((1:Nat):Int))=_ from sub_t (x:=.str g) rfl)
          have c2:(den (.var 10)).v (W7 ns sch sto x4 (some (.str kd.1)) x6 x7 x9 (some (dLf p.1)) (some (.str f.1)) (some f.2.d) x13 x14 x15 x16 (some (.adr (bkEnc (mB i sh.rows)))))=.ok (.int k):=by rw [q]; rfl
          have c3:(den (.var 1)).v (W7 ns sch sto x4 (some (.str kd.1)) x6 x7 x9 (some (dLf p.1)) (some (.str f.1)) (some f.2.d) x13 x14 x15 x16 (some (.adr (bkEnc (mB i sh.rows)))))=.ok (schD sch):=rfl
          have c4:(den (.var 2)).v (W7 ns sch sto x4 (some (.str kd.1)) x6 x7 x9 (some (dLf p.1)) (some (.str f.1)) (some f.2.d) x13 x14 x15 x16 (some (.adr (bkEnc (mB i sh.rows)))))=.ok (stoD sto):=rfl
          generalize W7 ns sch sto x4 (some (.str kd.1)) x6 x7 x9 (some (dLf p.1)) (some (.str f.1)) (some f.2.d) x13 x14 x15 x16 (some (.adr (bkEnc (mB i sh.rows))))=s at *
          generalize T.sub (.var 12) (.con (.int (1)))=T1 at *
          generalize T.var 10=T2 at *
          generalize T.var 1=T3 at *
          generalize T.var 2=T4 at *
          generalize schD sch=SD at *
          generalize stoD sto=TD at *
          simp [c1,c2,c3,c4,hlk]
        · rw [lc3_v ns all_tr,hsl,← q]
  obtain ⟨y16,hy⟩:=key
  exact ⟨y16,(e0 _).mpr (seq_1 s1 (seq_1 hy rfl))⟩
theorem turn4 (w : St sch sto) (nf : ∀ kd ∈ sch, (kd.2.map (·.1)).Nodup) (h1 : sch[j]? = some kd) (h2 : sto[j]? = some sh) (hf : kd.2[i]? = some f) (k : Leaf) {x7 x12 : Option D} :
    turnD (tgd (.nm 10)).f (dS L_law_4) (dLf k) (W7 ns sch sto x4 (some (.str kd.1)) x6 x7 x9 x10 (some (.str f.1)) x12 x13 x14 x15 x16 (some (.adr (bkEnc (mB i sh.rows)))))=.nx (W7 ns sch sto x4 (some (.str kd.1)) x6 x7 x9 (some (dLf k)) (some (.str f.1)) x12 x13 x14 x15 x16 (some (.adr (bkEnc (mB i sh.rows))))):=by
  have a1:=rows_v ns (x4:=x4) (x6:=x6) (x9:=x9) (x13:=x13) (x14:=x14) (x15:=x15) (x16:=x16) (x7:=x7) (x12:=x12) (x20:=some (.adr (bkEnc (mB i sh.rows)))) w nf h1 h2 hf k
  have a2:(den (.bkN 8 20 (.var 10))).t (W7 ns sch sto x4 (some (.str kd.1)) x6 x7 x9 (some (dLf k)) (some (.str f.1)) x12 x13 x14 x15 x16 (some (.adr (bkEnc (mB i sh.rows)))))=.ok (!(bkGet (mB i sh.rows) k).isSome):=by
    rw [t_bkN,bk_w7]
    show bkN (some (mB i sh.rows)) (dLf k)=_
    unfold bkN
    show R.of ((lfD (dLf k)).map fun k=> !(bkGet (mB i sh.rows) k).isSome)=_
    rw [lfD_dLf]; rfl
  have e0:turnD (tgd (.nm 10)).f (dS L_law_4) (dLf k) (W7 ns sch sto x4 (some (.str kd.1)) x6 x7 x9 x10 (some (.str f.1)) x12 x13 x14 x15 x16 (some (.adr (bkEnc (mB i sh.rows)))))=dS L_law_4 (W7 ns sch sto x4 (some (.str kd.1)) x6 x7 x9 (some (dLf k)) (some (.str f.1)) x12 x13 x14 x15 x16 (some (.adr (bkEnc (mB i sh.rows))))):=rfl
  rw [e0]
  refine seq_1 (ite_no ?_) rfl
  cases hb:(bkGet (mB i sh.rows) k).isSome with
  | true=>rw [hb] at a2; exact and_no a2
  | false =>
    rw [hb] at a2
    rw [mB_none hb] at a1
    exact and_yes a2 (by rw [t_one]; exact ne_no (x:=.lst []) a1 rfl rfl)
end
end Pu
end
section
open Hr Wk PySem
namespace Pu
def bkB:S→S
  | .bk _ _ _ _ _ _ _ b=>b
  | s=>s
theorem fr_1 {vs:List Nat} {tg:TG} {it:T} {b:S} {s s':En} {ds:List D} (h:(den it).l s=.ok ds) (h2:forD (tgd tg).f (dS b) ds s=.nx s'):dS (.fr vs tg it b) s=.nx s':=by
  rw [dS_fr,h]; exact h2
section
variable (ns:List Int) {sch:List Knd} {sto:List Shf} {x6 x9 x10 x13 x14 x15 x16:Option D} {j:Nat} {kd:Knd} {sh:Shf} {i:Nat} {f:Fld}
theorem loop3 (w : St sch sto) (nf : ∀ kd ∈ sch, (kd.2.map (·.1)).Nodup) (h1 : sch[j]? = some kd) (h2 : sto[j]? = some sh) (hf : kd.2[i]? = some f) {x4 x7 : Option D} :
    ∃ y10 y16,dS (.fr [10] (.nm 10) (.bkI 8 20) L_law_3) (W7 ns sch sto x4 (some (.str kd.1)) x6 x7 x9 x10 (some (.str f.1)) (some f.2.d) x13 x14 x15 x16 (some (.adr (bkEnc (mB i sh.rows)))))=.nx (W7 ns sch sto x4 (some (.str kd.1)) x6 x7 x9 y10 (some (.str f.1)) (some f.2.d) x13 x14 x15 y16 (some (.adr (bkEnc (mB i sh.rows))))):=by
  obtain ⟨s',h,y10,y16,rfl⟩:=forD_run (I:=fun (pre:List (Leaf×List Int)) (s:En)=>∃ y10 y16,s=W7 ns sch sto x4 (some (.str kd.1)) x6 x7 x9 y10 (some (.str f.1)) (some f.2.d) x13 x14 x15 y16 (some (.adr (bkEnc (mB i sh.rows))))) (ft:=(tgd (.nm 10)).f) (body:=dS L_law_3) (f:=fun p=>dLf p.1) (xs:=mB i sh.rows) (s:=W7 ns sch sto x4 (some (.str kd.1)) x6 x7 x9 x10 (some (.str f.1)) (some f.2.d) x13 x14 x15 x16 (some (.adr (bkEnc (mB i sh.rows))))) ⟨x10,x16,rfl⟩ fun pre p post s e ⟨y10,y16,es⟩=>by
    subst es
    obtain ⟨z16,hz⟩:=turn3 ns (x4:=x4) (x6:=x6) (x9:=x9) (x10:=y10) (x13:=x13) (x14:=x14) (x15:=x15) (x16:=y16) (x7:=x7) w nf h1 h2 hf (p:=p) (by rw [e]; simp)
    exact ⟨_,hz,_,_,rfl⟩
  refine ⟨y10,y16,fr_1 (ds:=(mB i sh.rows).map fun p=>dLf p.1) ?_ h⟩
  rw [l_bkI]
  unfold eBkI
  rw [bk_w7]; rfl
theorem loop4 (w : St sch sto) (nf : ∀ kd ∈ sch, (kd.2.map (·.1)).Nodup) (h1 : sch[j]? = some kd) (h2 : sto[j]? = some sh) (hf : kd.2[i]? = some f) {x4 x7 x12 : Option D} :
    ∃ y10,dS (.fr [10] (.nm 10) (.itI (.tup (.cons (.con (.str "none of")) (.cons (.con (.int (7777))) (.cons (.con .non) (.cons (.con (.int (99))) .nil)))))) L_law_4) (W7 ns sch sto x4 (some (.str kd.1)) x6 x7 x9 x10 (some (.str f.1)) x12 x13 x14 x15 x16 (some (.adr (bkEnc (mB i sh.rows)))))=.nx (W7 ns sch sto x4 (some (.str kd.1)) x6 x7 x9 y10 (some (.str f.1)) x12 x13 x14 x15 x16 (some (.adr (bkEnc (mB i sh.rows))))):=by
  obtain ⟨s',h,y10,rfl⟩:=forD_run (I:=fun (pre:List Leaf) (s:En)=>∃ y10,s=W7 ns sch sto x4 (some (.str kd.1)) x6 x7 x9 y10 (some (.str f.1)) x12 x13 x14 x15 x16 (some (.adr (bkEnc (mB i sh.rows))))) (ft:=(tgd (.nm 10)).f) (body:=dS L_law_4) (f:=dLf) (xs:=[.text "none of",.num 7777,.none,.num 99]) (s:=W7 ns sch sto x4 (some (.str kd.1)) x6 x7 x9 x10 (some (.str f.1)) x12 x13 x14 x15 x16 (some (.adr (bkEnc (mB i sh.rows))))) ⟨x10,rfl⟩ fun pre p post s e ⟨y10,es⟩=>by
    subst es
    exact ⟨_,turn4 ns w nf h1 h2 hf p,_,rfl⟩
  refine ⟨y10,fr_1 (ds:=([.text "none of",.num 7777,.none,.num 99]:List Leaf).map dLf) ?_ h⟩
  have m5:4≤sizeLine:=by rw [sizeLine_eq]; decide
  simp [dLf,m5,dItems]
theorem body1 (w : St sch sto) (nf : ∀ kd ∈ sch, (kd.2.map (·.1)).Nodup) (h1 : sch[j]? = some kd) (h2 : sto[j]? = some sh) (hf : kd.2[i]? = some f) {x7 : Option D} :
    ∃ y9 y10 y16,dS (bkB L_law_1) (W7 ns sch sto (some (shD sh)) (some (.str kd.1)) x6 x7 x9 x10 (some (.str f.1)) (some f.2.d) x13 x14 x15 x16 (some (.adr (bkEnc (mB i sh.rows)))))=.nx (W7 ns sch sto (some (shD sh)) (some (.str kd.1)) x6 x7 y9 y10 (some (.str f.1)) (some f.2.d) x13 x14 x15 y16 (some (.adr (bkEnc (mB i sh.rows))))):=by
  obtain ⟨y10,y16,l3⟩:=loop3 ns (x6:=x6) (x9:=some (.lst ((cnt (mB i sh.rows)).map itD))) (x10:=x10) (x13:=x13) (x14:=x14) (x15:=x15) (x16:=x16) (x4:=some (shD sh)) (x7:=x7) w nf h1 h2 hf
  obtain ⟨z10,l4⟩:=loop4 ns (x6:=x6) (x9:=some (.lst ((cnt (mB i sh.rows)).map itD))) (x10:=y10) (x13:=x13) (x14:=x14) (x15:=x15) (x16:=y16) (x4:=some (shD sh)) (x7:=x7) (x12:=some f.2.d) w nf h1 h2 hf
  have nd:=mB_nd i sh.rows
  have hz:(kd,sh)∈sch.zip sto:=zip_mem_of h1 h2
  have sc:=sub_cnt (zip_nd w) hz
  have g1:=bi1 (b:=.sum) (lc2_v ns (sch:=sch) (sto:=sto) (x4:=some (shD sh)) (x5:=some (.str kd.1)) (x6:=x6) (x7:=x7) (x10:=x10) (x11:=some (.str f.1)) (x12:=some f.2.d) (x13:=x13) (x14:=x14) (x15:=x15) (x16:=x16) (x20:=some (.adr (bkEnc (mB i sh.rows)))) (cnt (mB i sh.rows)))
  rw [sum_i7,sum_rows] at g1
  refine ⟨some (.lst ((cnt (mB i sh.rows)).map itD)),z10,y16,?_⟩
  refine seq_1 (asg_1 (told_v ns w nf h1 h2 hf) rfl) ?_
  refine seq_1 (ite_no (ne_no (x:=.lst ((cnt (mB i sh.rows)).map itD)) rfl (lc1_v ns nd) (eq_selfL (it_flat _) (by decide)))) ?_
  refine seq_1 (ite_no (ne_no g1 sc (eq_self (n:=0) rfl (by decide)))) ?_
  exact seq_1 l3 (seq_1 l4 rfl)
theorem turn1 (w : St sch sto) (nf : ∀ kd ∈ sch, (kd.2.map (·.1)).Nodup) (h1 : sch[j]? = some kd) (h2 : sto[j]? = some sh) (hf : kd.2[i]? = some f) {x7 x11 x12 : Option D} :
    ∃ y9 y10 y13 y14 y15 y16,turnD (tgd (.tp (.cons (.nm 7) (.cons (.tp (.cons (.nm 11) (.cons (.nm 12) .nil))) .nil)))).f (dS L_law_1) (.tup [.int (i:Nat),fldD f]) (W7 ns sch sto (some (shD sh)) (some (.str kd.1)) x6 x7 x9 x10 x11 x12 x13 x14 x15 x16 none)=.nx (W7 ns sch sto (some (shD sh)) (some (.str kd.1)) x6 (some (.int (i:Nat))) y9 y10 (some (.str f.1)) (some f.2.d) y13 y14 y15 y16 none):=by
  have shw:=w.wh.sh _ (zip_mem_of h1 h2)
  obtain ⟨y13,y14,y15,hr⟩:=bk_rows ns sch sto (some (shD sh)) (some (.str kd.1)) x6 x9 x10 (some (.str f.1)) (some f.2.d) x16 hf sh.rows x13 x14 x15 [] shw.val
  obtain ⟨y9,y10,y16,hb⟩:=body1 ns (x6:=x6) (x9:=x9) (x10:=x10) (x13:=y13) (x14:=y14) (x15:=y15) (x16:=x16) (x7:=some (.int (i:Nat))) w nf h1 h2 hf
  refine ⟨y9,y10,y13,y14,y15,y16,?_⟩
  have okm:=(counts_exact w nf h1 h2 hf).2
  have okm:((mB i sh.rows).all fun p=>okLf p.1)=true:=List.all_eq_true.mpr okm
  have e0:turnD (tgd (.tp (.cons (.nm 7) (.cons (.tp (.cons (.nm 11) (.cons (.nm 12) .nil))) .nil)))).f (dS L_law_1) (.tup [.int (i:Nat),fldD f]) (W7 ns sch sto (some (shD sh)) (some (.str kd.1)) x6 x7 x9 x10 x11 x12 x13 x14 x15 x16 none)=dS L_law_1 (W7 ns sch sto (some (shD sh)) (some (.str kd.1)) x6 (some (.int (i:Nat))) x9 x10 (some (.str f.1)) (some f.2.d) x13 x14 x15 x16 none):=rfl
  rw [e0]
  have e1:L_law_1=.bk 8 20 [13,14,15] (.tp (.cons (.nm 13) (.cons (.nm 14) (.cons (.nm 15) .nil)))) (.itI (.sub (.var 4) (.con (.int (1))))) (.sub (.var 15) (.var 7)) (.var 13) (bkB L_law_1):=rfl
  rw [e1,dS_bk]
  unfold sBk
  have e2:(W7 ns sch sto (some (shD sh)) (some (.str kd.1)) x6 (some (.int (i:Nat))) x9 x10 (some (.str f.1)) (some f.2.d) x13 x14 x15 x16 none).set 8 none=W7 ns sch sto (some (shD sh)) (some (.str kd.1)) x6 (some (.int (i:Nat))) x9 x10 (some (.str f.1)) (some f.2.d) x13 x14 x15 x16 none:=rfl
  have e3:(den (.itI (.sub (.var 4) (.con (.int (1)))))).l (W7 ns sch sto (some (shD sh)) (some (.str kd.1)) x6 (some (.int (i:Nat))) x9 x10 (some (.str f.1)) (some f.2.d) x13 x14 x15 x16 none)=.ok (sh.rows.map rwD):=rfl
  rw [e2,e3]
  dsimp only
  have hr':bkRun (tgd (.tp (.cons (.nm 13) (.cons (.nm 14) (.cons (.nm 15) .nil))))).f (den (.sub (.var 15) (.var 7))).v (den (.var 13)).v (sh.rows.map rwD) (W7 ns sch sto (some (shD sh)) (some (.str kd.1)) x6 (some (.int (i:Nat))) x9 x10 (some (.str f.1)) (some f.2.d) x13 x14 x15 x16 none) []=some (mB i sh.rows,W7 ns sch sto (some (shD sh)) (some (.str kd.1)) x6 (some (.int (i:Nat))) x9 x10 (some (.str f.1)) (some f.2.d) y13 y14 y15 x16 none):=hr
  rw [hr']
  dsimp only
  rw [if_pos ⟨show 8 < 22 by decide,show 20 < 22 by decide,okm⟩]
  have e4:((W7 ns sch sto (some (shD sh)) (some (.str kd.1)) x6 (some (.int (i:Nat))) x9 x10 (some (.str f.1)) (some f.2.d) y13 y14 y15 x16 none).set 8 none).set 20 (some (.adr (bkEnc (mB i sh.rows))))=W7 ns sch sto (some (shD sh)) (some (.str kd.1)) x6 (some (.int (i:Nat))) x9 x10 (some (.str f.1)) (some f.2.d) y13 y14 y15 x16 (some (.adr (bkEnc (mB i sh.rows)))):=rfl
  rw [e4,hb]
  rfl
def Q7 (ns:List Int) (sch:List Knd) (sto:List Shf) (s:En):Prop:=∃ x4 x5 x6 x7 x9 x10 x11 x12 x13 x14 x15 x16,s=W7 ns sch sto x4 x5 x6 x7 x9 x10 x11 x12 x13 x14 x15 x16 none
theorem turn0 (w : St sch sto) (nf : ∀ kd ∈ sch, (kd.2.map (·.1)).Nodup) {p : Knd × Shf} (hp : p ∈ sch.zip sto) {s : En} (hs : Q7 ns sch sto s) :
    ∃ s',turnD (tgd (.tp (.cons (.tp (.cons (.nm 5) (.cons (.nm 6) .nil))) (.cons (.nm 4) .nil)))).f (dS L_law_0) (.tup [kndD p.1,shD p.2]) s=.nx s'∧Q7 ns sch sto s':=by
  obtain ⟨kd,sh⟩:=p
  obtain ⟨j,h1,h2⟩:=zip_mem_at hp
  obtain ⟨x4,x5,x6,x7,x9,x10,x11,x12,x13,x14,x15,x16,rfl⟩:=hs
  obtain ⟨s',h,y7,y9,y10,y11,y12,y13,y14,y15,y16,rfl⟩:=forD_run (I:=fun (pre:List (Fld×Nat)) (s:En)=>∃ x7 x9 x10 x11 x12 x13 x14 x15 x16,s=W7 ns sch sto (some (shD sh)) (some (.str kd.1)) (some (.tup (kd.2.map fldD))) x7 x9 x10 x11 x12 x13 x14 x15 x16 none) (ft:=(tgd (.tp (.cons (.nm 7) (.cons (.tp (.cons (.nm 11) (.cons (.nm 12) .nil))) .nil)))).f) (body:=dS L_law_1) (f:=fun p:Fld×Nat=>D.tup [.int (p.2:Nat),fldD p.1]) (xs:=kd.2.zipIdx) (s:=W7 ns sch sto (some (shD sh)) (some (.str kd.1)) (some (.tup (kd.2.map fldD))) x7 x9 x10 x11 x12 x13 x14 x15 x16 none) ⟨x7,x9,x10,x11,x12,x13,x14,x15,x16,rfl⟩ fun pre q post s e hi=>by
    obtain ⟨x7,x9,x10,x11,x12,x13,x14,x15,x16,rfl⟩:=hi
    obtain ⟨f,i⟩:=q
    obtain ⟨y9,y10,y13,y14,y15,y16,ht⟩:=turn1 ns (x6:=some (.tup (kd.2.map fldD))) (x9:=x9) (x10:=x10) (x13:=x13) (x14:=x14) (x15:=x15) (x16:=x16) (x7:=x7) (x11:=x11) (x12:=x12) w nf h1 h2 (zipIdx_at e).2.1
    exact ⟨_,ht,_,_,_,_,_,_,_,_,_,rfl⟩
  refine ⟨_,?_,some (shD sh),some (.str kd.1),some (.tup (kd.2.map fldD)),y7,y9,y10,y11,y12,y13,y14,y15,y16,rfl⟩
  have e0:turnD (tgd (.tp (.cons (.tp (.cons (.nm 5) (.cons (.nm 6) .nil))) (.cons (.nm 4) .nil)))).f (dS L_law_0) (.tup [kndD kd,shD sh]) (W7 ns sch sto x4 x5 x6 x7 x9 x10 x11 x12 x13 x14 x15 x16 none)=dS L_law_0 (W7 ns sch sto (some (shD sh)) (some (.str kd.1)) (some (.tup (kd.2.map fldD))) x7 x9 x10 x11 x12 x13 x14 x15 x16 none):=rfl
  show turnD _ _ (.tup [kndD kd,shD sh]) _=_
  rw [e0]
  refine seq_1 (fr_1 (ds:=kd.2.zipIdx.map fun p:Fld×Nat=>D.tup [.int (p.2:Nat),fldD p.1]) ?_ h) rfl
  rw [← enumL_map]
  rfl
end
end Pu
open Pu
theorem Wk.pure_law:∀ ns:List Int,ns.length≤63→φ_law [.arr (ns.map D.int)]=.ok (.bl true):=by
  intro ns _
  obtain ⟨sch,sto,hs,ht,w,h6,hwf,hrows⟩:=draw_st ns 100 4 (by decide)
  have hs:φ__law_schema [A ns,.int 0]=.ok (schD sch):=hs
  have ht:φ__law_store [A ns,.int 100,schD sch,.int 4]=.ok (stoD sto):=ht
  have nf:=nf_of h6 hwf
  have c1:=row_counts_ok w
  have dc:=dict_cnt (zip_nd w)
  obtain ⟨s',h,hq⟩:=forD_run (I:=fun (pre:List (Knd×Shf)) (s:En)=>Q7 ns sch sto s) (ft:=(tgd (.tp (.cons (.tp (.cons (.nm 5) (.cons (.nm 6) .nil))) (.cons (.nm 4) .nil)))).f) (body:=dS L_law_0) (f:=fun p:Knd×Shf=>D.tup [kndD p.1,shD p.2]) (xs:=sch.zip sto) (s:=W7 ns sch sto none none none none none none none none none none none none none) ⟨_,_,_,_,_,_,_,_,_,_,_,_,rfl⟩ fun pre p post s e hi=>turn0 ns w nf (by rw [e]; simp) hi
  have r:dS ir_law [some (A ns),none,none,none,none,none,none,none,none,none,none,none,none,none,none,none,none,none,none,none,none,none]=.rt (.bl true):=by
    refine seq_1 (asg_1 (d:=schD sch) (s':=[some (A ns),some (schD sch),none,none,none,none,none,none,none,none,none,none,none,none,none,none,none,none,none,none,none,none]) ?_ rfl) ?_
    · rw [v_call]
      show (if [A ns,.int 0].length=2 then φ__law_schema [A ns,.int 0] else .stuck)=_
      exact (if_pos rfl).trans hs
    refine seq_1 (asg_1 (d:=stoD sto) (s':=[some (A ns),some (schD sch),some (stoD sto),none,none,none,none,none,none,none,none,none,none,none,none,none,none,none,none,none,none,none]) ?_ rfl) ?_
    · rw [v_call]
      show (if [A ns,.int 100,schD sch,.int 4].length=4 then φ__law_store [A ns,.int 100,schD sch,.int 4] else .stuck)=_
      exact (if_pos rfl).trans ht
    refine seq_1 (asg_1 (d:=moD (sch.zip sto)) (s':=W7 ns sch sto none none none none none none none none none none none none none) ?_ rfl) ?_
    · have g : (den (.call "row_counts" 2 .fz 4 φ_row_counts (.cons (.var 1) (.cons (.var 2) .nil)))).v [some (A ns), some (schD sch), some (stoD sto), none, none, none, none, none, none, none, none, none, none, none, none, none, none, none, none, none, none, none] = .ok (.lst ((sch.zip sto).map fun p => D.tup [.str p.1.1, .int (p.2.rows.length : Nat)])) := by
        rw [v_call]
        show (if [schD sch,stoD sto].length=2 then φ_row_counts [schD sch,stoD sto] else .stuck)=_
        exact (if_pos rfl).trans c1
      rw [v_dict,g]
      exact dc
    refine seq_1 (fr_1 (ds:=(sch.zip sto).map fun p:Knd×Shf=>D.tup [kndD p.1,shD p.2]) ?_ h) rfl
    rw [← zipL_map]
    rfl
  show leave .fz (dS ir_law [some (A ns),none,none,none,none,none,none,none,none,none,none,none,none,none,none,none,none,none,none,none,none,none])=_
  rw [r]; rfl
end
open PySem PySem.W PySem.Calls PyProof.Rows
theorem PySem.Challenge.cw_heldrows_k17_whole_values_counted_holds : PySem.Challenge.rw_heldrows_k17_whole_values_counted.Holds := by
  w_on; o_law
  refine HandSHeadRun.head_any (r := OpenLaw.row PySem.Challenge.rw_heldrows_k17_whole_values_counted) (q := view (OpenLaw.row PySem.Challenge.rw_heldrows_k17_whole_values_counted).prog [27]) (H := Hd.hk) (ob := Hd.ob) (M := 4000) (loose := Hd.names) (d := HandSHeadRun.topDef (OpenLaw.row PySem.Challenge.rw_heldrows_k17_whole_values_counted).prog 27) (kwd := []) Hd.ob_eq
    (by kernel_rfl) (fun s=>by kernel_rfl) Hd.run (by kernel_rfl) (by kernel_rfl) (by kernel_rfl) (by rfl) (by first | assumption | decide +kernel) (by decide +kernel) ⟨rfl,rfl,rfl,rfl,rfl,by decide +kernel⟩ ?hw ?hc
  case hw=>w_witness2
  case hc =>
    refine Hr.walk_ofH (l := PySem.Challenge.rw_heldrows_k17_whole_values_counted) (n := 63) (k := 6) (x := "script") (nn := 5) (fas := Hd.fa) (fn := Hd.fn) (fx := Hd.fx) rfl (by decide) (by kernel_rfl) ⟨rfl, by decide, by decide⟩ ?F
    intro w mg fa h K KX c G hmg0
    have hmg:mg ("law":PySem.Str)=some (.ref fa):=by
      have e : (HandSHeadRun.topDef (OpenLaw.row PySem.Challenge.rw_heldrows_k17_whole_values_counted).prog 27).name = ("law" : PySem.Str) := by kernel_rfl
      rw [← e]
      exact hmg0
    exact Wk.facts (P := (PySem.Challenge.rw_heldrows_k17_whole_values_counted).prog) (w := w) KX G hmg c Wk.pure_law
