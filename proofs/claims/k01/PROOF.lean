import PyProof.Rows.All
import Wide.All
import OpenK.AllK
import Wide.FinOn
import HandS.ForMost
import HandS.ForExc
import HandS.Defaults
import HandS.Lambda
import HandS.ExcInit
import KE.KEqNest
import HandS.TupAny
import HandS.Style
import HandS.IsInst
import HandS.Codes
import HandS.Text
import HandS.WordsDict
import HandS.WordsList
import HandS.RaiseMore
import HandS.Small
import HandS.DictTup
import HandS.More
import HandS.Exc
import HandS.ExcOwn
import HandS.DictComp
import HandS.HeadEnd
import HandS.Iter
import KE.GoesEnum
import KE.GoesEnumKw
import HandS.SortKw
import HandS.Comp
import HandS.Ends
import HandS.HeadHook2
import HandS.HeadHook3
import HandS.TryMany
import KE.DataMinMax
import KE.KExcInit
import PyProof.ExcBaseAll.LookupError
import PyProof.Rows.FactsExc_KeyError
import HandS.ExcField
import HandS.ExcIs
import HandS.SetBool
import HandS.Conv
import PyProof.InstStoreFacts
import HandS.FStr
import HandS.SetFor
import PyProof.DictUpdate
import HandS.Property
import HandS.ClsMeth
import HandS.HeadNt
import HandS.CallLocal
import PyProof.FactsAll.dict_2
import HandS.TupSets
import HandS.Star
import KE.DataMinKey
import KE.SortKeyHeap
import HandS.HeadHook4
import HandS.HeadWalk
import PyProof.ListMulRight
import HandS.ReplaceLit
import HandS.GenCall
import HandS.GenYield
import HandS.GenBody
import PyProof.GenComp
import PyProof.ForAny
import HandS.GenList
import PyProof.FactsGen
import PyProof.CollectWalk
import PyProof.MaxThree
import HandS.TryOnly
import HandS.ListItems
import PyProof.StrBlock2
import PyProof.SeqIndex
import KE.KDictZip
import HandS.SuiteRaise
import HandS.RaiseFrom
import HandS.ExcInitHot
import PyProof.CallStr
import KE.KeyNested
import PyProof.DictTable
import PySem.Challenge.RW_scopeeffect_k01_names_values_nests
import HandS.Head0
import HandS.Head1
import HandS.Head2
set_option Elab.async false
set_option linter.all false
set_option maxRecDepth 100000
set_option maxHeartbeats 4000000
section
namespace Z
open PySem PySem.Spec PyProof.Rows L2
inductive T where
 | non
 | bl (b:Bool)
 | int (i:Int)
 | str (x:Str)
 | ty (n:String)
 | ob (x:Str)
 | tup (xs:List T)
 | lst (xs:List T)
 | dct (kvs:List (Str × T))
 | ins (c:Str) (fs:List (Str × T))
 /-- a caught exception -/
 | exc (c:Str) (fs:List (Str × T))
 | cel (i:Nat)
 | fz (xs:List T)
 /-- a dict whose keys need not be texts: its keys, its values -/
 | dn (ks vs:List T)
inductive Cell where
 | dead
 | live (t:T)
 | lock (t:T)
abbrev Mem:=List Cell
abbrev Sg:=List (Option T)
abbrev Mu:=List (Option Addr)
structure Cfg where
 K:PySem.W.Frag
 ga:Str→Addr
 hid:Addr→Prop
 /-- the caught exceptions: class and dict -/
 xd:Addr→Option (Str × Addr)
 /-- the tables of code objects, with the name that each tells -/
 tb:List (Addr × Str) := []
def Cfg.gx (C:Cfg):(Str→Addr) × (Addr→Option (Str × Addr)):=(C.ga,C.xd)
theorem zbW {C C':Cfg} (h:C'.gx=C.gx):C'.ga=C.ga:=congrArg Prod.fst h
theorem ziY {C C':Cfg} (h:C'.gx=C.gx):C'.xd=C.xd:=congrArg Prod.snd h
def Av (C:Cfg) (mu:Mu) (a:Addr):Prop:=some a∉mu∧¬C.hid a
def TX (C:Cfg):Prop := ∀ n:Nat,∃b:Addr,n≤b∧C.xd b=some (("" : Str),0)
def XAt (C:Cfg) (mu:Mu) (H:Hp) (a:Addr) (c:Str) (dd:Addr):Prop:=C.xd a=some (c,dd)∨(TX C∧H a=some (exo a (C.ga c) (some dd))∧Av C mu a)
theorem TX.gx {C C':Cfg} (hg:C'.gx=C.gx) (h:TX C):TX C':=fun n=>by rw [ziY hg]; exact h n
theorem XAt.at_ {C C':Cfg} {mu mu':Mu} {H:Hp} {a dd:Addr} {c:Str} (hg:C'.gx=C.gx) (hA:∀ (a:Addr) (o:HO),H a=some o→Av C mu a→Av C' mu' a) (h:XAt C mu H a c dd):XAt C' mu' H a c dd:=by
 rcases h with h | ⟨t,h,q⟩
 ·exact .inl (by rw [ziY hg]; exact h)
 ·exact .inr ⟨t.gx hg,by rw [zbW hg]; exact h,hA _ _ h q⟩
def DnO (a:Addr) (o:Obj) (xs ys:List V):Prop := ∃ (es:Array DictEntry) (ep:Nat),o.ExactDict∧o.data = .dict es ep∧(a == sysModules)=false∧Vals xs (es.toList.map (·.key))∧Vals ys (es.toList.map (·.val))
def FL (C:Cfg) (mu:Mu) (H:Hp) (a:Addr) (vs:List V):Prop:=H a=some (.lst vs)∧Av C mu a
def FT (C:Cfg) (mu:Mu) (H:Hp) (a:Addr) (vs:List V):Prop:=
 (H a=some (.tup vs)∧Av C mu a) ∨
  ∃ (o:Obj) (its:Array Value) (n:Nat),C.K.lookup a=some o∧o.cls = .type "tuple" ∧ o.data = .seq its n∧its.size≤sizeLine∧Vals vs its.toList
def FO (C:Cfg) (mu:Mu) (H:Hp) (a:Addr) (u:HO):Prop:=Rd H a u∧Av C mu a
def FI (C:Cfg) (mu:Mu) (H:Hp) (a:Addr) (u:HO):Prop:=H a=some u∧Av C mu a
theorem FL.sq {C:Cfg} {mu:Mu} {H:Hp} {a:Addr} {vs:List V} (h:FL C mu H a vs):SqL C.K H a vs := .inl (.inl h.1)
theorem FT.sq {C:Cfg} {mu:Mu} {H:Hp} {a:Addr} {vs:List V} (h:FT C mu H a vs):SqT C.K H a vs:=by
 rcases h with h | h
 ·exact .inl (.inl h.1)
 ·exact .inr h
mutual
inductive Rep (C:Cfg) (mu:Mu) (H:Hp):T→V→Prop
 | non:Rep C mu H .non .non
 | bl (b:Bool):Rep C mu H (.bl b) (.bl b)
 | int (i:Int):Rep C mu H (.int i) (.int i)
 | str (x:Str):Rep C mu H (.str x) (.str x)
 | ty (n:String):Rep C mu H (.ty n) (.ty n)
 | ob (x:Str):Rep C mu H (.ob x) (.ref (C.ga x))
 | tup {xs:List T} {a:Addr} {vs:List V}:FT C mu H a vs→RepL C mu H xs vs→Rep C mu H (.tup xs) (.ref a)
 | lst {xs:List T} {a:Addr} {vs:List V}:FL C mu H a vs→RepL C mu H xs vs→Rep C mu H (.lst xs) (.ref a)
 | dct {kvs:List (Str × T)} {a:Addr} {ws:List (Key × V)}:FO C mu H a (.dK ws)→RepD C mu H kvs ws→Rep C mu H (.dct kvs) (.ref a)
 | ins {c:Str} {fs:List (Str × T)} {a dx:Addr} {ws:List (Str × V)}:FI C mu H a (.ins (C.ga c) dx ws)→RepF C mu H fs ws→Rep C mu H (.ins c fs) (.ref a)
 | exc {c:Str} {fs:List (Str × T)} {a dd:Addr} {ws:List (Str × V)}:XAt C mu H a c dd→H dd=some (.xd ws)→Av C mu dd→RepF C mu H fs ws→Rep C mu H (.exc c fs) (.ref a)
 | fz {xs:List T} {a:Addr} {o:Obj} {vs:List V}:H a=some (.frz o (.lst vs))∧Av C mu a→RepL C mu H xs vs→Rep C mu H (.fz xs) (.ref a)
 | dn {ks us:List T} {a:Addr} {o:Obj} {xs ys:List V}:H a=some (.frz o (.own 0))∧Av C mu a→DnO a o xs ys→RepL C mu H ks xs→RepL C mu H us ys→Rep C mu H (.dn ks us) (.ref a)
 | cel {i:Nat} {v:V}:i < mu.length→(∀ a,mu[i]?=some (some a)→v = .ref a)→Rep C mu H (.cel i) v
inductive RepL (C:Cfg) (mu:Mu) (H:Hp):List T→List V→Prop
 | nil:RepL C mu H [] []
 | cons {t:T} {v:V} {ts:List T} {vs:List V}:Rep C mu H t v→RepL C mu H ts vs→RepL C mu H (t :: ts) (v :: vs)
inductive RepD (C:Cfg) (mu:Mu) (H:Hp):List (Str × T)→List (Key × V)→Prop
 | nil:RepD C mu H [] []
 | cons {k:Str} {t:T} {v:V} {ts:List (Str × T)} {vs:List (Key × V)}:Rep C mu H t v→RepD C mu H ts vs→RepD C mu H ((k,t) :: ts) ((.inr k,v) :: vs)
inductive RepF (C:Cfg) (mu:Mu) (H:Hp):List (Str × T)→List (Str × V)→Prop
 | nil:RepF C mu H [] []
 | cons {k:Str} {t:T} {v:V} {ts:List (Str × T)} {vs:List (Str × V)}:Rep C mu H t v→RepF C mu H ts vs→RepF C mu H ((k,t) :: ts) ((k,v) :: vs)
end
def noD:HO→Bool
 | .dK _=>false
 | .tbl _=>false
 | _=>true
def noT:HO→Bool
 | .tbl _=>false
 | _=>true
def RdT (H:Hp) (a:Addr) (u:HO):Prop:=Rd H a u∧noT u=true
structure Ext (C:Cfg) (mu:Mu) (H:Hp) (mu':Mu) (H':Hp):Prop where
 len:mu.length≤mu'.length
 keep:∀ (i:Nat) (a:Addr),i < mu.length→mu'[i]?=some (some a)→mu[i]?=some (some a)
 rd:∀ (a:Addr) (u:HO),RdT H a u→some a∉mu→RdT H' a u
 obj:∀ (a:Addr) (o:HO),H a=some o→some a∉mu→noD o=true→H' a=some o
 hid:∀ (a:Addr) (o:HO),H a=some o→some a∉mu→C.hid a→H' a=some o
 own:∀ (a:Addr) (o:HO),H a=some o→some a∉mu→some a∉mu'
 ex:∀ (a:Addr) (o:HO),H a=some o→some a∉mu→∃o',H' a=some o'
theorem Rd.some_ {H:Hp} {a:Addr} {u:HO} (h:Rd H a u):∃ o,H a=some o:=by
 rcases h with h | ⟨o,h⟩
 ·exact ⟨_,h⟩
 ·exact ⟨_,h⟩
section
variable {C:Cfg} {mu mu1 mu2 mu':Mu} {H H1 H2 H':Hp} {a p:Addr} {o u:HO}
theorem Ext.refl:Ext C mu H mu H:=⟨Nat.le_refl _,fun _ _ _ h=>h,fun _ _ h _=>h,fun _ _ h _ _=>h,fun _ _ h _ _=>h,fun _ _ _ h=>h,fun _ o h _=>⟨o,h⟩⟩
theorem Ext.trans (x:Ext C mu H mu1 H1) (y:Ext C mu1 H1 mu2 H2):Ext C mu H mu2 H2 where
 len:=Nat.le_trans x.len y.len
 keep:=fun i a h q=>x.keep i a h (y.keep i a (Nat.lt_of_lt_of_le h x.len) q)
 rd:=fun a u h n=>let ⟨o,e⟩:=Rd.some_ h.1; y.rd a u (x.rd a u h n) (x.own a o e n)
 obj:=fun a o h n d=>y.obj a o (x.obj a o h n d) (x.own a o h n) d
 hid:=fun a o h n d=>y.hid a o (x.hid a o h n d) (x.own a o h n) d
 own:=fun a o h n=>let ⟨o',e⟩:=x.ex a o h n; y.own a o' e (x.own a o h n)
 ex:=fun a o h n=>let ⟨o',e⟩:=x.ex a o h n; y.ex a o' e (x.own a o h n)
theorem Ext.rx (x:Ext C mu H mu1 H1):Ext C mu H mu1 H1:=x
theorem Ext.av (x:Ext C mu H mu1 H1) (h:H a=some o) (n:Av C mu a):Av C mu1 a:=⟨x.own a o h n.1,n.2⟩
theorem Ext.avR (x:Ext C mu H mu1 H1) (h:Rd H a u) (n:Av C mu a):Av C mu1 a:=let ⟨_,e⟩:=Rd.some_ h; x.av e n
theorem Ext.cell (h:H p=none):Ext C mu H (mu ++ [some p]) (upd H p o):=by
 have k:∀ a q,H a=some q→upd H p o a=some q:=fun a q e=>by rw [upd_ne (ne_of_none e h)]; exact e
 refine ⟨by simp,fun i a hi q=>by rw [List.getElem?_append_left hi] at q; exact q,fun a u r _=>⟨?_,r.2⟩,fun a q e _ _=>k a q e,fun a q e _ _=>k a q e,fun a q e n z=>?_,fun a q e _=>⟨q,k a q e⟩⟩
 ·rcases r.1 with r | ⟨o',r⟩
  ·exact .inl (k _ _ r)
  ·exact .inr ⟨o',k _ _ r⟩
 ·rcases List.mem_append.mp z with z | z
  ·exact n z
  ·have e2:a=p:=by simpa using z
   rw [e2,h] at e; cases e
theorem Ext.lock {od:Obj} {ws:List (Key × V)} (h:H a=some (.dK ws)) (n:¬ C.hid a):Ext C mu H mu (upd H a (.frz od (.dK ws))):=by
 have k:∀ b q,H b=some q→b≠a→upd H a (.frz od (.dK ws)) b=some q:=fun b q e z=>by rw [upd_ne z]; exact e
 refine ⟨Nat.le_refl _,fun _ _ _ h=>h,fun b u r _=>⟨?_,r.2⟩,fun b q e _ d=>?_,fun b q e _ d=>?_,fun _ _ _ n=>n,fun b q e _=>?_⟩
 ·have r:=r.1
  by_cases z:b=a
  ·subst z
   rcases r with r | ⟨o',r⟩
   ·rw [h] at r; cases r; exact .inr ⟨od,upd_same⟩
   ·rw [h] at r; cases r
  ·rcases r with r | ⟨o',r⟩
   ·exact .inl (k _ _ r z)
   ·exact .inr ⟨o',k _ _ r z⟩
 ·refine k b q e fun z=>?_
  subst z; rw [h] at e; cases e; cases d
 ·exact k b q e fun z=>by subst z; exact n d
 ·by_cases z:b=a
  ·subst z; exact ⟨_,upd_same⟩
  ·exact ⟨q,k b q e z⟩
theorem XAt.mono {c:Str} {dd:Addr} (e:Ext C mu H mu' H') (h:XAt C mu H a c dd):XAt C mu' H' a c dd:=by
 rcases h with h | ⟨t,h,q⟩
 ·exact .inl h
 ·exact .inr ⟨t,e.obj _ _ h q.1 rfl,e.av h q⟩
mutual
theorem Rep.mono (e:Ext C mu H mu' H'):∀ {t:T} {v:V},Rep C mu H t v→Rep C mu' H' t v
 | _,_,.non => .non
 | _,_,.bl b => .bl b
 | _,_,.int i => .int i
 | _,_,.str x => .str x
 | _,_,.ty n => .ty n
 | _,_,.ob x => .ob x
 | _,_,.tup h r => .tup (h.elim (fun q => .inl ⟨e.obj _ _ q.1 q.2.1 rfl,e.av q.1 q.2⟩) .inr) (RepL.mono e r)
 | _,_,.lst h r => .lst ⟨e.obj _ _ h.1 h.2.1 rfl,e.av h.1 h.2⟩ (RepL.mono e r)
 | _,_,.fz h r => .fz ⟨e.obj _ _ h.1 h.2.1 rfl,e.av h.1 h.2⟩ (RepL.mono e r)
 | _,_,.dn h d r q => .dn ⟨e.obj _ _ h.1 h.2.1 rfl,e.av h.1 h.2⟩ d (RepL.mono e r) (RepL.mono e q)
 | _,_,.dct h r => .dct ⟨(e.rd _ _ ⟨h.1,rfl⟩ h.2.1).1,e.avR h.1 h.2⟩ (RepD.mono e r)
 | _,_,.ins h r => .ins ⟨e.obj _ _ h.1 h.2.1 rfl,e.av h.1 h.2⟩ (RepF.mono e r)
 | _,_,.exc hx h q r => .exc (hx.mono e) (e.obj _ _ h q.1 rfl) (e.av h q) (RepF.mono e r)
 | _,_,.cel h q => .cel (Nat.lt_of_lt_of_le h e.len) fun a k=>q a (e.keep _ a h k)
theorem RepL.mono (e:Ext C mu H mu' H'):∀ {t:List T} {v:List V},RepL C mu H t v→RepL C mu' H' t v
 | _,_,.nil => .nil
 | _,_,.cons h r => .cons (Rep.mono e h) (RepL.mono e r)
theorem RepD.mono (e:Ext C mu H mu' H'):∀ {t:List (Str × T)} {v:List (Key × V)},RepD C mu H t v→RepD C mu' H' t v
 | _,_,.nil => .nil
 | _,_,.cons h r => .cons (Rep.mono e h) (RepD.mono e r)
theorem RepF.mono (e:Ext C mu H mu' H'):∀ {t:List (Str × T)} {v:List (Str × V)},RepF C mu H t v→RepF C mu' H' t v
 | _,_,.nil => .nil
 | _,_,.cons h r => .cons (Rep.mono e h) (RepF.mono e r)
end
end
def CU (C:Cfg) (mu:Mu) (H:Hp):T→HO→Prop
 | .lst xs,.lst vs=>RepL C mu H xs vs
 | .dct kvs,.dK ws=>RepD C mu H kvs ws
 | .ins c fs,.ins A _ ws=>A=C.ga c∧RepF C mu H fs ws
 | _,_=>False
theorem CU.mono {C:Cfg} {mu mu':Mu} {H H':Hp} (e:Ext C mu H mu' H'):∀ {t:T} {u:HO},CU C mu H t u→CU C mu' H' t u:=fun {t u} h=>by
 unfold CU at h ⊢
 split at h
 ·exact RepL.mono e h
 ·exact RepD.mono e h
 ·exact ⟨h.1,RepF.mono e h.2⟩
 ·exact h.elim
def tbx:HO→Bool
 | .tbl _=>true
 | .ext _=>true
 | _=>false
def zez (o:HO):Prop := ∀ (a:Addr) (q:Str),o≠LamX.CodeO a q
theorem zfp {o:HO} (h:tbx o=false):zez o:=fun a q z=>by rw [z] at h; cases h
structure NC (T:List (Addr × Str)) (H:Hp) (a:Addr):Prop where
 tab:∀ p∈T,a≠p.1
 code:∀ o,H a=some o→zez o
theorem zfq {T:List (Addr × Str)} {H:Hp} {a:Addr} {u:HO} (t:LamX.Tabs T H) (h:H a=some u) (hu:tbx u=false):NC T H a:=by
 refine ⟨fun p hp z=>?_,fun o e=>?_⟩
 ·obtain ⟨ps,h1,_⟩:=t p hp
  subst z; rw [h] at h1; cases h1; cases hu
 ·rw [h] at e; cases e; exact zfp hu
theorem zgF {T:List (Addr × Str)} {H:Hp} {a:Addr} {o:HO} (t:LamX.Tabs T H) (n:NC T H a):LamX.Tabs T (upd H a o):=fun p hp=>by
 obtain ⟨ps,h1,h2,h3⟩:=t p hp
 refine ⟨ps,by rw [upd_ne (Ne.symm (n.tab p hp))]; exact h1,h2,fun pos cv hc=>?_⟩
 obtain ⟨c,e1,e2⟩:=h3 pos cv hc
 exact ⟨c,e1,by rw [upd_ne (fun z=>by subst z; exact n.code _ e2 _ _ rfl)]; exact e2⟩
theorem NC.upd {T:List (Addr × Str)} {H:Hp} {a b:Addr} {o:HO} (n:NC T H b) (h:b=a→zez o):NC T (upd H a o) b:=⟨n.tab,fun u e=>by
 by_cases z:b=a
 ·rw [z,upd_same] at e; cases e; exact h z
 ·rw [upd_ne z] at e; exact n.code u e⟩
theorem NC.at {T:List (Addr × Str)} {H H':Hp} {a:Addr} (n:NC T H a) (e:H' a=H a):NC T H' a:=⟨n.tab,fun u h=>n.code u (e.symm.trans h)⟩
theorem CU.tbx {C:Cfg} {mu:Mu} {H:Hp} {t:T} {u:HO} (h:CU C mu H t u):Z.tbx u=false:=by
 unfold CU at h
 split at h <;> first | exact h.elim | rfl
structure RM (C:Cfg) (mu:Mu) (M:Mem) (H:Hp):Prop where
 len:mu.length=M.length
 cell:∀ (i:Nat) (t:T),M[i]?=some (.live t)→∃a u,mu[i]?=some (some a)∧H a=some u∧CU C mu H t u
 lock:∀ (i:Nat) (t:T),M[i]?=some (.lock t)→∃a od u,mu[i]?=some (some a)∧H a=some (.frz od u)∧CU C mu H t u
 dead:∀ i:Nat,M[i]?=some .dead→mu[i]?=some none
 inj:∀ (i j:Nat) (a:Addr),mu[i]?=some (some a)→mu[j]?=some (some a)→i=j
 hid:∀ a:Addr,C.hid a→∃o,H a=some o
 nh:∀ a:Addr,some a∈mu→¬C.hid a
 tabs:LamX.Tabs C.tb H
 nht:∀ a:Addr,C.hid a→NC C.tb H a
section
variable {C:Cfg} {mu mu':Mu} {M:Mem} {H H':Hp} {p a:Addr} {u:HO} {o:HO} {t t':T} {i:Nat}
theorem RM.nil (h:∀ a:Addr,C.hid a→∃o,H a=some o) (ht:LamX.Tabs C.tb H) (hn:∀ a:Addr,C.hid a→NC C.tb H a):RM C [] [] H:=⟨rfl,fun _ _ h=>by simp at h,fun _ _ h=>by simp at h,fun _ h=>by simp at h,fun _ _ _ h=>by simp at h,h,fun _ h=>by simp at h,ht,hn⟩
theorem RM.there (R:RM C mu M H) (h:mu[i]?=some (some a)):∃ o,H a=some o:=by
 have hi:i < M.length:=by rw [← R.len]; exact (List.getElem?_eq_some_iff.mp h).1
 cases e:M[i]? with
 | none=>rw [List.getElem?_eq_none_iff] at e; omega
 | some c=>
  cases c with
  | dead=>rw [R.dead i e] at h; cases h
  | live t=>obtain ⟨b,u,h1,h2,_⟩:=R.cell i t e; rw [h] at h1; cases h1; exact ⟨_,h2⟩
  | lock t=>obtain ⟨b,od,u,h1,h2,_⟩:=R.lock i t e; rw [h] at h1; cases h1; exact ⟨_,h2⟩
theorem RM.mem (R:RM C mu M H) (h:some a∈mu):∃ o,H a=some o:=by
 obtain ⟨i,hi⟩:=List.getElem?_of_mem h
 exact R.there hi
theorem RM.nmc (R:RM C mu M H) (hm:some a∈mu):NC C.tb H a:=by
 obtain ⟨i,hi⟩:=List.getElem?_of_mem hm
 have hl:i < M.length:=by rw [← R.len]; exact (List.getElem?_eq_some_iff.mp hi).1
 cases e:M[i]? with
 | none=>rw [List.getElem?_eq_none_iff] at e; omega
 | some c=>
  cases c with
  | dead=>rw [R.dead i e] at hi; cases hi
  | live t=>
   obtain ⟨b,u,g1,g2,g3⟩:=R.cell i t e
   rw [hi] at g1; cases g1
   exact zfq R.tabs g2 g3.tbx
  | lock t=>
   obtain ⟨b,od,u,g1,g2,_⟩:=R.lock i t e
   rw [hi] at g1; cases g1
   exact zfq R.tabs g2 rfl
theorem RM.keep (R:RM C mu M H) (e:Ext C mu H mu H') (k:∀ a o,some a∈mu→H a=some o→H' a=some o) (kt:LamX.Tabs C.tb H') (kn:∀ a:Addr,C.hid a→NC C.tb H' a):RM C mu M H':=
 ⟨R.len,fun i t h=>let ⟨a,u,h1,h2,h3⟩:=R.cell i t h; ⟨a,u,h1,k a u (List.mem_of_getElem? h1) h2,h3.mono e⟩,
  fun i t h=>let ⟨a,od,u,h1,h2,h3⟩:=R.lock i t h; ⟨a,od,u,h1,k a _ (List.mem_of_getElem? h1) h2,h3.mono e⟩,R.dead,R.inj,
  fun a h=>let ⟨o,q⟩:=R.hid a h; ⟨o,e.hid a o q (fun z=>R.nh a z h) h⟩,R.nh,kt,kn⟩
end
structure RS (C:Cfg) (mu:Mu) (H:Hp) (s:Sg) (σ : L2.St):Prop where
 len:s.length = σ.length
 at_:∀ (i:Nat) (t:T),s[i]?=some (some t)→∃v,σ[i]?=some (some v)∧Rep C mu H t v
theorem RS.mono {C:Cfg} {mu mu':Mu} {H H':Hp} {s:Sg} {σ : L2.St} (R:RS C mu H s σ) (e:Ext C mu H mu' H'):RS C mu' H' s σ :=
 ⟨R.len,fun i t h=>let ⟨v,a,b⟩:=R.at_ i t h; ⟨v,a,b.mono e⟩⟩
theorem RS.set {C:Cfg} {mu:Mu} {H:Hp} {s:Sg} {σ : L2.St} {t:T} {v:V} (R:RS C mu H s σ) (i:Nat) (r:Rep C mu H t v):RS C mu H (s.set i (some t)) (σ.set i (some v)):=by
 refine ⟨by simpa using R.len,fun j t2 h=>?_⟩
 by_cases hj:j=i
 ·subst hj
  have hl:j < s.length:=by
   have:=(List.getElem?_eq_some_iff.mp h).1
   simpa using this
  rw [List.getElem?_set_self hl] at h
  cases h
  exact ⟨v,by rw [List.getElem?_set_self (by rw [← R.len]; exact hl)],r⟩
 ·rw [List.getElem?_set_ne (Ne.symm hj)] at h ⊢
  exact R.at_ j t2 h
structure Er where
 cls:Str
 fs:List (Str × T)
inductive Out (α : Type) where
 | ok (a : α) (M:Mem)
 | er (e:Er) (M:Mem)
 | no
def Out.bind {α β : Type} (o:Out α) (f : α → Mem→Out β):Out β := match o with
 | .ok a M=>f a M
 | .er e M => .er e M
 | .no => .no
inductive OutS where
 | nx (s:Sg) (M:Mem)
 | rt (t:T) (M:Mem)
 | bk (s:Sg) (M:Mem)
 | ct (s:Sg) (M:Mem)
 | er (e:Er) (s:Sg) (M:Mem)
 | no
def RepE (C:Cfg) (mu:Mu) (H:Hp) (e:Er) (c:Value) (d:Option Addr):Prop:=
 c = .ref (C.ga e.cls)∧∃a ws,d=some a∧H a=some (.xd ws)∧Av C mu a∧RepF C mu H e.fs ws
theorem RepE.mono {C:Cfg} {mu mu':Mu} {H H':Hp} {e:Er} {c:Value} {d:Option Addr} (h:RepE C mu H e c d) (x:Ext C mu H mu' H'):RepE C mu' H' e c d:=by
 obtain ⟨h1,a,ws,h2,h3,h4,h5⟩:=h
 exact ⟨h1,a,ws,h2,x.obj _ _ h3 h4.1 rfl,x.av h3 h4,h5.mono x.rx⟩
def Post {α β : Type} (C:Cfg) (mu:Mu) (H:Hp) (o:Out α) (Rel:Mu→Hp → α → β → Prop) (kO : β → Hp→Prop) (kE:XK):Prop:=match o with
 | .ok a M' => ∀ mu' b H',RM C mu' M' H'→Ext C mu H mu' H'→Rel mu' H' a b→kO b H'
 | .er e M' => ∀ mu' c d H',RM C mu' M' H'→Ext C mu H mu' H'→RepE C mu' H' e c d→kE c d H'
 | .no=>False
section
variable {α β γ δ : Type} {C:Cfg} {mu mu1:Mu} {H H1:Hp} {o:Out α} {Rel:Mu→Hp → α → β → Prop} {kO : β → Hp→Prop} {kE:XK}
theorem Post.ext (h:Post C mu H o Rel kO kE) (x:Ext C mu H mu1 H1):Post C mu1 H1 o Rel kO kE:=by
 cases o with
 | ok a M=>exact fun mu' b H' r e q=>h mu' b H' r (x.trans e) q
 | er e M=>exact fun mu' c d H' r e q=>h mu' c d H' r (x.trans e) q
 | no=>exact h
theorem Post.bind {f : α → Mem→Out γ} {Rel2:Mu→Hp → γ → δ → Prop} {kO2 : δ → Hp→Prop} (h:Post C mu H (o.bind f) Rel2 kO2 kE)
  (step:∀ a M1 mu1 b H1,RM C mu1 M1 H1→Ext C mu H mu1 H1→Rel mu1 H1 a b→Post C mu1 H1 (f a M1) Rel2 kO2 kE→kO b H1):Post C mu H o Rel kO kE:=by
 cases o with
 | ok a M=>exact fun mu' b H' r e q=>step a M mu' b H' r e q (Post.ext h e)
 | er e M=>exact h
 | no=>exact h
theorem Post.imp {kO' : β → Hp→Prop} {kE':XK} (h:Post C mu H o Rel kO kE) (h1:∀ b H',kO b H'→kO' b H') (h2:∀ c d H',kE c d H'→kE' c d H'):Post C mu H o Rel kO' kE':=by
 cases o with
 | ok a M=>exact fun mu' b H' r e q=>h1 _ _ (h mu' b H' r e q)
 | er e M=>exact fun mu' c d H' r e q=>h2 _ _ _ (h mu' c d H' r e q)
 | no=>exact h
end
abbrev RV (C:Cfg):Mu→Hp→T→V→Prop:=fun mu H t v=>Rep C mu H t v
def PostS (C:Cfg) (mu:Mu) (H:Hp) (o:OutS) (D:Ends) (W:WX):Prop:=match o with
 | .nx s M => ∀ mu' σ' H',RM C mu' M H'→Ext C mu H mu' H'→RS C mu' H' s σ'→D.nx σ' H'
 | .rt t M => ∀ mu' v H',RM C mu' M H'→Ext C mu H mu' H'→Rep C mu' H' t v→D.rt v H'
 | .bk s M => ∀ mu' σ' H',RM C mu' M H'→Ext C mu H mu' H'→RS C mu' H' s σ'→D.bk σ' H'
 | .ct s M => ∀ mu' σ' H',RM C mu' M H'→Ext C mu H mu' H'→RS C mu' H' s σ'→D.ct σ' H'
 | .er e s M => ∀ mu' σ' c d H',RM C mu' M H'→Ext C mu H mu' H'→RS C mu' H' s σ'→RepE C mu' H' e c d→W c d σ' H'
 | .no=>False
theorem PostS.ext {C:Cfg} {mu mu1:Mu} {H H1:Hp} {o:OutS} {D:Ends} {W:WX} (h:PostS C mu H o D W) (x:Ext C mu H mu1 H1):PostS C mu1 H1 o D W:=by
 cases o with
 | nx s M=>exact fun mu' σ' H' r e q=>h mu' σ' H' r (x.trans e) q
 | rt t M=>exact fun mu' v H' r e q=>h mu' v H' r (x.trans e) q
 | bk s M=>exact fun mu' σ' H' r e q=>h mu' σ' H' r (x.trans e) q
 | ct s M=>exact fun mu' σ' H' r e q=>h mu' σ' H' r (x.trans e) q
 | er e s M=>exact fun mu' σ' c d H' r e q z=>h mu' σ' c d H' r (x.trans e) q z
 | no=>exact h
abbrev DE:=Sg→Mem→Out T
abbrev DA:=Sg→Mem→Out (List T)
abbrev DT:=Sg→Mem→Out Bool
abbrev DS:=Sg→Mem→OutS
def TEz (C:Cfg) (W:WX) (d:DE):TE:=fun σ H Q => ∃ mu s M,RM C mu M H∧RS C mu H s σ ∧ Post C mu H (d s M) (RV C) Q fun c dd H'=>W c dd σ H'
end Z
end
section
namespace Z
open PySem PySem.Spec PyProof.Rows L2
section
variable {C:Cfg} {mu:Mu} {M:Mem} {H:Hp} {t:T} {v:V}
end
theorem RepL.length {C:Cfg} {mu:Mu} {H:Hp}:∀ {xs:List T} {vs:List V},RepL C mu H xs vs→xs.length=vs.length
 | _,_,.nil=>rfl
 | _,_,.cons _ r=>congrArg Nat.succ r.length
theorem RepD.length {C:Cfg} {mu:Mu} {H:Hp}:∀ {xs:List (Str × T)} {vs:List (Key × V)},RepD C mu H xs vs→xs.length=vs.length
 | _,_,.nil=>rfl
 | _,_,.cons _ r=>congrArg Nat.succ r.length
theorem RepL.get {C:Cfg} {mu:Mu} {H:Hp}:∀ {xs:List T} {vs:List V} {i:Nat} {t:T},RepL C mu H xs vs→xs[i]?=some t→∃v,vs[i]?=some v∧Rep C mu H t v
 | _,_,_,_,.nil,e=>by simp at e
 | _,_,0,_,.cons h _,e=>by simp at e; subst e; exact ⟨_,rfl,h⟩
 | _,_,i + 1,_,.cons _ r,e=>by
  obtain ⟨v,h1,h2⟩:=RepL.get (i:=i) r (by simpa using e)
  exact ⟨v,by simpa using h1,h2⟩
theorem RepL.take {C:Cfg} {mu:Mu} {H:Hp}:∀ {xs:List T} {vs:List V} (n:Nat),RepL C mu H xs vs→RepL C mu H (xs.take n) (vs.take n)
 | _,_,0,_ => .nil
 | _,_,_ + 1,.nil => .nil
 | _,_,n + 1,.cons h r => .cons h (r.take n)
theorem RepL.set {C:Cfg} {mu:Mu} {H:Hp} {t:T} {v:V} (h:Rep C mu H t v):∀ {xs:List T} {vs:List V} (i:Nat),RepL C mu H xs vs→RepL C mu H (xs.set i t) (vs.set i v)
 | _,_,_,.nil => .nil
 | _,_,0,.cons _ r => .cons h r
 | _,_,i + 1,.cons q r => .cons q (RepL.set h i r)
section
variable {C:Cfg} {X:Cx} {W:WX}
end
end Z
end
section
namespace Z
open PySem PySem.Spec PyProof.Rows L2
inductive RDV (C:Cfg) (mu:Mu) (H:Hp):List (Str × T)→List (Key × Value)→Prop
 | nil:RDV C mu H [] []
 | cons {k:Str} {t:T} {x:V} {v:Value} {ks:List (Str × T)} {vs:List (Key × Value)}:Rep C mu H t x→RelV x v→RDV C mu H ks vs→RDV C mu H ((k,t) :: ks) ((.inr k,v) :: vs)
section
variable {C:Cfg} {mu:Mu} {H:Hp}
theorem RDV.length:∀ {ks:List (Str × T)} {vs:List (Key × Value)},RDV C mu H ks vs→ks.length=vs.length
 | _,_,.nil=>rfl
 | _,_,.cons _ _ r=>congrArg Nat.succ r.length
theorem RDV.mem {p:Key × Value}:∀ {ks:List (Str × T)} {vs:List (Key × Value)},RDV C mu H ks vs→p∈vs→∃k t x,(k,t)∈ks∧p.1 = .inr k∧Rep C mu H t x∧RelV x p.2
 | _,_,.nil,h=>by simp at h
 | _,_,@RDV.cons _ _ _ k' t x v ks vs q1 q2 r,h=>by
  rcases List.mem_cons.mp h with rfl | h
  ·exact ⟨k',t,x,by simp,rfl,q1,q2⟩
  ·obtain ⟨k,t,x,a,b⟩:=r.mem h
   exact ⟨k,t,x,List.mem_cons_of_mem _ a,b⟩
theorem RepL.vals {C:Cfg} {mu:Mu} {H:Hp} {xs:List T} {vs:List V} {us:List Value} {j:Nat} {u:Value} (r:RepL C mu H xs vs) (q:Vals vs us) (h:us[j]?=some u):∃ t v,xs[j]?=some t∧vs[j]?=some v∧Rep C mu H t v∧RelV v u:=by
 have hj:j < xs.length:=by rw [r.length,q.length]; exact (List.getElem?_eq_some_iff.mp h).1
 obtain ⟨v,hv,rv⟩:=r.get (List.getElem?_eq_getElem hj)
 obtain ⟨u',hu,ru⟩:=q.get hv
 rw [h] at hu; cases hu
 exact ⟨_,v,List.getElem?_eq_getElem hj,hv,rv,ru⟩
end
section
variable {X:Cx} {C:Cfg} {mu:Mu} {pins:List (Addr × Obj)} {σ : L2.St} {H:Hp} {s:Shared}
theorem FL.heap {a:Addr} {vs:List V} (I:Inv X pins σ H s) (h:FL C mu H a vs):∃ its:List Value,Vals vs its∧s.heap.IsList a its.toArray∧vs.length≤sizeLine:=by
 obtain ⟨its,r,p,z⟩:=I.list (X:=X) (.inl (.inl h.1))
 exact ⟨its,r,p.isList,z⟩
theorem FT.heap {a:Addr} {vs:List V} (hK:C.K=X.K) (I:Inv X pins σ H s) (h:FT C mu H a vs):∃ its:List Value,Vals vs its∧IsTup s.heap a its.toArray∧vs.length≤sizeLine:=by
 have q:=h.sq
 rw [hK] at q
 exact I.tuple q
end
end Z
end
section
namespace Z
open PySem PySem.Spec PyProof.Rows L2 PySem.SeqAt
open PySem.W (EqTree)
def EqC (dd:Bool) (P:Program) (w:World) (s:Shared) (n:Nat) (v y:Value) (b:Bool):Prop:=match dd with
 | true=>EqTree P w s n v y b
 | false => ∀ A:Around,A.units + n < cLine→EqAt A s v y b
section
variable {dd:Bool} {P:Program} {w:World} {s:Shared} {n:Nat} {v y:Value} {b:Bool}
theorem EqC.run (h:EqC dd P w s n v y b) {A:Around} (hu:A.units + n < cLine):EqIn P w A s v y b:=by
 cases dd with
 | true=>exact EqTree.at h A hu
 | false=>exact EqAt.inModel (h A hu) P w
end
section
variable {X:Cx} {C:Cfg} {mu:Mu} {pins:List (Addr × Obj)} {σ : L2.St} {H:Hp} {s:Shared}
end
end Z
end
section
namespace Z
open PySem PySem.Spec PyProof.Rows L2
def LIM:Nat:=16777216
theorem zbC:LIM=sizeLine:=by rw [sizeLine_eq]; rfl
def mk (m:Bool) (t:T) (M:Mem):T × Mem:=match m with
 | true=>(.cel M.length,M ++ [.live t])
 | false=>(t,M)
section
variable {C:Cfg} {mu:Mu} {M:Mem} {H:Hp} {t:T} {v:V} {p:Addr} {u:HO}
end
section
variable {X:Cx} {C:Cfg}
end
end Z
end
section
namespace Z
open PySem PySem.Spec PyProof.Rows L2 PySem.SeqAt
open PySem.W (EqTree)
section
variable {X:Cx} {C:Cfg} {W:WX} {mu:Mu} {M:Mem} {H:Hp}
def pr (M:Mem) (o:Option T):Option (T × Mem):=match o with
 | some t=>some (t,M)
 | none=>none
end
end Z
end
section
namespace Z
open PySem PySem.Spec PyProof.Rows L2 PySem.SeqAt
abbrev OpM:=T→List T→Mem→Option (T × Mem)
section
variable {X:Cx} {C:Cfg} {W:WX} {mu:Mu} {M M':Mem} {H:Hp} {t':T} {Q:VK}
end
end Z
end
section
namespace Z
open PySem PySem.Spec PyProof.Rows L2 PySem.SeqAt
mutual
def zal:T→Bool
 | .cel _=>false
 | .tup xs=>zau xs
 | .lst xs=>zau xs
 | .fz xs=>zau xs
 | .dn ks us=>zau ks && zau us
 | .dct ks=>za4 ks
 | .ins _ fs=>za4 fs
 | .exc _ fs=>za4 fs
 | _=>true
def zau:List T→Bool
 | []=>true
 | t :: r=>zal t && zau r
def za4:List (Str × T)→Bool
 | []=>true
 | p :: r=>zal p.2 && za4 r
end
section
variable {C C':Cfg} {mu mu':Mu} {H:Hp}
theorem Av.chg (hA:∀ (a:Addr) (o:HO),H a=some o→Av C mu a→Av C' mu' a) {a:Addr} {u:HO} (h:Rd H a u) (n:Av C mu a):Av C' mu' a:=by
 obtain ⟨o,e⟩:=Rd.some_ h
 exact hA a o e n
mutual
theorem Rep.pure (hK:C'.K=C.K) (hg:C'.gx=C.gx) (hA:∀ (a:Addr) (o:HO),H a=some o→Av C mu a→Av C' mu' a):∀ {t:T} {v:V},zal t=true→Rep C mu H t v→Rep C' mu' H t v
 | _,_,_,.non => .non
 | _,_,_,.bl b => .bl b
 | _,_,_,.int i => .int i
 | _,_,_,.str x => .str x
 | _,_,_,.ty n => .ty n
 | _,_,_,.ob x=>by rw [← zbW hg]; exact .ob x
 | _,_,n,.tup h r => .tup (by
   rcases h with h | h
   ·exact .inl ⟨h.1,hA _ _ h.1 h.2⟩
   ·rw [← hK] at h; exact .inr h) (RepL.pure hK hg hA n r)
 | _,_,n,.lst h r => .lst ⟨h.1,hA _ _ h.1 h.2⟩ (RepL.pure hK hg hA n r)
 | _,_,n,.fz h r => .fz ⟨h.1,hA _ _ h.1 h.2⟩ (RepL.pure hK hg hA n r)
 | _,_,n,.dn h d r q => .dn ⟨h.1,hA _ _ h.1 h.2⟩ d (RepL.pure hK hg hA (Bool.and_eq_true_iff.mp n).1 r) (RepL.pure hK hg hA (Bool.and_eq_true_iff.mp n).2 q)
 | _,_,n,.dct h r => .dct ⟨h.1,Av.chg hA h.1 h.2⟩ (RepD.pure hK hg hA n r)
 | _,_,n,.ins h r => .ins (by rw [zbW hg]; exact ⟨h.1,hA _ _ h.1 h.2⟩) (RepF.pure hK hg hA n r)
 | _,_,n,.exc hx h q r => .exc (hx.at_ hg hA) h (hA _ _ h q) (RepF.pure hK hg hA n r)
theorem RepL.pure (hK:C'.K=C.K) (hg:C'.gx=C.gx) (hA:∀ (a:Addr) (o:HO),H a=some o→Av C mu a→Av C' mu' a):∀ {t:List T} {v:List V},zau t=true→RepL C mu H t v→RepL C' mu' H t v
 | _,_,_,.nil => .nil
 | _,_,n,.cons h r=>by
  have n':=Bool.and_eq_true_iff.mp n
  exact .cons (Rep.pure hK hg hA n'.1 h) (RepL.pure hK hg hA n'.2 r)
theorem RepD.pure (hK:C'.K=C.K) (hg:C'.gx=C.gx) (hA:∀ (a:Addr) (o:HO),H a=some o→Av C mu a→Av C' mu' a):∀ {t:List (Str × T)} {v:List (Key × V)},za4 t=true→RepD C mu H t v→RepD C' mu' H t v
 | _,_,_,.nil => .nil
 | _,_,n,.cons h r=>by
  have n':=Bool.and_eq_true_iff.mp n
  exact .cons (Rep.pure hK hg hA n'.1 h) (RepD.pure hK hg hA n'.2 r)
theorem RepF.pure (hK:C'.K=C.K) (hg:C'.gx=C.gx) (hA:∀ (a:Addr) (o:HO),H a=some o→Av C mu a→Av C' mu' a):∀ {t:List (Str × T)} {v:List (Str × V)},za4 t=true→RepF C mu H t v→RepF C' mu' H t v
 | _,_,_,.nil => .nil
 | _,_,n,.cons h r=>by
  have n':=Bool.and_eq_true_iff.mp n
  exact .cons (Rep.pure hK hg hA n'.1 h) (RepF.pure hK hg hA n'.2 r)
end
mutual
theorem Rep.hide (hK:C'.K=C.K) (hg:C'.gx=C.gx) (hA:∀ (a:Addr) (o:HO),H a=some o→Av C mu a→Av C' mu a):∀ {t:T} {v:V},Rep C mu H t v→Rep C' mu H t v
 | _,_,.non => .non
 | _,_,.bl b => .bl b
 | _,_,.int i => .int i
 | _,_,.str x => .str x
 | _,_,.ty n => .ty n
 | _,_,.ob x=>by rw [← zbW hg]; exact .ob x
 | _,_,.tup h r => .tup (by
   rcases h with h | h
   ·exact .inl ⟨h.1,hA _ _ h.1 h.2⟩
   ·rw [← hK] at h; exact .inr h) (RepL.hide hK hg hA r)
 | _,_,.lst h r => .lst ⟨h.1,hA _ _ h.1 h.2⟩ (RepL.hide hK hg hA r)
 | _,_,.fz h r => .fz ⟨h.1,hA _ _ h.1 h.2⟩ (RepL.hide hK hg hA r)
 | _,_,.dn h d r q => .dn ⟨h.1,hA _ _ h.1 h.2⟩ d (RepL.hide hK hg hA r) (RepL.hide hK hg hA q)
 | _,_,.dct h r => .dct ⟨h.1,Av.chg hA h.1 h.2⟩ (RepD.hide hK hg hA r)
 | _,_,.ins h r => .ins (by rw [zbW hg]; exact ⟨h.1,hA _ _ h.1 h.2⟩) (RepF.hide hK hg hA r)
 | _,_,.exc hx h q r => .exc (hx.at_ hg hA) h (hA _ _ h q) (RepF.hide hK hg hA r)
 | _,_,.cel h q => .cel h q
theorem RepL.hide (hK:C'.K=C.K) (hg:C'.gx=C.gx) (hA:∀ (a:Addr) (o:HO),H a=some o→Av C mu a→Av C' mu a):∀ {t:List T} {v:List V},RepL C mu H t v→RepL C' mu H t v
 | _,_,.nil => .nil
 | _,_,.cons h r => .cons (Rep.hide hK hg hA h) (RepL.hide hK hg hA r)
theorem RepD.hide (hK:C'.K=C.K) (hg:C'.gx=C.gx) (hA:∀ (a:Addr) (o:HO),H a=some o→Av C mu a→Av C' mu a):∀ {t:List (Str × T)} {v:List (Key × V)},RepD C mu H t v→RepD C' mu H t v
 | _,_,.nil => .nil
 | _,_,.cons h r => .cons (Rep.hide hK hg hA h) (RepD.hide hK hg hA r)
theorem RepF.hide (hK:C'.K=C.K) (hg:C'.gx=C.gx) (hA:∀ (a:Addr) (o:HO),H a=some o→Av C mu a→Av C' mu a):∀ {t:List (Str × T)} {v:List (Str × V)},RepF C mu H t v→RepF C' mu H t v
 | _,_,.nil => .nil
 | _,_,.cons h r => .cons (Rep.hide hK hg hA h) (RepF.hide hK hg hA r)
end
end
section
variable {C:Cfg} {mu:Mu} {M:Mem} {H:Hp}
def zdq (f:T→Mem→Option (T × Mem)):List T→Mem→Option (List T × Mem)
 | [],M=>some ([],M)
 | t :: r,M=>match f t M with
  | some (t',M1)=>(match zdq f r M1 with
   | some (r',M2)=>some (t' :: r',M2)
   | none=>none)
  | none=>none
def zb7 (f:T→Mem→Option (T × Mem)):List (Str × T)→Mem→Option (List (Str × T) × Mem)
 | [],M=>some ([],M)
 | p :: r,M=>match f p.2 M with
  | some (t',M1)=>(match zb7 f r M1 with
   | some (r',M2)=>some ((p.1,t') :: r',M2)
   | none=>none)
  | none=>none
def frz:Nat→T→Mem→Option (T × Mem)
 | 0,_,_=>none
 | n + 1,t,M=>match t with
  | .cel i=>(match M[i]? with
   | some (.live u)=>(match u with
    | .cel _=>none
    | .tup _=>none
    | u=>frz n u (M.set i .dead))
   | _=>none)
  | .lst xs=>(zdq (frz n) xs M).map fun p=>(.lst p.1,p.2)
  | .tup xs=>(zdq (frz n) xs M).map fun p=>(.tup p.1,p.2)
  | .dct ks=>(zb7 (frz n) ks M).map fun p=>(.dct p.1,p.2)
  | .ins c fs=>(zb7 (frz n) fs M).map fun p=>(.ins c p.1,p.2)
  | .exc c fs=>(zb7 (frz n) fs M).map fun p=>(.exc c p.1,p.2)
  | t=>some (t,M)
end
section
variable {C:Cfg} {X:Cx} {W:WX}
end
end Z
end
section
namespace Z
open PySem PySem.Spec PyProof.Rows L2 PySem.SeqAt
structure FnG (P:Program) (w:World) (K:PySem.W.Frag) (mg:Str→Option Value) (base:Heap) (CX:CXT) (k:Nat) (f:Addr) (fd:FuncData) (ps:List Str) (sp:Sp):Prop where
 len:∀ vs H Q E,sp vs H Q E→vs.length=ps.length
 run:∀ (A:Around) (outer:List Env) (s:Shared) (H:Hp) (args:Args) (us:List Value) (vs:List V) (Q:VK) (E:XK),Room k A→A.guards=some []→Env0 P w K mg base A outer s H→BindsTo s fd args (ps.zip us)→Vals vs us→sp vs H Q E →
  codeAny (model P w) A (.call (.ref f) args) (CR CX outer P w H s Q E) s
theorem FnG.mono {P:Program} {w:World} {K:PySem.W.Frag} {mg:Str→Option Value} {base:Heap} {CX:CXT} {j k:Nat} {f:Addr} {fd:FuncData} {ps:List Str} {sp:Sp} (F:FnG P w K mg base CX j f fd ps sp) (h:j≤k):FnG P w K mg base CX k f fd ps sp:=
 ⟨F.len,fun A outer s H args us vs Q E hr=>F.run A outer s H args us vs Q E (hr.mono h)⟩
section
variable {X:Cx} {CX:CXT} {k:Nat} {f:Addr} {fd:FuncData} {ps:List Str} {sp:Sp} {ds:List Value} {dvs:List V}
end
abbrev DF:=List T→Mem→Out T
abbrev Cfg.with (C:Cfg) (hid:Addr→Prop):Cfg:=⟨C.K,C.ga,hid,C.xd,C.tb⟩
section
variable {C:Cfg} {mu:Mu} {M:Mem} {H:Hp} {n:Nat} {F:DF} {Q:VK} {E:XK}
end
section
variable {X:Cx} {C:Cfg} {W:WX} {CX:CXT} {k n:Nat} {f:Addr} {fd:FuncData} {ps:List Str} {F:DF} {ds:List Value} {dvs:List V} {dts:List T} {x:Str} {p pos:Pos} {es:List Expr} {da:DA}
end
section
variable {X:Cx} {C:Cfg} {W:WX} {name:Str} {apos cpos:Pos} {ty id:String} {g:OpM} {o:Expr} {es:List Expr} {d:DE} {da:DA}
end
end Z
end
section
namespace Z
open PySem PySem.Spec PyProof.Rows L2 PySem.SeqAt
def Out.toS {α : Type} (o:Out α) (s:Sg) (f : α → Mem→OutS):OutS:=match o with
 | .ok a M=>f a M
 | .er e M => .er e s M
 | .no => .no
section
variable {α β : Type} {C:Cfg} {mu:Mu} {H:Hp} {o:Out α} {Rel:Mu→Hp → α → β → Prop} {kO : β → Hp→Prop} {D:Ends} {W:WX} {s:Sg} {σ : L2.St} {f : α → Mem→OutS}
theorem PostS.bind (h:PostS C mu H (o.toS s f) D W) (S:RS C mu H s σ) (step:∀ a M1 mu1 b H1,RM C mu1 M1 H1→Ext C mu H mu1 H1→Rel mu1 H1 a b→PostS C mu1 H1 (f a M1) D W→kO b H1) :
  Post C mu H o Rel kO (fun c dd H'=>W c dd σ H'):=by
 cases o with
 | ok a M=>exact fun mu' b H' r e q=>step a M mu' b H' r e q (PostS.ext h e)
 | er e M=>exact fun mu' c d H' r x q=>h mu' σ c d H' r x (S.mono x) q
 | no=>exact h
end
section
variable {X:Cx} {C:Cfg} {W:WX} {pos:Pos}
end
end Z
end
section
namespace Z
open PySem PySem.Spec PyProof.Rows L2 PySem.SeqAt
def WkZ (C:Cfg) (mu:Mu) (H:Hp) (ts:List T) (J:It):Prop := ∀ (i:Nat) (mu2:Mu) (M2:Mem) (H2:Hp),RM C mu2 M2 H2→Ext C mu H mu2 H2 →
 (i < ts.length→J.go i H2∧∀x H3,J.yld i H2 x H3→∃t,ts[i]?=some t∧RM C mu2 M2 H3∧Ext C mu2 H2 mu2 H3∧Rep C mu2 H3 t x)∧(i=ts.length→J.stop i H2)
def WkA (C:Cfg) (mu:Mu) (H:Hp) (ts:List T) (J:It):Prop := ∀ hid:Addr→Prop,(∀ (a:Addr) (o:HO),H a=some o→Av C mu a→Av (C.with hid) mu a)→WkZ (C.with hid) mu H ts J
section
variable {C:Cfg} {mu mu':Mu} {M:Mem} {H H':Hp} {ts:List T} {a:Addr} {vs:List V}
theorem RepD.at_:∀ {ks:List (Str × T)} {ws:List (Key × V)} {i:Nat} {k:Key} {v:V},RepD C mu H ks ws→ws[i]?=some (k,v)→∃k' t,ks[i]?=some (k',t)∧k = .inr k'∧Rep C mu H t v
 | _,_,_,_,_,.nil,e=>by simp at e
 | _,_,0,_,_,.cons h _,e=>by simp at e; obtain ⟨rfl,rfl⟩:=e; exact ⟨_,_,rfl,rfl,h⟩
 | _,_,i + 1,_,_,.cons _ r,e=>by
  obtain ⟨k',t,h1,h2,h3⟩:=RepD.at_ (i:=i) r (by simpa using e)
  exact ⟨k',t,by simpa using h1,h2,h3⟩
end
section
variable {X:Cx} {C:Cfg} {W:WX} {tg:Expr}
end
end Z
end
section
namespace Z
open PySem PySem.Spec PyProof.Rows L2 PySem.SeqAt
section
variable {prog:Program} {w:World} {A:Around} {E:Value→Shared→Prop} {s:Shared}
end
section
variable {C:Cfg} {mu:Mu} {H:Hp} {ts:List T} {a:Addr} {vs:List V}
end
section
variable {X:Cx} {C:Cfg} {W:WX} {elts:List Expr} {kk:Nat} {tpos:Pos}
abbrev DG:=T→Sg→Option Sg
end
end Z
end
section
namespace Z
open PySem PySem.Spec PyProof.Rows L2 PySem.SeqAt
section
variable {C:Cfg} {mu mu':Mu} {M:Mem} {H H':Hp} {D:Addr} {o:HO}
theorem CU.hide {C':Cfg} (hK:C'.K=C.K) (hg:C'.gx=C.gx) (hA:∀ (a:Addr) (o:HO),H a=some o→Av C mu a→Av C' mu a):∀ {t:T} {u:HO},CU C mu H t u→CU C' mu H t u:=fun {t u} h=>by
 unfold CU at h ⊢
 split at h
 ·exact RepL.hide (C:=C) (C':=C') hK hg hA h
 ·exact RepD.hide (C:=C) (C':=C') hK hg hA h
 ·exact ⟨by rw [zbW hg]; exact h.1,RepF.hide (C:=C) (C':=C') hK hg hA h.2⟩
 ·exact h.elim
theorem zcS (hh:C.hid D) {a:Addr} {q:HO} (h:H a=some q) (n:Av C mu a):upd H D o a=some q:=by rw [upd_ne (fun z=>n.2 (by rw [z]; exact hh))]; exact h
theorem zmZ (hh:C.hid D) {a:Addr} {q:HO} (h:Rd H a q) (n:Av C mu a):Rd (upd H D o) a q:=by
 rcases h with h | ⟨x,h⟩
 ·exact .inl (zcS hh h n)
 ·exact .inr ⟨x,zcS hh h n⟩
mutual
theorem Rep.updH (hh:C.hid D):∀ {t:T} {v:V},Rep C mu H t v→Rep C mu (upd H D o) t v
 | _,_,.non => .non
 | _,_,.bl b => .bl b
 | _,_,.int i => .int i
 | _,_,.str x => .str x
 | _,_,.ty n => .ty n
 | _,_,.ob x => .ob x
 | _,_,.tup h r => .tup (h.elim (fun q => .inl ⟨zcS hh q.1 q.2,q.2⟩) .inr) (RepL.updH hh r)
 | _,_,.lst h r => .lst ⟨zcS hh h.1 h.2,h.2⟩ (RepL.updH hh r)
 | _,_,.fz h r => .fz ⟨zcS hh h.1 h.2,h.2⟩ (RepL.updH hh r)
 | _,_,.dn h d r q => .dn ⟨zcS hh h.1 h.2,h.2⟩ d (RepL.updH hh r) (RepL.updH hh q)
 | _,_,.dct h r => .dct ⟨zmZ hh h.1 h.2,h.2⟩ (RepD.updH hh r)
 | _,_,.ins h r => .ins ⟨zcS hh h.1 h.2,h.2⟩ (RepF.updH hh r)
 | _,_,.exc hx h q r => .exc (hx.imp id fun z=>⟨z.1,zcS hh z.2.1 z.2.2,z.2.2⟩) (zcS hh h q) q (RepF.updH hh r)
 | _,_,.cel h q => .cel h q
theorem RepL.updH (hh:C.hid D):∀ {t:List T} {v:List V},RepL C mu H t v→RepL C mu (upd H D o) t v
 | _,_,.nil => .nil
 | _,_,.cons h r => .cons (Rep.updH hh h) (RepL.updH hh r)
theorem RepD.updH (hh:C.hid D):∀ {t:List (Str × T)} {v:List (Key × V)},RepD C mu H t v→RepD C mu (upd H D o) t v
 | _,_,.nil => .nil
 | _,_,.cons h r => .cons (Rep.updH hh h) (RepD.updH hh r)
theorem RepF.updH (hh:C.hid D):∀ {t:List (Str × T)} {v:List (Str × V)},RepF C mu H t v→RepF C mu (upd H D o) t v
 | _,_,.nil => .nil
 | _,_,.cons h r => .cons (Rep.updH hh h) (RepF.updH hh r)
end
theorem RM.updH (hh:C.hid D) (R:RM C mu M H) (ho:zez o:=by exact zfp rfl):RM C mu M (upd H D o):=by
 have k:∀ b q,some b∈mu→H b=some q→upd H D o b=some q:=fun b q hb e=>by rw [upd_ne (fun z=>R.nh b hb (by rw [z]; exact hh))]; exact e
 have cu:∀ {t:T} {u:HO},CU C mu H t u→CU C mu (upd H D o) t u:=fun {t u} h=>by
  unfold CU at h ⊢
  split at h
  ·exact RepL.updH hh h
  ·exact RepD.updH hh h
  ·exact ⟨h.1,RepF.updH hh h.2⟩
  ·exact h.elim
 refine ⟨R.len,fun i t h=>?_,fun i t h=>?_,R.dead,R.inj,fun a z=>?_,R.nh,zgF R.tabs (R.nht D hh),fun a z=>(R.nht a z).upd fun _=>ho⟩
 ·obtain ⟨a,u,h1,h2,h3⟩:=R.cell i t h
  exact ⟨a,u,h1,k a u (List.mem_of_getElem? h1) h2,cu h3⟩
 ·obtain ⟨a,od,u,h1,h2,h3⟩:=R.lock i t h
  exact ⟨a,od,u,h1,k a _ (List.mem_of_getElem? h1) h2,cu h3⟩
 ·by_cases e:a=D
  ·subst e; exact ⟨o,upd_same⟩
  ·obtain ⟨q,h⟩:=R.hid a z
   exact ⟨q,by rw [upd_ne e]; exact h⟩
section
variable {C':Cfg}
mutual
theorem Rep.mv (hK:C'.K=C.K) (hg:C'.gx=C.gx) (hl:mu.length≤mu'.length) (hk:∀ (i:Nat) (a:Addr),i < mu.length→mu'[i]?=some (some a)→mu[i]?=some (some a)) (hA:∀ (a:Addr) (o:HO),H a=some o→Av C mu a→Av C' mu' a):∀ {t:T} {v:V},Rep C mu H t v→Rep C' mu' H t v
 | _,_,.non => .non
 | _,_,.bl b => .bl b
 | _,_,.int i => .int i
 | _,_,.str x => .str x
 | _,_,.ty n => .ty n
 | _,_,.ob x=>by rw [← zbW hg]; exact .ob x
 | _,_,.tup h r => .tup (by
   rcases h with h | h
   ·exact .inl ⟨h.1,hA _ _ h.1 h.2⟩
   ·rw [← hK] at h; exact .inr h) (RepL.mv hK hg hl hk hA r)
 | _,_,.lst h r => .lst ⟨h.1,hA _ _ h.1 h.2⟩ (RepL.mv hK hg hl hk hA r)
 | _,_,.fz h r => .fz ⟨h.1,hA _ _ h.1 h.2⟩ (RepL.mv hK hg hl hk hA r)
 | _,_,.dn h d r q => .dn ⟨h.1,hA _ _ h.1 h.2⟩ d (RepL.mv hK hg hl hk hA r) (RepL.mv hK hg hl hk hA q)
 | _,_,.dct h r => .dct ⟨h.1,Av.chg hA h.1 h.2⟩ (RepD.mv hK hg hl hk hA r)
 | _,_,.ins h r => .ins (by rw [zbW hg]; exact ⟨h.1,hA _ _ h.1 h.2⟩) (RepF.mv hK hg hl hk hA r)
 | _,_,.exc hx h q r => .exc (hx.at_ hg hA) h (hA _ _ h q) (RepF.mv hK hg hl hk hA r)
 | _,_,.cel h q => .cel (Nat.lt_of_lt_of_le h hl) fun a e=>q a (hk _ a h e)
theorem RepL.mv (hK:C'.K=C.K) (hg:C'.gx=C.gx) (hl:mu.length≤mu'.length) (hk:∀ (i:Nat) (a:Addr),i < mu.length→mu'[i]?=some (some a)→mu[i]?=some (some a)) (hA:∀ (a:Addr) (o:HO),H a=some o→Av C mu a→Av C' mu' a):∀ {t:List T} {v:List V},RepL C mu H t v→RepL C' mu' H t v
 | _,_,.nil => .nil
 | _,_,.cons h r => .cons (Rep.mv hK hg hl hk hA h) (RepL.mv hK hg hl hk hA r)
theorem RepD.mv (hK:C'.K=C.K) (hg:C'.gx=C.gx) (hl:mu.length≤mu'.length) (hk:∀ (i:Nat) (a:Addr),i < mu.length→mu'[i]?=some (some a)→mu[i]?=some (some a)) (hA:∀ (a:Addr) (o:HO),H a=some o→Av C mu a→Av C' mu' a):∀ {t:List (Str × T)} {v:List (Key × V)},RepD C mu H t v→RepD C' mu' H t v
 | _,_,.nil => .nil
 | _,_,.cons h r => .cons (Rep.mv hK hg hl hk hA h) (RepD.mv hK hg hl hk hA r)
theorem RepF.mv (hK:C'.K=C.K) (hg:C'.gx=C.gx) (hl:mu.length≤mu'.length) (hk:∀ (i:Nat) (a:Addr),i < mu.length→mu'[i]?=some (some a)→mu[i]?=some (some a)) (hA:∀ (a:Addr) (o:HO),H a=some o→Av C mu a→Av C' mu' a):∀ {t:List (Str × T)} {v:List (Str × V)},RepF C mu H t v→RepF C' mu' H t v
 | _,_,.nil => .nil
 | _,_,.cons h r => .cons (Rep.mv hK hg hl hk hA h) (RepF.mv hK hg hl hk hA r)
end
theorem CU.mv (hK:C'.K=C.K) (hg:C'.gx=C.gx) (hl:mu.length≤mu'.length) (hk:∀ (i:Nat) (a:Addr),i < mu.length→mu'[i]?=some (some a)→mu[i]?=some (some a)) (hA:∀ (a:Addr) (o:HO),H a=some o→Av C mu a→Av C' mu' a) {t:T} {u:HO} (h:CU C mu H t u):CU C' mu' H t u:=by
 unfold CU at h ⊢
 split at h
 ·exact RepL.mv hK hg hl hk hA h
 ·exact RepD.mv hK hg hl hk hA h
 ·exact ⟨by rw [zbW hg]; exact h.1,RepF.mv hK hg hl hk hA h.2⟩
 ·exact h.elim
end
end
end Z
end
section
namespace Z
open PySem PySem.Spec PyProof.Rows L2 PySem.SeqAt
def Out.noEr {α : Type} (o:Out α):Out α := match o with
 | .er _ _ => .no
 | o=>o
def WF:WX:=fun _ _ _ _=>False
section
variable {X:Cx} {C:Cfg} {W:WX}
def Fin {α : Type} (o:Out α) (K : α → Mem→Prop):Prop:=match o with
 | .ok a M=>K a M
 | _=>False
theorem Fin.bind {α β γ : Type} {C':Cfg} {mu:Mu} {H:Hp} {o:Out α} {f : α → Mem→Out β} {K : β → Mem→Prop} {Rel:Mu→Hp → α → γ → Prop} {kO : γ → Hp→Prop} {σ : L2.St} (h:Fin (o.noEr.bind f) K)
  (step:∀ a M1 mu1 b H1,RM C' mu1 M1 H1→Ext C' mu H mu1 H1→Rel mu1 H1 a b→Fin (f a M1) K→kO b H1):Post C' mu H o Rel kO fun c d H'=>WF c d σ H':=by
 cases o with
 | ok a M=>exact fun mu' b H' r e q=>step a M mu' b H' r e q h
 | er e M=>exact False.elim h
 | no=>exact False.elim h
end
end Z
end
section
namespace Z
open PySem PySem.Spec PyProof.Rows L2 PySem.SeqAt
mutual
def toD:T→Option PyData
 | .non=>some .none
 | .bl b=>some (.bool b)
 | .int i=>some (.int i)
 | .str x=>some (.str x)
 | .tup xs=>(zct xs).map PyData.tuple
 | .lst xs=>(zct xs).map PyData.list
 | .fz xs=>(zct xs).map PyData.list
 | .dn ks us=>(zct ks).bind fun as=>(zct us).bind fun bs=>if as.length=bs.length then some (.dict (as.zip bs)) else none
 | .dct ks=>(zeA ks).map PyData.dict
 | _=>none
def zct:List T→Option (List PyData)
 | []=>some []
 | t :: r=>(toD t).bind fun d=>(zct r).map fun ds=>d :: ds
def zeA:List (Str × T)→Option (List (PyData × PyData))
 | []=>some []
 | p :: r=>(toD p.2).bind fun d=>(zeA r).map fun ds=>(.str p.1,d) :: ds
end
section
variable {X:Cx} {C:Cfg} {mu:Mu} {M:Mem} {H:Hp} {pins:List (Addr × Obj)} {σ : L2.St} {s:Shared}
theorem zgG (h1:H sysModules=none) {a:Addr} {o:HO} (h:H a=some o):a≠sysModules:=fun e=>by rw [e,h1] at h; cases h
mutual
theorem zgH (hK:C.K=X.K) (I:Inv X pins σ H s) (h1:H sysModules=none):∀ {t:T} {x:V} {v:Value} {d:PyData},Rep C mu H t x→RelV x v→toD t=some d→∃as,Reads s.heap v d as∧sysModules∉as
 | _,_,_,_,.non,r,e=>by cases e; cases r; exact ⟨_,.none,by simp⟩
 | _,_,_,_,.bl b,r,e=>by cases e; cases r; exact ⟨_,.bool b,by simp⟩
 | _,_,_,_,.int i,r,e=>by cases e; obtain ⟨t,rfl⟩:=r; exact ⟨_,.int i t,by simp⟩
 | _,_,_,_,.str z,r,e=>by cases e; obtain ⟨t,rfl⟩:=r; exact ⟨_,.str z t,by simp⟩
 | _,_,_,_,.tup f q,r,e=>by
  obtain ⟨ds,e1,rfl⟩:=Option.map_eq_some_iff.mp e
  cases r
  have sq:=f.sq
  rw [hK] at sq
  obtain ⟨its,rv,⟨o,ho,hc,n,hd⟩,_⟩:=I.tuple sq
  obtain ⟨as,hr,hn⟩:=zdr hK I h1 q rv e1
  exact ⟨_,.tuple ho hc hd hr,hn⟩
 | _,_,_,_,.lst f q,r,e=>by
  obtain ⟨ds,e1,rfl⟩:=Option.map_eq_some_iff.mp e
  cases r
  obtain ⟨its,rv,⟨o,n,ho,hc,_,hd⟩,_⟩:=I.list (X:=X) (.inl (.inl f.1))
  obtain ⟨as,hr,hn⟩:=zdr hK I h1 q rv e1
  exact ⟨_,.list ho hc hd hr,by simp [hn,(zgG h1 f.1).symm]⟩
 | _,_,_,_,.fz f q,r,e=>by
  obtain ⟨ds,e1,rfl⟩:=Option.map_eq_some_iff.mp e
  cases r
  obtain ⟨its,rv,⟨o,n,ho,hc,_,hd⟩,_⟩:=I.list (X:=X) (.inl (.inr ⟨_,f.1⟩))
  obtain ⟨as,hr,hn⟩:=zdr hK I h1 q rv e1
  exact ⟨_,.list ho hc hd hr,by simp [hn,(zgG h1 f.1).symm]⟩
 | _,_,_,_,.dn f d q1 q2,r,e=>by
  obtain ⟨ds,e1,e⟩:=Option.bind_eq_some_iff.mp e
  obtain ⟨cs,e2,e⟩:=Option.bind_eq_some_iff.mp e
  split at e
  ·rename_i hl
   cases e
   cases r
   obtain ⟨es,ep,hx,hdt,hs,vk,vv⟩:=d
   obtain ⟨as,r1,n1⟩:=zdr hK I h1 q1 vk e1
   obtain ⟨bs,r2,n2⟩:=zdr hK I h1 q2 vv e2
   refine ⟨_,.dict (I.hok _ _ f.1).1 hx.1 hdt (by rw [List.map_fst_zip (Nat.le_of_eq hl)]; exact r1) (by rw [List.map_snd_zip (Nat.le_of_eq hl.symm)]; exact r2),?_⟩
   intro z
   rcases List.mem_append.mp z with z | z
   ·rcases List.mem_cons.mp z with z | z
    ·rw [← z] at hs; simp at hs
    ·exact n1 z
   ·exact n2 z
  ·cases e
 | _,_,_,_,.dct f q,r,e=>by
  obtain ⟨ds,e1,rfl⟩:=Option.map_eq_some_iff.mp e
  cases r
  obtain ⟨_,hs,vs,kv,o,es,ep,ho,hx,hd,_,pr,_⟩:=dk_rd I.hok f.1
  obtain ⟨as,bs,r1,r2,n1,n2⟩:=zgI hK I h1 q kv pr e1
  refine ⟨_,.dict ho hx.1 hd r1 r2,?_⟩
  intro z
  rcases List.mem_append.mp z with z | z
  ·rcases List.mem_cons.mp z with z | z
   ·rw [← z] at hs; simp at hs
   ·exact n1 z
  ·exact n2 z
 | _,_,_,_,.ins _ _,_,e=>by cases e
 | _,_,_,_,.exc _ _ _ _,_,e=>by cases e
 | _,_,_,_,.ty _,_,e=>by cases e
 | _,_,_,_,.ob _,_,e=>by cases e
 | _,_,_,_,.cel _ _,_,e=>by cases e
theorem zdr (hK:C.K=X.K) (I:Inv X pins σ H s) (h1:H sysModules=none):∀ {ts:List T} {xs:List V} {vs:List Value} {ds:List PyData},RepL C mu H ts xs→Vals xs vs→zct ts=some ds→∃as,ReadsAll s.heap vs ds as∧sysModules∉as
 | _,_,_,_,.nil,.nil,e=>by cases e; exact ⟨_,.nil,by simp⟩
 | _,_,_,_,.cons h q,.cons r rr,e=>by
  obtain ⟨d,e1,e2⟩:=Option.bind_eq_some_iff.mp e
  obtain ⟨ds,e3,rfl⟩:=Option.map_eq_some_iff.mp e2
  obtain ⟨as,r1,n1⟩:=zgH hK I h1 h r e1
  obtain ⟨bs,r2,n2⟩:=zdr hK I h1 q rr e3
  exact ⟨_,.cons r1 r2,by simp [n1,n2]⟩
theorem zgI (hK:C.K=X.K) (I:Inv X pins σ H s) (h1:H sysModules=none):∀ {ks:List (Str × T)} {ws:List (Key × V)} {vs:List (Key × Value)} {es:List DictEntry} {ds:List (PyData × PyData)},RepD C mu H ks ws→KV ws vs→Pairs (mixKind X.prog X.w) es vs→zeA ks=some ds →
  ∃ as bs,ReadsAll s.heap (es.map (·.key)) (ds.map (·.1)) as∧ReadsAll s.heap (es.map (·.val)) (ds.map (·.2)) bs∧sysModules∉as∧sysModules∉bs
 | _,_,_,_,_,.nil,kv,pp,e=>by
  cases kv; cases pp; cases e
  exact ⟨_,_,.nil,.nil,by simp,by simp⟩
 | _,_,_,_,_,@RepD.cons _ _ _ k t x ks ws h q,kv,pp,e=>by
  obtain ⟨d,e1,e2⟩:=Option.bind_eq_some_iff.mp e
  obtain ⟨ds,e3,rfl⟩:=Option.map_eq_some_iff.mp e2
  cases kv with
  | cons rk rr=>
   cases pp with
   | @cons en kv2 es2 kvs2 hk hv pp=>
    obtain ⟨as,bs,r1,r2,n1,n2⟩:=zgI hK I h1 q rr pp e3
    obtain ⟨ek,ev⟩:=rk
    obtain ⟨cs,r3,n3⟩:=zgH hK I h1 h ev e1
    have hk':keyIs (.inr k) en.key=true:=by rw [← ek] at hk; exact hk
    obtain ⟨u,hu⟩:∃ u,en.key = .str k u:=relV_key hk'
    rw [← hv] at r3
    refine ⟨_,_,.cons (as := []) ?_ r1,.cons r3 r2,by simpa using n1,by simp [n2,n3]⟩
    show Reads s.heap en.key (.str k) []
    rw [hu]
    exact .str _ u
end
end
end Z
end
section
namespace Z
open PySem PySem.Spec PyProof.Rows L2 PySem.SeqAt
def ziZ (o:Obj):Bool:=match o.data with
 | .seq its _=>its.toList.any fun v=>match v with
  | .ref _=>true
  | _=>false
 | _=>false
def zgJ (K:PySem.W.Frag):Bool:=K.all fun p => !(p.2.cls == .type "list") || ziZ p.2
def zi0 (g:Addr→Option Obj):Bool:=match g sysModules with
 | some o => !(o.cls == .type "list")
 | none=>false
abbrev TabS:Type:=Str × List (Str × Str)
def zcT (tabs:List TabS):List He.Tab:=tabs.map fun p=>((fun K=>He.ga K p.1),p.2.map (·.1))
def zi4 (tabs:List TabS) (K:PySem.W.Frag):Bool:=tabs.all fun p=>He.valsB K (He.ga K p.1) (p.2.map fun q=>(q.1,He.Dv.str q.2))
abbrev AlZ:Type:=(He.AlT × Bool × Bool) × Bool
abbrev Xs:Type:=List (PySem.W.Frag→Bool)
def zm0 (fa:List He.Fa) (fn:List He.DefD) (tabs:List TabS) (xs:Xs) (K:PySem.W.Frag):He.AlT × Bool × Bool:=(He.obsT fa fn (zcT tabs) K,zi4 tabs K && xs.all (fun f=>f K),zgJ K)
def obsZ (n:Nat) (fa:List He.Fa) (fn:List He.DefD) (tabs:List TabS) (xs:Xs) (g:Addr→Option Obj):AlZ:=(zm0 fa fn tabs xs (He.frG g (He.asD g n ++ [cStatics])),zi0 g)
structure ModK (fa:List He.Fa) (fn:List He.DefD) (tabs:List TabS) (xs:Xs) (w:World) (K:PySem.W.Frag):Prop where
 says:He.SaysT fa fn (zcT tabs) w K
 vals:zi4 tabs K=true
 ext:xs.all (fun f=>f K)=true
 nl:zgJ K=true
def zi5 (fa:List He.Fa) (fn:List He.DefD) (tabs:List TabS) (xs:Xs) (w:World) (h:Heap):Prop := ∃ K:PySem.W.Frag,K.In h∧ModK fa fn tabs xs w K∧∃o,h.get? sysModules=some o∧o.cls ≠ .type "list"
def zi6 (n:Nat) (fa:List He.Fa) (fn:List He.DefD) (tabs:List TabS) (xs:Xs):PySem.W.Hook where
 α := AlZ
 obs:=fun s=>obsZ n fa fn tabs xs s.heap.get?
 val:=fun w=>((He.valT fn (zcT tabs) w,true,true),true)
 says:=fun w h=>zi5 fa fn tabs xs w h
 of:=fun _ _ e=>by
  injection e with e0 e3
  injection e0 with e1 e2
  injection e2 with e2 e4
  obtain ⟨e2,e5⟩:=Bool.and_eq_true_iff.mp e2
  refine ⟨_,He.frG_in,⟨e1,e2,e5,e4⟩,?_⟩
  unfold zi0 at e3
  split at e3
  ·rename_i o ho
   exact ⟨o,ho,fun z=>by rw [z] at e3; simp at e3⟩
  ·cases e3
 keeps:=fun _ _ _ ⟨K,hK,c,o,ho,hc⟩ k=>⟨K,PySem.W.Frag.In.keeps hK k,c,o,k _ _ ho,hc⟩
structure KT (K:PySem.W.Frag) (w:World) (a:Addr) (ks:List (Str × Str)):Prop where
 ex:∃ es n,KDict K w a es n∧∀z:Str,match ks.lookup z with
  | some y => ∃ t,findBy Value.isStrOf es z=some (.str y t)
  | none=>findBy Value.isStrOf es z=none
theorem zi7 {P:Params}:∀ {l:List DictEntry} {ks:List Str},l.map He.keyOf=He.keysIn P ks→l.map (·.key)=l.map (·.key)∧∀e∈l,∃x t,e.key = .str x t∧x∈ks
 | [],_,_=>⟨rfl,fun e h=>by cases h⟩
 | e :: r,[],h=>by cases h
 | e :: r,k :: ks,h=>by
  have h1:He.keyOf e :: r.map He.keyOf=some (k,PyData.keyHash P k) :: He.keysIn P ks:=h
  injection h1 with h2 h3
  refine ⟨rfl,fun e' he=>?_⟩
  rcases List.mem_cons.mp he with rfl | he
  ·unfold He.keyOf at h2
   split at h2
   ·rename_i x t q
    have h4:=Option.some.inj h2
    obtain ⟨h5,h6⟩:=Prod.mk.inj h4
    exact ⟨x,t,q,by rw [h5]; exact List.mem_cons_self ..⟩
   ·cases h2
  ·obtain ⟨x,t,q,hm⟩:=(zi7 h3).2 e' he
   exact ⟨x,t,q,List.mem_cons_of_mem _ hm⟩
theorem ModK.tab {fa:List He.Fa} {fn:List He.DefD} {tabs:List TabS} {xs:Xs} {w:World} {K:PySem.W.Frag} (M:ModK fa fn tabs xs w K) (i:Nat) {x:Str} {ks:List (Str × Str)} (h:tabs[i]?=some (x,ks)):KT K w (He.ga K x) ks:=by
 have ht:(zcT tabs)[i]?=some ((fun K=>He.ga K x),ks.map (·.1)):=by unfold zcT; rw [List.getElem?_map,h]; rfl
 have e:(zcT tabs).map (fun t=>He.dicW K (t.1 K))=(zcT tabs).map fun t=>some (He.keysIn w.params t.2):=congrArg (fun z:He.AlT=>z.2) M.says
 have e2:((zcT tabs).map fun t=>He.dicW K (t.1 K))[i]?=((zcT tabs).map fun t=>some (He.keysIn w.params t.2))[i]?:=by rw [e]
 rw [List.getElem?_map,List.getElem?_map,ht] at e2
 have e3:He.dicW K (He.ga K x)=some (He.keysIn w.params (ks.map (·.1))):=Option.some.inj e2
 obtain ⟨es,n,kd⟩:=He.dicW_ok e3
 have vb:He.valsB K (He.ga K x) (ks.map fun q=>(q.1,He.Dv.str q.2))=true:=List.all_eq_true.mp M.vals (x,ks) (List.mem_of_getElem? h)
 have ek:es.toList.map He.keyOf=He.keysIn w.params (ks.map (·.1)):=by
  have q:=e3
  unfold He.dicW at q
  rw [kd.at_] at q
  have low:=kd.low
  simp only [low] at q
  simpa using q
 refine ⟨es,n,kd,fun z=>?_⟩
 cases hz:ks.lookup z with
 | some y=>
  have hm:(z,y)∈ks:=by
   clear h e e2 e3 vb ek kd ht M
   induction ks with
   | nil=>simp at hz
   | cons p r ih=>
    rw [List.lookup_cons] at hz
    by_cases c:z=p.1
    ·rw [c] at hz ⊢
     simp at hz
     rw [← hz]
     exact List.mem_cons_self ..
    ·have c':(z == p.1)=false:=by simpa using c
     rw [c'] at hz
     exact List.mem_cons_of_mem _ (ih hz)
  obtain ⟨u,h1,t,rfl⟩:=He.valsB_ok vb (q:=(z,.str y)) (List.mem_map.mpr ⟨(z,y),hm,rfl⟩)
  exact ⟨t,PySem.W.find_K kd.at_ h1⟩
 | none=>
  show findBy Value.isStrOf es z=none
  have no:∀ e∈es.toList,Value.isStrOf z e.key=false:=fun e he=>by
   obtain ⟨k,t,q,hm⟩:=(zi7 ek).2 e he
   rw [q]
   show (k == z)=false
   rw [beq_eq_false_iff_ne]
   intro c
   subst c
   have:(ks.lookup k).isSome=true:=by
    clear h e2 e3 vb ek kd ht M he hz
    induction ks with
    | nil=>simp at hm
    | cons p r ih=>
     rw [List.lookup_cons]
     by_cases c:k=p.1
     ·have c':(k == p.1)=true:=by simpa using c
      rw [c']; rfl
     ·have c':(k == p.1)=false:=by simpa using c
      rw [c']
      rw [List.map_cons,List.mem_cons] at hm
      exact ih (hm.resolve_left c)
   rw [hz] at this; cases this
  unfold findBy
  rw [Option.map_eq_none_iff]
  rw [← Array.find?_toList]
  rw [List.find?_eq_none]
  intro e he
  rw [no e he]
  simp
end Z
end
section
namespace Z
open PySem PySem.Spec PyProof.Rows L2 PySem.SeqAt
section
variable {C:Cfg} {mu mu':Mu} {M:Mem} {H:Hp} {n:Nat} {F:DF} {Q:VK} {E:XK}
theorem CU.pure {C':Cfg} (hK:C'.K=C.K) (hg:C'.gx=C.gx) (hA:∀ (a:Addr) (o:HO),H a=some o→Av C mu a→Av C' mu' a) {t:T} {u:HO} (c:zal t=true) (h:CU C mu H t u):CU C' mu' H t u:=by
 unfold CU at h ⊢
 split at h
 ·exact RepL.pure (C:=C) (C':=C') hK hg hA c h
 ·exact RepD.pure (C:=C) (C':=C') hK hg hA c h
 ·exact ⟨by rw [zbW hg]; exact h.1,RepF.pure (C:=C) (C':=C') hK hg hA c h.2⟩
 ·exact h.elim
end
section
variable {X:Cx} {C:Cfg} {W:WX} {CX:CXT} {n:Nat} {F:DF} {dts:List T} {x:Str} {p pos:Pos} {es:List Expr} {da:DA}
end
end Z
end
section
namespace L2
open PySem PySem.Spec PyProof.Rows
end L2
namespace Z
open PySem PySem.Spec PyProof.Rows L2 PySem.SeqAt
section
variable {X:Cx} {C:Cfg} {W:WX}
end
mutual
def zaF (n:Nat):T→Bool
 | .cel i=>decide (i < n)
 | .tup xs=>zbN n xs
 | .lst xs=>zbN n xs
 | .fz xs=>zbN n xs
 | .dn ks us=>zbN n ks && zbN n us
 | .dct ks=>zb8 n ks
 | .ins _ fs=>zb8 n fs
 | .exc _ fs=>zb8 n fs
 | _=>true
def zbN (n:Nat):List T→Bool
 | []=>true
 | t :: r=>zaF n t && zbN n r
def zb8 (n:Nat):List (Str × T)→Bool
 | []=>true
 | p :: r=>zaF n p.2 && zb8 n r
end
mutual
theorem zgK {n:Nat}:∀ {t:T},zal t=true→zaF n t=true
 | .cel _,h=>by simp [zal] at h
 | .tup xs,h=>by simp only [zal] at h; simp only [zaF]; exact zcu h
 | .lst xs,h=>by simp only [zal] at h; simp only [zaF]; exact zcu h
 | .fz xs,h=>by simp only [zal] at h; simp only [zaF]; exact zcu h
 | .dn ks us,h=>by simp only [zal,Bool.and_eq_true] at h; simp only [zaF,Bool.and_eq_true]; exact ⟨zcu h.1,zcu h.2⟩
 | .dct ks,h=>by simp only [zal] at h; simp only [zaF]; exact zfr h
 | .ins _ fs,h=>by simp only [zal] at h; simp only [zaF]; exact zfr h
 | .exc _ fs,h=>by simp only [zal] at h; simp only [zaF]; exact zfr h
 | .non,_=>by simp only [zaF]
 | .bl _,_=>by simp only [zaF]
 | .int _,_=>by simp only [zaF]
 | .str _,_=>by simp only [zaF]
 | .ty _,_=>by simp only [zaF]
 | .ob _,_=>by simp only [zaF]
theorem zcu {n:Nat}:∀ {t:List T},zau t=true→zbN n t=true
 | [],_=>by simp only [zbN]
 | t :: r,h=>by simp only [zau,Bool.and_eq_true] at h; simp only [zbN,Bool.and_eq_true]; exact ⟨zgK h.1,zcu h.2⟩
theorem zfr {n:Nat}:∀ {t:List (Str × T)},za4 t=true→zb8 n t=true
 | [],_=>by simp only [zb8]
 | t :: r,h=>by simp only [za4,Bool.and_eq_true] at h; simp only [zb8,Bool.and_eq_true]; exact ⟨zgK h.1,zfr h.2⟩
end
section
variable {C:Cfg} {mu:Mu} {M:Mem} {H:Hp} {n:Nat}
theorem zc8 {a:Addr} (h:Av C mu a):Av C (mu.take n) a:=⟨fun z=>h.1 (List.mem_of_mem_take z),h.2⟩
mutual
theorem Rep.cut (hn:n≤mu.length):∀ {t:T} {v:V},zaF n t=true→Rep C mu H t v→Rep C (mu.take n) H t v
 | _,_,_,.non => .non
 | _,_,_,.bl b => .bl b
 | _,_,_,.int i => .int i
 | _,_,_,.str x => .str x
 | _,_,_,.ty m => .ty m
 | _,_,_,.ob x => .ob x
 | _,_,c,.tup h r => .tup (h.elim (fun q => .inl ⟨q.1,zc8 q.2⟩) .inr) (RepL.cut hn (by simpa only [zaF] using c) r)
 | _,_,c,.lst h r => .lst ⟨h.1,zc8 h.2⟩ (RepL.cut hn (by simpa only [zaF] using c) r)
 | _,_,c,.fz h r => .fz ⟨h.1,zc8 h.2⟩ (RepL.cut hn (by simpa only [zaF] using c) r)
 | _,_,c,.dn h d r q=>by
  simp only [zaF,Bool.and_eq_true] at c
  exact .dn ⟨h.1,zc8 h.2⟩ d (RepL.cut hn c.1 r) (RepL.cut hn c.2 q)
 | _,_,c,.dct h r => .dct ⟨h.1,zc8 h.2⟩ (RepD.cut hn (by simpa only [zaF] using c) r)
 | _,_,c,.ins h r => .ins ⟨h.1,zc8 h.2⟩ (RepF.cut hn (by simpa only [zaF] using c) r)
 | _,_,c,.exc hx h q r => .exc (hx.imp id fun z=>⟨z.1,z.2.1,zc8 z.2.2⟩) h (zc8 q) (RepF.cut hn (by simpa only [zaF] using c) r)
 | .cel i,_,c,.cel h q=>by
  have hi:i < n:=by simpa only [zaF,decide_eq_true_eq] using c
  exact .cel (by rw [List.length_take]; omega) fun a k=>q a (by rw [List.getElem?_take,if_pos hi] at k; exact k)
theorem RepL.cut (hn:n≤mu.length):∀ {t:List T} {v:List V},zbN n t=true→RepL C mu H t v→RepL C (mu.take n) H t v
 | _,_,_,.nil => .nil
 | _,_,c,.cons h r=>by
  simp only [zbN,Bool.and_eq_true] at c
  exact .cons (Rep.cut hn c.1 h) (RepL.cut hn c.2 r)
theorem RepD.cut (hn:n≤mu.length):∀ {t:List (Str × T)} {v:List (Key × V)},zb8 n t=true→RepD C mu H t v→RepD C (mu.take n) H t v
 | _,_,_,.nil => .nil
 | _,_,c,.cons h r=>by
  simp only [zb8,Bool.and_eq_true] at c
  exact .cons (Rep.cut hn c.1 h) (RepD.cut hn c.2 r)
theorem RepF.cut (hn:n≤mu.length):∀ {t:List (Str × T)} {v:List (Str × V)},zb8 n t=true→RepF C mu H t v→RepF C (mu.take n) H t v
 | _,_,_,.nil => .nil
 | _,_,c,.cons h r=>by
  simp only [zb8,Bool.and_eq_true] at c
  exact .cons (Rep.cut hn c.1 h) (RepF.cut hn c.2 r)
end
def zaY (n:Nat):Cell→Bool
 | .dead=>true
 | .live t=>zaF n t
 | .lock t=>zaF n t
theorem CU.cut (hn:n≤mu.length) {t:T} {u:HO} (c:zaF n t=true) (h:CU C mu H t u):CU C (mu.take n) H t u:=by
 unfold CU at h ⊢
 split at h
 ·exact RepL.cut hn (by simpa only [zaF] using c) h
 ·exact RepD.cut hn (by simpa only [zaF] using c) h
 ·exact ⟨h.1,RepF.cut hn (by simpa only [zaF] using c) h.2⟩
 ·exact h.elim
theorem RM.cut (R:RM C mu M H) (hn:n≤M.length) (c:(M.take n).all (zaY n)=true):RM C (mu.take n) (M.take n) H:=by
 have hm:n≤mu.length:=by rw [R.len]; exact hn
 have tk:∀ {i:Nat} {x:Cell},(M.take n)[i]?=some x→i < n∧M[i]?=some x∧zaY n x=true:=fun {i x} h=>by
  have hi:i < (M.take n).length:=(List.getElem?_eq_some_iff.mp h).1
  rw [List.length_take] at hi
  have hin:i < n:=by omega
  refine ⟨hin,by rw [List.getElem?_take,if_pos hin] at h; exact h,List.all_eq_true.mp c x (List.mem_of_getElem? h)⟩
 have to:∀ {i:Nat} {x:Option Addr},i < n→mu[i]?=some x→(mu.take n)[i]?=some x:=fun {i x} hi h=>by rw [List.getElem?_take,if_pos hi]; exact h
 have fr:∀ {i:Nat} {x:Option Addr},(mu.take n)[i]?=some x→mu[i]?=some x:=fun {i x} h=>by
  rw [List.getElem?_take] at h
  split at h
  ·exact h
  ·cases h
 refine ⟨by rw [List.length_take,List.length_take,R.len],fun i t h=>?_,fun i t h=>?_,fun i h=>?_,fun i j a h1 h2=>R.inj i j a (fr h1) (fr h2),R.hid,fun a ha=>R.nh a (List.mem_of_mem_take ha),R.tabs,R.nht⟩
 ·obtain ⟨hi,h1,h2⟩:=tk h
  obtain ⟨a,u,g1,g2,g3⟩:=R.cell i t h1
  exact ⟨a,u,to hi g1,g2,g3.cut hm h2⟩
 ·obtain ⟨hi,h1,h2⟩:=tk h
  obtain ⟨a,od,u,g1,g2,g3⟩:=R.lock i t h1
  exact ⟨a,od,u,to hi g1,g2,g3.cut hm h2⟩
 ·obtain ⟨hi,h1,_⟩:=tk h
  exact to hi (R.dead i h1)
theorem Ext.cut {mu0:Mu} {H0:Hp} (x:Ext C mu0 H0 mu H) (h0:mu0.length≤n) (hn:n≤mu.length):Ext C mu0 H0 (mu.take n) H:=
 ⟨by rw [List.length_take]; omega,fun i a hi q=>x.keep i a hi (by
   rw [List.getElem?_take] at q
   split at q
   ·exact q
   ·cases q),x.rd,x.obj,x.hid,fun a o h m z=>x.own a o h m (List.mem_of_mem_take z),x.ex⟩
end
section
variable {X:Cx} {C:Cfg} {W:WX}
end
end Z
end
section
namespace Z
open PySem PySem.Spec PyProof.Rows L2 PySem.SeqAt
structure Ix where
 N:List Str
 sc:Scope
 fn:Str→Bool
 /-- within an except suite -/
 hot:Bool
def atB (N:List Str) (i:Nat) (x:Str):Bool:=match N[i]? with
 | some y=>decide (y=x)
 | none=>false
theorem zm1 {N:List Str} {i:Nat} {x:Str} (h:atB N i x=true):N[i]?=some x:=by
 unfold atB at h
 split at h
 ·rename_i j e
  rw [e,of_decide_eq_true h]
 ·cases h
structure Bd (P:Program) (w:World) (K:PySem.W.Frag) (mg:Str→Option Value) (base:Heap) (J:Ix) (k:Nat) (X:Cx):Prop where
 prog:X.prog=P
 wo:X.w=w
 K:X.K=K
 mg:X.mg=mg
 base:X.base=base
 N:X.N=J.N
 sc:X.env.scope=J.sc
 fn:X.fn=J.fn
 nd:J.N.Nodup
 fk:J.sc.kind = .function
 room:J.hot=false→Room k X.A
 un:X.A.units + 64 < cLine
 gu:X.A.guards=some []
 calm:J.hot=false→X.calm=true
section
variable {P:Program} {w:World} {K:PySem.W.Frag} {mg:Str→Option Value} {base:Heap} {J:Ix} {k:Nat} {X:Cx} {C:Cfg} {W:WX} {x:Str} {i:Nat} {pos p:Pos}
theorem Bd.at_ (B:Bd P w K mg base J k X) (h:atB J.N i x=true):X.N[i]?=some x:=by rw [B.N]; exact zm1 h
theorem Bd.nx (B:Bd P w K mg base J k X) (hm:mg x=none):X.mg x=none:=by rw [B.mg]; exact hm
section
variable {j n:Nat} {F:DF} {dts:List T} {e:Expr} {es:List Expr} {da:DA} {hid:Addr→Prop}
end
section
variable {elt kx vx tg iter:Expr} {ifs:List Expr} {b:Scope} {own:List (Str × Nat)} {di:DA} {g:DG} {tt:DT} {de dk:DE}
end
end
end Z
end
section
namespace Z
open PySem PySem.Spec PyProof.Rows L2 PySem.SeqAt
section
variable {α β : Type} {s:Sg} {M:Mem}
end
inductive TurnZ (α : Type) where
 | on (a : α)
 | ret (t:T)
end Z
end
section
namespace Z
open PySem PySem.Spec PyProof.Rows L2 PySem.SeqAt
section
variable {M:Mem} {s:Sg} {g:OpM} {da:DA}
end
mutual
def dep:T→Nat
 | .tup xs=>zaU xs + 1
 | .lst xs=>zaU xs + 1
 | .dct ks=>zbx ks + 1
 | .dn ks us=>max (zaU ks) (zaU us) + 1
 | .ins _ fs=>zbx fs + 1
 | .exc _ fs=>zbx fs + 1
 | _=>1
def zaU:List T→Nat
 | []=>0
 | t :: r=>max (dep t) (zaU r)
def zbx:List (Str × T)→Nat
 | []=>0
 | p :: r=>max (dep p.2) (zbx r)
end
mutual
theorem zc9 {M:Mem}:∀ {n:Nat} {t:T},zal t=true→dep t≤n→frz n t M=some (t,M)
 | 0,t,_,h=>by cases t <;> simp [dep] at h
 | n + 1,.tup xs,c,h=>by
  simp only [zal] at c; simp only [dep] at h
  unfold frz
  simp only
  rw [zgL c (by omega)]; rfl
 | n + 1,.lst xs,c,h=>by
  simp only [zal] at c; simp only [dep] at h
  unfold frz
  simp only
  rw [zgL c (by omega)]; rfl
 | n + 1,.dct xs,c,h=>by
  simp only [zal] at c; simp only [dep] at h
  unfold frz
  simp only
  rw [zfs c (by omega)]; rfl
 | n + 1,.ins _ xs,c,h=>by
  simp only [zal] at c; simp only [dep] at h
  unfold frz
  simp only
  rw [zfs c (by omega)]; rfl
 | n + 1,.exc _ xs,c,h=>by
  simp only [zal] at c; simp only [dep] at h
  unfold frz
  simp only
  rw [zfs c (by omega)]; rfl
 | n + 1,.cel i,c,_=>by simp [zal] at c
 | n + 1,.fz xs,c,_=>rfl
 | n + 1,.dn _ _,_,_=>rfl
 | n + 1,.non,_,_=>rfl
 | n + 1,.bl _,_,_=>rfl
 | n + 1,.int _,_,_=>rfl
 | n + 1,.str _,_,_=>rfl
 | n + 1,.ty _,_,_=>rfl
 | n + 1,.ob _,_,_=>rfl
theorem zgL {M:Mem}:∀ {n:Nat} {t:List T},zau t=true→zaU t≤n→zdq (frz n) t M=some (t,M)
 | n,[],_,_=>rfl
 | n,x :: r,c,h=>by
  simp only [zau,Bool.and_eq_true] at c
  simp only [zaU] at h
  unfold zdq
  rw [zc9 c.1 (by omega)]
  simp only
  rw [zgL c.2 (by omega)]
theorem zfs {M:Mem}:∀ {n:Nat} {t:List (Str × T)},za4 t=true→zbx t≤n→zb7 (frz n) t M=some (t,M)
 | n,[],_,_=>rfl
 | n,x :: r,c,h=>by
  simp only [za4,Bool.and_eq_true] at c
  simp only [zbx] at h
  unfold zb7
  rw [zc9 c.1 (by omega)]
  simp only
  rw [zfs c.2 (by omega)]
end
end Z
end
section
namespace Z
open PySem PySem.Spec PyProof.Rows L2 PySem.SeqAt
mutual
def wt:T→Nat
 | .non=>4
 | .bl _=>5
 | .int i=>((toString i:String):Str).length
 | .str x=>(reprText x).length
 | .tup xs=>wtL xs + 3
 | .lst xs=>wtL xs + 2
 | .dct ks=>wtK ks + 2
 | .dn ks us=>wtL ks + wtL us + 2
 | _=>0
def wtL:List T→Nat
 | []=>0
 | t :: r=>wt t + 2 + wtL r
def wtK:List (Str × T)→Nat
 | []=>0
 | p :: r=>(reprText p.1).length + 2 + wt p.2 + 2 + wtK r
end
mutual
def pl:T→Bool
 | .non | .bl _ | .str _=>true
 | .int i=>decide (i.natAbs.log2 < 1920)
 | .tup xs=>plL xs
 | .lst xs=>plL xs
 | .dct ks=>plK ks
 | .dn ks us=>plL ks && plL us && Nat.beq ks.length us.length
 | _=>false
def plL:List T→Bool
 | []=>true
 | t :: r=>pl t && plL r
def plK:List (Str × T)→Bool
 | []=>true
 | p :: r=>pl p.2 && plK r
end
theorem zm2 (ts:List Str):(ts.map (·.length)).sum + ts.length * 2=(ts.map fun t=>t.length + 2).sum:=by
 induction ts with
 | nil=>rfl
 | cons t r ih=>simp only [List.map_cons,List.sum_cons,List.length_cons]; omega
theorem zi8 (ts:List Str):(Str.join ", " ts).length≤(ts.map fun t=>t.length + 2).sum:=by
 have h:=StrLaws.join_length_le ", " ts
 have e:(", " : Str).length=2:=by decide +kernel
 rw [e] at h
 rw [← zm2]; exact h
theorem zi9:∀ (ts:List Str) (k:Nat) (acc:Str),(textFrom k acc ts).length≤acc.length + (ts.map fun t=>t.length + 2).sum
 | [],k,acc=>by show acc.length≤_; omega
 | t :: r,k,acc=>by
  have ih:=zi9 r (k + 1) (acc ++ (if k > 0 then ", " else "" : String) ++ t)
  have e:(acc ++ (if k > 0 then ", " else "" : String) ++ t).length≤acc.length + 2 + t.length:=by
   rw [strLen_append,strLen_append]
   have:((if k > 0 then ", " else "" : String):Str).length≤2:=by
    split
    ·exact Nat.le_of_eq (by decide +kernel)
    ·exact Nat.le_of_lt (by decide +kernel)
   omega
  show (textFrom (k + 1) (acc ++ (if k > 0 then ", " else "" : String) ++ t) r).length≤_
  simp only [List.map_cons,List.sum_cons]
  omega
theorem zm3 (ts:List Str):(listText ts).length≤(ts.map fun t=>t.length + 2).sum + 2:=by
 unfold listText
 rw [strLen_append]
 have h:=zi9 ts 0 "["
 have e1:("[" : Str).length=1:=by decide +kernel
 have e2:("]" : Str).length=1:=by decide +kernel
 omega
theorem zm4 (ts:List Str):(tupleText ts).length≤(ts.map fun t=>t.length + 2).sum + 3:=by
 unfold tupleText
 rw [strLen_append,strLen_append]
 have h:=zi8 ts
 have e1:("(" : Str).length=1:=by decide +kernel
 have e2:((if ts.length == 1 then ",)" else ")" : String):Str).length≤2:=by
  split
  ·exact Nat.le_of_eq (by decide +kernel)
  ·exact Nat.le_of_lt (by decide +kernel)
 omega
theorem zja (ts:List Str):(dictText ts).length≤(ts.map fun t=>t.length + 2).sum + 2:=by
 unfold dictText
 rw [strLen_append,strLen_append]
 have h:=zi8 ts
 have e1:("{" : Str).length=1:=by decide +kernel
 have e2:("}" : Str).length=1:=by decide +kernel
 omega
theorem zgM:∀ {ts:List T} {ds:List PyData},zct ts=some ds→ds.length=ts.length
 | [],_,e=>by cases e; rfl
 | t :: r,_,e=>by
  obtain ⟨d,e1,e2⟩:=Option.bind_eq_some_iff.mp e
  obtain ⟨ds,e3,rfl⟩:=Option.map_eq_some_iff.mp e2
  simp [zgM e3]
theorem zjb:∀ (as bs:List PyData),PyData.showableAll as=true→PyData.showableAll bs=true→PyData.showableKv (as.zip bs)=true∧PyData.depthKv (as.zip bs)≤max (PyData.depthAll as) (PyData.depthAll bs) ∧
  ((PyData.shownKv (as.zip bs)).map fun t=>t.length + 2).sum≤((PyData.shownAll as).map fun t=>t.length + 2).sum + ((PyData.shownAll bs).map fun t=>t.length + 2).sum
 | [],bs,_,_=>⟨rfl,by simp [PyData.depthKv],by simp [PyData.shownKv]⟩
 | a :: as,[],_,_=>⟨rfl,by simp [PyData.depthKv],by simp [PyData.shownKv]⟩
 | a :: as,b :: bs,h1,h2=>by
  simp only [PyData.showableAll,Bool.and_eq_true] at h1 h2
  obtain ⟨i1,i2,i3⟩:=zjb as bs h1.2 h2.2
  refine ⟨by simp [PyData.showableKv,h1.1,h2.1,i1],?_,?_⟩
  ·simp only [List.zip_cons_cons,PyData.depthKv,PyData.depthAll]; omega
  ·simp only [List.zip_cons_cons,PyData.shownKv,PyData.shownAll,List.map_cons,List.sum_cons,strLen_append]
   have e1:(": " : Str).length=2:=by decide +kernel
   omega
mutual
theorem zgN:∀ {t:T},pl t=true→∃d,toD t=some d∧d.showable=true∧d.depth≤dep t∧d.shown.length≤wt t
 | .non,_=>⟨.none,rfl,rfl,by simp [PyData.depth,dep],by simp only [PyData.shown,wt]; exact Nat.le_of_eq (by decide +kernel)⟩
 | .bl b,_=>⟨.bool b,rfl,rfl,by simp [PyData.depth,dep],by
   simp only [PyData.shown,wt]
   cases b
   ·exact Nat.le_of_eq (by decide +kernel)
   ·exact Nat.le_of_lt (by decide +kernel)⟩
 | .int i,h=>⟨.int i,rfl,by simpa only [PyData.showable,pl] using h,by simp [PyData.depth,dep],by simp only [PyData.shown,wt]; exact Nat.le_refl _⟩
 | .str x,_=>⟨.str x,rfl,rfl,by simp [PyData.depth,dep],by simp only [PyData.shown,wt]; exact Nat.le_refl _⟩
 | .tup xs,h=>by
  simp only [pl] at h
  obtain ⟨ds,e1,e2,e3,e4⟩:=zeB h
  refine ⟨.tuple ds,by simp [toD,e1],by simp only [PyData.showable]; exact e2,by simp only [PyData.depth,dep]; omega,?_⟩
  simp only [PyData.shown,wt]
  have:=zm4 (PyData.shownAll ds)
  omega
 | .lst xs,h=>by
  simp only [pl] at h
  obtain ⟨ds,e1,e2,e3,e4⟩:=zeB h
  refine ⟨.list ds,by simp [toD,e1],by simp only [PyData.showable]; exact e2,by simp only [PyData.depth,dep]; omega,?_⟩
  simp only [PyData.shown,wt]
  have:=zm3 (PyData.shownAll ds)
  omega
 | .dct ks,h=>by
  simp only [pl] at h
  obtain ⟨ds,e1,e2,e3,e4⟩:=zjc h
  refine ⟨.dict ds,by simp [toD,e1],by simp only [PyData.showable]; exact e2,by simp only [PyData.depth,dep]; omega,?_⟩
  simp only [PyData.shown,wt]
  have:=zja (PyData.shownKv ds)
  omega
 | .dn ks us,h=>by
  simp only [pl,Bool.and_eq_true] at h
  obtain ⟨as,e1,e2,e3,e4⟩:=zeB h.1.1
  obtain ⟨bs,f1,f2,f3,f4⟩:=zeB h.1.2
  have hl:as.length=bs.length:=by rw [zgM e1,zgM f1]; exact Nat.eq_of_beq_eq_true h.2
  obtain ⟨i1,i2,i3⟩:=zjb as bs e2 f2
  refine ⟨.dict (as.zip bs),by simp [toD,e1,f1,hl],by simp only [PyData.showable]; exact i1,by simp only [PyData.depth,dep]; omega,?_⟩
  simp only [PyData.shown,wt]
  have:=zja (PyData.shownKv (as.zip bs))
  omega
 | .fz xs,h=>by simp [pl] at h
 | .ty n,h=>by simp [pl] at h
 | .ob n,h=>by simp [pl] at h
 | .ins c fs,h=>by simp [pl] at h
 | .exc c fs,h=>by simp [pl] at h
 | .cel i,h=>by simp [pl] at h
theorem zeB:∀ {ts:List T},plL ts=true→∃ds,zct ts=some ds∧PyData.showableAll ds=true∧PyData.depthAll ds≤zaU ts∧((PyData.shownAll ds).map fun t=>t.length + 2).sum≤wtL ts
 | [],_=>⟨[],rfl,rfl,by simp [PyData.depthAll,zaU],by simp [PyData.shownAll,wtL]⟩
 | t :: r,h=>by
  simp only [plL,Bool.and_eq_true] at h
  obtain ⟨d,a1,a2,a3,a4⟩:=zgN h.1
  obtain ⟨ds,b1,b2,b3,b4⟩:=zeB h.2
  refine ⟨d :: ds,by simp [zct,a1,b1],by simp [PyData.showableAll,a2,b2],?_,?_⟩
  ·simp only [PyData.depthAll,zaU]; omega
  ·simp only [PyData.shownAll,wtL,List.map_cons,List.sum_cons]; omega
theorem zjc:∀ {ts:List (Str × T)},plK ts=true→∃ds,zeA ts=some ds∧PyData.showableKv ds=true∧PyData.depthKv ds≤zbx ts∧((PyData.shownKv ds).map fun t=>t.length + 2).sum≤wtK ts
 | [],_=>⟨[],rfl,rfl,by simp [PyData.depthKv],by simp [PyData.shownKv,wtK]⟩
 | p :: r,h=>by
  simp only [plK,Bool.and_eq_true] at h
  obtain ⟨d,a1,a2,a3,a4⟩:=zgN h.1
  obtain ⟨ds,b1,b2,b3,b4⟩:=zjc h.2
  refine ⟨(.str p.1,d) :: ds,by simp [zeA,a1,b1],by simp [PyData.showableKv,PyData.showable,a2,b2],?_,?_⟩
  ·simp only [PyData.depthKv,PyData.depth,zbx]; omega
  ·simp only [PyData.shownKv,wtK,List.map_cons,List.sum_cons,strLen_append]
   have e1:(": " : Str).length=2:=by decide +kernel
   have e2:(PyData.shown (.str p.1)).length=(reprText p.1).length:=by simp only [PyData.shown]
   omega
end
end Z
end
section
namespace Z
open PySem PySem.Spec PyProof.Rows L2 PySem.SeqAt
structure Cgt (X:Cx) (pins:List (Addr × Obj)) (σ : L2.St) (H:Hp) (cls:Value) (d:Option Addr) (a:Addr) (s:Shared):Prop where
 na:H a=none
 ag:AllBare s.gens
 old:∃ (B:Heap) (sI:Shared),HandSPX.FlyingZ B (X.env :: X.outer) a (Zc cls d) s.heap∧Inv X pins σ H sI∧(∀ b o,sI.heap.get? b=some o→b∉frs X.stack→B.get? b=some o)∧sI.heap.UpToSlots s.heap∧s.os=sI.os
section
variable {X:Cx} {pins:List (Addr × Obj)} {σ : L2.St} {H:Hp} {cls:Value} {d:Option Addr} {a:Addr} {s:Shared}
theorem Cgt.inv (c:Cgt X pins σ H cls d a s):Inv X pins σ H s:=by
 obtain ⟨B,sI,fl,J,nb,up,os⟩:=c.old
 exact J.landed nb fl.1 up os c.ag
theorem Cgt.suite (c:Cgt X pins σ H cls d a s) (hf:X.env.frame=some X.env.locals):∃ oe,Zc cls d oe∧(∃ vs,oe.data = .fields vs)∧s.heap.get? a=some oe∧Inv (X.suite a ((a,oe) :: (X.pn ++ pins))) [] σ H s:=by
 obtain ⟨B,sI,fl,J,nb,up,os⟩:=id c.old
 obtain ⟨oe,vs,he,hz,hd⟩:=fl.there
 have out:a∉frs (X.env :: X.outer):=fun hm=>by
  obtain ⟨_,o',e',hnf⟩:=fl.2.2.1.mem hm
  have q:=he.symm.trans e'
  injection q with q
  exact hnf vs (q ▸ hd)
 refine ⟨oe,hz,⟨vs,hd⟩,he,c.inv.suite he hd c.na (fun z=>out ?_) fun hm=>out ?_⟩
 ·exact List.mem_filterMap.mpr ⟨X.env,List.mem_cons_self,by rw [hf,z]⟩
 ·obtain ⟨e,h1,h2⟩:=List.mem_filterMap.mp hm
  exact List.mem_filterMap.mpr ⟨e,List.mem_cons_of_mem _ h1,h2⟩
end
abbrev HT:=Value × Option Nat × (Addr→Value→Option Addr→TS)
def zm5 (D:Ends) (i:Nat):Ends:={nx:=fun σ' H'=>D.nx (σ'.set i none) H',rt:=D.rt,bk:=fun σ' H'=>D.bk (σ'.set i none) H',ct:=fun σ' H'=>D.ct (σ'.set i none) H'}
def wN (K:PySem.W.Frag) (Wout:WX) (D:Ends):List HT→WX
 | []=>Wout
 | (c,i,ts) :: r=>fun cls d σ H => ∃ b,PySem.W.exmOne K cls c=some b∧(b=true→∀a,H a=none→match i with
   | none=>ts a cls d D σ H
   | some i=>ts a cls d (zm5 D i) (σ.set i (some (.ref a))) H)∧(b=false→wN K Wout D r cls d σ H)
inductive HN (X:Cx):List ExceptHandler→List HT→Prop
 | nil:HN X [] []
 | bare {x:Str} {c:Value} {ts:Addr→Value→Option Addr→TS} {b₀ : Stmt} {suite:List Stmt} {np pos':Pos} {hds:List ExceptHandler} {l:List HT} (hc:Names X x c)
   (hsu:∀ (a:Addr) (oe:Obj) (cls:Value) (d:Option Addr) (pn:List (Addr × Obj)),Zc cls d oe→(∃ vs,oe.data = .fields vs)→PSs (X.suite a ((a,oe) :: pn)) (b₀ :: suite) (ts a cls d)) (r:HN X hds l) :
   HN X (.ExceptHandler (some (.Name x np)) none (b₀ :: suite) pos' :: hds) ((c,none,ts) :: l)
 | as {x n:Str} {i:Nat} {c:Value} {ts:Addr→Value→Option Addr→TS} {b₀ : Stmt} {suite:List Stmt} {np pos':Pos} {hds:List ExceptHandler} {l:List HT} (hN:X.N.Nodup) (hi:X.N[i]?=some n) (hln:X.env.kindOf n=some .local) (hc:Names X x c)
   (hsu:∀ (a:Addr) (oe:Obj) (cls:Value) (d:Option Addr) (pn:List (Addr × Obj)),Zc cls d oe→(∃ vs,oe.data = .fields vs)→PSs (X.suite a ((a,oe) :: pn)) (b₀ :: suite) (ts a cls d)) (r:HN X hds l) :
   HN X (.ExceptHandler (some (.Name x np)) (some n) (b₀ :: suite) pos' :: hds) ((c,some i,ts) :: l)
section
variable {X:Cx} {pins:List (Addr × Obj)} {σ : L2.St} {H:Hp} {cls:Value} {d:Option Addr} {a:Addr} {s:Shared} {D:Ends} {Wout:WX}
theorem Cgt.test (c:Cgt X pins σ H cls d a s) (hf:X.env.frame=some X.env.locals) {x:Str} {cv:Value} {np:Pos} (hc:Names X x cv) {Q:Value→Shared→Prop} {E:Value→Shared→Prop} (q:Q cv s):wpAny (model X.prog X.w) (X.A.mark (some (.ref a))) (eval (.Name x np) X.env) Q E s:=by
 obtain ⟨oe,hz,hv,he,S⟩:=c.suite hf
 obtain ⟨hg,hdbg,hm | hm⟩:=hc
 ·exact ld_glob (X:=X.suite a ((a,oe) :: (X.pn ++ pins))) S hg hm q hdbg
 ·exact ld_blt (X:=X.suite a ((a,oe) :: (X.pn ++ pins))) S hg hm.1 hm.2.1 q hm.2.2 hdbg
theorem Cgt.looks (c:Cgt X pins σ H cls d a s) {cv:Value} {b:Bool} (e:PySem.W.exmOne X.K cls cv=some b) (hf:X.env.frame=some X.env.locals):PySem.W.Looks (model X.prog X.w) s.heap (excMatches (.ref a) cv) b:=by
 obtain ⟨oe,hz,hv,he,S⟩:=c.suite hf
 exact PySem.W.exm_one c.inv.kIn (fun A Q E s2 k q=>wpAny_typeOf_ref (k _ _ he) (by rw [hz.1]; exact q)) e
theorem Cgt.again (c:Cgt X pins σ H cls d a s) {Q:Unit→Shared→Prop} {E:Value→Shared→Prop} {A:Around} (h:∀ s',Cgt X pins σ H cls d a s'→Q () s'):wpAny (model X.prog X.w) A (setFlight (.ref a) none) Q E s:=by
 obtain ⟨B,sI,fl,J,nb,up,os⟩:=c.old
 exact HandSPX.lands_againZ fl fun h4 fl4 up4=>h _ ⟨c.na,c.ag,B,sI,fl4,J,nb,up.trans up4,os⟩
theorem Cgt.pass (c:Cgt X pins σ H cls d a s) (hs:X.stack=X.env :: X.outer) (hf:X.env.frame=some X.env.locals) (tk:Takes X Wout) (w:Wout cls d σ H):wpAny (model X.prog X.w) X.A (handleBy (.ref a) X.env []) (SP X pins D) X.xe s:=by
 obtain ⟨B,sI,fl,J,nb,up,os⟩:=id c.old
 refine wpAny_handleBy_nil ?_
 obtain ⟨_,_,_,oe,vs,T,oT,ts',he,hz,hd,h1,hr⟩:=id fl
 have fin:wpAny (model X.prog X.w) X.A (setFlight (.ref a) X.env.frame) (fun _ s4=>wpAny (model X.prog X.w) X.A (throw (.ref a):Sem Flow) (SP X pins D) X.xe s4) X.xe s:=by
  rw [hf]
  exact HandSPX.setFlight_upZ fl fun h4 hh4 up4=>wpAny_throw (tk _ _ ⟨a,B,sI,pins,σ,H,cls,d,rfl,J,nb,up.trans up4,.inr (.inr (by rw [hs]; exact hh4)),c.na,os,c.ag,w⟩)
 unfold PySem.passOn
 refine wpAny_bind (wpAny_field he hd h1 ?_)
 rw [if_neg (show¬((Value.ref T == Value.none)=true) from by simp)]
 first
  | exact wpAny_bind (wpAny_pure (wpAny_bind fin))
  | exact wpAny_bind fin
theorem Cgt.go (c:Cgt X pins σ H cls d a s) (hs:X.stack=X.env :: X.outer) (hf:X.env.frame=some X.env.locals) (tk:Takes X Wout) (ok:X.Ok) {hds:List ExceptHandler} {l:List HT} (hk:HN X hds l) :
  wN X.K Wout D l cls d σ H→wpAny (model X.prog X.w) X.A (handleBy (.ref a) X.env hds) (SP X pins D) X.xe s:=by
 induction hk with
 | nil=>exact fun w=>c.pass hs hf tk w
 | bare hc hsu r ih=>
  rintro ⟨b,hb1,hyes,hno⟩
  refine wpAny_handleBy_cons (codeAny_handlers_test (c.test hf hc ((c.looks hb1 hf).here ?_))) (by intro q; cases q)
  cases b with
  | false=>exact ih (hno rfl)
  | true=>
   refine codeAny_handlers_suite (c.again fun s4 c4=>?_)
   obtain ⟨oe,hz,hv,he,S⟩:=c4.suite hf
   refine wpAny_mono ((hsu a oe cls d (X.pn ++ pins) hz hv).run [] _ _ H _ S (hyes rfl a c4.na)) (fun f s6 q=>?_) (fun _ _ z=>False.elim z)
   cases f with
   | ret u=>obtain ⟨v,σ6,H6,S6,z⟩:=q; exact ⟨v,σ6,H6,S6.unsuite ok,z⟩
   | next=>obtain ⟨σ6,H6,S6,z⟩:=q; exact ⟨σ6,H6,S6.unsuite ok,z⟩
   | brk=>obtain ⟨σ6,H6,S6,z⟩:=q; exact ⟨σ6,H6,S6.unsuite ok,z⟩
   | cont=>obtain ⟨σ6,H6,S6,z⟩:=q; exact ⟨σ6,H6,S6.unsuite ok,z⟩
 | as hN hi hln hc hsu r ih=>
  rintro ⟨b,hb1,hyes,hno⟩
  refine wpAny_handleBy_cons (codeAny_handlers_test (c.test hf hc ((c.looks hb1 hf).here ?_))) (by intro q; cases q)
  cases b with
  | false=>exact ih (hno rfl)
  | true=>
   refine codeAny_handlers_suite_as (c.again fun s4 c4=>?_)
   obtain ⟨oe,hz,hv,he,S⟩:=c4.suite hf
   refine store_ok (X:=X.suite a ((a,oe) :: (X.pn ++ pins))) (v := .ref a) S hN hi (.inl hln) rfl (fun s5 S5=>?_) (.inr hln)
   refine wpAny_mono ((hsu a oe cls d (X.pn ++ pins) hz hv).run [] s5 _ H _ S5 (hyes rfl a c4.na)) (fun f s6 q=>?_) (fun _ _ z=>False.elim z)
   cases f with
   | ret u=>obtain ⟨v,σ6,H6,S6,z⟩:=q; exact gone_ok (S6.unsuite ok) hN hi hln fun s7 J7=>⟨v,_,H6,J7,z⟩
   | next=>obtain ⟨σ6,H6,S6,z⟩:=q; exact gone_ok (S6.unsuite ok) hN hi hln fun s7 J7=>⟨_,H6,J7,z⟩
   | brk=>obtain ⟨σ6,H6,S6,z⟩:=q; exact gone_ok (S6.unsuite ok) hN hi hln fun s7 J7=>⟨_,H6,J7,z⟩
   | cont=>obtain ⟨σ6,H6,S6,z⟩:=q; exact gone_ok (S6.unsuite ok) hN hi hln fun s7 J7=>⟨_,H6,J7,z⟩
end
section
variable {X:Cx} {body:List Stmt} {h₀ : ExceptHandler} {hds:List ExceptHandler} {l:List HT} {pos:Pos} {tb:WX→TS} {Wout:WX}
end
end Z
end
section
namespace Z
open PySem PySem.Spec PyProof.Rows L2 PySem.SeqAt
mutual
/-- the classes that a value's instances have are all ok -/
def inT (ok:Str→Bool):T→Bool
 | .tup xs=>zcv ok xs
 | .lst xs=>zcv ok xs
 | .fz xs=>zcv ok xs
 | .dn ks us=>zcv ok ks && zcv ok us
 | .dct ks=>zcw ok ks
 | .ins _ fs=>zcw ok fs
 | .exc c fs=>ok c && zcw ok fs
 | _=>true
def zcv (ok:Str→Bool):List T→Bool
 | []=>true
 | t :: r=>inT ok t && zcv ok r
def zcw (ok:Str→Bool):List (Str × T)→Bool
 | []=>true
 | p :: r=>inT ok p.2 && zcw ok r
end
structure Sx (C C':Cfg) (ok:Str→Bool):Prop where
 K:C'.K=C.K
 ga:C'.ga=C.ga
 hid:C'.hid=C.hid
 tb:C'.tb=C.tb
 xd:∀ a c dd,C.xd a=some (c,dd)→ok c=true→C'.xd a=some (c,dd)
 tx:TX C→TX C'
section
variable {C C':Cfg} {ok:Str→Bool} {mu mu':Mu} {H H':Hp} {M:Mem} {s:Sg} {σ : L2.St}
theorem Sx.av (S:Sx C C' ok) {a:Addr} (h:Av C mu a):Av C' mu a:=⟨h.1,by rw [S.hid]; exact h.2⟩
mutual
theorem Rep.sx (S:Sx C C' ok):∀ {t:T} {v:V},inT ok t=true→Rep C mu H t v→Rep C' mu H t v
 | _,_,_,.non => .non
 | _,_,_,.bl b => .bl b
 | _,_,_,.int i => .int i
 | _,_,_,.str x => .str x
 | _,_,_,.ty n => .ty n
 | _,_,_,.ob x=>by rw [← S.ga]; exact .ob x
 | _,_,n,.tup h r => .tup (h.elim (fun q => .inl ⟨q.1,S.av q.2⟩) fun q => .inr (by rw [S.K]; exact q)) (RepL.sx S (by simpa only [inT] using n) r)
 | _,_,n,.lst h r => .lst ⟨h.1,S.av h.2⟩ (RepL.sx S (by simpa only [inT] using n) r)
 | _,_,n,.fz h r => .fz ⟨h.1,S.av h.2⟩ (RepL.sx S (by simpa only [inT] using n) r)
 | _,_,n,.dn h d r q=>by
  simp only [inT,Bool.and_eq_true] at n
  exact .dn ⟨h.1,S.av h.2⟩ d (RepL.sx S n.1 r) (RepL.sx S n.2 q)
 | _,_,n,.dct h r => .dct ⟨h.1,S.av h.2⟩ (RepD.sx S (by simpa only [inT] using n) r)
 | _,_,n,.ins h r => .ins (by rw [S.ga]; exact ⟨h.1,S.av h.2⟩) (RepF.sx S (by simpa only [inT] using n) r)
 | _,_,n,.exc hx h q r=>by
  simp only [inT,Bool.and_eq_true] at n
  exact .exc (hx.imp (fun z=>S.xd _ _ _ z n.1) fun z=>⟨S.tx z.1,by rw [S.ga]; exact z.2.1,S.av z.2.2⟩) h (S.av q) (RepF.sx S n.2 r)
 | _,_,_,.cel h q => .cel h q
theorem RepL.sx (S:Sx C C' ok):∀ {t:List T} {v:List V},zcv ok t=true→RepL C mu H t v→RepL C' mu H t v
 | _,_,_,.nil => .nil
 | _,_,n,.cons h r=>by
  simp only [zcv,Bool.and_eq_true] at n
  exact .cons (Rep.sx S n.1 h) (RepL.sx S n.2 r)
theorem RepD.sx (S:Sx C C' ok):∀ {t:List (Str × T)} {v:List (Key × V)},zcw ok t=true→RepD C mu H t v→RepD C' mu H t v
 | _,_,_,.nil => .nil
 | _,_,n,.cons h r=>by
  simp only [zcw,Bool.and_eq_true] at n
  exact .cons (Rep.sx S n.1 h) (RepD.sx S n.2 r)
theorem RepF.sx (S:Sx C C' ok):∀ {t:List (Str × T)} {v:List (Str × V)},zcw ok t=true→RepF C mu H t v→RepF C' mu H t v
 | _,_,_,.nil => .nil
 | _,_,n,.cons h r=>by
  simp only [zcw,Bool.and_eq_true] at n
  exact .cons (Rep.sx S n.1 h) (RepF.sx S n.2 r)
end
theorem Ext.sx (S:Sx C C' ok) (x:Ext C mu H mu' H'):Ext C' mu H mu' H':=⟨x.len,x.keep,x.rd,x.obj,by rw [S.hid]; exact x.hid,x.own,x.ex⟩
def inC (ok:Str→Bool):Cell→Bool
 | .dead=>true
 | .live t=>inT ok t
 | .lock t=>inT ok t
def inS (ok:Str→Bool):Option T→Bool
 | none=>true
 | some t=>inT ok t
theorem CU.sx (S:Sx C C' ok) {t:T} {u:HO} (n:inT ok t=true) (h:CU C mu H t u):CU C' mu H t u:=by
 unfold CU at h ⊢
 split at h
 ·exact RepL.sx S (by simpa only [inT] using n) h
 ·exact RepD.sx S (by simpa only [inT] using n) h
 ·exact ⟨by rw [S.ga]; exact h.1,RepF.sx S (by simpa only [inT] using n) h.2⟩
 ·exact h.elim
theorem RM.sx (S:Sx C C' ok) (n:M.all (inC ok)=true) (R:RM C mu M H):RM C' mu M H:=by
 refine ⟨R.len,fun i t h=>?_,fun i t h=>?_,R.dead,R.inj,by rw [S.hid]; exact R.hid,by rw [S.hid]; exact R.nh,by rw [S.tb]; exact R.tabs,by rw [S.hid,S.tb]; exact R.nht⟩
 ·obtain ⟨a,u,h1,h2,h3⟩:=R.cell i t h
  exact ⟨a,u,h1,h2,CU.sx S (List.all_eq_true.mp n _ (List.mem_of_getElem? h)) h3⟩
 ·obtain ⟨a,od,u,h1,h2,h3⟩:=R.lock i t h
  exact ⟨a,od,u,h1,h2,CU.sx S (List.all_eq_true.mp n _ (List.mem_of_getElem? h)) h3⟩
theorem RS.sx (S:Sx C C' ok) (n:s.all (inS ok)=true) (R:RS C mu H s σ):RS C' mu H s σ := by
 refine ⟨R.1,fun i t h=>?_⟩
 obtain ⟨v,h1,h2⟩:=R.2 i t h
 exact ⟨v,h1,Rep.sx S (List.all_eq_true.mp n _ (List.mem_of_getElem? h)) h2⟩
end
end Z
end
section
namespace Z
open PySem PySem.Spec PyProof.Rows L2 PySem.SeqAt
structure HC where
 hit:Str→Option Bool
 slot:Option Nat
 su:DS
mutual
theorem zjd:∀ t:T,inT (fun _=>true) t=true
 | .non=>rfl
 | .bl _=>rfl
 | .int _=>rfl
 | .str _=>rfl
 | .ty _=>rfl
 | .ob _=>rfl
 | .cel _=>rfl
 | .tup xs=>by simp only [inT]; exact zdO xs
 | .lst xs=>by simp only [inT]; exact zdO xs
 | .fz xs=>by simp only [inT]; exact zdO xs
 | .dn ks us=>by simp only [inT,Bool.and_eq_true]; exact ⟨zdO ks,zdO us⟩
 | .dct ks=>by simp only [inT]; exact zft ks
 | .ins _ fs=>by simp only [inT]; exact zft fs
 | .exc _ fs=>by simp only [inT,Bool.true_and]; exact zft fs
theorem zdO:∀ xs:List T,zcv (fun _=>true) xs=true
 | []=>rfl
 | t :: r=>by simp only [zcv,zjd t,zdO r,Bool.and_self]
theorem zft:∀ xs:List (Str × T),zcw (fun _=>true) xs=true
 | []=>rfl
 | (_,t) :: r=>by simp only [zcw,zjd t,zft r,Bool.and_self]
end
inductive Hits (K:PySem.W.Frag) (C:Cfg):List HC→List Value→Prop
 | nil:Hits K C [] []
 | cons {h:HC} {cv:Value} {cs:List HC} {cvs:List Value}:(∀ cls b,h.hit cls=some b→PySem.W.exmOne K (.ref (C.ga cls)) cv=some b)→Hits K C cs cvs→Hits K C (h :: cs) (cv :: cvs)
end Z
end
section
namespace Z
open PySem PySem.Spec PyProof.Rows L2 PySem.SeqAt
def zeC (f:Str) (t:T):List (Str × T)→List (Str × T)
 | [] => [(f,t)]
 | p :: r=>if p.1=f then (p.1,t) :: r else p :: zeC f t r
section
variable {C:Cfg} {mu:Mu} {M:Mem} {H:Hp} {t:T} {v:V} {c:Str} {fs:List (Str × T)}
theorem RepF.length:∀ {fs:List (Str × T)} {ws:List (Str × V)},RepF C mu H fs ws→fs.length=ws.length
 | _,_,.nil=>rfl
 | _,_,.cons _ r=>by rw [List.length_cons,List.length_cons,RepF.length r]
theorem RepF.set {f:Str}:∀ {fs:List (Str × T)} {ws:List (Str × V)},RepF C mu H fs ws→Rep C mu H t v→RepF C mu H (zeC f t fs) (putF f v ws)
 | _,_,.nil,h => .cons h .nil
 | _,_,.cons (k:=k) r rr,h=>by
  unfold zeC putF
  simp only
  by_cases q:k=f
  ·rw [if_pos q,if_pos q]; exact .cons h rr
  ·rw [if_neg q,if_neg q]; exact .cons r (RepF.set rr h)
end
section
variable {X:Cx} {C:Cfg} {W:WX} {o e:Expr} {f:Str} {pos pos' tpos:Pos} {do_ de:DE} {cs:List Str}
end
section
variable {P:Program} {w:World} {K:PySem.W.Frag} {mg:Str→Option Value} {base:Heap} {J:Ix} {k n:Nat} {X:Cx} {C:Cfg} {W:WX} {m:Str} {apos pos p:Pos} {o e:Expr} {es:List Expr} {do_:DE} {da:DA} {hid:Addr→Prop} {tab:Str→Option DF} {run:DF→DF}
end
section
variable {X:Cx} {CX:CXT} {k:Nat} {f Ca:Addr} {fd:FuncData} {ps:List Str} {sp:Sp} {E:XK}
end
section
variable {P:Program} {w:World} {K:PySem.W.Frag} {mg:Str→Option Value} {base:Heap} {J:Ix} {k j n:Nat} {X:Cx} {C:Cfg} {W:WX} {c:Str} {pos p:Pos} {e:Expr} {es:List Expr} {da:DA} {hid:Addr→Prop} {new:Str→DF→DF} {F:DF}
end
end Z
end
section
namespace Z
open PySem PySem.Spec PyProof.Rows L2 PySem.SeqAt PpSet
def zgO (e:Int × Value):Str:=match e.2 with
 | .str k _=>k
 | _=>Str.empty
def zje (w:World) (e:Int × Value):Prop := ∃ k t,e=(hashStr w k,Value.str k t)
structure Few (t:SetTable) (n:Nat):Prop where
 dm:t.dummies = #[]
 big:7≤t.mask
 none:n=0→t.mask=7∨t.mask=15∨t.mask=31
def SetL (w:World) (h:Heap) (a:Addr) (ks:List Str):Prop:=
 ∃ o es ep t,h.get? a=some o∧o.ExactSet∧o.data = .set es ep t∧(∀ e∈es.toList,zje w e)∧(es.toList.map zgO).Perm ks∧ks.Nodup∧es.size < scanBound∧t.fits es.size=true∧Ris t.place.toList ∧
  (w.params.followText "set-order" = true∨t.led=true)∧Few t es.size
section
variable {P:Program} {w:World} {h h':Heap} {a:Addr} {ks ks':List Str}
theorem SetL.at (R:SetL w h a ks) (k:∀ o,h.get? a=some o→h'.get? a=some o):SetL w h' a ks:=by
 obtain ⟨o,es,ep,t,ho,r⟩:=R
 exact ⟨o,es,ep,t,k o ho,r⟩
end
section
variable {P:Program} {w:World} {A:Around} {E:Value→Shared→Prop} {s:Shared} {a:Addr} {ks:List Str}
end
section
variable {X:Cx} {pins:List (Addr × Obj)} {σ : L2.St} {H:Hp} {s:Shared} {E:Value→Shared→Prop} {D:Addr} {ks:List Str} {y:Str} {tk:Tok} {Q:Value→Shared→Prop}
end
end Z
end
section
namespace Z
open PySem PySem.Spec PyProof.Rows L2 PySem.SeqAt
abbrev DJ:Type:=Str→Sg→Mem→Out Str
def zjf:DJ:=fun acc _ M => .ok acc M
def zjg (d:DE) (r:DJ):DJ:=fun acc s M=>(d s M).bind fun t M1=>match t with
 | .str y=>if (acc ++ y).length≤LIM then r (acc ++ y) s M1 else .no
 | _ => .no
inductive FJ (X:Cx) (C:Cfg) (W:WX):List Expr→DJ→Prop
 | nil:FJ X C W [] zjf
 | cons {e:Expr} {es:List Expr} {d:DE} {j:DJ}:PE X e (TEz C W d)→FJ X C W es j→FJ X C W (e :: es) (zjg d j)
section
variable {X:Cx} {C:Cfg} {W:WX}
theorem FJ.run {es:List Expr} {j:DJ} (h:FJ X C W es j):∃ ts,PJ X es ts∧∀(acc:Str) (mu:Mu) (s:Sg) (M:Mem) (H:Hp) (σ : L2.St) (Q:Str→Hp→Prop),RM C mu M H→RS C mu H s σ →
  Post C mu H (j acc s M) (fun _ _ a b=>a=b) Q (fun c dd H'=>W c dd σ H')→tJs ts acc σ H Q:=by
 induction h with
 | nil=>exact ⟨[],.nil,fun acc mu s M H σ Q R S P=>P mu acc H R Ext.refl rfl⟩
 | @cons e es d j he r ih=>
  obtain ⟨ts,pj,run⟩:=ih
  refine ⟨_,.cons he pj,fun acc mu s M H σ Q R S P=>⟨mu,s,M,R,S,P.bind fun t M1 mu1 x H1 R1 E1 r1 P1=>?_⟩⟩
  cases t with
  | str y=>
   have P2:Post C mu1 H1 (if (acc ++ y).length≤LIM then j (acc ++ y) s M1 else .no) (fun _ _ a b=>a=b) Q (fun c dd H'=>W c dd σ H'):=P1
   cases r1
   by_cases c:(acc ++ y).length≤LIM
   ·rw [if_pos c] at P2
    exact ⟨y,rfl,by rw [← zbC]; exact c,run _ mu1 s M1 H1 σ Q R1 (S.mono E1.rx) P2⟩
   ·rw [if_neg c] at P2
    exact P2.elim
  | _=>exact P1.elim
end
end Z
end
section
namespace Z
open PySem PySem.Spec PyProof.Rows L2 PySem.SeqAt
def noEr (o:Out T):Out T:=match o with
 | .ok u M => .ok u M
 | _ => .no
section
variable {P:Program} {w:World} {K:PySem.W.Frag} {mg:Str→Option Value} {base:Heap} {J:Ix} {k n:Nat} {X:Cx} {C:Cfg} {W:WX} {m c:Str} {apos pos p:Pos} {o e:Expr} {es:List Expr} {do_:DE} {da:DA} {hid:Addr→Prop} {tab:Str→Option DF} {run:DF→DF} {F:DF}
end
end Z
end
section
namespace Z
open PySem PySem.Spec PyProof.Rows L2 PySem.SeqAt
mutual
def shT (n:Nat):T→T
 | .cel i => .cel (i + n)
 | .tup xs => .tup (shL n xs)
 | .lst xs => .lst (shL n xs)
 | .fz xs => .fz (shL n xs)
 | .dn ks us => .dn (shL n ks) (shL n us)
 | .dct ks => .dct (shF n ks)
 | .ins c fs => .ins c (shF n fs)
 | .exc c fs => .exc c (shF n fs)
 | .non => .non
 | .bl b => .bl b
 | .int i => .int i
 | .str x => .str x
 | .ty x => .ty x
 | .ob x => .ob x
def shL (n:Nat):List T→List T
 | [] => []
 | t :: r=>shT n t :: shL n r
def shF (n:Nat):List (Str × T)→List (Str × T)
 | [] => []
 | (k,t) :: r=>(k,shT n t) :: shF n r
end
def shC (n:Nat):Cell→Cell
 | .dead => .dead
 | .live t => .live (shT n t)
 | .lock t => .lock (shT n t)
structure Shf (C C':Cfg) (n:Nat) (mu mu':Mu) (H:Hp):Prop where
 K:C'.K=C.K
 gx:C'.gx=C.gx
 av:∀ (a:Addr) (o:HO),H a=some o→Av C mu a→Av C' mu' a
 lt:∀ i:Nat,i < mu.length→i + n < mu'.length
 at_:∀ (i:Nat) (a:Addr),i < mu.length→mu'[i + n]?=some (some a)→mu[i]?=some (some a)
section
variable {C C':Cfg} {mu mu':Mu} {H:Hp} {n:Nat}
mutual
theorem Rep.sh (S:Shf C C' n mu mu' H):∀ {t:T} {v:V},Rep C mu H t v→Rep C' mu' H (shT n t) v
 | _,_,.non=>by simp only [shT]; exact .non
 | _,_,.bl b=>by simp only [shT]; exact .bl b
 | _,_,.int i=>by simp only [shT]; exact .int i
 | _,_,.str x=>by simp only [shT]; exact .str x
 | _,_,.ty x=>by simp only [shT]; exact .ty x
 | _,_,.ob x=>by simp only [shT]; rw [← zbW S.gx]; exact .ob x
 | _,_,.tup h r=>by
  simp only [shT]
  refine .tup ?_ (RepL.sh S r)
  rcases h with h | h
  ·exact .inl ⟨h.1,S.av _ _ h.1 h.2⟩
  ·rw [← S.K] at h; exact .inr h
 | _,_,.lst h r=>by simp only [shT]; exact .lst ⟨h.1,S.av _ _ h.1 h.2⟩ (RepL.sh S r)
 | _,_,.fz h r=>by simp only [shT]; exact .fz ⟨h.1,S.av _ _ h.1 h.2⟩ (RepL.sh S r)
 | _,_,.dn h d r q=>by simp only [shT]; exact .dn ⟨h.1,S.av _ _ h.1 h.2⟩ d (RepL.sh S r) (RepL.sh S q)
 | _,_,.dct h r=>by simp only [shT]; exact .dct ⟨h.1,Av.chg S.av h.1 h.2⟩ (RepD.sh S r)
 | _,_,.ins h r=>by simp only [shT]; exact .ins (by rw [zbW S.gx]; exact ⟨h.1,S.av _ _ h.1 h.2⟩) (RepF.sh S r)
 | _,_,.exc hx h q r=>by simp only [shT]; exact .exc (hx.at_ S.gx S.av) h (S.av _ _ h q) (RepF.sh S r)
 | _,_,.cel h q=>by simp only [shT]; exact .cel (S.lt _ h) fun a k=>q a (S.at_ _ a h k)
theorem RepL.sh (S:Shf C C' n mu mu' H):∀ {t:List T} {v:List V},RepL C mu H t v→RepL C' mu' H (shL n t) v
 | _,_,.nil=>by simp only [shL]; exact .nil
 | _,_,.cons h r=>by simp only [shL]; exact .cons (Rep.sh S h) (RepL.sh S r)
theorem RepD.sh (S:Shf C C' n mu mu' H):∀ {t:List (Str × T)} {v:List (Key × V)},RepD C mu H t v→RepD C' mu' H (shF n t) v
 | _,_,.nil=>by simp only [shF]; exact .nil
 | _,_,.cons h r=>by simp only [shF]; exact .cons (Rep.sh S h) (RepD.sh S r)
theorem RepF.sh (S:Shf C C' n mu mu' H):∀ {t:List (Str × T)} {v:List (Str × V)},RepF C mu H t v→RepF C' mu' H (shF n t) v
 | _,_,.nil=>by simp only [shF]; exact .nil
 | _,_,.cons h r=>by simp only [shF]; exact .cons (Rep.sh S h) (RepF.sh S r)
end
theorem CU.sh (S:Shf C C' n mu mu' H) {t:T} {u:HO} (h:CU C mu H t u):CU C' mu' H (shT n t) u:=by
 unfold CU at h
 split at h
 ·simp only [shT]; exact RepL.sh S h
 ·simp only [shT]; exact RepD.sh S h
 ·simp only [shT]; exact ⟨by rw [zbW S.gx]; exact h.1,RepF.sh S h.2⟩
 ·exact h.elim
theorem zm6 {c:Cell} {t:T} (h:shC n c = .live t):∃ t0,c = .live t0∧t=shT n t0:=by
 cases c with
 | dead=>cases h
 | live t0=>cases h; exact ⟨t0,rfl,rfl⟩
 | lock t0=>cases h
theorem zm7 {c:Cell} {t:T} (h:shC n c = .lock t):∃ t0,c = .lock t0∧t=shT n t0:=by
 cases c with
 | dead=>cases h
 | live t0=>cases h
 | lock t0=>cases h; exact ⟨t0,rfl,rfl⟩
theorem zm8 {c:Cell} (h:shC n c = .dead):c = .dead:=by
 cases c with
 | dead=>rfl
 | live t0=>cases h
 | lock t0=>cases h
theorem zeD {α : Type} {l r:List α} {i:Nat} {x : α} (h:(l ++ r)[i]?=some x):(i < l.length∧l[i]?=some x)∨(l.length≤i∧r[i - l.length]?=some x):=by
 by_cases hi:i < l.length
 ·rw [List.getElem?_append_left hi] at h; exact .inl ⟨hi,h⟩
 ·rw [List.getElem?_append_right (Nat.le_of_not_lt hi)] at h; exact .inr ⟨Nat.le_of_not_lt hi,h⟩
end
def joinM (M M':Mem):Mem:=M ++ M'.map (shC M.length)
section
variable {C:Cfg} {mu mu':Mu} {M M':Mem} {H H':Hp}
theorem RM.join (R:RM C mu M H) (x:Ext (C.with fun a=>C.hid a∨some a∈mu) [] H mu' H') (R':RM (C.with fun a=>C.hid a∨some a∈mu) mu' M' H') :
  RM C (mu ++ mu') (joinM M M') H'∧Ext C mu H (mu ++ mu') H'∧Shf (C.with fun a=>C.hid a∨some a∈mu) C M.length mu' (mu ++ mu') H':=by
 have E:Ext C mu H (mu ++ mu') H':=by
  refine ⟨by simp,fun i a hi h=>by rw [List.getElem?_append_left hi] at h; exact h,fun a u h _=>x.rd a u h (by simp),fun a o h _ d=>x.obj a o h (by simp) d,fun a o h _ d=>x.hid a o h (by simp) (.inl d),fun a o h q z=>?_,fun a o h _=>x.ex a o h (by simp)⟩
  rcases List.mem_append.mp z with z | z
  ·exact q z
  ·exact x.own a o h (by simp) z
 have S:Shf (C.with fun a=>C.hid a∨some a∈mu) C M.length mu' (mu ++ mu') H':=by
  refine ⟨rfl,rfl,fun a o h q=>⟨fun z=>?_,fun z=>q.2 (.inl z)⟩,fun i hi=>by rw [List.length_append,R.len]; omega,fun i a hi h=>?_⟩
  ·rcases List.mem_append.mp z with z | z
   ·exact q.2 (.inr z)
   ·exact q.1 z
  ·rw [← R.len,List.getElem?_append_right (by omega)] at h
   have e:i + mu.length - mu.length=i:=by omega
   rw [e] at h
   exact h
 have zgP:∀ (a:Addr) (o:HO),some a∈mu→H a=some o→H' a=some o:=fun a o hm h=>x.hid a o h (by simp) (.inr hm)
 have left:∀ (i:Nat) (a:Option Addr),mu[i]?=some a→(mu ++ mu')[i]?=some a:=fun i a h=>by
  have hi:i < mu.length:=(List.getElem?_eq_some_iff.mp h).1
  rw [List.getElem?_append_left hi]; exact h
 have right:∀ (i:Nat) (a:Option Addr),M.length≤i→mu'[i - M.length]?=some a→(mu ++ mu')[i]?=some a:=fun i a hi h=>by
  rw [List.getElem?_append_right (by rw [R.len]; exact hi),R.len]; exact h
 refine ⟨⟨?_,fun i t h=>?_,fun i t h=>?_,fun i h=>?_,fun i j a h1 h2=>?_,fun a h=>R'.hid a (.inl h),fun a h z=>?_,R'.tabs,fun a h=>R'.nht a (.inl h)⟩,E,S⟩
 ·unfold joinM
  rw [List.length_append,List.length_append,List.length_map,R.len,R'.len]
 ·rcases zeD h with ⟨hi,h⟩ | ⟨hi,h⟩
  ·obtain ⟨a,u,h1,h2,h3⟩:=R.cell i t h
   exact ⟨a,u,left i _ h1,zgP a u (List.mem_of_getElem? h1) h2,h3.mono E⟩
  ·rw [List.getElem?_map] at h
   obtain ⟨c,hc,e⟩:=Option.map_eq_some_iff.mp h
   obtain ⟨t0,rfl,rfl⟩:=zm6 e
   obtain ⟨a,u,h1,h2,h3⟩:=R'.cell _ t0 hc
   exact ⟨a,u,right i _ hi h1,h2,h3.sh S⟩
 ·rcases zeD h with ⟨hi,h⟩ | ⟨hi,h⟩
  ·obtain ⟨a,od,u,h1,h2,h3⟩:=R.lock i t h
   exact ⟨a,od,u,left i _ h1,zgP a _ (List.mem_of_getElem? h1) h2,h3.mono E⟩
  ·rw [List.getElem?_map] at h
   obtain ⟨c,hc,e⟩:=Option.map_eq_some_iff.mp h
   obtain ⟨t0,rfl,rfl⟩:=zm7 e
   obtain ⟨a,od,u,h1,h2,h3⟩:=R'.lock _ t0 hc
   exact ⟨a,od,u,right i _ hi h1,h2,h3.sh S⟩
 ·rcases zeD h with ⟨hi,h⟩ | ⟨hi,h⟩
  ·exact left i _ (R.dead i h)
  ·rw [List.getElem?_map] at h
   obtain ⟨c,hc,e⟩:=Option.map_eq_some_iff.mp h
   obtain rfl:=zm8 e
   exact right i _ hi (R'.dead _ hc)
 ·rcases zeD h1 with ⟨g1,h1⟩ | ⟨g1,h1⟩ <;> rcases zeD h2 with ⟨g2,h2⟩ | ⟨g2,h2⟩
  ·exact R.inj i j a h1 h2
  ·exact (R'.nh a (List.mem_of_getElem? h2) (.inr (List.mem_of_getElem? h1))).elim
  ·exact (R'.nh a (List.mem_of_getElem? h1) (.inr (List.mem_of_getElem? h2))).elim
  ·have:=R'.inj _ _ a h1 h2
   omega
 ·rcases List.mem_append.mp h with h | h
  ·exact R.nh a h z
  ·exact R'.nh a h (.inl z)
variable {n:Nat} {F:DF} {Q:VK} {E:XK}
end
section
variable {P:Program} {w:World} {K:PySem.W.Frag} {mg:Str→Option Value} {base:Heap} {J:Ix} {k:Nat} {X:Cx} {C:Cfg} {W:WX} {CX:CXT} {j n:Nat} {F:DF} {dts:List T} {x:Str} {p pos:Pos} {e:Expr} {es:List Expr} {da:DA} {hid:Addr→Prop}
end
section
variable {C:Cfg} {mu:Mu} {M:Mem} {H:Hp}
end
section
variable {X:Cx} {C:Cfg}
end
end Z
end
section
namespace Z
open PySem PySem.Spec PyProof.Rows L2 PySem.SeqAt PySem.W
def PrIn (h:Heap) (v:Value) (x:Str) (u:Value):Prop := ∃ (a:Addr) (o:Obj) (t:Tok) (n:Nat),v = .ref a∧h.get? a=some o∧o.cls = .type "tuple" ∧ o.data = .seq #[.str x t,u] n
def zjh (h:Heap) (v:Value):Str:=match v with
 | .ref a=>match h.get? a with
  | some o=>match o.data with
   | .seq its _=>match its[0]? with
    | some (Value.str x _)=>x
    | _=>Str.empty
   | _=>Str.empty
  | none=>Str.empty
 | _=>Str.empty
theorem PrIn.tx {h:Heap} {v:Value} {x:Str} {u:Value} (p:PrIn h v x u):zjh h v=x:=by
 obtain ⟨a,o,t,n,rfl,ho,hc,hd⟩:=p
 unfold zjh
 simp only [ho,hd]
 rfl
section
variable {prog:Program} {w:World} {A:Around} {E:Value→Shared→Prop} {s:Shared}
end
section
variable {X:Cx}
end
end Z
end
section
namespace Z
open PySem PySem.Spec PyProof.Rows L2 PySem.SeqAt
section
variable {prog:Program} {w:World} {A:Around} {s:Shared} {f c':Addr} {q x:Str} {params:Arguments} {body:Expr} {scope:Scope} {pm ctv v:Value} {k:PyData}
structure LamAt (h:Heap) (f:Addr) (q:Str) (params:Arguments) (body:Expr) (scope:Scope) (pm:Value) (c':Addr) (ctv:Value):Prop where
 obj:h.get? f=some (PySem.W.kla_obj "<lambda>" q params body scope [] pm c' ctv)
 code:∃ (oc:Obj) (vs:Array Value) (t:Tok),h.get? c'=some oc∧oc.data = .fields vs∧vs[1]?=some (.str q t)
theorem LamAt.keeps {h h':Heap} (l:LamAt h f q params body scope pm c' ctv) (kp:∀ b o,h.get? b=some o→h'.get? b=some o):LamAt h' f q params body scope pm c' ctv:=by
 obtain ⟨oc,vs,t,a,b,c⟩:=l.code
 exact ⟨kp _ _ l.obj,oc,vs,t,kp _ _ a,b,c⟩
def OldIn (s s':Shared):Prop := ∃ h tk,s' = {s with heap:=h,toks:=tk}∧∀b o,s.heap.get? b=some o→h.get? b=some o
theorem OldIn.refl:OldIn s s:=⟨s.heap,s.toks,rfl,fun _ _ e=>e⟩
end
end Z
end
section
namespace Z
open PySem PySem.Spec PyProof.Rows L2 PySem.SeqAt
def Mk1 (P:Addr) (q:Str) (H H1:Hp):Prop:=H1=H∨∃(ps more:Array Value) (d:Addr),H P=some (.tbl ps)∧H d=none∧H1=upd (upd H P (.tbl (ps ++ more))) d (LamX.CodeO d q)
section
variable {X:Cx} {pins:List (Addr × Obj)} {σ : L2.St} {H:Hp} {s:Shared}
end
section
variable {C:Cfg} {mu:Mu} {M:Mem} {H H1:Hp} {P:Addr} {q:Str}
theorem Mk1.ok (R:RM C mu M H) (hP:(P,q)∈C.tb) (m:Mk1 P q H H1) (t1:LamX.TabS H1 P q) (hu:∀ p∈C.tb,p.1=P→p.2=q):RM C mu M H1∧Ext C mu H mu H1:=by
 rcases m with rfl | ⟨ps,more,d,tabP,fresh,rfl⟩
 ·exact ⟨R,Ext.refl⟩
 ·have at_:∀ b o,H b=some o→b≠P→upd (upd H P (.tbl (ps ++ more))) d (LamX.CodeO d q) b=some o:=fun b o e n=>by rw [upd_ne (ne_of_none e fresh),upd_ne n]; exact e
  have nT:∀ b o,H b=some o→noT o=true→b≠P:=fun b o e n z=>by rw [z,tabP] at e; cases e; cases n
  have nD:∀ b o,H b=some o→noD o=true→b≠P:=fun b o e n z=>by rw [z,tabP] at e; cases e; cases n
  have E:Ext C mu H mu (upd (upd H P (.tbl (ps ++ more))) d (LamX.CodeO d q)):=by
   refine ⟨Nat.le_refl _,fun _ _ _ h=>h,fun a u r _=>⟨?_,r.2⟩,fun a o e _ n=>at_ a o e (nD a o e n),fun a o e _ h=>at_ a o e fun z=>(R.nht a h).tab _ hP z,fun _ _ _ n=>n,fun a o e _=>?_⟩
   ·rcases r.1 with z | ⟨o,z⟩
    ·exact .inl (at_ a u z (nT a u z r.2))
    ·exact .inr ⟨o,at_ a _ z (nT a _ z rfl)⟩
   ·by_cases z:a=P
    ·exact ⟨_,by rw [z,upd_ne (ne_of_none tabP fresh),upd_same]⟩
    ·exact ⟨o,at_ a o e z⟩
  refine ⟨R.keep E (fun a o hm e=>at_ a o e fun z=>(R.nmc hm).tab _ hP z) (fun p hp=>?_) fun a h=>?_,E⟩
  ·by_cases z:p.1=P
   ·obtain ⟨p1,p2⟩:=p
    have z:p1=P:=z
    subst z
    have:=hu (p1,p2) hp rfl
    have:p2=q:=this
    subst this
    exact t1
   ·obtain ⟨ps2,g1,g2,g3⟩:=R.tabs p hp
    refine ⟨ps2,at_ _ _ g1 z,g2,fun pos cv hc=>?_⟩
    obtain ⟨c,a1,a2⟩:=g3 pos cv hc
    exact ⟨c,a1,at_ c _ a2 fun y=>by rw [y,tabP] at a2; cases a2⟩
  ·obtain ⟨o,e⟩:=R.hid a h
   exact (R.nht a h).at ((at_ a o e ((R.nht a h).tab _ hP)).trans e.symm)
end
end Z
end
section
namespace Z
open PySem PySem.Spec PyProof.Rows L2 PySem.SeqAt
inductive OutY where
 | nx (s:Sg) (M:Mem) (ts:List T)
 | rt (t:T) (M:Mem) (ts:List T)
 | bk (s:Sg) (M:Mem) (ts:List T)
 | ct (s:Sg) (M:Mem) (ts:List T)
 | er (e:Er) (s:Sg) (M:Mem)
 | no
def FlY (C:Cfg) (mu:Mu) (H:Hp) (ts:List T) (ys:List V):Prop:=zau ts=true∧RepL C mu H ts ys
theorem FlY.mono {C:Cfg} {mu mu':Mu} {H H':Hp} {ts:List T} {ys:List V} (e:Ext C mu H mu' H') (h:FlY C mu H ts ys):FlY C mu' H' ts ys:=⟨h.1,RepL.mono e h.2⟩
theorem FlY.at {C:Cfg} {mu mu':Mu} {H:Hp} {ts:List T} {ys:List V} (hA:∀ a,Av C mu a→Av C mu' a) (h:FlY C mu H ts ys):FlY C mu' H ts ys:=⟨h.1,RepL.pure rfl rfl (fun a _ _ q=>hA a q) h.1 h.2⟩
def PostY (C:Cfg) (mu:Mu) (H:Hp) (o:OutY) (D:GEnds) (W:WX):Prop:=match o with
 | .nx s M ts => ∀ mu' σ' H' ys',RM C mu' M H'→Ext C mu H mu' H'→RS C mu' H' s σ'→FlY C mu' H' ts ys'→D.nx ys' σ' H'
 | .rt t M ts => ∀ mu' v H' ys',RM C mu' M H'→Ext C mu H mu' H'→Rep C mu' H' t v→FlY C mu' H' ts ys'→D.rt ys' v H'
 | .bk s M ts => ∀ mu' σ' H' ys',RM C mu' M H'→Ext C mu H mu' H'→RS C mu' H' s σ'→FlY C mu' H' ts ys'→D.bk ys' σ' H'
 | .ct s M ts => ∀ mu' σ' H' ys',RM C mu' M H'→Ext C mu H mu' H'→RS C mu' H' s σ'→FlY C mu' H' ts ys'→D.ct ys' σ' H'
 | .er e s M => ∀ mu' σ' c d H',RM C mu' M H'→Ext C mu H mu' H'→RS C mu' H' s σ'→RepE C mu' H' e c d→W c d σ' H'
 | .no=>False
theorem PostY.ext {C:Cfg} {mu mu1:Mu} {H H1:Hp} {o:OutY} {D:GEnds} {W:WX} (h:PostY C mu H o D W) (x:Ext C mu H mu1 H1):PostY C mu1 H1 o D W:=by
 cases o with
 | nx s M ts=>exact fun mu' σ' H' ys' r e q f=>h mu' σ' H' ys' r (x.trans e) q f
 | rt t M ts=>exact fun mu' v H' ys' r e q f=>h mu' v H' ys' r (x.trans e) q f
 | bk s M ts=>exact fun mu' σ' H' ys' r e q f=>h mu' σ' H' ys' r (x.trans e) q f
 | ct s M ts=>exact fun mu' σ' H' ys' r e q f=>h mu' σ' H' ys' r (x.trans e) q f
 | er e s M=>exact fun mu' σ' c d H' r e q f=>h mu' σ' c d H' r (x.trans e) q f
 | no=>exact h
section
variable {X:Cx} {C:Cfg} {W:WX}
end
end Z
end
section
namespace Z
open PySem PySem.Spec PyProof.Rows L2 PySem.SeqAt
section
variable {C:Cfg} {mu mu':Mu} {M:Mem} {H H':Hp} {D:Addr} {o:HO}
def WkB (C:Cfg) (mu:Mu) (H:Hp) (ts:List T) (J:It):Prop:=WkA C mu H ts J∧∀(D:Addr) (o:HO),C.hid D→WkA C mu (upd H D o) ts J
theorem WkB.at_ {ts:List T} {J:It} {o':HO} (h:WkB C mu H ts J) (hD:C.hid D):WkA C mu (upd H D o') ts J:=h.2 D o' hD
theorem RS.updH {s:Sg} {σ : L2.St} (hh:C.hid D) (R:RS C mu H s σ):RS C mu (upd H D o) s σ := ⟨R.len,fun i t h=>let ⟨v,a,b⟩:=R.at_ i t h; ⟨v,a,b.updH hh⟩⟩
end
section
variable {X:Cx} {C:Cfg} {W:WX} {tg:Expr}
end
section
variable {X:Cx} {C:Cfg} {W:WX}
end
section
variable {P:Program} {w:World} {K:PySem.W.Frag} {mg:Str→Option Value} {base:Heap} {J:Ix} {k:Nat} {X:Cx} {C:Cfg} {W:WX} {own:List (Str × Nat)} {b:Scope} {p pos:Pos} {elt tg iter tg1 iter1:Expr} {ifs ifs1:List Expr} {di:DA} {g:DG} {tt:DT} {di1:DA} {g1:DG} {tt1:DT} {de:DE} {vs1:List Nat}
end
end Z
end
section
namespace Z
open PySem PySem.Spec PyProof.Rows L2 PySem.SeqAt
def zgP (M:Mem):Mem:=M.map fun c=>match c with
 | .live t => .live t
 | _ => .dead
section
variable {X:Cx} {C:Cfg} {W:WX}
end
end Z
end
section
namespace Z
open PySem PySem.Spec PyProof.Rows L2 PySem.SeqAt PySem.W
abbrev QK:=Str × Int × Str
def QIn (h:Heap) (v:Value) (k:QK) (u:Value):Prop := ∃ (a:Addr) (o:Obj) (t t1 t2:Tok) (n:Nat),v = .ref a∧h.get? a=some o∧o.cls = .type "tuple" ∧ o.data = .seq #[.str k.1 t,.int k.2.1 t1,.str k.2.2 t2,u] n
section
variable {prog:Program} {w:World} {A:Around} {E:Value→Shared→Prop} {s:Shared}
theorem QIn.keeps {h h':Heap} {v:Value} {k:QK} {u:Value} (x:QIn h v k u) (kp:∀ b o,h.get? b=some o→o.cls = .type "tuple" → h'.get? b=some o):QIn h' v k u:=by
 obtain ⟨a,o,t,t1,t2,n,e,ho,hc,hd⟩:=x
 exact ⟨a,o,t,t1,t2,n,e,kp _ _ ho hc,hc,hd⟩
end
section
variable {X:Cx}
theorem QIn.inj {h:Heap} {v:Value} {k k':QK} {u u':Value} (x:QIn h v k u) (y:QIn h v k' u'):k=k'∧u=u':=by
 obtain ⟨a,o,t,t1,t2,n,e,ho,hc,hd⟩:=x
 obtain ⟨a',o',t',t1',t2',n',e',ho',hc',hd'⟩:=y
 have ea:a=a':=Value.ref.inj (e.symm.trans e')
 subst ea
 have eo:o=o':=Option.some.inj (ho.symm.trans ho')
 subst eo
 have ed:=hd.symm.trans hd'
 injection ed with e3 e4
 have e3:=congrArg Array.toList e3
 simp only [List.cons.injEq,Value.str.injEq,Value.int.injEq,and_true] at e3
 obtain ⟨⟨a1,_⟩,⟨a2,_⟩,⟨a3,_⟩,a4⟩:=e3
 exact ⟨Prod.ext a1 (Prod.ext a2 a3),a4⟩
end
section
variable {X:Cx} {C:Cfg} {mu:Mu} {H:Hp}
end
end Z
end
section
namespace Z
open PySem PySem.Spec PyProof.Rows L2 PySem.SeqAt HotX
section
variable {X:Cx} {pins:List (Addr × Obj)} {σ : L2.St} {H:Hp} {s:Shared} {d:Addr} {fs:List (Str × V)}
end
section
variable {X:Cx} {e:Expr} {es:List Expr} {ta:TA} {x:Str} {p pos:Pos} {B newId initId:String} {bmB:List Value} {C fI:Addr} {k:Nat} {fd:FuncData} {ps:List Str} {sp:Sp} {CX:CXT}
end
structure TXV (C:Cfg):Prop where
 tx:TX C
 no:∀ b c d,C.xd b=some (c,d)→c=("" : Str)
section
variable {X:Cx} {C:Cfg} {W:WX} {e:Expr} {de:DE} {pos p q:Pos} {y:Str} {cv:Value} {tab:List (Str × Bool)}
end
section
variable {P:Program} {w:World} {K:PySem.W.Frag} {mg:Str→Option Value} {base:Heap} {J:Ix} {k j:Nat} {X:Cx} {C:Cfg} {W:WX} {c f y:Str} {pos pos' p q kpos:Pos} {e u:Expr} {es:List Expr} {da:DA} {de:DE} {hid:Addr→Prop} {cs:List Str} {tab:List (Str × Bool)} {cv:Value} {ns:List String}
theorem TXV.with (h:TXV C):TXV (C.with hid):=⟨h.tx,h.no⟩
end
end Z
end
section
namespace Z
open PySem PySem.Spec PyProof.Rows L2 PySem.SeqAt
section
variable {prog:Program} {w:World} {A:Around} {E:Value→Shared→Prop} {s:Shared}
end
mutual
def nkT:T→Option NestedKey
 | .non=>some .none
 | .bl b=>some (.num (if b=true then 1 else 0))
 | .int i=>some (.num i)
 | .str x=>some (.text x)
 | .tup xs=>(nkL xs).map .tup
 | _=>none
def nkL:List T→Option (List NestedKey)
 | []=>some []
 | t :: r=>(nkT t).bind fun k=>(nkL r).map fun ks=>k :: ks
end
section
variable {X:Cx} {C:Cfg} {mu:Mu} {H:Hp} {pins:List (Addr × Obj)} {σ : L2.St} {s:Shared}
mutual
theorem zji (hK:C.K=X.K) (I:Inv X pins σ H s):∀ {t:T} {x:V} {v:Value} {k:NestedKey},Rep C mu H t x→RelV x v→nkT t=some k→NestedIs s.heap k v
 | _,_,_,_,.non,r,e=>by cases e; cases r; exact .none
 | _,_,_,_,.bl b,r,e=>by cases e; cases r; exact .bool rfl
 | _,_,_,_,.int i,r,e=>by cases e; obtain ⟨t,rfl⟩:=r; exact .int i t
 | _,_,_,_,.str z,r,e=>by cases e; obtain ⟨t,rfl⟩:=r; exact .text z t
 | _,_,_,_,.tup f q,r,e=>by
  obtain ⟨ks,e1,rfl⟩:=Option.map_eq_some_iff.mp e
  cases r
  have sq:=f.sq
  rw [hK] at sq
  obtain ⟨its,rv,⟨o,ho,hc,n,hd⟩,_⟩:=I.tuple sq
  exact .tup ho hc hd (by simpa using zjj hK I q rv e1)
 | _,_,_,_,.lst _ _,_,e=>by cases e
 | _,_,_,_,.fz _ _,_,e=>by cases e
 | _,_,_,_,.dct _ _,_,e=>by cases e
 | _,_,_,_,.dn _ _ _ _,_,e=>by cases e
 | _,_,_,_,.ins _ _,_,e=>by cases e
 | _,_,_,_,.exc _ _ _ _,_,e=>by cases e
 | _,_,_,_,.ty _,_,e=>by cases e
 | _,_,_,_,.ob _,_,e=>by cases e
 | _,_,_,_,.cel _ _,_,e=>by cases e
theorem zjj (hK:C.K=X.K) (I:Inv X pins σ H s):∀ {ts:List T} {xs:List V} {vs:List Value} {ks:List NestedKey},RepL C mu H ts xs→Vals xs vs→nkL ts=some ks→NestedAll s.heap ks vs
 | _,_,_,_,.nil,.nil,e=>by cases e; exact .nil
 | _,_,_,_,.cons h q,.cons r rr,e=>by
  obtain ⟨k,e1,e2⟩:=Option.bind_eq_some_iff.mp e
  obtain ⟨ks,e3,rfl⟩:=Option.map_eq_some_iff.mp e2
  exact .cons (zji hK I h r e1) (zjj hK I q rr e3)
end
end
section
variable {X:Cx} {C:Cfg} {W:WX} {pos:Pos}
end
end Z
end
section
namespace G
open PySem PySem.Spec PyProof.Rows L2 Z PySem.SeqAt
def top (i:Nat):Stmt:=PySem.Challenge.pw_scopeeffect_k01_names_values_nests.main.body.getD i (.Pass ⟨0,0,0,0⟩)
abbrev s12:Stmt:=top 10
abbrev sr:Stmt:=top 18
abbrev s17:Stmt:=top 4
abbrev s10:Stmt:=top 5
abbrev s18:Stmt:=top 6
abbrev s13:Stmt:=top 7
abbrev s16:Stmt:=top 8
abbrev sw:Stmt:=top 14
abbrev sy:Stmt:=top 15
abbrev s11:Stmt:=top 16
abbrev s19:Stmt:=top 17
abbrev sv:Stmt:=top 11
abbrev s14:Stmt:=top 19
abbrev s15:Stmt:=top 20
section
variable {P:Program} {w:World} {K:PySem.W.Frag} {mg:Str→Option Value} {base:Heap} {C:Cfg}
end
end G
end
section
set_option maxHeartbeats 0
namespace G
open PySem PySem.Spec PyProof.Rows L2 Z PySem.SeqAt
def DD (x:Str) (st:Stmt):He.DefD:=⟨(x,none),x,x,defArgs st,defBody st,defScope st,[],[]⟩
def fn0:List He.DefD := [DD "_law_numbers" s12,DD "_law_texts" sr,DD "is_text_of" s17,DD "is_name" s10,DD "is_value" s18,DD "is_scope" s13,DD "is_nest" s16,DD "_law_is_text" sw,DD "_law_is_name" sy,DD "_law_is_value" s11,DD "_law_is_nest" s19,DD "_law_nest" sv,DD "_law_altered" s14,DD "law" s15]
abbrev fn:List He.DefD:=fn0
def fa0:List He.Fa := [.str "DIGITS" "0123456789",.str "LETTERS" "abcdefghijklmnopqrstuvwxyz",.int "MAX_LENGTH" 8,.free "all",.free "dict",.free "enumerate",.free "int",.free "isinstance",.free "len",.free "list",.free "max",.free "range",.free "repr",.free "str",.free "tuple",.glo "_law_numbers",.glo "_law_texts",.glo "is_text_of",.glo "is_name",.glo "is_value"]
def fa1:List He.Fa := [.glo "is_scope",.glo "is_nest",.glo "_law_is_text",.glo "_law_is_name",.glo "_law_is_value",.glo "_law_is_nest",.glo "_law_nest",.glo "_law_altered",.glo "law"]
abbrev fa:List He.Fa:=fa0 ++ fa1
def xs0:Xs := []
abbrev xs:Xs:=xs0
def tabs:List TabS := []
abbrev R:PySem.W.OpenRow:=PySem.W.OpenLaw.row PySem.Challenge.rw_scopeeffect_k01_names_values_nests
abbrev hk:PySem.W.Hook:=zi6 4 fa fn tabs xs
def ob (s:PySem.W.SharedT):AlZ:=obsZ 4 fa fn tabs xs (HandSHeadRun.getT s)
def names0:List PySem.Str := ["LETTERS", "DIGITS", "MAX_LENGTH", "is_text_of", "is_name", "is_value", "is_scope", "is_nest", "_law_numbers", "_law_nest", "_law_step", "_law_sequence", "_law_is_text", "_law_is_name", "_law_is_value", "_law_is_nest", "_law_texts", "_law_altered"]
abbrev names:List PySem.Str:=names0
theorem zm9 (w:World):HandSHeadRun.RunEq R (PySem.W.view R.prog [20]) hk ob 6000 names (w.withFollow "special-get-raises" false):=by
 intro os
 kernel_rfl
theorem zna (w:World):HandSHeadRun.RunEq R (PySem.W.view R.prog [20]) hk ob 6000 names (w.withFollow "special-get-raises" true):=by
 intro os
 kernel_rfl
end G
end
section
namespace Z
open PySem PySem.Spec PyProof.Rows L2
section
variable {C:Cfg} {mu mu1 mu2 mu':Mu} {H H1 H2 H':Hp} {a p:Addr} {o u:HO}
theorem Ext.new (h:H p=none):Ext C mu H mu (upd H p o):=by
 have k:∀ a q,H a=some q→upd H p o a=some q:=fun a q e=>by rw [upd_ne (ne_of_none e h)]; exact e
 refine ⟨Nat.le_refl _,fun _ _ _ h=>h,fun a u r _=>⟨?_,r.2⟩,fun a q e _ _=>k a q e,fun a q e _ _=>k a q e,fun _ _ _ n=>n,fun a q e _=>⟨q,k a q e⟩⟩
 rcases r.1 with r | ⟨o',r⟩
 ·exact .inl (k _ _ r)
 ·exact .inr ⟨o',k _ _ r⟩
theorem Ext.write (hm:some a∈mu):Ext C mu H mu (upd H a o):=by
 have k:∀ b q,H b=some q→some b∉mu→upd H a o b=some q:=fun b q e n=>by rw [upd_ne (fun z=>by subst z; exact n hm)]; exact e
 refine ⟨Nat.le_refl _,fun _ _ _ h=>h,fun b u r n=>⟨?_,r.2⟩,fun b q e n _=>k b q e n,fun b q e n _=>k b q e n,fun _ _ _ n=>n,fun b q e n=>⟨q,k b q e n⟩⟩
 rcases r.1 with r | ⟨o',r⟩
 ·exact .inl (k _ _ r n)
 ·exact .inr ⟨o',k _ _ r n⟩
end
theorem znb {T:List (Addr × Str)} {H H':Hp} (t:LamX.Tabs T H) (e:∀ b o,H b=some o→tbx o=true→H' b=some o):LamX.Tabs T H':=fun p hp=>by
 obtain ⟨ps,h1,h2,h3⟩:=t p hp
 refine ⟨ps,e _ _ h1 rfl,h2,fun pos cv hc=>?_⟩
 obtain ⟨c,e1,e2⟩:=h3 pos cv hc
 exact ⟨c,e1,e _ _ e2 rfl⟩
theorem zgQ {T:List (Addr × Str)} {H:Hp} {p:Addr} {o:HO} (t:LamX.Tabs T H) (h:H p=none):LamX.Tabs T (upd H p o):=znb t fun b q e _=>by rw [upd_ne (ne_of_none e h)]; exact e
theorem znc {T:List (Addr × Str)} {H:Hp} {a:Addr} (t:LamX.Tabs T H) (h:H a=none):NC T H a:=by
 refine ⟨fun p hp z=>?_,fun o e=>?_⟩
 ·obtain ⟨ps,h1,_⟩:=t p hp
  subst z; rw [h] at h1; cases h1
 ·rw [h] at e; cases e
section
variable {C:Cfg} {mu mu':Mu} {M:Mem} {H H':Hp} {p a:Addr} {u:HO} {o:HO} {t t':T} {i:Nat}
theorem RM.nhc (R:RM C mu M H):∀ a:Addr,(C.hid a∨some a∈mu)→NC C.tb H a:=fun a z=>z.elim (R.nht a) R.nmc
theorem RM.fresh (R:RM C mu M H) (h:H p=none):some p∉mu:=fun z=>by
 obtain ⟨o,e⟩:=R.mem z
 rw [h] at e; cases e
theorem RM.freshAv (R:RM C mu M H) (h:H p=none):Av C mu p:=⟨R.fresh h,fun z=>by
 obtain ⟨o,e⟩:=R.hid p z
 rw [h] at e; cases e⟩
theorem RM.new (R:RM C mu M H) (h:H p=none):RM C mu M (upd H p o):=
 R.keep (Ext.new h) (fun a q _ e=>by rw [upd_ne (ne_of_none e h)]; exact e) (zgQ R.tabs h) fun b hb=>(R.nht b hb).upd fun z=>by
  obtain ⟨q,e⟩:=R.hid b hb
  rw [z,h] at e; cases e
theorem RM.lockD {od:Obj} {ws:List (Key × V)} (R:RM C mu M H) (h:H a=some (.dK ws)) (n:Av C mu a):RM C mu M (upd H a (.frz od (.dK ws))):=
 R.keep (Ext.lock h n.2) (fun b q hb e=>by rw [upd_ne (fun z=>by subst z; exact n.1 hb)]; exact e) (zgF R.tabs (zfq R.tabs h rfl)) fun b hb=>(R.nht b hb).upd fun _=>zfp rfl
theorem RM.alloc (R:RM C mu M H) (h:H p=none) (c:CU C mu H t u):RM C (mu ++ [some p]) (M ++ [.live t]) (upd H p u):=by
 have e:Ext C mu H (mu ++ [some p]) (upd H p u):=Ext.cell h
 have nf:some p∉mu:=R.fresh h
 have lem:∀ (i:Nat) (x:Cell),(M ++ [Cell.live t])[i]?=some x→(M[i]?=some x)∨(i=M.length∧x = .live t):=fun i x q=>by
  by_cases hi:i < M.length
  ·rw [List.getElem?_append_left hi] at q; exact .inl q
  ·rw [List.getElem?_append_right (Nat.le_of_not_lt hi)] at q
   by_cases h0:i - M.length=0
   ·rw [h0] at q
    have q':Cell.live t=x:=by simpa using q
    exact .inr ⟨by omega,q'.symm⟩
   ·have:([Cell.live t]:List Cell)[i - M.length]?=none:=by rw [List.getElem?_eq_none_iff]; simp; omega
    rw [this] at q; cases q
 have old:∀ (i:Nat) (a:Option Addr),mu[i]?=some a→(mu ++ [some p])[i]?=some a:=fun i a q=>by
  rw [List.getElem?_append_left (List.getElem?_eq_some_iff.mp q).1]; exact q
 have ne:∀ b q,H b=some q→upd H p u b=some q:=fun b q e=>by rw [upd_ne (ne_of_none e h)]; exact e
 refine ⟨by simp [R.len],fun i t' q=>?_,fun i t' q=>?_,fun i q=>?_,fun i j b h1 h2=>?_,fun a ha=>?_,fun a ha hh=>?_,zgQ R.tabs h,fun b hb=>(R.nht b hb).upd fun z=>by
  obtain ⟨q,e⟩:=R.hid b hb
  rw [z,h] at e; cases e⟩
 ·rcases lem i _ q with q | ⟨ei,q⟩
  ·obtain ⟨b,w',h1,h2,h3⟩:=R.cell i t' q
   exact ⟨b,w',old _ _ h1,ne _ _ h2,h3.mono e⟩
  ·injection q with q
   subst q
   exact ⟨p,u,by rw [ei,← R.len]; simp,upd_same,c.mono e⟩
 ·rcases lem i _ q with q | ⟨_,q⟩
  ·obtain ⟨b,od,w',h1,h2,h3⟩:=R.lock i t' q
   exact ⟨b,od,w',old _ _ h1,ne _ _ h2,h3.mono e⟩
  ·cases q
 ·rcases lem i _ q with q | ⟨_,q⟩
  ·exact old _ _ (R.dead i q)
  ·cases q
 ·have cas:∀ (i:Nat),(mu ++ [some p])[i]?=some (some b)→mu[i]?=some (some b)∨(i=mu.length∧b=p):=fun i q=>by
   by_cases hi:i < mu.length
   ·rw [List.getElem?_append_left hi] at q; exact .inl q
   ·rw [List.getElem?_append_right (Nat.le_of_not_lt hi)] at q
    by_cases h0:i - mu.length=0
    ·rw [h0] at q
     have q':p=b:=by simpa using q
     exact .inr ⟨by omega,q'.symm⟩
    ·have:([some p]:List (Option Addr))[i - mu.length]?=none:=by rw [List.getElem?_eq_none_iff]; simp; omega
     rw [this] at q; cases q
  rcases cas i h1 with h1 | ⟨h1,e1⟩
  ·rcases cas j h2 with h2 | ⟨h2,e2⟩
   ·exact R.inj i j b h1 h2
   ·rw [e2] at h1; exact absurd (List.mem_of_getElem? h1) nf
  ·rcases cas j h2 with h2 | ⟨h2,e2⟩
   ·rw [e1] at h2; exact absurd (List.mem_of_getElem? h2) nf
   ·omega
 ·obtain ⟨o,q⟩:=R.hid a ha
  exact ⟨o,ne _ _ q⟩
 ·rcases List.mem_append.mp ha with z | z
  ·exact R.nh a z hh
  ·have e2:a=p:=by simpa using z
   subst e2
   exact (R.freshAv h).2 hh
theorem RM.write (R:RM C mu M H) (hi:M[i]?=some (.live t)) (ha:mu[i]?=some (some a)) (c:CU C mu H t' u):RM C mu (M.set i (.live t')) (upd H a u)∧Ext C mu H mu (upd H a u):=by
 obtain ⟨b,w0,h1,h2,h3⟩:=R.cell i t hi
 rw [ha] at h1; cases h1
 have E:Ext C mu H mu (upd H a u):=Ext.write (List.mem_of_getElem? ha)
 have ne:∀ j b,j≠i→mu[j]?=some (some b)→b≠a:=fun j b hj q z=>hj (R.inj j i a (z ▸ q) ha)
 refine ⟨⟨by simpa using R.len,fun j t2 q=>?_,fun j t2 q=>?_,fun j q=>?_,R.inj,fun b hb=>?_,R.nh,zgF R.tabs (zfq R.tabs h2 h3.tbx),fun b hb=>(R.nht b hb).upd fun z=>absurd hb (by rw [z]; exact R.nh a (List.mem_of_getElem? ha))⟩,E⟩
 ·by_cases hj:j=i
  ·subst hj
   rw [List.getElem?_set_self (List.getElem?_eq_some_iff.mp hi).1] at q
   cases q
   exact ⟨a,u,ha,upd_same,c.mono E.rx⟩
  ·rw [List.getElem?_set_ne (Ne.symm hj)] at q
   obtain ⟨b,w',h1,h2,h3⟩:=R.cell j t2 q
   exact ⟨b,w',h1,by rw [upd_ne (ne j b hj h1)]; exact h2,h3.mono E.rx⟩
 ·by_cases hj:j=i
  ·subst hj
   rw [List.getElem?_set_self (List.getElem?_eq_some_iff.mp hi).1] at q
   cases q
  ·rw [List.getElem?_set_ne (Ne.symm hj)] at q
   obtain ⟨b,od,w',h1,h2,h3⟩:=R.lock j t2 q
   exact ⟨b,od,w',h1,by rw [upd_ne (ne j b hj h1)]; exact h2,h3.mono E.rx⟩
 ·by_cases hj:j=i
  ·subst hj
   rw [List.getElem?_set_self (List.getElem?_eq_some_iff.mp hi).1] at q
   cases q
  ·rw [List.getElem?_set_ne (Ne.symm hj)] at q
   exact R.dead j q
 ·obtain ⟨o,q⟩:=R.hid b hb
  exact ⟨o,E.hid b o q (fun z=>R.nh b z hb) hb⟩
end
theorem RS.wipe {C:Cfg} {mu:Mu} {H:Hp} {s:Sg} {σ : L2.St} (R:RS C mu H s σ) (i:Nat):RS C mu H (s.set i none) (σ.set i none):=by
 refine ⟨by simpa using R.len,fun j t2 h=>?_⟩
 by_cases hj:j=i
 ·subst hj
  have hl:j < s.length:=by
   have:=(List.getElem?_eq_some_iff.mp h).1
   simpa using this
  rw [List.getElem?_set_self hl] at h
  cases h
 ·rw [List.getElem?_set_ne (Ne.symm hj)] at h ⊢
  exact R.at_ j t2 h
theorem RS.less {C:Cfg} {mu:Mu} {H:Hp} {s s':Sg} {σ : L2.St} (R:RS C mu H s σ) (hl:s'.length=s.length) (h:∀ (i:Nat) (t:T),s'[i]?=some (some t)→s[i]?=some (some t)):RS C mu H s' σ :=
 ⟨hl.trans R.len,fun i t q=>R.at_ i t (h i t q)⟩
@[simp] theorem bind_ok {α β : Type} (a : α) (M:Mem) (f : α → Mem→Out β):(Out.ok a M).bind f=f a M:=rfl
@[simp] theorem bind_er {α β : Type} (e:Er) (M:Mem) (f : α → Mem→Out β):(Out.er e M).bind f = .er e M:=rfl
@[simp] theorem bind_no {α β : Type} (f : α → Mem→Out β):(Out.no:Out α).bind f = .no:=rfl
section
variable {α β γ δ : Type} {C:Cfg} {mu mu1:Mu} {H H1:Hp} {o:Out α} {Rel:Mu→Hp → α → β → Prop} {kO : β → Hp→Prop} {kE:XK}
end
abbrev RVs (C:Cfg):Mu→Hp→List T→List V→Prop:=fun mu H t v=>RepL C mu H t v
def TAz (C:Cfg) (W:WX) (d:DA):TA:=fun σ H Q => ∃ mu s M,RM C mu M H∧RS C mu H s σ ∧ Post C mu H (d s M) (RVs C) Q fun c dd H'=>W c dd σ H'
def TTz (C:Cfg) (W:WX) (d:DT):TT:=fun σ H Q => ∃ mu s M,RM C mu M H∧RS C mu H s σ ∧ Post C mu H (d s M) (fun _ _ a b=>a=b) Q fun c dd H'=>W c dd σ H'
def TSz (C:Cfg) (W:WX) (d:DS):TS:=fun D σ H => ∃ mu s M,RM C mu M H∧RS C mu H s σ ∧ PostS C mu H (d s M) D W
theorem zbf {X:Cx} {e:Expr} {t t':TE} (h:PE X e t) (w:∀ σ H Q,t' σ H Q→t σ H Q):PE X e t':=⟨fun pins s σ H Q I q=>h.run pins s σ H Q I (w σ H Q q)⟩
theorem zgR {X:Cx} {e:List Expr} {t t':TA} (h:PA X e t) (w:∀ σ H Q,t' σ H Q→t σ H Q):PA X e t':=⟨fun pos pins s σ H Q I q=>h.run pos pins s σ H Q I (w σ H Q q)⟩
theorem zfu {X:Cx} {e:Expr} {t t':TT} (h:PT X e t) (w:∀ σ H Q,t' σ H Q→t σ H Q):PT X e t':=⟨fun pins s σ H Q I q=>h.run pins s σ H Q I (w σ H Q q)⟩
theorem zds {X:Cx} {e:Stmt} {t t':TS} (h:PS X e t) (w:∀ D σ H,t' D σ H→t D σ H):PS X e t':=⟨fun pins s σ H D I q=>h.run pins s σ H D I (w D σ H q)⟩
theorem zfv {X:Cx} {e:List Stmt} {t t':TS} (h:PSs X e t) (w:∀ D σ H,t' D σ H→t D σ H):PSs X e t':=⟨fun pins s σ H D I q=>h.run pins s σ H D I (w D σ H q)⟩
end Z
end
section
namespace Z
open PySem PySem.Spec PyProof.Rows L2
def der (M:Mem) (t:T):T:=match t with
 | .cel i=>(match M[i]? with
  | some (.live u)=>u
  | some (.lock u)=>u
  | _ => .cel i)
 | .fz xs => .lst xs
 | t=>t
def zbD (M:Mem) (t:T):T:=match t with
 | .cel i=>(match M[i]? with
  | some (.live u)=>u
  | _ => .cel i)
 | t=>t
def Bk (C:Cfg) (mu:Mu) (H:Hp) (t:T) (v:V):Prop:=
 match t with
 | .lst xs => ∃ a vs,v = .ref a∧Rd H a (.lst vs)∧RepL C mu H xs vs
 | .dct kvs => ∃ a ws,v = .ref a∧Rd H a (.dK ws)∧RepD C mu H kvs ws
 | .ins c fs => ∃ a dx ws,v = .ref a∧Rd H a (.ins (C.ga c) dx ws)∧RepF C mu H fs ws
 | .cel _=>True
 | t=>Rep C mu H t v
section
variable {C:Cfg} {mu:Mu} {M:Mem} {H:Hp} {t:T} {v:V}
theorem zdP (R:RM C mu M H) (r:Rep C mu H t v):Bk C mu H (der M t) v:=by
 cases r with
 | cel hi hv=>
  rename_i i
  unfold der
  simp only
  cases e:M[i]? with
  | none=>trivial
  | some c=>
   cases c with
   | dead=>trivial
   | live u=>
    obtain ⟨a,o,h1,h2,h3⟩:=R.cell i u e
    have ev:=hv a h1
    simp only
    unfold CU at h3
    split at h3
    ·exact ⟨a,_,ev,.inl h2,h3⟩
    ·exact ⟨a,_,ev,.inl h2,h3⟩
    ·obtain ⟨q,h3⟩:=h3
     subst q
     exact ⟨a,_,_,ev,.inl h2,h3⟩
    ·exact h3.elim
   | lock u=>
    obtain ⟨a,od,o,h1,h2,h3⟩:=R.lock i u e
    have ev:=hv a h1
    simp only
    unfold CU at h3
    split at h3
    ·exact ⟨a,_,ev,.inr ⟨_,h2⟩,h3⟩
    ·exact ⟨a,_,ev,.inr ⟨_,h2⟩,h3⟩
    ·obtain ⟨q,h3⟩:=h3
     subst q
     exact ⟨a,_,_,ev,.inr ⟨_,h2⟩,h3⟩
    ·exact h3.elim
 | lst h r=>exact ⟨_,_,rfl,.inl h.1,r⟩
 | fz h r=>exact ⟨_,_,rfl,.inr ⟨_,h.1⟩,r⟩
 | dct h r=>exact ⟨_,_,rfl,h.1,r⟩
 | ins h r=>exact ⟨_,_,_,rfl,.inl h.1,r⟩
 | exc hx h q r=>exact .exc hx h q r
 | dn h d r q=>exact .dn h d r q
 | tup h r=>exact .tup h r
 | non=>exact .non
 | bl b=>exact .bl b
 | int i=>exact .int i
 | str x=>exact .str x
 | ty n=>exact .ty n
 | ob x=>exact .ob x
end
theorem RepL.append {C:Cfg} {mu:Mu} {H:Hp}:∀ {xs ys:List T} {vs ws:List V},RepL C mu H xs vs→RepL C mu H ys ws→RepL C mu H (xs ++ ys) (vs ++ ws)
 | _,_,_,_,.nil,s=>s
 | _,_,_,_,.cons h r,s => .cons h (r.append s)
theorem RepL.drop {C:Cfg} {mu:Mu} {H:Hp}:∀ {xs:List T} {vs:List V} (n:Nat),RepL C mu H xs vs→RepL C mu H (xs.drop n) (vs.drop n)
 | _,_,0,r=>r
 | _,_,_ + 1,.nil => .nil
 | _,_,n + 1,.cons _ r=>r.drop n
theorem RepL.reverse {C:Cfg} {mu:Mu} {H:Hp}:∀ {xs:List T} {vs:List V},RepL C mu H xs vs→RepL C mu H xs.reverse vs.reverse
 | _,_,.nil => .nil
 | _,_,.cons h r=>by
  rw [List.reverse_cons,List.reverse_cons]
  exact r.reverse.append (.cons h .nil)
theorem RepL.rep {C:Cfg} {mu:Mu} {H:Hp} {xs:List T} {vs:List V} (h:RepL C mu H xs vs):∀ k:Nat,RepL C mu H (List.replicate k xs).flatten (List.replicate k vs).flatten
 | 0 => .nil
 | k + 1=>by
  rw [List.replicate_succ,List.replicate_succ,List.flatten_cons,List.flatten_cons]
  exact h.append (RepL.rep h k)
def zaa (i:Nat):DE:=fun s M=>match s[i]? with
 | some (some t) => .ok t M
 | _ => .no
def dC (t:T):DE:=fun _ M => .ok t M
section
variable {C:Cfg} {X:Cx} {W:WX}
theorem s1q {i:Nat} {x:Str} {pos:Pos} (hN:X.N[i]?=some x) (hv:Vis X.env.scope x) (hd:(x == ("__debug__" : Str))=false) (hcd:(x == ("__classdict__" : Str))=false):PE X (.Name x pos) (TEz C W (zaa i)):=
 zbf (pe_var hN hv hd hcd) fun σ H Q ⟨mu,s,M,R,S,P⟩=>by
  unfold zaa at P
  split at P
  ·rename_i t e
   obtain ⟨v,h1,h2⟩:=S.at_ i t e
   exact ⟨v,h1,P mu v H R Ext.refl h2⟩
  ·exact P.elim
theorem s8 {e:Expr} {t:T} {v:V} (h:PE X e (tC v)) (r:∀ mu H,Rep C mu H t v):PE X e (TEz C W (dC t)):=
 zbf h fun σ H Q ⟨mu,s,M,R,S,P⟩=>P mu v H R Ext.refl (r mu H)
abbrev Op2:=T→T→Mem→Option (T × Mem)
def lift {α : Type} (o:Option (α × Mem)):Out α := match o with
 | some (a,M) => .ok a M
 | none => .no
def rZ (C:Cfg) (g:Op2):R2:=fun x y H Q => ∃ mu M t u t' M',RM C mu M H∧Rep C mu H t x∧Rep C mu H u y∧g t u M=some (t',M') ∧
 ∀ mu' v H',RM C mu' M' H'→Ext C mu H mu' H'→Rep C mu' H' t' v→Q v H'
def zac (g:Op2) (da db:DE):DE:=fun s M=>(da s M).bind fun t M1=>(db s M1).bind fun u M2=>lift (g t u M2)
theorem zdt {f:Value→Value→Sem Value} {r r':R2} (h:OpR X f r) (w:∀ x y H Q,r' x y H Q→r x y H Q):OpR X f r':=fun pins s σ H x y v u Q I rx ry q=>h pins s σ H x y v u Q I rx ry (w x y H Q q)
theorem zdQ {g:Op2} {da db:DE} {σ : L2.St} {H:Hp} {Q:VK} (h:TEz C W (zac g da db) σ H Q):tOp (rZ C g) (TEz C W da) (TEz C W db) σ H Q:=by
 obtain ⟨mu,s,M,R,S,P⟩:=h
 refine ⟨mu,s,M,R,S,P.bind fun t M1 mu1 x H1 R1 E1 r1 P1=>?_⟩
 refine ⟨mu1,s,M1,R1,S.mono E1.rx,P1.bind fun u M2 mu2 y H2 R2 E2 r2 P2=>?_⟩
 cases e:g t u M2 with
 | none=>rw [e] at P2; exact P2.elim
 | some p=>
  obtain ⟨t',M'⟩:=p
  rw [e] at P2
  exact ⟨mu2,M2,t,u,t',M',R2,r1.mono E2.rx,r2,e,P2⟩
theorem s9 {op:Operator} {g:Op2} {a b:Expr} {da db:DE} {pos:Pos} (ho:OpR X (binaryOp op) (rZ C g)) (ha:PE X a (TEz C W da)) (hb:PE X b (TEz C W db)):PE X (.BinOp a op b pos) (TEz C W (zac g da db)):=
 zbf (pe_op ho ha hb) fun _ _ _ h=>zdQ h
theorem s1f {op:CmpOp} {g:Op2} {a b:Expr} {da db:DE} {pos:Pos} (ho:OpR X (compareOp op) (rZ C g)) (ha:PE X a (TEz C W da)) (hb:PE X b (TEz C W db)) (hm:behindInMarks op b=false):PE X (.Compare a [op] [b] pos) (TEz C W (zac g da db)):=
 zbf (pe_cmpR ho ha hb hm) fun _ _ _ h=>zdQ h
end
end Z
end
section
namespace Z
open PySem PySem.Spec PyProof.Rows L2
def zbg (f:T→T→Option Bool):List T→List T→Option Bool
 | x :: xs,y :: ys=>match f x y,zbg f xs ys with
  | some a,some b=>some (a && b)
  | _,_=>none
 | _,_=>some true
def eqD (f:T→T→Option Bool) (ls:List (Str × T)):List (Str × T)→Option Bool
 | []=>some true
 | (k,t) :: r=>match ls.lookup k with
  | some u=>(match f t u,eqD f ls r with
   | some a,some b=>some (a && b)
   | _,_=>none)
  | none=>(match eqD f ls r with
   | some _=>some false
   | none=>none)
def zah:T→Bool
 | .non | .bl _ | .int _ | .str _=>true
 | _=>false
def zat:T→Bool
 | .lst _ | .tup _=>true
 | _=>false
def eqF (dd:Bool):Nat→T→T→Option Bool
 | 0,_,_=>none
 | n + 1,t,u=>match t,u with
  | .non,.non=>some true
  | .bl a,.bl b=>some (a == b)
  | .int a,.int b=>some (a == b)
  | .str a,.str b=>some (a == b)
  | .bl a,.int b=>some ((if a then 1 else 0) == b)
  | .int a,.bl b=>some (a == (if b then 1 else 0))
  | .lst xs,.lst ys=>if xs.length=ys.length then zbg (eqF dd n) xs ys else some false
  | .tup xs,.tup ys=>(match zbg (eqF dd n) xs ys with
   | some b=>some (b && xs.length == ys.length)
   | none=>none)
  | .dct ks,.dct ls=>if dd then (match eqD (eqF dd n) ls ks with
   | some b=>some (ks.length == ls.length && b)
   | none=>none) else none
  | t,u=>if (zah t && (zah u || zat u)) || (zat t && (zah u || zat u)) then some false else none
theorem zgS {f:T→T→Option Bool}:∀ {xs ys:List T} {b:Bool},zbg f xs ys=some b →
  (∀ (j:Nat) (x y:T),xs[j]?=some x→ys[j]?=some y→∃c,f x y=some c) ∧
  ∀ e:Nat→Bool,(∀ (j:Nat) (x y:T),xs[j]?=some x→ys[j]?=some y→f x y=some (e j))→b=(List.range (min xs.length ys.length)).all e
 | [],ys,b,h=>by
  have hb:b=true:=by cases h; rfl
  refine ⟨fun j x y e=>by simp at e,fun e _=>by simp [hb]⟩
 | x :: xs,[],b,h=>by
  have hb:b=true:=by cases h; rfl
  refine ⟨fun j x y _ e=>by simp at e,fun e _=>by simp [hb]⟩
 | x :: xs,y :: ys,b,h=>by
  unfold zbg at h
  cases e1:f x y with
  | none=>rw [e1] at h; simp at h
  | some a=>
   cases e2:zbg f xs ys with
   | none=>rw [e1,e2] at h; simp at h
   | some c=>
    rw [e1,e2] at h
    have hb:(a && c)=b:=by simpa using h
    obtain ⟨i1,i2⟩:=zgS e2
    refine ⟨fun j x' y' h1 h2=>?_,fun e he=>?_⟩
    ·cases j with
     | zero=>simp at h1 h2; subst h1 h2; exact ⟨a,e1⟩
     | succ j=>exact i1 j x' y' (by simpa using h1) (by simpa using h2)
    ·have h0:=he 0 x y (by simp) (by simp)
     rw [e1] at h0
     have h0':a=e 0:=by simpa using h0
     have:=i2 (fun j=>e (j + 1)) fun j x' y' h1 h2=>he (j + 1) x' y' (by simpa using h1) (by simpa using h2)
     rw [← hb,this,h0']
     have hm:min (x :: xs).length (y :: ys).length=min xs.length ys.length + 1:=by simp
     rw [hm,List.range_succ_eq_map,List.all_cons,List.all_map]
     rfl
theorem zfw {f:T→T→Option Bool} {ls:List (Str × T)}:∀ {ks:List (Str × T)} {b:Bool},eqD f ls ks=some b →
  (∀ p∈ks,∀u,ls.lookup p.1=some u→∃c,f p.2 u=some c)∧b=ks.all fun p=>match ls.lookup p.1 with
   | some u=>(f p.2 u).getD false
   | none=>false
 | [],b,h=>by
  have hb:b=true:=by cases h; rfl
  exact ⟨fun p hp=>by simp at hp,by simp [hb]⟩
 | (k,t) :: r,b,h=>by
  unfold eqD at h
  cases e1:ls.lookup k with
  | none=>
   rw [e1] at h
   simp only at h
   cases e2:eqD f ls r with
   | none=>rw [e2] at h; simp at h
   | some c=>
    rw [e2] at h
    have hb:b=false:=by simpa using h.symm
    obtain ⟨i1,i2⟩:=zfw e2
    refine ⟨fun p hp u hu=>?_,by simp [hb,e1]⟩
    rcases List.mem_cons.mp hp with rfl | hp
    ·rw [e1] at hu; cases hu
    ·exact i1 p hp u hu
  | some u0=>
   rw [e1] at h
   simp only at h
   cases e3:f t u0 with
   | none=>rw [e3] at h; simp at h
   | some a=>
    cases e2:eqD f ls r with
    | none=>rw [e3,e2] at h; simp at h
    | some c=>
     rw [e3,e2] at h
     have hb:(a && c)=b:=by simpa using h
     obtain ⟨i1,i2⟩:=zfw e2
     refine ⟨fun p hp u hu=>?_,?_⟩
     ·rcases List.mem_cons.mp hp with rfl | hp
      ·rw [e1] at hu; cases hu; exact ⟨a,e3⟩
      ·exact i1 p hp u hu
     ·rw [List.all_cons,← hb,← i2]
      simp [e1,e3]
section
variable {C:Cfg} {mu:Mu} {H:Hp}
theorem zdu:∀ {ks:List (Str × T)} {ws:List (Key × V)} {vs:List (Key × Value)},RepD C mu H ks ws→KV ws vs→RDV C mu H ks vs
 | _,_,_,.nil,.nil => .nil
 | _,_,_,.cons h r,@Paired.cons _ _ _ _ (k',v) _ _ q t=>by
  obtain ⟨q1,q2⟩:=q
  have e:k'=_:=q1.symm
  subst e
  exact .cons h q2 (zdu r t)
theorem RDV.look (k:Str):∀ {ks:List (Str × T)} {vs:List (Key × Value)},RDV C mu H ks vs→match ks.lookup k with
  | some t => ∃ x v,valueAt vs (.inr k:Key)=some v∧Rep C mu H t x∧RelV x v
  | none=>valueAt vs (.inr k:Key)=none
 | _,_,.nil=>rfl
 | _,_,@RDV.cons _ _ _ k' t x v ks vs h q r=>by
  have ih:=r.look k
  by_cases e:k=k'
  ·subst e
   simp only [List.lookup_cons,beq_self_eq_true]
   exact ⟨x,v,by simp [valueAt],h,q⟩
  ·have e1:(k == k')=false:=by simpa using e
   have e2:¬ ((.inr k':Key) = .inr k):=fun z=>e (Sum.inr.inj z).symm
   have e3:valueAt ((.inr k',v) :: vs) (.inr k:Key)=valueAt vs (.inr k):=by simp [valueAt,List.find?_cons,e2]
   simp only [List.lookup_cons,e1,e3]
   exact ih
theorem RDV.keys:∀ {ks:List (Str × T)} {vs:List (Key × Value)},RDV C mu H ks vs→vs.map (·.1)=ks.map fun p=>(.inr p.1:Key)
 | _,_,.nil=>rfl
 | _,_,.cons _ _ r=>by rw [List.map_cons,List.map_cons,r.keys]
theorem RDV.nodup {ks:List (Str × T)} {vs:List (Key × Value)} (r:RDV C mu H ks vs) (nd:(vs.map (·.1)).Nodup):(ks.map (·.1)).Nodup:=by
 rw [r.keys] at nd
 refine List.Pairwise.of_map (S:=fun a b:Key=>a≠b) (fun x:Str=>(.inr x:Key)) (fun a b h z=>h (congrArg _ z)) ?_
 rw [List.map_map]
 exact nd
theorem zdR {α : Type} {k:Str} {t : α}:∀ {ks:List (Str × α)},(ks.map (·.1)).Nodup→(k,t)∈ks→ks.lookup k=some t
 | [],_,h=>by simp at h
 | (k',t') :: r,nd,h=>by
  rw [List.map_cons,List.nodup_cons] at nd
  rcases List.mem_cons.mp h with e | hm
  ·cases e; simp [List.lookup_cons]
  ·have ne:(k == k')=false:=by
    simp only [beq_eq_false_iff_ne,ne_eq]
    intro z
    subst z
    exact nd.1 (List.mem_map_of_mem (f:=(·.1)) hm)
   rw [List.lookup_cons,ne]
   exact zdR nd.2 hm
theorem zjk {g:Str × T→Bool} {g':Key × Value→Bool}:∀ {ks:List (Str × T)} {vs:List (Key × Value)},RDV C mu H ks vs→(∀ k t x v,(k,t)∈ks→RelV x v→g (k,t)=g' (.inr k,v))→ks.all g=vs.all g'
 | _,_,.nil,_=>rfl
 | _,_,.cons h q r,hg=>by
  rw [List.all_cons,List.all_cons,hg _ _ _ _ (List.mem_cons_self ..) q,zjk r fun k t x v hm=>hg k t x v (List.mem_cons_of_mem _ hm)]
end
section
variable {X:Cx} {C:Cfg} {mu:Mu} {pins:List (Addr × Obj)} {σ : L2.St} {H:Hp} {s:Shared}
theorem zjl {a b:Addr} {x y:Array Value} (hl:s.heap.IsList a x) (hb:IsTup s.heap b y):a≠b:=SeqAt.ne_of_list_tuple hl hb
theorem zjm {a:Addr} {u u':HO} (h:Rd H a u) (h':Rd H a u') (n:∀ o q,u ≠ .frz o q) (n':∀ o q,u' ≠ .frz o q):u=u':=by
 rcases h with h | ⟨o,h⟩
 ·rcases h' with h' | ⟨o',h'⟩
  ·rw [h] at h'; exact Option.some.inj h'
  ·rw [h] at h'; exact absurd (Option.some.inj h') (n _ _)
 ·rcases h' with h' | ⟨o',h'⟩
  ·rw [h] at h'; exact absurd (Option.some.inj h').symm (n' _ _)
  ·rw [h] at h'
   injection Option.some.inj h'
theorem zfx (dd:Bool) (hK:C.K=X.K) (I:Inv X pins σ H s):∀ (n:Nat) (t u:T) (x:V) (b:Bool),Rep C mu H t x→Rep C mu H u x→eqF dd n t u=some b→b=true
 | 0,_,_,_,_,_,_,h=>by simp [eqF] at h
 | n + 1,t,u,x,b,rt,ru,h=>by
  have ih:=zfx dd hK I n
  have lists:∀ {xs ys:List T} {vs:List V} {b:Bool},RepL C mu H xs vs→RepL C mu H ys vs→zbg (eqF dd n) xs ys=some b→b=true:=fun {xs ys vs b} r1 r2 e=>by
   obtain ⟨h1,h2⟩:=zgS e
   rw [h2 (fun _=>true) fun j x y e1 e2=>by
    obtain ⟨c,hc⟩:=h1 j x y e1 e2
    obtain ⟨v,ev,rv⟩:=r1.get e1
    obtain ⟨v',ev',rv'⟩:=r2.get e2
    rw [ev] at ev'; cases ev'
    rw [hc,ih x y v c rv rv' hc]]
   simp
  cases rt with
  | non=>
   cases ru with
   | non=>cases h; rfl
   | cel=>simp [eqF,zah,zat] at h
  | bl c=>
   cases ru with
   | bl=>simp [eqF] at h; exact h
   | cel=>simp [eqF,zah,zat] at h
  | int c=>
   cases ru with
   | int=>simp [eqF] at h; exact h
   | cel=>simp [eqF,zah,zat] at h
  | str c=>
   cases ru with
   | str=>simp [eqF] at h; exact h
   | cel=>simp [eqF,zah,zat] at h
  | ty c=>cases u <;> simp [eqF,zah,zat] at h
  | ob c=>cases u <;> simp [eqF,zah,zat] at h
  | cel=>cases u <;> simp [eqF,zah,zat] at h
  | ins=>cases u <;> simp [eqF,zah,zat] at h
  | exc=>cases u <;> simp [eqF,zah,zat] at h
  | fz=>cases u <;> simp [eqF,zah,zat] at h
  | dn=>cases u <;> simp [eqF,zah,zat] at h
  | tup f r=>
   obtain ⟨its,q,p,_⟩:=f.heap hK I
   generalize hz:V.ref _=z at ru
   cases ru with
   | tup f' r'=>
    cases hz
    have e:=I.tuple_inj (hK ▸ f.sq) (hK ▸ f'.sq)
    subst e
    simp only [eqF] at h
    split at h
    ·rename_i c hc
     have e1:=lists r r' hc
     subst e1
     rw [r.length,r'.length] at h
     simpa using h.symm
    ·cases h
   | lst f' r'=>
    cases hz
    obtain ⟨its',q',p',_⟩:=f'.heap I
    exact absurd rfl (zjl p' p)
   | non=>cases hz
   | bl=>cases hz
   | int=>cases hz
   | str=>cases hz
   | ty=>simp [eqF,zah,zat] at h
   | ob=>simp [eqF,zah,zat] at h
   | cel=>simp [eqF,zah,zat] at h
   | ins=>simp [eqF,zah,zat] at h
   | exc=>simp [eqF,zah,zat] at h
   | fz=>simp [eqF,zah,zat] at h
   | dn=>simp [eqF,zah,zat] at h
   | dct=>simp [eqF,zah,zat] at h
  | lst f r=>
   obtain ⟨its,q,p,_⟩:=f.heap I
   generalize hz:V.ref _=z at ru
   cases ru with
   | lst f' r'=>
    cases hz
    have e:=zjm (.inl f.1) (.inl f'.1) (fun _ _ z=>nomatch z) (fun _ _ z=>nomatch z)
    injection e with e
    subst e
    simp only [eqF] at h
    rw [r.length,r'.length,if_pos rfl] at h
    exact lists r r' h
   | tup f' r'=>
    cases hz
    obtain ⟨its',q',p',_⟩:=f'.heap hK I
    exact absurd rfl (zjl p p')
   | non=>cases hz
   | bl=>cases hz
   | int=>cases hz
   | str=>cases hz
   | ty=>simp [eqF,zah,zat] at h
   | ob=>simp [eqF,zah,zat] at h
   | cel=>simp [eqF,zah,zat] at h
   | ins=>simp [eqF,zah,zat] at h
   | exc=>simp [eqF,zah,zat] at h
   | fz=>simp [eqF,zah,zat] at h
   | dn=>simp [eqF,zah,zat] at h
   | dct=>simp [eqF,zah,zat] at h
  | dct f r=>
   generalize hz:V.ref _=z at ru
   cases ru with
   | dct f' r'=>
    cases hz
    have e:=zjm f.1 f'.1 (fun _ _ z=>nomatch z) (fun _ _ z=>nomatch z)
    injection e with e
    subst e
    obtain ⟨z1,z2,vs,kv,d⟩:=dk_rd I.hok f.1
    have R1:=zdu r kv
    have R2:=zdu r' kv
    obtain ⟨_,_,_,_,_,_,_,_,nd⟩:=d
    simp only [eqF] at h
    cases dd with
    | false=>simp at h
    | true=>
    simp only [if_true] at h
    split at h
    ·rename_i c hc
     obtain ⟨h1,h2⟩:=zfw hc
     have e1:c=true:=by
      rw [h2,List.all_eq_true]
      rintro ⟨k,t⟩ hp
      have l1:=R2.look k
      have l2:=R1.look k
      rw [zdR (R1.nodup nd) hp] at l2
      obtain ⟨x,v,e1,e2,e3⟩:=l2
      split at l1
      ·rename_i u hu
       obtain ⟨x',v',e1',e2',e3'⟩:=l1
       rw [e1] at e1'; cases e1'
       have:x=x':=e3.inj e3'
       subst this
       simp only [hu]
       obtain ⟨c,hc⟩:=h1 (k,t) hp u hu
       simp only at hc
       rw [hc,ih t u x c e2 e2' hc]
       rfl
      ·rw [e1] at l1; cases l1
     subst e1
     rw [R1.length,R2.length] at h
     simpa using h.symm
    ·cases h
   | lst f' r'=>simp [eqF,zah,zat] at h
   | tup f' r'=>simp [eqF,zah,zat] at h
   | non=>cases hz
   | bl=>cases hz
   | int=>cases hz
   | str=>cases hz
   | ty=>simp [eqF,zah,zat] at h
   | ob=>simp [eqF,zah,zat] at h
   | cel=>simp [eqF,zah,zat] at h
   | ins=>simp [eqF,zah,zat] at h
   | exc=>simp [eqF,zah,zat] at h
   | fz=>simp [eqF,zah,zat] at h
   | dn=>simp [eqF,zah,zat] at h
end
end Z
end
section
namespace Z
open PySem PySem.SeqAt PySem.MeetsSeq PySem.MeetsSeq2 PySem.MeetsSeq3 PySem.SeqRoads2
open PySem.AutoSeq1 (wpAny_loadPart')
section
variable {P:Program} {w:World} {l b:Addr} {xs ys:Array Value} {n m:Nat} {d1 d2:Option Addr} {s1 s2:Array (Option Value)} {e:Nat→Bool}
abbrev zdS (xs:Array Value) (n:Nat) (d1:Option Addr) (s1:Array (Option Value)):Obj:={cls := .type "list",dict:=d1,data := .seq xs n,slots:=s1}
abbrev zjn (xs:Array Value) (n:Nat) (d1:Option Addr) (s1:Array (Option Value)):Obj:={cls := .type "tuple",dict:=d1,data := .seq xs n,slots:=s1}
abbrev Each (P:Program) (w:World) (A:Around) (s:Shared) (xs ys:Array Value) (e:Nat→Bool):Prop := ∀ j (h1:j < xs.size) (h2:j < ys.size),EqIn P w A s xs[j] ys[j] (e j)
theorem znd (hz:xs.size=ys.size) (k:Nat):∀ i:Nat,xs.size - i=k→MeetsIn P w (Builtin.«list.__eq__.loop» ⟨[.ref l,.ref b,rawInt i,rawInt 3],[]⟩)
  (fun A R s=>s.heap.get? l=some (zdS xs n d1 s1)∧s.heap.get? b=some (zdS ys m d2 s2)∧Each P w A.in1 s xs ys e∧R (.ok (.ret (.bool (!((List.range xs.size).drop i).all e)))) s):=by
 induction k with
 | zero=>
  intro i hk A R s q
  obtain ⟨hp,g,d,tk,os⟩:=s
  obtain ⟨q1,q2,q3,q4⟩:=q
  wp_walk using wpAny_loadPart' q1,wpAny_loadPart' q2
  have a1:xs[((i:Nat):Int).toNat]?=none:=by simp; omega
  have a2:ys[((i:Nat):Int).toNat]?=none:=by simp; omega
  have a3:(List.range xs.size).drop i = []:=by simp; omega
  rw [a3] at q4
  rw [a1,a2]
  wp_walk using wpAny_loadPart' q1,wpAny_loadPart' q2
  show R (.ok (.ret (.bool (xs.size != ys.size)))) _
  rw [hz]
  simpa using q4
 | succ k ih=>
  intro i hk A R s q
  obtain ⟨hp,g,d,tk,os⟩:=s
  obtain ⟨q1,q2,q3,q4⟩:=q
  wp_walk using wpAny_loadPart' q1,wpAny_loadPart' q2
  have l1:i < xs.size:=by omega
  have l2:i < ys.size:=by omega
  have a1:xs[((i:Nat):Int).toNat]?=some xs[i]:=by simp [l1]
  have a2:ys[((i:Nat):Int).toNat]?=some ys[i]:=by simp [l2]
  have a3:(List.range xs.size).drop i=i :: (List.range xs.size).drop (i + 1):=by simp [List.drop_eq_getElem_cons,l1]
  have a4:((i:Int) + 1)=((i + 1:Nat):Int):=by push_cast; rfl
  rw [a3,List.all_cons] at q4
  rw [a1,a2]
  refine wpAny_bind (q3 i l1 l2 _ _ ?_)
  cases c:e i with
  | true=>
   rw [c] at q4
   wp_walk
   rw [a4]
   refine ⟨plainId_quiet plain_eq_loop _,codeAny_builtin entry_eq_loop ?_⟩
   rw [Around.under_plainId plain_eq_loop _]
   exact ih (i + 1) (by omega) A R _ ⟨q1,q2,q3,by simpa using q4⟩
  | false=>
   rw [c] at q4
   wp_walk using wpAny_loadPart' q1,wpAny_loadPart' q2
   rw [a1,a2]
   wp_walk
   simpa using q4
theorem zne (hz:xs.size=ys.size):MeetsIn P w (Builtin.«list.__ne__» ⟨[.ref l,.ref b],[]⟩)
  (fun A R s=>s.heap.get? l=some (zdS xs n d1 s1)∧s.heap.get? b=some (zdS ys m d2 s2)∧Each P w A.in1 s xs ys e∧R (.ok (.ret (.bool (!(List.range xs.size).all e)))) s):=by
 intro A R s q
 obtain ⟨hp,g,d,tk,os⟩:=s
 obtain ⟨q1,q2,q3,q4⟩:=q
 have f3:=AutoSeq1.sub_list_list
 have hne:¬ (xs.size != ys.size)=true:=by simp [hz]
 wp_walk using wpAny_loadPart' q1,wpAny_loadPart' q2
 refine ⟨plainId_quiet plain_eq_loop _,codeAny_builtin entry_eq_loop ?_⟩
 rw [Around.under_plainId plain_eq_loop _]
 exact znd hz _ 0 rfl A R _ ⟨q1,q2,q3,by simpa using q4⟩
theorem znf:MeetsIn P w (Builtin.«tuple.__ne__» ⟨[.ref l,.ref b],[]⟩)
  (fun A R s=>s.heap.get? l=some (zjn xs n d1 s1)∧s.heap.get? b=some (zjn ys m d2 s2)∧Each P w A.in1 s xs ys e ∧
   R (.ok (.ret (.bool (!((List.range (min xs.size ys.size)).all e && xs.size == ys.size))))) s):=
 .of_wp fun A R s q=>by
  obtain ⟨hp,g,d,tk,os⟩:=s
  obtain ⟨q1,q2,q3,q4⟩:=q
  have f2:=AutoSeq1.sub_tuple_tuple
  have hZ:(xs.toList.zip ys.toList).length=min xs.size ys.size:=by simp
  wp_walk using wpAny_loadPart' q1,wpAny_loadPart' q2,wpAny_forIn_list _ (fun rest c s'=>c.1=none∧s'=⟨hp,g,d,tk,os⟩∧∃i,rest=(xs.toList.zip ys.toList).drop i ∧
   R (.ok (.ret (.bool (!(((List.range (min xs.size ys.size)).drop i).all e && xs.size == ys.size))))) ⟨hp,g,d,tk,os⟩) _
  case turn=>
   rintro ⟨y,x⟩ rest c s' ⟨hc,rfl,i,hz,hR⟩
   have hlt:i < (xs.toList.zip ys.toList).length:=by
    rcases Nat.lt_or_ge i (xs.toList.zip ys.toList).length with h' | h'
    ·exact h'
    ·rw [List.drop_of_length_le h'] at hz; cases hz
   have hm:i < min xs.size ys.size:=hZ ▸ hlt
   have h1:i < xs.size:=Nat.lt_of_lt_of_le hm (Nat.min_le_left _ _)
   have h2:i < ys.size:=Nat.lt_of_lt_of_le hm (Nat.min_le_right _ _)
   rw [List.drop_eq_getElem_cons hlt] at hz
   injection hz with hyx hrest
   have hy:y=xs[i]:=by have:=congrArg Prod.fst hyx; simpa using this
   have hx:x=ys[i]:=by have:=congrArg Prod.snd hyx; simpa using this
   subst hy hx
   have hd:(List.range (min xs.size ys.size)).drop i=i :: (List.range (min xs.size ys.size)).drop (i + 1):=by simp [List.drop_eq_getElem_cons,hm]
   rw [hd,List.all_cons] at hR
   refine wpAny_bind (q3 i h1 h2 _ _ ?_)
   cases hy:e i with
   | true=>
    rw [hy] at hR
    wp_walk
    exact ⟨rfl,rfl,i + 1,hrest,by simpa using hR⟩
   | false=>
    rw [hy] at hR
    wp_walk
    exact ⟨_,rfl,by simpa using hR⟩
  case fin=>
   rintro ⟨b1,b2⟩ s' ⟨hb',rfl,i,hz,hR⟩
   simp only at hb'
   subst hb'
   have hge:min xs.size ys.size≤i:=by
    rcases Nat.lt_or_ge i (xs.toList.zip ys.toList).length with h' | h'
    ·rw [List.drop_eq_getElem_cons h'] at hz; cases hz
    ·exact hZ ▸ h'
   rw [List.drop_of_length_le (by simpa using hge)] at hR
   wp_walk
   exact ⟨_,rfl,by simpa [Builtin.Tuple.tupleCompareSizes,bne] using hR⟩
  case h=>
   exact ⟨rfl,rfl,0,rfl,by simpa using q4⟩
abbrev zgT (P:Program) (w:World) (A:Around) (s:Shared) (xs:Array Value) (x:Value) (e:Nat→Bool):Prop := ∀ j (h1:j < xs.size),EqIn P w A s xs[j] x (e j)
theorem zng {x:Value} (k:Nat):∀ i:Nat,xs.size - i=k→MeetsIn P w (Builtin.«list.__contains__.loop» ⟨[.ref l,x,rawInt i],[]⟩)
  (fun A R s=>s.heap.get? l=some (zdS xs n d1 s1)∧zgT P w A.in1 s xs x e∧R (.ok (.ret (.bool (((List.range xs.size).drop i).any e)))) s):=by
 induction k with
 | zero=>
  intro i hk A R s q
  obtain ⟨hp,gs,d,tk,os⟩:=s
  obtain ⟨q1,q2,q3⟩:=q
  wp_walk using wpAny_loadPart' q1
  have a1:xs[((i:Nat):Int).toNat]?=none:=by simp; omega
  have a2:(List.range xs.size).drop i = []:=by simp; omega
  rw [a2] at q3
  rw [a1]
  wp_walk
  exact q3
 | succ k ih=>
  intro i hk A R s q
  obtain ⟨hp,gs,d,tk,os⟩:=s
  obtain ⟨q1,q2,q3⟩:=q
  wp_walk using wpAny_loadPart' q1
  have l1:i < xs.size:=by omega
  have a1:xs[((i:Nat):Int).toNat]?=some xs[i]:=by simp [l1]
  have a2:(List.range xs.size).drop i=i :: (List.range xs.size).drop (i + 1):=by simp [List.drop_eq_getElem_cons,l1]
  have a4:((i:Int) + 1)=((i + 1:Nat):Int):=by push_cast; rfl
  rw [a2,List.any_cons] at q3
  rw [a1]
  refine wpAny_bind (q2 i l1 _ _ ?_)
  cases c:e i with
  | true=>
   rw [c] at q3
   wp_walk
   exact q3
  | false=>
   rw [c] at q3
   wp_walk
   rw [a4]
   refine ⟨plainId_quiet plain_contains_loop _,codeAny_builtin entry_contains_loop ?_⟩
   rw [Around.under_plainId plain_contains_loop _]
   exact ih (i + 1) (by omega) A R _ ⟨q1,q2,by simpa using q3⟩
theorem znh {x:Value}:MeetsIn P w (Builtin.«list.__contains__» ⟨[.ref l,x],[]⟩)
  (fun A R s=>s.heap.get? l=some (zdS xs n d1 s1)∧zgT P w A.in1 s xs x e∧R (.ok (.ret (.bool ((List.range xs.size).any e)))) s):=by
 intro A R s q
 obtain ⟨hp,gs,d,tk,os⟩:=s
 obtain ⟨q1,q2,q3⟩:=q
 wp_walk using wpAny_loadPart' q1
 refine ⟨plainId_quiet plain_contains_loop _,codeAny_builtin entry_contains_loop ?_⟩
 rw [Around.under_plainId plain_contains_loop _]
 exact zng _ 0 rfl A R _ ⟨q1,q2,by simpa using q3⟩
end
section
variable {P:Program} {w:World} {A:Around} {s:Shared} {l b:Addr} {xs ys:Array Value} {e:Nat→Bool} {E:Value→Shared→Prop} {Q:Value→Shared→Prop}
theorem zni (hl:s.heap.IsList l xs) (hb:s.heap.IsList b ys) (hz:xs.size=ys.size) (hu:A.units < cLine) (he:Each P w A.in1 s xs ys e) (h:Q (.bool (!(List.range xs.size).all e)) s) :
  wpAny (model P w) A (richCompare .NotEq (.ref l) (.ref b)) Q E s:=by
 obtain ⟨⟨c1,d1,o1,s1⟩,g1,rfl,n1,rfl⟩:=id hl
 obtain ⟨⟨c2,d2,o2,s2⟩,g2,rfl,n2,rfl⟩:=id hb
 exact wpAny_richCompare_same_room (T := "list") (op := .NotEq) ⟨_,g1,rfl⟩ ⟨_,g2,rfl⟩ F.slot_list_ne (call_meetsIn F.slot_list_ne ⟨_,g1,rfl⟩ F.entry_list_ne (F.args_list_ne_2 _ _) (zne (e:=e) hz) ⟨g1,g2,he,show Value.bool _≠Value.notImplemented∧Q _ s from ⟨(fun z=>nomatch z),h⟩⟩) hu
theorem znj (hl:s.heap.IsTuple l xs) (hb:s.heap.IsTuple b ys) (hu:A.units < cLine) (he:Each P w A.in1 s xs ys e) (h:Q (.bool (!((List.range (min xs.size ys.size)).all e && xs.size == ys.size))) s) :
  wpAny (model P w) A (richCompare .NotEq (.ref l) (.ref b)) Q E s:=by
 obtain ⟨⟨c1,d1,o1,s1⟩,g1,rfl,n1,rfl⟩:=id hl
 obtain ⟨⟨c2,d2,o2,s2⟩,g2,rfl,n2,rfl⟩:=id hb
 exact wpAny_richCompare_same_room (T := "tuple") (op := .NotEq) ⟨_,g1,rfl⟩ ⟨_,g2,rfl⟩ F.slot_tuple_ne (call_meetsIn F.slot_tuple_ne ⟨_,g1,rfl⟩ F.entry_tuple_ne (F.args_tuple_ne_2 _ _) (znf (e:=e)) ⟨g1,g2,he,show Value.bool _≠Value.notImplemented∧Q _ s from ⟨(fun z=>nomatch z),h⟩⟩) hu
theorem znk {x:Value} (neg:Bool) (hl:s.heap.IsList l xs) (he:zgT P w A.in1 s xs x e) (h:Q (.bool (if neg then !(List.range xs.size).any e else (List.range xs.size).any e)) s) :
  wpAny (model P w) A (compareOp (if neg then .NotIn else .In) x (.ref l)) Q E s:=by
 obtain ⟨⟨c1,d1,o1,s1⟩,g1,rfl,n1,rfl⟩:=id hl
 have main:∀ R:Bool→Shared→Prop,R ((List.range xs.size).any e) s→wpAny (model P w) A (contains (.ref l) x) R E s:=fun R r=>by
  refine wpAny_contains_slot (T := "list") ⟨_,g1,rfl⟩ F.slot_list_contains (call_meetsIn F.slot_list_contains ⟨_,g1,rfl⟩ F.entry_list_contains (F.args_list_contains_2 _ _) (znh (e:=e)) ⟨g1,he,?_⟩)
  exact wpAny_truthy_bool r
 cases neg with
 | true=>
  show wpAny _ A (do return .bool (!(← contains (.ref l) x))) Q E s
  exact wpAny_bind (main _ (wpAny_pure h))
 | false=>
  show wpAny _ A (do return .bool (← contains (.ref l) x)) Q E s
  exact wpAny_bind (main _ (wpAny_pure h))
end
end Z
end
section
namespace Z
open PySem PySem.Spec PyProof.Rows L2 PySem.SeqAt
open PySem.W (EqTree)
section
variable {dd:Bool} {P:Program} {w:World} {s:Shared} {n:Nat} {v y:Value} {b:Bool}
theorem EqC.leaf (h:∀ A:Around,A.units + n < cLine→EqAt A s v y b):EqC dd P w s n v y b:=by
 cases dd with
 | true=>exact .leaf h
 | false=>exact h
theorem zeE {x:V} {v:Value} {A:Around} {l:Addr} {its:Array Value} (rx:RelV x v) (f:flatV x=true) (hl:s.heap.IsList l its) (hu:A.units < cLine):EqAt A s v (.ref l) false∧EqAt A s (.ref l) v false:=by
 cases x with
 | non=>cases rx; exact ⟨.none_list hl hu,.list_none hl hu⟩
 | bl b=>cases rx; exact ⟨.bool_list b hl hu,.list_bool b hl hu⟩
 | int i=>obtain ⟨t,rfl⟩:=rx; exact ⟨.int_list i t hl hu,.list_int i t hl hu⟩
 | str i=>obtain ⟨t,rfl⟩:=rx; exact ⟨.str_list i t hl hu,.list_str i t hl hu⟩
 | _=>cases f
theorem zeF {x:V} {v:Value} {A:Around} {l:Addr} {its:Array Value} (rx:RelV x v) (f:flatV x=true) (hl:IsTup s.heap l its) (hu:A.units < cLine):EqAt A s v (.ref l) false∧EqAt A s (.ref l) v false:=by
 cases x with
 | non=>cases rx; exact ⟨.none_tuple hl hu,.tuple_none hl hu⟩
 | bl b=>cases rx; exact ⟨.bool_tuple b hl hu,.tuple_bool b hl hu⟩
 | int i=>obtain ⟨t,rfl⟩:=rx; exact ⟨.int_tuple i t hl hu,.tuple_int i t hl hu⟩
 | str i=>obtain ⟨t,rfl⟩:=rx; exact ⟨.str_tuple i t hl hu,.tuple_str i t hl hu⟩
 | _=>cases f
theorem EqC.lists {l l':Addr} {vs vs':Array Value} {e:Nat→Bool} (hne:l≠l') (h1:s.heap.IsList l vs) (h2:s.heap.IsList l' vs') (hz:vs.size=vs'.size)
  (he:∀ j (a:j < vs.size) (c:j < vs'.size),EqC dd P w s n vs[j] vs'[j] (e j)):EqC dd P w s (n + 1) (.ref l) (.ref l') ((List.range vs.size).all e):=by
 cases dd with
 | true=>exact .lists hne h1 h2 hz he
 | false=>exact fun A hu => .of_refs hne (RcAt.lists h1 h2 hz (by omega) fun j a c=>he j a c _ (by show A.units + 1 + n < _; omega))
theorem EqC.tuples {l l':Addr} {vs vs':Array Value} {e:Nat→Bool} (hne:l≠l') (h1:IsTup s.heap l vs) (h2:IsTup s.heap l' vs')
  (he:∀ j (a:j < vs.size) (c:j < vs'.size),EqC dd P w s n vs[j] vs'[j] (e j)):EqC dd P w s (n + 1) (.ref l) (.ref l') ((List.range (min vs.size vs'.size)).all e && vs.size == vs'.size):=by
 cases dd with
 | true=>exact .tuples hne h1 h2 he
 | false=>exact fun A hu => .of_refs hne (RcAt.tuples h1 h2 (by omega) fun j a c=>he j a c _ (by show A.units + 1 + n < _; omega))
theorem EqC.same:EqC dd P w s n v v true:=by
 cases dd with
 | true=>exact .same
 | false=>exact fun A _ => .same v
end
section
variable {X:Cx} {C:Cfg} {mu:Mu} {pins:List (Addr × Obj)} {σ : L2.St} {H:Hp} {s:Shared}
theorem Rep.flat {t:T} {x:V} (r:Rep C mu H t x) (f:zah t=true):flatV x=true:=by
 cases r <;> first | rfl | cases f
theorem zfy {dd:Bool} {n:Nat} {P:Program} {w:World} {xs ys:List T} {vs ws:List V} {us ts:List Value} {b:Bool} (r1:RepL C mu H xs vs) (q1:Vals vs us) (r2:RepL C mu H ys ws) (q2:Vals ws ts) (h:zbg (eqF dd n) xs ys=some b)
  (ih:∀ t u x y v w' b,Rep C mu H t x→Rep C mu H u y→RelV x v→RelV y w'→eqF dd n t u=some b→EqC dd P w s n v w' b) :
  ∃ e:Nat→Bool,b=(List.range (min us.length ts.length)).all e∧∀j (a:j < us.toArray.size) (c:j < ts.toArray.size),EqC dd P w s n us.toArray[j] ts.toArray[j] (e j):=by
 obtain ⟨h1,h2⟩:=zgS h
 refine ⟨fun j=>match xs[j]?,ys[j]? with
  | some x,some y=>(eqF dd n x y).getD false
  | _,_=>false,?_,fun j a c=>?_⟩
 ·have e:=h2 _ fun j x y e1 e2=>by
   obtain ⟨c,hc⟩:=h1 j x y e1 e2
   show _=some (match xs[j]?,ys[j]? with
    | some x,some y=>(eqF dd n x y).getD false
    | _,_=>false)
   rw [e1,e2,hc]
   simp only
   rw [hc]
   rfl
  rw [e,r1.length,r2.length,q1.length,q2.length]
 ·have a':j < us.length:=by simpa using a
  have c':j < ts.length:=by simpa using c
  obtain ⟨t,x,e1,e2,rt,rx⟩:=r1.vals q1 (List.getElem?_eq_getElem a')
  obtain ⟨u,y,e3,e4,ru,ry⟩:=r2.vals q2 (List.getElem?_eq_getElem c')
  obtain ⟨b',hb⟩:=h1 j t u e1 e3
  simp only [e1,e3,hb,Option.getD_some]
  exact ih t u x y _ _ b' rt ru (by simpa using rx) (by simpa using ry) hb
theorem zjo {P:Program} {w:World} {n:Nat} {ks ls:List (Str × T)} {va vb:List (Key × Value)} {c:Bool} (R1:RDV C mu H ks va) (R2:RDV C mu H ls vb) (nd:(va.map (·.1)).Nodup) (h:eqD (eqF true n) ls ks=some c)
  (ih:∀ t u x y v w' b,Rep C mu H t x→Rep C mu H u y→RelV x v→RelV y w'→eqF true n t u=some b→EqC true P w s n v w' b) :
  ∃ e:Key→Bool,c=(va.all fun p=>(valueAt vb p.1).isSome && e p.1)∧∀k v y,(k,v)∈va→valueAt vb k=some y→EqTree P w s n v y (e k):=by
 obtain ⟨h1,h2⟩:=zfw h
 refine ⟨fun k=>match k with
  | .inr z=>(match ks.lookup z,ls.lookup z with
   | some t,some u=>(eqF true n t u).getD false
   | _,_=>false)
  | _=>false,?_,fun k v y hm hy=>?_⟩
 ·rw [h2]
  refine zjk R1 fun k t x v hm rx=>?_
  have l2:=R2.look k
  have lk:=zdR (R1.nodup nd) hm
  simp only [lk]
  cases e:ls.lookup k with
  | none=>
   rw [e] at l2
   simp [l2]
  | some u=>
   rw [e] at l2
   obtain ⟨x',v',e1,_⟩:=l2
   simp [e1]
 ·obtain ⟨z,t,x,m,ek,rt,rx⟩:=R1.mem hm
  simp only at ek rx
  subst ek
  have lk:=zdR (R1.nodup nd) m
  have l2:=R2.look z
  cases e:ls.lookup z with
  | none=>
   rw [e] at l2
   rw [l2] at hy
   cases hy
  | some u=>
   rw [e] at l2
   obtain ⟨x',v',e1,e2,e3⟩:=l2
   rw [e1] at hy
   cases hy
   obtain ⟨c',hc⟩:=h1 (z,t) m u e
   simp only at hc
   simp only [lk,e,hc,Option.getD_some]
   exact ih t u x x' v _ c' rt e2 rx e3 hc
theorem zgU (dd:Bool) (hK:C.K=X.K) (I:Inv X pins σ H s):∀ (n:Nat) (t u:T) (x y:V) (v w':Value) (b:Bool),Rep C mu H t x→Rep C mu H u y→RelV x v→RelV y w'→eqF dd n t u=some b→EqC dd X.prog X.w s n v w' b
 | 0,_,_,_,_,_,_,_,_,_,_,_,h=>by simp [eqF] at h
 | n + 1,t,u,x,y,v,w',b,rt,ru,rx,ry,h=>by
  have ih:=zgU dd hK I n
  have flats:zah t=true→zah u=true→eqV x y=b→EqC dd X.prog X.w s (n + 1) v w' b:=fun f1 f2 e=>by
   subst e
   exact .leaf fun A _=>eqAt_V rx ry (rt.flat f1) (ru.flat f2)
  cases rt with
  | non=>
   cases ru with
   | non=>exact flats rfl rfl (by simp [eqF] at h; subst h; rfl)
   | bl=>exact flats rfl rfl (by simp [eqF,zah] at h; subst h; rfl)
   | int=>exact flats rfl rfl (by simp [eqF,zah] at h; subst h; rfl)
   | str=>exact flats rfl rfl (by simp [eqF,zah] at h; subst h; rfl)
   | lst f r=>
    obtain ⟨its,q,p,_⟩:=f.heap I
    cases ry
    have e:b=false:=by simp [eqF,zah,zat] at h; exact h
    subst e
    exact .leaf fun A hu=>(zeE rx rfl p (by omega)).1
   | tup f r=>
    obtain ⟨its,q,p,_⟩:=f.heap hK I
    cases ry
    have e:b=false:=by simp [eqF,zah,zat] at h; exact h
    subst e
    exact .leaf fun A hu=>(zeF rx rfl p (by omega)).1
   | _=>simp [eqF,zah,zat] at h
  | bl c=>
   cases ru with
   | non=>exact flats rfl rfl (by simp [eqF,zah] at h; subst h; rfl)
   | bl=>exact flats rfl rfl (by simpa [eqF,eqV] using h)
   | int=>exact flats rfl rfl (by simpa [eqF,eqV] using h)
   | str=>exact flats rfl rfl (by simp [eqF,zah] at h; subst h; rfl)
   | lst f r=>
    obtain ⟨its,q,p,_⟩:=f.heap I
    cases ry
    have e:b=false:=by simp [eqF,zah,zat] at h; exact h
    subst e
    exact .leaf fun A hu=>(zeE rx rfl p (by omega)).1
   | tup f r=>
    obtain ⟨its,q,p,_⟩:=f.heap hK I
    cases ry
    have e:b=false:=by simp [eqF,zah,zat] at h; exact h
    subst e
    exact .leaf fun A hu=>(zeF rx rfl p (by omega)).1
   | _=>simp [eqF,zah,zat] at h
  | int c=>
   cases ru with
   | non=>exact flats rfl rfl (by simp [eqF,zah] at h; subst h; rfl)
   | bl=>exact flats rfl rfl (by simpa [eqF,eqV] using h)
   | int=>exact flats rfl rfl (by simpa [eqF,eqV] using h)
   | str=>exact flats rfl rfl (by simp [eqF,zah] at h; subst h; rfl)
   | lst f r=>
    obtain ⟨its,q,p,_⟩:=f.heap I
    cases ry
    have e:b=false:=by simp [eqF,zah,zat] at h; exact h
    subst e
    exact .leaf fun A hu=>(zeE rx rfl p (by omega)).1
   | tup f r=>
    obtain ⟨its,q,p,_⟩:=f.heap hK I
    cases ry
    have e:b=false:=by simp [eqF,zah,zat] at h; exact h
    subst e
    exact .leaf fun A hu=>(zeF rx rfl p (by omega)).1
   | _=>simp [eqF,zah,zat] at h
  | str c=>
   cases ru with
   | non=>exact flats rfl rfl (by simp [eqF,zah] at h; subst h; rfl)
   | bl=>exact flats rfl rfl (by simp [eqF,zah] at h; subst h; rfl)
   | int=>exact flats rfl rfl (by simp [eqF,zah] at h; subst h; rfl)
   | str=>exact flats rfl rfl (by simpa [eqF,eqV] using h)
   | lst f r=>
    obtain ⟨its,q,p,_⟩:=f.heap I
    cases ry
    have e:b=false:=by simp [eqF,zah,zat] at h; exact h
    subst e
    exact .leaf fun A hu=>(zeE rx rfl p (by omega)).1
   | tup f r=>
    obtain ⟨its,q,p,_⟩:=f.heap hK I
    cases ry
    have e:b=false:=by simp [eqF,zah,zat] at h; exact h
    subst e
    exact .leaf fun A hu=>(zeF rx rfl p (by omega)).1
   | _=>simp [eqF,zah,zat] at h
  | ty c=>cases u <;> simp [eqF,zah,zat] at h
  | ob c=>cases u <;> simp [eqF,zah,zat] at h
  | cel=>cases u <;> simp [eqF,zah,zat] at h
  | ins=>cases u <;> simp [eqF,zah,zat] at h
  | exc=>cases u <;> simp [eqF,zah,zat] at h
  | fz=>cases u <;> simp [eqF,zah,zat] at h
  | dn=>cases u <;> simp [eqF,zah,zat] at h
  | @lst xs la lv f r=>
   obtain ⟨its,q,p,_⟩:=f.heap I
   cases rx
   have oth:∀ {y:V} {u:T},Rep C mu H u y→RelV y w'→zah u=true→b=false→EqC dd X.prog X.w s (n + 1) (.ref la) w' b:=fun {y u} ru ry f e=>by
    subst e
    exact .leaf fun A hu=>(zeE ry (ru.flat f) p (by omega)).2
   cases ru with
   | non=>exact oth .non ry rfl (by simp [eqF,zah,zat] at h; exact h)
   | bl c=>exact oth (.bl c) ry rfl (by simp [eqF,zah,zat] at h; exact h)
   | int c=>exact oth (.int c) ry rfl (by simp [eqF,zah,zat] at h; exact h)
   | str c=>exact oth (.str c) ry rfl (by simp [eqF,zah,zat] at h; exact h)
   | tup f' r'=>
    obtain ⟨its',q',p',_⟩:=f'.heap hK I
    cases ry
    have e:b=false:=by simp [eqF,zah,zat] at h; exact h
    subst e
    exact .leaf fun A hu => .list_tuple p p' (by omega)
   | @lst ys lb lw f' r'=>
    obtain ⟨its',q',p',_⟩:=f'.heap I
    cases ry
    by_cases e:la=lb
    ·subst e
     have e2:=zfx dd hK I (n + 1) _ _ _ b (.lst f r) (.lst f' r') h
     subst e2
     exact .same
    ·have n1:=r.length.trans q.length
     have n2:=r'.length.trans q'.length
     simp only [eqF] at h
     by_cases hz:xs.length=ys.length
     ·rw [if_pos hz] at h
      obtain ⟨e,hb,he⟩:=zfy r q r' q' h ih
      rw [hb,show min its.length its'.length=its.toArray.size by simp; omega]
      exact .lists ‹_› p p' (by simp; omega) he
     ·rw [if_neg hz] at h
      have eb:b=false:=by simpa using h.symm
      subst eb
      exact .leaf fun A hu => .of_refs e (RcAt.lists_lengths p p' (by simp; omega) (by omega))
   | _=>simp [eqF,zah,zat] at h
  | @tup xs la lv f r=>
   obtain ⟨its,q,p,_⟩:=f.heap hK I
   cases rx
   have oth:∀ {y:V} {u:T},Rep C mu H u y→RelV y w'→zah u=true→b=false→EqC dd X.prog X.w s (n + 1) (.ref la) w' b:=fun {y u} ru ry f e=>by
    subst e
    exact .leaf fun A hu=>(zeF ry (ru.flat f) p (by omega)).2
   cases ru with
   | non=>exact oth .non ry rfl (by simp [eqF,zah,zat] at h; exact h)
   | bl c=>exact oth (.bl c) ry rfl (by simp [eqF,zah,zat] at h; exact h)
   | int c=>exact oth (.int c) ry rfl (by simp [eqF,zah,zat] at h; exact h)
   | str c=>exact oth (.str c) ry rfl (by simp [eqF,zah,zat] at h; exact h)
   | lst f' r'=>
    obtain ⟨its',q',p',_⟩:=f'.heap I
    cases ry
    have e:b=false:=by simp [eqF,zah,zat] at h; exact h
    subst e
    exact .leaf fun A hu => .tuple_list p p' (by omega)
   | @tup ys lb lw f' r'=>
    obtain ⟨its',q',p',_⟩:=f'.heap hK I
    cases ry
    by_cases e:la=lb
    ·subst e
     have e2:=zfx dd hK I (n + 1) _ _ _ b (.tup f r) (.tup f' r') h
     subst e2
     exact .same
    ·have n1:=r.length.trans q.length
     have n2:=r'.length.trans q'.length
     simp only [eqF] at h
     split at h
     ·rename_i c hc
      obtain ⟨e,hb,he⟩:=zfy r q r' q' hc ih
      have h':(c && xs.length == ys.length)=b:=by simpa using h
      rw [← h',hb,n1,n2]
      have:=EqC.tuples (dd:=dd) (P:=X.prog) (w:=X.w) (n:=n) ‹_› p p' he
      simpa using this
     ·cases h
   | _=>simp [eqF,zah,zat] at h
  | @dct ks la ws f r=>
   cases ru with
   | @dct ls lb ws' f' r'=>
    cases rx
    cases ry
    by_cases e:la=lb
    ·subst e
     have e2:=zfx dd hK I (n + 1) _ _ _ b (.dct f r) (.dct f' r') h
     subst e2
     exact .same
    ·cases dd with
     | false=>simp [eqF] at h
     | true=>
      obtain ⟨z1,z2,vs,kv,d⟩:=dk_rd I.hok f.1
      obtain ⟨z1',z2',vs',kv',d'⟩:=dk_rd I.hok f'.1
      have R1:=zdu r kv
      have R2:=zdu r' kv'
      have nd:(vs.map (·.1)).Nodup:=by obtain ⟨_,_,_,_,_,_,_,_,nd⟩:=d; exact nd
      simp only [eqF,if_true] at h
      split at h
      ·rename_i c hc
       obtain ⟨e,hb,he⟩:=zjo R1 R2 nd hc ih
       have h':(ks.length == ls.length && c)=b:=by simpa using h
       rw [← h',hb,R1.length,R2.length]
       exact .dicts ‹_› z2 z2' d d' he
      ·cases h
   | _=>simp [eqF,zah,zat] at h
end
end Z
end
section
namespace Z
open PySem PySem.Spec PyProof.Rows L2 PySem.SeqAt
open PySem.W (EqTree)
theorem znl {A:Around} {s:Shared} {y x:V} {u v:Value} (ry:RelV y u) (rx:RelV x v) (fy:flatV y=true) (fx:flatV x=true):RcAt A s u v (eqV y x)∧RcNeAt A s u v (!eqV y x):=by
 cases y with
 | non=>
  cases ry
  cases x with
  | non=>cases rx; exact ⟨.none_none,.none_none⟩
  | bl b=>cases rx; exact ⟨.none_bool b,.none_bool b⟩
  | int b=>obtain ⟨t,rfl⟩:=rx; exact ⟨.none_int b t,.none_int b t⟩
  | str b=>obtain ⟨t,rfl⟩:=rx; exact ⟨.none_str b t,.none_str b t⟩
  | _=>cases fx
 | bl a=>
  cases ry
  cases x with
  | non=>cases rx; exact ⟨.bool_none a,.bool_none a⟩
  | bl b=>cases rx; exact ⟨.bool_bool a b,.bool_bool a b⟩
  | int b=>obtain ⟨t,rfl⟩:=rx; exact ⟨.bool_int a b t,.bool_int a b t⟩
  | str b=>obtain ⟨t,rfl⟩:=rx; exact ⟨.bool_str a b t,.bool_str a b t⟩
  | _=>cases fx
 | int a=>
  obtain ⟨k,rfl⟩:=ry
  cases x with
  | non=>cases rx; exact ⟨.int_none a k,.int_none a k⟩
  | bl b=>cases rx; exact ⟨.int_bool a k b,.int_bool a k b⟩
  | int b=>obtain ⟨t,rfl⟩:=rx; exact ⟨.int_int a k b t,.int_int a k b t⟩
  | str b=>obtain ⟨t,rfl⟩:=rx; exact ⟨.int_str a k b t,.int_str a k b t⟩
  | _=>cases fx
 | str a=>
  obtain ⟨k,rfl⟩:=ry
  cases x with
  | non=>cases rx; exact ⟨.str_none a k,.str_none a k⟩
  | bl b=>cases rx; exact ⟨.str_bool a k b,.str_bool a k b⟩
  | int b=>obtain ⟨t,rfl⟩:=rx; exact ⟨.str_int a k b t,.str_int a k b t⟩
  | str b=>obtain ⟨t,rfl⟩:=rx; exact ⟨.str_str a k b t,.str_str a k b t⟩
  | _=>cases fx
 | _=>cases fy
theorem zeG {A:Around} {s:Shared} {x:V} {v:Value} {l:Addr} {its:Array Value} (rx:RelV x v) (f:flatV x=true) (hl:s.heap.IsList l its) (hu:A.units < cLine) :
  (RcAt A s v (.ref l) false∧RcAt A s (.ref l) v false)∧RcNeAt A s v (.ref l) true∧RcNeAt A s (.ref l) v true:=by
 cases x with
 | non=>cases rx; exact ⟨⟨.none_list hl hu,.list_none hl hu⟩,.none_list hl hu,.list_none hl hu⟩
 | bl b=>cases rx; exact ⟨⟨.bool_list b hl hu,.list_bool b hl hu⟩,.bool_list b hl hu,.list_bool b hl hu⟩
 | int i=>obtain ⟨t,rfl⟩:=rx; exact ⟨⟨.int_list i t hl hu,.list_int i t hl hu⟩,.int_list i t hl hu,.list_int i t hl hu⟩
 | str i=>obtain ⟨t,rfl⟩:=rx; exact ⟨⟨.str_list i t hl hu,.list_str i t hl hu⟩,.str_list i t hl hu,.list_str i t hl hu⟩
 | _=>cases f
theorem zeH {A:Around} {s:Shared} {x:V} {v:Value} {l:Addr} {its:Array Value} (rx:RelV x v) (f:flatV x=true) (hl:IsTup s.heap l its) (hu:A.units < cLine) :
  (RcAt A s v (.ref l) false∧RcAt A s (.ref l) v false)∧RcNeAt A s v (.ref l) true∧RcNeAt A s (.ref l) v true:=by
 cases x with
 | non=>cases rx; exact ⟨⟨.none_tuple hl hu,.tuple_none hl hu⟩,.none_tuple hl hu,.tuple_none hl hu⟩
 | bl b=>cases rx; exact ⟨⟨.bool_tuple b hl hu,.tuple_bool b hl hu⟩,.bool_tuple b hl hu,.tuple_bool b hl hu⟩
 | int i=>obtain ⟨t,rfl⟩:=rx; exact ⟨⟨.int_tuple i t hl hu,.tuple_int i t hl hu⟩,.int_tuple i t hl hu,.tuple_int i t hl hu⟩
 | str i=>obtain ⟨t,rfl⟩:=rx; exact ⟨⟨.str_tuple i t hl hu,.tuple_str i t hl hu⟩,.str_tuple i t hl hu,.tuple_str i t hl hu⟩
 | _=>cases f
structure Rc2 (P:Program) (w:World) (A:Around) (s:Shared) (v u:Value) (b:Bool):Prop where
 eq:∀ (E Q:Value→Shared→Prop),Q (.bool b) s→wpAny (model P w) A (compareOp .Eq v u) Q E s
 ne:∀ (E Q:Value→Shared→Prop),Q (.bool (!b)) s→wpAny (model P w) A (compareOp .NotEq v u) Q E s
theorem Rc2.of {P:Program} {w:World} {A:Around} {s:Shared} {v u:Value} {b c:Bool} (h1:RcAt A s v u b) (h2:RcNeAt A s v u c) (e:c = !b):Rc2 P w A s v u b:=
 ⟨fun E Q q=>h1 P w E Q q,fun E Q q=>h2 P w E Q (by rw [e]; exact q)⟩
section
variable {X:Cx} {C:Cfg} {mu:Mu} {pins:List (Addr × Obj)} {σ : L2.St} {H:Hp} {s:Shared}
theorem Bk.rep {t:T} {x:V} (r:Bk C mu H t x) (f:zah t=true):Rep C mu H t x:=by
 cases t with
 | non=>exact r
 | bl=>exact r
 | int=>exact r
 | str=>exact r
 | _=>cases f
theorem Bk.flat {t:T} {x:V} (r:Bk C mu H t x) (f:zah t=true):flatV x=true:=(r.rep f).flat f
theorem zjp {dd:Bool} {n:Nat} {t u:T} {x y:V} {b:Bool} (rt:Rep C mu H t x) (ru:Rep C mu H u y) (f1:zah t=true) (f2:zah u=true) (h:eqF dd (n + 1) t u=some b):eqV x y=b:=by
 cases rt with
 | non=>
  cases ru with
  | non=>simp [eqF] at h; subst h; rfl
  | bl=>simp [eqF,zah] at h; subst h; rfl
  | int=>simp [eqF,zah] at h; subst h; rfl
  | str=>simp [eqF,zah] at h; subst h; rfl
  | _=>cases f2
 | bl=>
  cases ru with
  | non=>simp [eqF,zah] at h; subst h; rfl
  | bl=>simpa [eqF,eqV] using h
  | int=>simpa [eqF,eqV] using h
  | str=>simp [eqF,zah] at h; subst h; rfl
  | _=>cases f2
 | int=>
  cases ru with
  | non=>simp [eqF,zah] at h; subst h; rfl
  | bl=>simpa [eqF,eqV] using h
  | int=>simpa [eqF,eqV] using h
  | str=>simp [eqF,zah] at h; subst h; rfl
  | _=>cases f2
 | str=>
  cases ru with
  | non=>simp [eqF,zah] at h; subst h; rfl
  | bl=>simp [eqF,zah] at h; subst h; rfl
  | int=>simp [eqF,zah] at h; subst h; rfl
  | str=>simpa [eqF,eqV] using h
  | _=>cases f2
 | _=>cases f1
theorem zeI {xs:List T} {x:V} (I:Inv X pins σ H s) (h:Bk C mu H (.lst xs) x):∃ a vs its,x = .ref a∧RepL C mu H xs vs∧Vals vs its∧s.heap.IsList a its.toArray∧Rd H a (.lst vs):=by
 obtain ⟨a,vs,e,h1,h2⟩:=h
 obtain ⟨its,q,p,_⟩:=I.list (X:=X) (.inl h1)
 exact ⟨a,vs,its,e,h2,q,p.isList,h1⟩
theorem zeJ {xs:List T} {x:V} (hK:C.K=X.K) (I:Inv X pins σ H s) (h:Bk C mu H (.tup xs) x):∃ a vs its,x = .ref a∧RepL C mu H xs vs∧Vals vs its∧IsTup s.heap a its.toArray:=by
 cases h with
 | tup f r=>
  obtain ⟨its,q,p,_⟩:=f.heap hK I
  exact ⟨_,_,its,rfl,r,q,p⟩
theorem zjq (hK:C.K=X.K) (I:Inv X pins σ H s) {t u:T} {x y:V} {v w':Value} {b:Bool} {n:Nat} (rt:Bk C mu H t x) (ru:Bk C mu H u y) (rx:RelV x v) (ry:RelV y w') (hu:X.A.units + (n + 1) < cLine) (h:eqF true (n + 1) t u=some b) :
  (∀ (E Q:Value→Shared→Prop),Q (.bool b) s→wpAny (model X.prog X.w) X.A (compareOp .Eq v w') Q E s) ∧
  ((∀ ks,t ≠ .dct ks)→∀(E Q:Value→Shared→Prop),Q (.bool (!b)) s→wpAny (model X.prog X.w) X.A (compareOp .NotEq v w') Q E s):=by
 have ih:=zgU (C:=C) (mu:=mu) true hK I n
 have hu':X.A.units < cLine:=by omega
 have fin:Rc2 X.prog X.w X.A s v w' b→(∀ (E Q:Value→Shared→Prop),Q (.bool b) s→wpAny (model X.prog X.w) X.A (compareOp .Eq v w') Q E s) ∧
  ((∀ ks,t ≠ .dct ks)→∀(E Q:Value→Shared→Prop),Q (.bool (!b)) s→wpAny (model X.prog X.w) X.A (compareOp .NotEq v w') Q E s):=fun r=>⟨r.eq,fun _=>r.ne⟩
 have flats:zah t=true→zah u=true→eqV x y=b→Rc2 X.prog X.w X.A s v w' b:=fun f1 f2 e=>by
  subst e
  obtain ⟨h1,h2⟩:=znl (A:=X.A) (s:=s) rx ry (rt.flat f1) (ru.flat f2)
  exact .of h1 h2 rfl
 have kind:(zah t=true∧zah u=true)∨(∃ xs ys,t = .lst xs∧u = .lst ys)∨(∃ xs ys,t = .tup xs∧u = .tup ys)∨(∃ xs ys,t = .dct xs∧u = .dct ys) ∨
   ((zah t || zat t)=true∧(zah u || zat u)=true∧b=false∧(∃ xs,t = .lst xs∧∀ys,u ≠ .lst ys)∨(zah t || zat t)=true∧(zah u || zat u)=true∧b=false∧(∃ xs,t = .tup xs∧∀ys,u ≠ .tup ys) ∨
    zah t=true∧zat u=true∧b=false):=by
  cases t <;> cases u <;> simp [eqF,zah,zat] at h ⊢ <;> exact h
 rcases kind with ⟨f1,f2⟩ | ⟨xs,ys,rfl,rfl⟩ | ⟨xs,ys,rfl,rfl⟩ | ⟨ks,ls,rfl,rfl⟩ | (⟨_,f2,rfl,xs,rfl,hn⟩ | ⟨_,f2,rfl,xs,rfl,hn⟩ | ⟨f1,f2,rfl⟩)
 ·exact fin (flats f1 f2 (zjp (rt.rep f1) (ru.rep f2) f1 f2 h))
 ·obtain ⟨a,vs,its,rfl,r1,q1,p1,_⟩:=zeI I rt
  obtain ⟨c,ws,its',rfl,r2,q2,p2,_⟩:=zeI I ru
  cases rx
  cases ry
  have n1:=r1.length.trans q1.length
  have n2:=r2.length.trans q2.length
  simp only [eqF] at h
  refine fin ?_
  by_cases hz:xs.length=ys.length
  ·rw [if_pos hz] at h
   obtain ⟨e,hb,he⟩:=zfy r1 q1 r2 q2 h ih
   have hm:min its.length its'.length=its.toArray.size:=by simp; omega
   have hs:its.toArray.size=its'.toArray.size:=by simp; omega
   rw [hm] at hb
   subst hb
   refine ⟨fun E Q q=>PySem.W.eq_listsT p1 p2 hs he hu q,fun E Q q=>zni p1 p2 hs hu' (fun j a c=>EqTree.at (he j a c) _ ?_) q⟩
   show X.A.units + 1 + n < cLine
   omega
  ·rw [if_neg hz] at h
   have eb:b=false:=by simpa using h.symm
   subst eb
   have hs:(its.toArray.size != its'.toArray.size)=true:=by simp; omega
   exact .of (RcAt.lists_lengths p1 p2 hs hu') (RcNeAt.lists_lengths p1 p2 hs hu') rfl
 ·obtain ⟨a,vs,its,rfl,r1,q1,p1⟩:=zeJ hK I rt
  obtain ⟨c,ws,its',rfl,r2,q2,p2⟩:=zeJ hK I ru
  cases rx
  cases ry
  have n1:=r1.length.trans q1.length
  have n2:=r2.length.trans q2.length
  simp only [eqF] at h
  refine fin ?_
  split at h
  ·rename_i d hd
   obtain ⟨e,hb,he⟩:=zfy r1 q1 r2 q2 hd ih
   have h':(d && xs.length == ys.length)=b:=by simpa using h
   have hb':b=((List.range (min its.toArray.size its'.toArray.size)).all e && its.toArray.size == its'.toArray.size):=by
    rw [← h',hb,n1,n2]
    simp
   subst hb'
   refine ⟨fun E Q q=>PySem.W.eq_tuplesT p1 p2 he hu q,fun E Q q=>znj p1 p2 hu' (fun j a c=>EqTree.at (he j a c) _ ?_) q⟩
   show X.A.units + 1 + n < cLine
   omega
  ·cases h
 ·obtain ⟨a,ws,rfl,g1,r1⟩:=rt
  obtain ⟨c,ws',rfl,g2,r2⟩:=ru
  cases rx
  cases ry
  obtain ⟨z1,z2,vs,kv,d⟩:=dk_rd I.hok g1
  obtain ⟨z1',z2',vs',kv',d'⟩:=dk_rd I.hok g2
  have R1:=zdu r1 kv
  have R2:=zdu r2 kv'
  have nd:(vs.map (·.1)).Nodup:=by obtain ⟨_,_,_,_,_,_,_,_,nd⟩:=d; exact nd
  refine ⟨fun E Q q=>?_,fun z=>absurd rfl (z ks)⟩
  simp only [eqF,if_true] at h
  split at h
  ·rename_i d0 hd
   obtain ⟨e,hb,he⟩:=zjo R1 R2 nd hd ih
   have h':(ks.length == ls.length && d0)=b:=by simpa using h
   rw [← h',hb,R1.length,R2.length] at q
   exact PySem.W.eq_dictsT z2 z2' d d' he hu q
  ·cases h
 ·obtain ⟨a,vs,its,rfl,r1,q1,p1,_⟩:=zeI I rt
  cases rx
  refine fin ?_
  cases u with
  | lst ys=>exact absurd rfl (hn ys)
  | tup ys=>
   obtain ⟨c,ws,its',rfl,r2,q2,p2⟩:=zeJ hK I ru
   cases ry
   exact .of (RcAt.list_tuple p1 p2 hu') (RcNeAt.list_tuple p1 p2 hu') rfl
  | non=>obtain ⟨⟨_,h1⟩,_,h2⟩:=zeG (A:=X.A) ry (ru.flat rfl) p1 hu'; exact .of h1 h2 rfl
  | bl c=>obtain ⟨⟨_,h1⟩,_,h2⟩:=zeG (A:=X.A) ry (ru.flat rfl) p1 hu'; exact .of h1 h2 rfl
  | int c=>obtain ⟨⟨_,h1⟩,_,h2⟩:=zeG (A:=X.A) ry (ru.flat rfl) p1 hu'; exact .of h1 h2 rfl
  | str c=>obtain ⟨⟨_,h1⟩,_,h2⟩:=zeG (A:=X.A) ry (ru.flat rfl) p1 hu'; exact .of h1 h2 rfl
  | _=>cases f2
 ·obtain ⟨a,vs,its,rfl,r1,q1,p1⟩:=zeJ hK I rt
  cases rx
  refine fin ?_
  cases u with
  | tup ys=>exact absurd rfl (hn ys)
  | lst ys=>
   obtain ⟨c,ws,its',rfl,r2,q2,p2,_⟩:=zeI I ru
   cases ry
   exact .of (RcAt.tuple_list p1 p2 hu') (RcNeAt.tuple_list p1 p2 hu') rfl
  | non=>obtain ⟨⟨_,h1⟩,_,h2⟩:=zeH (A:=X.A) ry (ru.flat rfl) p1 hu'; exact .of h1 h2 rfl
  | bl c=>obtain ⟨⟨_,h1⟩,_,h2⟩:=zeH (A:=X.A) ry (ru.flat rfl) p1 hu'; exact .of h1 h2 rfl
  | int c=>obtain ⟨⟨_,h1⟩,_,h2⟩:=zeH (A:=X.A) ry (ru.flat rfl) p1 hu'; exact .of h1 h2 rfl
  | str c=>obtain ⟨⟨_,h1⟩,_,h2⟩:=zeH (A:=X.A) ry (ru.flat rfl) p1 hu'; exact .of h1 h2 rfl
  | _=>cases f2
 ·refine fin ?_
  cases u with
  | lst ys=>
   obtain ⟨c,ws,its',rfl,r2,q2,p2,_⟩:=zeI I ru
   cases ry
   obtain ⟨⟨h1,_⟩,h2,_⟩:=zeG (A:=X.A) rx (rt.flat f1) p2 hu'
   exact .of h1 h2 rfl
  | tup ys=>
   obtain ⟨c,ws,its',rfl,r2,q2,p2⟩:=zeJ hK I ru
   cases ry
   obtain ⟨⟨h1,_⟩,h2,_⟩:=zeH (A:=X.A) rx (rt.flat f1) p2 hu'
   exact .of h1 h2 rfl
  | _=>cases f2
def zaX:Nat:=30
def gEq:Op2:=fun t u M=>match eqF true (zaX + 1) (der M t) (der M u) with
 | some b=>some (.bl b,M)
 | none=>none
def zda:T→Bool
 | .dct _=>true
 | _=>false
def gNe:Op2:=fun t u M=>match eqF true (zaX + 1) (der M t) (der M u) with
 | some b=>if zda (der M t) then none else some (.bl (!b),M)
 | none=>none
theorem zjr (hK:C.K=X.K) (hu:X.A.units + 64 < cLine):OpR X (compareOp .Eq) (rZ C gEq):=by
 intro pins s σ H x y v u Q I rx ry h
 obtain ⟨mu,M,t,u',t',M',R,rt,ru,e,k⟩:=h
 unfold gEq at e
 split at e
 ·rename_i b hb
  cases e
  refine (zjq hK I (zdP R rt) (zdP R ru) rx ry (by unfold zaX; omega) hb).1 _ _ ?_
  exact ⟨.bl b,H,I,rfl,k mu _ H R Ext.refl (.bl b)⟩
 ·cases e
theorem zgV (hK:C.K=X.K) (hu:X.A.units + 64 < cLine):OpR X (compareOp .NotEq) (rZ C gNe):=by
 intro pins s σ H x y v u Q I rx ry h
 obtain ⟨mu,M,t,u',t',M',R,rt,ru,e,k⟩:=h
 unfold gNe at e
 split at e
 ·rename_i b hb
  split at e
  ·cases e
  ·rename_i hd
   cases e
   refine (zjq hK I (zdP R rt) (zdP R ru) rx ry (by unfold zaX; omega) hb).2 (fun ks z=>hd (by rw [z]; rfl)) _ _ ?_
   exact ⟨.bl (!b),H,I,rfl,k mu _ H R Ext.refl (.bl (!b))⟩
 ·cases e
end
end Z
end
section
namespace Z
open PySem PySem.Spec PyProof.Rows L2
section
variable {C:Cfg} {mu:Mu} {M:Mem} {H:Hp} {t:T} {v:V} {p:Addr} {u:HO}
theorem zdT (m:Bool) (R:RM C mu M H) (hp:H p=none) (c:CU C mu H t u):∃ mu',RM C mu' (mk m t M).2 (upd H p u)∧Ext C mu H mu' (upd H p u)∧Rep C mu' (upd H p u) (mk m t M).1 (.ref p):=by
 cases m with
 | true=>
  refine ⟨mu ++ [some p],R.alloc hp c,Ext.cell hp,.cel (by rw [← R.len]; simp) fun a h=>?_⟩
  rw [← R.len] at h
  have:some p=some a:=by simpa using h
  rw [Option.some.inj this]
 | false=>
  have E:Ext C mu H mu (upd H p u):=Ext.new hp
  refine ⟨mu,R.new hp,E,?_⟩
  have c':=c.mono E.rx
  have nf:=R.freshAv hp
  unfold CU at c'
  split at c'
  ·exact .lst ⟨upd_same,nf⟩ c'
  ·exact .dct ⟨.inl upd_same,nf⟩ c'
  ·obtain ⟨e,c'⟩:=c'
   subst e
   exact .ins ⟨upd_same,nf⟩ c'
  ·exact c'.elim
theorem zdU {xs:List T} {vs:List V} (R:RM C mu M H) (hp:H p=none) (c:RepL C mu H xs vs):RM C mu M (upd H p (.tup vs))∧Ext C mu H mu (upd H p (.tup vs))∧Rep C mu (upd H p (.tup vs)) (.tup xs) (.ref p):=by
 have E:Ext C mu H mu (upd H p (.tup vs)):=Ext.new hp
 exact ⟨R.new hp,E,.tup (.inl ⟨upd_same,R.freshAv hp⟩) (c.mono E.rx)⟩
theorem zgW {xs:List T} (R:RM C mu M H) (r:Rep C mu H t v) (e:zbD M t = .lst xs):∃ a vs,v = .ref a∧H a=some (.lst vs)∧RepL C mu H xs vs:=by
 cases r with
 | cel hi hv=>
  rename_i i
  unfold zbD at e
  simp only at e
  cases em:M[i]? with
  | none=>rw [em] at e; cases e
  | some c=>
   cases c with
   | dead=>rw [em] at e; cases e
   | lock u=>rw [em] at e; cases e
   | live u=>
    rw [em] at e
    simp only at e
    subst e
    obtain ⟨a,o,h1,h2,h3⟩:=R.cell i _ em
    unfold CU at h3
    split at h3
    ·rename_i q
     cases q
     exact ⟨a,_,hv a h1,h2,h3⟩
    ·rename_i q; cases q
    ·rename_i q; cases q
    ·exact h3.elim
 | lst h r=>cases e; exact ⟨_,_,rfl,h.1,r⟩
 | _=>cases e
theorem zcU {xs:List T} (R:RM C mu M H) (r:Rep C mu H t v) (e:der M t = .lst xs):∃ a vs,v = .ref a∧Rd H a (.lst vs)∧RepL C mu H xs vs:=by
 have b:=zdP R r
 rw [e] at b
 exact b
theorem zdV {ks:List (Str × T)} (R:RM C mu M H) (r:Rep C mu H t v) (e:der M t = .dct ks):∃ a ws,v = .ref a∧Rd H a (.dK ws)∧RepD C mu H ks ws:=by
 have b:=zdP R r
 rw [e] at b
 exact b
theorem Rep.tupI {xs:List T} (r:Rep C mu H (.tup xs) v):∃ a vs,v = .ref a∧FT C mu H a vs∧RepL C mu H xs vs:=by
 cases r with
 | tup f r=>exact ⟨_,_,rfl,f,r⟩
theorem Rep.intI {i:Int} (r:Rep C mu H (.int i) v):v = .int i:=by cases r; rfl
theorem Rep.strI {x:Str} (r:Rep C mu H (.str x) v):v = .str x:=by cases r; rfl
theorem Rep.blI {x:Bool} (r:Rep C mu H (.bl x) v):v = .bl x:=by cases r; rfl
theorem Rep.nonI (r:Rep C mu H .non v):v = .non:=by cases r; rfl
end
def sgn (i:Int):Bool:=Nat.ble i.natAbs 18446744073709551615
theorem zjs {i:Int} (h:sgn i=true) : -(2 ^ 64) < i∧i < 2 ^ 64:=by
 have:=Nat.le_of_ble_eq_true h
 omega
theorem zfz {i:Int} (h0 : -18446744073709551616 < i) (h1:i < 18446744073709551616):sgn i=true:=Nat.ble_eq_true_of_le (by omega)
def zbX (i:Int):Bool:=match i with
 | .ofNat n=>Nat.ble 1 n && Nat.ble n 1073741823
 | .negSucc _=>false
theorem znm {i:Int} (h:zbX i=true):0 < i∧i < 1073741824:=by
 cases i with
 | ofNat n=>
  unfold zbX at h
  rw [Bool.and_eq_true] at h
  have h1:=Nat.le_of_ble_eq_true h.1
  have h2:=Nat.le_of_ble_eq_true h.2
  exact ⟨by simp only [Int.ofNat_eq_natCast]; omega,by simp only [Int.ofNat_eq_natCast]; omega⟩
 | negSucc n=>cases h
theorem znn {i:Int} (h0:0 < i) (h1:i < 1073741824):zbX i=true:=by
 cases i with
 | ofNat n=>
  unfold zbX
  simp only [Int.ofNat_eq_natCast] at h0 h1
  rw [Bool.and_eq_true]
  exact ⟨Nat.ble_eq_true_of_le (by omega),Nat.ble_eq_true_of_le (by omega)⟩
 | negSucc n=>omega
def zan (m:Bool):Op2:=fun t u M=>match t,u with
 | .int a,.int b=>some (.int (a + b),M)
 | .str a,.str b=>if a.length + b.length≤LIM then some (.str (a ++ b),M) else none
 | .tup xs,.tup ys=>if xs.length + ys.length≤LIM then some (.tup (xs ++ ys),M) else none
 | t,u=>match zbD M t,zbD M u with
  | .lst xs,.lst ys=>if xs.length + ys.length≤LIM then some (mk m (.lst (xs ++ ys)) M) else none
  | _,_=>none
def gSub:Op2:=fun t u M=>match t,u with
 | .int a,.int b=>some (.int (a - b),M)
 | _,_=>none
def za7 (m:Bool):Op2:=fun t u M=>match t,u with
 | .int a,.int b=>if sgn a || sgn b then some (.int (a * b),M) else none
 | t,.int k=>(match zbD M t with
  | .lst xs=>if -(2 ^ 63)≤k∧k < 2 ^ 63∧xs.length * k.toNat≤LIM then some (mk m (.lst (List.replicate k.toNat xs).flatten) M) else none
  | _=>none)
 | _,_=>none
def zdv:Op2:=fun t u M=>match t,u with
 | .int a,.int b=>if zbX b=true then some (.int (a / b),M) else none
 | _,_=>none
def zaK:Op2:=fun t u M=>match t,u with
 | .int a,.int b=>if 0 < b then some (.int (a % b),M) else none
 | _,_=>none
def zcV:Op2:=fun t u M=>match t,u with
 | .int a,.int b=>if 0≤b∧b≤1000000∧a.natAbs < 2 ^ 64 then some (.int (a ^ b.toNat),M) else none
 | _,_=>none
def gLt:Op2:=fun t u M=>match t,u with
 | .int a,.int b=>some (.bl (decide (a < b)),M)
 | _,_=>none
def gLe:Op2:=fun t u M=>match t,u with
 | .int a,.int b=>some (.bl (decide (a≤b)),M)
 | _,_=>none
def gGt:Op2:=fun t u M=>match t,u with
 | .int a,.int b=>some (.bl (decide (b < a)),M)
 | _,_=>none
def gGe:Op2:=fun t u M=>match t,u with
 | .int a,.int b=>some (.bl (decide (b≤a)),M)
 | _,_=>none
def gIs:Op2:=fun t u M=>match u with
 | .non=>(match t with
  | .cel _=>none
  | .non=>some (.bl true,M)
  | _=>some (.bl false,M))
 | .bl b=>(match t with
  | .bl a=>some (.bl (decide (a=b)),M)
  | _=>none)
 | _=>none
def zbt:Op2:=fun t u M=>match u with
 | .non=>(match t with
  | .cel _=>none
  | .non=>some (.bl false,M)
  | _=>some (.bl true,M))
 | .bl b=>(match t with
  | .bl a=>some (.bl (!decide (a=b)),M)
  | _=>none)
 | _=>none
section
variable {X:Cx} {C:Cfg}
theorem zgX {f:Value→Value→Sem Value} {g:Op2} {D:Int→Int→Prop} {k:Int→Int→V} {kt:Int→Int→T} (h:OpR X f (rI D k)) (hg:∀ t u M t' M',g t u M=some (t',M')→∃i j,t = .int i∧u = .int j∧D i j∧t'=kt i j∧M'=M)
  (hk:∀ mu H i j,Rep C mu H (kt i j) (k i j)):OpR X f (rZ C g):=zdt h fun x y H Q ⟨mu,M,t,u,t',M',R,rt,ru,e,q⟩=>by
 obtain ⟨i,j,rfl,rfl,d,rfl,rfl⟩:=hg _ _ _ _ _ e
 exact ⟨i,j,rt.intI,ru.intI,d,q mu _ H R Ext.refl (hk mu H i j)⟩
theorem zfA {f:Value→Value→Sem Value} {g:Op2} {k:Int→Int→V} {kt:Int→Int→T} (h:OpR X f (rI0 k)) (hg:∀ t u M t' M',g t u M=some (t',M')→∃i j,t = .int i∧u = .int j∧t'=kt i j∧M'=M)
  (hk:∀ mu H i j,Rep C mu H (kt i j) (k i j)):OpR X f (rZ C g):=zdt h fun x y H Q ⟨mu,M,t,u,t',M',R,rt,ru,e,q⟩=>by
 obtain ⟨i,j,rfl,rfl,rfl,rfl⟩:=hg _ _ _ _ _ e
 exact ⟨i,j,rt.intI,ru.intI,q mu _ H R Ext.refl (hk mu H i j)⟩
theorem int2 {α : Type} {g:T→T→Mem→Option α} {D:Int→Int→Prop} [∀ i j,Decidable (D i j)] {r:Int→Int→Mem → α} (t u:T) (M:Mem) (a : α)
  (h:(match t,u with
   | .int i,.int j=>if D i j then some (r i j M) else none
   | _,_=>none)=some a):∃ i j,t = .int i∧u = .int j∧D i j∧a=r i j M:=by
 split at h
 ·rename_i i j
  by_cases d:D i j
  ·rw [if_pos d] at h; exact ⟨i,j,rfl,rfl,d,(Option.some.inj h).symm⟩
  ·rw [if_neg d] at h; cases h
 ·cases h
theorem zfB {α : Type} {r:Int→Int→Mem → α} (t u:T) (M:Mem) (a : α)
  (h:(match t,u with
   | .int i,.int j=>some (r i j M)
   | _,_=>none)=some a):∃ i j,t = .int i∧u = .int j∧a=r i j M:=by
 split at h
 ·rename_i i j
  exact ⟨i,j,rfl,rfl,(Option.some.inj h).symm⟩
 ·cases h
theorem zno:OpR X (binaryOp .Sub) (rZ C gSub):=zfA (kt:=fun i j => .int (i - j)) op_sub (fun t u M t' M' e=>by
 obtain ⟨i,j,a,b,c⟩:=zfB (r:=fun i j M=>((.int (i - j):T),M)) t u M (t',M') e
 cases c; exact ⟨i,j,a,b,rfl,rfl⟩) fun _ _ _ _ => .int _
theorem zjt:OpR X (binaryOp .FloorDiv) (rZ C zdv):=zgX (kt:=fun i j => .int (i / j)) op_fdiv (fun t u M t' M' e=>by
 obtain ⟨i,j,a,b,d,c⟩:=int2 (g:=zdv) (D:=fun i j=>zbX j=true) (r:=fun i j M=>((.int (i / j):T),M)) t u M (t',M') e
 cases c; exact ⟨i,j,a,b,znm d,rfl,rfl⟩) fun _ _ _ _ => .int _
theorem zbE:OpR X (binaryOp .Mod) (rZ C zaK):=zgX (kt:=fun i j => .int (i % j)) op_mod (fun t u M t' M' e=>by
 obtain ⟨i,j,a,b,d,c⟩:=int2 (g:=zaK) (D:=fun i j=>0 < j) (r:=fun i j M=>((.int (i % j):T),M)) t u M (t',M') e
 cases c; exact ⟨i,j,a,b,d,rfl,rfl⟩) fun _ _ _ _ => .int _
theorem zgY:OpR X (binaryOp .Pow) (rZ C zcV):=zgX (kt:=fun i j => .int (i ^ j.toNat)) op_pow (fun t u M t' M' e=>by
 obtain ⟨i,j,a,b,d,c⟩:=int2 (g:=zcV) (D:=fun i j=>0≤j∧j≤1000000∧i.natAbs < 2 ^ 64) (r:=fun i j M=>((.int (i ^ j.toNat):T),M)) t u M (t',M') e
 cases c; exact ⟨i,j,a,b,d,rfl,rfl⟩) fun _ _ _ _ => .int _
theorem zfC:OpR X (compareOp .LtE) (rZ C gLe):=zfA (kt:=fun i j => .bl (decide (i≤j))) op_le (fun t u M t' M' e=>by
 obtain ⟨i,j,a,b,c⟩:=zfB (r:=fun i j M=>((.bl (decide (i≤j)):T),M)) t u M (t',M') e
 cases c; exact ⟨i,j,a,b,rfl,rfl⟩) fun _ _ _ _ => .bl _
theorem znp:OpR X (compareOp .Gt) (rZ C gGt):=zfA (kt:=fun i j => .bl (decide (j < i))) op_gt (fun t u M t' M' e=>by
 obtain ⟨i,j,a,b,c⟩:=zfB (r:=fun i j M=>((.bl (decide (j < i)):T),M)) t u M (t',M') e
 cases c; exact ⟨i,j,a,b,rfl,rfl⟩) fun _ _ _ _ => .bl _
theorem znq:OpR X (compareOp .GtE) (rZ C gGe):=zfA (kt:=fun i j => .bl (decide (j≤i))) op_ge (fun t u M t' M' e=>by
 obtain ⟨i,j,a,b,c⟩:=zfB (r:=fun i j M=>((.bl (decide (j≤i)):T),M)) t u M (t',M') e
 cases c; exact ⟨i,j,a,b,rfl,rfl⟩) fun _ _ _ _ => .bl _
theorem Rep.ne_non {mu:Mu} {H:Hp} {t:T} {v:V} (r:Rep C mu H t v) (h:t ≠ .non) (h2:∀ i,t ≠ .cel i):v ≠ .non:=by
 cases r with
 | non=>exact absurd rfl h
 | cel=>exact absurd rfl (h2 _)
 | _=>intro z; cases z
theorem znr:OpR X (compareOp .Is) (rZ C gIs):=zdt (op_isN.or op_isBl) fun x y H Q ⟨mu,M,t,u,t',M',R,rt,ru,e,q⟩=>by
 cases u with
 | non=>
  have ey:=ru.nonI
  subst ey
  cases t with
  | cel=>cases e
  | non=>
   cases rt
   cases e
   exact .inl ⟨rfl,q mu _ H R Ext.refl (.bl true)⟩
  | _=>
   cases e
   have n:x ≠ .non:=rt.ne_non (fun z=>nomatch z) (fun _ z=>nomatch z)
   exact .inl ⟨rfl,by rw [decide_eq_false n]; exact q mu _ H R Ext.refl (.bl false)⟩
 | bl b=>
  cases t with
  | bl a=>
   cases e
   exact .inr ⟨a,b,rt.blI,ru.blI,q mu _ H R Ext.refl (.bl _)⟩
  | _=>cases e
 | _=>cases e
theorem zju:OpR X (compareOp .IsNot) (rZ C zbt):=zdt (op_notN.or op_notBl) fun x y H Q ⟨mu,M,t,u,t',M',R,rt,ru,e,q⟩=>by
 cases u with
 | non=>
  have ey:=ru.nonI
  subst ey
  cases t with
  | cel=>cases e
  | non=>
   cases rt
   cases e
   exact .inl ⟨rfl,q mu _ H R Ext.refl (.bl false)⟩
  | _=>
   cases e
   have n:x ≠ .non:=rt.ne_non (fun z=>nomatch z) (fun _ z=>nomatch z)
   exact .inl ⟨rfl,by rw [decide_eq_false n]; exact q mu _ H R Ext.refl (.bl true)⟩
 | bl b=>
  cases t with
  | bl a=>
   cases e
   exact .inr ⟨a,b,rt.blI,ru.blI,q mu _ H R Ext.refl (.bl _)⟩
  | _=>cases e
 | _=>cases e
theorem zdw (m:Bool):OpR X (binaryOp .Mult) (rZ C (za7 m)):=zdt (op_mul.or op_rep) fun x y H Q ⟨mu,M,t,u,t',M',R,rt,ru,e,q⟩=>by
 cases u with
 | int k=>
  have ey:=ru.intI
  subst ey
  have listc:(match zbD M t with
   | .lst xs=>if -(2 ^ 63)≤k∧k < 2 ^ 63∧xs.length * k.toNat≤LIM then some (mk m (.lst (List.replicate k.toNat xs).flatten) M) else none
   | _=>none)=some (t',M')→rRep x (.int k) H Q:=fun e=>by
   split at e
   ·rename_i xs hx
    by_cases c : -(2 ^ 63)≤k∧k < 2 ^ 63∧xs.length * k.toNat≤LIM
    ·rw [if_pos c] at e
     obtain ⟨a,vs,ex,ha,r⟩:=zgW R rt hx
     refine ⟨a,k,vs,ex,rfl,ha,c.1,c.2.1,by rw [← zbC,← r.length]; exact c.2.2,fun p hp=>?_⟩
     obtain ⟨mu',R',E',r'⟩:=zdT (t := .lst (List.replicate k.toNat xs).flatten) (u := .lst (List.replicate k.toNat vs).flatten) m R hp (r.rep k.toNat)
     rw [Option.some.inj e] at R' r'
     exact q mu' _ _ R' E' r'
    ·rw [if_neg c] at e; cases e
   ·cases e
  cases t with
  | int i=>
   have ex:=rt.intI
   subst ex
   unfold za7 at e
   simp only at e
   by_cases c:(sgn i || sgn k)=true
   ·rw [if_pos c] at e
    cases e
    refine .inl ⟨i,k,rfl,rfl,?_,q mu _ H R Ext.refl (.int _)⟩
    rw [Bool.or_eq_true] at c
    exact c.imp zjs zjs
   ·rw [if_neg c] at e; cases e
  | lst xs=>exact .inr (listc e)
  | cel j=>exact .inr (listc e)
  | _=>cases e
 | _=>
  cases t <;> cases e
theorem zaV (hK:C.K=X.K) (m:Bool):OpR X (binaryOp .Add) (rZ C (zan m)):=zdt ((op_add.or op_add_str).or (op_cat.or op_catA)) fun x y H Q ⟨mu,M,t,u,t',M',R,rt,ru,e,q⟩=>by
 have lists:(match zbD M t,zbD M u with
  | .lst xs,.lst ys=>if xs.length + ys.length≤LIM then some (mk m (.lst (xs ++ ys)) M) else none
  | _,_=>none)=some (t',M')→rCat x y H Q:=fun e=>by
  split at e
  ·rename_i xs ys h1 h2
   by_cases c:xs.length + ys.length≤LIM
   ·rw [if_pos c] at e
    obtain ⟨a,vs,ex,ha,r⟩:=zgW R rt h1
    obtain ⟨b,ws,ey,hb,r2⟩:=zgW R ru h2
    refine ⟨a,b,vs,ws,ex,ey,ha,hb,by rw [← zbC,← r.length,← r2.length]; exact c,fun p hp=>?_⟩
    obtain ⟨mu',R',E',r'⟩:=zdT (t := .lst (xs ++ ys)) (u := .lst (vs ++ ws)) m R hp (r.append r2)
    rw [Option.some.inj e] at R' r'
    exact q mu' _ _ R' E' r'
   ·rw [if_neg c] at e; cases e
  ·cases e
 unfold zan at e
 split at e
 ·cases e
  exact .inl (.inl ⟨_,_,rt.intI,ru.intI,q mu _ H R Ext.refl (.int _)⟩)
 ·rename_i a b
  by_cases c:a.length + b.length≤LIM
  ·rw [if_pos c] at e
   cases e
   exact .inl (.inr ⟨a,b,rt.strI,ru.strI,by rw [← zbC]; exact c,q mu _ H R Ext.refl (.str _)⟩)
  ·rw [if_neg c] at e; cases e
 ·rename_i xs ys
  by_cases c:xs.length + ys.length≤LIM
  ·rw [if_pos c] at e
   cases e
   obtain ⟨a,vs,rfl,f1,r1⟩:=rt.tupI
   obtain ⟨b,ws,rfl,f2,r2⟩:=ru.tupI
   refine .inr (.inr ⟨a,b,vs,ws,rfl,rfl,hK ▸ f1.sq,hK ▸ f2.sq,by rw [← zbC,← r1.length,← r2.length]; exact c,fun z=>?_,fun _ z=>?_,fun _ _ p hp=>?_⟩)
   ·subst z
    cases r1
    rw [List.nil_append] at q
    exact q mu _ H R Ext.refl (.tup f2 r2)
   ·subst z
    cases r2
    rw [List.append_nil] at q
    exact q mu _ H R Ext.refl (.tup f1 r1)
   ·obtain ⟨R',E',r'⟩:=zdU R hp (r1.append r2)
    exact q mu _ _ R' E' r'
  ·rw [if_neg c] at e; cases e
 ·exact .inr (.inl (lists e))
abbrev Op1:=T→Mem→Option (T × Mem)
def dUn (g:Op1) (da:DE):DE:=fun s M=>(da s M).bind fun t M1=>lift (g t M1)
def zbu:Op1:=fun t M=>match t with
 | .int i=>some (.int (-i),M)
 | _=>none
def r1Z (C:Cfg) (g:Op1):V→Hp→VK→Prop:=fun x H Q => ∃ mu M t t' M',RM C mu M H∧Rep C mu H t x∧g t M=some (t',M') ∧
 ∀ mu' v H',RM C mu' M' H'→Ext C mu H mu' H'→Rep C mu' H' t' v→Q v H'
theorem zns {W:WX} {g:Op1} {da:DE} {σ : L2.St} {H:Hp} {Q:VK} (h:TEz C W (dUn g da) σ H Q):tUn (r1Z C g) (TEz C W da) σ H Q:=by
 obtain ⟨mu,s,M,R,S,P⟩:=h
 refine ⟨mu,s,M,R,S,P.bind fun t M1 mu1 x H1 R1 E1 r1 P1=>?_⟩
 cases e:g t M1 with
 | none=>rw [e] at P1; exact P1.elim
 | some p=>
  obtain ⟨t',M'⟩:=p
  rw [e] at P1
  exact ⟨mu1,M1,t,t',M',R1,r1,e,P1⟩
theorem znt {f:Value→Sem Value} {r r':V→Hp→VK→Prop} (h:UnR X f r) (w:∀ x H Q,r' x H Q→r x H Q):UnR X f r':=fun pins s σ H x v Q I rx q=>h pins s σ H x v Q I rx (w x H Q q)
theorem znu:UnR X (unaryOp .USub) (r1Z C zbu):=znt un_neg fun x H Q ⟨mu,M,t,t',M',R,rt,e,q⟩=>by
 cases t with
 | int i=>cases e; exact ⟨i,rt.intI,q mu _ H R Ext.refl (.int _)⟩
 | _=>cases e
theorem s1j {W:WX} {op:UnaryOp} {g:Op1} {a:Expr} {da:DE} {pos:Pos} (ho:UnR X (unaryOp op) (r1Z C g)) (ha:PE X a (TEz C W da)):PE X (.UnaryOp op a pos) (TEz C W (dUn g da)):=
 zbf (pe_un ho ha) fun _ _ _ h=>zns h
def zbY:T→Mem→Option Bool:=fun t M=>match t with
 | .non=>some false
 | .bl b=>some b
 | .int i=>some (i != 0)
 | .str x=>if x.length≤LIM then some ((x.length:Int) != 0) else none
 | .tup xs=>some (!xs.isEmpty)
 | .dct _=>none
 | t=>match der M t with
  | .lst xs=>some (!xs.isEmpty)
  | _=>(match zbD M t with
   | .dct ks=>some (!ks.isEmpty)
   | _=>none)
def toB:Option Bool→Mem→Out Bool:=fun o M=>match o with
 | some b => .ok b M
 | none => .no
def zai (d:DE):DT:=fun s M=>(d s M).bind fun t M1=>toB (zbY t M1) M1
theorem RepL.emp {mu:Mu} {H:Hp} {xs:List T} {vs:List V} (r:RepL C mu H xs vs):xs.isEmpty=vs.isEmpty:=by cases r <;> rfl
theorem RepD.emp {mu:Mu} {H:Hp} {xs:List (Str × T)} {vs:List (Key × V)} (r:RepD C mu H xs vs):xs.isEmpty=vs.isEmpty:=by cases r <;> rfl
theorem znv {mu:Mu} {M:Mem} {H:Hp} {t:T} {v:V} {ks:List (Str × T)} (R:RM C mu M H) (r:Rep C mu H t v) (e:zbD M t = .dct ks) (hc:∃ i,t = .cel i):∃ a ws,v = .ref a∧H a=some (.dK ws)∧RepD C mu H ks ws:=by
 obtain ⟨i,rfl⟩:=hc
 cases r with
 | cel hi hv=>
  unfold zbD at e
  simp only at e
  cases em:M[i]? with
  | none=>rw [em] at e; cases e
  | some c=>
   cases c with
   | dead=>rw [em] at e; cases e
   | lock u=>rw [em] at e; cases e
   | live u=>
    rw [em] at e
    simp only at e
    subst e
    obtain ⟨a,o,h1,h2,h3⟩:=R.cell i _ em
    unfold CU at h3
    split at h3
    ·rename_i q; cases q
    ·rename_i q
     cases q
     exact ⟨a,_,hv a h1,h2,h3⟩
    ·rename_i q; cases q
    ·exact h3.elim
end
end Z
end
section
namespace Z
open PySem PySem.Spec PyProof.Rows L2 PySem.SeqAt
section
variable {X:Cx} {C:Cfg} {W:WX}
theorem znw (hK:C.K=X.K) {mu:Mu} {M:Mem} {H:Hp} {t:T} {v:V} {b:Bool} (R:RM C mu M H) (r:Rep C mu H t v) (e:zbY t M=some b):TruV X.K v H b:=by
 have lists:(match der M t with
  | .lst xs=>some (!xs.isEmpty)
  | _=>(match zbD M t with
   | .dct ks=>some (!ks.isEmpty)
   | _=>none))=some b→(∀ ks,t ≠ .dct ks)→TruV X.K v H b:=fun e hd=>by
  split at e
  ·rename_i xs hx
   obtain ⟨a,vs,rfl,ha,r'⟩:=zcU R r hx
   cases e
   exact .inl ⟨vs,.inl ha,by rw [r'.emp]⟩
  ·split at e
   ·rename_i ks hk
    have hc:∃ i,t = .cel i:=by
     cases t with
     | cel i=>exact ⟨i,rfl⟩
     | dct ks=>exact absurd rfl (hd ks)
     | _=>cases hk
    obtain ⟨a,ws,rfl,ha,r'⟩:=znv R r hk hc
    cases e
    exact .inr (.inr ⟨ws,ha,by rw [r'.emp]⟩)
   ·cases e
 cases t with
 | non=>cases r; cases e; rfl
 | bl c=>cases r; cases e; rfl
 | int i=>cases r; cases e; rfl
 | str x=>
  cases r
  unfold zbY at e
  simp only at e
  by_cases c:x.length≤LIM
  ·rw [if_pos c] at e
   cases e
   exact ⟨by rw [← zbC]; exact c,rfl⟩
  ·rw [if_neg c] at e; cases e
 | tup xs=>
  obtain ⟨a,vs,rfl,f,r'⟩:=r.tupI
  cases e
  exact .inr (.inl ⟨vs,hK ▸ f.sq,by rw [r'.emp]⟩)
 | lst xs=>exact lists e (fun _ z=>nomatch z)
 | cel i=>exact lists e (fun _ z=>nomatch z)
 | fz xs=>exact lists e (fun _ z=>nomatch z)
 | dct ks=>cases e
 | dn=>cases e
 | ins=>cases e
 | exc=>cases e
 | ty=>cases e
 | ob=>cases e
def zjv (X:Cx) (a:Expr):Prop := ∀ whole,isTrue a X.env whole=(do let v ← whole; standAt a.pos; holding [v] (truthy v))
theorem znx (hK:C.K=X.K) {a:Expr} {da:DE} (ha:PE X a (TEz C W da)) (he:zjv X a):PT X a (TTz C W (zai da)):=
 zfu (pt_truth ha he) fun σ H Q ⟨mu,s,M,R,S,P⟩=>⟨mu,s,M,R,S,P.bind fun t M1 mu1 x H1 R1 E1 r1 P1=>by
  cases e:zbY t M1 with
  | none=>rw [e] at P1; exact P1.elim
  | some b=>
   rw [e] at P1
   exact ⟨b,znw hK R1 r1 e,P1 mu1 b H1 R1 Ext.refl rfl⟩⟩
def gB (g:Op2):Prop := ∀ t u M t' M',g t u M=some (t',M')→(∃ b,t' = .bl b)∧M'=M
theorem zcW {op:CmpOp} {g:Op2} {a b:Expr} {da db:DE} {pos:Pos} (hg:gB g) (ho:OpR X (compareOp op) (rZ C g)) (ha:PE X a (TEz C W da)) (hb:PE X b (TEz C W db)) (hm:behindInMarks op b=false) :
  PT X (.Compare a [op] [b] pos) (TTz C W (zai (zac g da db))):=
 zfu (pt_cmpR ho ha hb hm) fun σ H Q ⟨mu,s,M,R,S,P⟩=>by
  unfold zai zac at P
  have P':Post C mu H ((da s M).bind fun t M1=>(db s M1).bind fun u M2=>(lift (g t u M2)).bind fun r M3=>toB (zbY r M3) M3) (fun _ _ a b=>a=b) Q fun c dd H'=>W c dd σ H':=by
   have e:((da s M).bind fun t M1=>(db s M1).bind fun u M2=>lift (g t u M2)).bind (fun r M3=>toB (zbY r M3) M3)=((da s M).bind fun t M1=>(db s M1).bind fun u M2=>(lift (g t u M2)).bind fun r M3=>toB (zbY r M3) M3):=by
    cases da s M with
    | ok t M1=>
     simp only [bind_ok]
     cases db s M1 <;> rfl
    | er=>rfl
    | no=>rfl
   rw [← e]
   exact P
  refine ⟨mu,s,M,R,S,P'.bind fun t M1 mu1 x H1 R1 E1 r1 P1=>?_⟩
  refine ⟨mu1,s,M1,R1,S.mono E1.rx,P1.bind fun u M2 mu2 y H2 R2 E2 r2 P2=>?_⟩
  cases e:g t u M2 with
  | none=>rw [e] at P2; exact P2.elim
  | some p=>
   obtain ⟨t',M'⟩:=p
   rw [e] at P2
   obtain ⟨⟨b,rfl⟩,rfl⟩:=hg _ _ _ _ _ e
   refine ⟨mu2,_,t,u,_,_,R2,r1.mono E2.rx,r2,e,fun mu' v H' R' E' r'=>?_⟩
   rw [r'.blI]
   exact ⟨b,rfl,P2 mu' b H' R' E' rfl⟩
theorem zgZ:gB gNe:=fun t u M t' M' e=>by
 unfold gNe at e
 split at e
 ·split at e
  ·cases e
  ·cases e; exact ⟨⟨_,rfl⟩,rfl⟩
 ·cases e
theorem b_i {r:Int→Int→Bool} {g:Op2} (h:∀ t u M,g t u M=match t,u with
 | .int a,.int b=>some (.bl (r a b),M)
 | _,_=>none):gB g:=fun t u M t' M' e=>by
 rw [h] at e
 split at e
 ·cases e; exact ⟨⟨_,rfl⟩,rfl⟩
 ·cases e
theorem zjw:gB gLe:=b_i (r:=fun a b=>decide (a≤b)) fun _ _ _=>rfl
theorem zny:gB gGt:=b_i (r:=fun a b=>decide (b < a)) fun _ _ _=>rfl
theorem znz:gB gGe:=b_i (r:=fun a b=>decide (b≤a)) fun _ _ _=>rfl
theorem znA:gB gIs:=fun t u M t' M' e=>by
 cases u <;> cases t <;> first | cases e; done | (cases e; exact ⟨⟨_,rfl⟩,rfl⟩)
theorem zjx:gB zbt:=fun t u M t' M' e=>by
 cases u <;> cases t <;> first | cases e; done | (cases e; exact ⟨⟨_,rfl⟩,rfl⟩)
def zbb (ta:DT):DT:=fun s M=>(ta s M).bind fun b M1 => .ok (!b) M1
theorem zdW {a:Expr} {ta:DT} {pos:Pos} (ha:PT X a (TTz C W ta)):PT X (.UnaryOp .Not a pos) (TTz C W (zbb ta)):=
 zfu (pt_not ha) fun σ H Q ⟨mu,s,M,R,S,P⟩=>⟨mu,s,M,R,S,P.bind fun b M1 mu1 x H1 R1 E1 r1 P1=>by
  cases r1
  exact P1 mu1 _ H1 R1 Ext.refl rfl⟩
def zjy (da:DE):DE:=fun s M=>(da s M).bind fun t M1=>(toB (zbY t M1) M1).bind fun b M2 => .ok (.bl (!b)) M2
def zfD (ta tb:DT):DT:=fun s M=>(ta s M).bind fun b M1=>if b=true then tb s M1 else .ok false M1
def zbv (ta tb:DT):DT:=fun s M=>(ta s M).bind fun b M1=>if b=true then .ok true M1 else tb s M1
theorem znB {a b:Expr} {rest:List Expr} {ta tb:DT} {pos:Pos} (ha:PT X a (TTz C W ta)) (hb:PW X (.BoolOp .And (b :: rest) pos) (TTz C W tb)):PW X (.BoolOp .And (a :: b :: rest) pos) (TTz C W (zfD ta tb)):=
 ⟨fun wh pins s σ H Q I ⟨mu,sg,M,R,S,P⟩=>(pw_and ha hb).run wh pins s σ H Q I ⟨mu,sg,M,R,S,P.bind fun k M1 mu1 x H1 R1 E1 r1 P1=>by
  cases r1
  cases k with
  | true=>exact iteT ⟨mu1,sg,M1,R1,S.mono E1.rx,P1⟩
  | false=>exact iteF (P1 mu1 _ H1 R1 Ext.refl rfl)⟩⟩
theorem zfE {a b:Expr} {rest:List Expr} {ta tb:DT} {pos:Pos} (ha:PT X a (TTz C W ta)) (hb:PW X (.BoolOp .Or (b :: rest) pos) (TTz C W tb)):PW X (.BoolOp .Or (a :: b :: rest) pos) (TTz C W (zbv ta tb)):=
 ⟨fun wh pins s σ H Q I ⟨mu,sg,M,R,S,P⟩=>(pw_or ha hb).run wh pins s σ H Q I ⟨mu,sg,M,R,S,P.bind fun k M1 mu1 x H1 R1 E1 r1 P1=>by
  cases r1
  cases k with
  | true=>exact iteT (P1 mu1 _ H1 R1 Ext.refl rfl)
  | false=>exact iteF ⟨mu1,sg,M1,R1,S.mono E1.rx,P1⟩⟩⟩
def zbn (da db:DE):DE:=fun s M=>(da s M).bind fun t M1=>match t with
 | .bl true=>db s M1
 | .bl false => .ok (.bl false) M1
 | _ => .no
def dOr (da db:DE):DE:=fun s M=>(da s M).bind fun t M1=>match t with
 | .bl true => .ok (.bl true) M1
 | .bl false=>db s M1
 | _ => .no
theorem s1c {a b:Expr} {rest:List Expr} {da db:DE} {pos:Pos} (ha:PE X a (TEz C W da)) (hb:PE X (.BoolOp .And (b :: rest) pos) (TEz C W db)):PE X (.BoolOp .And (a :: b :: rest) pos) (TEz C W (zbn da db)):=
 zbf (pe_and ha hb) fun σ H Q ⟨mu,s,M,R,S,P⟩=>⟨mu,s,M,R,S,P.bind fun t M1 mu1 x H1 R1 E1 r1 P1=>by
  cases r1 with
  | bl k=>
   cases k with
   | true=>exact ⟨true,rfl,iteT ⟨mu1,s,M1,R1,S.mono E1.rx,P1⟩⟩
   | false=>exact ⟨false,rfl,iteF (P1 mu1 _ H1 R1 Ext.refl (.bl _))⟩
  | _=>exact P1.elim⟩
def zbh (tc:DT) (da db:DE):DE:=fun s M=>(tc s M).bind fun k M1=>if k=true then da s M1 else db s M1
theorem s1n {c a b:Expr} {tc:DT} {da db:DE} {pos:Pos} (hc:PT X c (TTz C W tc)) (ha:PE X a (TEz C W da)) (hb:PE X b (TEz C W db)):PE X (.IfExp c a b pos) (TEz C W (zbh tc da db)):=
 zbf (pe_ifExp hc ha hb) fun σ H Q ⟨mu,s,M,R,S,P⟩=>⟨mu,s,M,R,S,P.bind fun k M1 mu1 x H1 R1 E1 r1 P1=>by
  cases r1
  cases k with
  | true=>exact iteT ⟨mu1,s,M1,R1,S.mono E1.rx,P1⟩
  | false=>exact iteF ⟨mu1,s,M1,R1,S.mono E1.rx,P1⟩⟩
def zdx (g g':Op2) (da db dc:DE):DE:=fun s M=>(da s M).bind fun t M1=>(db s M1).bind fun u M2=>(lift (g t u M2)).bind fun r M3=>match r with
 | .bl true=>(dc s M3).bind fun w M4=>lift (g' u w M4)
 | .bl false => .ok (.bl false) M3
 | _ => .no
theorem zjz {g g':Op2} {da db dc:DE} {σ : L2.St} {H:Hp} {Q:VK} (hg:gB g) (h:TEz C W (zdx g g' da db dc) σ H Q):tChain (rZ C g) (rZ C g') (TEz C W da) (TEz C W db) (TEz C W dc) σ H Q:=by
 obtain ⟨mu,s,M,R,S,P⟩:=h
 refine ⟨mu,s,M,R,S,P.bind fun t M1 mu1 x H1 R1 E1 r1 P1=>?_⟩
 refine ⟨mu1,s,M1,R1,S.mono E1.rx,P1.bind fun u M2 mu2 y H2 R2 E2 r2 P2=>?_⟩
 cases e:g t u M2 with
 | none=>rw [e] at P2; exact P2.elim
 | some p=>
  obtain ⟨t',M'⟩:=p
  rw [e] at P2
  obtain ⟨⟨b,rfl⟩,rfl⟩:=hg _ _ _ _ _ e
  refine ⟨mu2,_,t,u,_,_,R2,r1.mono E2.rx,r2,e,fun mu' v H' R' E' r'=>?_⟩
  rw [r'.blI]
  cases b with
  | false=>exact ⟨false,rfl,iteF (P2 mu' _ H' R' E' (.bl false))⟩
  | true=>
   have P3:Post C mu2 H2 ((dc s M').bind fun w M4=>lift (g' u w M4)) (RV C) Q fun c dd H'=>W c dd σ H':=P2
   refine ⟨true,rfl,iteT ⟨mu',s,_,R',(S.mono E1.rx).mono (E2.trans E').rx,(Post.ext P3 E').bind fun w M4 mu4 z H4 R4 E4 r4 P4=>?_⟩⟩
   cases e':g' u w M4 with
   | none=>rw [e'] at P4; exact P4.elim
   | some p=>
    obtain ⟨t2,M5⟩:=p
    rw [e'] at P4
    exact ⟨mu4,M4,u,w,t2,M5,R4,r2.mono (E'.trans E4).rx,r4,e',P4⟩
theorem s1i {o o':CmpOp} {g g':Op2} {a b c:Expr} {da db dc:DE} {pos:Pos} (hg:gB g) (ho:OpR X (compareOp o) (rZ C g)) (ho':OpR X (compareOp o') (rZ C g')) (ha:PE X a (TEz C W da)) (hb:PE X b (TEz C W db)) (hc:PE X c (TEz C W dc))
  (hm:lastMarks [o,o'] [b,c]=false):PE X (.Compare a [o,o'] [b,c] pos) (TEz C W (zdx g g' da db dc)):=
 zbf (pe_chain ho ho' ha hb hc hm) fun _ _ _ h=>zjz hg h
def zad:DA:=fun _ M => .ok [] M
def zab (d:DE) (da:DA):DA:=fun s M=>(d s M).bind fun t M1=>(da s M1).bind fun ts M2 => .ok (t :: ts) M2
theorem zao:PA X [] (TAz C W zad):=zgR pa_nil fun σ H Q ⟨mu,s,M,R,S,P⟩=>P mu [] H R Ext.refl .nil
theorem zae {e:Expr} {es:List Expr} {d:DE} {da:DA} (he:PE X e (TEz C W d)) (hes:PA X es (TAz C W da)) (hs:starEach (e :: es) X.env=(false,eval e X.env) :: starEach es X.env):PA X (e :: es) (TAz C W (zab d da)):=
 zgR (pa_cons he hes hs) fun σ H Q ⟨mu,s,M,R,S,P⟩=>⟨mu,s,M,R,S,P.bind fun t M1 mu1 x H1 R1 E1 r1 P1=>by
  refine ⟨mu1,s,M1,R1,S.mono E1.rx,P1.bind fun ts M2 mu2 xs H2 R2 E2 r2 P2=>?_⟩
  exact P2 mu2 _ H2 R2 Ext.refl (.cons (r1.mono E2.rx) r2)⟩
def dTup (da:DA):DE:=fun s M=>(da s M).bind fun ts M1=>if ts.length≤LIM then .ok (.tup ts) M1 else .no
def zaq (m:Bool) (da:DA):DE:=fun s M=>(da s M).bind fun ts M1=>if ts.length≤LIM then lift (some (mk m (.lst ts) M1)) else .no
theorem s1b {es:List Expr} {da:DA} {k:Nat} {pos:Pos} (h:PA X es (TAz C W da)):PE X (.Tuple es k pos) (TEz C W (dTup da)):=
 zbf (pe_tup h) fun σ H Q ⟨mu,s,M,R,S,P⟩=>⟨mu,s,M,R,S,P.bind fun ts M1 mu1 xs H1 R1 E1 r1 P1=>by
  by_cases c:ts.length≤LIM
  ·rw [if_pos c] at P1
   refine ⟨by rw [← zbC,← r1.length]; exact c,fun p hp=>?_⟩
   obtain ⟨R',E',r'⟩:=zdU R1 hp r1
   exact P1 mu1 _ _ R' E' r'
  ·rw [if_neg c] at P1; exact P1.elim⟩
theorem se (m:Bool) {es:List Expr} {da:DA} {pos:Pos} (h:PA X es (TAz C W da)):PE X (.List es pos) (TEz C W (zaq m da)):=
 zbf (pe_lst h) fun σ H Q ⟨mu,s,M,R,S,P⟩=>⟨mu,s,M,R,S,P.bind fun ts M1 mu1 xs H1 R1 E1 r1 P1=>by
  by_cases c:ts.length≤LIM
  ·rw [if_pos c] at P1
   refine ⟨by rw [← zbC,← r1.length]; exact c,fun p hp=>?_⟩
   obtain ⟨mu',R',E',r'⟩:=zdT (t := .lst ts) (u := .lst xs) m R1 hp r1
   exact P1 mu' _ _ R' E' r'
  ·rw [if_neg c] at P1; exact P1.elim⟩
def zbF (m:Bool):DE:=fun _ M=>lift (some (mk m (.dct []) M))
theorem s1d (m:Bool) {pos:Pos}:PE X (.Dict [] [] pos) (TEz C W (zbF m)):=
 zbf pe_dnewK fun σ H Q ⟨mu,s,M,R,S,P⟩=>fun p hp=>by
  obtain ⟨mu',R',E',r'⟩:=zdT (t := .dct []) (u := .dK []) m R hp .nil
  exact P mu' _ _ R' E' r'
end
end Z
end
section
namespace Z
open PySem PySem.Spec PyProof.Rows L2 PySem.SeqAt
open PySem.W (EqTree)
section
variable {X:Cx} {C:Cfg} {W:WX} {mu:Mu} {M:Mem} {H:Hp}
theorem zjA {xs:List T} {vs:List V} {i:Int} {t:T} (r:RepL C mu H xs vs) (h:atI xs i=some t):∃ v,atI vs i=some v∧Rep C mu H t v:=by
 unfold atI at h ⊢
 rw [← r.length]
 cases e:ixN xs.length i with
 | none=>rw [e] at h; cases h
 | some j=>
  rw [e] at h
  obtain ⟨v,h1,h2⟩:=r.get (show xs[j]?=some t from h)
  exact ⟨v,h1,h2⟩
theorem RepD.look (k:Str):∀ {ks:List (Str × T)} {ws:List (Key × V)},RepD C mu H ks ws→match ks.lookup k with
  | some t => ∃ v,valV ws (.inr k:Key)=some v∧Rep C mu H t v
  | none=>valV ws (.inr k:Key)=none
 | _,_,.nil=>rfl
 | _,_,@RepD.cons _ _ _ k' t v ks ws h r=>by
  have ih:=r.look k
  by_cases e:k=k'
  ·subst e
   simp only [List.lookup_cons,beq_self_eq_true]
   exact ⟨v,by simp [valV],h⟩
  ·have e1:(k == k')=false:=by simpa using e
   have e2:¬ ((.inr k':Key) = .inr k):=fun z=>e (Sum.inr.inj z).symm
   have e3:valV ((.inr k',v) :: ws) (.inr k:Key)=valV ws (.inr k):=valV_neg e2
   simp only [List.lookup_cons,e1,e3]
   exact ih
def rIxD:R2:=fun x y H Q => ∃ a v,x = .ref a∧DGet H a y (some v)∧Q v H
theorem znC (hu:X.A.units + 1 < cLine):IxR X rIxD:=by
 intro value slice pins s σ H x y v u Q I rx ry h hs
 obtain ⟨a,z,rfl,g,q⟩:=h
 cases rx
 exact tail_any (dict_typeIs I g) PySem.F.slot_dict_getitem.lookup (d_getItem hu I g ry fun w' s3 I3 rw'=>⟨z,H,I3,rw',q⟩) hs
theorem zdy {o:Option T} {t:T} {M':Mem} (h:pr M o=some (t,M')):o=some t∧M'=M:=by
 cases o with
 | none=>cases h
 | some u=>cases h; exact ⟨rfl,rfl⟩
def gIx:Op2:=fun t u M=>match u with
 | .int i=>(match t with
  | .str x=>if x.length≤LIM then pr M ((atI x.cps.toList i).map fun c => .str ⟨#[c]⟩) else none
  | .tup xs=>pr M (atI xs i)
  | t=>(match der M t with
   | .lst xs=>pr M (atI xs i)
   | _=>none))
 | .str k=>(match der M t with
  | .dct ks=>pr M (ks.lookup k)
  | _=>none)
 | _=>none
theorem znD {r r':R2} (h:IxR X r) (w:∀ x y H Q,r' x y H Q→r x y H Q):IxR X r':=fun a b pins s σ H x y v u Q I rx ry q hs=>h a b pins s σ H x y v u Q I rx ry (w x y H Q q) hs
theorem zjB (hK:C.K=X.K) (hu:X.A.units + 1 < cLine):IxR X (rZ C gIx):=znD (IxR.or ix_seq (znC hu)) fun x y H Q ⟨mu,M,t,u,t',M',R,rt,ru,e,q⟩=>by
 cases u with
 | int i=>
  have ey:=ru.intI
  subst ey
  have lists:(match der M t with
   | .lst xs=>pr M (atI xs i)
   | _=>none)=some (t',M')→rIx X.K x (.int i) H Q:=fun e=>by
   split at e
   ·rename_i xs hx
    obtain ⟨a,vs,rfl,ha,r⟩:=zcU R rt hx
    obtain ⟨h1,rfl⟩:=zdy e
    obtain ⟨v,h2,r2⟩:=zjA r h1
    exact .inl ⟨a,vs,i,v,rfl,rfl,.inl ha,h2,q mu _ H R Ext.refl r2⟩
   ·cases e
  cases t with
  | str z=>
   unfold gIx at e
   simp only at e
   by_cases c:z.length≤LIM
   ·rw [if_pos c] at e
    obtain ⟨h1,rfl⟩:=zdy e
    obtain ⟨k,h2,rfl⟩:=Option.map_eq_some_iff.mp h1
    exact .inl (.inr (.inr ⟨z,i,k,rt.strI,rfl,by rw [← zbC]; exact c,h2,q mu _ H R Ext.refl (.str _)⟩))
   ·rw [if_neg c] at e; cases e
  | tup xs=>
   obtain ⟨a,vs,rfl,f,r⟩:=rt.tupI
   obtain ⟨h1,rfl⟩:=zdy (show pr M (atI xs i)=some (t',M') from e)
   obtain ⟨v,h2,r2⟩:=zjA r h1
   exact .inl (.inr (.inl ⟨a,vs,i,v,rfl,rfl,hK ▸ f.sq,h2,q mu _ H R Ext.refl r2⟩))
  | lst xs=>exact .inl (lists e)
  | cel j=>exact .inl (lists e)
  | fz xs=>exact .inl (lists e)
  | _=>cases e
 | str k=>
  have ey:=ru.strI
  subst ey
  have e':(match der M t with
   | .dct ks=>pr M (ks.lookup k)
   | _=>none)=some (t',M'):=e
  split at e'
  ·rename_i ks hk
   obtain ⟨a,ws,rfl,ha,r⟩:=zdV R rt hk
   obtain ⟨h1,rfl⟩:=zdy e'
   have l:=r.look k
   rw [h1] at l
   obtain ⟨v,h2,r2⟩:=l
   exact .inr ⟨a,v,rfl,.inl ⟨ws,.inr k,ha,rfl,h2.symm⟩,q mu _ H R Ext.refl r2⟩
  ·cases e'
 | _=>cases e
theorem sj (hK:C.K=X.K) (hu:X.A.units + 1 < cLine) {a b:Expr} {da db:DE} {pos:Pos} (ha:PE X a (TEz C W da)) (hb:PE X b (TEz C W db)) (hs:PlainIx b):PE X (.Subscript a b pos) (TEz C W (zac gIx da db)):=
 zbf (pe_ix (zjB hK hu) ha hb hs) fun _ _ _ h=>zdQ h
abbrev DO:=Sg→Mem→Out (Option Int)
def zaL:DO:=fun _ M => .ok none M
def zaM (d:DE):DO:=fun s M=>(d s M).bind fun t M1=>match t with
 | .int i => .ok (some i) M1
 | _ => .no
def TOz (C:Cfg) (W:WX) (d:DO):TO:=fun σ H Q => ∃ mu s M,RM C mu M H∧RS C mu H s σ ∧ Post C mu H (d s M) (fun _ _ a b=>a=b) Q fun c dd H'=>W c dd σ H'
theorem zcx:PO X none (TOz C W zaL):=⟨fun pins s σ H Q I ⟨mu,sg,M,R,S,P⟩=>po_none.run pins s σ H Q I (P mu _ H R Ext.refl rfl)⟩
theorem zcy {e:Expr} {d:DE} (h:PE X e (TEz C W d)):PO X (some e) (TOz C W (zaM d)):=
 ⟨fun pins s σ H Q I ⟨mu,sg,M,R,S,P⟩=>(po_some h).run pins s σ H Q I ⟨mu,sg,M,R,S,P.bind fun t M1 mu1 x H1 R1 E1 r1 P1=>by
  cases r1 with
  | int i=>exact ⟨i,rfl,P1 mu1 _ H1 R1 Ext.refl rfl⟩
  | _=>exact P1.elim⟩⟩
def zaZ (xs:List T) (lo hi:Option Int):List T:=(xs.drop (HT.sIx xs.length 0 lo)).take (HT.sIx xs.length xs.length hi - HT.sIx xs.length 0 lo)
theorem zjC {xs:List T} {vs:List V} {lo hi:Option Int} (r:RepL C mu H xs vs):RepL C mu H (zaZ xs lo hi) (cutV vs lo hi):=by
 unfold zaZ cutV
 rw [r.length]
 exact (r.drop _).take _
def gSl (m:Bool) (t:T) (lo hi:Option Int) (M:Mem):Option (T × Mem):=match t with
 | .str x=>if x.length≤LIM then some (.str (cutS x lo hi),M) else none
 | .tup xs=>some (.tup (zaZ xs lo hi),M)
 | t=>(match der M t with
  | .lst xs=>some (mk m (.lst (zaZ xs lo hi)) M)
  | _=>none)
def dSl (m:Bool) (da:DE) (dl dh:DO):DE:=fun s M=>(da s M).bind fun t M1=>(dl s M1).bind fun l M2=>(dh s M2).bind fun u M3=>lift (gSl m t l u M3)
theorem znE {r r':V→Option Int→Option Int→Hp→VK→Prop} (h:SlR X r) (w:∀ x lo hi H Q,r' x lo hi H Q→r x lo hi H Q):SlR X r':=fun pins s σ H x v vl vu lo hi sl Q I rx hs pl pu q=>h pins s σ H x v vl vu lo hi sl Q I rx hs pl pu (w x lo hi H Q q)
theorem znF {xs:List T} {lo hi:Option Int} (h:HT.sIx xs.length 0 lo=0∧HT.sIx xs.length xs.length hi=xs.length):zaZ xs lo hi=xs:=by
 unfold zaZ
 rw [h.1,h.2]
 simp
theorem so (hK:C.K=X.K) (m:Bool) {a:Expr} {lo hi:Option Expr} {da:DE} {dl dh:DO} {p2 pos:Pos} (ha:PE X a (TEz C W da)) (hl:PO X lo (TOz C W dl)) (hh:PO X hi (TOz C W dh)) :
  PE X (.Subscript a (.Slice lo hi none p2) pos) (TEz C W (dSl m da dl dh)):=by
 let rr:V→Option Int→Option Int→Hp→VK→Prop:=fun x lo hi H Q => ∃ mu M t t' M',RM C mu M H∧Rep C mu H t x∧gSl m t lo hi M=some (t',M')∧∀mu' v H',RM C mu' M' H'→Ext C mu H mu' H'→Rep C mu' H' t' v→Q v H'
 have hr:SlR X rr:=znE ((SlR.or sl_list sl_tupA).or sl_str) fun x lo hi H Q ⟨mu,M,t,t',M',R,rt,e,q⟩=>by
  have lists:(match der M t with
   | .lst xs=>some (mk m (.lst (zaZ xs lo hi)) M)
   | _=>none)=some (t',M')→rSlL X.K x lo hi H Q:=fun e=>by
   split at e
   ·rename_i xs hx
    obtain ⟨a,vs,rfl,ha,r⟩:=zcU R rt hx
    refine ⟨a,vs,rfl,.inl ha,fun p hp=>?_⟩
    obtain ⟨mu',R',E',r'⟩:=zdT (t := .lst (zaZ xs lo hi)) (u := .lst (cutV vs lo hi)) m R hp (zjC r)
    rw [Option.some.inj e] at R' r'
    exact q mu' _ _ R' E' r'
   ·cases e
  cases t with
  | str z=>
   unfold gSl at e
   simp only at e
   by_cases c:z.length≤LIM
   ·rw [if_pos c] at e
    cases e
    exact .inr ⟨z,rt.strI,by rw [← zbC]; exact c,q mu _ H R Ext.refl (.str _)⟩
   ·rw [if_neg c] at e; cases e
  | tup xs=>
   obtain ⟨a,vs,rfl,f,r⟩:=rt.tupI
   cases e
   refine .inl (.inr ⟨a,vs,rfl,hK ▸ f.sq,fun z=>?_,fun _ p hp=>?_⟩)
   ·rw [← r.length] at z
    rw [znF z] at q
    exact q mu _ H R Ext.refl (.tup f r)
   ·obtain ⟨R',E',r'⟩:=zdU R hp (zjC (lo:=lo) (hi:=hi) r)
    exact q mu _ _ R' E' r'
  | lst xs=>exact .inl (.inl (lists e))
  | cel j=>exact .inl (.inl (lists e))
  | fz xs=>exact .inl (.inl (lists e))
  | _=>cases e
 refine zbf (pe_slice hr ha hl hh) fun σ H Q ⟨mu,s,M,R,S,P⟩=>⟨mu,s,M,R,S,P.bind fun t M1 mu1 x H1 R1 E1 r1 P1=>?_⟩
 refine ⟨mu1,s,M1,R1,S.mono E1.rx,P1.bind fun l M2 mu2 l' H2 R2 E2 e2 P2=>?_⟩
 subst e2
 refine ⟨mu2,s,M2,R2,(S.mono E1.rx).mono E2.rx,P2.bind fun u M3 mu3 u' H3 R3 E3 e3 P3=>?_⟩
 subst e3
 cases e:gSl m t l u M3 with
 | none=>rw [e] at P3; exact P3.elim
 | some p=>
  obtain ⟨t',M'⟩:=p
  rw [e] at P3
  exact ⟨mu3,M3,t,t',M',R3,r1.mono (E2.trans E3).rx,e,P3⟩
def znG (m:Bool) (da:DE):DE:=fun s M=>(da s M).bind fun t M1=>match der M1 t with
 | .lst xs=>lift (some (mk m (.lst xs.reverse) M1))
 | _ => .no
def zcz (f:T→Option Bool):List T→Option Bool
 | []=>some false
 | y :: ys=>match f y,zcz f ys with
  | some a,some b=>some (a || b)
  | _,_=>none
theorem zjD {f:T→Option Bool}:∀ {ys:List T} {b:Bool},zcz f ys=some b →
  (∀ (j:Nat) (y:T),ys[j]?=some y→∃c,f y=some c)∧∀e:Nat→Bool,(∀ (j:Nat) (y:T),ys[j]?=some y→f y=some (e j))→b=(List.range ys.length).any e
 | [],b,h=>by
  have hb:b=false:=by cases h; rfl
  exact ⟨fun j y e=>by simp at e,fun e _=>by simp [hb]⟩
 | y :: ys,b,h=>by
  unfold zcz at h
  cases e1:f y with
  | none=>rw [e1] at h; simp at h
  | some a=>
   cases e2:zcz f ys with
   | none=>rw [e1,e2] at h; simp at h
   | some c=>
    rw [e1,e2] at h
    have hb:(a || c)=b:=by simpa using h
    obtain ⟨i1,i2⟩:=zjD e2
    refine ⟨fun j y' h1=>?_,fun e he=>?_⟩
    ·cases j with
     | zero=>simp at h1; subst h1; exact ⟨a,e1⟩
     | succ j=>exact i1 j y' (by simpa using h1)
    ·have h0:=he 0 y (by simp)
     rw [e1] at h0
     have h0':a=e 0:=by simpa using h0
     have:=i2 (fun j=>e (j + 1)) fun j y' h1=>he (j + 1) y' (by simpa using h1)
     rw [← hb,this,h0',List.length_cons,List.range_succ_eq_map,List.any_cons,List.any_map]
     rfl
def zjE (ks:List (Str × T)) (t:T):Option Bool:=match t with
 | .str k=>some (ks.lookup k).isSome
 | _=>none
def zdX (M:Mem) (t u:T):Option Bool:=match der M u with
 | .lst ys=>zcz (fun y=>eqF true zaX y t) ys
 | .dct ks=>zjE ks t
 | _=>none
def zcX (t u:T) (M:Mem):Option Bool:=match t,u with
 | .str i,.str j=>some (!(Builtin.Str.occurrences j i 0 j.length 1).isEmpty)
 | t,.tup ys=>if zah t && ys.all zah then some (ys.any fun y=>(eqF false 1 y t).getD false) else none
 | t,u=>zdX M t u
def gIn:Op2:=fun t u M=>pr M ((zcX t u M).map fun b => .bl b)
def zbi:Op2:=fun t u M=>pr M ((zcX t u M).map fun b => .bl (!b))
theorem znH:gB zbi:=fun t u M t' M' e=>by
 obtain ⟨h1,rfl⟩:=zdy e
 obtain ⟨b,_,rfl⟩:=Option.map_eq_some_iff.mp h1
 exact ⟨⟨_,rfl⟩,rfl⟩
theorem znI {xs:List T} {vs:List V} (r:RepL C mu H xs vs) (h:xs.all zah=true):vs.all flatV=true:=by
 induction xs generalizing vs with
 | nil=>cases r; rfl
 | cons t ts ih=>
  cases r with
  | cons a b=>
   rw [List.all_cons,Bool.and_eq_true] at h ⊢
   exact ⟨a.flat h.1,ih b h.2⟩
theorem znJ {xs:List T} {vs:List V} {t:T} {x:V} (r:RepL C mu H xs vs) (rt:Rep C mu H t x) (f:zah t=true) (h:xs.all zah=true):(xs.any fun y=>(eqF false 1 y t).getD false)=inV x vs:=by
 induction xs generalizing vs with
 | nil=>cases r; rfl
 | cons u us ih=>
  cases r with
  | @cons _ v _ ws a b=>
   rw [List.all_cons,Bool.and_eq_true] at h
   have e1:(eqF false 1 u t).getD false=eqV v x:=by
    cases e:eqF false 1 u t with
    | none=>
     exfalso
     cases a <;> first | cases h.1; done | (cases rt <;> first | cases f; done | simp [eqF,zah] at e)
    | some b=>exact (zjp a rt h.1 f e).symm
   rw [List.any_cons,e1,ih b h.2]
   rfl
theorem zjF (hK:C.K=X.K) (hu:X.A.units + 64 < cLine) (neg:Bool) {pins:List (Addr × Obj)} {s:Shared} {σ : L2.St} {x y:V} {v u:Value} {t u':T} {b:Bool} {Q:Value→Shared→Prop} (I:Inv X pins σ H s) (R:RM C mu M H)
  (rt:Rep C mu H t x) (ru:Rep C mu H u' y) (rx:RelV x v) (ry:RelV y u) (e:zcX t u' M=some b) (q:∀ s',Inv X pins σ H s'→Q (.bool (if neg then !b else b)) s'):wpAny (model X.prog X.w) X.A (compareOp (if neg then .NotIn else .In) v u) Q X.xe s:=by
 have rest:zdX M t u'=some b→wpAny (model X.prog X.w) X.A (compareOp (if neg then .NotIn else .In) v u) Q X.xe s:=fun e=>by
  unfold zdX at e
  split at e
  ·rename_i ys hy
   obtain ⟨a,vs,rfl,ha,r⟩:=zcU R ru hy
   cases ry
   obtain ⟨its,q1,p,_⟩:=I.list (X:=X) (.inl ha)
   obtain ⟨h1,h2⟩:=zjD e
   let e0:Nat→Bool:=fun j=>match ys[j]? with
    | some y=>(eqF true zaX y t).getD false
    | none=>false
   have he:∀ (j:Nat) (y:T),ys[j]?=some y→eqF true zaX y t=some (e0 j):=fun j y hj=>by
    obtain ⟨c,hc⟩:=h1 j y hj
    show _=some (match ys[j]? with
     | some y=>(eqF true zaX y t).getD false
     | none=>false)
    rw [hj]
    show eqF true zaX y t=some ((eqF true zaX y t).getD false)
    rw [hc]; rfl
   have hl:its.toArray.size=ys.length:=by
    rw [List.size_toArray,← q1.length,r.length]
   refine znk neg p.isList (e:=e0) (fun j hj=>?_) (by rw [hl,← h2 e0 he]; exact q s I)
   have hj':its[j]?=some its.toArray[j]:=by simp
   obtain ⟨t1,v1,g1,g2,g3,g4⟩:=r.vals q1 hj'
   have g5:=he j t1 g1
   exact EqC.run (zgU true hK I zaX t1 t v1 x _ v _ g3 rt g4 rx g5) (by show X.A.units + 1 + 30 < cLine; omega)
  ·rename_i ks hk
   unfold zjE at e
   split at e
   ·rename_i k _
    obtain ⟨a,ws,rfl,ha,r⟩:=zdV R ru hk
    cases ry
    have l:=r.look k
    have ex:=rt.strI
    subst ex
    have g:DGet H a (.str k) (valV ws (.inr k)) := .inl ⟨ws,.inr k,ha,rfl,rfl⟩
    have eb:b=(valV ws (.inr k:Key)).isSome:=by
     cases e2:ks.lookup k with
     | none=>
      rw [e2] at l e
      rw [l]
      cases e; rfl
     | some z=>
      rw [e2] at l e
      obtain ⟨v',l,_⟩:=l
      rw [l]
      cases e; rfl
    cases neg with
    | true=>exact d_notIn (by omega) I g rx fun s' I'=>by rw [← eb]; exact q s' I'
    | false=>exact d_in (by omega) I g rx fun s' I'=>by rw [← eb]; exact q s' I'
   ·cases e
  ·cases e
 unfold zcX at e
 split at e
 ·rename_i i j
  have ex:=rt.strI
  have ey:=ru.strI
  subst ex ey
  cases e
  cases neg with
  | true=>exact thn (op_notin_str pins s σ H _ _ v u (fun x H'=>x = .bl _∧H'=H) I rx ry ⟨i,j,rfl,rfl,rfl,rfl⟩) fun z s' ⟨x,H',I',r',e1,e2⟩=>by subst e1 e2; cases r'; exact q s' I'
  | false=>exact thn (op_in_str pins s σ H _ _ v u (fun x H'=>x = .bl _∧H'=H) I rx ry ⟨i,j,rfl,rfl,rfl,rfl⟩) fun z s' ⟨x,H',I',r',e1,e2⟩=>by subst e1 e2; cases r'; exact q s' I'
 ·rename_i ys
  split at e
  ·rename_i hc
   rw [Bool.and_eq_true] at hc
   cases e
   obtain ⟨a,vs,rfl,f,r⟩:=ru.tupI
   have e1:=znJ r rt hc.1 hc.2
   have fx:=rt.flat hc.1
   have fs:=znI r hc.2
   rw [e1] at q
   cases neg with
   | true=>exact thn (op_notIn_seq pins s σ H _ _ v u (fun x H'=>x = .bl _∧H'=H) I rx ry ⟨a,vs,rfl,.inr (hK ▸ f.sq),fx,fs,rfl,rfl⟩) fun z s' ⟨x,H',I',r',e1,e2⟩=>by subst e1 e2; cases r'; exact q s' I'
   | false=>exact thn (op_in_seq pins s σ H _ _ v u (fun x H'=>x = .bl _∧H'=H) I rx ry ⟨a,vs,rfl,.inr (hK ▸ f.sq),fx,fs,rfl,rfl⟩) fun z s' ⟨x,H',I',r',e1,e2⟩=>by subst e1 e2; cases r'; exact q s' I'
  ·cases e
 ·exact rest e
theorem znK (hK:C.K=X.K) (hu:X.A.units + 64 < cLine):OpR X (compareOp .In) (rZ C gIn):=fun pins s σ H x y v u Q I rx ry ⟨mu,M,t,u',t',M',R,rt,ru,e,q⟩=>by
 obtain ⟨h1,rfl⟩:=zdy e
 obtain ⟨b,h2,rfl⟩:=Option.map_eq_some_iff.mp h1
 exact zjF hK hu false I R rt ru rx ry h2 fun s' I'=>⟨.bl _,H,I',rfl,q mu _ H R Ext.refl (.bl _)⟩
theorem znL (hK:C.K=X.K) (hu:X.A.units + 64 < cLine):OpR X (compareOp .NotIn) (rZ C zbi):=fun pins s σ H x y v u Q I rx ry ⟨mu,M,t,u',t',M',R,rt,ru,e,q⟩=>by
 obtain ⟨h1,rfl⟩:=zdy e
 obtain ⟨b,h2,rfl⟩:=Option.map_eq_some_iff.mp h1
 exact zjF hK hu true I R rt ru rx ry h2 fun s' I'=>⟨.bl _,H,I',rfl,q mu _ H R Ext.refl (.bl _)⟩
end
end Z
end
section
namespace Z
open PySem PySem.Spec PyProof.Rows L2 PySem.SeqAt
abbrev OpN:=List T→Mem→Option (T × Mem)
def rN (C:Cfg) (g:OpN):List V→Hp→VK→Prop:=fun xs H Q => ∃ mu M ts t' M',RM C mu M H∧RepL C mu H ts xs∧g ts M=some (t',M') ∧
 ∀ mu' v H',RM C mu' M' H'→Ext C mu H mu' H'→Rep C mu' H' t' v→Q v H'
def dCall (g:OpN) (da:DA):DE:=fun s M=>(da s M).bind fun ts M1=>lift (g ts M1)
section
variable {X:Cx} {C:Cfg} {W:WX} {mu:Mu} {M M':Mem} {H:Hp} {t':T} {Q:VK}
theorem zdb {f:Value} {r r':List V→Hp→VK→Prop} (h:CallR X f r) (w:∀ xs H Q,r' xs H Q→r xs H Q):CallR X f r':=fun pins s σ H xs us Q I r q=>h pins s σ H xs us Q I r (w xs H Q q)
theorem zjG {g:OpN} {da:DA} {σ : L2.St} {H:Hp} {Q:VK} (h:TEz C W (dCall g da) σ H Q):tCB (rN C g) (TAz C W da) σ H Q:=by
 obtain ⟨mu,s,M,R,S,P⟩:=h
 refine ⟨mu,s,M,R,S,P.bind fun ts M1 mu1 xs H1 R1 E1 r1 P1=>?_⟩
 cases e:g ts M1 with
 | none=>rw [e] at P1; exact P1.elim
 | some p=>
  obtain ⟨t',M'⟩:=p
  rw [e] at P1
  exact ⟨mu1,M1,ts,t',M',R1,r1,e,P1⟩
theorem RepL.one {t:T} {xs:List V} (r:RepL C mu H [t] xs):∃ x,xs = [x]∧Rep C mu H t x:=by
 cases r with
 | cons h q=>cases q; exact ⟨_,rfl,h⟩
theorem RepL.two {t u:T} {xs:List V} (r:RepL C mu H [t,u] xs):∃ x y,xs = [x,y]∧Rep C mu H t x∧Rep C mu H u y:=by
 cases r with
 | cons h q=>
  obtain ⟨y,rfl,h2⟩:=q.one
  exact ⟨_,_,rfl,h,h2⟩
def za0:OpN:=fun ts M=>match ts with
 | [.str x]=>if x.length≤LIM then some (.int x.length,M) else none
 | [.tup xs]=>some (.int xs.length,M)
 | [t]=>(match der M t with
  | .lst xs=>some (.int xs.length,M)
  | .dct ks=>some (.int ks.length,M)
  | _=>none)
 | _=>none
def zjH:List V→Hp→VK→Prop:=fun xs H Q => ∃ a kvs,xs = [V.ref a]∧Rd H a (.dK kvs)∧Q (.int kvs.length) H
theorem znM:CallR X (.builtin "len") zjH:=fun pins s σ H xs us Q I r ⟨a,kvs,e,h,q⟩=>by
 subst e
 obtain ⟨u,rfl,r1⟩:=vals1 r
 cases (show u=Value.ref a from r1)
 exact d_len I h fun t s' I'=>⟨.int kvs.length,H,I',⟨t,rfl⟩,q⟩
theorem zeK (hK:C.K=X.K):CallR X (.builtin "len") (rN C za0):=zdb ((call_len_seq.or call_len_str).or znM) fun xs H Q ⟨mu,M,ts,t',M',R,r,e,q⟩=>by
 match ts,r,e with
 | [t],r,e=>
  obtain ⟨x,rfl,rt⟩:=r.one
  have rest:(match der M t with
   | .lst xs=>some ((.int xs.length:T),M)
   | .dct ks=>some (.int ks.length,M)
   | _=>none)=some (t',M')→((∃ p ys,[x] = [V.ref p]∧(SqL X.K H p ys∨SqT X.K H p ys)∧Q (.int ys.length) H)∨∃z,[x] = [V.str z]∧z.length≤sizeLine∧Q (.int z.length) H)∨zjH [x] H Q:=fun e=>by
   split at e
   ·rename_i xs hx
    obtain ⟨a,vs,rfl,ha,r⟩:=zcU R rt hx
    cases e
    exact .inl (.inl ⟨a,vs,rfl,.inl (.inl ha),by rw [← r.length]; exact q mu _ H R Ext.refl (.int _)⟩)
   ·rename_i ks hx
    obtain ⟨a,ws,rfl,ha,r⟩:=zdV R rt hx
    cases e
    exact .inr ⟨a,ws,rfl,ha,by rw [← r.length]; exact q mu _ H R Ext.refl (.int _)⟩
   ·cases e
  cases t with
  | str z=>
   unfold za0 at e
   simp only at e
   by_cases c:z.length≤LIM
   ·rw [if_pos c] at e
    cases e
    exact .inl (.inr ⟨z,by rw [rt.strI],by rw [← zbC]; exact c,q mu _ H R Ext.refl (.int _)⟩)
   ·rw [if_neg c] at e; cases e
  | tup ys=>
   obtain ⟨a,vs,rfl,f,r⟩:=rt.tupI
   cases e
   exact .inl (.inl ⟨a,vs,rfl,.inr (hK ▸ f.sq),by rw [← r.length]; exact q mu _ H R Ext.refl (.int _)⟩)
  | _=>exact rest e
 | [],_,e=>cases e
 | _ :: _ :: _,_,e=>simp [za0] at e
def zdY:OpN:=fun ts M=>match ts with
 | [.int i]=>some (.int i,M)
 | [.bl k]=>some (.int (if k then 1 else 0),M)
 | _=>none
theorem znN:CallR X (.type "int") (rN C zdY):=zdb call_int1 fun xs H Q ⟨mu,M,ts,t',M',R,r,e,q⟩=>by
 unfold zdY at e
 split at e
 ·obtain ⟨x,rfl,rt⟩:=r.one
  cases rt
  cases e
  exact .inl ⟨_,rfl,q mu _ H R Ext.refl (.int _)⟩
 ·obtain ⟨x,rfl,rt⟩:=r.one
  cases rt
  cases e
  exact .inr ⟨_,rfl,q mu _ H R Ext.refl (.int _)⟩
 ·cases e
def zdz:OpN:=fun ts M=>match ts with
 | [.int i]=>if i.natAbs.log2 < 1920 then some (.str (toString i),M) else none
 | [.str a]=>some (.str a,M)
 | _=>none
def zb9:List T→Option (List Int)
 | []=>some []
 | .int i :: r=>(zb9 r).map fun l=>i :: l
 | _=>none
theorem ints_rep:∀ {ts:List T} {vs:List V} {ns:List Int},RepL C mu H ts vs→zb9 ts=some ns→vs=ns.map V.int
 | _,_,_,.nil,e=>by cases e; rfl
 | _,_,_,@RepL.cons _ _ _ t v ts vs h r,e=>by
  cases h with
  | int i=>
   obtain ⟨l,h1,h2⟩:=Option.map_eq_some_iff.mp (show (zb9 ts).map (fun l=>i :: l)=some _ from e)
   rw [← h2,ints_rep r h1]; rfl
  | _=>cases e
def zcA:List T→Option (List Str)
 | []=>some []
 | .str i :: r=>(zcA r).map fun l=>i :: l
 | _=>none
theorem zg0:∀ {ts:List T} {vs:List V} {ns:List Str},RepL C mu H ts vs→zcA ts=some ns→vs=ns.map V.str
 | _,_,_,.nil,e=>by cases e; rfl
 | _,_,_,@RepL.cons _ _ _ t v ts vs h r,e=>by
  cases h with
  | str i=>
   obtain ⟨l,h1,h2⟩:=Option.map_eq_some_iff.mp (show (zcA ts).map (fun l=>i :: l)=some _ from e)
   rw [← h2,zg0 r h1]; rfl
  | _=>cases e
def zdA:List T→Option (List Bool)
 | []=>some []
 | .bl i :: r=>(zdA r).map fun l=>i :: l
 | _=>none
theorem zjI:∀ {ts:List T} {vs:List V} {ns:List Bool},RepL C mu H ts vs→zdA ts=some ns→vs=ns.map V.bl
 | _,_,_,.nil,e=>by cases e; rfl
 | _,_,_,@RepL.cons _ _ _ t v ts vs h r,e=>by
  cases h with
  | bl i=>
   obtain ⟨l,h1,h2⟩:=Option.map_eq_some_iff.mp (show (zdA ts).map (fun l=>i :: l)=some _ from e)
   rw [← h2,zjI r h1]; rfl
  | _=>cases e
def listOf (M:Mem) (t:T):Option (List T):=match der M t with
 | .lst xs=>some xs
 | _=>none
theorem zfF {t:T} {x:V} {xs:List T} (R:RM C mu M H) (r:Rep C mu H t x) (h:listOf M t=some xs):∃ a vs,x = .ref a∧Rd H a (.lst vs)∧RepL C mu H xs vs:=by
 unfold listOf at h
 split at h
 ·rename_i ys hy
  cases h
  exact zcU R r hy
 ·cases h
def zbG:List Int→Int
 | []=>0
 | [a]=>a
 | a :: r=>max a (zbG r)
def zjJ:List Int→Int
 | []=>0
 | [a]=>a
 | a :: r=>min a (zjJ r)
theorem zg1:∀ {ns:List Int} {i:Int},i∈ns→i≤zbG ns
 | [a],i,h=>by simp at h; simp [zbG,h]
 | a :: b :: r,i,h=>by
  have ih:=@zg1 (b :: r) i
  show i≤max a (zbG (b :: r))
  rcases List.mem_cons.mp h with rfl | h
  ·exact Int.le_max_left _ _
  ·exact Int.le_trans (ih h) (Int.le_max_right _ _)
theorem zg2:∀ {ns:List Int},0 < ns.length→zbG ns∈ns
 | [a],_=>by simp [zbG]
 | a :: b :: r,_=>by
  have ih:=@zg2 (b :: r) (by simp)
  show max a (zbG (b :: r))∈_
  rcases Int.le_total a (zbG (b :: r)) with h | h
  ·rw [Int.max_eq_right h]; exact List.mem_cons_of_mem _ ih
  ·rw [Int.max_eq_left h]; exact List.mem_cons_self ..
def zjK (M:Mem) (t:T):Option Int:=match (listOf M t).bind zb9 with
 | some (i :: r)=>some (zbG (i :: r))
 | _=>none
def znO (M:Mem) (t:T):Option Int:=match (listOf M t).bind zb9 with
 | some (i :: r)=>some (zjJ (i :: r))
 | _=>none
theorem ints1 {t:T} {x:V} {ns:List Int} (R:RM C mu M H) (r:Rep C mu H t x) (h:(listOf M t).bind zb9=some ns):∃ a,x = .ref a∧Rd H a (.lst (ns.map V.int)):=by
 obtain ⟨xs,h1,h2⟩:=Option.bind_eq_some_iff.mp h
 obtain ⟨a,vs,rfl,ha,rl⟩:=zfF R r h1
 rw [ints_rep rl h2] at ha
 exact ⟨a,rfl,ha⟩
def zfG:OpN:=fun ts M=>match ts with
 | [.int i,.int j]=>some (.int (if j > i then j else i),M)
 | [t]=>(zjK M t).map fun i=>(.int i,M)
 | _=>none
def znP:OpN:=fun ts M=>match ts with
 | [.int i,.int j]=>some (.int (if j < i then j else i),M)
 | [t]=>(znO M t).map fun i=>(.int i,M)
 | _=>none
theorem znQ (hc:X.calm=true):CallR X (.builtin "max") (rN C zfG):=zdb ((call_max2 hc).or (cr_max hc)) fun xs H Q ⟨mu,M,ts,t',M',R,r,e,q⟩=>by
 unfold zfG at e
 split at e
 ·obtain ⟨x,y,rfl,r1,r2⟩:=r.two
  cases r1; cases r2; cases e
  exact .inl ⟨_,_,rfl,q mu _ H R Ext.refl (.int _)⟩
 ·obtain ⟨x,rfl,rt⟩:=r.one
  obtain ⟨i,h1,h2⟩:=Option.map_eq_some_iff.mp e
  cases h2
  unfold zjK at h1
  split at h1
  ·rename_i j l hl
   obtain ⟨a,rfl,ha⟩:=ints1 R rt hl
   cases h1
   refine .inr ⟨a,j :: l,rfl,.inl ha,by simp,fun m hm hy=>?_⟩
   have:m=zbG (j :: l):=Int.le_antisymm (zg1 hm) (hy _ (zg2 (by simp)))
   rw [this]
   exact q mu _ H R Ext.refl (.int _)
  ·cases h1
 ·cases e
theorem znR {t:T} {x:V} {ns:List Bool} (R:RM C mu M H) (r:Rep C mu H t x) (h:(listOf M t).bind zdA=some ns):∃ a,x = .ref a∧Rd H a (.lst (ns.map V.bl)):=by
 obtain ⟨xs,h1,h2⟩:=Option.bind_eq_some_iff.mp h
 obtain ⟨a,vs,rfl,ha,rl⟩:=zfF R r h1
 rw [zjI rl h2] at ha
 exact ⟨a,rfl,ha⟩
theorem znS {t:T} {x:V} {ns:List Str} (R:RM C mu M H) (r:Rep C mu H t x) (h:(listOf M t).bind zcA=some ns):∃ a,x = .ref a∧Rd H a (.lst (ns.map V.str)):=by
 obtain ⟨xs,h1,h2⟩:=Option.bind_eq_some_iff.mp h
 obtain ⟨a,vs,rfl,ha,rl⟩:=zfF R r h1
 rw [zg0 rl h2] at ha
 exact ⟨a,rfl,ha⟩
def zdc:OpN:=fun ts M=>match ts with
 | [t]=>((listOf M t).bind zdA).map fun ns=>(.bl (ns.all id),M)
 | _=>none
theorem zg3 (hc:X.calm=true):CallR X (.builtin "all") (rN C zdc):=zdb (cr_all hc) fun xs H Q ⟨mu,M,ts,t',M',R,r,e,q⟩=>by
 unfold zdc at e
 split at e
 ·obtain ⟨x,rfl,rt⟩:=r.one
  obtain ⟨ns,h1,h2⟩:=Option.map_eq_some_iff.mp e
  cases h2
  obtain ⟨a,rfl,ha⟩:=znR R rt h1
  exact ⟨a,ns,rfl,.inl ha,q mu _ H R Ext.refl (.bl _)⟩
 ·cases e
def zfH {α : Type} (le : α → α → Bool) (a : α):List α → List α
 | [] => [a]
 | b :: r=>match le a b with
  | true=>a :: b :: r
  | false=>b :: zfH le a r
def zg4 {α : Type} (l:List α) (le : α → α → Bool):List α := match l with
 | [] => []
 | a :: r=>zfH le a (zg4 r le)
theorem zjL {α : Type} (le : α → α → Bool) (a : α):∀ l:List α,(zfH le a l).Perm (a :: l)
 | [] => .refl _
 | b :: r=>by
  unfold zfH
  cases le a b with
  | true=>exact .refl _
  | false=>exact ((zjL le a r).cons b).trans (.swap a b r)
theorem zjM {α : Type}:∀ (l:List α) (le : α → α → Bool),(zg4 l le).Perm l
 | [],_ => .refl _
 | a :: r,le=>(zjL le a _).trans ((zjM r le).cons a)
def leS (a b:Str):Bool := !ltCps b.cps.toList a.cps.toList
def zdZ (l:List Str):List Str:=zg4 l leS
theorem zjN:∀ ns:List Int,RepL C mu H (ns.map T.int) (ns.map V.int)
 | [] => .nil
 | _ :: r => .cons (.int _) (zjN r)
theorem RepD.keys:∀ {ks:List (Str × T)} {ws:List (Key × V)},RepD C mu H ks ws→ws.map (·.1)=(ks.map (·.1)).map Sum.inr
 | _,_,.nil=>rfl
 | _,_,.cons _ r=>by rw [List.map_cons,List.map_cons,List.map_cons,r.keys]
theorem zjO (m:Bool) {t:T} {u:HO} {p:Addr} (R:RM C mu M H) (hp:H p=none) (c:CU C mu H t u) (e:mk m t M=(t',M')) (q:∀ mu' v H',RM C mu' M' H'→Ext C mu H mu' H'→Rep C mu' H' t' v→Q v H'):Q (.ref p) (upd H p u):=by
 obtain ⟨mu',R',E',r'⟩:=zdT m R hp c
 rw [e] at R' r'
 exact q mu' _ _ R' E' r'
def zca (ks:List (Str × T)):List T:=ks.map fun p => .str p.1
theorem RepD.kv:∀ {ks:List (Str × T)} {ws:List (Key × V)},RepD C mu H ks ws→RepL C mu H (zca ks) (ws.map fun kv=>kV kv.1)
 | _,_,.nil => .nil
 | _,_,.cons _ r => .cons (.str _) r.kv
def zfI:OpN:=fun ts M=>match ts with
 | [.tup xs]=>some (.tup xs,M)
 | [t]=>(listOf M t).map fun xs=>(.tup xs,M)
 | _=>none
theorem znT (hK:C.K=X.K):CallR X (.type "tuple") (rN C zfI):=zdb call_tuple_of fun xs H Q ⟨mu,M,ts,t',M',R,r,e,q⟩=>by
 unfold zfI at e
 split at e
 ·obtain ⟨x,rfl,rt⟩:=r.one
  obtain ⟨a,vs,rfl,f,rl⟩:=rt.tupI
  cases e
  exact ⟨a,vs,rfl,.inr ⟨hK ▸ f.sq,q mu _ H R Ext.refl rt⟩⟩
 ·obtain ⟨x,rfl,rt⟩:=r.one
  obtain ⟨xs,h1,h2⟩:=Option.map_eq_some_iff.mp e
  cases h2
  obtain ⟨a,vs,rfl,ha,rl⟩:=zfF R rt h1
  refine ⟨a,vs,rfl,.inl ⟨.inl ha,fun l hl=>?_⟩⟩
  obtain ⟨R',E',r'⟩:=zdU R hl rl
  exact q mu _ _ R' E' r'
 ·cases e
def zdB:List T→Option (List (Str × T))
 | []=>some []
 | .tup [.str k,v] :: r=>(zdB r).map fun l=>(k,v) :: l
 | _=>none
def putT (ks:List (Str × T)) (k:Str) (t:T):List (Str × T):=if ks.any (fun p=>p.1 == k) then ks.map (fun p=>if p.1 == k then (p.1,t) else p) else ks ++ [(k,t)]
def zcB (ks more:List (Str × T)):List (Str × T):=more.foldl (fun acc kv=>putT acc kv.1 kv.2) ks
theorem zjP (k:Str):∀ {ks:List (Str × T)} {ws:List (Key × V)},RepD C mu H ks ws→(ws.any fun kv=>decide (kv.1=(.inr k:Key)))=ks.any fun p=>p.1 == k
 | _,_,.nil=>rfl
 | _,_,@RepD.cons _ _ _ k' t v ks vs h r=>by
  rw [List.any_cons,List.any_cons,zjP k r]
  congr 1
  by_cases e:k'=k
  ·subst e; simp
  ·have:¬ ((.inr k':Key) = .inr k):=fun z=>e (Sum.inr.inj z)
   simp [this,e]
theorem map_put {t:T} {v:V} (k:Str) (hr:Rep C mu H t v):∀ {ks:List (Str × T)} {ws:List (Key × V)},RepD C mu H ks ws→RepD C mu H (ks.map fun p=>if p.1 == k then (p.1,t) else p) (ws.map fun kv=>if kv.1=(.inr k:Key) then (kv.1,v) else kv)
 | _,_,.nil => .nil
 | _,_,@RepD.cons _ _ _ k' t' v' ks vs h r=>by
  rw [List.map_cons,List.map_cons]
  by_cases e:k'=k
  ·subst e
   simp only [beq_self_eq_true,if_true]
   exact .cons hr (map_put k' hr r)
  ·have e2:¬ ((.inr k':Key) = .inr k):=fun z=>e (Sum.inr.inj z)
   have e1:(k' == k)=false:=by simpa using e
   simp only [e1,e2,if_false,Bool.false_eq_true]
   exact .cons h (map_put k hr r)
theorem RepD.append:∀ {xs ys:List (Str × T)} {vs ws:List (Key × V)},RepD C mu H xs vs→RepD C mu H ys ws→RepD C mu H (xs ++ ys) (vs ++ ws)
 | _,_,_,_,.nil,s=>s
 | _,_,_,_,.cons h r,s => .cons h (r.append s)
theorem RepD.put {ks:List (Str × T)} {ws:List (Key × V)} {k:Str} {t:T} {v:V} (r:RepD C mu H ks ws) (h:Rep C mu H t v):RepD C mu H (putT ks k t) (putK ws (.inr k) v):=by
 unfold putT putK
 rw [zjP k r]
 by_cases e:(ks.any fun p=>p.1 == k)=true
 ·rw [if_pos e,if_pos e]; exact map_put k h r
 ·rw [if_neg e,if_neg e]; exact r.append (.cons h .nil)
theorem RepD.merge {ms:List (Str × T)} {us:List (Key × V)} (q:RepD C mu H ms us):∀ {ks:List (Str × T)} {ws:List (Key × V)},RepD C mu H ks ws→RepD C mu H (zcB ks ms) (mergeK ws us):=by
 induction ms generalizing us with
 | nil=>intro ks ws r; cases q; exact r
 | cons p ms ih=>
  intro ks ws r
  cases q with
  | cons h q=>exact ih q (r.put h)
theorem zjQ (hK:C.K=X.K):∀ {ts:List T} {vs:List V} {ks:List (Str × T)},RepL C mu H ts vs→zdB ts=some ks→∃(ps:List Addr) (kvs:List (Key × V)),vs=ps.map V.ref∧Paired (fun p kv=>SqT X.K H p [kV kv.1,kv.2]) ps kvs∧RepD C mu H ks kvs
 | _,_,_,.nil,e=>by cases e; exact ⟨[],[],rfl,.nil,.nil⟩
 | _,_,_,@RepL.cons _ _ _ t v ts vs h r,e=>by
  unfold zdB at e
  split at e
  ·rename_i heq; cases heq
  ·rename_i k t2 r2 heq
   cases heq
   obtain ⟨l,h1,h2⟩:=Option.map_eq_some_iff.mp e
   cases h2
   obtain ⟨a,ws,rfl,f,rl⟩:=h.tupI
   obtain ⟨x,y,rfl,rx,ry⟩:=rl.two
   obtain ⟨ps,kvs,rfl,p2,rd⟩:=zjQ hK r h1
   cases rx
   exact ⟨a :: ps,(.inr k,y) :: kvs,rfl,.cons (hK ▸ f.sq) p2,.cons ry rd⟩
  ·cases e
def zdd (m:Bool):OpN:=fun ts M=>match ts with
 | [t]=>(match der M t with
  | .dct ks=>some (mk m (.dct ks) M)
  | .lst xs=>(match zdB xs with
   | some ps=>some (mk m (.dct (zcB [] ps)) M)
   | none=>none)
  | _=>none)
 | _=>none
theorem znU (m:Bool) (hK:C.K=X.K) (hc:X.calm=true):CallR X (.type "dict") (rN C (zdd m)):=zdb (call_dictD.or (call_dictP hc)) fun xs H Q ⟨mu,M,ts,t',M',R,r,e,q⟩=>by
 unfold zdd at e
 split at e
 ·obtain ⟨x,rfl,rt⟩:=r.one
  split at e
  ·rename_i hy
   obtain ⟨a,ws,rfl,ha,rl⟩:=zdV R rt hy
   exact .inl ⟨a,ws,rfl,ha,fun l hl=>zjO (t := .dct _) m R hl rl (Option.some.inj e) q⟩
  ·rename_i hy
   obtain ⟨a,vs,rfl,ha,rl⟩:=zcU R rt hy
   split at e
   ·rename_i ps hp
    obtain ⟨as,kvs,rfl,pp,rd⟩:=zjQ hK rl hp
    exact .inr ⟨a,as,kvs,rfl,.inl ha,pp,fun l hl=>zjO (t := .dct _) m R hl (RepD.merge rd .nil) (Option.some.inj e) q⟩
   ·cases e
  ·cases e
 ·cases e
def tyT (M:Mem) (t:T):Option String:=match t with
 | .non=>some "NoneType"
 | .bl _=>some "bool"
 | .int _=>some "int"
 | .str _=>some "str"
 | .tup _=>some "tuple"
 | t=>(match der M t with
  | .lst _=>some "list"
  | .dct _=>some "dict"
  | _=>none)
theorem zg5 (hK:C.K=X.K) {t:T} {x:V} {n:String} (R:RM C mu M H) (r:Rep C mu H t x) (e:tyT M t=some n):TyX X.K H x (.type n):=by
 have rest:(match der M t with
  | .lst _=>some "list"
  | .dct _=>some "dict"
  | _=>none)=some n→TyX X.K H x (.type n):=fun e=>by
  split at e
  ·rename_i hy
   obtain ⟨a,vs,rfl,ha,rl⟩:=zcU R r hy
   cases e
   rcases ha with ha | ⟨o,ha⟩
   ·exact .base (.lst ha)
   ·exact .base (.frz ha)
  ·rename_i hy
   obtain ⟨a,ws,rfl,ha,rl⟩:=zdV R r hy
   cases e
   rcases ha with ha | ⟨o,ha⟩
   ·exact .base (.dK ha)
   ·exact .fDict ha
  ·cases e
 cases t with
 | non=>cases r; cases e; exact .base .non
 | bl b=>cases r; cases e; exact .base (.bl b)
 | int i=>cases r; cases e; exact .base (.int i)
 | str z=>cases r; cases e; exact .base (.str z)
 | tup xs=>
  obtain ⟨a,vs,rfl,f,rl⟩:=r.tupI
  cases e
  rcases f with f | ⟨o,its,n,h1,h2,_⟩
  ·exact .base (.tup f.1)
  ·rw [hK] at h1; exact .kTuple h1 h2
 | _=>exact rest e
def zfJ:List T→Option (List String)
 | []=>some []
 | .ty n :: r=>(zfJ r).map fun l=>n :: l
 | _=>none
theorem zg6:∀ {ts:List T} {vs:List V} {ns:List String},RepL C mu H ts vs→zfJ ts=some ns→Paired ClsV vs (ns.map Value.type)
 | _,_,_,.nil,e=>by cases e; exact .nil
 | _,_,_,@RepL.cons _ _ _ t v ts vs h r,e=>by
  cases h with
  | ty i=>
   obtain ⟨l,h1,h2⟩:=Option.map_eq_some_iff.mp (show (zfJ ts).map (fun l=>i :: l)=some _ from e)
   rw [← h2]
   exact .cons (.ty i) (zg6 r h1)
  | _=>cases e
def zfK (a:String):List String→Option Bool
 | []=>some false
 | c :: r=>match kitB a c with
  | some true=>some true
  | some false=>zfK a r
  | none=>none
theorem zg7 {K:PySem.W.Frag} {a:String}:∀ {l:List String} {b:Bool},zfK a l=some b→PySem.W.kitAny K (.type a) (l.map Value.type)=some b
 | [],b,h=>h
 | c :: r,b,h=>by
  unfold zfK at h
  cases e:kitB a c with
  | none=>rw [e] at h; cases h
  | some k=>
   rw [e] at h
   refine kitAny_cons (kit_ty e) (fun hk=>?_) fun hk=>?_
   ·subst hk; exact zg7 h
   ·subst hk; cases h; rfl
def za5:OpN:=fun ts M=>match ts with
 | [t,.ty n]=>(match tyT M t with
  | some a=>(kitB a n).map fun b=>(.bl b,M)
  | none=>none)
 | [t,.tup us]=>(match tyT M t,zfJ us with
  | some a,some l=>(zfK a l).map fun b=>(.bl b,M)
  | _,_=>none)
 | _=>none
theorem zd0 (hK:C.K=X.K):CallR X (.builtin "isinstance") (rN C za5):=zdb (call_isi.or (call_isiT.or call_isiK)) fun xs H Q ⟨mu,M,ts,t',M',R,r,e,q⟩=>by
 unfold za5 at e
 split at e
 ·obtain ⟨x,y,rfl,r1,r2⟩:=r.two
  split at e
  ·rename_i a ha
   obtain ⟨b,h1,h2⟩:=Option.map_eq_some_iff.mp e
   cases h2; cases r2
   exact .inl ⟨x,_,_,_,b,rfl,.ty _,zg5 hK R r1 ha,kit_ty h1,q mu _ H R Ext.refl (.bl _)⟩
  ·cases e
 ·obtain ⟨x,y,rfl,r1,r2⟩:=r.two
  split at e
  ·rename_i a l ha hl
   obtain ⟨b,h1,h2⟩:=Option.map_eq_some_iff.mp e
   cases h2
   obtain ⟨tp,vs,rfl,f,rl⟩:=r2.tupI
   rcases f with f | ⟨o,its,n,h3,h4,h5,_,h6⟩
   ·exact .inr (.inl ⟨x,tp,vs,_,_,b,rfl,f.1,zg6 rl hl,zg5 hK R r1 ha,zg7 h1,q mu _ H R Ext.refl (.bl _)⟩)
   ·have kl:=zg6 rl hl
    have e3:=ClsV.all kl h6
    obtain ⟨oc,od,dt,sl⟩:=o
    simp only at h4 h5
    subst h4 h5
    rw [hK] at h3
    exact .inr (.inr ⟨x,tp,od,(l.map Value.type),n,sl,_,b,rfl,by rw [← e3]; exact h3,zg5 hK R r1 ha,zg7 h1,q mu _ H R Ext.refl (.bl _)⟩)
  ·cases e
 ·cases e
end
end Z
end
section
namespace Z
open PySem PySem.Spec PyProof.Rows L2 PySem.SeqAt
def rM (C:Cfg) (g:OpM):V→List V→Hp→VK→Prop:=fun x vs H Q => ∃ mu M t ts t' M',RM C mu M H∧Rep C mu H t x∧RepL C mu H ts vs∧g t ts M=some (t',M') ∧
 ∀ mu' v H',RM C mu' M' H'→Ext C mu H mu' H'→Rep C mu' H' t' v→Q v H'
section
variable {X:Cx} {C:Cfg} {W:WX} {mu:Mu} {M M':Mem} {H:Hp} {t':T} {Q:VK}
def cellOf (M:Mem) (t:T):Option (Nat × T):=match t with
 | .cel i=>(match M[i]? with
  | some (.live u)=>some (i,u)
  | _=>none)
 | _=>none
theorem zjR {t u:T} {i:Nat} {v:V} (R:RM C mu M H) (r:Rep C mu H t v) (e:cellOf M t=some (i,u)):∃ a o,v = .ref a∧M[i]?=some (.live u)∧mu[i]?=some (some a)∧H a=some o∧CU C mu H u o:=by
 cases r with
 | cel hi hv=>
  rename_i j
  unfold cellOf at e
  simp only at e
  split at e
  ·rename_i w hw
   cases e
   obtain ⟨a,o,h1,h2,h3⟩:=R.cell _ _ hw
   exact ⟨a,o,hv a h1,hw,h1,h2,h3⟩
  ·cases e
 | _=>cases e
theorem znV {t:T} {xs:List T} {i:Nat} {v:V} (R:RM C mu M H) (r:Rep C mu H t v) (e:cellOf M t=some (i,.lst xs)):∃ a vs,v = .ref a∧M[i]?=some (.live (.lst xs))∧mu[i]?=some (some a)∧H a=some (.lst vs)∧RepL C mu H xs vs:=by
 obtain ⟨a,o,h1,h2,h3,h4,h5⟩:=zjR R r e
 unfold CU at h5
 split at h5
 ·rename_i q; cases q; exact ⟨a,_,h1,h2,h3,h4,h5⟩
 ·rename_i q; cases q
 ·rename_i q; cases q
 ·exact h5.elim
theorem znW {t:T} {ks:List (Str × T)} {i:Nat} {v:V} (R:RM C mu M H) (r:Rep C mu H t v) (e:cellOf M t=some (i,.dct ks)):∃ a ws,v = .ref a∧M[i]?=some (.live (.dct ks))∧mu[i]?=some (some a)∧H a=some (.dK ws)∧RepD C mu H ks ws:=by
 obtain ⟨a,o,h1,h2,h3,h4,h5⟩:=zjR R r e
 unfold CU at h5
 split at h5
 ·rename_i q; cases q
 ·rename_i q; cases q; exact ⟨a,_,h1,h2,h3,h4,h5⟩
 ·rename_i q; cases q
 ·exact h5.elim
theorem znX {i:Nat} {a:Addr} {xs ys:List T} {ws:List V} {v:V} (R:RM C mu M H) (hi:M[i]?=some (.live (.lst xs))) (ha:mu[i]?=some (some a)) (r:RepL C mu H ys ws) (e:(t',M.set i (.live (.lst ys)))=(t',M'))
  (rv:Rep C mu H t' v) (q:∀ mu' v H',RM C mu' M' H'→Ext C mu H mu' H'→Rep C mu' H' t' v→Q v H'):Q v (upd H a (.lst ws)):=by
 obtain ⟨R',E'⟩:=R.write (t' := .lst ys) (u := .lst ws) hi ha r
 cases e
 exact q mu _ _ R' E' (rv.mono E'.rx)
theorem zjS {id:String} {r r':V→List V→Hp→VK→Prop} (h:MtR X id r) (w:∀ x xs H Q,r' x xs H Q→r x xs H Q):MtR X id r':=fun pins s σ H x xs v us Q I rx rs q=>h pins s σ H x xs v us Q I rx rs (w x xs H Q q)
theorem MtR.or {id:String} {r r':V→List V→Hp→VK→Prop} (h:MtR X id r) (h':MtR X id r'):MtR X id (fun x xs H Q=>r x xs H Q∨r' x xs H Q):=fun pins s σ H x xs v us Q I rx rs q=>by
 rcases q with q | q
 ·exact h pins s σ H x xs v us Q I rx rs q
 ·exact h' pins s σ H x xs v us Q I rx rs q
def zbo:OpM:=fun t ts M=>match ts with
 | [y]=>(match cellOf M t with
  | some (i,.lst xs)=>if xs.length < LIM then some (.non,M.set i (.live (.lst (xs ++ [y])))) else none
  | _=>none)
 | _=>none
theorem zg8:MtR X "list.append" (rM C zbo):=zjS mt_append fun x vs H Q ⟨mu,M,t,ts,t',M',R,rt,rs,e,q⟩=>by
 unfold zbo at e
 split at e
 ·obtain ⟨y,rfl,ry⟩:=rs.one
  split at e
  ·rename_i i xs hx
   obtain ⟨a,vs,rfl,h1,h2,h3,rl⟩:=znV R rt hx
   split at e
   ·rename_i hz
    have e':=Option.some.inj e
    have et:T.non=t':=congrArg Prod.fst e'
    subst et
    exact ⟨a,vs,y,rfl,rfl,h3,by rw [← zbC,← rl.length]; exact hz,znX R h1 h2 (rl.append (.cons ry .nil)) e' .non q⟩
   ·cases e
  ·cases e
 ·cases e
def znY:OpM:=fun t ts M=>match ts with
 | [.int j,y]=>(match cellOf M t with
  | some (i,.lst xs)=>if xs.length < LIM∧0≤j∧j < 2 ^ 63 then some (.non,M.set i (.live (.lst (xs.take j.toNat ++ [y] ++ xs.drop j.toNat)))) else none
  | _=>none)
 | _=>none
def zg9:OpM:=fun t ts M=>match ts with
 | [.str k]=>(match der M t with
  | .dct ks=>some ((ks.lookup k).getD .non,M)
  | _=>none)
 | [.str k,d]=>(match der M t with
  | .dct ks=>some ((ks.lookup k).getD d,M)
  | _=>none)
 | _=>none
def zjT (ks:List (Str × T)) (k:Str):List (Str × T):=ks.filter fun p => !(p.1 == k)
theorem RepD.drop (k:Str):∀ {ks:List (Str × T)} {ws:List (Key × V)},RepD C mu H ks ws→RepD C mu H (zjT ks k) (dropK ws (.inr k))
 | _,_,.nil => .nil
 | _,_,@RepD.cons _ _ _ k' t' v' ks vs h r=>by
  unfold zjT dropK
  rw [List.filter_cons,List.filter_cons]
  by_cases e:k'=k
  ·subst e
   simp only [beq_self_eq_true,Bool.not_true,ne_eq,not_true,decide_false,Bool.false_eq_true,if_false]
   exact r.drop k'
  ·have e2:¬ ((.inr k':Key) = .inr k):=fun z=>e (Sum.inr.inj z)
   have e1:(k' == k)=false:=by simpa using e
   simp only [e1,Bool.not_false,ne_eq,e2,not_false_eq_true,decide_true,if_true]
   exact .cons h (r.drop k)
def zd1:OpM:=fun t ts M=>match t,ts with
 | .str a,[y]=>(match (match y with
   | .tup xs=>zcA xs
   | y=>(listOf M y).bind zcA) with
  | some ys=>if (ys.map (·.length)).sum + ys.length * a.length≤16777216 then some (.str (Txt.join a ys),M) else none
  | none=>none)
 | _,_=>none
theorem znZ (hK:C.K=X.K):MtR X "str.join" (rM C zd1):=zjS mt_join fun x vs H Q ⟨mu,M,t,ts,t',M',R,rt,rs,e,q⟩=>by
 unfold zd1 at e
 split at e
 ·rename_i a y
  obtain ⟨z,rfl,rz⟩:=rs.one
  cases rt
  split at e
  ·rename_i ys hy
   split at e
   ·rename_i hz
    cases e
    split at hy
    ·obtain ⟨p,vs,rfl,f,rl⟩:=rz.tupI
     rw [zg0 rl hy] at f
     exact ⟨a,p,ys,rfl,rfl,.inr (hK ▸ f.sq),hz,q mu _ H R Ext.refl (.str _)⟩
    ·obtain ⟨p,rfl,hp⟩:=znS R rz hy
     exact ⟨a,p,ys,rfl,rfl,.inl (.inl hp),hz,q mu _ H R Ext.refl (.str _)⟩
   ·cases e
  ·cases e
 ·cases e
end
end Z
end
section
namespace Z
open PySem PySem.Spec PyProof.Rows L2 PySem.SeqAt
section
variable {C C':Cfg} {mu mu':Mu} {H:Hp}
end
section
variable {C:Cfg} {mu:Mu} {M:Mem} {H:Hp}
theorem RM.kill {i:Nat} {t:T} {a:Addr} {u:HO} (R:RM C mu M H) (hi:M[i]?=some (.live t)) (ha:mu[i]?=some (some a)) (hu:H a=some u):RM C (mu.set i none) (M.set i .dead) H∧Ext C mu H (mu.set i none) H∧Av C (mu.set i none) a:=by
 have il:i < mu.length:=(List.getElem?_eq_some_iff.mp ha).1
 have sub:∀ (j:Nat) (b:Addr),(mu.set i none)[j]?=some (some b)→mu[j]?=some (some b)∧j≠i:=fun j b q=>by
  by_cases hj:j=i
  ·subst hj; rw [List.getElem?_set_self il] at q; cases q
  ·rw [List.getElem?_set_ne (Ne.symm hj)] at q; exact ⟨q,hj⟩
 have mem:∀ b:Addr,some b∈mu.set i none→some b∈mu:=fun b h=>by
  obtain ⟨j,hj⟩:=List.getElem?_of_mem h
  exact List.mem_of_getElem? (sub j b hj).1
 have E:Ext C mu H (mu.set i none) H:=⟨by simp,fun j b _ q=>(sub j b q).1,fun _ _ h _=>h,fun _ _ h _ _=>h,fun _ _ h _ _=>h,fun b _ _ n z=>n (mem b z),fun _ o h _=>⟨o,h⟩⟩
 have ML:∀ (j:Nat) (c:Cell),(M.set i .dead)[j]?=some c→(j≠i∧M[j]?=some c)∨(j=i∧c = .dead):=fun j c q=>by
  by_cases hj:j=i
  ·subst hj; rw [List.getElem?_set_self (List.getElem?_eq_some_iff.mp hi).1] at q; exact .inr ⟨rfl,(Option.some.inj q).symm⟩
  ·rw [List.getElem?_set_ne (Ne.symm hj)] at q; exact .inl ⟨hj,q⟩
 refine ⟨⟨by simpa using R.len,fun j t' q=>?_,fun j t' q=>?_,fun j q=>?_,fun j k b h1 h2=>R.inj j k b (sub j b h1).1 (sub k b h2).1,R.hid,fun b hb=>R.nh b (mem b hb),R.tabs,R.nht⟩,E,fun z=>?_,R.nh a (List.mem_of_getElem? ha)⟩
 ·rcases ML j _ q with ⟨hj,q⟩ | ⟨_,q⟩
  ·obtain ⟨b,w,h1,h2,h3⟩:=R.cell j t' q
   exact ⟨b,w,by rw [List.getElem?_set_ne (Ne.symm hj)]; exact h1,h2,h3.mono E⟩
  ·cases q
 ·rcases ML j _ q with ⟨hj,q⟩ | ⟨_,q⟩
  ·obtain ⟨b,od,w,h1,h2,h3⟩:=R.lock j t' q
   exact ⟨b,od,w,by rw [List.getElem?_set_ne (Ne.symm hj)]; exact h1,h2,h3.mono E⟩
  ·cases q
 ·rcases ML j _ q with ⟨hj,q⟩ | ⟨hj,q⟩
  ·rw [List.getElem?_set_ne (Ne.symm hj)]; exact R.dead j q
  ·subst hj; rw [List.getElem?_set_self il]
 ·obtain ⟨j,hj⟩:=List.getElem?_of_mem z
  obtain ⟨h1,h2⟩:=sub j a hj
  exact h2 (R.inj j i a h1 ha)
def zeL (C:Cfg) (f:T→Mem→Option (T × Mem)):Prop := ∀ (t:T) (M M':Mem) (t':T) (mu:Mu) (H:Hp) (v:V),RM C mu M H→Rep C mu H t v→f t M=some (t',M')→∃mu',RM C mu' M' H∧Ext C mu H mu' H∧Rep C mu' H t' v
theorem zha {f:T→Mem→Option (T × Mem)} (hf:zeL C f):∀ {ts ts':List T} {vs:List V} {M M':Mem} {mu:Mu},RM C mu M H→RepL C mu H ts vs→zdq f ts M=some (ts',M')→∃mu',RM C mu' M' H∧Ext C mu H mu' H∧RepL C mu' H ts' vs
 | [],_,_,_,_,_,R,r,e=>by
  cases r; cases e; exact ⟨_,R,Ext.refl,.nil⟩
 | t :: ts,_,_,M,_,_,R,r,e=>by
  cases r with
  | cons h q=>
   unfold zdq at e
   split at e
   ·rename_i t' M1 e1
    split at e
    ·rename_i r' M2 e2
     cases e
     obtain ⟨mu1,R1,E1,r1⟩:=hf _ _ _ _ _ _ _ R h e1
     obtain ⟨mu2,R2,E2,r2⟩:=zha hf R1 (q.mono E1) e2
     exact ⟨mu2,R2,E1.trans E2,.cons (r1.mono E2) r2⟩
    ·cases e
   ·cases e
theorem zjU {f:T→Mem→Option (T × Mem)} (hf:zeL C f):∀ {ts ts':List (Str × T)} {vs:List (Key × V)} {M M':Mem} {mu:Mu},RM C mu M H→RepD C mu H ts vs→zb7 f ts M=some (ts',M')→∃mu',RM C mu' M' H∧Ext C mu H mu' H∧RepD C mu' H ts' vs
 | [],_,_,_,_,_,R,r,e=>by
  cases r; cases e; exact ⟨_,R,Ext.refl,.nil⟩
 | t :: ts,_,_,M,_,_,R,r,e=>by
  cases r with
  | cons h q=>
   unfold zb7 at e
   split at e
   ·rename_i t' M1 e1
    split at e
    ·rename_i r' M2 e2
     cases e
     obtain ⟨mu1,R1,E1,r1⟩:=hf _ _ _ _ _ _ _ R h e1
     obtain ⟨mu2,R2,E2,r2⟩:=zjU hf R1 (q.mono E1) e2
     exact ⟨mu2,R2,E1.trans E2,.cons (r1.mono E2) r2⟩
    ·cases e
   ·cases e
theorem zhb {f:T→Mem→Option (T × Mem)} (hf:zeL C f):∀ {ts ts':List (Str × T)} {vs:List (Str × V)} {M M':Mem} {mu:Mu},RM C mu M H→RepF C mu H ts vs→zb7 f ts M=some (ts',M')→∃mu',RM C mu' M' H∧Ext C mu H mu' H∧RepF C mu' H ts' vs
 | [],_,_,_,_,_,R,r,e=>by
  cases r; cases e; exact ⟨_,R,Ext.refl,.nil⟩
 | t :: ts,_,_,M,_,_,R,r,e=>by
  cases r with
  | cons h q=>
   unfold zb7 at e
   split at e
   ·rename_i t' M1 e1
    split at e
    ·rename_i r' M2 e2
     cases e
     obtain ⟨mu1,R1,E1,r1⟩:=hf _ _ _ _ _ _ _ R h e1
     obtain ⟨mu2,R2,E2,r2⟩:=zhb hf R1 (q.mono E1) e2
     exact ⟨mu2,R2,E1.trans E2,.cons (r1.mono E2) r2⟩
    ·cases e
   ·cases e
theorem zhc:∀ n:Nat,zeL C (frz n)
 | 0=>fun _ _ _ _ _ _ _ _ _ e=>by cases e
 | n + 1=>fun t M M' t' mu H v R r e=>by
  have ih:zeL C (frz n):=zhc n
  cases r with
  | lst h r=>
   obtain ⟨⟨xs',M1⟩,h1,h2⟩:=Option.map_eq_some_iff.mp e
   cases h2
   obtain ⟨mu1,R1,E1,r1⟩:=zha ih R r h1
   exact ⟨mu1,R1,E1,.lst ⟨h.1,E1.av h.1 h.2⟩ r1⟩
  | tup h r=>
   obtain ⟨⟨xs',M1⟩,h1,h2⟩:=Option.map_eq_some_iff.mp e
   cases h2
   obtain ⟨mu1,R1,E1,r1⟩:=zha ih R r h1
   exact ⟨mu1,R1,E1,.tup (h.elim (fun h => .inl ⟨h.1,E1.av h.1 h.2⟩) .inr) r1⟩
  | dct h r=>
   obtain ⟨⟨xs',M1⟩,h1,h2⟩:=Option.map_eq_some_iff.mp e
   cases h2
   obtain ⟨mu1,R1,E1,r1⟩:=zjU ih R r h1
   exact ⟨mu1,R1,E1,.dct ⟨h.1,E1.avR h.1 h.2⟩ r1⟩
  | ins h r=>
   obtain ⟨⟨xs',M1⟩,h1,h2⟩:=Option.map_eq_some_iff.mp e
   cases h2
   obtain ⟨mu1,R1,E1,r1⟩:=zhb ih R r h1
   exact ⟨mu1,R1,E1,.ins ⟨E1.obj _ _ h.1 h.2.1 rfl,E1.av h.1 h.2⟩ r1⟩
  | exc hx h q r=>
   obtain ⟨⟨xs',M1⟩,h1,h2⟩:=Option.map_eq_some_iff.mp e
   cases h2
   obtain ⟨mu1,R1,E1,r1⟩:=zhb ih R r h1
   exact ⟨mu1,R1,E1,.exc (hx.mono E1) (E1.obj _ _ h q.1 rfl) (E1.av h q) r1⟩
  | cel hi hv=>
   rename_i i
   unfold frz at e
   simp only at e
   split at e
   ·rename_i u hu
    obtain ⟨a,o,h1,h2,h3⟩:=R.cell i u hu
    obtain ⟨R1,E1,A1⟩:=R.kill hu h1 h2
    have ev:=hv a h1
    subst ev
    have c1:=h3.mono E1
    unfold CU at c1
    split at c1
    ·obtain ⟨mu2,R2,E2,r2⟩:=ih _ _ _ _ _ _ _ R1 (.lst ⟨h2,A1⟩ c1) e
     exact ⟨mu2,R2,E1.trans E2,r2⟩
    ·obtain ⟨mu2,R2,E2,r2⟩:=ih _ _ _ _ _ _ _ R1 (.dct ⟨.inl h2,A1⟩ c1) e
     exact ⟨mu2,R2,E1.trans E2,r2⟩
    ·obtain ⟨rfl,c1⟩:=c1
     obtain ⟨mu2,R2,E2,r2⟩:=ih _ _ _ _ _ _ _ R1 (.ins ⟨h2,A1⟩ c1) e
     exact ⟨mu2,R2,E1.trans E2,r2⟩
    ·exact c1.elim
   ·cases e
  | non=>cases e; exact ⟨mu,R,Ext.refl,.non⟩
  | bl b=>cases e; exact ⟨mu,R,Ext.refl,.bl b⟩
  | int i=>cases e; exact ⟨mu,R,Ext.refl,.int i⟩
  | str x=>cases e; exact ⟨mu,R,Ext.refl,.str x⟩
  | ty n=>cases e; exact ⟨mu,R,Ext.refl,.ty n⟩
  | ob x=>cases e; exact ⟨mu,R,Ext.refl,.ob x⟩
  | fz h r=>cases e; exact ⟨mu,R,Ext.refl,.fz h r⟩
  | dn h d r q=>cases e; exact ⟨mu,R,Ext.refl,.dn h d r q⟩
end
def za3:Nat:=20
def zcb (d:DE):DE:=fun s M=>(d s M).bind fun t M1=>lift (frz za3 t M1)
section
variable {C:Cfg} {X:Cx} {W:WX}
theorem zjV {e:Expr} {d:DE} (h:PE X e (TEz C W d)):PE X e (TEz C W (zcb d)):=
 zbf h fun σ H Q ⟨mu,s,M,R,S,P⟩=>⟨mu,s,M,R,S,P.bind fun t M1 mu1 x H1 R1 E1 r1 P1=>by
  cases e:frz za3 t M1 with
  | none=>rw [e] at P1; exact P1.elim
  | some p=>
   obtain ⟨t',M'⟩:=p
   rw [e] at P1
   obtain ⟨mu2,R2,E2,r2⟩:=zhc za3 _ _ _ _ _ _ _ R1 r1 e
   exact P1 mu2 x H1 R2 E2 r2⟩
end
end Z
end
section
namespace Z
open PySem PySem.Spec PyProof.Rows L2 PySem.SeqAt
theorem zn0 {CX:CXT} {P:Program} {w:World} {K:PySem.W.Frag} {mg:Str→Option Value} {base:Heap} {k:Nat} {f:Addr} {x qual:Str} {params:Arguments} {body:List Stmt} {scope:Scope} {dvs:List V} {kws:List (Str × V)} {fd:FuncData}
  {N ps:List Str} {sp:Sp} (F:FunD K x qual params body scope dvs kws f fd) (S:FnScope N ps scope) (len:∀ vs H Q E,sp vs H Q E→vs.length=ps.length)
  (hbody:∀ (cdv:Value) (A:Around) (outer:List Env) (s:Shared) (H:Hp) (vs:List V) (Q:VK) (E:XK),Room k (A.deeper (envOfC qual scope s.heap.objs.size f cdv))→A.guards=some []→sp vs H Q E →
   ∃ t,PSs (cxOf CX P w K mg base N qual scope f cdv A outer s H E) body t∧t {nx:=fun _ H'=>Q .non H',rt:=Q} (start N vs) H):FnG P w K mg base CX (k + 1) f fd ps sp:=by
 obtain ⟨oc,od,dV,kV,doc,pm,an,cdv,ct,osl,rfl,lk,hcd,_,_⟩:=F.ex
 refine ⟨len,fun A outer s H args us vs Q E hr hgu e0 hb r hsp=>?_⟩
 have hin:K.In s.heap:=e0.mod.kin.keeps fun b o e=>(e0.bs b o e).1
 have hpar:∀ y∈ps.zip us,scope.names.lookup y.1=some .local∨(scope.names.lookup y.1=some .cell∧((cellsFrom (s.heap.objs.size + 1) scope.names []).lookup y.1).isSome=true):=fun y hy=>by
  cases S.par y.1 (List.of_mem_zip (a:=y.1) (b:=y.2) hy).1 with
  | inl q=>exact .inl q
  | inr q=>exact .inr ⟨q,PySem.W.cellsFrom_some _ _ _ (.inl q)⟩
 refine codeAny_call_function hr.depth (hin _ _ lk) rfl S.co S.gen rfl (PySem.W.codeRec_of hin hcd) (hb _ _ _ _ (wpAny_newFunctionEnv_cells S.kind hpar fun env he s1 x=>?_))
 subst he
 refine ⟨(e0.mod.nolimit.keeps fun b o e=>(e0.bs b o e).1).keeps x.toInCall.keep,codeAny_func ?_⟩
 obtain ⟨t,ht,hq⟩:=hbody cdv A outer s H vs Q E (hr.deeper _) hgu hsp
 refine wpAny_mono (ht.run [] s1 (start N vs) H _ (inv_start S hr.hd e0 (len _ _ _ _ hsp) r x) hq) (fun fl s' hs=>?_) fun e s' hs=>hs
 cases fl with
 | ret u=>
  obtain ⟨v,_,H',J,rv,q⟩:=hs
  exact ⟨v,H',J.os,J.bare,J.base,J.hok,rv,q⟩
 | next=>
  obtain ⟨_,H',J,q⟩:=hs
  exact ⟨.non,H',J.os,J.bare,J.base,J.hok,rfl,q⟩
 | brk=>
  obtain ⟨_,_,_,q⟩:=hs
  exact q.elim
 | cont=>
  obtain ⟨_,_,_,q⟩:=hs
  exact q.elim
section
variable {X:Cx} {CX:CXT} {k:Nat} {f:Addr} {fd:FuncData} {ps:List Str} {sp:Sp} {ds:List Value} {dvs:List V}
theorem zn1 {E:XK} {pins:List (Addr × Obj)} {σ : L2.St} {H:Hp} {s:Shared} {Q:VK} {us:List Value} {vs:List V} (F:FnG X.prog X.w X.K X.mg X.base CX k f fd ps sp) (hr:Room k X.A) (hgu:X.A.guards=some []) (hb:Binds X.K fd ps ds) (hd:Vals dvs ds)
  (hx:PassesAt CX X σ E) (I:Inv X pins σ H s) (r:Vals vs us) (h:sp (vs ++ dvs) H Q E):wpAny (model X.prog X.w) X.A (call (.ref f) us) (EP X pins σ Q) X.xe s:=by
 have r2:Vals (vs ++ dvs) (us ++ ds):=r.append hd
 refine wpAny_call (codeAny_mono (F.run X.A X.stack s H ⟨us,[]⟩ (us ++ ds) (vs ++ dvs) Q E hr hgu I.env0 (hb s us I.kIn (by rw [← r2.length]; exact F.len _ _ _ _ h)) r2 h) fun r s' hq=>?_)
 cases r with
 | error e=>exact hx pins H s e s' I hq
 | ok fl=>
  cases fl with
  | ret u=>exact I.after hq
  | next=>exact hq.elim
  | brk=>exact hq.elim
  | cont=>exact hq.elim
end
def SpZ (C:Cfg) (n:Nat) (F:DF):Sp:=fun vs H Q E=>vs.length=n∧∃(hid:Addr→Prop) (mu:Mu) (M:Mem) (ts:List T),RM (C.with hid) mu M H∧RepL (C.with hid) mu H ts vs∧Post (C.with hid) mu H (F ts M) (RV (C.with hid)) Q E
def zaG (F:DF) (ts:List T) (M:Mem):Out T:=if zau ts=true then (match F ts [] with
 | .ok t _=>if zal t=true then .ok t M else .no
 | .er e _=>if za4 e.fs=true then .er e M else .no
 | .no => .no) else .no
def zak (n:Nat) (F:DF) (dts:List T) (da:DA):DE:=fun s M=>(da s M).bind fun ts M1=>if (ts ++ dts).length=n then zaG F (ts ++ dts) M1 else .no
section
variable {C:Cfg} {mu:Mu} {M:Mem} {H:Hp} {n:Nat} {F:DF} {Q:VK} {E:XK}
theorem zn2 {ts:List T} {vs:List V} (hl:ts.length=n) (R:RM C mu M H) (r:RepL C mu H ts vs) (P:Post C mu H (zaG F ts M) (RV C) Q E):SpZ C n F vs H Q E:=by
 unfold zaG at P
 by_cases c:zau ts=true
 ·rw [if_pos c] at P
  let hid:Addr→Prop:=fun a=>C.hid a∨some a∈mu
  have hA:∀ (a:Addr) (o:HO),H a=some o→Av C mu a→Av (C.with hid) [] a:=fun a o _ n=>⟨by simp,fun z=>z.elim n.2 n.1⟩
  have dom:∀ a:Addr,(C.with hid).hid a→∃o,H a=some o:=fun a z=>z.elim (R.hid a) R.mem
  -- back to the caller
  have back:∀ {mu':Mu} {H':Hp},Ext (C.with hid) [] H mu' H'→LamX.Tabs C.tb H'→(∀ a:Addr,hid a→NC C.tb H' a)→Ext C mu H mu H'∧RM C mu M H':=fun {mu' H'} x kt kn=>by
   have x':Ext C mu H mu H':=⟨Nat.le_refl _,fun _ _ _ h=>h,fun a u h _=>x.rd a u h (by simp),fun a o h _ d=>x.obj a o h (by simp) d,fun a o h _ d=>x.hid a o h (by simp) (.inl d),fun _ _ _ n=>n,fun a o h _=>x.ex a o h (by simp)⟩
   exact ⟨x',R.keep x' (fun a o hm h=>x.hid a o h (by simp) (.inr hm)) kt fun a h=>kn a (.inl h)⟩
  have bA:∀ {mu':Mu} {H':Hp},∀(a:Addr) (o:HO),H' a=some o→Av (C.with hid) mu' a→Av C mu a:=fun a o _ n=>⟨fun z=>n.2 (.inr z),fun z=>n.2 (.inl z)⟩
  refine ⟨by rw [← r.length]; exact hl,hid,[],[],ts,RM.nil dom R.tabs R.nhc,RepL.pure (C:=C) (C':=C.with hid) (mu:=mu) (mu' := []) rfl rfl hA c r,?_⟩
  cases e:F ts [] with
  | ok t M'=>
   rw [e] at P
   simp only at P
   by_cases ct:zal t=true
   ·rw [if_pos ct] at P
    intro mu' v H' R' x rv
    obtain ⟨x',R2⟩:=back x R'.tabs R'.nht
    exact P mu v H' R2 x' (Rep.pure (C:=C.with hid) (C':=C) (mu:=mu') rfl rfl (fun a o h n=>bA (H':=H') a o h n) ct rv)
   ·rw [if_neg ct] at P; exact P.elim
  | er er M'=>
   rw [e] at P
   simp only at P
   by_cases ct:za4 er.fs=true
   ·rw [if_pos ct] at P
    intro mu' cv d H' R' x rv
    obtain ⟨x',R2⟩:=back x R'.tabs R'.nht
    obtain ⟨h1,a,ws,h2,h3,h4,h5⟩:=rv
    exact P mu cv d H' R2 x' ⟨h1,a,ws,h2,h3,bA (H':=H') a _ h3 h4,RepF.pure (C:=C.with hid) (C':=C) (mu:=mu') rfl rfl (fun a o h n=>bA (H':=H') a o h n) ct h5⟩
   ·rw [if_neg ct] at P; exact P.elim
  | no=>rw [e] at P; exact P.elim
 ·rw [if_neg c] at P; exact P.elim
end
section
variable {X:Cx} {C:Cfg} {W:WX} {CX:CXT} {k n:Nat} {f:Addr} {fd:FuncData} {ps:List Str} {F:DF} {ds:List Value} {dvs:List V} {dts:List T} {x:Str} {p pos:Pos} {es:List Expr} {da:DA}
structure CalZ (X:Cx) (C:Cfg) (CX:CXT) (x:Str) (n:Nat) (F:DF) (dts:List T):Prop where
 ex:∃ (k:Nat) (f:Addr) (fd:FuncData) (ps:List Str) (ds:List Value) (dvs:List V),FnG X.prog X.w X.K X.mg X.base CX k f fd ps (SpZ C n F)∧Room k X.A∧X.A.guards=some []∧Gl X x∧X.mg x=some (.ref f)∧PySem.W.keepIn X.K (.ref f)=true ∧
  Binds X.K fd ps ds∧Vals dvs ds∧(∀ hid mu H,RepL (C.with hid) mu H dts dvs)∧(x == ("__debug__" : Str))=false
theorem zn3 {e:Expr} {d2:List T→Mem→Out T} (c:CalZ X C CX x n F dts) (hd2:∀ {mu M H ts vs Q E},RM C mu M H→RepL C mu H (ts ++ dts) vs→Post C mu H (d2 (ts ++ dts) M) (RV C) Q E→SpZ C n F vs H Q E)
  (hx:∀ σ,PassesAt CX X σ (WE W σ)) (ha:PA X (e :: es) (TAz C W da)) (he:starEach (e :: es) X.env=(false,eval e X.env) :: starEach es X.env) (hpl:(backTo pos (starEach es X.env)).any (·.1)=false) :
  PE X (.Call (.Name x p) (e :: es) [] pos) (TEz C W fun s M=>(da s M).bind fun ts M1=>d2 (ts ++ dts) M1):=by
 obtain ⟨k,f,fd,ps,ds,dvs,hF,hr,hgu,hg,hm,hk,hb,hd,rd,hdb⟩:=c.ex
 refine ⟨fun pins s σ H Q I ⟨mu,sg,M,R,S,P⟩=>wpAny_Call_Name_kw (ld_glob I hg hm ?_ hdb)⟩
 have t:(TAz C W da) σ H fun vs H1=>SpZ C n F (vs ++ dvs) H1 Q (WE W σ):=⟨mu,sg,M,R,S,P.bind fun ts M1 mu1 xs H1 R1 E1 r1 P1=>hd2 R1 (r1.append (rd C.hid mu1 H1)) P1⟩
 refine PySem.W.callWith_K (h₀ := X.base) I.ok.mod.kin hk (thn (ha.run pos pins s σ H _ I t) fun us s1 ⟨vs,H1,I1,r,q⟩=>⟨I1.kIn,?_⟩) he hpl
 exact zn1 hF hr hgu hb hd (hx σ) I1 r q
theorem zn4 {e:Expr} (c:CalZ X C CX x n F dts) (hx:∀ σ,PassesAt CX X σ (WE W σ)) (ha:PA X (e :: es) (TAz C W da)) (he:starEach (e :: es) X.env=(false,eval e X.env) :: starEach es X.env:=by rfl) (hpl:(backTo pos (starEach es X.env)).any (·.1)=false:=by rfl) :
  PE X (.Call (.Name x p) (e :: es) [] pos) (TEz C W (zak n F dts da)):=
 zn3 (d2:=fun ts M=>if ts.length=n then zaG F ts M else .no) c (fun {mu M H ts vs Q E} R r P=>by
  by_cases c:(ts ++ dts).length=n
  ·rw [if_pos c] at P; exact zn2 c R r P
  ·rw [if_neg c] at P; exact P.elim) hx ha he hpl
def zn5 (n:Nat) (F:DF) (dts:List T):DE:=fun _ M=>if dts.length=n then zaG F dts M else .no
theorem zn6 {id:String} {g:OpN} {e:Expr} (hc:CallR X (.builtin id) (rN C g)) (hg:Gl X x) (hm:X.mg x=none) (hv:bootBuiltins x=some (.builtin id)) (ha:PA X (e :: es) (TAz C W da)) (hn:x ≠ "__name__" := by decide) (hdb:(x == ("__debug__" : Str))=false:=by decide)
  (he:starEach (e :: es) X.env=(false,eval e X.env) :: starEach es X.env:=by rfl) (hpl:(backTo pos (starEach es X.env)).any (·.1)=false:=by rfl):PE X (.Call (.Name x p) (e :: es) [] pos) (TEz C W (dCall g da)):=
 zbf (pe_callB hc hg hm hv ha hn hdb he hpl) fun _ _ _ h=>zjG h
theorem zn7 {id:String} {g:OpN} {e:Expr} (hc:CallR X (.type id) (rN C g)) (hg:Gl X x) (hm:X.mg x=none) (hv:bootBuiltins x=some (.type id)) (ha:PA X (e :: es) (TAz C W da)) (hn:x ≠ "__name__" := by decide) (hdb:(x == ("__debug__" : Str))=false:=by decide)
  (he:starEach (e :: es) X.env=(false,eval e X.env) :: starEach es X.env:=by rfl) (hpl:(backTo pos (starEach es X.env)).any (·.1)=false:=by rfl):PE X (.Call (.Name x p) (e :: es) [] pos) (TEz C W (dCall g da)):=
 zbf (pe_callTy hc hg hm hv ha hn hdb he hpl) fun _ _ _ h=>zjG h
end
def tyM (M:Mem) (t:T):Option String:=match t with
 | .str _=>some "str"
 | t=>(match der M t with
  | .lst _=>some "list"
  | .dct _=>some "dict"
  | _=>none)
def zbc (ty:String) (g:OpM) (d:DE) (da:DA):DE:=fun s M=>(d s M).bind fun t M1=>if tyM M1 t=some ty then (da s M1).bind fun ts M2=>lift (g t ts M2) else .no
theorem zn8 {X:Cx} {C:Cfg} {mu:Mu} {M:Mem} {H:Hp} {pins:List (Addr × Obj)} {σ : L2.St} {s:Shared} {t:T} {x:V} {v:Value} {ty:String} (I:Inv X pins σ H s) (R:RM C mu M H) (r:Rep C mu H t x) (rx:RelV x v) (e:tyM M t=some ty) :
  s.TypeIs v ty∧∀a,v = .ref a→∃ob,s.heap.get? a=some ob∧ob.dict=none:=by
 have rest:(match der M t with
  | .lst _=>some "list"
  | .dct _=>some "dict"
  | _=>none)=some ty→s.TypeIs v ty∧∀a,v = .ref a→∃ob,s.heap.get? a=some ob∧ob.dict=none:=fun e=>by
  split at e
  ·rename_i hy
   obtain ⟨a,vs,rfl,ha,rl⟩:=zcU R r hy
   cases e
   exact tyV_is I rx (.inl ⟨rfl,_,.inl ha⟩)
  ·rename_i hy
   obtain ⟨a,ws,rfl,ha,rl⟩:=zdV R r hy
   cases e; cases rx
   obtain ⟨h1,h2,_⟩:=isD_at I (.inl ⟨_,ha⟩)
   exact ⟨h1,h2⟩
  ·cases e
 cases t with
 | str z=>
  cases r; cases e
  exact tyV_is I rx rfl
 | _=>exact rest e
section
variable {X:Cx} {C:Cfg} {W:WX} {name:Str} {apos cpos:Pos} {ty id:String} {g:OpM} {o:Expr} {es:List Expr} {d:DE} {da:DA}
theorem zfL {e:Expr} (pa:PlainAttrs ty) (slot:Slot ty name id) (hty:typeOf (.builtin id)=pure (.type "method_descriptor")) (hm:MtR X id (rM C g)) (ho:PE X o (TEz C W d)) (ha:PA X (e :: es) (TAz C W da))
  (hbase:attributeBase o name X.env (eval o X.env)=eval o X.env:=by rfl)
  (hfew:((backTo cpos (starEach (e :: es) X.env)).all (fun x => !x.1) && (backToKw cpos (keywordEach [] X.env)).all (fun x=>x.1.isSome)
   && decide ((e :: es).length + ([]:List Keyword).length + (if ([]:List Keyword).isEmpty then 0 else 1) < 30))=true:=by rfl)
  (hline:(apos.endLine == cpos.line)=true:=by rfl) (hs:starEach (e :: es) X.env=(false,eval e X.env) :: starEach es X.env:=by rfl) (hplain:(backTo cpos (starEach es X.env)).any (·.1)=false:=by rfl) :
  PE X (.Call (.Attribute o name apos) (e :: es) [] cpos) (TEz C W (zbc ty g d da)):=by
 refine ⟨fun pins s σ H Q I ⟨mu,sg,M,R,S,P⟩=>?_⟩
 refine wpAny_Call_method_late hbase hfew hline rfl (thn (ho.run pins s σ H (fun x H1 => ∃ mu1 M1 t,RM C mu1 M1 H1∧RS C mu1 H1 sg σ ∧ Rep C mu1 H1 t x∧tyM M1 t=some ty∧Post C mu1 H1 ((da sg M1).bind fun ts M2=>lift (g t ts M2)) (RV C) Q fun c dd H'=>W c dd σ H') I
  ⟨mu,sg,M,R,S,P.bind fun t M1 mu1 x H1 R1 E1 r1 P1=>?_⟩) fun v s1 ⟨x,H1,I1,r1,mu1,M1,t,R1,S1,rt,ht,P1⟩=>?_)
 ·by_cases c:tyM M1 t=some ty
  ·rw [if_pos c] at P1
   exact ⟨mu1,M1,t,R1,S.mono E1,r1,c,P1⟩
  ·rw [if_neg c] at P1; exact P1.elim
 ·obtain ⟨h1,h2⟩:=zn8 I1 R1 rt r1 ht
  refine ⟨ty,id,pa,slot,hty,h1,h2,?_⟩
  have hA:=ha.run cpos pins s1 σ H1 (fun xs H2=>rM C g x xs H2 Q) I1 ⟨mu1,sg,M1,R1,S1,P1.bind fun ts M2 mu2 xs H2 R2 E2 r2 P2=>?_⟩
  ·rw [hs] at hA ⊢
   refine Calls.callWith_builtin (by show (false || (backTo cpos (starEach es X.env)).any (·.1))=false; rw [hplain] <;> rfl) (Calls.evalArgs_plain ?_)
   exact thn hA fun us s2 ⟨vs,H2,I2,r2,q2⟩=>hm pins s2 σ H2 x vs v us Q I2 r1 r2 q2
  ·cases e2:g t ts M2 with
   | none=>rw [e2] at P2; exact P2.elim
   | some p=>
    obtain ⟨t',M'⟩:=p
    rw [e2] at P2
    exact ⟨mu2,M2,t,ts,t',M',R2,rt.mono E2,r2,e2,P2⟩
end
end Z
end
section
namespace Z
open PySem PySem.Spec PyProof.Rows L2 PySem.SeqAt
def OutS.then_ (o:OutS) (f:Sg→Mem→OutS):OutS:=match o with
 | .nx s M=>f s M
 | .rt t M => .rt t M
 | .bk s M => .bk s M
 | .ct s M => .ct s M
 | .er e s M => .er e s M
 | .no => .no
section
variable {α β : Type} {C:Cfg} {mu:Mu} {H:Hp} {o:Out α} {Rel:Mu→Hp → α → β → Prop} {kO : β → Hp→Prop} {D:Ends} {W:WX} {s:Sg} {σ : L2.St} {f : α → Mem→OutS}
end
def dNx:DS:=fun s M => .nx s M
def zag (a b:DS):DS:=fun s M=>(a s M).then_ b
def zaw (i:Nat) (d:DE):DS:=fun s M=>(d s M).toS s fun t M1 => .nx (s.set i (some t)) M1
def zaW (d:DE):DS:=fun s M=>(d s M).toS s fun _ M1 => .nx s M1
def zav (d:DE):DS:=fun s M=>(d s M).toS s fun t M1 => .rt t M1
def zn9:DS:=fun _ M => .rt .non M
def dIf (tc:DT) (a b:DS):DS:=fun s M=>(tc s M).toS s fun k M1=>if k=true then a s M1 else b s M1
def dPar (i j:Nat) (da:DA):DS:=fun s M=>(da s M).toS s fun ts M1=>match ts with
 | [t,u] => .nx ((s.set i (some t)).set j (some u)) M1
 | _ => .no
def zeM (i:Nat) (g:Op2) (d:DE):DS:=fun s M=>match s[i]? with
 | some (some x)=>(d s M).toS s fun y M1=>(lift (g x y M1)).toS s fun z M2 => .nx (s.set i (some z)) M2
 | _ => .no
def dBk:DS:=fun s M => .bk s M
def dCt:DS:=fun s M => .ct s M
def zdC:Nat→DT→DS→DS
 | 0,_,_=>fun _ _ => .no
 | n + 1,tc,b=>fun s M=>(tc s M).toS s fun k M1=>if k=true then (match b s M1 with
   | .nx s2 M2=>zdC n tc b s2 M2
   | .ct s2 M2=>zdC n tc b s2 M2
   | .bk s2 M2 => .nx s2 M2
   | .rt t M2 => .rt t M2
   | .er e s2 M2 => .er e s2 M2
   | .no => .no) else .nx s M1
def FUEL:Nat:=1000000000000
def zoa (tc:DT) (b:DS):DS:=zdC FUEL tc b
def zcY (t u v:T) (M:Mem):Option Mem:=match u with
 | .str k=>(match Z.cellOf M t with
  | some (i,.dct ks)=>if ks.length < LIM then some (M.set i (.live (.dct (putT ks k v)))) else none
  | _=>none)
 | _=>none
def zcj (dd dk dv:DE):DS:=fun s M=>(dv s M).toS s fun v M1=>(dd s M1).toS s fun t M2=>(dk s M2).toS s fun u M3=>match zcY t u v M3 with
 | some M4 => .nx s M4
 | none => .no
def zfM:Op2:=fun t u M=>match t,u with
 | .int a,.int b=>some (.int (a + b),M)
 | .str a,.str b=>if a.length + b.length≤LIM then some (.str (a ++ b),M) else none
 | _,_=>none
section
variable {X:Cx} {C:Cfg} {W:WX} {pos:Pos}
theorem s1a:PSs X [] (TSz C W dNx):=zfv pss_nil fun D σ H ⟨mu,s,M,R,S,P⟩=>P mu σ H R Ext.refl S
theorem zaR {st:Stmt} {rest:List Stmt} {a b:DS} (h1:PS X st (TSz C W a)) (h2:PSs X rest (TSz C W b)):PSs X (st :: rest) (TSz C W (zag a b)):=
 zfv (pss_cons h1 h2) fun D σ H ⟨mu,s,M,R,S,P⟩=>⟨mu,s,M,R,S,by
  unfold zag OutS.then_ at P
  cases e:a s M with
  | nx s1 M1=>
   rw [e] at P
   exact fun mu1 σ1 H1 R1 E1 S1=>⟨mu1,s1,M1,R1,S1,PostS.ext P E1⟩
  | rt t M1=>rw [e] at P; exact P
  | bk s1 M1=>rw [e] at P; exact P
  | ct s1 M1=>rw [e] at P; exact P
  | er e' s1 M1=>rw [e] at P; exact P
  | no=>rw [e] at P; exact P⟩
theorem sd {st:Stmt} {a:DS} (h1:PS X st (TSz C W a)):PSs X [st] (TSz C W a):=pss_one h1
theorem s1e {e:Expr} {d:DE} (h:PE X e (TEz C W d)) (hs:swapsWith e none pos.line X.env=pure false:=by rfl):PS X (.Expr e pos) (TSz C W (zaW d)):=
 zds (ps_expr h hs) fun D σ H ⟨mu,s,M,R,S,P⟩=>⟨mu,s,M,R,S,P.bind S fun t M1 mu1 x H1 R1 E1 r1 P1=>P1 mu1 σ H1 R1 Ext.refl (S.mono E1)⟩
theorem s_ret {e:Expr} {d:DE} (h:PE X e (TEz C W d)):PS X (.Return (some e) pos) (TSz C W (zav d)):=
 zds (ps_ret h) fun D σ H ⟨mu,s,M,R,S,P⟩=>⟨mu,s,M,R,S,P.bind S fun t M1 mu1 x H1 R1 E1 r1 P1=>P1 mu1 x H1 R1 Ext.refl r1⟩
theorem s_if {c:Expr} {p q:List Stmt} {tc:DT} {a b:DS} (hc:PT X c (TTz C W tc)) (ha:PSs X p (TSz C W a)) (hb:PSs X q (TSz C W b)):PS X (.If c p q pos) (TSz C W (dIf tc a b)):=
 zds (ps_if hc ha hb) fun D σ H ⟨mu,s,M,R,S,P⟩=>⟨mu,s,M,R,S,P.bind S fun k M1 mu1 x H1 R1 E1 r1 P1=>by
  cases r1
  cases k with
  | true=>exact iteT ⟨mu1,s,M1,R1,S.mono E1,P1⟩
  | false=>exact iteF ⟨mu1,s,M1,R1,S.mono E1,P1⟩⟩
theorem s_asg {i:Nat} {x:Str} {e:Expr} {d:DE} {p:Pos} (hN:X.N.Nodup) (hi:X.N[i]?=some x) (hx:Loc X.env.scope x) (hf:X.fn x=true∨X.env.scope.names.lookup x=some .local) (h:PE X e (TEz C W d))
  (hs:swapsWith e (some (.Name x p)) pos.line X.env=pure false):PS X (.Assign [.Name x p] e pos) (TSz C W (zaw i d)):=
 zds (ps_set hN hi hx h hs hf) fun D σ H ⟨mu,s,M,R,S,P⟩=>⟨mu,s,M,R,S,P.bind S fun t M1 mu1 x H1 R1 E1 r1 P1=>P1 mu1 _ H1 R1 Ext.refl ((S.mono E1).set i r1)⟩
theorem zob {o i value:Expr} {dd dk dv:DE} {pos':Pos} (hu:X.A.units + 1 < cLine) (ho:PE X o (TEz C W dd)) (hi:PE X i (TEz C W dk)) (hv:PE X value (TEz C W dv)) (hs:swapsWith value (some (.Subscript o i pos')) pos.line X.env=pure false) :
  PS X (.Assign [.Subscript o i pos'] value pos) (TSz C W (zcj dd dk dv)):=
 zds (ps_dput hu ho hi hv hs) fun D σ H ⟨mu,s,M,R,S,P⟩=>⟨mu,s,M,R,S,PostS.bind P S fun v M1 mu1 x1 H1 R1 E1 r1 P1=>by
  refine ⟨mu1,s,M1,R1,S.mono E1,PostS.bind P1 (S.mono E1) fun t M2 mu2 x2 H2 R2 E2 r2 P2=>?_⟩
  refine ⟨mu2,s,M2,R2,(S.mono E1).mono E2,PostS.bind P2 ((S.mono E1).mono E2) fun u M3 mu3 x3 H3 R3 E3 r3 P3=>?_⟩
  have S3:=((S.mono E1).mono E2).mono E3
  have rv:=(r1.mono E2).mono E3
  have rt:=r2.mono E3
  unfold zcY at P3
  split at P3
  ·rename_i M4 h4
   split at h4
   ·rename_i k
    split at h4
    ·rename_i j ks hc
     split at h4
     ·rename_i hz
      cases h4
      obtain ⟨a,ws,rfl,h1,h2,h3,r⟩:=znW R3 rt hc
      cases r3
      obtain ⟨R',E'⟩:=R3.write (t' := .dct (putT ks k v)) (u := .dK (putK ws (.inr k) x1)) h1 h2 (r.put rv)
      exact ⟨a,_,rfl,.inl ⟨ws,.inr k,h3,rfl,by rw [← zbC,← r.length]; exact hz,rfl⟩,P3 mu3 σ _ R' E' (S3.mono E')⟩
     ·cases h4
    ·cases h4
   ·cases h4
  ·exact P3.elim⟩
end
end Z
end
section
namespace Z
open PySem PySem.Spec PyProof.Rows L2 PySem.SeqAt
def iZ (C:Cfg) (W:WX) (di:DA):TI:=fun σ H R => ∃ mu s M,RM C mu M H∧RS C mu H s σ ∧ Post C mu H (di s M) (fun mu' H' ts J=>WkA C mu' H' ts J) R fun c dd H'=>W c dd σ H'
theorem PI.or {X:Cx} {tg e:Expr} {w1 w2:TI} (h1:PI X tg e w1) (h2:PI X tg e w2):PI X tg e (fun σ H R=>w1 σ H R∨w2 σ H R):=⟨fun pins s σ H R I h=>h.elim (h1.run pins s σ H R I) (h2.run pins s σ H R I)⟩
theorem zhd {X:Cx} {tg e:Expr} {w1 w2:TI} (h:PI X tg e w1) (w:∀ σ H R,w2 σ H R→w1 σ H R):PI X tg e w2:=⟨fun pins s σ H R I q=>h.run pins s σ H R I (w σ H R q)⟩
section
variable {C:Cfg} {mu mu':Mu} {M:Mem} {H H':Hp} {ts:List T} {a:Addr} {vs:List V}
theorem zjW (h:∃ u,(H a=some u∧(u = .lst vs∨∃o,u = .frz o (.lst vs)))∧Av C mu a) (r:RepL C mu H ts vs):WkA C mu H ts (Itl C.K a):=fun hid hA i mu2 M2 H2 R2 E2=>by
 obtain ⟨u,⟨hu,hv⟩,av⟩:=h
 have r2:RepL (C.with hid) mu2 H2 ts vs:=(RepL.hide (C:=C) (C':=C.with hid) rfl rfl hA r).mono E2
 have hd:noD u=true:=by rcases hv with rfl | ⟨o,rfl⟩ <;> rfl
 have h2:H2 a=some u:=E2.obj a u hu (hA a u hu av).1 hd
 have sq:SqL C.K H2 a vs:=by
  rcases hv with rfl | ⟨o,rfl⟩
  ·exact .inl (.inl h2)
  ·exact .inl (.inr ⟨o,h2⟩)
 refine ⟨fun hi=>?_,fun hi=>⟨vs,sq,by rw [← r.length]; exact Nat.le_of_eq hi.symm⟩⟩
 obtain ⟨v,g1,g2⟩:=r2.get (i:=i) (t:=ts[i]) (by simp [hi])
 refine ⟨⟨vs,v,sq,g1⟩,fun x H3 ⟨e3,hx⟩=>?_⟩
 subst e3
 have:=hx vs sq
 rw [g1] at this
 cases this
 exact ⟨_,by simp [hi],R2,Ext.refl,g2⟩
theorem zoc (h:FT C mu H a vs) (r:RepL C mu H ts vs):WkA C mu H ts (Itt C.K a):=fun hid hA i mu2 M2 H2 R2 E2=>by
 have r2:RepL (C.with hid) mu2 H2 ts vs:=(RepL.hide (C:=C) (C':=C.with hid) rfl rfl hA r).mono E2
 have sq:SqT C.K H2 a vs:=by
  rcases h with h | h
  ·exact .inl (.inl (E2.obj a _ h.1 (hA a _ h.1 h.2).1 rfl))
  ·exact .inr h
 refine ⟨fun hi=>?_,fun hi=>⟨vs,sq,by rw [← r.length]; exact Nat.le_of_eq hi.symm⟩⟩
 obtain ⟨v,g1,g2⟩:=r2.get (i:=i) (t:=ts[i]) (by simp [hi])
 refine ⟨⟨vs,v,sq,g1⟩,fun x H3 ⟨e3,hx⟩=>?_⟩
 subst e3
 have:=hx vs sq
 rw [g1] at this
 cases this
 exact ⟨_,by simp [hi],R2,Ext.refl,g2⟩
def zbB (lo:Int) (n:Nat):List T:=(List.range n).map fun (k:Nat)=>T.int (lo + (k:Int))
theorem zod (lo:Int) (n:Nat):WkA C mu H (zbB lo n) (Itr lo n):=fun hid hA i mu2 M2 H2 R2 E2=>by
 have hl:(zbB lo n).length=n:=by unfold zbB; simp
 refine ⟨fun hi=>?_,fun hi=>by rw [hl] at hi; exact Nat.le_of_eq hi.symm⟩
 rw [hl] at hi
 refine ⟨hi,fun x H3 ⟨e3,hx⟩=>?_⟩
 subst e3 hx
 exact ⟨.int (lo + i),by unfold zbB; simp [hi],R2,Ext.refl,.int _⟩
def zcC (x:Str):List T:=x.cps.toList.map fun c => .str ⟨#[c]⟩
theorem zoe (x:Str):WkA C mu H (zcC x) (Its x):=fun hid hA i mu2 M2 H2 R2 E2=>by
 have hl:(zcC x).length=x.cps.size:=by unfold zcC; simp
 refine ⟨fun hi=>?_,fun hi=>by rw [hl] at hi; exact Nat.le_of_eq hi.symm⟩
 rw [hl] at hi
 refine ⟨hi,fun v H3 ⟨e3,c,hc,hx⟩=>?_⟩
 subst e3 hx
 refine ⟨.str ⟨#[c]⟩,?_,R2,Ext.refl,.str _⟩
 unfold zcC
 rw [List.getElem?_map,Array.getElem?_toList,hc]; rfl
def Lkd (C:Cfg) (mu:Mu) (H:Hp) (t:T) (v:V):Prop := ∀ ks,t = .dct ks→∃a od ws,v = .ref a∧H a=some (.frz od (.dK ws))∧Av C mu a∧RepD C mu H ks ws
theorem zof {ks:List (Str × T)} {ws:List (Key × V)} {od:Obj} (h:H a=some (.frz od (.dK ws))) (av:Av C mu a) (r:RepD C mu H ks ws):WkA C mu H (zca ks) (Itk a od ws):=fun hid hA i mu2 M2 H2 R2 E2=>by
 have h2:H2 a=some (.frz od (.dK ws)):=E2.obj a _ h (hA a _ h av).1 rfl
 have hl:(zca ks).length=ws.length:=by unfold zca; rw [List.length_map,r.length]
 refine ⟨fun hi=>?_,fun hi=>⟨h2,by rw [← hl]; exact Nat.le_of_eq hi.symm⟩⟩
 refine ⟨⟨h2,by rw [← hl]; exact hi⟩,fun x H3 ⟨e3,k,v,hk,hx⟩=>?_⟩
 subst e3 hx
 have rk:=r.kv (C:=C)
 obtain ⟨w,g1,g2⟩:=rk.get (i:=i) (t:=(zca ks)[i]) (by simp [hi])
 rw [List.getElem?_map,hk] at g1
 have:w=kV k:=(Option.some.inj g1).symm
 subst this
 have g3:Rep (C.with hid) mu2 H3 ((zca ks)[i]) (kV k):=(Rep.hide (C:=C) (C':=C.with hid) rfl rfl hA g2).mono E2
 exact ⟨_,by simp [hi],R2,Ext.refl,g3⟩
def zhe (ks:List (Str × T)):List T:=ks.map fun p=>p.2
def zeN (ks:List (Str × T)):List T:=ks.map fun p => .tup [.str p.1,p.2]
def zbj (ts:List T):List T:=ts.zipIdx.map fun p => .tup [.int (p.2:Int),p.1]
theorem zjX (h:∃ u,(H a=some u∧(u = .lst vs∨∃o,u = .frz o (.lst vs)))∧Av C mu a) (r:RepL C mu H ts vs):WkA C mu H (zbj ts) (Ite C.K a):=fun hid hA i mu2 M2 H2 R2 E2=>by
 obtain ⟨u,⟨hu,hv⟩,av⟩:=h
 have r2:RepL (C.with hid) mu2 H2 ts vs:=(RepL.hide (C:=C) (C':=C.with hid) rfl rfl hA r).mono E2
 have hd:noD u=true:=by rcases hv with rfl | ⟨o,rfl⟩ <;> rfl
 have h2:H2 a=some u:=E2.obj a u hu (hA a u hu av).1 hd
 have sq:SqL C.K H2 a vs:=by
  rcases hv with rfl | ⟨o,rfl⟩
  ·exact .inl (.inl h2)
  ·exact .inl (.inr ⟨o,h2⟩)
 have hl:(zbj ts).length=ts.length:=by unfold zbj; simp
 refine ⟨fun hi=>?_,fun hi=>⟨vs,sq,by rw [← r.length,← hl]; exact Nat.le_of_eq hi.symm⟩⟩
 rw [hl] at hi
 obtain ⟨v,g1,g2⟩:=r2.get (i:=i) (t:=ts[i]) (by simp [hi])
 refine ⟨⟨vs,v,sq,g1⟩,fun x H3 ⟨p,y,hx,hp,e3,hy⟩=>?_⟩
 subst e3 hx
 have:=hy vs sq
 rw [g1] at this
 cases this
 obtain ⟨R3,E3,r3⟩:=zdU R2 hp (.cons (.int (i:Nat)) (.cons g2 .nil))
 exact ⟨.tup [.int (i:Nat),ts[i]],by unfold zbj; simp [hi],R3,E3,r3⟩
end
def Itn (d:Addr) (o:Obj) (xs:List V):It:=
 ⟨fun i H=>H d=some (.frz o (.own 0))∧i < xs.length,fun i H x H'=>H'=H∧xs[i]?=some x,fun i H=>H d=some (.frz o (.own 0))∧xs.length≤i⟩
theorem zog {P:Program} {w:World} {K:PySem.W.Frag} {tg:Expr} {d:Addr} {o:Obj} {es:Array DictEntry} {ep:Nat} {xs ys:List V} (it:Addr) (D:DnO d o xs ys) (hod:o.data = .dict es ep):Turn P w K tg (Itn d o xs) [it] it (fun i h=>h.IsKeyIter it d i xs.length ep) where
 mem:=by simp
 obj:=fun i h st b hb=>by
  have e:b=it:=by simpa using hb
  subst e
  obtain ⟨oi,e,c,dd⟩:=st
  exact ⟨oi,e,fun v z=>by rw [dd] at z; cases z⟩
 keep:=fun i h h' st k=>st.at fun oi e=>k it (by simp) oi e
 item:=by
  intro X hP hw hK hc i pins s σ H E I hf st hg
  subst hP hw hK
  obtain ⟨hd,hi⟩:=hg
  obtain ⟨f0,f1,f2,f3,f4,f5⟩:=hf it (by simp)
  obtain ⟨es',ep',hx,hdt,hs,vk,vv⟩:=D
  obtain ⟨rfl,rfl⟩:=dict_ep hod hdt
  have hgd:s.heap.get? d=some o:=(I.hok d _ hd).1
  obtain ⟨v,hv⟩:∃ v,xs[i]?=some v:=⟨xs[i],List.getElem?_eq_getElem hi⟩
  obtain ⟨u,hu,ru⟩:=vk.get hv
  obtain ⟨en,hen,rfl⟩:∃ en,es'[i]?=some en∧en.key=u:=by
   rw [List.getElem?_map,Array.getElem?_toList] at hu
   obtain ⟨en,h1,h2⟩:=Option.map_eq_some_iff.mp hu
   exact ⟨en,h1,h2⟩
  have hsz:es'.size=xs.length:=by rw [vk.length]; simp
  refine next_key_item st hgd hdt hsz hen fun h' st' sb=>?_
  have I1:Inv X pins σ H {s with heap:=h'}:=I.turned (t':=s.toks) (fun b ob hb e=>(sb.2 b hb).trans e) f0 f1 f3 f4 f5
  obtain ⟨oi,e,c,dd⟩:=id st'
  exact ⟨en.key,rfl,go_of (s:={s with heap:=h'}) e c dd (by decide) ⟨v,H,I1,ru,⟨rfl,hv⟩,st',fun b hb=>(hf b hb).1⟩⟩
 done:=by
  intro X hP hw hK hc i pins s σ H E I hf st hg
  subst hP hw hK
  obtain ⟨hd,hi⟩:=hg
  obtain ⟨f0,f1,f2,f3,f4,f5⟩:=hf it (by simp)
  obtain ⟨es',ep',hx,hdt,hs,vk,vv⟩:=D
  obtain ⟨rfl,rfl⟩:=dict_ep hod hdt
  have hgd:s.heap.get? d=some o:=(I.hok d _ hd).1
  have hsz:es'.size=xs.length:=by rw [vk.length]; simp
  exact next_key_end (I.ok.hd hc) st hgd hdt hsz hi fun h' eb=>⟨rfl,I.turned (t':=s.toks) (fun b ob hb e=>eb b ob hb e) f0 f1 f3 f4 f5⟩
 self:=fun A i s Q E st h=>by
  refine wpAny_pyIter_slot st.typeIs F.slot_dict_keyiterator_iter (wpAny_call_entry F.slot_dict_keyiterator_iter st.typeIs F.entry_dict_keyiterator_iter ?_ (F.args_dict_keyiterator_iter_1 _))
  show wpAny _ _ (ret (.ref it)) _ _ s
  exact wpAny_pure ⟨_,rfl, "dict_keyiterator",_,st.typeIs,F.slot_dict_keyiterator_next.lookup,h⟩
def iKn (td:TE):TI:=fun σ H R=>td σ H fun x H1 => ∃ d o xs ys,x = .ref d∧H1 d=some (.frz o (.own 0))∧DnO d o xs ys∧R (Itn d o xs) H1
theorem zoh {X:Cx} {tg e:Expr} {td:TE} (he:PE X e td):PI X tg e (iKn td):=by
 refine ⟨fun pins s σ H R I h=>?_⟩
 refine thn (he.run pins s σ H _ I h) fun u s1 ⟨x,H1,I1,rx,d,o,xs,ys,ex,hd,D,q⟩=>?_
 subst ex
 obtain rfl:u=Value.ref d:=rx
 obtain ⟨es,ep,hx,hdt,hs,vk,vv⟩:=id D
 have hgd:s1.heap.get? d=some o:=(I1.hok d _ hd).1
 have hsz:es.size=xs.length:=by rw [vk.length]; simp
 refine iter_keys hs hgd hx hdt (pi_one (tk:=s1.toks) I1 _ (zog _ D hdt) ⟨_,Heap.get?_push_size _ rfl,rfl,?_⟩ q)
 rw [hsz] <;> rfl
theorem zoi {C:Cfg} {mu:Mu} {H:Hp} {a:Addr} {ks:List T} {xs:List V} {od:Obj} (h:H a=some (.frz od (.own 0))) (av:Av C mu a) (r:RepL C mu H ks xs):WkA C mu H ks (Itn a od xs):=fun hid hA i mu2 M2 H2 R2 E2=>by
 have h2:H2 a=some (.frz od (.own 0)):=E2.obj a _ h (hA a _ h av).1 rfl
 have hl:ks.length=xs.length:=r.length
 refine ⟨fun hi=>?_,fun hi=>⟨h2,by rw [← hl]; exact Nat.le_of_eq hi.symm⟩⟩
 refine ⟨⟨h2,by rw [← hl]; exact hi⟩,fun x H3 ⟨e3,hk⟩=>?_⟩
 subst e3
 obtain ⟨w,g1,g2⟩:=r.get (i:=i) (t:=ks[i]) (by simp [hi])
 rw [hk] at g1
 cases g1
 have g3:Rep (C.with hid) mu2 H3 (ks[i]) x:=(Rep.hide (C:=C) (C':=C.with hid) rfl rfl hA g2).mono E2
 exact ⟨_,by simp [hi],R2,Ext.refl,g3⟩
section
variable {X:Cx} {C:Cfg} {W:WX} {tg:Expr}
def tLk (td:TE):TE:=fun σ H Q=>td σ H fun x H1=>(∃ d ws,x = .ref d∧H1 d=some (.dK ws)∧∀od,Q x (upd H1 d (.frz od (.dK ws))))∨Q x H1
theorem zoj {e:Expr} {td:TE} (he:PE X e td):PE X e (tLk td):=⟨fun pins s σ H Q I h=>thn (he.run pins s σ H _ I h) fun u s1 ⟨x,H1,I1,r1,q⟩=>by
 rcases q with ⟨d,ws,rfl,hd,q⟩ | q
 ·obtain ⟨od,I2⟩:=I1.lock hd trivial
  exact ⟨_,_,I2,r1,q od⟩
 ·exact ⟨x,H1,I1,r1,q⟩⟩
def RLk (C:Cfg):Mu→Hp→T→V→Prop:=fun mu H t v=>Rep C mu H t v∧Lkd C mu H t v
def TEk (C:Cfg) (W:WX) (d:DE):TE:=fun σ H Q => ∃ mu s M,RM C mu M H∧RS C mu H s σ ∧ Post C mu H (d s M) (RLk C) Q fun c dd H'=>W c dd σ H'
theorem s1r {e:Expr} {d:DE} (h:PE X e (TEz C W d)):PE X e (TEk C W d):=zbf (zoj h) fun σ H Q ⟨mu,s,M,R,S,P⟩=>by
 refine ⟨mu,s,M,R,S,?_⟩
 cases e:d s M with
 | ok t M1=>
  rw [e] at P
  intro mu1 x H1 R1 E1 r1
  have r0:=r1
  cases r1 with
  | dct h r=>
   rename_i ks a ws
   rcases h.1 with h1 | ⟨od,h1⟩
   ·refine .inl ⟨a,ws,rfl,h1,fun od=>?_⟩
    have E2:Ext C mu1 H1 mu1 (upd H1 a (.frz od (.dK ws))):=Ext.lock h1 h.2.2
    exact P mu1 _ _ (R1.lockD h1 h.2) (E1.trans E2) ⟨r0.mono E2,fun ks' e'=>by cases e'; exact ⟨a,od,ws,rfl,upd_same,h.2,r.mono E2⟩⟩
   ·exact .inr (P mu1 _ _ R1 E1 ⟨r0,fun ks' e'=>by cases e'; exact ⟨a,od,ws,rfl,h1,h.2,r⟩⟩)
  | _=>exact .inr (P mu1 _ _ R1 E1 ⟨r0,fun _ e'=>nomatch e'⟩)
 | er e' M1=>rw [e] at P; exact P
 | no=>rw [e] at P; exact P
def zcZ (t:T):Option (List T):=match t with
 | .tup xs=>some xs
 | .lst xs=>some xs
 | .fz xs=>some xs
 | .str x=>some (zcC x)
 | .dct ks=>some (zca ks)
 | .dn ks _=>some ks
 | _=>none
def toA (o:Option (List T)) (M:Mem):Out (List T):=match o with
 | some ts => .ok ts M
 | none => .no
def zar (d:DE):DA:=fun s M=>(d s M).bind fun t M1=>toA (zcZ t) M1
theorem zde (hK:C.K=X.K) {e:Expr} {d:DE} (h:PE X e (TEz C W d)):PI X tg e (iZ C W (zar d)):=by
 refine zhd (PI.or (PI.or (pi_list h) (pi_tup h)) (PI.or (pi_str h) (PI.or (pi_keys (s1r h)) (zoh h)))) fun σ H R ⟨mu,s,M,R0,S,P⟩=>?_
 rw [← hK]
 cases e2:d s M with
 | er e' M1=>
  have P2:Post C mu H (d s M) (RV C) (fun x H1 => ∃ a,x = .ref a∧(∃ xs,SqL C.K H1 a xs)∧R (Itl C.K a) H1) fun c dd H'=>W c dd σ H':=by
   unfold zar at P; rw [e2] at P ⊢; exact P
  exact .inl (.inl ⟨mu,s,M,R0,S,P2⟩)
 | no=>unfold zar at P; rw [e2] at P; exact P.elim
 | ok t M1=>
  unfold zar at P
  rw [e2] at P
  simp only [bind_ok] at P
  cases t with
  | tup xs=>
   refine .inl (.inr ⟨mu,s,M,R0,S,?_⟩)
   rw [e2]
   intro mu1 x H1 R1 E1 r1
   obtain ⟨a,vs,rfl,f,r⟩:=r1.tupI
   exact ⟨a,rfl,⟨vs,f.sq⟩,P mu1 _ H1 R1 E1 (zoc f r)⟩
  | lst xs=>
   refine .inl (.inl ⟨mu,s,M,R0,S,?_⟩)
   rw [e2]
   intro mu1 x H1 R1 E1 r1
   cases r1 with
   | lst f r=>exact ⟨_,rfl,⟨_,f.sq⟩,P mu1 _ H1 R1 E1 (zjW ⟨_,⟨f.1,.inl rfl⟩,f.2⟩ r)⟩
  | fz xs=>
   refine .inl (.inl ⟨mu,s,M,R0,S,?_⟩)
   rw [e2]
   intro mu1 x H1 R1 E1 r1
   cases r1 with
   | fz f r=>exact ⟨_,rfl,⟨_,.inl (.inr ⟨_,f.1⟩)⟩,P mu1 _ H1 R1 E1 (zjW ⟨_,⟨f.1,.inr ⟨_,rfl⟩⟩,f.2⟩ r)⟩
  | str z=>
   refine .inr (.inl ⟨mu,s,M,R0,S,?_⟩)
   rw [e2]
   intro mu1 x H1 R1 E1 r1
   cases r1
   exact ⟨z,rfl,P mu1 _ H1 R1 E1 (zoe z)⟩
  | dct ks=>
   refine .inr (.inr (.inl ⟨mu,s,M,R0,S,?_⟩))
   rw [e2]
   intro mu1 x H1 R1 E1 r1
   obtain ⟨a,od,ws,rfl,h1,av,r⟩:=r1.2 ks rfl
   exact ⟨a,od,rfl,.inl ⟨ws,h1,P mu1 _ H1 R1 E1 (zof h1 av r)⟩⟩
  | dn ks us=>
   refine .inr (.inr (.inr ⟨mu,s,M,R0,S,?_⟩))
   rw [e2]
   intro mu1 x H1 R1 E1 r1
   cases r1 with
   | dn h d r q=>exact ⟨_,_,_,_,rfl,h.1,d,P mu1 _ H1 R1 E1 (zoi h.1 h.2 r)⟩
  | non=>exact P.elim
  | bl=>exact P.elim
  | int=>exact P.elim
  | ty=>exact P.elim
  | ob=>exact P.elim
  | ins=>exact P.elim
  | exc=>exact P.elim
  | cel=>exact P.elim
def zok (d:DE):DA:=fun s M=>(d s M).bind fun t M1=>match t with
 | .dct ks => .ok (zhe ks) M1
 | _ => .no
def zjY (d:DE):DA:=fun s M=>(d s M).bind fun t M1=>match t with
 | .dct ks => .ok (zeN ks) M1
 | _ => .no
def inR (i:Int):Bool:=match i with
 | .ofNat n=>Nat.ble n 4611686018427387903
 | .negSucc n=>Nat.ble n 4611686018427387903
def zbp (da:DA):DA:=fun s M=>(da s M).bind fun ts M1=>match ts with
 | [.int n]=>if inR n=true then .ok (zbB 0 n.toNat) M1 else .no
 | _ => .no
def zol (da:DA):DA:=fun s M=>(da s M).bind fun ts M1=>match ts with
 | [.int i,.int j]=>if inR i=true∧inR j=true then .ok (zbB i (j - i).toNat) M1 else .no
 | _ => .no
theorem zjZ {i:Int} (h:inR i=true) : -(2 ^ 62)≤i∧i < 2 ^ 62:=by
 cases i with
 | ofNat n=>
  have:=Nat.le_of_ble_eq_true (show Nat.ble n 4611686018427387903=true from h)
  simp only [Int.ofNat_eq_natCast]
  omega
 | negSucc n=>
  have:=Nat.le_of_ble_eq_true (show Nat.ble n 4611686018427387903=true from h)
  omega
theorem zhf {a:Expr} {da:DA} {p pos:Pos} (hg:Gl X "range") (hm:X.mg "range" = none) (ha:PA X [a] (TAz C W da)) (hs:starEach [a] X.env = [(false,eval a X.env)]:=by rfl):PI X tg (.Call (.Name "range" p) [a] [] pos) (iZ C W (zbp da)):=
 zhd (pi_range1 hg hm ha hs) fun σ H R ⟨mu,s,M,R0,S,P⟩=>by
  refine ⟨mu,s,M,R0,S,?_⟩
  unfold zbp at P
  refine Post.bind P fun ts M1 mu1 xs H1 R1 E1 r1 P1=>?_
  split at P1
  ·rename_i n
   obtain ⟨x,rfl,rx⟩:=r1.one
   cases rx
   split at P1
   ·rename_i c
    exact ⟨n,rfl,(zjZ c).1,(zjZ c).2,P1 mu1 _ H1 R1 Ext.refl (zod 0 n.toNat)⟩
   ·exact P1.elim
  ·exact P1.elim
end
end Z
end
section
namespace Z
open PySem PySem.Spec PyProof.Rows L2 PySem.SeqAt
section
variable {prog:Program} {w:World} {A:Around} {E:Value→Shared→Prop} {s:Shared} {z TI TO i1 i2:Addr} {fp1 fp2:List Addr} {n i:Nat} {P1 P2:Nat→Value→Prop} {St1 St2:Nat→Heap→Prop} {a1 a2:Value}
end
end Z
end
section
namespace Z
open PySem PySem.Spec PyProof.Rows L2 PySem.SeqAt
section
variable {prog:Program} {w:World} {A:Around} {E:Value→Shared→Prop} {s:Shared}
end
def zhg (K:PySem.W.Frag) (a:Addr):It:=
 ⟨fun i H => ∃ (xs:List V) (x:V),SqT K H a xs∧xs[i]?=some x,fun i H v H' => ∃ p x,v = .ref p∧H p=none∧H'=upd H p (.tup [.int (i:Nat),x])∧∀xs,SqT K H a xs→xs[i]?=some x,fun i H => ∃ xs:List V,SqT K H a xs∧xs.length=i⟩
theorem zom {P:Program} {w:World} {K:PySem.W.Frag} {elts:List Expr} {kk:Nat} {tpos:Pos} {a e it:Addr} (hai:a≠it) (hea:e≠a) :
  Turn P w K (.Tuple elts kk tpos) (zhg K a) [e,it] e (fun i h=>(∃ old,IsEnum h e it ((i:Nat):Int) old)∧h.IsTupleIter it a i∧e≠it) where
 mem:=by simp
 obj:=fun i h st b hb=>by
  obtain ⟨⟨old,he⟩,⟨o,ho,hc,hd⟩,_⟩:=st
  have e':b=e∨b=it:=by simpa using hb
  rcases e' with z | z
  ·rw [z]; exact ⟨_,he,fun v q=>nomatch q⟩
  ·rw [z]; exact ⟨o,ho,fun v q=>by rw [hd] at q; cases q⟩
 keep:=fun i h h' st k=>let ⟨⟨old,he⟩,hi,hne⟩:=st; ⟨⟨old,k e (by simp) _ he⟩,hi.at fun o q=>k it (by simp) o q,hne⟩
 item:=by
  intro X hP hw hK hc i pins s σ H E I hf st hg
  subst hP hw hK
  obtain ⟨⟨old,he⟩,hit,hne⟩:=st
  obtain ⟨xs,x,hq,hx⟩:=hg
  obtain ⟨its,rv,p,_⟩:=I.tuple hq
  obtain ⟨u,hu,ru⟩:=rv.get hx
  have hel:e < s.heap.objs.size:=Heap.lt_size he
  have hil:it < s.heap.objs.size:=by obtain ⟨_,q,_⟩:=hit; exact Heap.lt_size q
  have D:=Draws.tuple (prog:=X.prog) (w:=X.w) (A:=X.A.in1) (I.ok.hd hc) it a hai its.toArray
  have hlt:i < its.toArray.size:=by
   rw [List.size_toArray]; exact (List.getElem?_eq_some_iff.mp hu).1
  refine wpAny_pyNext_enum_itemC D he ⟨hit,p⟩ hlt hne (by simp [hne,hea]) fun x1 h' tk hx1 ho st' hT hsz hk=>?_
  have e1:x1=u:=by
   have h2:its.toArray[i]?=some x1:=hx1
   rw [List.getElem?_toArray,hu] at h2
   exact (Option.some.inj h2).symm
  subst e1
  refine ⟨_,rfl,wpAny_letOwnedTupleGo_enum (s:={s with heap:=h',toks:=tk + 1}) ho fun h'' he' sb=>?_⟩
  have hT2:h''.get? s.heap.objs.size=some {cls := .type "tuple",data := .seq #[.int i tk,x1]}:=(sb.2 _ (Nat.ne_of_gt hel)).trans hT
  have new:ObjOk X.prog X.w (upd H s.heap.objs.size (.tup [.int (i:Nat),x])) h'' s.heap.objs.size (.tup [.int (i:Nat),x]):=
   ⟨by show 2≤sizeLine; decide,[.int i tk,x1],.cons ⟨_,rfl⟩ (.cons ru .nil),⟨_,hT2,rfl,_,rfl⟩⟩
  have I1:Inv X pins σ (upd H s.heap.objs.size (.tup [.int (i:Nat),x])) {s with heap:=h'',toks:=tk + 1}:=
   I.turnedNew (t':=tk + 1) (ch := [e,it]) (fun b ob hb q=>(sb.2 b (fun z=>hb (by simp [z]))).trans (hk b ob (fun z=>hb (by simp [z])) (fun z=>hb (by simp [z])) q)) hf (Nat.le_refl _) new
  refine ⟨.ref s.heap.objs.size,_,I1,rfl,⟨_,x,rfl,I.hok.fresh (Nat.le_refl _),rfl,fun ys hy=>by rw [I.tuple_inj hy hq]; exact hx⟩,⟨⟨x1,?_⟩,st'.1.at fun o q=>(sb.2 it (Ne.symm hne)).trans q,hne⟩,fun b hb=>?_⟩
  ·have e1:((i + 1:Nat):Int)=(i:Int) + 1:=by omega
   rw [e1]; exact he'
  ·have hb':b < s.heap.objs.size:=by
    have e':b=e∨b=it:=by simpa using hb
    rcases e' with z | z
    ·rw [z]; exact hel
    ·rw [z]; exact hil
   rw [upd_ne (Nat.ne_of_lt hb')]
   exact (hf b hb).1
 done:=by
  intro X hP hw hK hc i pins s σ H E I hf st hg
  subst hP hw hK
  obtain ⟨⟨old,he⟩,hit,hne⟩:=st
  obtain ⟨xs,hq,hx⟩:=hg
  obtain ⟨its,rv,p,_⟩:=I.tuple hq
  obtain ⟨f0,f1,f2,f3,f4,f5⟩:=hf it (by simp)
  have D:=Draws.tuple (prog:=X.prog) (w:=X.w) (A:=X.A.in1) (I.ok.hd hc) it a hai its.toArray
  have e0:i=its.toArray.size:=by rw [List.size_toArray,← rv.length]; exact hx.symm
  rw [e0] at hit
  exact wpAny_pyNext_enum_endD D he ⟨hit,p⟩ fun h' eb=>⟨rfl,I.turned (t':=s.toks) (fun b o hb q=>eb b o hb q) f0 f1 f3 f4 f5⟩
 self:=fun A i s Q E st h=>let ⟨⟨_,he⟩,_⟩:=st; wpAny_pyIter_enum he h
end Z
end
section
namespace Z
open PySem PySem.Spec PyProof.Rows L2 PySem.SeqAt
set_option maxHeartbeats 1000000 in
theorem zon {v:Value} {o:Obj} {H:Heap→Prop} (B:Begins v o H) :
  Meets (Builtin.«enumerate.__new__» ⟨[.type "enumerate",v],[]⟩) (fun _ R s=>H s.heap ∧
   R (.ok (.ret (.ref (s.heap.push o).objs.size))) {s with heap:=(s.heap.push o).push {cls := .type "enumerate",data := .fields #[.none,.bool false,.ref s.heap.objs.size,rawInt 0,.none,.none]}}):=
 .of_wp fun prog w A R s h=>by
  obtain ⟨hp,g,d,tk,os⟩:=s; obtain ⟨h1,h⟩:=h
  have hsub:=sub_enumerate
  have q1:∀ {A':Around} {E:Value→Shared→Prop} {Q:Value→Shared→Prop},Q (.ref hp.objs.size) ⟨hp.push o,g,d,tk,os⟩→wpAny (model prog w) A' (pyIter v) Q E ⟨hp,g,d,tk,os⟩:=
   fun q=>B.iter prog w _ _ ⟨hp,g,d,tk,os⟩ _ h1 q
  wp_walk using q1
  refine wpAny_stack_any fun st=>wpAny_pure ?_
  split
  ·rename_i c _ _ _ _ _
   cases (c == Value.type "enumerate")
   ·wp_walk using q1
    exact ⟨_,rfl,h⟩
   ·wp_walk using q1
    exact ⟨_,rfl,h⟩
  ·wp_walk using q1
   exact ⟨_,rfl,h⟩
section
variable {prog:Program} {w:World} {A:Around} {E:Value→Shared→Prop} {s:Shared}
theorem zoo {v:Value} {o:Obj} {H:Heap→Prop} {Q:Value→Shared→Prop} (B:Begins v o H) (h1:H s.heap)
  (h:∀ h',IsEnum h' (s.heap.objs.size + 1) s.heap.objs.size 0 .none→h'.get? s.heap.objs.size=some o→(∀ b o,s.heap.get? b=some o→h'.get? b=some o)→Q (.ref (s.heap.objs.size + 1)) {s with heap:=h'}) :
  wpAny (model prog w) A (call (.type "enumerate") [v]) Q E s:=by
 refine callType_new F.called_enumerate (by decide) (F.typeCall_enumerate_1 _) (F.newCall_enumerate_1 _) (fun obj=>F.args_object_init_2 obj _) F.entry_enumerate_new (zon B) ⟨h1,?_⟩
 have hz:(s.heap.push o).objs.size=s.heap.objs.size + 1:=Heap.size_push ..
 show _∧_
 rw [hz]
 have he:IsEnum ((s.heap.push o).push {cls := .type "enumerate",data := .fields #[.none,.bool false,.ref s.heap.objs.size,rawInt 0,.none,.none]}) (s.heap.objs.size + 1) s.heap.objs.size 0 .none:=by
  have:=Heap.get?_push_size (s.heap.push o) (o:={cls := .type "enumerate",data := .fields #[.none,.bool false,.ref s.heap.objs.size,rawInt 0,.none,.none]}) rfl
  rw [hz] at this; exact this
 exact ⟨⟨_,he,rfl⟩,h _ he (Heap.get?_push_of_some _ (Heap.get?_push_size _ B.free)) fun b o x=>Heap.get?_push_of_some _ (Heap.get?_push_of_some _ x)⟩
end
def zop (K:PySem.W.Frag) (ta:TA):TI:=fun σ H R=>ta σ H fun vs H1 => ∃ a xs,vs = [.ref a]∧SqT K H1 a xs∧R (zhg K a) H1
theorem zoq {X:Cx} {e:Expr} {ta:TA} {p pos tpos:Pos} {elts:List Expr} {kk:Nat} (hg:Gl X "enumerate") (hm:X.mg "enumerate" = none) (ha:PA X [e] ta) (hs:starEach [e] X.env = [(false,eval e X.env)]:=by rfl) :
  PI X (.Tuple elts kk tpos) (.Call (.Name "enumerate" p) [e] [] pos) (zop X.K ta):=by
 refine ⟨fun pins s σ H R I h=>?_⟩
 refine Call_ (ld_blt I hg hm boot_enumerate (PyProof.Rows.callWith_type1 (thn (ha.run pos pins s σ H _ I h) fun us s1 ⟨vs,H1,I1,r1,q1⟩=>?_) hs rfl))
 obtain ⟨a,xs,ex,hq,q⟩:=q1
 subst ex
 obtain ⟨u,rfl,ru⟩:=vals1 r1
 cases ru
 obtain ⟨its,rv,pt,_⟩:=I1.tuple hq
 have la:a < s1.heap.objs.size:=by obtain ⟨o,e,_⟩:=pt; exact Heap.lt_size e
 refine zoo (begins_tuple a its.toArray) pt fun h' he ho hk=>wpAny_pyIter_enum he ?_
 have I2:Inv X pins σ H1 {s1 with heap:=h'}:=I1.kept (t':=s1.toks) hk
 refine ⟨s1.heap.objs.size + 1,[s1.heap.objs.size + 1,s1.heap.objs.size],_,_,H1,rfl,I2,zom (Nat.ne_of_lt la) (Nat.ne_of_gt (Nat.lt_succ_of_lt la)),⟨⟨.none,he⟩,⟨_,ho,rfl,rfl⟩,Nat.succ_ne_self _⟩,fun b hb=>?_,q⟩
 have e':b=s1.heap.objs.size + 1∨b=s1.heap.objs.size:=by simpa using hb
 have hle:s1.heap.objs.size≤b:=by
  rcases e' with z | z
  ·rw [z]; exact Nat.le_add_right _ _
  ·rw [z]; exact Nat.le_refl _
 exact I1.fpOk hle (I1.hok.fresh hle)
section
variable {C:Cfg} {mu:Mu} {H:Hp} {ts:List T} {a:Addr} {vs:List V}
theorem zor (h:FT C mu H a vs) (r:RepL C mu H ts vs):WkA C mu H (zbj ts) (zhg C.K a):=fun hid hA i mu2 M2 H2 R2 E2=>by
 have r2:RepL (C.with hid) mu2 H2 ts vs:=(RepL.hide (C:=C) (C':=C.with hid) rfl rfl hA r).mono E2
 have sq:SqT C.K H2 a vs:=by
  rcases h with h | h
  ·exact .inl (.inl (E2.obj a _ h.1 (hA a _ h.1 h.2).1 rfl))
  ·exact .inr h
 have hl:(zbj ts).length=ts.length:=by unfold zbj; simp
 refine ⟨fun hi=>?_,fun hi=>?_⟩
 ·rw [hl] at hi
  obtain ⟨v,g1,g2⟩:=r2.get (i:=i) (t:=ts[i]) (by simp [hi])
  refine ⟨⟨vs,v,sq,g1⟩,fun x H3 ⟨p,y,hx,hp,e3,hy⟩=>?_⟩
  subst e3 hx
  have:=hy vs sq
  rw [g1] at this
  cases this
  obtain ⟨R3,E3,r3⟩:=zdU R2 hp (.cons (.int (i:Nat)) (.cons g2 .nil))
  exact ⟨.tup [.int (i:Nat),ts[i]],by unfold zbj; simp [hi],R3,E3,r3⟩
 ·exact ⟨vs,sq,by rw [hi,hl,r.length]⟩
def zhh (x:Str) (ts:List T):List T:=List.zipWith (fun c t=>T.tup [.str ⟨#[c]⟩,t]) x.cps.toList ts
end
section
variable {X:Cx} {C:Cfg} {W:WX} {elts:List Expr} {kk:Nat} {tpos:Pos}
def zd2 (t:T):Option (List T):=match t with
 | .tup xs=>some (zbj xs)
 | .lst xs=>some (zbj xs)
 | .fz xs=>some (zbj xs)
 | _=>none
def zc0 (da:DA):DA:=fun s M=>(da s M).bind fun ts M1=>match ts with
 | [t]=>toA (zd2 t) M1
 | _ => .no
theorem zj0 (hK:C.K=X.K) {e:Expr} {da:DA} {p pos:Pos} (hg:Gl X "enumerate") (hm:X.mg "enumerate" = none) (ha:PA X [e] (TAz C W da)) (hs:starEach [e] X.env = [(false,eval e X.env)]:=by rfl) :
  PI X (.Tuple elts kk tpos) (.Call (.Name "enumerate" p) [e] [] pos) (iZ C W (zc0 da)):=by
 refine zhd (PI.or (pi_enum hg hm ha hs) (zoq hg hm ha hs)) fun σ H R ⟨mu,s,M,R0,S,P⟩=>?_
 rw [← hK]
 cases e2:da s M with
 | er e' M1=>
  refine .inl ⟨mu,s,M,R0,S,?_⟩
  unfold zc0 at P; rw [e2] at P ⊢; exact P
 | no=>unfold zc0 at P; rw [e2] at P; exact P.elim
 | ok ts M1=>
  unfold zc0 at P
  rw [e2] at P
  simp only [bind_ok] at P
  match ts,e2,P with
  | [t],e2,P=>
   simp only at P
   cases t with
   | tup xs=>
    refine .inr ⟨mu,s,M,R0,S,?_⟩
    rw [e2]
    intro mu1 x H1 R1 E1 r1
    obtain ⟨y,rfl,ry⟩:=r1.one
    obtain ⟨a,vs,rfl,f,r⟩:=ry.tupI
    exact ⟨a,vs,rfl,f.sq,P mu1 _ H1 R1 E1 (zor f r)⟩
   | lst xs=>
    refine .inl ⟨mu,s,M,R0,S,?_⟩
    rw [e2]
    intro mu1 x H1 R1 E1 r1
    obtain ⟨y,rfl,ry⟩:=r1.one
    cases ry with
    | lst f r=>exact ⟨_,_,rfl,f.sq,P mu1 _ H1 R1 E1 (zjX ⟨_,⟨f.1,.inl rfl⟩,f.2⟩ r)⟩
   | fz xs=>
    refine .inl ⟨mu,s,M,R0,S,?_⟩
    rw [e2]
    intro mu1 x H1 R1 E1 r1
    obtain ⟨y,rfl,ry⟩:=r1.one
    cases ry with
    | fz f r=>exact ⟨_,_,rfl,.inl (.inr ⟨_,f.1⟩),P mu1 _ H1 R1 E1 (zjX ⟨_,⟨f.1,.inr ⟨_,rfl⟩⟩,f.2⟩ r)⟩
   | non=>exact P.elim
   | bl=>exact P.elim
   | int=>exact P.elim
   | str=>exact P.elim
   | ty=>exact P.elim
   | ob=>exact P.elim
   | ins=>exact P.elim
   | exc=>exact P.elim
   | cel=>exact P.elim
   | dct=>exact P.elim
   | dn=>exact P.elim
  | [],_,P=>exact P.elim
  | _ :: _ :: _,_,P=>exact P.elim
def zos (da:DA):DA:=fun s M=>(da s M).bind fun ts M1=>match ts with
 | [.str x,.tup xs]=>if x.cps.size=xs.length then .ok (zhh x xs) M1 else .no
 | _ => .no
def forL (g:DG) (b:DS):List T→DS
 | []=>fun s M => .nx s M
 | t :: ts=>fun s M=>match g t s with
  | none => .no
  | some s1=>(match b s1 M with
   | .nx s2 M2=>forL g b ts s2 M2
   | .ct s2 M2=>forL g b ts s2 M2
   | .bk s2 M2 => .nx s2 M2
   | .rt t M2 => .rt t M2
   | .er e s2 M2 => .er e s2 M2
   | .no => .no)
def zj1 (di:DA) (g:DG) (b:DS):DS:=fun s M=>(di s M).toS s fun ts M1=>forL g b ts s M1
def TGz (C:Cfg) (vs:List Nat) (g:DG):TG:=fun v σ H Q => ∃ mu s M t s',RM C mu M H∧RS C mu H s σ ∧ Rep C mu H t v∧g t s=some s'∧∀ σ',RS C mu H s' σ'→L2.wipe σ' vs=L2.wipe σ vs→Q σ' H
theorem zhi (i:Nat) (x:Option V):∀ (vs:List Nat) (σ : L2.St),L2.wipe (σ.set i x) vs=if i∈vs then L2.wipe σ vs else (L2.wipe σ vs).set i x
 | [],σ => by simp [L2.wipe]
 | v :: vs,σ => by
  unfold L2.wipe
  rw [zhi i x vs σ]
  by_cases h:i∈vs
  ·rw [if_pos h,if_pos (List.mem_cons_of_mem _ h)]
  ·rw [if_neg h]
   by_cases e:i=v
   ·subst e
    rw [if_pos (List.mem_cons_self ..),List.set_set]
   ·rw [if_neg (by simp [e,h]),List.set_comm _ _ e]
theorem zj2:∀ (vs:List Nat) (σ : L2.St) (us:List Nat),(∀ v∈vs,v∈us)→L2.wipe (L2.wipe σ vs) us=L2.wipe σ us
 | [],_,_,_=>rfl
 | v :: vs,σ,us,h=>by
  show L2.wipe ((L2.wipe σ vs).set v none) us=_
  rw [zhi,if_pos (h v (List.mem_cons_self ..)),zj2 vs σ us fun w hw=>h w (List.mem_cons_of_mem _ hw)]
theorem zj3 {e:Expr} {t t':TG} (h:PG X e t) (w:∀ v σ H Q,t' v σ H Q→t v σ H Q):PG X e t':=⟨fun pins s σ H v u Q I r q=>h.run pins s σ H v u Q I r (w v σ H Q q)⟩
def gN (i:Nat):DG:=fun t s=>some (s.set i (some t))
theorem zot {i:Nat} {x:Str} {pos:Pos} (hN:X.N.Nodup) (hi:X.N[i]?=some x) (hx:Loc X.env.scope x) (hf:X.fn x=true∨X.env.scope.names.lookup x=some .local) {vs:List Nat} (hv:i∈vs):PG X (.Name x pos) (TGz C vs (gN i)):=
 zj3 (pg_name hN hi hx hf) fun v σ H Q ⟨mu,s,M,t,s',R,S,r,e,q⟩=>by
  cases e
  exact q _ (S.set i r) (by rw [zhi,if_pos hv])
abbrev DGs:=List T→Sg→Option Sg
def zfN (C:Cfg) (ws:List Nat) (g:DGs):TGs:=fun vs σ H Q => ∃ mu s M ts s',RM C mu M H∧RS C mu H s σ ∧ RepL C mu H ts vs∧g ts s=some s'∧∀ σ',RS C mu H s' σ'→L2.wipe σ' ws=L2.wipe σ ws→Q σ' H
theorem zj4 {e:List Expr} {t t':TGs} (h:PGs X e t) (w:∀ v σ H Q,t' v σ H Q→t v σ H Q):PGs X e t':=⟨fun pins s σ H v u Q I r q=>h.run pins s σ H v u Q I r (w v σ H Q q)⟩
def zbk:DGs:=fun ts s=>match ts with
 | []=>some s
 | _=>none
def zaC (g:DG) (gs:DGs):DGs:=fun ts s=>match ts with
 | t :: r=>(match g t s with
  | some s1=>gs r s1
  | none=>none)
 | _=>none
theorem zj5 {ws:List Nat}:PGs X [] (zfN C ws zbk):=zj4 pgs_nil fun vs σ H Q ⟨mu,s,M,ts,s',R,S,r,e,q⟩=>by
 cases r with
 | nil=>cases e; exact ⟨rfl,q _ S rfl⟩
 | cons=>cases e
theorem zfO {ws:List Nat} {e:Expr} {es:List Expr} {g:DG} {gs:DGs} (h1:PG X e (TGz C ws g)) (h2:PGs X es (zfN C ws gs)) (hs:(assignEach (e :: es) X.env).map (·.2)=assign e X.env :: (assignEach es X.env).map (·.2):=by rfl):PGs X (e :: es) (zfN C ws (zaC g gs)):=
 zj4 (pgs_cons h1 h2 hs) fun vs σ H Q ⟨mu,s,M,ts,s',R,S,r,e,q⟩=>by
  cases r with
  | nil=>cases e
  | @cons t v ts vs h r=>
   unfold zaC at e
   simp only at e
   split at e
   ·rename_i s1 e1
    exact ⟨v,vs,rfl,mu,s,M,t,s1,R,S,h,e1,fun σ' S' hw=>⟨mu,s1,M,ts,s',R,S',r,e,fun σ2 S2 hw2=>q σ2 S2 (hw2.trans hw)⟩⟩
   ·cases e
def gTup (gs:DGs):DG:=fun t s=>match t with
 | .tup ts=>gs ts s
 | _=>none
theorem zj6 (hK:C.K=X.K) {es:List Expr} {k:Nat} {pos:Pos} {gs:DGs} {n:Nat} (hc:X.calm=true) {ws:List Nat} (h:PGs X es (zfN C ws gs)) (hn:(assignEach es X.env).length=n) (hgs:∀ ts s s',gs ts s=some s'→ts.length=n)
  (hst:(assignEach es X.env).findIdx? (·.1)=none:=by rfl):PG X (.Tuple es k pos) (TGz C ws (Z.gTup gs)):=
 zj3 (pg_tup hc h hn hst) fun v σ H Q ⟨mu,s,M,t,s',R,S,r,e,q⟩=>by
  unfold Z.gTup at e
  split at e
  ·rename_i ts
   obtain ⟨a,vs,rfl,f,rl⟩:=r.tupI
   exact ⟨a,vs,rfl,hK ▸ f.sq,by rw [← rl.length]; exact hgs _ _ _ e,mu,s,M,ts,s',R,S,rl,e,q⟩
  ·cases e
theorem zfP {g:DG} {gs:DGs} {n:Nat} (h:∀ ts s s',gs ts s=some s'→ts.length=n):∀ ts s s',zaC g gs ts s=some s'→ts.length=n + 1:=fun ts s s' e=>by
 unfold zaC at e
 split at e
 ·split at e
  ·rename_i h1
   rw [List.length_cons,h _ _ _ e]
  ·cases e
 ·cases e
theorem zj7:∀ ts s s',zbk ts s=some s'→ts.length=0:=fun ts s s' e=>by
 unfold zbk at e
 split at e
 ·rfl
 ·cases e
theorem zou {ws:List Nat} {tg iter:Expr} {body:List Stmt} {di:DA} {g:DG} {b:DS} {pos:Pos} (hp:PassesOwn (model X.prog X.w) X.A X.env X.xe) (hc:X.calm=true) (hi:PI X tg iter (iZ C W di)) (hg:PG X tg (TGz C ws g)) (hb:PSs X body (TSz C W b))
  (hs:∀ x,foldedSetIterable iter X.env x=pure x:=by intro _; rfl):PS X (.For tg iter body [] pos) (TSz C W (zj1 di g b)):=
 zds (ps_for hp hc hi hg hb hs) fun D σ H ⟨mu,s,M,R,S,P⟩=>⟨mu,s,M,R,S,PostS.bind P S fun ts M1 mu1 J H1 R1 E1 w P1=>by
  refine ⟨fun i m σ H=>i + m=ts.length∧∃mu s M,RM C mu M H∧RS C mu H s σ ∧ Ext C mu1 H1 mu H∧PostS C mu H (forL g b (ts.drop i) s M) D W,⟨ts.length,by omega,mu1,s,M1,R1,S.mono E1,Ext.refl,P1⟩,fun i m σ H ⟨hm,mu2,s2,M2,R2,S2,E2,P2⟩=>?_⟩
  have wk:=w C.hid (fun a o _ n=>n) i mu2 M2 H R2 E2
  cases m with
  | zero=>
   have e:i=ts.length:=by omega
   rw [e,List.drop_length] at P2
   exact .inl ⟨wk.2 e,P2 mu2 σ H R2 Ext.refl S2⟩
  | succ m=>
   have hlt:i < ts.length:=by omega
   obtain ⟨hgo,hy⟩:=wk.1 hlt
   refine .inr ⟨hgo,fun σ' H'=>(i + 1) + m=ts.length∧∃mu s M,RM C mu M H'∧RS C mu H' s σ'∧Ext C mu1 H1 mu H'∧PostS C mu H' (forL g b (ts.drop (i + 1)) s M) D W,fun σ' H' h=>⟨m,Nat.lt_succ_self m,h⟩,fun x H3 hyl=>?_⟩
   obtain ⟨t,ht,R3,E3,r3⟩:=hy x H3 hyl
   have ed:ts.drop i=t :: ts.drop (i + 1):=by
    rw [List.drop_eq_getElem_cons hlt]
    congr 1
    rw [List.getElem?_eq_getElem hlt] at ht
    exact Option.some.inj ht
   rw [ed] at P2
   unfold forL at P2
   cases eg:g t s2 with
   | none=>simp only [eg] at P2; exact P2.elim
   | some s3=>
    simp only [eg] at P2
    refine ⟨mu2,s2,M2,t,s3,R3,S2.mono E3,r3,eg,fun σ' S' _=>⟨mu2,s3,M2,R3,S',?_⟩⟩
    have hE:=E2.trans E3
    have P3:=PostS.ext P2 E3
    cases eb:b s3 M2 with
    | nx s4 M4=>rw [eb] at P3; exact fun mu4 σ4 H4 R4 E4 S4=>⟨by omega,mu4,s4,M4,R4,S4,hE.trans E4,PostS.ext P3 E4⟩
    | ct s4 M4=>rw [eb] at P3; exact fun mu4 σ4 H4 R4 E4 S4=>⟨by omega,mu4,s4,M4,R4,S4,hE.trans E4,PostS.ext P3 E4⟩
    | bk s4 M4=>rw [eb] at P3; exact P3
    | rt t4 M4=>rw [eb] at P3; exact P3
    | er e4 s4 M4=>rw [eb] at P3; exact P3
    | no=>rw [eb] at P3; exact P3⟩
end
end Z
end
section
namespace Z
open PySem PySem.Spec PyProof.Rows L2 PySem.SeqAt
abbrev Cfg.and (C:Cfg) (D:Addr):Cfg:=C.with fun a=>C.hid a∨a=D
section
variable {C:Cfg} {mu mu':Mu} {M:Mem} {H H':Hp} {D:Addr} {o:HO}
theorem zfQ (hD:H D=none):∀ (a:Addr) (o:HO),H a=some o→Av C mu a→Av (C.and D) mu a:=fun a o e n=>⟨n.1,fun z=>z.elim n.2 fun q=>by rw [q,hD] at e; cases e⟩
theorem zeO:∀ (a:Addr) (o:HO),H a=some o→Av (C.and D) mu a→Av C mu a:=fun a o _ n=>⟨n.1,fun z=>n.2 (.inl z)⟩
theorem Ext.hideNew (x:Ext C mu H mu' H') (hD:H D=none):Ext (C.and D) mu H mu' H':=⟨x.len,x.keep,x.rd,x.obj,fun a o e n z=>z.elim (x.hid a o e n) (fun q=>by rw [q,hD] at e; cases e),x.own,x.ex⟩
theorem Ext.unhide (x:Ext (C.and D) mu H mu' H'):Ext C mu H mu' H':=⟨x.len,x.keep,x.rd,x.obj,fun a o e n z=>x.hid a o e n (.inl z),x.own,x.ex⟩
theorem RM.hideNew (R:RM C mu M H) (hD:H D=none) (ho:zez o:=by exact zfp rfl):RM (C.and D) mu M (upd H D o):=by
 have E:Ext (C.and D) mu H mu (upd H D o):=Ext.new hD
 have k:∀ b q,H b=some q→upd H D o b=some q:=fun b q e=>by rw [upd_ne (ne_of_none e hD)]; exact e
 refine ⟨R.len,fun i t h=>?_,fun i t h=>?_,R.dead,R.inj,fun a z=>?_,fun a ha z=>?_,zgQ R.tabs hD,fun a z=>z.elim (fun z=>(R.nht a z).upd fun _=>ho) fun z=>by rw [z]; exact (znc R.tabs hD).upd fun _=>ho⟩
 ·obtain ⟨a,u,h1,h2,h3⟩:=R.cell i t h
  exact ⟨a,u,h1,k a u h2,(CU.hide (C:=C) (C':=C.and D) rfl rfl (zfQ hD) h3).mono E⟩
 ·obtain ⟨a,od,u,h1,h2,h3⟩:=R.lock i t h
  exact ⟨a,od,u,h1,k a _ h2,(CU.hide (C:=C) (C':=C.and D) rfl rfl (zfQ hD) h3).mono E⟩
 ·rcases z with z | z
  ·obtain ⟨q,e⟩:=R.hid a z
   exact ⟨q,k a q e⟩
  ·exact ⟨o,by rw [z]; exact upd_same⟩
 ·rcases z with z | z
  ·exact R.nh a ha z
  ·subst z; exact R.fresh hD ha
theorem RM.unhide (R:RM (C.and D) mu M H):RM C mu M H:=
 ⟨R.len,fun i t h=>let ⟨a,u,h1,h2,h3⟩:=R.cell i t h; ⟨a,u,h1,h2,CU.hide (C:=C.and D) (C':=C) rfl rfl zeO h3⟩,
  fun i t h=>let ⟨a,od,u,h1,h2,h3⟩:=R.lock i t h; ⟨a,od,u,h1,h2,CU.hide (C:=C.and D) (C':=C) rfl rfl zeO h3⟩,R.dead,R.inj,fun a z=>R.hid a (.inl z),fun a ha z=>R.nh a ha (.inl z),R.tabs,fun a z=>R.nht a (.inl z)⟩
theorem Ext.updNew (x:Ext C mu H mu' H') (hD:H D=none):Ext C mu H mu' (upd H' D o):=by
 have k:∀ b q u,H b=some q→H' b=some u→upd H' D o b=some u:=fun b q u e h=>by rw [upd_ne (ne_of_none e hD)]; exact h
 refine ⟨x.len,x.keep,fun a u h n=>⟨?_,h.2⟩,fun a q e n d=>k a q q e (x.obj a q e n d),fun a q e n d=>k a q q e (x.hid a q e n d),x.own,fun a q e n=>let ⟨q',e'⟩:=x.ex a q e n; ⟨q',k a q q' e e'⟩⟩
 obtain ⟨q,e⟩:=Rd.some_ h.1
 rcases (x.rd a u h n).1 with r | ⟨o',r⟩
 ·exact .inl (k a q _ e r)
 ·exact .inr ⟨o',k a q _ e r⟩
section
variable {C':Cfg}
end
theorem zj8:∀ (i:Nat) (a:Addr),i < mu.length→(mu ++ [some D])[i]?=some (some a)→mu[i]?=some (some a):=fun i a hi q=>by rw [List.getElem?_append_left hi] at q; exact q
theorem zov:∀ (a:Addr) (o:HO),H a=some o→Av (C.and D) mu a→Av C (mu ++ [some D]) a:=fun a o _ n=>⟨fun z=>by
 rcases List.mem_append.mp z with z | z
 ·exact n.1 z
 ·have e:a=D:=by simpa using z
  exact n.2 (.inr e),fun z=>n.2 (.inl z)⟩
theorem RM.adopt {t:T} {u:HO} (R:RM (C.and D) mu M H) (hD:H D=some u) (nD:¬ C.hid D) (c:CU (C.and D) mu H t u):RM C (mu ++ [some D]) (M ++ [.live t]) H:=by
 have nm:some D∉mu:=fun z=>R.nh D z (.inr rfl)
 have cm:∀ {t:T} {u:HO},CU (C.and D) mu H t u→CU C (mu ++ [some D]) H t u:=fun {t u} h=>CU.mv (C:=C.and D) (C':=C) (mu:=mu) (mu':=mu ++ [some D]) rfl rfl (by simp) zj8 zov h
 have lem:∀ (i:Nat) (x:Cell),(M ++ [Cell.live t])[i]?=some x→(M[i]?=some x)∨(i=M.length∧x = .live t):=fun i x q=>by
  by_cases hi:i < M.length
  ·rw [List.getElem?_append_left hi] at q; exact .inl q
  ·rw [List.getElem?_append_right (Nat.le_of_not_lt hi)] at q
   by_cases h0:i - M.length=0
   ·rw [h0] at q
    have q':Cell.live t=x:=by simpa using q
    exact .inr ⟨by omega,q'.symm⟩
   ·have:([Cell.live t]:List Cell)[i - M.length]?=none:=by rw [List.getElem?_eq_none_iff]; simp; omega
    rw [this] at q; cases q
 have old:∀ (i:Nat) (a:Option Addr),mu[i]?=some a→(mu ++ [some D])[i]?=some a:=fun i a q=>by
  rw [List.getElem?_append_left (List.getElem?_eq_some_iff.mp q).1]; exact q
 have cas:∀ (b:Addr) (i:Nat),(mu ++ [some D])[i]?=some (some b)→mu[i]?=some (some b)∨(i=mu.length∧b=D):=fun b i q=>by
  by_cases hi:i < mu.length
  ·rw [List.getElem?_append_left hi] at q; exact .inl q
  ·rw [List.getElem?_append_right (Nat.le_of_not_lt hi)] at q
   by_cases h0:i - mu.length=0
   ·rw [h0] at q
    have q':D=b:=by simpa using q
    exact .inr ⟨by omega,q'.symm⟩
   ·have:([some D]:List (Option Addr))[i - mu.length]?=none:=by rw [List.getElem?_eq_none_iff]; simp; omega
    rw [this] at q; cases q
 refine ⟨by simp [R.len],fun i t' q=>?_,fun i t' q=>?_,fun i q=>?_,fun i j b h1 h2=>?_,fun a ha=>R.hid a (.inl ha),fun a ha hh=>?_,R.tabs,fun a ha=>R.nht a (.inl ha)⟩
 ·rcases lem i _ q with q | ⟨ei,q⟩
  ·obtain ⟨b,w',h1,h2,h3⟩:=R.cell i t' q
   exact ⟨b,w',old _ _ h1,h2,cm h3⟩
  ·injection q with q
   subst q
   exact ⟨D,u,by rw [ei,← R.len]; simp,hD,cm c⟩
 ·rcases lem i _ q with q | ⟨_,q⟩
  ·obtain ⟨b,od,w',h1,h2,h3⟩:=R.lock i t' q
   exact ⟨b,od,w',old _ _ h1,h2,cm h3⟩
  ·cases q
 ·rcases lem i _ q with q | ⟨_,q⟩
  ·exact old _ _ (R.dead i q)
  ·cases q
 ·rcases cas b i h1 with h1 | ⟨h1,e1⟩
  ·rcases cas b j h2 with h2 | ⟨h2,e2⟩
   ·exact R.inj i j b h1 h2
   ·rw [e2] at h1; exact absurd (List.mem_of_getElem? h1) nm
  ·rcases cas b j h2 with h2 | ⟨h2,e2⟩
   ·rw [e1] at h2; exact absurd (List.mem_of_getElem? h2) nm
   ·omega
 ·rcases List.mem_append.mp ha with z | z
  ·exact R.nh a z (.inl hh)
  ·have e2:a=D:=by simpa using z
   subst e2
   exact nD hh
theorem Ext.adopt (x:Ext C mu H mu' H') (hD:H D=none):Ext C mu H (mu' ++ [some D]) H':=
 ⟨by have:=x.len; simp; omega,fun i a hi q=>x.keep i a hi (zj8 i a (Nat.lt_of_lt_of_le hi x.len) q),x.rd,x.obj,x.hid,(fun a o e n z=>by
  rcases List.mem_append.mp z with z | z
  ·exact x.own a o e n z
  ·have e2:a=D:=by simpa using z
   rw [e2,hD] at e; cases e),x.ex⟩
theorem zj9 (m:Bool) {mu1:Mu} {H1:Hp} {t:T} {u:HO} (R:RM (C.and D) mu M H) (x:Ext C mu1 H1 mu H) (h1:H1 D=none) (nD:¬ C.hid D) (hD:H D=some u) (c:CU (C.and D) mu H t u) :
  ∃ mu',RM C mu' (mk m t M).2 H∧Ext C mu1 H1 mu' H∧Rep C mu' H (mk m t M).1 (.ref D):=by
 cases m with
 | true=>
  refine ⟨mu ++ [some D],R.adopt hD nD c,x.adopt h1,.cel (by rw [← R.len]; simp) fun a h=>?_⟩
  rw [← R.len] at h
  have:some D=some a:=by simpa using h
  rw [Option.some.inj this]
 | false=>
  have av:Av C mu D:=⟨fun z=>R.nh D z (.inr rfl),nD⟩
  have c':CU C mu H t u:=CU.hide (C:=C.and D) (C':=C) rfl rfl zeO c
  refine ⟨mu,R.unhide,x,?_⟩
  unfold CU at c'
  split at c'
  ·exact .lst ⟨hD,av⟩ c'
  ·exact .dct ⟨.inl hD,av⟩ c'
  ·obtain ⟨e,c'⟩:=c'
   subst e
   exact .ins ⟨hD,av⟩ c'
  ·exact c'.elim
end
end Z
end
section
namespace Z
open PySem PySem.Spec PyProof.Rows L2 PySem.SeqAt
def zas (s:Sg):List Nat→Sg
 | []=>s
 | v :: vs=>(zas s vs).set v none
def lcL (g:DG) (tt:DT) (de:DE) (s0:Sg):List T→Mem→Out (List T)
 | [],M => .ok [] M
 | t :: ts,M=>match g t s0 with
  | none => .no
  | some s1=>(tt s1 M).noEr.bind fun k M1=>if k=true then (de s1 M1).noEr.bind fun y M2=>(lcL g tt de s0 ts M2).bind fun ys M3 => .ok (y :: ys) M3 else lcL g tt de s0 ts M1
def dLc (m:Bool) (di:DA) (g:DG) (tt:DT) (de:DE) (vs:List Nat):DE:=fun s M=>(di s M).bind fun ts M1=>if ts.length≤LIM then (lcL g tt de (zas s vs) ts M1).bind fun ys M2=>lift (some (mk m (.lst ys) M2)) else .no
def dcL (g:DG) (tt:DT) (dk de:DE) (s0:Sg):List T→List (Str × T)→Mem→Out (List (Str × T))
 | [],ks,M => .ok ks M
 | t :: ts,ks,M=>match g t s0 with
  | none => .no
  | some s1=>(tt s1 M).noEr.bind fun k M1=>if k=true then (dk s1 M1).noEr.bind fun x M2=>(de s1 M2).noEr.bind fun y M3=>match x with
    | .str z=>if ks.length < LIM then dcL g tt dk de s0 ts (putT ks z y) M3 else .no
    | _ => .no
   else dcL g tt dk de s0 ts ks M1
def dDc (m:Bool) (di:DA) (g:DG) (tt:DT) (dk de:DE) (vs:List Nat):DE:=fun s M=>(di s M).bind fun ts M1=>(dcL g tt dk de (zas s vs) ts [] M1).bind fun ks M2=>lift (some (mk m (.dct ks) M2))
theorem RS.wipes {C:Cfg} {mu:Mu} {H:Hp} {s:Sg} {σ : L2.St} (R:RS C mu H s σ):∀ vs:List Nat,RS C mu H (zas s vs) (L2.wipe σ vs)
 | []=>R
 | v :: vs=>(R.wipes vs).wipe v
theorem RS.hideNew {C:Cfg} {mu:Mu} {H:Hp} {s:Sg} {σ : L2.St} {D:Addr} (R:RS C mu H s σ) (hD:H D=none):RS (C.and D) mu H s σ :=
 ⟨R.len,fun i t h=>let ⟨v,a,b⟩:=R.at_ i t h; ⟨v,a,Rep.hide (C:=C) (C':=C.and D) rfl rfl (zfQ hD) b⟩⟩
def zaJ:DT:=fun _ M => .ok true M
section
variable {X:Cx} {C:Cfg} {W:WX}
theorem Fin.then_ {α β : Type} {o:Out α} {f : α → Mem→Out β} {K : β → Mem→Prop} (h:Fin (o.bind f) K):Fin o fun a M=>Fin (f a M) K:=by
 cases o with
 | ok a M=>exact h
 | er e M=>exact h
 | no=>exact h
theorem zka {α : Type} {o:Out α} {K K' : α → Mem→Prop} (h:Fin o K) (w:∀ a M,K a M→K' a M):Fin o K':=by
 cases o with
 | ok a M=>exact w a M h
 | er e M=>exact h
 | no=>exact h
theorem zow (hK:C.K=X.K) {di:DA} {g:DG} {tt:DT} {de:DE} {vs:List Nat} {m:Bool} {σ : L2.St} {H:Hp} {Q:VK} (h:TEz C W (dLc m di g tt de vs) σ H Q) :
  tLc (iZ C W di) (fun v σ H Q => ∃ hid,TGz (C.with hid) vs g v σ H Q) (fun σ H Q => ∃ hid,TTz (C.with hid) WF tt σ H Q) (fun σ H Q => ∃ hid,TEz (C.with hid) WF de σ H Q) vs σ H Q:=by
 obtain ⟨mu,s,M,R,S,P⟩:=h
 refine ⟨mu,s,M,R,S,Post.bind P fun ts M1 mu1 J H1 R1 E1 w P1 D hD=>?_⟩
 by_cases hz:ts.length≤LIM
 ·rw [if_pos hz] at P1
  have nD:¬ C.hid D:=fun z=>by
   obtain ⟨o,e⟩:=R1.hid D z
   rw [hD] at e; cases e
  have hhD:(C.and D).hid D := .inr rfl
  have S1:RS (C.and D) mu1 H1 (zas s vs) (L2.wipe σ vs):=((S.mono E1).wipes vs).hideNew hD
  -- what the end is to give
  let K:List T→List T→Mem→Prop:=fun done ys M' => ∀ mu' H' acc,RM (C.and D) mu' M' H'→Ext C mu1 H1 mu' H'→H' D=some (.lst acc)→RepL (C.and D) mu' H' (done ++ ys) acc→Q (.ref D) H'
  have P0:Fin (lcL g tt de (zas s vs) ts M1) (K []):=by
   cases e:lcL g tt de (zas s vs) ts M1 with
   | ok ys M'=>
    rw [e] at P1
    intro mu' H' acc R' x hD' r
    obtain ⟨mu2,R2,x2,r2⟩:=zj9 (t := .lst ys) (u := .lst acc) m R' x hD nD hD' r
    exact P1 mu2 (.ref D) H' R2 x2 r2
   | er er M'=>
    -- no exception comes out of the block
    exfalso
    have:∀ (l:List T) (M:Mem) (er:Er) (M':Mem),lcL g tt de (zas s vs) l M = .er er M'→False:=by
     intro l
     induction l with
     | nil=>intro M er M' h; cases h
     | cons t l ih=>
      intro M er M' h
      unfold lcL at h
      split at h
      ·cases h
      ·rename_i s1 _
       cases h1:tt s1 M with
       | ok k Mk=>
        rw [h1] at h
        simp only [Out.noEr,bind_ok] at h
        split at h
        ·cases h2:de s1 Mk with
         | ok y My=>
          rw [h2] at h
          simp only [Out.noEr,bind_ok] at h
          cases h3:lcL g tt de (zas s vs) l My with
          | ok ys Ms=>rw [h3] at h; cases h
          | er e2 Ms=>exact ih _ _ _ h3
          | no=>rw [h3] at h; cases h
         | er e2 Ms=>rw [h2] at h; cases h
         | no=>rw [h2] at h; cases h
        ·exact ih _ _ _ h
       | er e2 Ms=>rw [h1] at h; cases h
       | no=>rw [h1] at h; cases h
    exact this _ _ _ _ e
   | no=>rw [e] at P1; exact P1.elim
  refine ⟨fun i m H=>i + m=ts.length∧∃mu2 M2 acc done,RM (C.and D) mu2 M2 H∧Ext C mu1 H1 mu2 H∧H D=some (.lst acc)∧acc.length≤i∧RepL (C.and D) mu2 H done acc∧Fin (lcL g tt de (zas s vs) (ts.drop i) M2) (K done),
   ⟨ts.length,by omega,mu1,M1,[],[],R1.hideNew hD,Ext.updNew Ext.refl hD,upd_same,Nat.le_refl _,.nil,P0⟩,fun i m H ⟨hm,mu2,M2,acc,done,R2,E2,hD2,hl,r2,P2⟩=>?_⟩
  have wk:=w (C.and D).hid (zfQ hD) i mu2 M2 H R2 (E2.hideNew hD)
  cases m with
  | zero=>
   have e:i=ts.length:=by omega
   rw [e,List.drop_length] at P2
   exact .inl ⟨wk.2 e,P2 mu2 H acc R2 E2 hD2 (by rw [List.append_nil]; exact r2)⟩
  | succ m=>
   have hlt:i < ts.length:=by omega
   obtain ⟨hgo,hy⟩:=wk.1 hlt
   refine .inr ⟨hgo,fun H'=>(i + 1) + m=ts.length∧∃mu2 M2 acc done,RM (C.and D) mu2 M2 H'∧Ext C mu1 H1 mu2 H'∧H' D=some (.lst acc)∧acc.length≤i + 1∧RepL (C.and D) mu2 H' done acc∧Fin (lcL g tt de (zas s vs) (ts.drop (i + 1)) M2) (K done),fun H' h=>⟨m,Nat.lt_succ_self m,h⟩,fun x H3 hyl=>?_⟩
   obtain ⟨t,ht,R3,E3,r3⟩:=hy x H3 hyl
   have ed:ts.drop i=t :: ts.drop (i + 1):=by
    rw [List.drop_eq_getElem_cons hlt]
    congr 1
    rw [List.getElem?_eq_getElem hlt] at ht
    exact Option.some.inj ht
   rw [ed] at P2
   unfold lcL at P2
   cases eg:g t (zas s vs) with
   | none=>simp only [eg] at P2; exact P2.elim
   | some s3=>
    simp only [eg] at P2
    have F3:Ext C mu1 H1 mu2 H3:=E2.trans E3.unhide
    have hD3:H3 D=some (.lst acc):=E3.hid D _ hD2 (fun z=>R2.nh D z hhD) hhD
    refine ⟨(C.and D).hid,mu2,zas s vs,M2,t,s3,R3,S1.mono (F3.hideNew hD),r3,eg,fun σ' S' hw=>⟨by rw [hw,zj2 vs σ vs fun _ h=>h],(C.and D).hid,mu2,s3,M2,R3,S',P2.bind fun k M4 mu4 b H4 R4 E4 r4 P4=>?_⟩⟩
    cases r4
    have F4:Ext C mu1 H1 mu4 H4:=F3.trans E4.unhide
    have hD4:H4 D=some (.lst acc):=E4.hid D _ hD3 (fun z=>R3.nh D z hhD) hhD
    have S4:=S'.mono E4
    cases k with
    | false=>
     exact iteF ⟨by omega,mu4,M4,acc,done,R4,F4,hD4,by omega,(r2.mono E3).mono E4,P4⟩
    | true=>
     rw [if_pos rfl] at P4
     refine iteT ⟨(C.and D).hid,mu4,s3,M4,R4,S4,P4.bind fun y M5 mu5 v H5 R5 E5 r5 P5=>?_⟩
     have F5:Ext C mu1 H1 mu5 H5:=F4.trans E5.unhide
     have hD5:H5 D=some (.lst acc):=E5.hid D _ hD4 (fun z=>R4.nh D z hhD) hhD
     refine ⟨acc,hD5,by rw [← zbC]; omega,by omega,mu5,M5,acc ++ [v],done ++ [y],R5.updH hhD,F5.updNew hD,upd_same,by simp; omega,?_,?_⟩
     ·exact RepL.updH hhD ((((r2.mono E3).mono E4).mono E5).append (.cons r5 .nil))
     ·refine zka P5.then_ fun ys M6 q mu' H' acc' R' x hD' r=>q mu' H' acc' R' x hD' ?_
      rw [List.append_assoc] at r
      exact r
 ·rw [if_neg hz] at P1; exact P1.elim
structure BlkZ (X:Cx) (C:Cfg) (scope:Scope) (own:List (Str × Nat)) (tg:Expr) (ifs:List Expr) (g:DG) (tt:DT):Prop where
 hN:X.N.Nodup
 ok:BlkOk X.N X.env.scope scope own
 hg:∀ (s:Shared) (H:Hp) (D:Addr) (cl:List (Str × Addr)) (fp:List Addr) (hid:Addr→Prop),PG (X.blk s H scope (compEnvC scope cl D X.env) fp) tg (TGz (C.with hid) (own.map (·.2)) g)
 ht:∀ (s:Shared) (H:Hp) (D:Addr) (cl:List (Str × Addr)) (fp:List Addr) (hid:Addr→Prop),PTs (X.blk s H scope (compEnvC scope cl D X.env) fp) ifs (TTz (C.with hid) WF tt)
theorem zfR {X:Cx} {C:Cfg}:PTs X [] (TTz C WF zaJ):=⟨fun pins s σ H Q I ⟨mu,sg,M,R,S,P⟩=>pts_nil.run pins s σ H Q I (P mu true H R Ext.refl rfl)⟩
theorem zox {X:Cx} {C:Cfg} {c:Expr} {t:DT} (h:PT X c (TTz C WF t)):PTs X [c] (TTz C WF t):=pts_one h
theorem zoy (hK:C.K=X.K) (hc:X.calm=true) (m:Bool) {elt tg iter:Expr} {ifs:List Expr} {scope:Scope} {own:List (Str × Nat)} {pos:Pos} {di:DA} {g:DG} {tt:DT} {de:DE} (hi:PI X tg iter (iZ C W di)) (B:BlkZ X C scope own tg ifs g tt)
  (he:∀ (s:Shared) (H:Hp) (D:Addr) (cl:List (Str × Addr)) (fp:List Addr) (hid:Addr→Prop),PE (X.blk s H scope (compEnvC scope cl D X.env) fp) elt (TEz (C.with hid) WF de)) (hs:∀ x,foldedSetIterable iter X.env x=pure x:=by intro _; rfl) :
  PE X (.ListComp elt [⟨tg,iter,ifs,0⟩] scope pos) (TEz C W (dLc m di g tt de (own.map (·.2)))):=
 zbf (pe_lc hc B.hN hi B.ok (fun s H D cl fp=>⟨fun pins s2 σ H2 v u Q I r ⟨hid,q⟩=>(B.hg s H D cl fp hid).run pins s2 σ H2 v u Q I r q⟩) (fun s H D cl fp=>⟨fun pins s2 σ H2 Q I ⟨hid,q⟩=>(B.ht s H D cl fp hid).run pins s2 σ H2 Q I q⟩)
  (fun s H D cl fp=>⟨fun pins s2 σ H2 Q I ⟨hid,q⟩=>(he s H D cl fp hid).run pins s2 σ H2 Q I q⟩) hs) fun _ _ _ h=>zow hK h
end
end Z
end
section
namespace Z
open PySem PySem.Spec PyProof.Rows L2 PySem.SeqAt
section
variable {X:Cx} {C:Cfg} {mu:Mu} {M:Mem} {H:Hp} {pins:List (Addr × Obj)} {σ : L2.St} {s:Shared}
def Sys (X:Cx):Prop := ∃ o,X.base.get? sysModules=some o
theorem Sys.none_ {X:Cx} (S:Sys X) (I:Inv X pins σ H s):H sysModules=none:=let ⟨_,e⟩:=S; (I.bs _ _ e).2
def zeP (M:Mem) (t:T):Option PyData:=match t with
 | .cel i=>(match M[i]? with
  | some (.live u)=>(match u with
   | .lst xs=>toD (.lst xs)
   | .dct ks=>toD (.dct ks)
   | _=>none)
  | _=>none)
 | t=>toD t
theorem zoz (hK:C.K=X.K) (S:Sys X) (I:Inv X pins σ H s) {t:T} {x:V} {v:Value} {d:PyData} (R:RM C mu M H) (r:Rep C mu H t x) (rx:RelV x v) (e:zeP M t=some d):∃ as,Reads s.heap v d as∧sysModules∉as:=by
 have h1:=S.none_ I
 cases t with
 | cel i=>
  unfold zeP at e
  simp only at e
  split at e
  ·rename_i u hu
   obtain ⟨a,o,g1,g2,g3⟩:=R.cell i u hu
   cases r with
   | cel hi hv=>
    have ev:=hv a g1
    subst ev
    cases rx
    split at e
    ·rename_i xs
     obtain ⟨ds,e1,rfl⟩:=Option.map_eq_some_iff.mp e
     unfold CU at g3
     split at g3
     ·rename_i q; cases q
      obtain ⟨its,rv,⟨o,n,ho,hc,_,hd⟩,_⟩:=I.list (X:=X) (.inl (.inl g2))
      obtain ⟨as,hr,hn⟩:=zdr hK I h1 g3 rv e1
      exact ⟨_,.list ho hc hd hr,by simp [hn,(zgG h1 g2).symm]⟩
     ·rename_i q; cases q
     ·rename_i q; cases q
     ·exact g3.elim
    ·rename_i ks
     obtain ⟨ds,e1,rfl⟩:=Option.map_eq_some_iff.mp e
     unfold CU at g3
     split at g3
     ·rename_i q; cases q
     ·rename_i q; cases q
      obtain ⟨_,hs,vs,kv,o,es,ep,ho,hx,hd,_,pr,_⟩:=dk_rd I.hok (.inl g2)
      obtain ⟨as,bs,r1,r2,n1,n2⟩:=zgI hK I h1 g3 kv pr e1
      refine ⟨_,.dict ho hx.1 hd r1 r2,?_⟩
      intro z
      rcases List.mem_append.mp z with z | z
      ·rcases List.mem_cons.mp z with z | z
       ·rw [← z] at hs; simp at hs
       ·exact n1 z
      ·exact n2 z
     ·rename_i q; cases q
     ·exact g3.elim
    ·cases e
  ·cases e
 | _=>exact zgH hK I h1 r rx e
def za1:OpN:=fun ts M=>match ts with
 | [t]=>(match zeP M t with
  | some d=>if d.showable=true∧d.depth≤40∧d.shown.length≤LIM then some (.str d.shown,M) else none
  | none=>none)
 | _=>none
theorem zd3 (hK:C.K=X.K) (S:Sys X) (hg:X.A.guards=some []) (hu:X.A.units + 64 < cLine):CallR X (.builtin "repr") (rN C za1):=fun pins s σ H xs us Q I rs ⟨mu,M,ts,t',M',R,r,e,q⟩=>by
 unfold za1 at e
 split at e
 ·rename_i t
  obtain ⟨x,rfl,rt⟩:=r.one
  obtain ⟨u,rfl,rx⟩:=vals1 rs
  split at e
  ·rename_i d hd
   split at e
   ·rename_i hc
    cases e
    obtain ⟨h1,h2,h3⟩:=hc
    rw [zbC] at h3
    obtain ⟨as,hr,hn⟩:=zoz hK S I R rt rx hd
    have fin:∀ h' u tk,(∀ b o,s.heap.get? b=some o→h'.get? b=some o)→EP X pins σ Q (.str d.shown u) {s with heap:=h',toks:=tk}:=fun h' u tk hk=>⟨.str d.shown,H,I.kept (t':=tk) hk,⟨u,rfl⟩,q mu _ H R Ext.refl (.str _)⟩
    cases hr with
    | none=>exact PySem.P.repr_of_none (fin s.heap s.toks _ fun _ _ e=>e)
    | bool b=>exact PySem.P.repr_of_bool (fin s.heap s.toks _ fun _ _ e=>e)
    | int i t=>exact PySem.P.repr_of_int (by simpa [PyData.showable] using h1) (fin s.heap s.toks _ fun _ _ e=>e)
    | str z t=>exact PySem.P.repr_of_str (fin s.heap s.toks _ fun _ _ e=>e) h3
    | list a b c d=>exact repr_of_reads' (.list a b c d) h1 (fun _=>hn) hg (by omega) (fun _ _ e=>e) fin h3
    | tuple a b c d=>exact repr_of_reads' (.tuple a b c d) h1 (fun _=>hn) hg (by omega) (fun _ _ e=>e) fin h3
    | dict a b c d f=>exact repr_of_reads' (.dict a b c d f) h1 (fun _=>hn) hg (by omega) (fun _ _ e=>e) fin h3
   ·cases e
  ·cases e
 ·cases e
end
end Z
end
section
namespace Z
open PySem PySem.Spec PyProof.Rows L2 PySem.SeqAt
def zaE (k:Nat) (ts:List T):Sg:=ts.map some ++ List.replicate (k - ts.length) none
def runD (k:Nat) (b:DS):DF:=fun ts M=>match b (zaE k ts) M with
 | .nx _ M' => .ok .non M'
 | .rt t M' => .ok t M'
 | .er e _ M' => .er e M'
 | _ => .no
theorem RepL.getO {C:Cfg} {mu:Mu} {H:Hp} {ts:List T} {vs:List V} (r:RepL C mu H ts vs) (N:List Str):RS C mu H (zaE N.length ts) (L2.start N vs):=by
 refine ⟨by unfold zaE L2.start; simp [r.length],fun i t h=>?_⟩
 unfold zaE at h
 unfold L2.start
 by_cases hi:i < ts.length
 ·rw [List.getElem?_append_left (by simpa using hi)] at h
  rw [List.getElem?_map,List.getElem?_eq_getElem hi] at h
  have e:ts[i]=t:=by simpa using h
  obtain ⟨v,h1,h2⟩:=r.get (i:=i) (t:=t) (by rw [List.getElem?_eq_getElem hi,e])
  refine ⟨v,?_,h2⟩
  rw [List.getElem?_append_left (by rw [List.length_map,← r.length]; exact hi),List.getElem?_map,h1]
  rfl
 ·rw [List.getElem?_append_right (by simpa using hi)] at h
  have:(List.replicate (N.length - ts.length) (none:Option T))[i - (ts.map some).length]?=some (some t):=h
  rw [List.getElem?_replicate] at this
  split at this <;> cases this
section
variable {CX:CXT} {P:Program} {w:World} {K:PySem.W.Frag} {mg:Str→Option Value} {base:Heap} {k n:Nat} {f:Addr} {x qual:Str} {params:Arguments} {body:List Stmt} {scope:Scope} {dvs:List V} {kws:List (Str × V)} {fd:FuncData} {N ps:List Str} {C:Cfg}
abbrev WD (E:XK):WX:=fun c d _ H'=>E c d H'
theorem zbO {b:DS} (F:FunD K x qual params body scope dvs kws f fd) (S:FnScope N ps scope) (hn:ps.length=n)
  (hbody:∀ (cdv:Value) (A:Around) (outer:List Env) (s:Shared) (H:Hp) (E:XK) (hid:Addr→Prop),Room k (A.deeper (envOfC qual scope s.heap.objs.size f cdv))→A.guards=some [] →
   PSs (cxOf CX P w K mg base N qual scope f cdv A outer s H E) body (TSz (C.with hid) (WD E) b)):FnG P w K mg base CX (k + 1) f fd ps (SpZ C n (runD N.length b)):=by
 refine zn0 F S (fun vs H Q E h=>h.1.trans hn.symm) fun cdv A outer s H vs Q E hr hg h=>⟨fun D σ H => ∃ hid,TSz (C.with hid) (WD E) b D σ H,?_,?_⟩
 ·exact ⟨fun pins s2 σ H2 D I ⟨hid,q⟩=>(hbody cdv A outer s H E hid hr hg).run pins s2 σ H2 D I q⟩
 ·obtain ⟨_,hid,mu,M,ts,R,r,Po⟩:=h
  refine ⟨hid,mu,zaE N.length ts,M,R,r.getO N,?_⟩
  unfold runD at Po
  cases e:b (zaE N.length ts) M with
  | nx s1 M1=>rw [e] at Po; exact fun mu' σ' H' R' E' _=>Po mu' .non H' R' E' .non
  | rt t M1=>rw [e] at Po; exact fun mu' v H' R' E' r'=>Po mu' v H' R' E' r'
  | bk s1 M1=>rw [e] at Po; exact Po.elim
  | ct s1 M1=>rw [e] at Po; exact Po.elim
  | er er s1 M1=>rw [e] at Po; exact fun mu' σ' c d H' R' E' _ r'=>Po mu' c d H' R' E' r'
  | no=>rw [e] at Po; exact Po.elim
end
theorem zoA {P:Program} {w:World} {K:PySem.W.Frag} {mg mb:Str→Option Value} {k:Nat} {fa a:Addr} {fd:FuncData} {x:Str} {sp:Sp} {s₁ : Shared} {vs:List Value} {ns:List Int}
  (KX:K.In s₁.heap) (hns:s₁.heap.Ns mainGlobals mg) (hb:s₁.heap.Ns builtinsNs mb) (hbb:∀ x:Str,x ≠ "__name__" → mb x=bootBuiltins x) (hlim:s₁.heap.NoLimit) (hg:s₁.gens = #[])
  (ha:s₁.heap.get? a=some {cls := .type "list",data := .seq vs.toArray}) (hi:IntsAre vs ns) (hl:ns.length≤sizeLine) (hr:Room k callerA) (hK:K.lookup a=none) (hsys:∃ o,s₁.heap.get? sysModules=some o∧o.cls ≠ .type "list")
  (F:∀ base:Heap,K.In base→base.Ns mainGlobals mg→(∃ o,base.get? sysModules=some o)→FnG P w K mg base (L2.CX P w) k fa fd [x] sp) (hbind:∀ (s:Shared) (u:Value),BindsTo s fd ⟨[u],[]⟩ [(x,u)])
  (hsp:∀ (H:Hp) (od:Obj),H a=some (.frz od (.lst (ns.map V.int)))→sp [.ref a] H (fun v _=>v = .bl true) fun _ _ _=>False) :
  codeAny (model P w) callerA (.call (.ref fa) ⟨[.ref a],[]⟩) (fun r s'=>r = .ok (.ret (.bool true))∧OldK s₁.heap s'.heap∧s'.os=s₁.os∧AllBare s'.gens) s₁ := by
 have rv:=vals_ints hi
 let sc:HO := .frz {cls := .type "list",data := .seq vs.toArray} (.lst (ns.map V.int))
 let H:Hp:=fun b=>if b=a then some sc else none
 have Ha:H a=some sc:=if_pos rfl
 have Hn:∀ b,b≠a→H b=none:=fun b h=>if_neg h
 have Hs:∀ b u,H b=some u→b=a∧u=sc:=fun b u e=>by
  by_cases h:b=a
  ·subst h; rw [Ha] at e; exact ⟨rfl,(Option.some.inj e).symm⟩
  ·rw [Hn b h] at e; cases e
 have hok:HOk P w H s₁.heap:=fun b u e=>by
  obtain ⟨rfl,rfl⟩:=Hs b u e
  exact ⟨ha,by rw [List.length_map]; exact hl,vs,_,rv,ha⟩
 -- the rest of the heap
 have inB:∀ {b:Addr} {o:Obj},s₁.heap.get? b=some o→b≠a→(hidT s₁.heap H).get? b=some o:=fun e n=>hidT_get e (Hn _ n)
 have dictN:∀ {b:Addr} {o:Obj} {es:Array DictEntry} {ep:Nat},s₁.heap.get? b=some o→o.data = .dict es ep→b≠a:=fun {b o es ep} e d z=>by
  subst z
  rw [ha] at e; cases e; cases d
 have nsB:∀ {b:Addr} {m:Str→Option Value},s₁.heap.Ns b m→(hidT s₁.heap H).Ns b m:=fun {b m} ⟨o,es,ep,e,d,r⟩=>⟨o,es,ep,inB e (dictN e d),d,r⟩
 have KB:K.In (hidT s₁.heap H):=fun b o e=>inB (KX b o e) fun z=>by subst z; rw [hK] at e; cases e
 have sysB:∃ o,(hidT s₁.heap H).get? sysModules=some o:=by
  obtain ⟨o,e,hc⟩:=hsys
  refine ⟨o,inB e fun z=>hc ?_⟩
  rw [z,ha] at e; cases e; rfl
 have hM:Mod K mg (hidT s₁.heap H):=⟨KB,nsB hns,⟨mb,nsB hb,hbb⟩,let ⟨mc,h1,h2⟩:=hlim; ⟨mc,nsB h1,h2⟩⟩
 have e0:Env0 P w K mg (hidT s₁.heap H) callerA [] s₁ H:=⟨rfl,hM,fun b o e=>of_hidT e,Nat.le_of_eq (hidT_size _ _),trivial,fun b hb=>absurd (show b∈([]:List Addr) from hb) (by simp),hok,.of_eq hg⟩
 refine codeAny_mono ((F _ KB (nsB hns) sysB).run callerA [] s₁ H ⟨[.ref a],[]⟩ [.ref a] [.ref a] _ _ hr rfl e0 (hbind s₁ (.ref a)) (.cons rfl .nil) (hsp H _ Ha)) fun r s' h=>?_
 cases r with
 | error e=>
  obtain ⟨_,_,_,_,_,_,_,_,_,_,_,_,h⟩:=h
  exact h.elim
 | ok fl=>
  cases fl with
  | next=>exact h.elim
  | brk=>exact h.elim
  | cont=>exact h.elim
  | ret u=>
   obtain ⟨v,H',os,bare,un,hok',r',q⟩:=h
   have q':v = .bl true:=q
   subst q'
   obtain rfl:u=Value.bool true:=r'
   refine ⟨rfl,OldK.of_keep fun b o e=>?_,os,bare⟩
   by_cases h:b=a
   ·subst h
    obtain ⟨e1,_⟩:=hok b _ Ha
    obtain ⟨e2,_⟩:=hok' b _ (un.frzs b _ _ Ha)
    rw [e] at e1; cases e1
    exact e2
   ·exact un.keep b o e (Hn b h) (fun z=>absurd (show b∈([]:List Addr) from z) (by simp)) (by simp)
end Z
end
section
namespace Z
open PySem PySem.Spec PyProof.Rows L2 PySem.SeqAt
theorem zoB {n:Nat} {fa:List He.Fa} {fn:List He.DefD} {tabs:List TabS} {xs:Xs} {g:Addr→Option Obj} {s:Shared} (h:∀ a,g a=s.heap.get? a):obsZ n fa fn tabs xs g=(zi6 n fa fn tabs xs).obs s:=by
 have e:g=s.heap.get?:=funext h
 rw [e] <;> rfl
theorem ModK.x {fa:List He.Fa} {fn:List He.DefD} {tabs:List TabS} {xs:Xs} {w:World} {K:PySem.W.Frag} (M:ModK fa fn tabs xs w K) (i:Nat) {f:PySem.W.Frag→Bool} (h:xs[i]?=some f):f K=true:=List.all_eq_true.mp M.ext f (List.mem_of_getElem? h)
theorem zkb {a:Addr} {o:Obj}:∀ {K:PySem.W.Frag},K.lookup a=some o→(a,o)∈K
 | [],e=>nomatch (show (none:Option Obj)=some o from e)
 | (b,u) :: r,e=>by
  by_cases h:a=b
  ·subst h
   have:(some u:Option Obj)=some o:=by simpa [List.lookup_cons] using e
   cases this
   exact List.mem_cons_self ..
  ·have hb:(a == b)=false:=by simpa using h
   rw [List.lookup_cons,hb] at e
   exact List.mem_cons_of_mem _ (zkb e)
theorem zoC {vs:List Value} {ns:List Int} (h:IntsAre vs ns):(vs.any fun v=>match v with
  | .ref _=>true
  | _=>false)=false:=by
 induction h with
 | nil=>rfl
 | cons n t h ih=>exact ih
theorem zoD {K:PySem.W.Frag} (h:zgJ K=true) {a:Addr} {vs:List Value} {ns:List Int} (hi:IntsAre vs ns) (e:K.lookup a=some {cls := .type "list",data := .seq vs.toArray}):False:=by
 have hm:=zkb e
 have z:=List.all_eq_true.mp h _ hm
 simp [ziZ,zoC hi] at z
theorem walk_ofG {l:PySem.W.OpenLaw} {n k:Nat} {q:Program} {loose:List Str} {XP:(Str→Option Value)→Heap→Prop} {fa:List He.Fa} {fn:List He.DefD} {tabs:List TabS} {xs:Xs} {d:DefRec} {x:Str}
  (hn:l.most=some n) (hn2:n≤sizeLine) (hdf:d.params.defaults = []) (hr:Room k callerA)
  (F:∀ (w:World) (mg:Str→Option Value) (f:Addr) (h:Heap) (K:PySem.W.Frag),K.In h→ModK fa fn tabs xs w K→h.Ns mainGlobals mg→mg d.name=some (.ref f) →
   ∃ (fd:FuncData) (sp:Sp),(∀ (s:Shared) (u:Value),BindsTo s fd ⟨[u],[]⟩ [(x,u)]) ∧
    (∀ (H:Hp) (a:Addr) (ns:List Int) (od:Obj),ns.length≤n→H a=some (.frz od (.lst (ns.map V.int)))→sp [.ref a] H (fun v _=>v = .bl true) fun _ _ _=>False) ∧
    ∀ base:Heap,K.In base→base.Ns mainGlobals mg→(∃ o,base.get? sysModules=some o)→FnG l.prog w K mg base (L2.CX l.prog w) k f fd [x] sp) :
  PySem.W.WalkO q loose XP (fun w h=>zi5 fa fn tabs xs w h) l.row.toRowW d [] (fun f vs=>PySem.call f vs):=by
 refine Att.attach_call hn hdf fun w s₀ s₁ mg mb f o pm cd doc a vs ns G Y ho hd hcd hmg hobj hints hlen hg=>?_
 obtain ⟨K,KX,c,sys⟩:=Y
 obtain ⟨fd,sp,hb,hsp,hF⟩:=F w mg f _ K KX c G.T.g hmg
 have hKa:K.lookup a=none:=by
  cases e:K.lookup a with
  | none=>rfl
  | some oa=>
   exfalso
   have e2:=KX a oa e
   rw [hobj] at e2
   cases e2
   exact zoD c.nl hints e
 exact zoA KX G.T.g G.T.b G.T.builtins G.T.nolimit hg hobj hints (Nat.le_trans hlen hn2) hr hKa sys hF hb fun H od hH=>hsp H a ns od hlen hH
end Z
end
section
namespace Z
open PySem PySem.Spec PyProof.Rows L2 PySem.SeqAt
def runN (F:DF) (ts:List T) (M:Mem):Out T:=if zau ts=true then (match F ts [] with
 | .ok (.cel i) M'=>(match M'[i]? with
  | some (.live u)=>if zal u=true then .ok (.cel M.length) (M ++ [.live u]) else .no
  | _ => .no)
 | .er e _=>if za4 e.fs=true then .er e M else .no
 | _ => .no) else .no
def zoE (n:Nat) (F:DF) (dts:List T) (da:DA):DE:=fun s M=>(da s M).bind fun ts M1=>if (ts ++ dts).length=n then runN F (ts ++ dts) M1 else .no
section
variable {C:Cfg} {mu mu':Mu} {M:Mem} {H:Hp} {n:Nat} {F:DF} {Q:VK} {E:XK}
end
section
variable {X:Cx} {C:Cfg} {W:WX} {CX:CXT} {n:Nat} {F:DF} {dts:List T} {x:Str} {p pos:Pos} {es:List Expr} {da:DA}
end
end Z
end
section
namespace Z
open PySem PySem.Spec PyProof.Rows L2 PySem.SeqAt
section
variable {X:Cx} {C:Cfg} {W:WX} {x:Str} {pos:Pos}
theorem s1o {t:T} {v:V} (hg:Gl X x) (h:∃ u,X.mg x=some u∧RelV v u) (r:∀ mu H,Rep C mu H t v) (hd:(x == ("__debug__" : Str))=false:=by decide):PE X (.Name x pos) (TEz C W (dC t)):=
 s8 (by obtain ⟨u,hm,rr⟩:=h; exact pe_glob hg hm rr hd) r
theorem s1h {n:String} (hg:Gl X x) (hm:X.mg x=none) (hv:bootBuiltins x=some (.type n)) (hn:x ≠ "__name__" := by decide) (hd:(x == ("__debug__" : Str))=false:=by decide):PE X (.Name x pos) (TEz C W (dC (.ty n))):=
 ⟨fun pins s σ H Q I ⟨mu,sg,M,R,S,P⟩=>ld_blt I hg hm hv ⟨.ty n,H,I,rfl,P mu (.ty n) H R Ext.refl (.ty n)⟩ hn hd⟩
def zoF (ks:List (Str × Str)) (de:DE):DE:=fun s M=>(de s M).bind fun t M1=>match t with
 | .str z => .ok (match ks.lookup z with
  | some y => .str y
  | none => .non) M1
 | _ => .no
def zoG (b:DS):DS:=fun s M=>match b s M with
 | .er _ _ _ => .no
 | o=>o
end
structure CalG (P:Program) (w:World) (K:PySem.W.Frag) (mg:Str→Option Value) (base:Heap) (C:Cfg) (x:Str) (k n:Nat) (F:DF) (dts:List T):Prop where
 ex:∃ (f:Addr) (fd:FuncData) (ps:List Str) (ds:List Value) (dvs:List V),FnG P w K mg base (L2.CX P w) k f fd ps (SpZ C n F)∧mg x=some (.ref f)∧PySem.W.keepIn K (.ref f)=true ∧
  Binds K fd ps ds∧Vals dvs ds∧(∀ hid mu H,RepL (C.with hid) mu H dts dvs)
theorem CalG.z {X:Cx} {C:Cfg} {x:Str} {j k n:Nat} {F:DF} {dts:List T} (c:CalG X.prog X.w X.K X.mg X.base C x k n F dts) (hr:Room j X.A) (hk:k≤j) (hgu:X.A.guards=some []) (hg:Gl X x) (hid:Addr→Prop) (hd:(x == ("__debug__" : Str))=false:=by decide):CalZ X (C.with hid) (L2.CX X.prog X.w) x n F dts:=by
 obtain ⟨f,fd,ps,ds,dvs,h1,h2,h3,h4,h5,h6⟩:=c.ex
 exact ⟨k,f,fd,ps,ds,dvs,h1,hr.mono hk,hgu,hg,h2,h3,h4,h5,fun hid' mu H=>h6 hid' mu H,hd⟩
theorem zoH {X:Cx} {W:WX} (tk:Takes X W):∀ σ,PassesAt (L2.CX X.prog X.w) X σ (WE W σ):=fun σ => passAt tk σ
theorem zhj {X:Cx}:Takes X WF:=takes_none5
end Z
end
section
namespace L2
open PySem PySem.Spec PyProof.Rows
end L2
namespace Z
open PySem PySem.Spec PyProof.Rows L2 PySem.SeqAt
section
variable {X:Cx} {C:Cfg} {W:WX}
def zbZ (i:Nat) (b:DS):DS:=fun s M=>match s[i]? with
 | some (some t)=>(match frz za3 t M with
  | some (t',M')=>b (s.set i (some t')) M'
  | none => .no)
 | _ => .no
theorem RS.setT {mu:Mu} {H:Hp} {s:Sg} {σ : L2.St} {t:T} {v:V} {i:Nat} (R:RS C mu H s σ) (hv : σ[i]?=some (some v)) (r:Rep C mu H t v):RS C mu H (s.set i (some t)) σ := by
 refine ⟨by simpa using R.len,fun j t2 h=>?_⟩
 by_cases hj:j=i
 ·subst hj
  have hl:j < s.length:=by
   have:=(List.getElem?_eq_some_iff.mp h).1
   simpa using this
  rw [List.getElem?_set_self hl] at h
  cases h
  exact ⟨v,hv,r⟩
 ·rw [List.getElem?_set_ne (Ne.symm hj)] at h
  exact R.at_ j t2 h
theorem zoI {sts:List Stmt} {b:DS} (i:Nat) (h:PSs X sts (TSz C W b)):PSs X sts (TSz C W (zbZ i b)):=
 zfv h fun D σ H ⟨mu,s,M,R,S,P⟩=>by
  unfold zbZ at P
  split at P
  ·rename_i t ht
   split at P
   ·rename_i t' M' e
    obtain ⟨v,hv,rv⟩:=S.at_ i t ht
    obtain ⟨mu',R',E',r'⟩:=zhc za3 t M M' t' mu H v R rv e
    exact ⟨mu',_,M',R',(S.mono E').setT hv r',PostS.ext P E'⟩
   ·exact P.elim
  ·exact P.elim
end
section
variable {C:Cfg} {mu:Mu} {M:Mem} {H:Hp} {n:Nat}
end
def zhk (n:Nat):Option T→Bool
 | none=>true
 | some t=>zaF n t
def trim (n:Nat) (vs:List Nat) (s:Sg) (M:Mem):Option (Sg × Mem):=
 if M.length=n then some (zas s vs,M) else if n≤M.length∧(zas s vs).all (zhk n)=true∧(M.take n).all (zaY n)=true then some (zas s vs,M.take n) else some (zas s vs,M)
def zaP (vs:List Nat) (b:DS):DS:=fun s M=>match b s M with
 | .nx s2 M2=>(match trim M.length vs s2 M2 with
  | some (s3,M3) => .nx s3 M3
  | none => .no)
 | .ct s2 M2=>(match trim M.length vs s2 M2 with
  | some (s3,M3) => .ct s3 M3
  | none => .no)
 | .bk s2 M2=>(match trim M.length vs s2 M2 with
  | some (s3,M3) => .bk s3 M3
  | none => .no)
 | o=>o
section
variable {X:Cx} {C:Cfg} {W:WX}
theorem RS.lessW {mu:Mu} {H:Hp} {s:Sg} {σ : L2.St} (R:RS C mu H s σ):∀ vs:List Nat,RS C mu H (zas s vs) σ
 | []=>R
 | v :: vs=>by
  have ih:=R.lessW vs
  refine ih.less (by show ((zas s vs).set v none).length=_; rw [List.length_set]) fun i t h=>?_
  have h:((zas s vs).set v none)[i]?=some (some t):=h
  by_cases hi:v=i
  ·subst hi
   by_cases hv:v < (zas s vs).length
   ·rw [List.getElem?_set_self hv] at h; cases h
   ·rw [List.getElem?_eq_none (by simpa using hv)] at h; cases h
  ·rw [List.getElem?_set_ne hi] at h; exact h
theorem zhl {mu:Mu} {H:Hp} {s s3:Sg} {M M3:Mem} {σ : L2.St} {n:Nat} {vs:List Nat} {mu0:Mu} {H0:Hp} (R:RM C mu M H) (S:RS C mu H s σ) (x:Ext C mu0 H0 mu H) (h0:mu0.length=n) (e:trim n vs s M=some (s3,M3)) :
  ∃ mu',RM C mu' M3 H∧RS C mu' H s3 σ ∧ Ext C mu0 H0 mu' H:=by
 unfold trim at e
 split at e
 ·cases e
  exact ⟨mu,R,S.lessW vs,x⟩
 ·split at e
  ·rename_i c
   cases e
   obtain ⟨c1,c2,c3⟩:=c
   have hm:n≤mu.length:=by rw [R.len]; exact c1
   refine ⟨mu.take n,R.cut c1 c3,⟨(S.lessW vs).len,fun i t h=>?_⟩,x.cut (Nat.le_of_eq h0) hm⟩
   obtain ⟨v,g1,g2⟩:=(S.lessW vs).at_ i t h
   have:=List.all_eq_true.mp c2 _ (List.mem_of_getElem? h)
   exact ⟨v,g1,g2.cut hm this⟩
  ·cases e
   exact ⟨mu,R,S.lessW vs,x⟩
theorem zoJ {sts:List Stmt} {b:DS} (vs:List Nat) (h:PSs X sts (TSz C W b)):PSs X sts (TSz C W (zaP vs b)):=
 zfv h fun D σ H ⟨mu,s,M,R,S,P⟩=>⟨mu,s,M,R,S,by
  unfold zaP at P
  cases e:b s M with
  | nx s2 M2=>
   rw [e] at P
   simp only at P
   split at P
   ·rename_i s3 M3 q
    intro mu' σ' H' R' E' S'
    obtain ⟨mu2,R2,S2,E2⟩:=zhl R' S' E' R.len q
    exact P mu2 σ' H' R2 E2 S2
   ·exact P.elim
  | ct s2 M2=>
   rw [e] at P
   simp only at P
   split at P
   ·rename_i s3 M3 q
    intro mu' σ' H' R' E' S'
    obtain ⟨mu2,R2,S2,E2⟩:=zhl R' S' E' R.len q
    exact P mu2 σ' H' R2 E2 S2
   ·exact P.elim
  | bk s2 M2=>
   rw [e] at P
   simp only at P
   split at P
   ·rename_i s3 M3 q
    intro mu' σ' H' R' E' S'
    obtain ⟨mu2,R2,S2,E2⟩:=zhl R' S' E' R.len q
    exact P mu2 σ' H' R2 E2 S2
   ·exact P.elim
  | rt t M2=>rw [e] at P; exact P
  | er er s2 M2=>rw [e] at P; exact P
  | no=>rw [e] at P; exact P⟩
def zaN (vs:List Nat) (b:DS):DS:=fun s M=>b (zas s vs) M
theorem sk {st:Stmt} {b:DS} (vs:List Nat) (h:PS X st (TSz C W b)):PS X st (TSz C W (zaN vs b)):=
 zds h fun D σ H ⟨mu,s,M,R,S,P⟩=>⟨mu,zas s vs,M,R,S.lessW vs,P⟩
def zaH (di:DA) (g:DG) (b:DS) (vs:List Nat):DS:=zaN vs (zj1 di g (zaP vs b))
theorem s1p {ws:List Nat} {tg iter:Expr} {body:List Stmt} {di:DA} {g:DG} {b:DS} {pos:Pos} (vs:List Nat) (hp:PassesOwn (model X.prog X.w) X.A X.env X.xe) (hc:X.calm=true) (hi:PI X tg iter (iZ C W di)) (hg:PG X tg (TGz C ws g)) (hb:PSs X body (TSz C W b))
  (hs:∀ x,foldedSetIterable iter X.env x=pure x:=by intro _; rfl):PS X (.For tg iter body [] pos) (TSz C W (zaH di g b vs)):=sk vs (zou hp hc hi hg (zoJ vs hb) hs)
def zfS (tc:DT) (b:DS) (vs:List Nat):DS:=zaN vs (zoa tc (zaP vs b))
def zcD (da dd:DE):DE:=fun s M=>(da s M).bind fun t M1=>(dd s M1).bind fun u M2=>match (listOf M2 t).bind zb9 with
 | some [] => .ok u M2
 | some (i :: r) => .ok (.int (zbG (i :: r))) M2
 | none => .no
abbrev DP:=Sg→Mem→Out (List (Str × T))
def zd4:DP:=fun _ M => .ok [] M
end
end Z
end
section
namespace Z
open PySem PySem.Spec PyProof.Rows L2 PySem.SeqAt
def zd5 (dk dv:DE) (dr:DP):DP:=fun s M=>(dk s M).noEr.bind fun t M1=>(dv s M1).noEr.bind fun u M2=>(dr s M2).bind fun r M3=>match t with
 | .str k => .ok ((k,u) :: r) M3
 | _ => .no
section
variable {X:Cx} {C:Cfg} {W:WX} {pos:Pos}
def TDz (C:Cfg) (d:DP):L2.St→Hp→(List (V × V)→Hp→Prop)→Prop:=fun σ H Q => ∃ mu s M,RM C mu M H∧RS C mu H s σ ∧
 Fin (d s M) fun ps M' => ∀ mu' kvs H',RM C mu' M' H'→Ext C mu H mu' H'→RepD C mu' H' ps kvs→Q (kvs.map fun kv=>(kV kv.1,kv.2)) H'
structure PZ (X:Cx) (C:Cfg) (pos:Pos) (keys:List (Option Expr)) (values:List Expr) (d:DP):Prop where
 ex:∃ trs,PPs X pos keys values trs∧∀hid σ H Q,TDz (C.with hid) d σ H Q→tPairs trs σ H Q
theorem zkc:PZ X C pos [] [] zd4:=⟨[],pps_nil,fun hid σ H Q ⟨mu,s,M,R,S,P⟩=>P mu [] H R Ext.refl .nil⟩
theorem zkd {k v:Expr} {ks:List (Option Expr)} {vs:List Expr} {dk dv:DE} {dr:DP} (hk:∀ hid,PE X k (TEz (C.with hid) WF dk)) (hv:∀ hid,PE X v (TEz (C.with hid) WF dv)) (hr:PZ X C pos ks vs dr):PZ X C pos (some k :: ks) (v :: vs) (zd5 dk dv dr):=by
 obtain ⟨trs,h1,h2⟩:=hr.ex
 refine ⟨_,pps_cons (tk:=fun σ H Q => ∃ hid,TEz (C.with hid) WF dk σ H Q) (tv:=fun σ H Q => ∃ hid,TEz (C.with hid) WF dv σ H Q) ⟨fun pins s σ H Q I ⟨hid,q⟩=>(hk hid).run pins s σ H Q I q⟩ ⟨fun pins s σ H Q I ⟨hid,q⟩=>(hv hid).run pins s σ H Q I q⟩ h1,fun hid σ H Q ⟨mu,s,M,R,S,P⟩=>?_⟩
 refine ⟨hid,mu,s,M,R,S,Fin.bind P fun t M1 mu1 x H1 R1 E1 r1 P1=>?_⟩
 refine ⟨hid,mu1,s,M1,R1,S.mono E1,Fin.bind P1 fun u M2 mu2 y H2 R2 E2 r2 P2=>?_⟩
 refine h2 hid σ H2 _ ⟨mu2,s,M2,R2,(S.mono E1).mono E2,zka (Fin.then_ P2) fun ps M3 P3 mu3 kvs H3 R3 E3 r3=>?_⟩
 split at P3
 ·rename_i z
  have r1':=(r1.mono E2).mono E3
  cases r1'
  exact P3 mu3 ((.inr z,y) :: kvs) H3 R3 ((E1.trans E2).trans E3) (.cons (r2.mono E3) r3)
 ·exact P3.elim
def zdD (m:Bool) (d:DP):DE:=fun s M=>match d s M with
 | .ok ps M1=>if ps.length≤15 then lift (some (mk m (.dct (zcB [] ps)) M1)) else .no
 | _ => .no
theorem s1g (m:Bool) {keys:List (Option Expr)} {values:List Expr} {d:DP} (h:PZ X C pos keys values d) (hall:keys.all (·.isSome)=true) (hl:keys.length=values.length) (h0:keys ≠ []) (h15:keys.length≤15):PE X (.Dict keys values pos) (TEz C W (zdD m d)):=by
 obtain ⟨trs,h1,h2⟩:=h.ex
 refine zbf (pe_disp h1 hall hl h0 h15) fun σ H Q ⟨mu,s,M,R,S,P⟩ p hp=>?_
 have nD:¬ C.hid p:=fun z=>by
  obtain ⟨o,e⟩:=R.hid p z
  rw [hp] at e; cases e
 have hh:(C.and p).hid p := .inr rfl
 have E0:Ext C mu H mu (upd H p (.dK [])):=Ext.new hp
 refine h2 (C.and p).hid σ (upd H p (.dK [])) _ ⟨mu,s,M,R.hideNew hp,(S.hideNew hp).mono (Ext.new hp),?_⟩
 unfold zdD at P
 cases e:d s M with
 | er er M1=>rw [e] at P; exact P.elim
 | no=>rw [e] at P; exact P.elim
 | ok ps M1=>
  rw [e] at P
  simp only at P
  by_cases c:ps.length≤15
  ·rw [if_pos c] at P
   intro mu1 kvs H1 R1 E1 r1
   have hD:H1 p=some (.dK []):=E1.hid p _ upd_same (R.fresh hp) hh
   refine ⟨hD,kvs,rfl,by rw [← r1.length]; exact c,?_⟩
   have R2:=R1.updH (o := .dK (mergeK [] kvs)) hh
   have r2:RepD (C.and p) mu1 (upd H1 p (.dK (mergeK [] kvs))) (zcB [] ps) (mergeK [] kvs):=RepD.merge (RepD.updH hh r1) .nil
   have x2:Ext C mu H mu1 (upd H1 p (.dK (mergeK [] kvs))):=by
    have x1:Ext C mu H mu1 H1:=E0.trans E1.unhide
    exact Ext.updNew x1 hp
   obtain ⟨mu2,R3,x3,r3⟩:=zj9 (t := .dct (zcB [] ps)) (u := .dK (mergeK [] kvs)) m R2 x2 hp nD upd_same r2
   exact P mu2 (.ref p) _ R3 x3 r3
  ·rw [if_neg c] at P; exact P.elim
end
end Z
end
section
namespace Z
open PySem PySem.Spec PyProof.Rows L2 PySem.SeqAt
def Ix.blk (J:Ix) (b:Scope):Ix:=⟨J.N,relS b J.sc,fun x=>b.names.lookup x == some .cell,J.hot⟩
def Ix.su (J:Ix):Ix:=⟨J.N,J.sc,J.fn,true⟩
def isK (sc:Scope) (x:Str) (k:NameKind):Bool:=match sc.names.lookup x with
 | some j=>decide (j=k)
 | none=>false
theorem zke {sc:Scope} {x:Str} {k:NameKind} (h:isK sc x k=true):sc.names.lookup x=some k:=by
 unfold isK at h
 split at h
 ·rename_i j e
  rw [e,of_decide_eq_true h]
 ·cases h
def zeQ (x:Str):Bool := !(x == ("__debug__" : Str)) && !(x == ("__classdict__" : Str)) && !(decide (x=("__name__" : Str)))
theorem zcE {x:Str} (h:zeQ x=true):(x == ("__debug__" : Str))=false∧(x == ("__classdict__" : Str))=false∧x ≠ "__name__" := by
 unfold zeQ at h
 simp only [Bool.and_eq_true,Bool.not_eq_true',decide_eq_false_iff_not] at h
 exact ⟨h.1.1,h.1.2,h.2⟩
def zaj (J:Ix) (i:Nat) (x:Str):Bool:=atB J.N i x && (isK J.sc x .local || isK J.sc x .cell || isK J.sc x .free) && zeQ x
def stB (J:Ix) (i:Nat) (x:Str):Bool:=atB J.N i x && (isK J.sc x .local || isK J.sc x .cell) && (J.fn x || isK J.sc x .local)
def glB (J:Ix) (x:Str):Bool:=isK J.sc x .globalImplicit && zeQ x
section
variable {P:Program} {w:World} {K:PySem.W.Frag} {mg:Str→Option Value} {base:Heap} {J:Ix} {k:Nat} {X:Cx} {C:Cfg} {W:WX} {x:Str} {i:Nat} {pos p:Pos}
theorem Bd.eK (B:Bd P w K mg base J k X) (h:C.K=K):C.K=X.K:=h.trans B.K.symm
theorem Bd.ndX (B:Bd P w K mg base J k X):X.N.Nodup:=by rw [B.N]; exact B.nd
theorem Bd.u64 (B:Bd P w K mg base J k X):X.A.units + 64 < cLine:=B.un
theorem Bd.u1 (B:Bd P w K mg base J k X):X.A.units + 1 < cLine:=by have:=B.un; omega
theorem Bd.sys (B:Bd P w K mg base J k X) (h:∃ o,base.get? sysModules=some o):Sys X:=by
 obtain ⟨o,e⟩:=h
 exact ⟨o,by rw [B.base]; exact e⟩
theorem Bd.kd (B:Bd P w K mg base J k X) {q:NameKind} (h:isK J.sc x q=true):X.env.scope.names.lookup x=some q:=by rw [B.sc]; exact zke h
theorem Bd.gl (B:Bd P w K mg base J k X) (h:glB J x=true):Gl X x:=by
 unfold glB at h
 rw [Bool.and_eq_true] at h
 exact B.kd h.1
theorem zc1 {J:Ix} (h:glB J x=true):zeQ x=true:=by
 unfold glB at h
 rw [Bool.and_eq_true] at h
 exact h.2
theorem Bd.vis (B:Bd P w K mg base J k X) (h:zaj J i x=true):Vis X.env.scope x:=by
 unfold zaj at h
 simp only [Bool.and_eq_true,Bool.or_eq_true] at h
 rcases h.1.2 with (q | q) | q
 ·exact .inl (B.kd q)
 ·exact .inr (.inl (B.kd q))
 ·exact .inr (.inr (B.kd q))
theorem zaf (B:Bd P w K mg base J k X) (h:zaj J i x=true):PE X (.Name x pos) (TEz C W (zaa i)):=by
 have v:=B.vis h
 unfold zaj at h
 simp only [Bool.and_eq_true] at h
 obtain ⟨h1,h2,_⟩:=zcE h.2
 exact s1q (B.at_ h.1.1) v h1 h2
theorem Bd.lo (B:Bd P w K mg base J k X) (h:stB J i x=true):Loc X.env.scope x:=by
 unfold stB at h
 simp only [Bool.and_eq_true,Bool.or_eq_true] at h
 rcases h.1.2 with q | q
 ·exact .inl (B.kd q)
 ·exact .inr (B.kd q)
theorem Bd.hf (B:Bd P w K mg base J k X) (h:stB J i x=true):X.fn x=true∨X.env.scope.names.lookup x=some .local:=by
 unfold stB at h
 simp only [Bool.and_eq_true,Bool.or_eq_true] at h
 rcases h.2 with q | q
 ·exact .inl (by rw [B.fn]; exact q)
 ·exact .inr (B.kd q)
theorem Bd.si (B:Bd P w K mg base J k X) (h:stB J i x=true):X.N[i]?=some x:=by
 unfold stB at h
 simp only [Bool.and_eq_true] at h
 exact B.at_ h.1.1
theorem zfT {t:T} {v:V} (B:Bd P w K mg base J k X) (hg:glB J x=true) (h:∃ u,mg x=some u∧RelV v u) (r:∀ mu H,Rep C mu H t v):PE X (.Name x pos) (TEz C W (dC t)):=
 s1o (B.gl hg) (by rw [B.mg]; exact h) r (zcE (zc1 hg)).1
theorem zc2 {n:String} (B:Bd P w K mg base J k X) (hg:glB J x=true) (hm:mg x=none) (hv:bootBuiltins x=some (.type n)):PE X (.Name x pos) (TEz C W (dC (.ty n))):=
 s1h (B.gl hg) (by rw [B.mg]; exact hm) hv (zcE (zc1 hg)).2.2 (zcE (zc1 hg)).1
theorem za8 {id:String} {g:OpN} {e:Expr} {es:List Expr} {da:DA} (B:Bd P w K mg base J k X) (hc:CallR X (.builtin id) (rN C g)) (hg:glB J x=true) (hm:mg x=none) (hv:bootBuiltins x=some (.builtin id)) (ha:PA X (e :: es) (TAz C W da))
  (he:starEach (e :: es) X.env=(false,eval e X.env) :: starEach es X.env:=by rfl) (hpl:(backTo pos (starEach es X.env)).any (·.1)=false:=by rfl):PE X (.Call (.Name x p) (e :: es) [] pos) (TEz C W (dCall g da)):=
 zn6 hc (B.gl hg) (B.nx hm) hv ha (zcE (zc1 hg)).2.2 (zcE (zc1 hg)).1 he hpl
theorem zhm {id:String} {g:OpN} {e:Expr} {es:List Expr} {da:DA} (B:Bd P w K mg base J k X) (hc:CallR X (.type id) (rN C g)) (hg:glB J x=true) (hm:mg x=none) (hv:bootBuiltins x=some (.type id)) (ha:PA X (e :: es) (TAz C W da))
  (he:starEach (e :: es) X.env=(false,eval e X.env) :: starEach es X.env:=by rfl) (hpl:(backTo pos (starEach es X.env)).any (·.1)=false:=by rfl):PE X (.Call (.Name x p) (e :: es) [] pos) (TEz C W (dCall g da)):=
 zn7 hc (B.gl hg) (B.nx hm) hv ha (zcE (zc1 hg)).2.2 (zcE (zc1 hg)).1 he hpl
theorem Bd.tr (B:Bd P w K mg base J k X) (pn:List (Addr × Obj)) (xe:Value→Shared→Prop):Bd P w K mg base J k (X.tr pn xe):=
 ⟨B.prog,B.wo,B.K,B.mg,B.base,B.N,B.sc,B.fn,B.nd,B.fk,B.room,B.un,B.gu,B.calm⟩
theorem Bd.su (B:Bd P w K mg base J k X) (a:Addr) (pn:List (Addr × Obj)):Bd P w K mg base J.su k (X.suite a pn):=
 ⟨B.prog,B.wo,B.K,B.mg,B.base,B.N,B.sc,B.fn,B.nd,B.fk,(fun h=>nomatch h),B.un,B.gu,(fun h=>nomatch h)⟩
theorem Bd.cal (B:Bd P w K mg base J k X) {j n:Nat} {F:DF} {dts:List T} (c:CalG P w K mg base C x j n F dts) (hj:j≤k) (hg:glB J x=true) (hid:Addr→Prop) (hh:J.hot=false):CalZ X (C.with hid) (L2.CX X.prog X.w) x n F dts:=by
 have c':CalG X.prog X.w X.K X.mg X.base C x j n F dts:=by rw [B.prog,B.wo,B.K,B.mg,B.base]; exact c
 exact c'.z (B.room hh) hj B.gu (B.gl hg) hid (zcE (zc1 hg)).1
section
variable {j n:Nat} {F:DF} {dts:List T} {e:Expr} {es:List Expr} {da:DA} {hid:Addr→Prop}
theorem za6 (B:Bd P w K mg base J k X) (hh:J.hot=false) (tk:Takes X W) (c:CalG P w K mg base C x j n F dts) (hj:Nat.ble j k=true) (hg:glB J x=true) (ha:PA X (e :: es) (TAz (C.with hid) W da))
  (he:starEach (e :: es) X.env=(false,eval e X.env) :: starEach es X.env:=by rfl) (hpl:(backTo pos (starEach es X.env)).any (·.1)=false:=by rfl):PE X (.Call (.Name x p) (e :: es) [] pos) (TEz (C.with hid) W (zak n F dts da)):=
 zn4 (B.cal c (Nat.le_of_ble_eq_true hj) hg hid hh) (zoH tk) ha he hpl
end
theorem zbl {e:Expr} {d:DE} (B:Bd P w K mg base J k X) (h:stB J i x=true) (he:PE X e (TEz C W d)) (hs:swapsWith e (some (.Name x p)) pos.line X.env=pure false):PS X (.Assign [.Name x p] e pos) (TSz C W (zaw i d)):=
 s_asg B.ndX (B.si h) (B.lo h) (B.hf h) he hs
theorem zbH {vs:List Nat} (B:Bd P w K mg base J k X) (h:stB J i x=true) (hv:vs.contains i=true):PG X (.Name x pos) (TGz C vs (gN i)):=
 zot B.ndX (B.si h) (B.lo h) (B.hf h) (by simpa using hv)
theorem zdf {ws:List Nat} {tg iter:Expr} {body:List Stmt} {di:DA} {g:DG} {b:DS} (B:Bd P w K mg base J k X) (hh:J.hot=false) (vs:List Nat) (hp:PassesOwn (model X.prog X.w) X.A X.env X.xe) (hi:PI X tg iter (iZ C W di)) (hg:PG X tg (TGz C ws g)) (hb:PSs X body (TSz C W b))
  (hs:∀ x,foldedSetIterable iter X.env x=pure x:=by intro _; rfl):PS X (.For tg iter body [] pos) (TSz C W (zaH di g b vs)):=s1p vs hp (B.calm hh) hi hg hb hs
def zoK (N:List Str) (own:List (Str × Nat)):Bool:=own.all fun p=>atB N p.2 p.1
def zbP (J:Ix) (b:Scope) (own:List (Str × Nat)):Bool:=
 decide (b.kind = .function) && b.names.all (fun y=>isK b y.1 y.2) && zoK J.N own && b.names.all (fun y=>match y.2 with
  | .free=>isK J.sc y.1 .cell || isK J.sc y.1 .free
  | .local=>(own.map (·.1)).contains y.1 || !(J.N.contains y.1)
  | .cell=>(own.map (·.1)).contains y.1 || !(J.N.contains y.1)
  | _=>true)
theorem Bd.blkOk (B:Bd P w K mg base J k X) {b:Scope} {own:List (Str × Nat)} (h:zbP J b own=true):BlkOk X.N X.env.scope b own:=by
 unfold zbP at h
 simp only [Bool.and_eq_true] at h
 obtain ⟨⟨⟨h1,h2⟩,h3⟩,h4⟩:=h
 refine ⟨of_decide_eq_true h1,fun y hy=>zke (List.all_eq_true.mp h2 y hy),fun p hp=>B.at_ (List.all_eq_true.mp h3 p hp),fun y hy e=>?_,fun y hy e=>?_⟩
 ·have:=List.all_eq_true.mp h4 y hy
  rw [e] at this
  simp only [Bool.or_eq_true] at this
  exact this.elim (fun q => .inl (B.kd q)) fun q => .inr (B.kd q)
 ·have:=List.all_eq_true.mp h4 y hy
  rw [B.N]
  rcases e with e | e
  ·rw [e] at this
   simp only [Bool.or_eq_true,Bool.not_eq_true'] at this
   refine this.elim (fun q => .inl (by simpa using q)) fun q => .inr (by simpa using q)
  ·rw [e] at this
   simp only [Bool.or_eq_true,Bool.not_eq_true'] at this
   refine this.elim (fun q => .inl (by simpa using q)) fun q => .inr (by simpa using q)
theorem Bd.blk (B:Bd P w K mg base J k X) {b:Scope} (hb:b.kind = .function) (s:Shared) (H:Hp) (D:Addr) (cl:List (Str × Addr)) (fp:List Addr):Bd P w K mg base (J.blk b) k (X.blk s H b (compEnvC b cl D X.env) fp):=
 ⟨B.prog,B.wo,B.K,B.mg,B.base,B.N,by show relS b X.env.scope=relS b J.sc; rw [B.sc],rfl,B.nd,hb,B.room,B.un,B.gu,B.calm⟩
section
variable {elt kx vx tg iter:Expr} {ifs:List Expr} {b:Scope} {own:List (Str × Nat)} {di:DA} {g:DG} {tt:DT} {de dk:DE}
theorem Bd.blkZ (B:Bd P w K mg base J k X) (h:zbP J b own=true) (hg:∀ X',Bd P w K mg base (J.blk b) k X'→∀hid:Addr→Prop,PG X' tg (TGz (C.with hid) (own.map (·.2)) g))
  (ht:∀ X',Bd P w K mg base (J.blk b) k X'→∀hid:Addr→Prop,PTs X' ifs (TTz (C.with hid) WF tt)):BlkZ X C b own tg ifs g tt:=
 have hb:b.kind = .function:=(B.blkOk h).kind
 ⟨B.ndX,B.blkOk h,fun s H D cl fp hid=>hg _ (B.blk hb s H D cl fp) hid,fun s H D cl fp hid=>ht _ (B.blk hb s H D cl fp) hid⟩
theorem zeR (B:Bd P w K mg base J k X) (hh:J.hot=false) (hK:C.K=K) (m:Bool) (h:zbP J b own=true) (hi:PI X tg iter (iZ C W di)) (hg:∀ X',Bd P w K mg base (J.blk b) k X'→∀hid:Addr→Prop,PG X' tg (TGz (C.with hid) (own.map (·.2)) g))
  (ht:∀ X',Bd P w K mg base (J.blk b) k X'→∀hid:Addr→Prop,PTs X' ifs (TTz (C.with hid) WF tt)) (he:∀ X',Bd P w K mg base (J.blk b) k X'→∀hid:Addr→Prop,PE X' elt (TEz (C.with hid) WF de))
  (hs:∀ x,foldedSetIterable iter X.env x=pure x:=by intro _; rfl):PE X (.ListComp elt [⟨tg,iter,ifs,0⟩] b pos) (TEz C W (dLc m di g tt de (own.map (·.2)))):=
 zoy (B.eK hK) (B.calm hh) m hi (B.blkZ h hg ht) (fun s H D cl fp hid=>he _ (B.blk (B.blkOk h).kind s H D cl fp) hid) hs
end
end
end Z
end
section
namespace Z
open PySem PySem.Spec PyProof.Rows L2 PySem.SeqAt
theorem sp_law (C:Cfg) {F:DF} {ns:List Int} {H:Hp} {a:Addr} {od:Obj} (h:∃ M',F [.fz (ns.map T.int)] [] = .ok (.bl true) M') (hH:H a=some (.frz od (.lst (ns.map V.int)))) (ht:LamX.Tabs C.tb H:=by (intro p hp; cases hp)):SpZ C 1 F [.ref a] H (fun v _=>v = .bl true) fun _ _ _=>False:=by
 obtain ⟨M',e⟩:=h
 refine ⟨rfl,fun _=>False,[],[],[.fz (ns.map T.int)],RM.nil (fun _ z=>z.elim) ht (fun _ z=>z.elim),.cons (.fz ⟨hH,by simp,fun z=>z⟩ (zjN ns)) .nil,?_⟩
 rw [e]
 exact fun mu' v H' _ _ r=>r.blI
section
variable {α β : Type} {s:Sg} {M:Mem}
@[simp ↓] theorem zb4 (a : α) (M:Mem) (s:Sg) (f : α → Mem→OutS):(Out.ok a M).toS s f=f a M:=rfl
@[simp ↓] theorem toS_er (e:Er) (M:Mem) (s:Sg) (f : α → Mem→OutS):(Out.er e M:Out α).toS s f = .er e s M:=rfl
@[simp ↓] theorem then_nx (s:Sg) (M:Mem) (f:Sg→Mem→OutS):(OutS.nx s M).then_ f=f s M:=rfl
@[simp ↓] theorem then_rt (t:T) (M:Mem) (f:Sg→Mem→OutS):(OutS.rt t M).then_ f = .rt t M:=rfl
@[simp ↓] theorem then_er (e:Er) (s:Sg) (M:Mem) (f:Sg→Mem→OutS):(OutS.er e s M).then_ f = .er e s M:=rfl
@[simp ↓] theorem then_bk (s:Sg) (M:Mem) (f:Sg→Mem→OutS):(OutS.bk s M).then_ f = .bk s M:=rfl
@[simp ↓] theorem then_ct (s:Sg) (M:Mem) (f:Sg→Mem→OutS):(OutS.ct s M).then_ f = .ct s M:=rfl
@[simp ↓] theorem noEr_ok (a : α) (M:Mem):(Out.ok a M).noEr = .ok a M:=rfl
@[simp ↓] theorem lift_some (a : α) (M:Mem):lift (some (a,M)) = .ok a M:=rfl
def zd6 (g:Op2) (t:T):T→Mem→Out T:=fun u M2=>lift (g t u M2)
@[simp ↓] theorem w_kOp2 (g:Op2) (t:T) (u:T) (M2:Mem):zd6 g t u M2=lift (g t u M2):=rfl
def zkf (g:Op2) (db:DE) (s:Sg):T→Mem→Out T:=fun t M1=>(db s M1).bind (zd6 g t)
@[simp ↓] theorem w_kBin (g:Op2) (db:DE) (s:Sg) (t:T) (M1:Mem):zkf g db s t M1=(db s M1).bind (zd6 g t):=rfl
@[simp ↓] theorem u_bin (g:Op2) (da db:DE):zac g da db s M=(da s M).bind (zkf g db s):=rfl
def kUn (g:Op1):T→Mem→Out T:=fun t M1=>lift (g t M1)
@[simp ↓] theorem w_kUn (g:Op1) (t:T) (M1:Mem):kUn g t M1=lift (g t M1):=rfl
@[simp ↓] theorem u_un (g:Op1) (da:DE):dUn g da s M=(da s M).bind (kUn g):=rfl
@[simp ↓] theorem u_c (t:T):dC t s M = .ok t M:=rfl
def zhn:Option (Option T)→Mem→Out T:=fun o M=>match o with
 | some (some t) => .ok t M
 | _ => .no
@[simp ↓] theorem u_var (i:Nat):zaa i s M=zhn s[i]? M:=by unfold zaa zhn; rfl
@[simp ↓] theorem w_kVar (t:T):zhn (some (some t)) M = .ok t M:=rfl
def zho:T→Mem→Out Bool:=fun t M1=>toB (zbY t M1) M1
@[simp ↓] theorem w_kTst  (t:T) (M1:Mem):zho t M1=toB (zbY t M1) M1:=rfl
@[simp ↓] theorem u_tst (d:DE):zai d s M=(d s M).bind zho:=rfl
def zkg:Bool→Mem→Out Bool:=fun b M1 => .ok (!b) M1
@[simp ↓] theorem w_kNotT  (b:Bool) (M1:Mem):zkg b M1 = .ok (!b) M1:=rfl
@[simp ↓] theorem u_notT (ta:DT):zbb ta s M=(ta s M).bind zkg:=rfl
def zhp:Bool→Mem→Out T:=fun b M2 => .ok (.bl (!b)) M2
@[simp ↓] theorem w_kNotB  (b:Bool) (M2:Mem):zhp b M2 = .ok (.bl (!b)) M2:=rfl
def zkh:T→Mem→Out T:=fun t M1=>(toB (zbY t M1) M1).bind zhp
@[simp ↓] theorem w_kNot  (t:T) (M1:Mem):zkh t M1=(toB (zbY t M1) M1).bind zhp:=rfl
@[simp ↓] theorem u_not (da:DE):zjy da s M=(da s M).bind zkh:=rfl
def zhq (tb:DT) (s:Sg):Bool→Mem→Out Bool:=fun b M1=>if b=true then tb s M1 else .ok false M1
@[simp ↓] theorem w_kAndT1 (tb:DT):zhq tb s true M=tb s M:=rfl
@[simp ↓] theorem w_kAndT0 (tb:DT):zhq tb s false M = .ok false M:=rfl
@[simp ↓] theorem u_andT (ta tb:DT):zfD ta tb s M=(ta s M).bind (zhq tb s):=rfl
def zhr (tb:DT) (s:Sg):Bool→Mem→Out Bool:=fun b M1=>if b=true then .ok true M1 else tb s M1
@[simp ↓] theorem w_kOrT1 (tb:DT):zhr tb s true M = .ok true M:=rfl
@[simp ↓] theorem w_kOrT0 (tb:DT):zhr tb s false M=tb s M:=rfl
@[simp ↓] theorem u_orT (ta tb:DT):zbv ta tb s M=(ta s M).bind (zhr tb s):=rfl
def zhs (db:DE) (s:Sg):T→Mem→Out T:=fun t M1=>match t with
 | .bl true=>db s M1
 | .bl false => .ok (.bl false) M1
 | _ => .no
@[simp ↓] theorem w_kAnd1 (tb:DE):zhs tb s (.bl true) M=tb s M:=rfl
@[simp ↓] theorem w_kAnd0 (tb:DE):zhs tb s (.bl false) M = .ok (.bl false) M:=rfl
@[simp ↓] theorem u_and (da db:DE):zbn da db s M=(da s M).bind (zhs db s):=rfl
def kOr (db:DE) (s:Sg):T→Mem→Out T:=fun t M1=>match t with
 | .bl true => .ok (.bl true) M1
 | .bl false=>db s M1
 | _ => .no
@[simp ↓] theorem w_kOr1 (tb:DE):kOr tb s (.bl true) M = .ok (.bl true) M:=rfl
@[simp ↓] theorem w_kOr0 (tb:DE):kOr tb s (.bl false) M=tb s M:=rfl
@[simp ↓] theorem u_or (da db:DE):dOr da db s M=(da s M).bind (kOr db s):=rfl
def zht (da db:DE) (s:Sg):Bool→Mem→Out T:=fun k M1=>if k=true then da s M1 else db s M1
@[simp ↓] theorem w_kIte1 (da db:DE):zht da db s true M=da s M:=rfl
@[simp ↓] theorem w_kIte0 (da db:DE):zht da db s false M=db s M:=rfl
@[simp ↓] theorem u_ite (tc:DT) (da db:DE):zbh tc da db s M=(tc s M).bind (zht da db s):=rfl
def zfU (g':Op2) (u:T) (dc:DE) (s:Sg):T→Mem→Out T:=fun r M3=>match r with
 | .bl true=>(dc s M3).bind (zd6 g' u)
 | .bl false => .ok (.bl false) M3
 | _ => .no
@[simp ↓] theorem w_kChn31 (g':Op2) (u:T) (dc:DE):zfU g' u dc s (.bl true) M=(dc s M).bind (zd6 g' u):=rfl
@[simp ↓] theorem w_kChn30 (g':Op2) (u:T) (dc:DE):zfU g' u dc s (.bl false) M = .ok (.bl false) M:=rfl
def zhu (g g':Op2) (t:T) (dc:DE) (s:Sg):T→Mem→Out T:=fun u M2=>(lift (g t u M2)).bind (zfU g' u dc s)
@[simp ↓] theorem w_kChn2 (g g':Op2) (t:T) (dc:DE) (s:Sg) (u:T) (M2:Mem):zhu g g' t dc s u M2=(lift (g t u M2)).bind (zfU g' u dc s):=rfl
def zki (g g':Op2) (db dc:DE) (s:Sg):T→Mem→Out T:=fun t M1=>(db s M1).bind (zhu g g' t dc s)
@[simp ↓] theorem w_kChn1 (g g':Op2) (db dc:DE) (s:Sg) (t:T) (M1:Mem):zki g g' db dc s t M1=(db s M1).bind (zhu g g' t dc s):=rfl
@[simp ↓] theorem u_chn (g g':Op2) (da db dc:DE):zdx g g' da db dc s M=(da s M).bind (zki g g' db dc s):=rfl
@[simp ↓] theorem u_nil:zad s M = .ok [] M:=rfl
def zhv (t:T):List T→Mem→Out (List T):=fun ts M2 => .ok (t :: ts) M2
@[simp ↓] theorem w_kCons2 (t:T) (ts:List T) (M2:Mem):zhv t ts M2 = .ok (t :: ts) M2:=rfl
def zkj (da:DA) (s:Sg):T→Mem→Out (List T):=fun t M1=>(da s M1).bind (zhv t)
@[simp ↓] theorem w_kCons1 (da:DA) (s:Sg) (t:T) (M1:Mem):zkj da s t M1=(da s M1).bind (zhv t):=rfl
@[simp ↓] theorem u_cons (d:DE) (da:DA):zab d da s M=(d s M).bind (zkj da s):=rfl
def kTup:List T→Mem→Out T:=fun ts M1=>if ts.length≤LIM then .ok (.tup ts) M1 else .no
@[simp ↓] theorem w_kTup  (ts:List T) (M1:Mem):kTup ts M1=if ts.length≤LIM then .ok (.tup ts) M1 else .no:=rfl
@[simp ↓] theorem u_tup (da:DA):dTup da s M=(da s M).bind kTup:=rfl
def zkk (m:Bool):List T→Mem→Out T:=fun ts M1=>if ts.length≤LIM then lift (some (mk m (.lst ts) M1)) else .no
@[simp ↓] theorem w_kLst (m:Bool) (ts:List T) (M1:Mem):zkk m ts M1=if ts.length≤LIM then lift (some (mk m (.lst ts) M1)) else .no:=rfl
@[simp ↓] theorem u_lst (m:Bool) (da:DA):zaq m da s M=(da s M).bind (zkk m):=rfl
@[simp ↓] theorem u_dct0 (m:Bool):zbF m s M=lift (some (mk m (.dct []) M)):=rfl
@[simp ↓] theorem u_noPart:zaL s M = .ok none M:=rfl
def kPart:T→Mem→Out (Option Int):=fun t M1=>match t with
 | .int i => .ok (some i) M1
 | _ => .no
@[simp ↓] theorem w_kPart (i:Int):kPart (.int i) M = .ok (some i) M:=rfl
@[simp ↓] theorem u_part (d:DE):zaM d s M=(d s M).bind kPart:=rfl
def zhw (m:Bool) (t:T) (l:Option Int):Option Int→Mem→Out T:=fun u M3=>lift (gSl m t l u M3)
@[simp ↓] theorem w_kSl3 (m:Bool) (t:T) (l:Option Int) (u:Option Int) (M3:Mem):zhw m t l u M3=lift (gSl m t l u M3):=rfl
def zhx (m:Bool) (t:T) (dh:DO) (s:Sg):Option Int→Mem→Out T:=fun l M2=>(dh s M2).bind (zhw m t l)
@[simp ↓] theorem w_kSl2 (m:Bool) (t:T) (dh:DO) (s:Sg) (l:Option Int) (M2:Mem):zhx m t dh s l M2=(dh s M2).bind (zhw m t l):=rfl
def zkl (m:Bool) (dl dh:DO) (s:Sg):T→Mem→Out T:=fun t M1=>(dl s M1).bind (zhx m t dh s)
@[simp ↓] theorem w_kSl1 (m:Bool) (dl dh:DO) (s:Sg) (t:T) (M1:Mem):zkl m dl dh s t M1=(dl s M1).bind (zhx m t dh s):=rfl
@[simp ↓] theorem u_sl (m:Bool) (da:DE) (dl dh:DO):dSl m da dl dh s M=(da s M).bind (zkl m dl dh s):=rfl
def zhy (m:Bool):T→Mem→Out T:=fun t M1=>match der M1 t with
 | .lst xs=>lift (some (mk m (.lst xs.reverse) M1))
 | _ => .no
@[simp ↓] theorem w_kRev (m:Bool) (xs:List T):zhy m (.lst xs) M=lift (some (mk m (.lst xs.reverse) M)):=rfl
@[simp ↓] theorem w_kRevz (m:Bool) (xs:List T):zhy m (.fz xs) M=lift (some (mk m (.lst xs.reverse) M)):=rfl
@[simp ↓] theorem u_rev (m:Bool) (da:DE):znG m da s M=(da s M).bind (zhy m):=rfl
def zkm (g:OpN):List T→Mem→Out T:=fun ts M1=>lift (g ts M1)
@[simp ↓] theorem w_kCall (g:OpN) (ts:List T) (M1:Mem):zkm g ts M1=lift (g ts M1):=rfl
@[simp ↓] theorem u_call (g:OpN) (da:DA):dCall g da s M=(da s M).bind (zkm g):=rfl
def zkn (n:Nat) (F:DF) (dts:List T):List T→Mem→Out T:=fun ts M1=>if (ts ++ dts).length=n then zaG F (ts ++ dts) M1 else .no
@[simp ↓] theorem w_kCallP (n:Nat) (F:DF) (dts:List T) (ts:List T) (M1:Mem):zkn n F dts ts M1=if (ts ++ dts).length=n then zaG F (ts ++ dts) M1 else .no:=rfl
@[simp ↓] theorem u_callP (n:Nat) (F:DF) (dts:List T) (da:DA):zak n F dts da s M=(da s M).bind (zkn n F dts):=rfl
def zko (n:Nat) (F:DF) (dts:List T):List T→Mem→Out T:=fun ts M1=>if (ts ++ dts).length=n then runN F (ts ++ dts) M1 else .no
@[simp ↓] theorem w_kCallN (n:Nat) (F:DF) (dts:List T) (ts:List T) (M1:Mem):zko n F dts ts M1=if (ts ++ dts).length=n then runN F (ts ++ dts) M1 else .no:=rfl
@[simp ↓] theorem u_callN (n:Nat) (F:DF) (dts:List T) (da:DA):zoE n F dts da s M=(da s M).bind (zko n F dts):=rfl
@[simp ↓] theorem u_callP0 (n:Nat) (F:DF) (dts:List T):zn5 n F dts s M=if dts.length=n then zaG F dts M else .no:=rfl
def zck (g:OpM) (t:T):List T→Mem→Out T:=fun ts M2=>lift (g t ts M2)
@[simp ↓] theorem w_kMeth2 (g:OpM) (t:T) (ts:List T) (M2:Mem):zck g t ts M2=lift (g t ts M2):=rfl
def zcF (ty:String) (g:OpM) (da:DA) (s:Sg):T→Mem→Out T:=fun t M1=>if tyM M1 t=some ty then (da s M1).bind (zck g t) else .no
theorem zkp {ty:String} {g:OpM} {da:DA} {t:T} (h:tyM M t=some ty):zcF ty g da s t M=(da s M).bind (zck g t):=if_pos h
@[simp ↓] theorem u_meth (ty:String) (g:OpM) (d:DE) (da:DA):zbc ty g d da s M=(d s M).bind (zcF ty g da s):=rfl
def zkq:T→Mem→Out T:=fun t M1=>lift (frz za3 t M1)
@[simp ↓] theorem w_kFrz  (t:T) (M1:Mem):zkq t M1=lift (frz za3 t M1):=rfl
@[simp ↓] theorem u_frz (d:DE):zcb d s M=(d s M).bind zkq:=rfl
def zkr (ks:List (Str × Str)):T→Mem→Out T:=fun t M1=>match t with
 | .str z => .ok (match ks.lookup z with
  | some y => .str y
  | none => .non) M1
 | _ => .no
def zoL:Option Str→T
 | some y => .str y
 | none => .non
@[simp ↓] theorem w_kKget (ks:List (Str × Str)) (z:Str):zkr ks (.str z) M = .ok (zoL (ks.lookup z)) M:=by
 show Out.ok _ M=_
 cases ks.lookup z <;> rfl
@[simp ↓] theorem u_kget (ks:List (Str × Str)) (de:DE):zoF ks de s M=(de s M).bind (zkr ks):=rfl
def zks (t:T):T→Mem→Out T:=fun u M2=>match (listOf M2 t).bind zb9 with
 | some [] => .ok u M2
 | some (i :: r) => .ok (.int (zbG (i :: r))) M2
 | none => .no
def zkt (dd:DE) (s:Sg):T→Mem→Out T:=fun t M1=>(dd s M1).bind (zks t)
@[simp ↓] theorem w_kMaxD (dd:DE) (s:Sg) (t:T) (M1:Mem):zkt dd s t M1=(dd s M1).bind (zks t):=rfl
@[simp ↓] theorem u_maxD (da dd:DE):zcD da dd s M=(da s M).bind (zkt dd s):=rfl
def zhz (m:Bool):List T→Mem→Out T:=fun ys M2=>lift (some (mk m (.lst ys) M2))
@[simp ↓] theorem w_kLc2 (m:Bool) (ys:List T) (M2:Mem):zhz m ys M2=lift (some (mk m (.lst ys) M2)):=rfl
def kLc (m:Bool) (g:DG) (tt:DT) (de:DE) (vs:List Nat) (s:Sg):List T→Mem→Out T:=fun ts M1=>if ts.length≤LIM then (lcL g tt de (zas s vs) ts M1).bind (zhz m) else .no
@[simp ↓] theorem w_kLc (m:Bool) (g:DG) (tt:DT) (de:DE) (vs:List Nat) (s:Sg) (ts:List T) (M1:Mem):kLc m g tt de vs s ts M1=if ts.length≤LIM then (lcL g tt de (zas s vs) ts M1).bind (zhz m) else .no:=rfl
@[simp ↓] theorem u_lc (m:Bool) (di:DA) (g:DG) (tt:DT) (de:DE) (vs:List Nat):dLc m di g tt de vs s M=(di s M).bind (kLc m g tt de vs s):=rfl
def zhA (m:Bool):List (Str × T)→Mem→Out T:=fun ks M2=>lift (some (mk m (.dct ks) M2))
@[simp ↓] theorem w_kDc2 (m:Bool) (ks:List (Str × T)) (M2:Mem):zhA m ks M2=lift (some (mk m (.dct ks) M2)):=rfl
def kDc (m:Bool) (g:DG) (tt:DT) (dk de:DE) (vs:List Nat) (s:Sg):List T→Mem→Out T:=fun ts M1=>(dcL g tt dk de (zas s vs) ts [] M1).bind (zhA m)
@[simp ↓] theorem w_kDc (m:Bool) (g:DG) (tt:DT) (dk de:DE) (vs:List Nat) (s:Sg) (ts:List T) (M1:Mem):kDc m g tt dk de vs s ts M1=(dcL g tt dk de (zas s vs) ts [] M1).bind (zhA m):=rfl
@[simp ↓] theorem u_dc (m:Bool) (di:DA) (g:DG) (tt:DT) (dk de:DE) (vs:List Nat):dDc m di g tt dk de vs s M=(di s M).bind (kDc m g tt dk de vs s):=rfl
@[simp ↓] theorem u_pnil:zd4 s M = .ok [] M:=rfl
def kQ3 (t u:T):List (Str × T)→Mem→Out (List (Str × T)):=fun r M3=>match t with
 | .str k => .ok ((k,u) :: r) M3
 | _ => .no
@[simp ↓] theorem w_kQ3 (k:Str) (u:T) (r:List (Str × T)):kQ3 (.str k) u r M = .ok ((k,u) :: r) M:=rfl
def kQ2 (t:T) (dr:DP) (s:Sg):T→Mem→Out (List (Str × T)):=fun u M2=>(dr s M2).bind (kQ3 t u)
@[simp ↓] theorem w_kQ2 (t:T) (dr:DP) (s:Sg) (u:T) (M2:Mem):kQ2 t dr s u M2=(dr s M2).bind (kQ3 t u):=rfl
def kQ1 (dv:DE) (dr:DP) (s:Sg):T→Mem→Out (List (Str × T)):=fun t M1=>(dv s M1).noEr.bind (kQ2 t dr s)
@[simp ↓] theorem w_kQ1 (dv:DE) (dr:DP) (s:Sg) (t:T) (M1:Mem):kQ1 dv dr s t M1=(dv s M1).noEr.bind (kQ2 t dr s):=rfl
@[simp ↓] theorem u_qcons (dk dv:DE) (dr:DP):zd5 dk dv dr s M=(dk s M).noEr.bind (kQ1 dv dr s):=rfl
def zku (m:Bool):Out (List (Str × T))→Out T:=fun o=>match o with
 | .ok ps M1=>if ps.length≤15 then lift (some (mk m (.dct (zcB [] ps)) M1)) else .no
 | _ => .no
@[simp ↓] theorem w_kDctQ (m:Bool) (ps:List (Str × T)):zku m (.ok ps M)=if ps.length≤15 then lift (some (mk m (.dct (zcB [] ps)) M)) else .no:=rfl
@[simp ↓] theorem u_dctQ (m:Bool) (d:DP):zdD m d s M=zku m (d s M):=rfl
def zkv:T→Mem→Out (List T):=fun t M1=>toA (zcZ t) M1
@[simp ↓] theorem w_kWalk  (t:T) (M1:Mem):zkv t M1=toA (zcZ t) M1:=rfl
@[simp ↓] theorem u_walk (d:DE):zar d s M=(d s M).bind zkv:=rfl
def zkw:T→Mem→Out (List T):=fun t M1=>match t with
 | .dct ks => .ok (zhe ks) M1
 | _ => .no
@[simp ↓] theorem w_kVals (ks:List (Str × T)):zkw (.dct ks) M = .ok (zhe ks) M:=rfl
@[simp ↓] theorem u_vals (d:DE):zok d s M=(d s M).bind zkw:=rfl
def zhB:T→Mem→Out (List T):=fun t M1=>match t with
 | .dct ks => .ok (zeN ks) M1
 | _ => .no
@[simp ↓] theorem w_kItems (ks:List (Str × T)):zhB (.dct ks) M = .ok (zeN ks) M:=rfl
@[simp ↓] theorem u_items (d:DE):zjY d s M=(d s M).bind zhB:=rfl
def zkx:List T→Mem→Out (List T):=fun ts M1=>match ts with
 | [.int n]=>if inR n=true then .ok (zbB 0 n.toNat) M1 else .no
 | _ => .no
@[simp] theorem w_kRange1 {n:Int} (h:inR n=true):zkx [.int n] M = .ok (zbB 0 n.toNat) M:=if_pos h
@[simp ↓] theorem u_range1 (da:DA):zbp da s M=(da s M).bind zkx:=rfl
def zky:List T→Mem→Out (List T):=fun ts M1=>match ts with
 | [.int i,.int j]=>if inR i=true∧inR j=true then .ok (zbB i (j - i).toNat) M1 else .no
 | _ => .no
@[simp] theorem w_kRange2 {i j:Int} (h:inR i=true) (h2:inR j=true):zky [.int i,.int j] M = .ok (zbB i (j - i).toNat) M:=if_pos ⟨h,h2⟩
@[simp ↓] theorem u_range2 (da:DA):zol da s M=(da s M).bind zky:=rfl
def zkz:List T→Mem→Out (List T):=fun ts M1=>match ts with
 | [t]=>toA (zd2 t) M1
 | _ => .no
@[simp ↓] theorem w_kEnum (t:T):zkz [t] M=toA (zd2 t) M:=rfl
@[simp ↓] theorem u_enum (da:DA):zc0 da s M=(da s M).bind zkz:=rfl
def zkA:List T→Mem→Out (List T):=fun ts M1=>match ts with
 | [.str x,.tup xs]=>if x.cps.size=xs.length then .ok (zhh x xs) M1 else .no
 | _ => .no
@[simp ↓] theorem w_kZipS (x:Str) (xs:List T):zkA [.str x,.tup xs] M=if x.cps.size=xs.length then .ok (zhh x xs) M else .no:=rfl
@[simp ↓] theorem u_zipS (da:DA):zos da s M=(da s M).bind zkA:=rfl
@[simp ↓] theorem u_yes:zaJ s M = .ok true M:=rfl
@[simp ↓] theorem u_nx:dNx s M = .nx s M:=rfl
@[simp ↓] theorem u_seq (a b:DS):zag a b s M=(a s M).then_ b:=rfl
def zkB (i:Nat) (s:Sg):T→Mem→OutS:=fun t M1 => .nx (s.set i (some t)) M1
@[simp ↓] theorem w_kAsg (i:Nat) (s:Sg) (t:T) (M1:Mem):zkB i s t M1 = .nx (s.set i (some t)) M1:=rfl
@[simp ↓] theorem u_asg (i:Nat) (d:DE):zaw i d s M=(d s M).toS s (zkB i s):=rfl
def zkC (s:Sg):T→Mem→OutS:=fun _ M1 => .nx s M1
@[simp ↓] theorem w_kDrop (s:Sg) (t:T) (M1:Mem):zkC s t M1 = .nx s M1:=rfl
@[simp ↓] theorem u_drop (d:DE):zaW d s M=(d s M).toS s (zkC s):=rfl
def zkD:T→Mem→OutS:=fun t M1 => .rt t M1
@[simp ↓] theorem w_kRet  (t:T) (M1:Mem):zkD t M1 = .rt t M1:=rfl
@[simp ↓] theorem u_ret (d:DE):zav d s M=(d s M).toS s zkD:=rfl
@[simp ↓] theorem u_retN:zn9 s M = .rt .non M:=rfl
def kIf (a b:DS) (s:Sg):Bool→Mem→OutS:=fun k M1=>if k=true then a s M1 else b s M1
@[simp ↓] theorem w_kIf1 (a b:DS):kIf a b s true M=a s M:=rfl
@[simp ↓] theorem w_kIf0 (a b:DS):kIf a b s false M=b s M:=rfl
@[simp ↓] theorem u_if (tc:DT) (a b:DS):dIf tc a b s M=(tc s M).toS s (kIf a b s):=rfl
def zkE (i j:Nat) (s:Sg):List T→Mem→OutS:=fun ts M1=>match ts with
 | [t,u] => .nx ((s.set i (some t)).set j (some u)) M1
 | _ => .no
@[simp ↓] theorem w_kPar (i j:Nat) (t u:T):zkE i j s [t,u] M = .nx ((s.set i (some t)).set j (some u)) M:=rfl
@[simp ↓] theorem u_par (i j:Nat) (da:DA):dPar i j da s M=(da s M).toS s (zkE i j s):=rfl
def zhC (i:Nat) (s:Sg):T→Mem→OutS:=fun z M2 => .nx (s.set i (some z)) M2
@[simp ↓] theorem w_kAug2 (i:Nat) (s:Sg) (z:T) (M2:Mem):zhC i s z M2 = .nx (s.set i (some z)) M2:=rfl
def zhD (i:Nat) (g:Op2) (x:T) (s:Sg):T→Mem→OutS:=fun y M1=>(lift (g x y M1)).toS s (zhC i s)
@[simp ↓] theorem w_kAug1 (i:Nat) (g:Op2) (x:T) (s:Sg) (y:T) (M1:Mem):zhD i g x s y M1=(lift (g x y M1)).toS s (zhC i s):=rfl
def zhE (i:Nat) (g:Op2) (d:DE) (s:Sg):Option (Option T)→Mem→OutS:=fun o M=>match o with
 | some (some x)=>(d s M).toS s (zhD i g x s)
 | _ => .no
@[simp ↓] theorem w_kAug (i:Nat) (g:Op2) (d:DE) (x:T):zhE i g d s (some (some x)) M=(d s M).toS s (zhD i g x s):=rfl
@[simp ↓] theorem u_aug (i:Nat) (g:Op2) (d:DE):zeM i g d s M=zhE i g d s s[i]? M:=by unfold zeM zhE; rfl
@[simp ↓] theorem u_bk:dBk s M = .bk s M:=rfl
@[simp ↓] theorem u_ct:dCt s M = .ct s M:=rfl
def zhF (s:Sg):Option Mem→OutS:=fun o=>match o with
 | some M4 => .nx s M4
 | none => .no
@[simp ↓] theorem w_kPutE (M4:Mem):zhF s (some M4) = .nx s M4:=rfl
def zhG (t v:T) (s:Sg):T→Mem→OutS:=fun u M3=>zhF s (zcY t u v M3)
@[simp ↓] theorem w_kPut3 (t v:T) (s:Sg) (u:T) (M3:Mem):zhG t v s u M3=zhF s (zcY t u v M3):=rfl
def zhH (v:T) (dk:DE) (s:Sg):T→Mem→OutS:=fun t M2=>(dk s M2).toS s (zhG t v s)
@[simp ↓] theorem w_kPut2 (v:T) (dk:DE) (s:Sg) (t:T) (M2:Mem):zhH v dk s t M2=(dk s M2).toS s (zhG t v s):=rfl
def zkF (dd dk:DE) (s:Sg):T→Mem→OutS:=fun v M1=>(dd s M1).toS s (zhH v dk s)
@[simp ↓] theorem w_kPut1 (dd dk:DE) (s:Sg) (v:T) (M1:Mem):zkF dd dk s v M1=(dd s M1).toS s (zhH v dk s):=rfl
@[simp ↓] theorem zrY (dd dk dv:DE):zcj dd dk dv s M=(dv s M).toS s (zkF dd dk s):=rfl
def zhI:OutS→OutS:=fun o=>match o with
 | .er _ _ _ => .no
 | o=>o
@[simp ↓] theorem w_kTry1:zhI (.nx s M) = .nx s M:=rfl
@[simp ↓] theorem w_kTry2 (t:T):zhI (.rt t M) = .rt t M:=rfl
@[simp ↓] theorem u_try (b:DS):zoG b s M=zhI (b s M):=rfl
def zeS (i:Nat) (b:DS) (s:Sg):Option (T × Mem)→OutS:=fun o=>match o with
 | some (t',M')=>b (s.set i (some t')) M'
 | none => .no
@[simp ↓] theorem w_kFrzV2 (i:Nat) (b:DS) (t:T):zeS i b s (some (t,M))=b (s.set i (some t)) M:=rfl
def zhJ (i:Nat) (b:DS) (s:Sg):Option (Option T)→Mem→OutS:=fun o M=>match o with
 | some (some t)=>zeS i b s (frz za3 t M)
 | _ => .no
@[simp ↓] theorem w_kFrzV (i:Nat) (b:DS) (t:T):zhJ i b s (some (some t)) M=zeS i b s (frz za3 t M):=rfl
@[simp ↓] theorem u_frzV (i:Nat) (b:DS):zbZ i b s M=zhJ i b s s[i]? M:=by unfold zbZ zhJ zeS; rfl
def kFor (g:DG) (b:DS) (s:Sg):List T→Mem→OutS:=fun ts M1=>forL g b ts s M1
@[simp ↓] theorem w_kFor (g:DG) (b:DS) (s:Sg) (ts:List T) (M1:Mem):kFor g b s ts M1=forL g b ts s M1:=rfl
@[simp ↓] theorem u_forW (di:DA) (g:DG) (b:DS) (vs:List Nat):zaH di g b vs s M=(di (zas s vs) M).toS (zas s vs) (kFor g (zaP vs b) (zas s vs)):=rfl
def zcl (n:Nat) (vs:List Nat):OutS→OutS:=fun o=>match o with
 | .nx s2 M2=>(match trim n vs s2 M2 with
  | some (s3,M3) => .nx s3 M3
  | none => .no)
 | .ct s2 M2=>(match trim n vs s2 M2 with
  | some (s3,M3) => .ct s3 M3
  | none => .no)
 | .bk s2 M2=>(match trim n vs s2 M2 with
  | some (s3,M3) => .bk s3 M3
  | none => .no)
 | o=>o
@[simp ↓] theorem u_trim (vs:List Nat) (b:DS):zaP vs b s M=zcl M.length vs (b s M):=by
 unfold zaP zcl; rfl
@[simp ↓] theorem w_kTrim_rt (n:Nat) (vs:List Nat) (t:T):zcl n vs (.rt t M) = .rt t M:=rfl
theorem zbd {n:Nat} (vs:List Nat) (h:M.length=n):zcl n vs (.nx s M) = .nx (zas s vs) M:=by
 unfold zcl trim; simp only; rw [if_pos h]
theorem zkG {n:Nat} (vs:List Nat) (h:n≤M.length) (h2:(zas s vs).all (zhk n)=true) (h3:(M.take n).all (zaY n)=true):zcl n vs (.nx s M) = .nx (zas s vs) (M.take n):=by
 unfold zcl trim
 simp only
 by_cases c:M.length=n
 ·rw [if_pos c]; simp only; rw [← c,List.take_length]
 ·rw [if_neg c,if_pos ⟨h,h2,h3⟩]
end
theorem zaA {F:DF} {ts:List T} {t:T} {M:Mem} (h:∃ M',F ts [] = .ok t M') (h1:zau ts=true) (h2:zal t=true):zaG F ts M = .ok t M:=by
 obtain ⟨M',e⟩:=h
 unfold zaG
 rw [if_pos h1,e]
 simp only
 rw [if_pos h2]
theorem zbq {k:Nat} {b:DS} {ts:List T} {t:T} {M M':Mem} (h:b (zaE k ts) M = .rt t M'):runD k b ts M = .ok t M':=by unfold runD; rw [h]
theorem zhK {k:Nat} {b:DS} {ts:List T} {s:Sg} {M M':Mem} (h:b (zaE k ts) M = .nx s M'):runD k b ts M = .ok .non M':=by unfold runD; rw [h]
theorem zkH {α β : Type} {g:DG} {b:DS} {it : β → T} {sO : α → Sg} {mO : α → Mem} {f : α → β → α} {Inv:List β → α → Prop} :
  ∀ (xs:List β),(∀ x∈xs,∀(r:List β) (a : α),Inv (x :: r) a→∃s1,g (it x) (sO a)=some s1∧b s1 (mO a) = .nx (sO (f a x)) (mO (f a x))∧Inv r (f a x))→∀a : α,Inv xs a →
   forL g b (xs.map it) (sO a) (mO a) = .nx (sO (xs.foldl f a)) (mO (xs.foldl f a))∧Inv [] (xs.foldl f a)
 | [],_,a,h=>⟨rfl,h⟩
 | x :: r,hs,a,h=>by
  obtain ⟨s1,e1,e2,e3⟩:=hs x (List.mem_cons_self ..) r a h
  rw [List.map_cons]
  unfold forL
  simp only [e1,e2]
  exact zkH r (fun y hy=>hs y (List.mem_cons_of_mem _ hy)) (f a x) e3
theorem zfV {α β : Type} {g:DG} {b:DS} {it : β → T} {sO : α → Sg} {mO : α → Mem} {Inv:List β → α → Prop} :
  ∀ (xs:List β),(∀ x∈xs,∀(r:List β) (a : α),Inv (x :: r) a→∃s1 a',g (it x) (sO a)=some s1∧b s1 (mO a) = .nx (sO a') (mO a')∧Inv r a')→∀a : α,Inv xs a →
   ∃ a',forL g b (xs.map it) (sO a) (mO a) = .nx (sO a') (mO a')∧Inv [] a'
 | [],_,a,h=>⟨a,rfl,h⟩
 | x :: r,hs,a,h=>by
  obtain ⟨s1,a',e1,e2,e3⟩:=hs x (List.mem_cons_self ..) r a h
  rw [List.map_cons]
  unfold forL
  simp only [e1,e2]
  exact zfV r (fun y hy=>hs y (List.mem_cons_of_mem _ hy)) a' e3
theorem zkI {β : Type} {g:DG} {b:DS} {it : β → T} {s:Sg} {M:Mem} {f : β → Option T}
  (hs:∀ (x : β),∃s1,g (it x) s=some s1∧match f x with
   | none=>b s1 M = .nx s M
   | some t => ∃ M',b s1 M = .rt t M') :
  ∀ (xs:List β),match xs.findSome? f with
   | none=>forL g b (xs.map it) s M = .nx s M
   | some t => ∃ M',forL g b (xs.map it) s M = .rt t M'
 | []=>rfl
 | x :: r=>by
  obtain ⟨s1,e1,e2⟩:=hs x
  rw [List.map_cons,List.findSome?_cons]
  unfold forL
  simp only [e1]
  cases e:f x with
  | none=>
   rw [e] at e2
   simp only [e2]
   exact zkI hs r
  | some t=>
   rw [e] at e2
   obtain ⟨M',q⟩:=e2
   simp only [q]
   exact ⟨M',rfl⟩
theorem zbQ {β : Type} {g:DG} {tt:DT} {de:DE} {s0:Sg} {M:Mem} {it : β → T} {p : β → Bool} {f : β → T} :
  ∀ xs:List β,(∀ x∈xs,∃s1,g (it x) s0=some s1∧tt s1 M = .ok (p x) M∧(p x=true→de s1 M = .ok (f x) M))→lcL g tt de s0 (xs.map it) M = .ok ((xs.filter p).map f) M
 | [],_=>rfl
 | x :: r,hs=>by
  obtain ⟨s1,e1,e2,e3⟩:=hs x (List.mem_cons_self ..)
  rw [List.map_cons]
  unfold lcL
  simp only [e1,e2,noEr_ok,bind_ok]
  have ih:=zbQ r fun y hy=>hs y (List.mem_cons_of_mem _ hy)
  cases e:p x with
  | true=>
   rw [if_pos rfl,e3 e]
   simp only [noEr_ok,bind_ok,ih]
   rw [List.filter_cons_of_pos (by simpa using e)]
   rfl
  | false=>
   rw [if_neg (by simp)]
   rw [List.filter_cons_of_neg (by simpa using e)]
   exact ih
theorem zkJ {β γ : Type} {g:DG} {tt:DT} {de:DE} {s0:Sg} {M:Mem} {it : β → T} {en : γ → T} {Q : γ → Prop} :
  ∀ xs:List β,(∀ x∈xs,∃s1,g (it x) s0=some s1∧tt s1 M = .ok true M∧∃y,Q y∧de s1 M = .ok (en y) M)→∃ys:List γ,ys.length=xs.length∧(∀ y∈ys,Q y)∧lcL g tt de s0 (xs.map it) M = .ok (ys.map en) M
 | [],_=>⟨[],rfl,fun y h=>by simp at h,rfl⟩
 | x :: r,hs=>by
  obtain ⟨s1,e1,e2,y,q,e3⟩:=hs x (List.mem_cons_self ..)
  obtain ⟨ys,h1,h2,h3⟩:=zkJ r fun y hy=>hs y (List.mem_cons_of_mem _ hy)
  refine ⟨y :: ys,by simp [h1],fun z hz=>?_,?_⟩
  ·rcases List.mem_cons.mp hz with rfl | hz
   ·exact q
   ·exact h2 z hz
  ·rw [List.map_cons]
   unfold lcL
   simp only [e1,e2,noEr_ok,bind_ok,if_true,e3,h3]
   rfl
theorem zbm {β : Type} {f : β → T} (h:∀ x,zal (f x)=true):∀ xs:List β,zau (xs.map f)=true
 | []=>by simp [zau]
 | x :: r=>by rw [List.map_cons]; simp only [zau,Bool.and_eq_true]; exact ⟨h x,zbm h r⟩
theorem zhL {β : Type} {k : β → Str} {f : β → T} (h:∀ x,zal (f x)=true):∀ xs:List β,za4 (xs.map fun x=>(k x,f x))=true
 | []=>by simp [za4]
 | x :: r=>by rw [List.map_cons]; simp only [za4,Bool.and_eq_true]; exact ⟨h x,zhL h r⟩
end Z
end
section
namespace Z
open PySem PySem.Spec PyProof.Rows L2 PySem.SeqAt
section
variable {M:Mem}
@[simp] theorem at_pos {α : Type} {xs:List α} {n:Nat}:atI xs (n:Int)=xs[n]?:=by
 cases e:xs[n]? with
 | some v=>exact atI_nat e
 | none=>
  have h:xs.length≤n:=List.getElem?_eq_none_iff.mp e
  unfold atI ixN
  rw [if_pos (by omega),if_neg (by omega)]; rfl
@[simp] theorem at_lit0 {α : Type} {xs:List α}:atI xs 0=xs[0]?:=at_pos (n:=0)
@[simp] theorem at_lit1 {α : Type} {xs:List α}:atI xs 1=xs[1]?:=at_pos (n:=1)
@[simp] theorem at_lit2 {α : Type} {xs:List α}:atI xs 2=xs[2]?:=at_pos (n:=2)
@[simp] theorem at_lit3 {α : Type} {xs:List α}:atI xs 3=xs[3]?:=at_pos (n:=3)
theorem zoM {α : Type} {xs:List α} {i:Int} (h0:0≤i) (h1:i < xs.length):∃ x∈xs,atI xs i=some x:=by
 obtain ⟨n,rfl⟩:=Int.eq_ofNat_of_zero_le h0
 have hn:n < xs.length:=by simpa using h1
 exact ⟨xs[n],List.getElem_mem hn,by rw [at_pos,List.getElem?_eq_getElem hn]⟩
@[simp] theorem der_lst' (xs:List T):der M (.lst xs) = .lst xs:=rfl
@[simp] theorem der_tup' (xs:List T):der M (.tup xs) = .tup xs:=rfl
@[simp] theorem der_dct' (xs:List (Str × T)):der M (.dct xs) = .dct xs:=rfl
@[simp] theorem der_str' (x:Str):der M (.str x) = .str x:=rfl
@[simp] theorem der_int' (x:Int):der M (.int x) = .int x:=rfl
@[simp] theorem der_bl' (x:Bool):der M (.bl x) = .bl x:=rfl
@[simp] theorem der_non':der M .non = .non:=rfl
@[simp] theorem der_fz' (xs:List T):der M (.fz xs) = .lst xs:=rfl
@[simp] theorem derL_lst' (xs:List T):zbD M (.lst xs) = .lst xs:=rfl
@[simp] theorem derL_tup' (xs:List T):zbD M (.tup xs) = .tup xs:=rfl
@[simp] theorem derL_dct' (xs:List (Str × T)):zbD M (.dct xs) = .dct xs:=rfl
@[simp] theorem mk_true (t:T):mk true t M=(.cel M.length,M ++ [.live t]):=rfl
@[simp] theorem mk_false (t:T):mk false t M=(t,M):=rfl
@[simp] theorem add_int' (a b:Int) (m:Bool):zan m (.int a) (.int b) M=some (.int (a + b),M):=rfl
@[simp] theorem add_str' (a b:Str) (m:Bool):zan m (.str a) (.str b) M=if a.length + b.length≤LIM then some (.str (a ++ b),M) else none:=rfl
@[simp] theorem add_lst' (xs ys:List T) (m:Bool):zan m (.lst xs) (.lst ys) M=if xs.length + ys.length≤LIM then some (mk m (.lst (xs ++ ys)) M) else none:=rfl
@[simp] theorem add_fz' (xs ys:List T) (m:Bool):zan m (.lst xs) (.fz ys) M=none:=rfl
@[simp] theorem sub_int' (a b:Int):gSub (.int a) (.int b) M=some (.int (a - b),M):=rfl
@[simp] theorem mul_int' (a b:Int) (m:Bool):za7 m (.int a) (.int b) M=if sgn a || sgn b then some (.int (a * b),M) else none:=rfl
@[simp] theorem mul_lst' (xs:List T) (k:Int) (m:Bool):za7 m (.lst xs) (.int k) M=if -(2 ^ 63)≤k∧k < 2 ^ 63∧xs.length * k.toNat≤LIM then some (mk m (.lst (List.replicate k.toNat xs).flatten) M) else none:=rfl
@[simp] theorem fdiv_int' (a b:Int):zdv (.int a) (.int b) M=if zbX b=true then some (.int (a / b),M) else none:=rfl
@[simp] theorem mod_int' (a b:Int):zaK (.int a) (.int b) M=if 0 < b then some (.int (a % b),M) else none:=rfl
@[simp] theorem pow_int' (a b:Int):zcV (.int a) (.int b) M=if 0≤b∧b≤1000000∧a.natAbs < 2 ^ 64 then some (.int (a ^ b.toNat),M) else none:=rfl
@[simp] theorem neg_int' (a:Int):zbu (.int a) M=some (.int (-a),M):=rfl
@[simp] theorem lt_int' (a b:Int):gLt (.int a) (.int b) M=some (.bl (decide (a < b)),M):=rfl
@[simp] theorem le_int' (a b:Int):gLe (.int a) (.int b) M=some (.bl (decide (a≤b)),M):=rfl
@[simp] theorem gt_int' (a b:Int):gGt (.int a) (.int b) M=some (.bl (decide (b < a)),M):=rfl
@[simp] theorem ge_int' (a b:Int):gGe (.int a) (.int b) M=some (.bl (decide (b≤a)),M):=rfl
@[simp] theorem is_non':gIs .non .non M=some (.bl true,M):=rfl
@[simp] theorem isn_non':zbt .non .non M=some (.bl false,M):=rfl
@[simp] theorem is_lst' (xs:List T):gIs (.lst xs) .non M=some (.bl false,M):=rfl
@[simp] theorem is_int' (xs:Int):gIs (.int xs) .non M=some (.bl false,M):=rfl
@[simp] theorem is_str' (xs:Str):gIs (.str xs) .non M=some (.bl false,M):=rfl
@[simp] theorem is_tup' (xs:List T):gIs (.tup xs) .non M=some (.bl false,M):=rfl
@[simp] theorem isn_lst' (xs:List T):zbt (.lst xs) .non M=some (.bl true,M):=rfl
@[simp] theorem isn_int' (xs:Int):zbt (.int xs) .non M=some (.bl true,M):=rfl
@[simp] theorem isn_str' (xs:Str):zbt (.str xs) .non M=some (.bl true,M):=rfl
@[simp] theorem isn_tup' (xs:List T):zbt (.tup xs) .non M=some (.bl true,M):=rfl
@[simp] theorem is_bl' (a b:Bool):gIs (.bl a) (.bl b) M=some (.bl (decide (a=b)),M):=rfl
@[simp] theorem isn_bl' (a b:Bool):zbt (.bl a) (.bl b) M=some (.bl (!decide (a=b)),M):=rfl
@[simp] theorem ix_lst' (xs:List T) (i:Int):gIx (.lst xs) (.int i) M=pr M (atI xs i):=rfl
@[simp] theorem ix_tup' (xs:List T) (i:Int):gIx (.tup xs) (.int i) M=pr M (atI xs i):=rfl
@[simp] theorem ix_fz' (xs:List T) (i:Int):gIx (.fz xs) (.int i) M=pr M (atI xs i):=rfl
@[simp] theorem ix_dct' (ks:List (Str × T)) (k:Str):gIx (.dct ks) (.str k) M=pr M (ks.lookup k):=rfl
@[simp] theorem pr_some' (t:T):pr M (some t)=some (t,M):=rfl
@[simp] theorem pr_none':pr M none=none:=rfl
@[simp] theorem sl_lst' (m:Bool) (xs:List T) (lo hi:Option Int):gSl m (.lst xs) lo hi M=some (mk m (.lst (zaZ xs lo hi)) M):=rfl
@[simp] theorem sl_tup' (m:Bool) (xs:List T) (lo hi:Option Int):gSl m (.tup xs) lo hi M=some (.tup (zaZ xs lo hi),M):=rfl
@[simp] theorem sl_fz' (m:Bool) (xs:List T) (lo hi:Option Int):gSl m (.fz xs) lo hi M=some (mk m (.lst (zaZ xs lo hi)) M):=rfl
@[simp] theorem cut_lo (xs:List T) (n:Nat):zaZ xs (some (n:Int)) none=xs.drop n:=by
 unfold zaZ
 rw [HT.sIx_nat,HT.sIx_none]
 rw [List.take_of_length_le (by rw [List.length_drop]; omega)]
 by_cases h:n≤xs.length
 ·rw [Nat.min_eq_left h]
 ·rw [Nat.min_eq_right (by omega),List.drop_length,List.drop_of_length_le (by omega)]
@[simp] theorem cut_lo0 (xs:List T):zaZ xs (some 0) none=xs:=cut_lo xs 0
@[simp] theorem cut_lo1 (xs:List T):zaZ xs (some 1) none=xs.drop 1:=cut_lo xs 1
@[simp] theorem cut_hi (xs:List T) (n:Nat):zaZ xs none (some (n:Int))=xs.take n:=by
 unfold zaZ
 rw [HT.sIx_nat,HT.sIx_none]
 simp only [List.drop_zero,Nat.sub_zero]
 by_cases h:n≤xs.length
 ·rw [Nat.min_eq_left h]
 ·rw [Nat.min_eq_right (by omega),List.take_length,List.take_of_length_le (by omega)]
@[simp] theorem cut_hi1 (xs:List T):zaZ xs none (some 1)=xs.take 1:=cut_hi xs 1
@[simp] theorem tru_bl' (b:Bool):zbY (.bl b) M=some b:=rfl
@[simp] theorem toB_some (b:Bool):toB (some b) M = .ok b M:=rfl
@[simp] theorem toA_some (b:List T):toA (some b) M = .ok b M:=rfl
@[simp] theorem walk_lst' (xs:List T):zcZ (.lst xs)=some xs:=rfl
@[simp] theorem walk_tup' (xs:List T):zcZ (.tup xs)=some xs:=rfl
@[simp] theorem walk_fz' (xs:List T):zcZ (.fz xs)=some xs:=rfl
@[simp] theorem walk_dct' (xs:List (Str × T)):zcZ (.dct xs)=some (zca xs):=rfl
@[simp] theorem walk_str' (x:Str):zcZ (.str x)=some (zcC x):=rfl
@[simp] theorem enum_lst' (xs:List T):zd2 (.lst xs)=some (zbj xs):=rfl
@[simp] theorem enum_tup' (xs:List T):zd2 (.tup xs)=some (zbj xs):=rfl
@[simp] theorem enum_fz' (xs:List T):zd2 (.fz xs)=some (zbj xs):=rfl
@[simp] theorem gN' (i:Nat) (t:T) (s:Sg):gN i t s=some (s.set i (some t)):=rfl
@[simp] theorem gTup' (gs:DGs) (ts:List T) (s:Sg):gTup gs (.tup ts) s=gs ts s:=rfl
@[simp] theorem gsCons' (g:DG) (gs:DGs) (t:T) (r:List T) (s:Sg):zaC g gs (t :: r) s=match g t s with
 | some s1=>gs r s1
 | none=>none:=rfl
@[simp] theorem gsNil' (s:Sg):zbk [] s=some s:=rfl
@[simp] theorem wipeS_nil (s:Sg):zas s []=s:=rfl
@[simp] theorem wipeS_cons (s:Sg) (v:Nat) (vs:List Nat):zas s (v :: vs)=(zas s vs).set v none:=rfl
@[simp] theorem len_lst' (xs:List T):za0 [.lst xs] M=some (.int xs.length,M):=rfl
@[simp] theorem len_tup' (xs:List T):za0 [.tup xs] M=some (.int xs.length,M):=rfl
@[simp] theorem len_fz' (xs:List T):za0 [.fz xs] M=some (.int xs.length,M):=rfl
@[simp] theorem len_dct' (xs:List (Str × T)):za0 [.dct xs] M=some (.int xs.length,M):=rfl
@[simp] theorem len_str' (x:Str):za0 [.str x] M=if x.length≤LIM then some (.int x.length,M) else none:=rfl
@[simp] theorem max_2' (i j:Int):zfG [.int i,.int j] M=some (.int (if j > i then j else i),M):=rfl
@[simp] theorem min_2' (i j:Int):znP [.int i,.int j] M=some (.int (if j < i then j else i),M):=rfl
@[simp] theorem int_int' (i:Int):zdY [.int i] M=some (.int i,M):=rfl
@[simp] theorem int_bl' (k:Bool):zdY [.bl k] M=some (.int (if k then 1 else 0),M):=rfl
@[simp] theorem dget1' (ks:List (Str × T)) (k:Str):zg9 (.dct ks) [.str k] M=some ((ks.lookup k).getD .non,M):=rfl
@[simp] theorem tyM_lst' (xs:List T):tyM M (.lst xs)=some "list" := rfl
@[simp] theorem tyM_dct' (xs:List (Str × T)):tyM M (.dct xs)=some "dict" := rfl
@[simp] theorem tyM_str' (x:Str):tyM M (.str x)=some "str" := rfl
@[simp] theorem in_dct' (k:Str) (ks:List (Str × T)):gIn (.str k) (.dct ks) M=some (.bl (ks.lookup k).isSome,M):=rfl
@[simp] theorem nin_dct' (k:Str) (ks:List (Str × T)):zbi (.str k) (.dct ks) M=some (.bl (!(ks.lookup k).isSome),M):=rfl
theorem zhM (k:Str):∀ ks:List Str,zcz (fun y=>eqF true zaX y (.str k)) (ks.map T.str)=some (ks.any (· == k))
 | []=>rfl
 | x :: r=>by
  rw [List.map_cons]
  unfold zcz
  rw [zhM k r]
  rfl
theorem zkK (k:Str) (ks:List Str):gIn (.str k) (.lst (ks.map T.str)) M=some (.bl (ks.any (· == k)),M):=by
 unfold gIn zcX zdX
 simp only [der_lst',zhM]
 rfl
theorem zoN (k:Str) (ks:List Str):zbi (.str k) (.lst (ks.map T.str)) M=some (.bl (!(ks.any (· == k))),M):=by
 unfold zbi zcX zdX
 simp only [der_lst',zhM]
 rfl
theorem zkL:∀ ks:List Str,(ks.map T.str).all zah=true
 | []=>rfl
 | x :: r=>by rw [List.map_cons,List.all_cons,zkL r]; rfl
theorem zoO (k:Str) (ks:List Str):gIn (.str k) (.tup (ks.map T.str)) M=some (.bl (ks.any (· == k)),M):=by
 unfold gIn zcX
 simp only [zkL,zah,Bool.and_self,if_true]
 have:∀ l:List Str,((l.map T.str).any fun y=>(eqF false 1 y (T.str k)).getD false)=l.any (· == k):=by
  intro l
  induction l with
  | nil=>rfl
  | cons a r ih=>rw [List.map_cons,List.any_cons,List.any_cons,ih]; rfl
 rw [this]
 rfl
@[simp] theorem eq_def' (t u:T):gEq t u M=match eqF true (zaX + 1) (der M t) (der M u) with
 | some b=>some (.bl b,M)
 | none=>none:=rfl
@[simp] theorem ne_def' (t u:T):gNe t u M=match eqF true (zaX + 1) (der M t) (der M u) with
 | some b=>if zda (der M t) then none else some (.bl (!b),M)
 | none=>none:=rfl
variable {n:Nat}
@[simp] theorem eqF_str (a b:Str):eqF true (n + 1) (.str a) (.str b)=some (a == b):=rfl
@[simp] theorem eqF_int (a b:Int):eqF true (n + 1) (.int a) (.int b)=some (a == b):=rfl
@[simp] theorem eqF_bl (a b:Bool):eqF true (n + 1) (.bl a) (.bl b)=some (a == b):=rfl
@[simp] theorem eqF_non:eqF true (n + 1) .non .non=some true:=rfl
@[simp] theorem eqF_non_str (b:Str):eqF true (n + 1) .non (.str b)=some false:=rfl
@[simp] theorem eqF_str_non (b:Str):eqF true (n + 1) (.str b) .non=some false:=rfl
@[simp] theorem eqF_non_lst (b:List T):eqF true (n + 1) .non (.lst b)=some false:=rfl
@[simp] theorem eqF_lst_non (b:List T):eqF true (n + 1) (.lst b) .non=some false:=rfl
@[simp] theorem eqF_non_tup (b:List T):eqF true (n + 1) .non (.tup b)=some false:=rfl
@[simp] theorem eqF_tup_non (b:List T):eqF true (n + 1) (.tup b) .non=some false:=rfl
@[simp] theorem eqF_non_int (b:Int):eqF true (n + 1) .non (.int b)=some false:=rfl
@[simp] theorem eqF_int_non (b:Int):eqF true (n + 1) (.int b) .non=some false:=rfl
@[simp] theorem eqF_lst (xs ys:List T):eqF true (n + 1) (.lst xs) (.lst ys)=if xs.length=ys.length then zbg (eqF true n) xs ys else some false:=rfl
@[simp] theorem eqF_tup (xs ys:List T):eqF true (n + 1) (.tup xs) (.tup ys)=match zbg (eqF true n) xs ys with
 | some b=>some (b && xs.length == ys.length)
 | none=>none:=rfl
@[simp] theorem eqF_dct (ks ls:List (Str × T)):eqF true (n + 1) (.dct ks) (.dct ls)=match eqD (eqF true n) ls ks with
 | some b=>some (ks.length == ls.length && b)
 | none=>none:=rfl
@[simp] theorem isDct_lst (xs:List T):zda (.lst xs)=false:=rfl
@[simp] theorem isDct_tup (xs:List T):zda (.tup xs)=false:=rfl
@[simp] theorem isDct_str (xs:Str):zda (.str xs)=false:=rfl
@[simp] theorem isDct_int (xs:Int):zda (.int xs)=false:=rfl
@[simp] theorem isDct_non:zda .non=false:=rfl
@[simp] theorem isDct_bl (b:Bool):zda (.bl b)=false:=rfl
@[simp] theorem LIM_big:LIM=16777216:=rfl
end
end Z
end
section
namespace Z
open PySem PySem.Spec PyProof.Rows L2 PySem.SeqAt
theorem zhN {β : Type} {g:DG} {tt:DT} {dk de:DE} {s0:Sg} {M:Mem} {it : β → T} {p : β → Bool} {kf : β → Str} {vf : β → T} :
  ∀ (xs:List β) (ks:List (Str × T)),(∀ x∈xs,∃s1,g (it x) s0=some s1∧tt s1 M = .ok (p x) M∧(p x=true→dk s1 M = .ok (.str (kf x)) M∧de s1 M = .ok (vf x) M))→ks.length + xs.length≤LIM →
   dcL g tt dk de s0 (xs.map it) ks M = .ok ((xs.filter p).foldl (fun acc x=>putT acc (kf x) (vf x)) ks) M
 | [],ks,_,_=>rfl
 | x :: r,ks,hs,hl=>by
  obtain ⟨s1,e1,e2,e3⟩:=hs x (List.mem_cons_self ..)
  rw [List.length_cons] at hl
  rw [List.map_cons]
  unfold dcL
  simp only [e1,e2,noEr_ok,bind_ok]
  cases e:p x with
  | true=>
   rw [if_pos rfl,(e3 e).1]
   simp only [noEr_ok,bind_ok,(e3 e).2]
   rw [if_pos (by omega)]
   have hp:(putT ks (kf x) (vf x)).length≤ks.length + 1:=by
    unfold putT
    split
    ·rw [List.length_map]; omega
    ·rw [List.length_append]; simp
   rw [zhN r (putT ks (kf x) (vf x)) (fun y hy=>hs y (List.mem_cons_of_mem _ hy)) (by omega),List.filter_cons_of_pos (by simpa using e)]
   rfl
  | false=>
   rw [if_neg (by simp),zhN r ks (fun y hy=>hs y (List.mem_cons_of_mem _ hy)) (by omega),List.filter_cons_of_neg (by simpa using e)]
theorem zfW {ks:List (Str × T)} {k:Str} {t:T} (h:k∉ks.map (·.1)):putT ks k t=ks ++ [(k,t)]:=by
 unfold putT
 rw [if_neg]
 intro c
 rw [List.any_eq_true] at c
 obtain ⟨p,hp,e⟩:=c
 exact h (by rw [← eq_of_beq e]; exact List.mem_map_of_mem hp)
theorem zhO {β : Type} {kf : β → Str} {vf : β → T}:∀ (xs:List β) (ks:List (Str × T)),(xs.map kf).Nodup→(∀ x∈xs,kf x∉ks.map (·.1))→xs.foldl (fun acc x=>putT acc (kf x) (vf x)) ks=ks ++ xs.map fun x=>(kf x,vf x)
 | [],ks,_,_=>by simp
 | x :: r,ks,nd,h=>by
  rw [List.map_cons,List.nodup_cons] at nd
  rw [List.foldl_cons,zfW (h x (List.mem_cons_self ..)),zhO r _ nd.2 (fun y hy c=>?_)]
  ·simp
  ·rw [List.map_append,List.mem_append] at c
   rcases c with c | c
   ·exact h y (List.mem_cons_of_mem _ hy) c
   ·have e:kf y=kf x:=by simpa using c
    exact nd.1 (by rw [← e]; exact List.mem_map_of_mem hy)
theorem zoP {β : Type} {kf : β → Str} {vf : β → T} (xs:List β):zeN (xs.map fun x=>(kf x,vf x))=xs.map fun x => .tup [.str (kf x),vf x]:=by
 unfold zeN; rw [List.map_map]; rfl
theorem zoQ {β : Type} {kf : β → Str} {vf : β → T} (xs:List β):zca (xs.map fun x=>(kf x,vf x))=xs.map fun x => .str (kf x):=by
 unfold zca; rw [List.map_map]; rfl
section
variable {M:Mem} {s:Sg} {g:OpM} {da:DA}
@[simp ↓] theorem w_m_dct (ks:List (Str × T)):zcF "dict" g da s (.dct ks) M=(da s M).bind (zck g (.dct ks)):=rfl
@[simp ↓] theorem w_m_lst (xs:List T):zcF "list" g da s (.lst xs) M=(da s M).bind (zck g (.lst xs)):=rfl
@[simp ↓] theorem w_m_str (x:Str):zcF "str" g da s (.str x) M=(da s M).bind (zck g (.str x)):=rfl
@[simp ↓] theorem w_m_c0 (xs:List T):zcF "list" g da s (.cel 0) (.live (.lst xs) :: M)=(da s (.live (.lst xs) :: M)).bind (zck g (.cel 0)):=rfl
@[simp ↓] theorem w_m_c1 (c:Cell) (xs:List T):zcF "list" g da s (.cel 1) (c :: .live (.lst xs) :: M)=(da s (c :: .live (.lst xs) :: M)).bind (zck g (.cel 1)):=rfl
@[simp ↓] theorem w_m_d0 (xs:List (Str × T)):zcF "dict" g da s (.cel 0) (.live (.dct xs) :: M)=(da s (.live (.dct xs) :: M)).bind (zck g (.cel 0)):=rfl
@[simp ↓] theorem w_m_d1 (c:Cell) (xs:List (Str × T)):zcF "dict" g da s (.cel 1) (c :: .live (.dct xs) :: M)=(da s (c :: .live (.dct xs) :: M)).bind (zck g (.cel 1)):=rfl
@[simp] theorem app_c0 (xs:List T) (y:T):zbo (.cel 0) [y] (.live (.lst xs) :: M)=if xs.length < LIM then some (.non,.live (.lst (xs ++ [y])) :: M) else none:=rfl
@[simp] theorem app_c1 (c:Cell) (xs:List T) (y:T):zbo (.cel 1) [y] (c :: .live (.lst xs) :: M)=if xs.length < LIM then some (.non,c :: .live (.lst (xs ++ [y])) :: M) else none:=rfl
@[simp] theorem put_c0 (ks:List (Str × T)) (k:Str) (v:T):zcY (.cel 0) (.str k) v (.live (.dct ks) :: M)=if ks.length < LIM then some (.live (.dct (putT ks k v)) :: M) else none:=rfl
@[simp] theorem put_c1 (c:Cell) (ks:List (Str × T)) (k:Str) (v:T):zcY (.cel 1) (.str k) v (c :: .live (.dct ks) :: M)=if ks.length < LIM then some (c :: .live (.dct (putT ks k v)) :: M) else none:=rfl
@[simp] theorem der_c0 (t:T):der (.live t :: M) (.cel 0)=t:=rfl
@[simp] theorem der_c1 (c:Cell) (t:T):der (c :: .live t :: M) (.cel 1)=t:=rfl
@[simp] theorem len_c0 (xs:List T):za0 [.cel 0] (.live (.lst xs) :: M)=some (.int xs.length,.live (.lst xs) :: M):=rfl
@[simp] theorem ix_c0 (xs:List T) (i:Int):gIx (.cel 0) (.int i) (.live (.lst xs) :: M)=pr (.live (.lst xs) :: M) (atI xs i):=rfl
end
theorem zc3 {β : Type} {f : β → T} {k:Nat} (h:∀ x,dep (f x)≤k):∀ xs:List β,zaU (xs.map f)≤k
 | []=>by simp [zaU]
 | x :: r=>by rw [List.map_cons]; simp only [zaU]; exact Nat.max_le.mpr ⟨h x,zc3 h r⟩
theorem zhP {β : Type} {kf : β → Str} {f : β → T} {k:Nat} (h:∀ x,dep (f x)≤k):∀ xs:List β,zbx (xs.map fun x=>(kf x,f x))≤k
 | []=>by simp [zbx]
 | x :: r=>by rw [List.map_cons]; simp only [zbx]; exact Nat.max_le.mpr ⟨h x,zhP h r⟩
theorem zkM {M:Mem} {xs:List T} (h:zau xs=true) (d:zaU xs≤18):frz za3 (.cel 0) (.live (.lst xs) :: M)=some (.lst xs,.dead :: M):=by
 show frz 19 (.lst xs) (.dead :: M)=_
 exact zc9 (by simp only [zal]; exact h) (by simp only [dep]; omega)
theorem zhQ {M:Mem} {xs:List (Str × T)} (h:za4 xs=true) (d:zbx xs≤18):frz za3 (.cel 0) (.live (.dct xs) :: M)=some (.dct xs,.dead :: M):=by
 show frz 19 (.dct xs) (.dead :: M)=_
 exact zc9 (by simp only [zal]; exact h) (by simp only [dep]; omega)
theorem zoR {M:Mem} {c:Cell} {xs:List (Str × T)} (h:za4 xs=true) (d:zbx xs≤18):frz za3 (.cel 1) (c :: .live (.dct xs) :: M)=some (.dct xs,c :: .dead :: M):=by
 show frz 19 (.dct xs) (c :: .dead :: M)=_
 exact zc9 (by simp only [zal]; exact h) (by simp only [dep]; omega)
theorem zhR {M:Mem} {t:T} (h:zal t=true) (d:dep t≤20):frz za3 t M=some (t,M):=zc9 h d
theorem zoS {β : Type} (f : β → T) (xs:List β):zbj (xs.map f)=xs.zipIdx.map fun p => .tup [.int (p.2:Int),f p.1]:=by
 unfold zbj
 rw [List.zipIdx_map,List.map_map]
 rfl
theorem zd7 (n:Nat):zbB 0 n=(List.range n).map fun (k:Nat)=>T.int (k:Int):=by
 unfold zbB; simp
theorem zdE {n:Nat} (h:n < 1000000):Z.inR (n:Int)=true:=Nat.ble_eq_true_of_le (by omega)
theorem zoT {i:Int} (h0:0≤i) (h:i < 1000000):Z.inR i=true:=by
 obtain ⟨n,rfl⟩:=Int.eq_ofNat_of_zero_le h0
 exact zdE (by omega)
end Z
end
section
namespace PySem
open PySem.SeqAt PySem.MeetsSeq PySem.MeetsSeq2 PySem.MeetsSeq3 PySem.SeqRoads2
open PySem.AutoSeq1 (wpAny_loadPart')
section
variable {A:Around} {s:Shared} {l:Addr} {es:Array DictEntry} {n:Nat} {dd:Option Addr} {sl:Array (Option Value)}
end
end PySem
namespace Z
open PySem PySem.Spec PyProof.Rows L2 PySem.SeqAt
def gDS:Op2:=fun t u M=>match der M t with
 | .dct _=>(match u with
  | .str _=>some (.bl false,M)
  | .non=>some (.bl false,M)
  | _=>none)
 | _=>none
def zcG:Op2:=fun t u M=>match gDS t u M with
 | some r=>some r
 | none=>gEq t u M
section
variable {X:Cx} {C:Cfg}
end
section
variable {M:Mem}
@[simp] theorem eqX_dct_str (ks:List (Str × T)) (x:Str):zcG (.dct ks) (.str x) M=some (.bl false,M):=rfl
@[simp] theorem eqX_str (a:T) (b x:Str):zcG (.str b) (.str x) M=gEq (.str b) (.str x) M:=rfl
@[simp] theorem eqX_int (i:Int) (u:T):zcG (.int i) u M=gEq (.int i) u M:=rfl
@[simp] theorem eqX_lst (xs:List T) (u:T):zcG (.lst xs) u M=gEq (.lst xs) u M:=rfl
@[simp] theorem eqX_tup (xs:List T) (u:T):zcG (.tup xs) u M=gEq (.tup xs) u M:=rfl
@[simp] theorem eqX_non (u:T):zcG .non u M=gEq .non u M:=rfl
@[simp] theorem eqX_bl (b:Bool) (u:T):zcG (.bl b) u M=gEq (.bl b) u M:=rfl
end
end Z
end
section
namespace Z
open PySem PySem.Spec PyProof.Rows L2 PySem.SeqAt
def rp (t:T):Str:=match toD t with
 | some d=>d.shown
 | none=>⟨#[]⟩
theorem zhS {t:T} (h:pl t=true) (hd:dep t≤40) (hw:wt t≤16777216) (M:Mem):za1 [t] M=some (.str (rp t),M):=by
 obtain ⟨d,e1,e2,e3,e4⟩:=zgN h
 have e0:zeP M t=some d:=by
  unfold zeP
  split
  ·simp [pl] at h
  ·exact e1
 unfold za1 rp
 simp only [e0,e1]
 rw [if_pos ⟨e2,by omega,by rw [LIM_big]; omega⟩]
end Z
end
section
namespace PySem.HandSPX
open PySem PySem.Spec PyProof.Rows
structure EB (B newId initId:String) (bm:List Value):Prop where
 hn:∃ Bn inN bmN,ExcBaseFacts Bn newId inN bmN∧bm.contains (.type Bn)=true
 hasB:bm.contains (.type B)=true
 noAttr:bm.contains (.type "AttributeError")=false
 noName:bm.contains (.type "NameError")=false
 noStar:(B != "*")=true
 init:Slot B "__init__" initId
 initEntry:entryFor table initId=some Builtin.«BaseException.__init__»
 initSplit:splitId initId=some (B, "__init__")
 initKind:builtinKind initId=some .slot
 initRow:Manifest.signature? initId=some ⟨.positional, "*",B,.self,[⟨"args",.varPos,false⟩]⟩
theorem EB.of {B newId initId:String} {bm:List Value} (F:ExcBaseFacts B newId initId bm):EB B newId initId bm:=
 ⟨⟨B,initId,bm,F,F.hasB⟩,F.hasB,F.noAttr,F.noName,F.noStar,F.init,F.initEntry,F.initSplit,F.initKind,F.initRow⟩
section
variable {M:Model} {A:Around} {E:Value→Shared→Prop} {h:Heap} {g:Array GenState} {d:Drawn} {t:Nat} {os:OsState}
variable {nm q:Str} {C N:Addr} {bs bm bmB:List Value} {hdct:Bool} {sn:List Str} {sub:List Value} {ab:Bool} {col:Option Bool} {dd:Option Addr} {k0 k1 k2 k3 k5:Option Value} {B newId initId:String}
end
section
variable {prog:Program} {w:World} {A:Around} {E:Value→Shared→Prop} {R:Result→Shared→Prop} {h:Heap} {g:Array GenState} {d:Drawn} {t:Nat} {os:OsState}
variable {nm q:Str} {C N:Addr} {bs bm bmB:List Value} {hdct:Bool} {sn:List Str} {sub:List Value} {ab:Bool} {col:Option Bool} {dd:Option Addr} {k0 k1 k2 k3 k5:Option Value} {B newId initId:String}
end
end PySem.HandSPX
end
section
namespace Z
open PySem PySem.Spec PyProof.Rows L2 PySem.SeqAt
structure OxC (K:PySem.W.Frag) (C:Addr) (newId:String) (bmB:List Value):Prop where
 cls:∃ nm q N bs bm sn sub ab col dd k0 k1 k2 k3 k5,K.lookup C=some (excClassObj nm q C N bs bm true sn sub ab col dd k0 k1 k2 k3 k5 newId)∧PySem.W.excTail bmB bm=true
 sa:PySem.W.findIn K (.ref C) "__setattr__" = some (some (.builtin "object.__setattr__"))
 exC:PySem.W.subIn K (.ref C) (.type "BaseException")=some true
 tyC:PySem.W.typeIn K (.ref C)=some (.type "type")
 kC:PySem.W.keepIn K (.ref C)=true
section
open PySem.W Builtin Builtin.ObjectAttr
variable {K:PySem.W.Frag} {C:Addr} {newId:String} {bmB:List Value}
end
section
variable {X:Cx} {pins:List (Addr × Obj)} {σ : L2.St} {H:Hp} {s:Shared} {a C:Addr} {f:Str} {y:V} {u:Value} {B newId initId:String} {bmB:List Value}
end
section
variable {X:Cx} {o e:Expr} {es:List Expr} {to te:TE} {ta:TA} {f x:Str} {p p' p1 p2 pos:Pos} {B newId initId:String} {bmB:List Value}
end
def SpI (C:Addr) (f:Str):Sp:=fun vs H Q _ => ∃ (a:Addr) (y:V),vs = [.ref a,y]∧H a=some (exo a C none)∧∀dx,H dx=none→dx≠a→Q .non (upd (upd H dx (exd dx [(f,y)])) a (exo a C (some dx)))
section
variable {X:Cx} {e:Expr} {es:List Expr} {ta:TA} {x:Str} {p pos:Pos} {B newId initId:String} {bmB:List Value} {C fI:Addr} {k:Nat} {fd:FuncData} {ps:List Str} {sp:Sp} {CX:CXT}
end
end Z
end
section
namespace Z
open PySem PySem.Spec PyProof.Rows L2 PySem.SeqAt
section
variable {X:Cx} {pins:List (Addr × Obj)} {σ : L2.St} {H:Hp} {cls:Value} {d:Option Addr} {a:Addr} {s:Shared}
end
section
variable {X:Cx} {pins:List (Addr × Obj)} {σ : L2.St} {H:Hp} {cls:Value} {d:Option Addr} {a:Addr} {s:Shared} {D:Ends} {Wout:WX}
end
section
variable {X:Cx} {body:List Stmt} {h₀ : ExceptHandler} {hds:List ExceptHandler} {l:List HT} {pos:Pos} {tb:WX→TS} {Wout:WX}
end
end Z
end
section
namespace Z
open PySem PySem.Spec PyProof.Rows L2 PySem.SeqAt
section
variable {C C':Cfg} {ok:Str→Bool} {mu mu':Mu} {H H':Hp} {M:Mem} {s:Sg} {σ : L2.St}
theorem Ext.xs (S:Sx C C' ok) (x:Ext C' mu H mu' H'):Ext C mu H mu' H':=⟨x.len,x.keep,x.rd,x.obj,by rw [← S.hid]; exact x.hid,x.own,x.ex⟩
end
end Z
end
section
namespace Z
open PySem PySem.Spec PyProof.Rows L2 PySem.SeqAt
end Z
end
section
namespace Z
open PySem PySem.Spec PyProof.Rows L2 PySem.SeqAt
def zfX (f:Str):List (Str × T)→Option T
 | []=>none
 | p :: r=>if p.1 == f then some p.2 else zfX f r
section
variable {X:Cx} {C:Cfg} {a dd:Addr} {c:Str} {oe:Obj} {pn:List (Addr × Obj)} {e:Expr} {de:DE} {pos p:Pos} {f x:Str} {cs:List Str}
end
end Z
namespace PySem.W
open PySem PySem.Spec PySem.Calls PyProof.Rows
section
variable {prog:Program} {w:World} {A:Around} {E:Value→Shared→Prop} {s:Shared} {K:Frag} {x D:Addr} {ox:Obj} {dd:Option (Str→Option Value)}
end
end PySem.W
end
section
namespace Z
open PySem PySem.Spec PyProof.Rows L2 PySem.SeqAt
section
variable {X:Cx} {C:Cfg} {a dd:Addr} {c:Str} {oe:Obj} {pn:List (Addr × Obj)} {e:Expr} {de:DE} {pos p q:Pos} {y:Str} {cv:Value} {tab:List (Str × Bool)}
end
section
variable {P:Program} {w:World} {K:PySem.W.Frag} {mg:Str→Option Value} {base:Heap} {k:Nat} {f:Addr} {x qual sx vx:Str} {params:Arguments} {scope:Scope} {fd:FuncData} {Ca:Addr} {fl m:Str} {B newId initId:String} {bmB:List Value} {CX:CXT}
end
structure ExcG (P:Program) (w:World) (K:PySem.W.Frag) (mg:Str→Option Value) (base:Heap) (C:Cfg) (c f:Str) (k:Nat):Prop where
 ex:∃ (B newId initId:String) (bmB:List Value) (fI:Addr) (fd:FuncData) (ps:List Str),PySem.HandSPX.EB B newId initId bmB∧OxC K (C.ga c) newId bmB∧PySem.W.findIn K (.ref (C.ga c)) "__init__" = some (some (.ref fI))∧PySem.W.typeIn K (.ref fI)=some (.type "function") ∧
  FnG P w K mg base (L2.CX P w) k fI fd ps (SpI (C.ga c) f)∧Binds K fd ps []∧mg c=some (.ref (C.ga c))
section
variable {P:Program} {w:World} {K:PySem.W.Frag} {mg:Str→Option Value} {base:Heap} {J:Ix} {k j:Nat} {X:Cx} {C:Cfg} {W:WX} {c f:Str} {pos pos' p:Pos} {e:Expr} {es:List Expr} {da:DA} {hid:Addr→Prop}
theorem Bd.names {y:Str} {A:Addr} (B:Bd P w K mg base J k X) (hg:glB J y=true) (hm:mg y=some (.ref A)):Names X y (.ref A):=⟨B.gl hg,(zcE (zc1 hg)).1,.inl (by rw [B.mg]; exact hm)⟩
end
end Z
end
section
namespace Z
open PySem PySem.Spec PyProof.Rows L2 PySem.SeqAt
def zhT (M:Mem):T→Option (Str × List (Str × T))
 | .cel i=>(match M[i]? with
  | some (.live (.ins c fs))=>some (c,fs)
  | _=>none)
 | .ins c fs=>some (c,fs)
 | _=>none
section
variable {C:Cfg} {mu:Mu} {M:Mem} {H:Hp} {t:T} {v:V} {c:Str} {fs:List (Str × T)}
end
def zay (cs:List Str) (f:Str) (de:DE):DE:=fun s M=>(de s M).bind fun t M1=>match zhT M1 t with
 | some (c,fs)=>if cs.contains c=true then (match zfX f fs with
  | some u => .ok u M1
  | none => .no) else .no
 | none => .no
def zdg (cs:List Str) (f:Str) (v t:T) (M:Mem):Option Mem:=match t with
 | .cel i=>(match M[i]? with
  | some (.live (.ins c fs))=>if cs.contains c=true∧Nat.blt fs.length 1000=true then some (M.set i (.live (.ins c (zeC f v fs)))) else none
  | _=>none)
 | _=>none
def zb0 (cs:List Str) (f:Str) (do_ de:DE):DS:=fun s M=>(de s M).toS s fun v M1=>(do_ s M1).toS s fun t M2=>match zdg cs f v t M2 with
 | some M3 => .nx s M3
 | none => .no
section
variable {X:Cx} {C:Cfg} {W:WX} {o e:Expr} {f:Str} {pos pos' tpos:Pos} {do_ de:DE} {cs:List Str}
end
def zeT (F:DF):DF:=F
def zeU (tab:Str→Option DF) (n:Nat) (m:Str) (run:DF→DF) (do_:DE) (da:DA):DE:=fun s M=>(do_ s M).bind fun t M1=>match zhT M1 t with
 | some (c,fs)=>(match tab c with
  | some F=>(match zfX m fs with
   | none=>(da s M1).bind fun ts M2=>if (t :: ts).length=n then run F (t :: ts) M2 else .no
   | some _ => .no)
  | none => .no)
 | none => .no
structure MetG (P:Program) (w:World) (K:PySem.W.Frag) (mg:Str→Option Value) (base:Heap) (C:Cfg) (c m:Str) (k n:Nat) (F:DF):Prop where
 ex:∃ (f:Addr) (fd:FuncData) (ps:List Str),FnG P w K mg base (L2.CX P w) k f fd ps (SpZ C n F)∧Cls K (C.ga c)∧Meth K (C.ga c) m f∧Binds K fd ps []
section
variable {P:Program} {w:World} {K:PySem.W.Frag} {mg:Str→Option Value} {base:Heap} {J:Ix} {k n:Nat} {X:Cx} {C:Cfg} {W:WX} {m:Str} {apos pos p:Pos} {o e:Expr} {es:List Expr} {do_:DE} {da:DA} {hid:Addr→Prop} {tab:Str→Option DF} {run:DF→DF}
end
def zhU (c:Str) (F:DF) (ts:List T) (M:Mem):Out T:=if zau ts=true then (match F (.cel 0 :: ts) [.live (.ins c [])] with
 | .ok .non M2=>(match frz za3 (.cel 0) M2 with
  | some (t',_)=>if zal t'=true then .ok t' M else .no
  | none => .no)
 | .er e _=>if za4 e.fs=true then .er e M else .no
 | _ => .no) else .no
section
variable {X:Cx} {CX:CXT} {k:Nat} {f Ca:Addr} {fd:FuncData} {ps:List Str} {sp:Sp} {E:XK}
end
structure NewG (P:Program) (w:World) (K:PySem.W.Frag) (mg:Str→Option Value) (base:Heap) (C:Cfg) (c:Str) (k n:Nat) (F:DF):Prop where
 ex:∃ (f:Addr) (fd:FuncData) (ps:List Str),FnG P w K mg base (L2.CX P w) k f fd ps (SpZ C n F)∧Mk K (C.ga c) f∧mg c=some (.ref (C.ga c))∧Binds K fd ps []
section
variable {P:Program} {w:World} {K:PySem.W.Frag} {mg:Str→Option Value} {base:Heap} {J:Ix} {k j n:Nat} {X:Cx} {C:Cfg} {W:WX} {c:Str} {pos p:Pos} {e:Expr} {es:List Expr} {da:DA} {hid:Addr→Prop} {new:Str→DF→DF} {F:DF}
end
end Z
end
section
namespace Z
open PySem PySem.Spec PyProof.Rows L2 PySem.SeqAt PpSet
section
variable {P:Program} {w:World} {h h':Heap} {a:Addr} {ks ks':List Str}
theorem SetL.perm (R:SetL w h a ks) (p:ks.Perm ks'):SetL w h a ks':=by
 obtain ⟨o,es,ep,t,ho,hx,hd,g,pm,nd,r⟩:=R
 exact ⟨o,es,ep,t,ho,hx,hd,g,pm.trans p,p.nodup_iff.mp nd,r⟩
end
section
variable {P:Program} {w:World} {A:Around} {E:Value→Shared→Prop} {s:Shared} {a:Addr} {ks:List Str}
def zcm (ks:List Str) (k:Str):List Str:=if ks.contains k then ks else ks ++ [k]
theorem SetL.typeIs (R:SetL w s.heap a ks):s.TypeIs (.ref a) "set" := by
 obtain ⟨o,es,ep,t,ho,hex,_⟩:=R
 exact ⟨o,ho,hex.1⟩
end
section
variable {X:Cx} {pins:List (Addr × Obj)} {σ : L2.St} {H:Hp} {s:Shared} {E:Value→Shared→Prop} {D:Addr} {ks:List Str} {y:Str} {tk:Tok} {Q:Value→Shared→Prop}
end
end Z
end
section
namespace Z
open PySem PySem.Spec PyProof.Rows L2 PySem.SeqAt PpSet
section
variable {X:Cx}
end
end Z
end
section
namespace Z
open PySem PySem.Spec PyProof.Rows L2 PySem.SeqAt PpSet
section
variable {X:Cx}
end
end Z
end
section
namespace Z
open PySem PySem.Spec PyProof.Rows L2 PySem.SeqAt PpSet
section
variable {X:Cx} {C:Cfg} {W:WX}
end
def zeV (t u v:T) (M:Mem):Option Mem:=match u with
 | .int k=>(match Z.cellOf M t with
  | some (i,.lst xs)=>(match ixN xs.length k with
   | some j=>some (M.set i (.live (.lst (xs.set j v))))
   | none=>none)
  | _=>none)
 | _=>none
def zb1 (dd dk dv:DE):DS:=fun s M=>(dv s M).toS s fun v M1=>(dd s M1).toS s fun t M2=>(dk s M2).toS s fun u M3=>match zeV t u v M3 with
 | some M4 => .nx s M4
 | none => .no
def zkN (g:DG) (d:DE):DS:=fun s M=>(d s M).toS s fun t M1=>match g t s with
 | some s1 => .nx s1 M1
 | none => .no
def zdF (hi:Int) (n:Nat):List T:=(List.range n).map fun (k:Nat)=>T.int (hi - (k:Int))
def zfY (da:DA):DA:=fun s M=>(da s M).bind fun ts M1=>match ts with
 | [.int i,.int j,.int k]=>if inR i=true∧inR j=true then (match k with
  | .negSucc 0 => .ok (zdF i (i - j).toNat) M1
  | _ => .no) else .no
 | _ => .no
section
variable {X:Cx} {C:Cfg} {W:WX} {tg:Expr}
end
end Z
end
section
namespace Z
open PySem PySem.Spec PyProof.Rows L2 PySem.SeqAt
structure OxI (K:PySem.W.Frag) (c f:Str) (newId:String) (bmB:List Value):Prop where
 ox:OxC K (He.ga K c) newId bmB
 ini:PySem.W.findIn K (.ref (He.ga K c)) "__init__" = some (some (.ref (He.ma K (He.ga K c) "__init__")))
 ty:PySem.W.typeIn K (.ref (He.ma K (He.ga K c) "__init__"))=some (.type "function")
 tk:PySem.W.takerIn K (He.ga K c) f=some none
section
variable {P:Program} {w:World} {K:PySem.W.Frag} {mg:Str→Option Value} {base:Heap} {C:Cfg} {k n:Nat} {F:DF}
end
section
variable {P:Program} {w:World} {K:PySem.W.Frag} {mg:Str→Option Value} {base:Heap} {J:Ix} {k:Nat} {X:Cx} {C:Cfg} {a dd:Addr} {c:Str} {oe:Obj} {pn:List (Addr × Obj)} {e:Expr} {de:DE} {pos p q:Pos} {f y:Str} {cs:List Str} {cv:Value} {tab:List (Str × Bool)}
end
end Z
end
section
namespace Z
open PySem PySem.Spec PyProof.Rows L2 PySem.SeqAt
def zeW (c0:Str) (F:DF):Str→Option DF:=fun c=>if c == c0 then some F else none
section
variable {P:Program} {w:World} {K:PySem.W.Frag} {mg:Str→Option Value} {base:Heap} {C:Cfg} {c0 c1 m:Str} {j j' k n:Nat} {F G:DF}
end
end Z
end
section
namespace Z
open PySem PySem.Spec PyProof.Rows L2 PySem.SeqAt
section
variable {P:Program} {w:World} {K:PySem.W.Frag} {mg:Str→Option Value} {base:Heap} {J:Ix} {k:Nat} {X:Cx} {C:Cfg} {W:WX} {x:Str} {pos:Pos}
end
section
variable {X:Cx} {C:Cfg} {W:WX}
theorem zd8 {a:Expr} {da:DE} (ha:PE X a (TEz C W da)) (hK:C.K=X.K) (he:zjv X a):PT X a (TTz C W (zai da)):=znx hK ha he
def zeX (d:DE):DT:=fun s M=>(d s M).bind fun t M1=>match t with
 | .bl b => .ok b M1
 | _ => .no
def zkO (t:T) (M1:Mem):Out Bool:=match t with
 | .bl b => .ok b M1
 | _ => .no
@[simp ↓] theorem u_tstB (d:DE) (s:Sg) (M:Mem):zeX d s M=(d s M).bind zkO:=rfl
@[simp ↓] theorem w_kTstB (b:Bool) (M:Mem):zkO (.bl b) M = .ok b M:=rfl
theorem zoU {o o':CmpOp} {g g':Op2} {a b c:Expr} {da db dc:DE} {pos:Pos} (hg:gB g) (ho:OpR X (compareOp o) (rZ C g)) (ho':OpR X (compareOp o') (rZ C g')) (ha:PE X a (TEz C W da)) (hb:PE X b (TEz C W db)) (hc:PE X c (TEz C W dc))
  (hm:lastMarks [o,o'] [b,c]=false):PT X (.Compare a [o,o'] [b,c] pos) (TTz C W (zeX (zdx g g' da db dc))):=
 zfu (pt_chain ho ho' ha hb hc hm) fun σ H Q ⟨mu,s,M,R,S,P⟩=>zjz hg ⟨mu,s,M,R,S,P.bind fun t M1 mu1 x H1 R1 E1 r1 P1=>by
  cases t with
  | bl b=>exact ⟨b,r1.blI,P1 mu1 b H1 R1 Ext.refl rfl⟩
  | _=>exact P1.elim⟩
end
end Z
end
section
namespace Z
open PySem PySem.Spec PyProof.Rows L2 PySem.SeqAt
def zoV (j:DJ):DE:=fun s M=>(j Str.empty s M).bind fun y M1 => .ok (.str y) M1
def zoW (d:DE):DE:=fun s M=>(d s M).bind fun t M1=>match t with
 | .str y=>if y.length≤LIM then .ok (.str y) M1 else .no
 | _ => .no
section
variable {X:Cx} {C:Cfg} {W:WX}
def kJ (r:DJ) (acc:Str) (s:Sg):T→Mem→Out Str:=fun t M1=>match t with
 | .str y=>if (acc ++ y).length≤LIM then r (acc ++ y) s M1 else .no
 | _ => .no
def zkP:Str→Mem→Out T:=fun y M1 => .ok (.str y) M1
def zkQ:T→Mem→Out T:=fun t M1=>match t with
 | .str y=>if y.length≤LIM then .ok (.str y) M1 else .no
 | _ => .no
@[simp ↓] theorem u_jNil (acc:Str) (s:Sg) (M:Mem):zjf acc s M = .ok acc M:=rfl
@[simp ↓] theorem u_jCons (d:DE) (r:DJ) (acc:Str) (s:Sg) (M:Mem):zjg d r acc s M=(d s M).bind (kJ r acc s):=rfl
@[simp ↓] theorem u_dFst (j:DJ) (s:Sg) (M:Mem):zoV j s M=(j Str.empty s M).bind zkP:=rfl
@[simp ↓] theorem u_dFmt (d:DE) (s:Sg) (M:Mem):zoW d s M=(d s M).bind zkQ:=rfl
@[simp ↓] theorem w_kJ (r:DJ) (acc:Str) (s:Sg) (y:Str) (M:Mem):kJ r acc s (.str y) M=if (acc ++ y).length≤LIM then r (acc ++ y) s M else .no:=rfl
@[simp ↓] theorem w_kFst (y:Str) (M:Mem):zkP y M = .ok (.str y) M:=rfl
@[simp ↓] theorem w_kFmt (y:Str) (M:Mem):zkQ (.str y) M=if y.length≤LIM then .ok (.str y) M else .no:=rfl
end
end Z
end
section
namespace Z
open PySem PySem.Spec PyProof.Rows L2 PySem.SeqAt
section
variable {X:Cx} {C:Cfg} {W:WX} {pos:Pos}
end
section
variable {P:Program} {w:World} {K:PySem.W.Frag} {mg:Str→Option Value} {base:Heap} {J:Ix} {k:Nat} {X:Cx} {C:Cfg} {W:WX} {x:Str} {i:Nat} {pos p:Pos}
end
end Z
end
section
namespace Z
open PySem PySem.Spec PyProof.Rows L2 PySem.SeqAt
theorem flat_rep {C C':Cfg} {mu mu':Mu} {H H':Hp} {t:T} {v:V} (h:zah t=true) (r:Rep C mu H t v):Rep C' mu' H' t v:=by
 cases r with
 | non=>exact .non
 | bl b=>exact .bl b
 | int i=>exact .int i
 | str x=>exact .str x
 | _=>cases h
section
variable {C:Cfg} {mu:Mu} {M:Mem} {H:Hp} {n:Nat} {F:DF} {Q:VK} {E:XK}
end
section
variable {X:Cx} {C:Cfg} {W:WX} {CX:CXT} {n:Nat} {F:DF} {dts:List T} {x:Str} {p pos:Pos} {es:List Expr} {da:DA}
end
section
variable {P:Program} {w:World} {K:PySem.W.Frag} {mg:Str→Option Value} {base:Heap} {J:Ix} {k:Nat} {X:Cx} {C:Cfg} {W:WX} {x:Str} {i:Nat} {pos p:Pos} {j n:Nat} {F:DF} {dts:List T} {e:Expr} {es:List Expr} {da:DA} {hid:Addr→Prop}
end
section
variable {X:Cx} {C:Cfg}
end
end Z
end
section
namespace Z
open PySem PySem.Spec PyProof.Rows L2 PySem.SeqAt
section
variable {P:Program} {w:World} {K:PySem.W.Frag} {mg:Str→Option Value} {base:Heap} {J:Ix} {k:Nat} {X:Cx} {x y:Str} {a b:Expr} {px py pt:Pos} {kt k2 pt2}
end
end Z
end
section
namespace Z
open PySem PySem.Spec PyProof.Rows L2 PySem.SeqAt PpSet
section
variable {P:Program} {w:World} {A:Around} {E:Value→Shared→Prop} {s:Shared}
end
section
variable {X:Cx} {C:Cfg} {W:WX}
variable {P:Program} {w:World} {K:PySem.W.Frag} {mg:Str→Option Value} {base:Heap} {J:Ix} {k:Nat}
end
end Z
end
section
namespace Z
open PySem PySem.Spec PyProof.Rows L2 PySem.SeqAt
section
variable {prog:Program} {w:World} {A:Around} {E:Value→Shared→Prop} {s:Shared}
end
section
variable {X:Cx} {C:Cfg} {W:WX}
end
end Z
end
section
namespace Z
open PySem PySem.Spec PyProof.Rows L2 PySem.SeqAt
structure PrpG (P:Program) (w:World) (K:PySem.W.Frag) (mg:Str→Option Value) (base:Heap) (C:Cfg) (c m:Str) (k:Nat) (F:DF):Prop where
 ex:∃ (p f:Addr) (fd:FuncData) (ps:List Str),FnG P w K mg base (L2.CX P w) k f fd ps (SpZ C 1 F)∧Cls K (C.ga c)∧PropOf K (C.ga c) m p f∧Binds K fd ps []
section
variable {P:Program} {w:World} {K:PySem.W.Frag} {mg:Str→Option Value} {base:Heap} {J:Ix} {k n:Nat} {X:Cx} {C:Cfg} {W:WX} {m c:Str} {apos pos p:Pos} {o e:Expr} {es:List Expr} {do_:DE} {da:DA} {hid:Addr→Prop} {tab:Str→Option DF} {run:DF→DF} {F:DF}
structure CmtG (P:Program) (w:World) (K:PySem.W.Frag) (mg:Str→Option Value) (base:Heap) (C:Cfg) (c m:Str) (k n:Nat) (F:DF):Prop where
 ex:∃ (p f:Addr) (fd:FuncData) (ps:List Str),FnG P w K mg base (L2.CX P w) k f fd ps (SpZ C n F)∧ClX.CRead K (C.ga c) (.type "type")∧ClX.CMet K (C.ga c) (.type "type") m p f∧Binds K fd ps []
structure SmtG (P:Program) (w:World) (K:PySem.W.Frag) (mg:Str→Option Value) (base:Heap) (C:Cfg) (c m:Str) (k n:Nat) (F:DF):Prop where
 ex:∃ (p f:Addr) (fd:FuncData) (ps:List Str),FnG P w K mg base (L2.CX P w) k f fd ps (SpZ C n F)∧ClX.CRead K (C.ga c) (.type "type") ∧
  PySem.W.findCls K (.ref (C.ga c)) (.type "type") m=some (.get (.builtin "staticmethod.__get__") (.ref p) .none (.ref (C.ga c)))∧(∃ rest,PySem.W.recIn K p "staticmethod" = some (.ref f :: rest))∧PySem.W.keepIn K (.ref f)=true∧Binds K fd ps []
end
end Z
end
section
namespace Z
open PySem PySem.Spec PyProof.Rows L2 PySem.SeqAt
def tyNs:List String := ["NoneType", "bool", "int", "str", "list", "tuple", "dict"]
structure IsO (K:PySem.W.Frag) (y:Str) (tab:List (Str × Bool)):Prop where
 own:∀ c b,tab.lookup c=some b→Cls K (He.ga K c)∧PySem.W.findIn K (.ref (He.ga K c)) "__class__" = some (some (.builtin "object.__class__"))∧PySem.W.mroIn K (He.ga K c) (.type "object")=some true∧PySem.W.kitOne K (.ref (He.ga K c)) (.ref (He.ga K y))=some b
 ty:∀ n,tyNs.contains n=true→PySem.W.kitOne K (.type n) (.ref (He.ga K y))=some false
 hn:PySem.W.specialIn K (.builtin "object.__class__") "__get__" = some (some (.builtin "getset_descriptor.__get__"))
 htk:PySem.W.takesIn K (.builtin "object.__class__")=some true
structure SmF (K:PySem.W.Frag) (c m d:Str):Prop where
 rd:ClX.CRead K (He.ga K c) (.type "type")
 at_:PySem.W.findCls K (.ref (He.ga K c)) (.type "type") m=some (.get (.builtin "staticmethod.__get__") (.ref (He.ma K (He.ga K d) m)) .none (.ref (He.ga K c)))
 rc:∃ rest,PySem.W.recIn K (He.ma K (He.ga K d) m) "staticmethod" = some (.ref (He5.wf K (He.ga K d) "staticmethod" m) :: rest)
 kp:PySem.W.keepIn K (.ref (He5.wf K (He.ga K d) "staticmethod" m))=true
section
variable {P:Program} {w:World} {K:PySem.W.Frag} {mg:Str→Option Value} {base:Heap} {C:Cfg} {k n:Nat} {F:DF} {c m d:Str} {fd:FuncData} {ps:List Str}
end
section
variable {P:Program} {w:World} {K:PySem.W.Frag} {mg:Str→Option Value} {base:Heap} {J:Ix} {k n:Nat} {X:Cx} {C:Cfg} {W:WX} {y:Str} {pos p q:Pos} {o e:Expr} {es:List Expr} {do_:DE} {da:DA} {hid:Addr→Prop} {tab:Str→Option DF} {run:DF→DF} {tb:List (Str × Bool)}
end
section
variable {k j j':Nat} {c0 c1:Str} {F F1:DF} {G:Str→Nat→DF→Prop} {f:Nat→Nat}
end
end Z
end
section
namespace Z
open PySem PySem.Spec PyProof.Rows L2 PySem.SeqAt
section
variable {C C':Cfg} {mu mu':Mu} {H:Hp} {n:Nat}
end
section
variable {C:Cfg} {mu mu':Mu} {M M':Mem} {H H':Hp}
variable {n:Nat} {F:DF} {Q:VK} {E:XK}
end
section
variable {P:Program} {w:World} {K:PySem.W.Frag} {mg:Str→Option Value} {base:Heap} {J:Ix} {k:Nat} {X:Cx} {C:Cfg} {W:WX} {CX:CXT} {j n:Nat} {F:DF} {dts:List T} {x:Str} {p pos:Pos} {e:Expr} {es:List Expr} {da:DA} {hid:Addr→Prop}
end
section
variable {C:Cfg} {mu:Mu} {M:Mem} {H:Hp}
end
section
variable {X:Cx} {C:Cfg}
end
end Z
end
section
namespace Z
open PySem PySem.Spec PyProof.Rows L2 PySem.SeqAt
section
variable {C C':Cfg} {mu nu:Mu} {H H':Hp} {n:Nat}
structure ShN (n:Nat) (mu nu:Mu):Prop where
 lt:∀ i:Nat,i < mu.length→i + n < nu.length
 at_:∀ (i:Nat) (a:Addr),i < mu.length→nu[i + n]?=some (some a)→mu[i]?=some (some a)
end
section
variable {X:Cx} {C:Cfg}
variable {W:WX} {CX:CXT} {n:Nat} {F:DF} {x:Str} {p pos:Pos} {es:List Expr} {da:DA}
variable {P:Program} {w:World} {K:PySem.W.Frag} {mg:Str→Option Value} {base:Heap} {J:Ix} {k j:Nat} {hid:Addr→Prop}
end
end Z
end
section
namespace PySem.HandSPX
open PySem PySem.W
variable {prog:Program} {w:World} {A:Around} {s:Shared} {E:Value→Shared→Prop}
section
variable {K:Type} [DecidableEq K] {knd:KeyKind prog w K}
end
end PySem.HandSPX
namespace Z
open PySem PySem.Spec PyProof.Rows L2 PySem.SeqAt
section
variable {X:Cx} {C:Cfg} {mu:Mu} {pins:List (Addr × Obj)} {σ : L2.St} {H:Hp} {s:Shared}
end
end Z
end
section
namespace Z
open PySem PySem.Spec PyProof.Rows L2 PySem.SeqAt PpSet
structure Ents (w:World) (es:Array (Int × Value)) (ms:List Str):Prop where
 good:∀ e∈es.toList,zje w e
 perm:(es.toList.map zgO).Perm ms
section
variable {P:Program} {w:World} {A:Around} {E:Value→Shared→Prop} {s:Shared} {a b:Addr} {ks ms:List Str}
theorem Ents.of {es es':Array (Int × Value)} (h:Ents w es ms) (p:es'.toList.Perm es.toList):Ents w es' ms:=⟨fun e he=>h.good e (p.mem_iff.mp he),(p.map zgO).trans h.perm⟩
theorem zoX {k:Str} {l:List Str} (x:Str):x∈zcm l k↔x∈l∨x=k:=by
 unfold zcm
 split
 ·rename_i h
  constructor
  ·exact .inl
  ·rintro (z | rfl)
   ·exact z
   ·exact List.contains_iff_mem.mp h
 ·simp
theorem zkR:∀ (ys ks:List Str) (x:Str),x∈ys.foldl zcm ks↔x∈ks∨x∈ys
 | [],ks,x=>by simp
 | y :: ys,ks,x=>by
  rw [List.foldl_cons,zkR ys (zcm ks y) x,zoX]
  simp [or_assoc]
end
end Z
end
section
namespace Z
open PySem PySem.Spec PyProof.Rows L2 PySem.SeqAt
section
variable {owner:Array (Option Nat)} {ps:List Nat}
end
structure Own15 (n:Nat) (owner:Array (Option Nat)):Prop where
 sz:owner.size=16
 all:∀ k,k < n→∃j,j≤15∧oAt owner j=some k
 ps:∃ ps:List Nat,ps.length=n∧∀j,j≤15→oAt owner j≠none→j∈ps
end Z
end
section
namespace Z
open PySem PySem.Spec PyProof.Rows L2 PySem.SeqAt PpSet
section
variable {P:Program} {w:World} {A:Around} {E:Value→Shared→Prop} {s:Shared} {a b:Addr} {ks ms:List Str}
end
end Z
end
section
namespace Z
open PySem PySem.Spec PyProof.Rows L2 PySem.SeqAt PpSet
section
variable {P:Program} {w:World} {A:Around} {E:Value→Shared→Prop} {s:Shared} {a b:Addr} {ks ms:List Str}
end
end Z
end
section
namespace Z
open PySem PySem.Spec PyProof.Rows L2 PySem.SeqAt PpSet
section
variable {X:Cx} {C:Cfg} {W:WX}
variable {P:Program} {w:World} {K:PySem.W.Frag} {mg:Str→Option Value} {base:Heap} {J:Ix} {k:Nat}
end
end Z
end
section
namespace Z
open PySem PySem.Spec PyProof.Rows L2 PySem.SeqAt PySem.W
section
variable {prog:Program} {w:World} {A:Around} {E:Value→Shared→Prop} {s:Shared}
end
section
variable {X:Cx}
end
end Z
end
section
namespace Z
open PySem PySem.Spec PyProof.Rows L2 PySem.SeqAt
section
variable {X:Cx} {C:Cfg} {W:WX}
theorem RepD.pairs {mu:Mu} {H:Hp}:∀ {xs:List (Str × T)} {ws:List (Key × V)},RepD C mu H xs ws→∃ks:List (Str × V),ws=ks.map (fun e=>(Sum.inr e.1,e.2))∧xs.length=ks.length∧∀p∈xs.zip ks,p.1.1=p.2.1∧Rep C mu H p.1.2 p.2.2
 | _,_,.nil=>⟨[],rfl,rfl,fun p hp=>by simp at hp⟩
 | _,_,.cons (k:=k) (v:=v) h r=>by
  obtain ⟨ks,rfl,hl,hr⟩:=RepD.pairs r
  refine ⟨(k,v) :: ks,rfl,by simp [hl],fun p hp=>?_⟩
  rw [List.zip_cons_cons] at hp
  rcases List.mem_cons.mp hp with rfl | hp
  ·exact ⟨rfl,h⟩
  ·exact hr p hp
variable {P:Program} {w:World} {K:PySem.W.Frag} {mg:Str→Option Value} {base:Heap} {J:Ix} {k:Nat}
end
end Z
end
section
namespace Z
open PySem PySem.Spec PyProof.Rows L2 PySem.SeqAt
structure FnV (P:Program) (w:World) (K:PySem.W.Frag) (mg:Str→Option Value) (base:Heap) (CX:CXT) (k:Nat) (f:Addr) (sp:Sp):Prop where
 run:∀ (A:Around) (outer:List Env) (s:Shared) (H:Hp) (us:List Value) (vs:List V) (Q:VK) (E:XK),Room k A→A.guards=some []→Env0 P w K mg base A outer s H→Vals vs us→sp vs H Q E →
  codeAny (model P w) A (.call (.ref f) ⟨us,[]⟩) (CR CX outer P w H s Q E) s
def SpV (sp:Sp):Sp:=fun vs H Q E=>vs.length≤sizeLine∧∀p,H p=none→sp [V.ref p] (upd H p (.tup vs)) Q E
section
variable {CX:CXT} {P:Program} {w:World} {K:PySem.W.Frag} {mg:Str→Option Value} {base:Heap} {k:Nat} {f:Addr} {x qual:Str} {params:Arguments} {body:List Stmt} {scope:Scope} {dvs:List V} {kws:List (Str × V)} {fd:FuncData} {N:List Str} {pv:Str} {sp:Sp}
end
structure CalV (P:Program) (w:World) (K:PySem.W.Frag) (mg:Str→Option Value) (base:Heap) (C:Cfg) (x:Str) (k:Nat) (F:DF):Prop where
 ex:∃ (f:Addr),FnV P w K mg base (L2.CX P w) k f (SpV (SpZ C 1 F))∧mg x=some (.ref f)∧PySem.W.keepIn K (.ref f)=true
section
variable {P:Program} {w:World} {K:PySem.W.Frag} {mg:Str→Option Value} {base:Heap} {J:Ix} {k:Nat} {X:Cx} {C:Cfg} {W:WX} {x:Str} {pos p:Pos} {j:Nat} {F:DF} {e:Expr} {es:List Expr} {da:DA} {hid:Addr→Prop}
end
end Z
end
section
namespace Z
open PySem PySem.Spec PyProof.Rows L2 PySem.SeqAt
section
variable {X:Cx} {C:Cfg} {W:WX}
end
section
variable {P:Program} {w:World} {K:PySem.W.Frag} {mg:Str→Option Value} {base:Heap} {J:Ix} {k:Nat} {X:Cx} {C:Cfg} {W:WX}
end
end Z
end
section
namespace Z
open PySem PySem.Spec PyProof.Rows L2 PySem.SeqAt
section
variable {X:Cx} {C:Cfg} {W:WX}
end
section
variable {P:Program} {w:World} {K:PySem.W.Frag} {mg:Str→Option Value} {base:Heap} {J:Ix} {k:Nat} {X:Cx} {C:Cfg} {W:WX}
end
end Z
end
section
namespace Z
open PySem PySem.Spec PyProof.Rows L2 PySem.SeqAt
section
variable {X:Cx} {C:Cfg} {W:WX}
end
end Z
end
section
namespace L2
open PySem PySem.Spec PyProof.Rows
section
variable {X:Cx}
end
end L2
namespace Z
open PySem PySem.Spec PyProof.Rows L2 PySem.SeqAt
section
variable {X:Cx} {C:Cfg} {W:WX}
end
end Z
end
section
namespace Z
open PySem PySem.Spec PyProof.Rows L2 PySem.SeqAt
section
variable {X:Cx} {C:Cfg} {W:WX}
end
end Z
end
section
namespace Z
open PySem PySem.Spec PyProof.Rows L2 PySem.SeqAt
section
variable {prog:Program} {w:World} {A:Around} {s:Shared} {f c':Addr} {q x:Str} {params:Arguments} {body:Expr} {scope:Scope} {pm ctv v:Value} {k:PyData}
end
end Z
end
section
namespace Z
open PySem PySem.Spec PyProof.Rows L2 PySem.SeqAt
section
variable {X:Cx} {pins:List (Addr × Obj)} {σ : L2.St} {H:Hp} {s:Shared}
end
section
variable {C:Cfg} {mu:Mu} {M:Mem} {H H1:Hp} {P:Addr} {q:Str}
end
end Z
end
section
namespace Z
open PySem PySem.Spec PyProof.Rows L2 PySem.SeqAt
structure LamF (X:Cx) (x:Str) (params:Arguments) (body:Expr) (scope:Scope):Prop where
 kind:scope.kind = .function
 co:scope.isCoroutine=false
 gen:scope.isGenerator=false
 loc:scope.names.lookup x=some .local
 nc:∀ y∈scope.names,y.2 ≠ .cell
 nf:∀ y∈scope.names,y.2 ≠ .free
 bind:∀ (q:Str) (pm ctv v:Value) (c':Addr),bindArgs (PySem.W.kla_fn "<lambda>" q params body scope [] pm (.ref c') ctv) ⟨[v],[]⟩=pure [(x,v)]
 dfl:defaultsOf params X.env=([],[])
section
variable {X:Cx} {C:Cfg} {W:WX} {x:Str} {params:Arguments} {body:Expr} {scope:Scope} {kf:Mem→T→Option Int} {e:Expr} {da:DE} {p pos kpos lp p1 p2 p3:Pos} {nm:Option Str} {c P:Addr}
end
end Z
end
section
namespace Z
open PySem PySem.Spec PyProof.Rows L2 PySem.SeqAt
section
variable {P:Program} {w:World} {K:PySem.W.Frag} {mg:Str→Option Value} {base:Heap} {J:Ix} {k:Nat} {X:Cx} {C:Cfg} {W:WX} {CX:CXT} {x:Str} {pos p:Pos} {j n:Nat} {F:DF} {dts:List T} {e:Expr} {es:List Expr} {da:DA} {hid:Addr→Prop}
end
end Z
end
section
namespace Z
open PySem PySem.Spec PyProof.Rows L2 PySem.SeqAt
abbrev Tf:Type:=List (He.Defn × Str)
def zoY (K:PySem.W.Frag) (tf:Tf):List (Addr × Str):=tf.map fun d=>((He.cT K d.1).2,d.2)
structure HsL (K:PySem.W.Frag) (mg:Str→Option Value) (base:Heap) (tb:List (Addr × Str)) (tf:Tf):Prop where
 sys:∃ o,base.get? sysModules=some o
 eq:tb=zoY K tf
 tab:∀ d∈tf,LamX.TabB base mg (He.cT K d.1).1 (He.cT K d.1).2
 nd:(tf.map fun d=>(He.cT K d.1).2).Nodup
structure LamD (X:Cx) (C:Cfg) (c P:Addr):Prop where
 TB:LamX.TabB X.base X.mg c P
 code:X.env.code = .ref c
 mem:(P,X.env.qual ++ "<lambda>")∈C.tb
 one:∀ p∈C.tb,p.1=P→p.2=X.env.qual ++ "<lambda>"
section
variable {P:Program} {w:World} {K:PySem.W.Frag} {mg:Str→Option Value} {base:Heap} {J:Ix} {k:Nat} {X:Cx} {C:Cfg} {W:WX} {x:Str} {params:Arguments} {body:Expr} {scope:Scope} {kf:Mem→T→Option Int} {e:Expr} {da:DE} {p pos kpos lp:Pos} {nm:Option Str} {c P':Addr}
end
section
variable {CX:CXT} {P:Program} {w:World} {K:PySem.W.Frag} {mg:Str→Option Value} {base:Heap} {k n:Nat} {f:Addr} {x qual:Str} {params:Arguments} {body:List Stmt} {scope:Scope} {dvs:List V} {kws:List (Str × V)} {fd:FuncData} {N ps:List Str} {C:Cfg} {sp:Sp}
end
structure TfOk (tf:Tf) (K:PySem.W.Frag) (h:Heap):Prop where
 hd:∀ d∈tf,PySem.W.codeHdIn K (He.cT K d.1).1 (He.cT K d.1).2=true
 out:∀ d∈tf,K.lookup (He.cT K d.1).2=none
 empty:∀ d∈tf,h.get? (He.cT K d.1).2=some {cls := .none,data := .fields #[]}
 nd:(tf.map fun d=>(He.cT K d.1).2).Nodup
end Z
end
section
namespace Z
open PySem PySem.Spec PyProof.Rows L2 PySem.SeqAt
section
variable {P:Program} {w:World} {K:PySem.W.Frag} {mg:Str→Option Value} {base:Heap} {J:Ix} {k:Nat} {X:Cx} {C:Cfg} {W:WX} {x:Str} {pos p q:Pos} {m:Bool}
end
section
variable {X:Cx} {C:Cfg} {a dd:Addr} {c:Str} {oe:Obj} {pn:List (Addr × Obj)} {pos p q:Pos} {ns:List Str} {tab:List (Str × Bool)}
end
section
variable {P:Program} {w:World} {K:PySem.W.Frag} {mg:Str→Option Value} {base:Heap} {J:Ix} {k:Nat} {X:Cx} {C:Cfg} {a dd:Addr} {c:Str} {oe:Obj} {pn:List (Addr × Obj)} {e u:Expr} {da:DA} {pos p q:Pos} {y:Str} {ns:List Str} {tab:List (Str × Bool)}
end
end Z
end
section
namespace Z
open PySem PySem.Spec PyProof.Rows L2 PySem.SeqAt
def PEg (X:Cx) (e:Expr) (t:TE):Prop := ∀ (pins:List (Addr × Obj)) (s:Shared) (σ : L2.St) (H:Hp) (Q:VK),Inv X pins σ H s→t σ H Q→wpAny (model X.prog X.w) X.A (eval e X.env) (fun v s1=>1≤s1.toks∧EP X pins σ Q v s1) X.xe s
section
variable {X:Cx} {C:Cfg} {W:WX}
theorem zkS {e:Expr} {t t':TE} (h:PET X e t) (w:∀ σ H Q,t' σ H Q→t σ H Q):PET X e t':=fun pins s σ H Q h0 I q=>h pins s σ H Q h0 I (w σ H Q q)
theorem zkT {es:List Expr} {t t':TA} (h:PAT X es t) (w:∀ σ H Q,t' σ H Q→t σ H Q):PAT X es t':=fun pos pins s σ H Q h0 I q=>h pos pins s σ H Q h0 I (w σ H Q q)
theorem zhV {e:Expr} {t t':TE} (h:PEg X e t) (w:∀ σ H Q,t' σ H Q→t σ H Q):PEg X e t':=fun pins s σ H Q I q=>h pins s σ H Q I (w σ H Q q)
theorem zoZ {e:Expr} {es:List Expr} {te:TE} {ta:TA} (ha:PEg X e te) (hr:PAT X es ta) (hs:starEach (e :: es) X.env=(false,eval e X.env) :: starEach es X.env:=by rfl):PA X (e :: es) (tCons te ta):=by
 refine ⟨fun pos pins s σ H Q I h=>?_⟩
 rw [hs]
 show wpAny _ _ (spliced ((false,eval e X.env) :: backTo pos (starEach es X.env))) _ _ s
 refine Calls.spliced_cons (thn (ha pins s σ H _ I h) fun u s1 ⟨h1,x,H1,I1,r1,q1⟩=>?_)
 exact thn (hr pos pins s1 σ H1 _ h1 I1 q1) fun us s2 ⟨xs,H2,I2,r2,q2⟩=>⟨x :: xs,H2,I2,.cons r1 r2,q2⟩
theorem zo0 {y:Str} {j:Nat} {p:Pos}:PEg X (.Constant (.str y) j p) (TEz C W (dC (.str y))):=fun pins s σ H Q I ⟨mu,sg,M,R,S,P⟩=>
 Calls.Constant_str ⟨Nat.succ_le_succ (Nat.zero_le _),.str y,H,I.tok (s.toks + 1),⟨_,rfl⟩,P mu _ H R Ext.refl (.str y)⟩
theorem zo1 {op:Operator} {g:Op2} {a b:Expr} {da db:DE} {pos:Pos} (ho:OpR X (binaryOp op) (rZ C g)) (ha:PE X a (TEz C W da)) (hb:PEg X b (TEz C W db)):PEg X (.BinOp a op b pos) (TEz C W (zac g da db)):=by
 refine zhV (t:=tOp (rZ C g) (TEz C W da) (TEz C W db)) (fun pins s σ H Q I h=>?_) fun _ _ _ h=>zdQ h
 refine wpAny_BinOp (thn (ha.run pins s σ H _ I h) fun v s1 ⟨x,H1,I1,r1,q1⟩=>?_)
 refine thn (hb pins s1 σ H1 _ I1 q1) fun u s2 ⟨h2,y,H2,I2,r2,q2⟩=>?_
 refine wpAny_mono (PySem.wpAny_toks (ho pins s2 σ H2 x y v u Q I2 r1 r2 q2)) (fun _ s3 q=>⟨Nat.le_trans h2 q.1,q.2⟩) fun _ _ z=>z.2
theorem zo2 {e:Expr} {es:List Expr} {d:DE} {da:DA} (he:PEg X e (TEz C W d)) (hes:PAT X es (TAz C W da)) (hs:starEach (e :: es) X.env=(false,eval e X.env) :: starEach es X.env):PA X (e :: es) (TAz C W (zab d da)):=
 zgR (zoZ he hes hs) fun σ H Q ⟨mu,s,M,R,S,P⟩=>⟨mu,s,M,R,S,P.bind fun t M1 mu1 x H1 R1 E1 r1 P1=>by
  refine ⟨mu1,s,M1,R1,S.mono E1.rx,P1.bind fun ts M2 mu2 xs H2 R2 E2 r2 P2=>?_⟩
  exact P2 mu2 _ H2 R2 Ext.refl (.cons (r1.mono E2.rx) r2)⟩
theorem zo3:PAT X [] (TAz C W zad):=zkT pat_nil fun σ H Q ⟨mu,s,M,R,S,P⟩=>P mu [] H R Ext.refl .nil
theorem zo4 {e:Expr} {es:List Expr} {d:DE} {da:DA} (he:PET X e (TEz C W d)) (hes:PAT X es (TAz C W da)) (hs:starEach (e :: es) X.env=(false,eval e X.env) :: starEach es X.env):PAT X (e :: es) (TAz C W (zab d da)):=
 zkT (pat_cons he hes hs) fun σ H Q ⟨mu,s,M,R,S,P⟩=>⟨mu,s,M,R,S,P.bind fun t M1 mu1 x H1 R1 E1 r1 P1=>by
  refine ⟨mu1,s,M1,R1,S.mono E1.rx,P1.bind fun ts M2 mu2 xs H2 R2 E2 r2 P2=>?_⟩
  exact P2 mu2 _ H2 R2 Ext.refl (.cons (r1.mono E2.rx) r2)⟩
def zd9 (y z:Str) (d:DE):DE:=fun s M=>(d s M).bind fun t M1=>match t with
 | .str x=>if x.length + (x.length + 1) * z.length≤16777216 then .ok (.str (Txt.replace x y z)) M1 else .no
 | _ => .no
theorem s1l {o:Expr} {d:DE} {y z:Str} {j k:Nat} {c0 c1 apos pos:Pos} (ho:PE X o (TEz C W d)) (hyz:(y == z)=false)
  (hst:starEach [.Constant (.str y) j c0,.Constant (.str z) k c1] X.env = [(false,eval (.Constant (.str y) j c0) X.env),(false,eval (.Constant (.str z) k c1) X.env)]:=by rfl)
  (hbase:attributeBase o "replace" X.env (eval o X.env)=eval o X.env:=by rfl) (hline:(apos.endLine == pos.line)=true:=by rfl) :
  PET X (.Call (.Attribute o "replace" apos) [.Constant (.str y) j c0,.Constant (.str z) k c1] [] pos) (TEz C W (zd9 y z d)):=
 zkS (CwR.pet_replC ho hyz hst hbase hline) fun σ H Q ⟨mu,s,M,R,S,P⟩=>⟨mu,s,M,R,S,P.bind fun t M1 mu1 v H1 R1 E1 r1 P1=>by
  split at P1
  ·rename_i x
   split at P1
   ·rename_i hz
    exact ⟨x,r1.strI,hz,P1 mu1 _ H1 R1 Ext.refl (.str _)⟩
   ·exact P1.elim
  ·exact P1.elim⟩
end
end Z
end
section
namespace Z
open PySem PySem.Spec PyProof.Rows L2 PySem.SeqAt
section
variable {prog:Program} {w:World} {A:Around} {s:Shared} {f c' L:Addr} {q x:Str} {scope:Scope}
end
section
variable {X:Cx} {C:Cfg} {x:Str} {scope:Scope} {p1 p2 p3:Pos} {j:Nat}
end
end Z
end
section
namespace Z
open PySem PySem.Spec PyProof.Rows L2 PySem.SeqAt
section
variable {X:Cx} {C:Cfg} {W:WX} {x:Str} {params:Arguments} {body:Expr} {scope:Scope} {kf:Mem→T→Option Int} {e:Expr} {da:DE} {p pos kpos lp p1 p2 p3:Pos} {nm:Option Str} {c P:Addr} {m:Bool}
end
section
variable {P:Program} {w:World} {K:PySem.W.Frag} {mg:Str→Option Value} {base:Heap} {J:Ix} {k:Nat} {X:Cx} {C:Cfg} {W:WX} {x:Str} {params:Arguments} {body:Expr} {scope:Scope} {kf:Mem→T→Option Int} {e:Expr} {da:DE} {p pos kpos lp:Pos} {nm:Option Str} {c P':Addr} {m:Bool}
end
end Z
end
section
namespace Z
open PySem PySem.Spec PyProof.Rows L2 PySem.SeqAt
section
variable {prog:Program} {w:World} {A:Around} {s:Shared} {f c':Addr} {q x:Str} {params:Arguments} {body:Expr} {scope:Scope} {pm ctv v:Value} {k:PyData}
end
section
variable {X:Cx} {C:Cfg} {W:WX} {x:Str} {params:Arguments} {body:Expr} {scope:Scope} {kf:Mem→T→Option Int} {e:Expr} {da:DE} {p pos kpos lp p1 p2 p3:Pos} {nm nm2:Option Str} {kk:Nat} {pk kpos2:Pos} {c P:Addr}
end
section
variable {P:Program} {w:World} {K:PySem.W.Frag} {mg:Str→Option Value} {base:Heap} {J:Ix} {k:Nat} {X:Cx} {C:Cfg} {W:WX} {x:Str} {params:Arguments} {body:Expr} {scope:Scope} {kf:Mem→T→Option Int} {e:Expr} {da:DE} {p pos kpos lp:Pos} {nm nm2:Option Str} {kk:Nat} {pk kpos2:Pos} {c P':Addr}
end
end Z
end
section
namespace Z
open PySem PySem.Spec PyProof.Rows L2 PySem.SeqAt
section
variable {prog:Program} {w:World} {A:Around} {s:Shared} {f c':Addr} {q x:Str} {params:Arguments} {body:Expr} {scope:Scope} {pm ctv v:Value} {k:PyData}
end
end Z
end
section
namespace Z
open PySem PySem.Spec PyProof.Rows L2 PySem.SeqAt
section
variable {X:Cx} {C:Cfg} {x:Str} {scope:Scope} {p1 p2 p3 p4:Pos} {j:Nat}
end
section
variable {X:Cx} {C:Cfg} {W:WX} {x:Str} {params:Arguments} {body:Expr} {scope:Scope} {kf:Mem→T→Option (Int × Int)} {e:Expr} {da:DE} {p pos kpos lp p1 p2 p3:Pos} {nm:Option Str} {c P:Addr}
end
section
variable {P:Program} {w:World} {K:PySem.W.Frag} {mg:Str→Option Value} {base:Heap} {J:Ix} {k:Nat} {X:Cx} {C:Cfg} {W:WX} {x:Str} {params:Arguments} {body:Expr} {scope:Scope} {kf:Mem→T→Option (Int × Int)} {e:Expr} {da:DE} {p pos kpos lp:Pos} {nm:Option Str} {c P':Addr}
end
end Z
end
section
namespace L2
open PySem PySem.Spec PyProof.Rows GenW
section
variable {prog:Program} {w:World} {env:Env} {A:Around} {Y:Protocol} {R:GenEnd} {s₀ s:Shared} {n:Nat} {fs:List Frame}
end
section
variable {X:Cx}
end
end L2
end
section
namespace Z
open PySem PySem.Spec PyProof.Rows L2 PySem.SeqAt
section
variable {X:Cx} {C:Cfg} {W:WX}
end
end Z
end
section
namespace Z
open PySem PySem.Spec PyProof.Rows L2 PySem.SeqAt GenW
section
variable {P:Program} {w:World} {K:PySem.W.Frag} {mg:Str→Option Value} {base:Heap} {N:List Str} {qual:Str} {scope:Scope} {f:Addr} {cd:Value} {A:Around} {outer:List Env} {s:Shared} {H:Hp} {E:XK} {pn:List (Addr × Obj)}
end
structure GRd (P:Program) (w:World) (k:Nat) (outer:List Env) (H:Hp) (s:Shared) (Q:List V→Hp→Prop) (E:XK) (s':Shared) (a:Addr) (g:Nat) (c:Code):Prop where
 new:s.heap.objs.size≤a
 lt:a < s'.heap.objs.size
 isGen:s'.heap.IsGen a g
 fresh:s'.gens[g]?=some (.fresh c)
 os:s'.os=s.os
 bare:AllBare s'.gens
 lim:s'.heap.NoLimit
 keep:∀ b o,s.heap.get? b=some o→s'.heap.get? b=some o
 wake:∀ (A:Around) (S:Addr) (s2:Shared),Room k A→A.guards=some []→A.frames=some outer→s'.heap.objs.size≤S→(∀ b o,s'.heap.get? b=some o→s2.heap.get? b=some o)→(∃ cc,s2.heap.get? S=some (lstObj #[] cc))→s2.os=s.os→AllBare s2.gens →
  Seg (model P w) A (REnd P w outer H s [] S a g Q E) (YItem s S a g) sizeLine s2 c ((model P w).den c) [] s2
section
variable {P:Program} {w:World} {K:PySem.W.Frag} {mg:Str→Option Value} {base:Heap} {N ps:List Str} {qual:Str} {scope:Scope} {f:Addr} {cd:Value} {A:Around} {outer:List Env} {s s1:Shared} {H:Hp} {E:XK} {k:Nat}
end
structure GFnG (P:Program) (w:World) (K:PySem.W.Frag) (mg:Str→Option Value) (base:Heap) (k:Nat) (f:Addr) (fd:FuncData) (ps:List Str) (sp:SpG):Prop where
 len:∀ vs H Q E,sp vs H Q E→vs.length=ps.length
 run:∀ (A:Around) (outer:List Env) (s:Shared) (H:Hp) (args:Args) (us:List Value) (vs:List V) (Q:List V→Hp→Prop) (E:XK),Room k A→Env0 P w K mg base A outer s H→BindsTo s fd args (ps.zip us)→Vals vs us→sp vs H Q E →
  codeAny (model P w) A (.call (.ref f) args) (fun r s' => ∃ a g c,r = .ok (.ret (.ref a))∧GRd P w k outer H s Q E s' a g c) s
end Z
end
section
namespace Z
open PySem PySem.Spec PyProof.Rows L2 PySem.SeqAt GenW
end Z
end
section
namespace Z
open PySem PySem.Spec PyProof.Rows L2 PySem.SeqAt GenW
abbrev DFY:=List T→Mem→Out (List T)
def zo5 (C:Cfg) (n:Nat) (F:DFY):SpG:=fun vs H Q E=>vs.length=n∧∃(hid:Addr→Prop) (mu:Mu) (M:Mem) (ts:List T),RM (C.with hid) mu M H∧RepL (C.with hid) mu H ts vs∧Post (C.with hid) mu H (F ts M) (fun mu' H' us ys=>RepL (C.with hid) mu' H' us ys) Q E
section
variable {X:Cx} {C:Cfg} {W:WX} {k n:Nat} {f:Addr} {fd:FuncData} {ps:List Str} {F:DFY} {cs:List Str} {x:Str} {p p' pos pos':Pos} {e:Expr} {es:List Expr} {da:DA}
end
end Z
end
section
namespace Z
open PySem PySem.Spec PyProof.Rows L2 PySem.SeqAt GenW
structure GalG (P:Program) (w:World) (K:PySem.W.Frag) (mg:Str→Option Value) (base:Heap) (C:Cfg) (x:Str) (k n:Nat) (F:DFY):Prop where
 ex:∃ (f:Addr) (fd:FuncData) (ps:List Str),GFnG P w K mg base k f fd ps (zo5 C n F)∧mg x=some (.ref f)∧PySem.W.keepIn K (.ref f)=true∧Binds K fd ps []
section
variable {P:Program} {w:World} {K:PySem.W.Frag} {mg:Str→Option Value} {base:Heap} {J:Ix} {k j n:Nat} {X:Cx} {C:Cfg} {W:WX} {x:Str} {p p' pos pos':Pos} {F:DFY} {cs:List Str} {e:Expr} {es:List Expr} {da:DA} {hid:Addr→Prop}
end
def nsB (K:PySem.W.Frag) (cs:List Str):Bool:=cs.all fun c=>decide (PySem.W.subIn K (.ref (He.ga K c)) (.type "StopIteration")=some false)
end Z
end
section
namespace Z
open PySem PySem.Spec PyProof.Rows L2 PySem.SeqAt
end Z
end
section
namespace Z
open PySem PySem.Spec PyProof.Rows L2 PySem.SeqAt
section
variable {C:Cfg} {mu mu':Mu} {M:Mem} {H H':Hp} {D:Addr} {o:HO}
end
section
variable {X:Cx} {C:Cfg} {W:WX} {tg:Expr}
end
section
variable {X:Cx} {C:Cfg} {W:WX}
end
section
variable {P:Program} {w:World} {K:PySem.W.Frag} {mg:Str→Option Value} {base:Heap} {J:Ix} {k:Nat} {X:Cx} {C:Cfg} {W:WX} {own:List (Str × Nat)} {b:Scope} {p pos:Pos} {elt tg iter tg1 iter1:Expr} {ifs ifs1:List Expr} {di:DA} {g:DG} {tt:DT} {di1:DA} {g1:DG} {tt1:DT} {de:DE} {vs1:List Nat}
end
end Z
end
section
namespace Z
open PySem PySem.Spec PyProof.Rows L2 PySem.SeqAt
section
variable {X:Cx} {C:Cfg} {W:WX} {pos:Pos}
end
end Z
end
section
namespace Z
open PySem PySem.Spec PyProof.Rows L2 PySem.SeqAt
open PySem.AutoSeq1 (wpAny_loadPart')
open PySem.W (EqTree)
section
variable {A:Around} {s:Shared} {l:Addr} {es:Array DictEntry} {n:Nat} {dd:Option Addr} {sl:Array (Option Value)}
end
section
variable {X:Cx} {C:Cfg} {mu:Mu} {M:Mem} {pins:List (Addr × Obj)} {σ : L2.St} {H:Hp} {s:Shared}
end
end Z
end
section
namespace Z
open PySem PySem.Spec PyProof.Rows L2 PySem.SeqAt
end Z
end
section
namespace Z
open PySem PySem.Spec PyProof.Rows L2 PySem.SeqAt
section
variable {X:Cx} {C:Cfg} {W:WX}
end
end Z
end
section
namespace Z
open PySem PySem.Spec PyProof.Rows L2 PySem.SeqAt
section
variable {X:Cx} {C:Cfg} {W:WX}
end
end Z
end
section
namespace Z
open PySem PySem.Spec PyProof.Rows L2 PySem.SeqAt
end Z
end
section
namespace Z
open PySem PySem.Spec PyProof.Rows L2 PySem.SeqAt
section
variable {X:Cx} {C:Cfg} {W:WX}
variable {P:Program} {w:World} {K:PySem.W.Frag} {mg:Str→Option Value} {base:Heap} {J:Ix} {k:Nat}
end
end Z
end
section
namespace Z
open PySem PySem.Spec PyProof.Rows L2 PySem.SeqAt
def zfZ (x:Str) (k:Int):Bool:=decide (0≤k) && decide (k≤1000) && Nat.ble x.length 1000
theorem zo6 {x:Str} {k:Int} (h:zfZ x k=true):MulOk x k:=by
 unfold zfZ at h
 simp only [Bool.and_eq_true,decide_eq_true_eq] at h
 obtain ⟨⟨h0,h1⟩,h2⟩:=h
 have h2:=Nat.le_of_ble_eq_true h2
 have hp:x.length * k.toNat≤1000 * 1000:=Nat.mul_le_mul h2 (by omega)
 refine ⟨?_,fun hk _=>?_,fun _ _=>?_⟩
 ·rw [Bool.or_eq_false_iff]
  exact ⟨decide_eq_false (by omega),decide_eq_false (by omega)⟩
 ·have:(1000:Int)≤(2 ^ 63 - 1) / k:=(Int.le_ediv_iff_mul_le (by omega)).mpr (by omega)
  omega
 ·show decide (x.length * k.toNat > sizeLine)=false
  have:sizeLine=16777216:=rfl
  exact decide_eq_false (by omega)
theorem zo7 {X:Cx}:OpR X (binaryOp .Mult) (fun x y H Q => ∃ i k,x = .str i∧y = .int k∧zfZ i k=true∧Q (.str (Txt.mul i k)) H):=by
 intro pins s σ H x y v u Q I rx ry h
 obtain ⟨i,k,rfl,rfl,hz,q⟩:=h
 obtain ⟨t,rfl⟩:=rx
 obtain ⟨t',rfl⟩:=ry
 exact SB.mul (zo6 hz) fun t' tk=>⟨.str _,H,I.tok _,⟨_,rfl⟩,q⟩
def zcH:Op2:=fun t u M=>match t,u with
 | .str x,.int k=>if zfZ x k=true then some (.str (Txt.mul x k),M) else none
 | _,_=>none
theorem zkU {X:Cx} {C:Cfg}:OpR X (binaryOp .Mult) (rZ C zcH):=zdt zo7 fun x y H Q ⟨mu,M,t,u,t',M',R,rt,ru,e,q⟩=>by
 unfold zcH at e
 split at e
 ·rename_i x k
  split at e
  ·rename_i c
   cases e
   have ey:=ru.intI
   subst ey
   cases rt
   exact ⟨x,k,rfl,rfl,c,q mu _ H R Ext.refl (.str _)⟩
  ·cases e
 ·cases e
end Z
end
section
namespace Z
open PySem PySem.Spec PyProof.Rows L2 PySem.SeqAt
section
variable {X:Cx} {C:Cfg}
end
end Z
end
section
namespace Z
open PySem PySem.Spec PyProof.Rows L2 PySem.SeqAt
@[simp] theorem vb1:(("open" : Str) == "close")=false:=by decide +kernel
@[simp] theorem ve1:((("open" : Str) = "close"))=False:=eq_false (by decide +kernel)
@[simp] theorem vb2:(("open" : Str) == "bind")=false:=by decide +kernel
@[simp] theorem ve2:((("open" : Str) = "bind"))=False:=eq_false (by decide +kernel)
@[simp] theorem vb3:(("open" : Str) == "drop")=false:=by decide +kernel
@[simp] theorem ve3:((("open" : Str) = "drop"))=False:=eq_false (by decide +kernel)
@[simp] theorem vb4:(("open" : Str) == "expect")=false:=by decide +kernel
@[simp] theorem ve4:((("open" : Str) = "expect"))=False:=eq_false (by decide +kernel)
@[simp] theorem vb5:(("open" : Str) == "free")=false:=by decide +kernel
@[simp] theorem ve5:((("open" : Str) = "free"))=False:=eq_false (by decide +kernel)
@[simp] theorem vb6:(("open" : Str) == "owned")=false:=by decide +kernel
@[simp] theorem ve6:((("open" : Str) = "owned"))=False:=eq_false (by decide +kernel)
@[simp] theorem vb7:(("open" : Str) == "unowned")=false:=by decide +kernel
@[simp] theorem ve7:((("open" : Str) = "unowned"))=False:=eq_false (by decide +kernel)
@[simp] theorem vb8:(("open" : Str) == "failed")=false:=by decide +kernel
@[simp] theorem ve8:((("open" : Str) = "failed"))=False:=eq_false (by decide +kernel)
@[simp] theorem vb9:(("close" : Str) == "open")=false:=by decide +kernel
@[simp] theorem ve9:((("close" : Str) = "open"))=False:=eq_false (by decide +kernel)
@[simp] theorem vb10:(("close" : Str) == "bind")=false:=by decide +kernel
@[simp] theorem ve10:((("close" : Str) = "bind"))=False:=eq_false (by decide +kernel)
@[simp] theorem vb11:(("close" : Str) == "drop")=false:=by decide +kernel
@[simp] theorem ve11:((("close" : Str) = "drop"))=False:=eq_false (by decide +kernel)
@[simp] theorem vb12:(("close" : Str) == "expect")=false:=by decide +kernel
@[simp] theorem ve12:((("close" : Str) = "expect"))=False:=eq_false (by decide +kernel)
@[simp] theorem vb13:(("close" : Str) == "free")=false:=by decide +kernel
@[simp] theorem ve13:((("close" : Str) = "free"))=False:=eq_false (by decide +kernel)
@[simp] theorem vb14:(("close" : Str) == "owned")=false:=by decide +kernel
@[simp] theorem ve14:((("close" : Str) = "owned"))=False:=eq_false (by decide +kernel)
@[simp] theorem vb15:(("close" : Str) == "unowned")=false:=by decide +kernel
@[simp] theorem ve15:((("close" : Str) = "unowned"))=False:=eq_false (by decide +kernel)
@[simp] theorem vb16:(("close" : Str) == "failed")=false:=by decide +kernel
@[simp] theorem ve16:((("close" : Str) = "failed"))=False:=eq_false (by decide +kernel)
@[simp] theorem vb17:(("bind" : Str) == "open")=false:=by decide +kernel
@[simp] theorem ve17:((("bind" : Str) = "open"))=False:=eq_false (by decide +kernel)
@[simp] theorem vb18:(("bind" : Str) == "close")=false:=by decide +kernel
@[simp] theorem ve18:((("bind" : Str) = "close"))=False:=eq_false (by decide +kernel)
@[simp] theorem vb19:(("bind" : Str) == "drop")=false:=by decide +kernel
@[simp] theorem ve19:((("bind" : Str) = "drop"))=False:=eq_false (by decide +kernel)
@[simp] theorem vb20:(("bind" : Str) == "expect")=false:=by decide +kernel
@[simp] theorem ve20:((("bind" : Str) = "expect"))=False:=eq_false (by decide +kernel)
@[simp] theorem vb21:(("bind" : Str) == "free")=false:=by decide +kernel
@[simp] theorem ve21:((("bind" : Str) = "free"))=False:=eq_false (by decide +kernel)
@[simp] theorem vb22:(("bind" : Str) == "owned")=false:=by decide +kernel
@[simp] theorem ve22:((("bind" : Str) = "owned"))=False:=eq_false (by decide +kernel)
@[simp] theorem vb23:(("bind" : Str) == "unowned")=false:=by decide +kernel
@[simp] theorem ve23:((("bind" : Str) = "unowned"))=False:=eq_false (by decide +kernel)
@[simp] theorem vb24:(("bind" : Str) == "failed")=false:=by decide +kernel
@[simp] theorem ve24:((("bind" : Str) = "failed"))=False:=eq_false (by decide +kernel)
@[simp] theorem vb25:(("drop" : Str) == "open")=false:=by decide +kernel
@[simp] theorem ve25:((("drop" : Str) = "open"))=False:=eq_false (by decide +kernel)
@[simp] theorem vb26:(("drop" : Str) == "close")=false:=by decide +kernel
@[simp] theorem ve26:((("drop" : Str) = "close"))=False:=eq_false (by decide +kernel)
@[simp] theorem vb27:(("drop" : Str) == "bind")=false:=by decide +kernel
@[simp] theorem ve27:((("drop" : Str) = "bind"))=False:=eq_false (by decide +kernel)
@[simp] theorem vb28:(("drop" : Str) == "expect")=false:=by decide +kernel
@[simp] theorem ve28:((("drop" : Str) = "expect"))=False:=eq_false (by decide +kernel)
@[simp] theorem vb29:(("drop" : Str) == "free")=false:=by decide +kernel
@[simp] theorem ve29:((("drop" : Str) = "free"))=False:=eq_false (by decide +kernel)
@[simp] theorem vb30:(("drop" : Str) == "owned")=false:=by decide +kernel
@[simp] theorem ve30:((("drop" : Str) = "owned"))=False:=eq_false (by decide +kernel)
@[simp] theorem vb31:(("drop" : Str) == "unowned")=false:=by decide +kernel
@[simp] theorem ve31:((("drop" : Str) = "unowned"))=False:=eq_false (by decide +kernel)
@[simp] theorem vb32:(("drop" : Str) == "failed")=false:=by decide +kernel
@[simp] theorem ve32:((("drop" : Str) = "failed"))=False:=eq_false (by decide +kernel)
@[simp] theorem vb33:(("expect" : Str) == "open")=false:=by decide +kernel
@[simp] theorem ve33:((("expect" : Str) = "open"))=False:=eq_false (by decide +kernel)
@[simp] theorem vb34:(("expect" : Str) == "close")=false:=by decide +kernel
@[simp] theorem ve34:((("expect" : Str) = "close"))=False:=eq_false (by decide +kernel)
@[simp] theorem vb35:(("expect" : Str) == "bind")=false:=by decide +kernel
@[simp] theorem ve35:((("expect" : Str) = "bind"))=False:=eq_false (by decide +kernel)
@[simp] theorem vb36:(("expect" : Str) == "drop")=false:=by decide +kernel
@[simp] theorem ve36:((("expect" : Str) = "drop"))=False:=eq_false (by decide +kernel)
@[simp] theorem vb37:(("expect" : Str) == "free")=false:=by decide +kernel
@[simp] theorem ve37:((("expect" : Str) = "free"))=False:=eq_false (by decide +kernel)
@[simp] theorem vb38:(("expect" : Str) == "owned")=false:=by decide +kernel
@[simp] theorem ve38:((("expect" : Str) = "owned"))=False:=eq_false (by decide +kernel)
@[simp] theorem vb39:(("expect" : Str) == "unowned")=false:=by decide +kernel
@[simp] theorem ve39:((("expect" : Str) = "unowned"))=False:=eq_false (by decide +kernel)
@[simp] theorem vb40:(("expect" : Str) == "failed")=false:=by decide +kernel
@[simp] theorem ve40:((("expect" : Str) = "failed"))=False:=eq_false (by decide +kernel)
@[simp] theorem vb41:(("free" : Str) == "open")=false:=by decide +kernel
@[simp] theorem ve41:((("free" : Str) = "open"))=False:=eq_false (by decide +kernel)
@[simp] theorem vb42:(("free" : Str) == "close")=false:=by decide +kernel
@[simp] theorem ve42:((("free" : Str) = "close"))=False:=eq_false (by decide +kernel)
@[simp] theorem vb43:(("free" : Str) == "bind")=false:=by decide +kernel
@[simp] theorem ve43:((("free" : Str) = "bind"))=False:=eq_false (by decide +kernel)
@[simp] theorem vb44:(("free" : Str) == "drop")=false:=by decide +kernel
@[simp] theorem ve44:((("free" : Str) = "drop"))=False:=eq_false (by decide +kernel)
@[simp] theorem vb45:(("free" : Str) == "expect")=false:=by decide +kernel
@[simp] theorem ve45:((("free" : Str) = "expect"))=False:=eq_false (by decide +kernel)
@[simp] theorem vb46:(("free" : Str) == "owned")=false:=by decide +kernel
@[simp] theorem ve46:((("free" : Str) = "owned"))=False:=eq_false (by decide +kernel)
@[simp] theorem vb47:(("free" : Str) == "unowned")=false:=by decide +kernel
@[simp] theorem ve47:((("free" : Str) = "unowned"))=False:=eq_false (by decide +kernel)
@[simp] theorem vb48:(("free" : Str) == "failed")=false:=by decide +kernel
@[simp] theorem ve48:((("free" : Str) = "failed"))=False:=eq_false (by decide +kernel)
@[simp] theorem vb49:(("owned" : Str) == "open")=false:=by decide +kernel
@[simp] theorem ve49:((("owned" : Str) = "open"))=False:=eq_false (by decide +kernel)
@[simp] theorem vb50:(("owned" : Str) == "close")=false:=by decide +kernel
@[simp] theorem ve50:((("owned" : Str) = "close"))=False:=eq_false (by decide +kernel)
@[simp] theorem vb51:(("owned" : Str) == "bind")=false:=by decide +kernel
@[simp] theorem ve51:((("owned" : Str) = "bind"))=False:=eq_false (by decide +kernel)
@[simp] theorem vb52:(("owned" : Str) == "drop")=false:=by decide +kernel
@[simp] theorem ve52:((("owned" : Str) = "drop"))=False:=eq_false (by decide +kernel)
@[simp] theorem vb53:(("owned" : Str) == "expect")=false:=by decide +kernel
@[simp] theorem ve53:((("owned" : Str) = "expect"))=False:=eq_false (by decide +kernel)
@[simp] theorem vb54:(("owned" : Str) == "free")=false:=by decide +kernel
@[simp] theorem ve54:((("owned" : Str) = "free"))=False:=eq_false (by decide +kernel)
@[simp] theorem vb55:(("owned" : Str) == "unowned")=false:=by decide +kernel
@[simp] theorem ve55:((("owned" : Str) = "unowned"))=False:=eq_false (by decide +kernel)
@[simp] theorem vb56:(("owned" : Str) == "failed")=false:=by decide +kernel
@[simp] theorem ve56:((("owned" : Str) = "failed"))=False:=eq_false (by decide +kernel)
@[simp] theorem vb57:(("unowned" : Str) == "open")=false:=by decide +kernel
@[simp] theorem ve57:((("unowned" : Str) = "open"))=False:=eq_false (by decide +kernel)
@[simp] theorem vb58:(("unowned" : Str) == "close")=false:=by decide +kernel
@[simp] theorem ve58:((("unowned" : Str) = "close"))=False:=eq_false (by decide +kernel)
@[simp] theorem vb59:(("unowned" : Str) == "bind")=false:=by decide +kernel
@[simp] theorem ve59:((("unowned" : Str) = "bind"))=False:=eq_false (by decide +kernel)
@[simp] theorem vb60:(("unowned" : Str) == "drop")=false:=by decide +kernel
@[simp] theorem ve60:((("unowned" : Str) = "drop"))=False:=eq_false (by decide +kernel)
@[simp] theorem vb61:(("unowned" : Str) == "expect")=false:=by decide +kernel
@[simp] theorem ve61:((("unowned" : Str) = "expect"))=False:=eq_false (by decide +kernel)
@[simp] theorem vb62:(("unowned" : Str) == "free")=false:=by decide +kernel
@[simp] theorem ve62:((("unowned" : Str) = "free"))=False:=eq_false (by decide +kernel)
@[simp] theorem vb63:(("unowned" : Str) == "owned")=false:=by decide +kernel
@[simp] theorem ve63:((("unowned" : Str) = "owned"))=False:=eq_false (by decide +kernel)
@[simp] theorem vb64:(("unowned" : Str) == "failed")=false:=by decide +kernel
@[simp] theorem ve64:((("unowned" : Str) = "failed"))=False:=eq_false (by decide +kernel)
@[simp] theorem vb65:(("failed" : Str) == "open")=false:=by decide +kernel
@[simp] theorem ve65:((("failed" : Str) = "open"))=False:=eq_false (by decide +kernel)
@[simp] theorem vb66:(("failed" : Str) == "close")=false:=by decide +kernel
@[simp] theorem ve66:((("failed" : Str) = "close"))=False:=eq_false (by decide +kernel)
@[simp] theorem vb67:(("failed" : Str) == "bind")=false:=by decide +kernel
@[simp] theorem ve67:((("failed" : Str) = "bind"))=False:=eq_false (by decide +kernel)
@[simp] theorem vb68:(("failed" : Str) == "drop")=false:=by decide +kernel
@[simp] theorem ve68:((("failed" : Str) = "drop"))=False:=eq_false (by decide +kernel)
@[simp] theorem vb69:(("failed" : Str) == "expect")=false:=by decide +kernel
@[simp] theorem ve69:((("failed" : Str) = "expect"))=False:=eq_false (by decide +kernel)
@[simp] theorem vb70:(("failed" : Str) == "free")=false:=by decide +kernel
@[simp] theorem ve70:((("failed" : Str) = "free"))=False:=eq_false (by decide +kernel)
@[simp] theorem vb71:(("failed" : Str) == "owned")=false:=by decide +kernel
@[simp] theorem ve71:((("failed" : Str) = "owned"))=False:=eq_false (by decide +kernel)
@[simp] theorem vb72:(("failed" : Str) == "unowned")=false:=by decide +kernel
@[simp] theorem ve72:((("failed" : Str) = "unowned"))=False:=eq_false (by decide +kernel)
section
variable {M:Mem}
@[simp] theorem in_t2 (k a b:Str):gIn (.str k) (.tup [.str a,.str b]) M=some (.bl (a == k || b == k),M):=by
 have h:=zoO (M:=M) k [a,b]
 simpa using h
@[simp] theorem in_l2 (k a b:Str):gIn (.str k) (.lst [.str a,.str b]) M=some (.bl (a == k || b == k),M):=by
 have h:=zkK (M:=M) k [a,b]
 simpa using h
@[simp] theorem in_l3 (k a b c:Str):gIn (.str k) (.lst [.str a,.str b,.str c]) M=some (.bl (a == k || (b == k || c == k)),M):=by
 have h:=zkK (M:=M) k [a,b,c]
 simpa using h
end
end Z
end
section
namespace Z
open PySem PySem.Spec PyProof.Rows L2 PySem.SeqAt
section
variable {C:Cfg} {mu:Mu} {H:Hp} {ts us:List T} {a b:Addr} {vs ws:List V}
def zkV (ts us:List T):List T:=List.zipWith (fun t u=>T.tup [t,u]) ts us
end
section
variable {X:Cx} {C:Cfg} {W:WX} {elts:List Expr} {kk:Nat} {tpos:Pos}
def zhW:List T→Mem→Out (List T):=fun ts M1=>match ts with
 | [.lst xs,.lst ys] => .ok (zkV xs ys) M1
 | _ => .no
def zo8 (da:DA):DA:=fun s M=>(da s M).bind zhW
@[simp ↓] theorem w_kZip2 (xs ys:List T) (M:Mem):zhW [.lst xs,.lst ys] M = .ok (zkV xs ys) M:=rfl
@[simp ↓] theorem u_zip2 (da:DA) (s:Sg) (M:Mem):zo8 da s M=(da s M).bind zhW:=rfl
end
section
variable {X:Cx} {C:Cfg} {W:WX}
variable {P:Program} {w:World} {K:PySem.W.Frag} {mg:Str→Option Value} {base:Heap} {J:Ix} {k:Nat}
end
end Z
end
section
namespace Z
open PySem PySem.Spec PyProof.Rows L2 PySem.SeqAt PySem.W
section
variable {prog:Program} {w:World} {A:Around} {E:Value→Shared→Prop} {s:Shared}
end
section
variable {X:Cx}
end
section
variable {X:Cx} {C:Cfg} {mu:Mu} {H:Hp}
end
end Z
end
section
namespace Z
open PySem PySem.Spec PyProof.Rows L2 PySem.SeqAt
section
variable {C:Cfg} {mu:Mu} {H:Hp}
end
section
variable {X:Cx} {C:Cfg} {W:WX} {elts:List Expr} {kk:Nat} {tpos:Pos}
def zhX:List T→Mem→Out (List T):=fun ts M1=>match ts with
 | [.str x] => .ok (zbj (zcC x)) M1
 | _ => .no
def zo9 (da:DA):DA:=fun s M=>(da s M).bind zhX
@[simp ↓] theorem w_kEnumS (x:Str) (M:Mem):zhX [.str x] M = .ok (zbj (zcC x)) M:=rfl
@[simp ↓] theorem u_enumS (da:DA) (s:Sg) (M:Mem):zo9 da s M=(da s M).bind zhX:=rfl
end
end Z
end
section
namespace Z
open PySem PySem.Spec PyProof.Rows L2 PySem.SeqAt PySem.W
section
variable {prog:Program} {w:World} {A:Around} {s:Shared}
variable {f c':Addr} {q x:Str} {params:Arguments} {body:Expr} {scope:Scope} {pm ctv v:Value}
end
section
variable {X:Cx} {C:Cfg} {x:Str} {scope:Scope} {p1 p2 p3 p4:Pos} {j:Nat}
end
section
variable {X:Cx} {C:Cfg} {W:WX} {x:Str} {params:Arguments} {body:Expr} {scope:Scope} {e:Expr} {da:DE} {p pos kpos lp p1 p2 p3:Pos} {nm:Option Str} {c P:Addr}
end
section
variable {P:Program} {w:World} {K:PySem.W.Frag} {mg:Str→Option Value} {base:Heap} {J:Ix} {k:Nat} {X:Cx} {C:Cfg} {W:WX} {x:Str} {params:Arguments} {body:Expr} {scope:Scope} {e:Expr} {da:DE} {p pos kpos lp:Pos} {nm:Option Str} {c P':Addr}
end
end Z
end
section
namespace Z
open PySem PySem.Spec PyProof.Rows L2 PySem.SeqAt HotX
section
variable {X:Cx} {pins:List (Addr × Obj)} {σ : L2.St} {H:Hp} {s sI:Shared} {i:Nat} {n:Str} {Wout:WX}
end
section
variable {X:Cx} {x n:Str} {c:Value} {i:Nat} {body:List Stmt} {e:Expr} {np pos pos' rp ep:Pos} {tb:WX→TS} {t:L2.St→Hp→XK→Prop} {Wout:WX}
end
structure FnHG (P:Program) (w:World) (K:PySem.W.Frag) (mg:Str→Option Value) (base:Heap) (CX:CXT) (k:Nat) (f:Addr) (fd:FuncData) (ps:List Str) (sp:Sp):Prop where
 len:∀ vs H Q E,sp vs H Q E→vs.length=ps.length
 run:∀ (A:Around) (outer:List Env) (s:Shared) (H:Hp) (args:Args) (us:List Value) (vs:List V) (Q:VK) (E:XK) (p:Addr × Obj),L2H.RoomH k A→A.guards=some []→L2H.Hot1 A p→L2H.PinOk outer H s p→Env0 P w K mg base A outer s H→BindsTo s fd args (ps.zip us)→Vals vs us→sp vs H Q E →
  codeAny (model P w) A (.call (.ref f) args) (CR CX outer P w H s Q E) s
section
variable {P:Program} {w:World} {K:PySem.W.Frag} {mg:Str→Option Value} {base:Heap} {k:Nat} {f:Addr} {x qual sx vx:Str} {params:Arguments} {scope:Scope} {fd:FuncData} {Ca:Addr} {fl m:Str} {B newId initId:String} {bmB:List Value} {CX:CXT}
end
section
variable {X:Cx} {e:Expr} {es:List Expr} {ta:TA} {x:Str} {p pos:Pos} {B newId initId:String} {bmB:List Value} {C fI:Addr} {k:Nat} {fd:FuncData} {ps:List Str} {sp:Sp} {CX:CXT}
end
structure ExcHG (P:Program) (w:World) (K:PySem.W.Frag) (mg:Str→Option Value) (base:Heap) (C:Cfg) (c f:Str) (k:Nat):Prop where
 ex:∃ (B newId initId:String) (bmB:List Value) (fI:Addr) (fd:FuncData) (ps:List Str),PySem.HandSPX.EB B newId initId bmB∧OxC K (C.ga c) newId bmB∧PySem.W.findIn K (.ref (C.ga c)) "__init__" = some (some (.ref fI))∧PySem.W.typeIn K (.ref fI)=some (.type "function") ∧
  FnHG P w K mg base (L2.CX P w) k fI fd ps (SpI (C.ga c) f)∧Binds K fd ps []∧mg c=some (.ref (C.ga c))
structure CalN (P:Program) (w:World) (K:PySem.W.Frag) (mg:Str→Option Value) (base:Heap) (C:Cfg) (x:Str) (k n:Nat) (F:DF) (dts:List T):Prop where
 ex:∃ (f:Addr) (fd:FuncData) (ps:List Str) (ds:List Value) (dvs:List V),FnG P w K mg base (L2N.CX P w) k f fd ps (SpZ C n F)∧mg x=some (.ref f)∧PySem.W.keepIn K (.ref f)=true ∧
  Binds K fd ps ds∧Vals dvs ds∧(∀ hid mu H,RepL (C.with hid) mu H dts dvs)
section
variable {P:Program} {w:World} {K:PySem.W.Frag} {mg:Str→Option Value} {base:Heap} {J:Ix} {k j n:Nat} {X:Cx} {C:Cfg} {W:WX} {c f x:Str} {pos pos' p:Pos} {e:Expr} {es:List Expr} {da:DA} {hid:Addr→Prop} {F:DF} {dts:List T}
end
end Z
end
section
namespace Z
open PySem PySem.Spec PyProof.Rows L2 PySem.SeqAt
section
variable {X:Cx} {C:Cfg}
end
end Z
end
section
namespace Z
open PySem PySem.Spec PyProof.Rows L2 PySem.SeqAt GenW
def CXp (P:Program) (w:World) (outer:List Env) (H:Hp) (s:Shared) (E:XK) (pn:List (Addr × Obj)) (u:Value) (s':Shared):Prop:=
 ∃ (a:Addr) (B:Heap) (H':Hp) (cls:Value) (d:Option Addr),u = .ref a∧HandSPX.FlyingZ B outer a (Zc cls d) s'.heap∧HOk P w H' B∧L2.UB (frs outer) H H' s.heap B s'.heap∧H' a=none∧s'.os=s.os∧AllBare s'.gens∧E cls d H'∧∀p∈pn,s'.heap.get? p.1=some p.2∧H' p.1=none
section
variable {P:Program} {w:World} {K:PySem.W.Frag} {mg:Str→Option Value} {base:Heap} {N:List Str} {qual:Str} {scope:Scope} {f:Addr} {cd:Value} {A:Around} {outer:List Env} {s:Shared} {H:Hp} {E:XK} {pn:List (Addr × Obj)}
abbrev REn (P:Program) (w:World) (outer:List Env) (H:Hp) (s:Shared) (a:Addr) (g:Nat) (C:Addr) (oC:Obj) (E:XK):GenEnd:=fun _ _ r s1 => ∃ e,r = .error e∧CXp P w outer H s E [(C,oC)] e s1∧s1.heap.IsGen a g
abbrev NoY:Protocol:=fun _ _ _ _ _=>False
end
structure GRn (P:Program) (w:World) (k:Nat) (outer:List Env) (H:Hp) (s:Shared) (E:XK) (s':Shared) (a:Addr) (g:Nat) (c:Code):Prop where
 new:s.heap.objs.size≤a
 lt:a < s'.heap.objs.size
 isGen:s'.heap.IsGen a g
 fresh:s'.gens[g]?=some (.fresh c)
 os:s'.os=s.os
 bare:AllBare s'.gens
 lim:s'.heap.NoLimit
 keep:∀ b o,s.heap.get? b=some o→s'.heap.get? b=some o
 wake:∀ (A:Around) (C:Addr) (oC:Obj) (s2:Shared),Room k A→A.guards=some []→A.frames=some outer→s'.heap.objs.size≤C→(∀ b o,s'.heap.get? b=some o→s2.heap.get? b=some o)→s2.heap.get? C=some oC→(∀ v,oC.data ≠ .cell v)→s2.os=s.os→AllBare s2.gens →
  Seg (model P w) A (REn P w outer H s a g C oC E) NoY sizeLine s2 c ((model P w).den c) [] s2
section
variable {P:Program} {w:World} {K:PySem.W.Frag} {mg:Str→Option Value} {base:Heap} {N ps:List Str} {qual:Str} {scope:Scope} {f:Addr} {cd:Value} {A:Around} {outer:List Env} {s s1:Shared} {H:Hp} {E:XK} {k:Nat}
end
abbrev SpN:=List V→Hp→XK→Prop
structure GFnN (P:Program) (w:World) (K:PySem.W.Frag) (mg:Str→Option Value) (base:Heap) (k:Nat) (f:Addr) (fd:FuncData) (ps:List Str) (sp:SpN):Prop where
 len:∀ vs H E,sp vs H E→vs.length=ps.length
 run:∀ (A:Around) (outer:List Env) (s:Shared) (H:Hp) (args:Args) (us:List Value) (vs:List V) (E:XK),Room k A→Env0 P w K mg base A outer s H→BindsTo s fd args (ps.zip us)→Vals vs us→sp vs H E →
  codeAny (model P w) A (.call (.ref f) args) (fun r s' => ∃ a g c,r = .ok (.ret (.ref a))∧GRn P w k outer H s E s' a g c) s
def zpa (C:Cfg) (n:Nat) (F:DF):SpN:=fun vs H E=>vs.length=n∧∃(hid:Addr→Prop) (mu:Mu) (M:Mem) (ts:List T) (er:Er) (M':Mem),RM (C.with hid) mu M H∧RepL (C.with hid) mu H ts vs∧F ts M = .er er M' ∧
 ∀ mu' c d H',RM (C.with hid) mu' M' H'→Ext (C.with hid) mu H mu' H'→RepE (C.with hid) mu' H' er c d→E c d H'
structure GalN (P:Program) (w:World) (K:PySem.W.Frag) (mg:Str→Option Value) (base:Heap) (C:Cfg) (x:Str) (k n:Nat) (F:DF):Prop where
 ex:∃ (f:Addr) (fd:FuncData) (ps:List Str),GFnN P w K mg base k f fd ps (zpa C n F)∧mg x=some (.ref f)∧PySem.W.keepIn K (.ref f)=true∧Binds K fd ps []
end Z
end
section
namespace Z
open PySem PySem.Spec PyProof.Rows L2 PySem.SeqAt GenW
section
variable {X:Cx} {pins:List (Addr × Obj)} {σ : L2.St} {H:Hp} {s s' sI:Shared} {W:WX} {E:XK}
end
section
variable {X:Cx} {C:Cfg} {W:WX} {k n:Nat} {f:Addr} {fd:FuncData} {ps:List Str} {F:DF} {cs:List Str} {x y:Str} {p p' pos pos' py spos:Pos} {e elt tg:Expr} {es ifs:List Expr} {da:DA} {scope:Scope} {own:List (Str × Nat)}
end
section
variable {P:Program} {w:World} {K:PySem.W.Frag} {mg:Str→Option Value} {base:Heap} {J:Ix} {k j n i:Nat} {X:Cx} {C:Cfg} {W:WX} {x y:Str} {p p' pos' py spos:Pos} {F:DF} {cs:List Str} {e elt tg:Expr} {es ifs:List Expr} {da:DA} {hid:Addr→Prop} {b:Scope} {own:List (Str × Nat)}
end
end Z
end
section
namespace Z
open PySem PySem.Spec PyProof.Rows L2 PySem.SeqAt GenW
section
variable {prog:Program} {w:World} {A:Around} {E:Value→Shared→Prop} {s:Shared}
end
section
variable {X:Cx} {C:Cfg} {W:WX} {k n:Nat} {f:Addr} {fd:FuncData} {ps:List Str} {F:DF} {x:Str} {p p2 p' pos pos2 pos':Pos} {e le:Expr} {es:List Expr} {dl:DE} {da:DA}
end
section
variable {P:Program} {w:World} {K:PySem.W.Frag} {mg:Str→Option Value} {base:Heap} {J:Ix} {k j n:Nat} {X:Cx} {C:Cfg} {W:WX} {x:Str} {p p2 p' pos pos2 pos':Pos} {F:DF} {e le:Expr} {es:List Expr} {dl:DE} {da:DA} {hid:Addr→Prop}
end
end Z
end
section
namespace PySem.HandSPX
open PySem PySem.Spec PyProof.Rows
section
variable {M:Model} {A:Around} {E:Value→Shared→Prop} {h:Heap} {g:Array GenState} {d:Drawn} {t:Nat} {os:OsState}
variable {nm q:Str} {C N:Addr} {bs bm bmB:List Value} {hdct:Bool} {sn:List Str} {sub:List Value} {ab:Bool} {col:Option Bool} {dd:Option Addr} {k0 k1 k2 k3 k5:Option Value} {B newId initId:String}
end
section
variable {prog:Program} {w:World} {A:Around} {E:Value→Shared→Prop} {R:Result→Shared→Prop} {h:Heap} {g:Array GenState} {d:Drawn} {t:Nat} {os:OsState}
variable {nm q:Str} {C N:Addr} {bs bm bmB:List Value} {hdct:Bool} {sn:List Str} {sub:List Value} {ab:Bool} {col:Option Bool} {dd:Option Addr} {k0 k1 k2 k3 k5:Option Value} {B newId initId:String}
end
end PySem.HandSPX
end
section
namespace Z
open PySem PySem.Spec PyProof.Rows L2 PySem.SeqAt HotX
section
variable {X:Cx} {pins:List (Addr × Obj)} {σ : L2.St} {H:Hp} {s:Shared} {d:Addr} {fs:List (Str × V)}
end
section
variable {X:Cx} {e:Expr} {es:List Expr} {ta:TA} {x:Str} {p pos:Pos} {B newId initId:String} {bmB:List Value} {C fI:Addr} {k:Nat} {fd:FuncData} {ps:List Str} {sp:Sp} {CX:CXT}
end
structure ExcKG (P:Program) (w:World) (K:PySem.W.Frag) (mg:Str→Option Value) (base:Heap) (C:Cfg) (c f:Str) (k:Nat):Prop where
 ex:∃ (B newId initId:String) (bmB:List Value) (fI:Addr) (fd:FuncData) (ps:List Str),PySem.HandSPX.EB B newId initId bmB∧OxC K (C.ga c) newId bmB∧PySem.W.findIn K (.ref (C.ga c)) "__init__" = some (some (.ref fI))∧PySem.W.typeIn K (.ref fI)=some (.type "function") ∧
  FnG P w K mg base (L2.CX P w) k fI fd ps (SpI (C.ga c) f)∧Binds K fd ps []∧mg c=some (.ref (C.ga c))∧∀(s:Shared) (self v:Value),BindsTo s fd ⟨[self],[(f,v)]⟩ (ps.zip [self,v])
section
variable {X:Cx} {C:Cfg} {W:WX} {e:Expr} {de:DE} {pos p q:Pos} {y:Str} {cv:Value} {tab:List (Str × Bool)}
end
section
variable {P:Program} {w:World} {K:PySem.W.Frag} {mg:Str→Option Value} {base:Heap} {J:Ix} {k j:Nat} {X:Cx} {C:Cfg} {W:WX} {c f y:Str} {pos pos' p q kpos:Pos} {e u:Expr} {es:List Expr} {da:DA} {de:DE} {hid:Addr→Prop} {cs:List Str} {tab:List (Str × Bool)} {cv:Value} {ns:List String}
end
end Z
end
section
namespace Z
open PySem PySem.Spec PyProof.Rows L2 PySem.SeqAt
section
variable {X:Cx} {pins:List (Addr × Obj)} {σ : L2.St} {H:Hp} {s s' sI:Shared} {W:WX} {E:XK}
end
section
variable {X:Cx} {C:Cfg} {W:WX}
end
section
variable {P:Program} {w:World} {K:PySem.W.Frag} {mg:Str→Option Value} {base:Heap} {J:Ix} {k i:Nat} {X:Cx} {C:Cfg} {W:WX} {x:Str} {p py pos:Pos} {elt tg iter:Expr} {b:Scope} {own:List (Str × Nat)} {di:DA} {g:DG} {de:DE}
end
end Z
end
section
namespace Z
open PySem PySem.Spec PyProof.Rows L2 PySem.SeqAt
section
variable {prog:Program} {w:World} {A:Around} {E:Value→Shared→Prop} {s:Shared}
theorem zpb {d:Addr} {key:Value} {h:Int} {o:Obj} {ep:Nat} {Q:Option Nat→Shared→Prop} (ho:s.heap.get? d=some o) (hd:o.data = .dict #[] ep) (hQ:Q none s):wpAny (model prog w) A (dictFind d key h) Q E s:=by
 unfold dictFind
 try with_reducible refine wpAny_holding ?_
 refine wpAny_bind (wpAny_dictEntries ho hd ?_)
 have hp:∀ f,placesWithHash (#[]:Array DictEntry).size f h = []:=fun f=>rfl
 cases key with
 | str x t=>
  dsimp only
  rw [if_pos (by simp)]
  unfold foundByValue
  simp only [Array.findIdx?_empty]
  exact wpAny_pure hQ
 | ref a=>
  simp [hp,carriedByValue,tableMayTell]
  exact wpAny_pure hQ
 | _=>
  simp [hp,carriedByValue,dictWalkPlain]
  exact wpAny_pure hQ
theorem zpc {d:Addr} {key v:Value} {o:Obj} {ep t':Nat} {hv:Int} {Q:Unit→Shared→Prop} (ho:s.heap.get? d=some o) (hc:o.ExactDict) (hd:o.data = .dict #[] ep)
  (hh:∀ Q':Int→Shared→Prop,Q' hv {s with toks:=t'}→wpAny (model prog w) A (pyHash key) Q' E s)
  (hQ:∀ h',(∃ o' ep',h'.get? d=some o'∧o'.ExactDict∧o'.data = .dict #[⟨hv,key,v⟩] ep')→Heap.SameBut d s.heap h'→Q () {s with heap:=h',toks:=t'}) :
  wpAny (model prog w) A (dictSet d key v) Q E s:=by
 unfold dictSet
 try with_reducible refine wpAny_holding ?_
 refine wpAny_bind (hh _ ?_)
 unfold dictSetHashed
 try with_reducible refine wpAny_holding ?_
 refine wpAny_bind (zpb (s:={s with toks:=t'}) ho hd ?_)
 exact wpAny_bind (wpAny_rule (wpAny_updateDictKeys (s:={s with toks:=t'}) ho hd (hQ _ ⟨_,ep + 1,Heap.get?_update_self _ ho (Obj.isFreed_of_dict (Obj.data_mapDictKeys hd _)),hc.mapDictKeys _,Obj.data_mapDictKeys hd _⟩ (Heap.SameBut.update ..))))
theorem zpd {env:Env} {k v:Expr} {pos:Pos} {Q:Value→Shared→Prop}
  (h:wpAny (model prog w) A (eval k env) (fun kv s1=>wpAny (model prog w) A (eval v env) (fun vv s2 => ∃ o ep hv t',s2.heap.get? s.heap.objs.size=some o∧o.ExactDict∧o.data = .dict #[] ep ∧
   (∀ Q':Int→Shared→Prop,Q' hv {s2 with toks:=t'}→wpAny (model prog w) A (pyHash kv) Q' E s2) ∧
   ∀ h',(∃ o' ep',h'.get? s.heap.objs.size=some o'∧o'.ExactDict∧o'.data = .dict #[⟨hv,kv,vv⟩] ep')→Heap.SameBut s.heap.objs.size s2.heap h'→Q (.ref s.heap.objs.size) {s2 with heap:=h',toks:=t'}) E s1) E
   {s with heap:=s.heap.push {cls := .type "dict",data := .dict #[]}}) :
  wpAny (model prog w) A (eval (.Dict [some k] [v] pos) env) Q E s:=by
 rw [arm_eval_Dict,zip_pairTrees [some k] [v] env pos rfl rfl,dictDisplay_pairs _ (by intro z; cases z) (by show 1 < 17; omega)]
 refine wpAny_bind (wpAny_standAt (wpAny_bind ?_))
 unfold subDict
 refine wpAny_bind (wpAny_alloc ?_)
 refine wpAny_bind (wpAny_holding ?_)
 rw [if_pos (by show 1≤15; omega)]
 refine wpAny_bind (pairTrees_cons_walk (wpAny_mono h (fun kv s1 h1=>wpAny_mono h1 (fun vv s2 h2=>pairTrees_nil_walk ?_) fun _ _ e=>e) fun _ _ e=>e))
 obtain ⟨o,ep,hv,t',ho,hc,hd,hh,hq⟩:=h2
 refine wpAny_holding ?_
 rw [List.forIn_cons]
 refine wpAny_bind (wpAny_bind (wpAny_bind (zpc ho hc hd hh fun h' a b=>wpAny_pure ?_)))
 exact wpAny_pure (wpAny_pure (wpAny_pure (wpAny_pure (hq h' a b))))
end
section
variable {X:Cx} {C:Cfg} {mu:Mu} {H:Hp} {pins:List (Addr × Obj)} {σ : L2.St} {s:Shared}
end
def keyB (t:T):Bool:=match nkT t with
 | some k=>Nat.ble k.depth 16
 | none=>false
def NkV (X:Cx) (H:Hp) (x:V):Prop := ∃ k:NestedKey,k.depth≤16∧∀(pins:List (Addr × Obj)) (σ : L2.St) (s:Shared) (v:Value),Inv X pins σ H s→RelV x v→NestedIs s.heap k v
def zpe (X:Cx) (tk tv:TE):TE:=fun σ H Q => ∀ p,H p=none→tk σ (upd H p (.dK [])) fun x H1=>tv σ H1 fun y H2=>H2 p=some (.dK [])∧NkV X H2 x∧∀o,DnO p o [x] [y]→Q (.ref p) (upd H2 p (.frz o (.own 0)))
theorem zpf {X:Cx} {pos:Pos} {k v:Expr} {tk tv:TE} (hu:X.A.units + 64 < cLine) (hk:PE X k tk) (hv:PE X v tv):PE X (.Dict [some k] [v] pos) (zpe X tk tv):=by
 refine ⟨fun pins s σ H Q I q=>?_⟩
 have hn:=I.hok.fresh (Nat.le_refl s.heap.objs.size)
 have I1:=I.laid (a:=s.heap.objs.size) (o := .dK []) (h':=s.heap.push {cls := .type "dict",data := .dict #[]}) (t':=s.toks) (fun _ _ q=>Heap.get?_push_of_some _ q) (Nat.le_refl _) (dk_empty s.heap I.big)
 refine zpd (thn (hk.run pins _ σ _ _ I1 (q _ hn)) fun kv s1 ⟨x,H1,I1',rx,q1⟩=>thn (hv.run pins s1 σ H1 _ I1' q1) fun vv s2 ⟨y,H2,I2,ry,e,⟨nk,hd8,hnk⟩,q2⟩=>?_)
 obtain ⟨z,hd,vs0,r0,o,es,ep,ho,hx,hdt,rest⟩:=dk_of I2.hok e
 cases r0
 have hes:es = #[]:=by
  obtain ⟨_,pr,_⟩:=rest
  have:=pr.length
  exact Array.eq_empty_of_size_eq_zero (by simpa using this)
 subst hes
 refine ⟨o,ep,nk.hash X.w,s2.toks + nk.draws,ho,hx,hdt,fun Q' h'=>pyHash_key nk kv X.A s2 Q' (hnk pins σ s2 kv I2 rx) (by omega) h',fun h' ⟨o',ep',g1,g2,g3⟩ sb=>?_⟩
 refine ⟨.ref s.heap.objs.size,_,d_write (ob := .frz o' (.own 0)) I2 (by rw [e]; exact True.intro) sb ⟨_,g1⟩ (show ObjOk X.prog X.w (upd H2 s.heap.objs.size (.frz o' (.own 0))) h' s.heap.objs.size (.frz o' (.own 0)) from ⟨g1,_,g1⟩),rfl,q2 o' ⟨_,ep',g2,g3,hd,.cons rx .nil,.cons ry .nil⟩⟩
def zc4 (dk dv:DE):DE:=fun s M=>(dk s M).noEr.bind fun t M1=>(dv s M1).noEr.bind fun u M2=>if keyB t=true then .ok (.dn [t] [u]) M2 else .no
theorem zpg (dk dv:DE) (s:Sg) (M:Mem) (er:Er) (M':Mem):zc4 dk dv s M ≠ .er er M':=fun e=>by
 unfold zc4 at e
 cases e1:dk s M with
 | ok t M1=>
  rw [e1] at e
  cases e2:dv s M1 with
  | ok u M2=>
   rw [show (Out.noEr (Out.ok t M1)).bind (fun t M1=>(dv s M1).noEr.bind fun u M2=>if keyB t=true then .ok (.dn [t] [u]) M2 else .no)=(dv s M1).noEr.bind (fun u M2=>if keyB t=true then Out.ok (T.dn [t] [u]) M2 else .no) from rfl,e2] at e
   change (if keyB t=true then Out.ok (T.dn [t] [u]) M2 else .no)=_ at e
   split at e <;> cases e
  | er=>rw [show (Out.noEr (Out.ok t M1)).bind (fun t M1=>(dv s M1).noEr.bind fun u M2=>if keyB t=true then .ok (.dn [t] [u]) M2 else .no)=(dv s M1).noEr.bind (fun u M2=>if keyB t=true then Out.ok (T.dn [t] [u]) M2 else .no) from rfl,e2] at e; cases e
  | no=>rw [show (Out.noEr (Out.ok t M1)).bind (fun t M1=>(dv s M1).noEr.bind fun u M2=>if keyB t=true then .ok (.dn [t] [u]) M2 else .no)=(dv s M1).noEr.bind (fun u M2=>if keyB t=true then Out.ok (T.dn [t] [u]) M2 else .no) from rfl,e2] at e; cases e
 | er=>rw [e1] at e; cases e
 | no=>rw [e1] at e; cases e
section
variable {X:Cx} {C:Cfg} {W:WX} {pos:Pos}
theorem s1k (hK:C.K=X.K) (hu:X.A.units + 64 < cLine) {k v:Expr} {dk dv:DE} (hk:∀ hid,PE X k (TEz (C.with hid) WF dk)) (hv:∀ hid,PE X v (TEz (C.with hid) WF dv)):PE X (.Dict [some k] [v] pos) (TEz C W (zc4 dk dv)):=by
 have hk':PE X k (fun σ H Q => ∃ hid,TEz (C.with hid) WF dk σ H Q):=⟨fun pins s σ H Q I ⟨hid,q⟩=>(hk hid).run pins s σ H Q I q⟩
 have hv':PE X v (fun σ H Q => ∃ hid,TEz (C.with hid) WF dv σ H Q):=⟨fun pins s σ H Q I ⟨hid,q⟩=>(hv hid).run pins s σ H Q I q⟩
 refine zbf (zpf hu hk' hv') fun σ H Q ⟨mu,s,M,R,S,P⟩ p hp=>?_
 have nD:¬ C.hid p:=fun z=>by
  obtain ⟨o,e⟩:=R.hid p z
  rw [hp] at e; cases e
 have hh:(C.and p).hid p := .inr rfl
 have E0:Ext C mu H mu (upd H p (.dK [])):=Ext.new hp
 have S0:RS (C.and p) mu (upd H p (.dK [])) s σ := (S.hideNew hp).mono (Ext.new hp)
 have P':Fin (zc4 dk dv s M) fun r M' => ∀ mu' x H',RM C mu' M' H'→Ext C mu H mu' H'→RV C mu' H' r x→Q x H':=by
  cases e:zc4 dk dv s M with
  | ok t M1=>rw [e] at P; exact P
  | no=>rw [e] at P; exact P.elim
  | er er M1=>exact absurd e (zpg dk dv s M er M1)
 unfold zc4 at P'
 refine ⟨(C.and p).hid,mu,s,M,R.hideNew hp,S0,Fin.bind P' fun t M1 mu1 x H1 R1 E1 r1 P1=>⟨(C.and p).hid,mu1,s,M1,R1,S0.mono E1,Fin.bind P1 fun u M2 mu2 y H2 R2 E2 r2 P2=>?_⟩⟩
 by_cases c:keyB t=true
 ·rw [if_pos c] at P2
  refine ⟨(E1.trans E2).hid p _ upd_same (R.fresh hp) hh,?_,fun o D=>?_⟩
  ·unfold keyB at c
   split at c
   ·rename_i k hk2
    exact ⟨k,Nat.le_of_ble_eq_true c,fun pins σ s v I rx=>zji (C:=C.and p) hK I (r1.mono E2) rx hk2⟩
   ·cases c
  ·have av:Av C mu2 p:=⟨fun z=>R2.nh p z (.inr rfl),nD⟩
   have q1:Rep C mu2 (upd H2 p (.frz o (.own 0))) t x:=Rep.hide (C:=C.and p) (C':=C) rfl rfl zeO ((r1.mono E2).updH hh)
   have q2:Rep C mu2 (upd H2 p (.frz o (.own 0))) u y:=Rep.hide (C:=C.and p) (C':=C) rfl rfl zeO (r2.updH hh)
   exact P2 mu2 (.ref p) _ (R2.updH hh).unhide (Ext.updNew (E0.trans (E1.trans E2).unhide) hp) (.dn ⟨upd_same,av⟩ D (.cons q1 .nil) (.cons q2 .nil))
 ·rw [if_neg c] at P2; exact P2.elim
end
end Z
end
section
namespace Z
open PySem PySem.Spec PyProof.Rows L2 PySem.SeqAt
def zph:List V→Hp→VK→Prop:=fun xs H Q => ∃ (a:Addr) (o:Obj) (n:String) (ks us:List V) (b:Bool),xs = [.ref a,.ty n]∧H a=some (.frz o (.own 0))∧DnO a o ks us∧kitB "dict" n=some b∧Q (.bl b) H
theorem call_isD {X:Cx}:CallR X (.builtin "isinstance") zph:=by
 intro pins s σ H xs us Q I r h
 obtain ⟨a,o,n,ks,vs,b,rfl,hd,⟨es,ep,hx,_⟩,e,q⟩:=h
 obtain ⟨u1,u2,rfl,r1,r2⟩:=vals2 r
 cases (show u1=Value.ref a from r1)
 cases (show u2=Value.type n from r2)
 exact PySem.W.kia_one PySem.W.kitx_dict I.kIn ⟨o,(I.hok a _ hd).1,hx.1⟩ (kit_ty e) (fun z=>nomatch z) fun tk=>⟨.bl b,H,I.tok tk,rfl,q⟩
def zcn:OpN:=fun ts M=>match ts with
 | [.dn _ _,.ty n]=>(kitB "dict" n).map fun b=>(.bl b,M)
 | ts=>za5 ts M
theorem zkW {X:Cx} {C:Cfg} (hK:C.K=X.K):CallR X (.builtin "isinstance") (rN C zcn):=zdb (call_isD.or (zd0 hK)) fun xs H Q ⟨mu,M,ts,t',M',R,r,e,q⟩=>by
 unfold zcn at e
 split at e
 ·obtain ⟨x,y,rfl,r1,r2⟩:=r.two
  obtain ⟨b,h1,h2⟩:=Option.map_eq_some_iff.mp e
  cases h2
  cases r2
  cases r1 with
  | dn h d rk ru=>exact .inl ⟨_,_,_,_,_,b,rfl,h.1,d,h1,q mu _ H R Ext.refl (.bl _)⟩
 ·exact .inr ⟨mu,M,_,t',M',R,r,e,q⟩
section
variable {X:Cx} {C:Cfg} {W:WX}
theorem s1m {o:Expr} {d:DE} {y z:Str} {j k:Nat} {c0 c1 apos pos:Pos} (ho:PET X o (TEz C W d)) (hyz:(y == z)=false)
  (hst:starEach [.Constant (.str y) j c0,.Constant (.str z) k c1] X.env = [(false,eval (.Constant (.str y) j c0) X.env),(false,eval (.Constant (.str z) k c1) X.env)]:=by rfl)
  (hbase:attributeBase o "replace" X.env (eval o X.env)=eval o X.env:=by rfl) (hline:(apos.endLine == pos.line)=true:=by rfl) :
  PET X (.Call (.Attribute o "replace" apos) [.Constant (.str y) j c0,.Constant (.str z) k c1] [] pos) (TEz C W (zd9 y z d)):=
 zkS (CwR.pet_replT ho hyz hst hbase hline) fun σ H Q ⟨mu,s,M,R,S,P⟩=>⟨mu,s,M,R,S,P.bind fun t M1 mu1 v H1 R1 E1 r1 P1=>by
  split at P1
  ·rename_i x
   split at P1
   ·rename_i hz
    exact ⟨x,r1.strI,hz,P1 mu1 _ H1 R1 Ext.refl (.str _)⟩
   ·exact P1.elim
  ·exact P1.elim⟩
theorem zpi {op:Operator} {g:Op2} {a b:Expr} {da db:DE} {pos:Pos} (ho:OpR X (binaryOp op) (rZ C g)) (ha:PEg X a (TEz C W da)) (hb:PE X b (TEz C W db)):PEg X (.BinOp a op b pos) (TEz C W (zac g da db)):=by
 refine zhV (t:=tOp (rZ C g) (TEz C W da) (TEz C W db)) (fun pins s σ H Q I h=>?_) fun _ _ _ h=>zdQ h
 refine wpAny_BinOp (thn (ha pins s σ H _ I h) fun v s1 ⟨h1,x,H1,I1,r1,q1⟩=>?_)
 refine wpAny_mono (PySem.wpAny_toks (hb.run pins s1 σ H1 _ I1 q1)) (fun u s2 q=>?_) fun _ _ z=>z.2
 obtain ⟨h2,y,H2,I2,r2,q2⟩:=q
 refine wpAny_mono (PySem.wpAny_toks (ho pins s2 σ H2 x y v u Q I2 r1 r2 q2)) (fun _ s3 q=>⟨Nat.le_trans h1 (Nat.le_trans h2 q.1),q.2⟩) fun _ _ z=>z.2
theorem zpj (hK:C.K=X.K) (hu:X.A.units + 1 < cLine) {a b:Expr} {da db:DE} {pos:Pos} (ha:PEg X a (TEz C W da)) (hb:PE X b (TEz C W db)) (hs:PlainIx b):PEg X (.Subscript a b pos) (TEz C W (zac gIx da db)):=by
 refine zhV (t:=tOp (rZ C gIx) (TEz C W da) (TEz C W db)) (fun pins s σ H Q I h=>?_) fun _ _ _ h=>zdQ h
 refine Subscript_ (thn (ha pins s σ H _ I h) fun v s1 ⟨h1,x,H1,I1,r1,q1⟩=>?_)
 refine wpAny_mono (PySem.wpAny_toks (hb.run pins s1 σ H1 _ I1 q1)) (fun u s2 q=>?_) fun _ _ z=>z.2
 obtain ⟨h2,y,H2,I2,r2,q2⟩:=q
 refine wpAny_mono (PySem.wpAny_toks (zjB hK hu a b pins s2 σ H2 x y v u Q I2 r1 r2 q2 (hs _ _))) (fun _ s3 q=>⟨Nat.le_trans h1 (Nat.le_trans h2 q.1),q.2⟩) fun _ _ z=>z.2
end
end Z
end
section
namespace G
open PySem PySem.Spec PyProof.Rows L2 Z PySem.SeqAt
def zeY:DS:=zav (zbn (dCall za5 (zab (zaa 0) (zab (dC (.ty "str")) (zad)))) (zbn (zdx gLe gLe (dC (.int 1)) (dCall za0 (zab (zaa 0) (zad))) (dC (.int 8))) (dCall zdc (zab (dLc false (zar (zaa 0)) (gN 2) (zaJ) (zac gIn (zaa 2) (zaa 1)) [2]) (zad)))))
def zea:DF:=runD 3 zeY
def zeZ:DS:=zav (zak 2 zea [] (zab (zaa 0) (zab (dC (.str "abcdefghijklmnopqrstuvwxyz")) (zad))))
def zbr:DF:=runD 1 zeZ
def ze0:DS:=zav (zak 2 zea [] (zab (zaa 0) (zab (zac (zan false) (dC (.str "abcdefghijklmnopqrstuvwxyz")) (dC (.str "0123456789"))) (zad))))
def zbw:DF:=runD 1 ze0
def zeb:DS:=zag (zaw 3 (dCall zfG (zab (zaa 0) (zab (zac gSub (dUn zbu (dC (.int 1))) (zaa 0)) (zad))))) (zag (zaw 4 (zaa 3)) (zag (zaw 5 (zaq true (zad))) (zag (zaH (zbp (zab (dCall za0 (zab (zaa 2) (zad))) (zad))) (gN 6) (dIf (zfD (zai (zac gGe (zaa 3) (zac zcV (dC (.int 10)) (dC (.int 18))))) (zai (zac gGt (zaa 4) (dC (.int 0))))) (zag (zaW (zbc "list" zbo (zaa 5) (zab (zac zaK (zaa 4) (zac gIx (zaa 2) (zaa 6))) (zad)))) (zaw 4 (zac zdv (zaa 4) (zac gIx (zaa 2) (zaa 6))))) (zag (zaw 7 (zac zaK (zac zcV (zac (zan false) (zac (zan false) (zac zaK (zaa 3) (dC (.int 2147483629))) (zac (za7 false) (dC (.int 7919)) (zaa 1))) (dC (.int 1))) (dC (.int 3))) (dC (.int 2147483647)))) (zag (zaw 7 (zac zaK (zac (za7 false) (zac (zan false) (zaa 7) (zac (za7 false) (dC (.int 104729)) (zac (zan false) (zaa 6) (dC (.int 1))))) (zac (zan false) (zaa 6) (dC (.int 3)))) (dC (.int 2147483629)))) (zag (zaw 7 (zac zaK (zac (za7 false) (zac zaK (zac zcV (zaa 7) (dC (.int 5))) (dC (.int 2147483647))) (dC (.int 48271))) (dC (.int 2147483629)))) (zaW (zbc "list" zbo (zaa 5) (zab (zac zaK (zac zdv (zaa 7) (dC (.int 16))) (zac gIx (zaa 2) (zaa 6))) (zad)))))))) [6,7]) (zav (zcb (zaa 5))))))
def zec:DF:=runD 8 zeb
def zed:DS:=zag (zaw 2 (zaq true (zad))) (zag (zaH (zbp (zab (zac zaK (zac gIx (zaa 0) (dC (.int 0))) (zac (zan false) (zaa 1) (dC (.int 1)))) (zad))) (gN 3) (zag (zaw 4 (zbF true)) (zag (zaH (zc0 (zab (zaq false (zab (dC (.str "x")) (zab (dC (.str "y")) (zab (dC (.str "own")) (zad))))) (zad))) (gTup (zaC (gN 5) (zaC (gN 6) (zbk)))) (zag (zaw 7 (zac gIx (zaq false (zab (dC .non) (zab (dC .non) (zab (dC (.str "1")) (zab (dC (.str "2")) (zab (dC (.str "x")) (zad))))))) (zac zaK (zac gIx (zaa 0) (zac (zan false) (zac (zan false) (dC (.int 1)) (zac (za7 false) (dC (.int 3)) (zaa 3))) (zaa 5))) (dC (.int 5))))) (dIf (zai (zac zbt (zaa 7) (dC .non))) (zcj (zaa 4) (zaa 6) (zaa 7)) (dNx))) [5,6,7]) (zbZ 4 (zaW (zbc "list" zbo (zaa 2) (zab (zaa 4) (zad))))))) [3,4,5,6,7]) (zav (zcb (zaa 2))))
def ze1:DF:=runD 8 zed
def zpk:DS:=zav (zbn (dCall za5 (zab (zaa 0) (zab (dC (.ty "int")) (zad)))) (zjy (dCall za5 (zab (zaa 0) (zab (dC (.ty "bool")) (zad))))))
def zpl:DF:=runD 1 zpk
def zpm:DS:=zav (zbn (zak 1 zpl [] (zab (zaa 0) (zad))) (zac gGe (zaa 0) (dC (.int 0))))
def zpn:DF:=runD 1 zpm
def zkX:DS:=zav (zbh (zai (zac gLt (zaa 1) (dCall za0 (zab (zaa 0) (zad))))) (zbc "dict" zg9 (zac gIx (zaa 0) (zaa 1)) (zab (zaa 2) (zad))) (dC .non))
def zf0:DF:=runD 3 zkX
def zkY:DS:=zag (zaH (zar (dSl false (zaa 0) (zaM (zaa 1)) (zaL))) (gN 3) (dIf (zai (zac gIn (zaa 2) (zaa 3))) (zav (zac gIx (zaa 3) (zaa 2))) (dNx)) [3]) (zav (dC .non))
def ze2:DF:=runD 4 zkY
def zkZ:DS:=zav (zbh (zai (zac gEq (dCall za0 (zab (zaa 0) (zad))) (dC (.int 3)))) (zac gIx (zaa 0) (dC (.int 2))) (dC .non))
def zhY:DF:=runD 1 zkZ
def zco:DS:=zag (dIf (zai (zac zcG (zac gIx (zaa 1) (dC (.int 0))) (dC (.str "open")))) (zav (zac (zan false) (zaq false (zab (zbF false) (zad))) (zaa 0))) (dNx)) (zag (dIf (zai (zac gIn (zac gIx (zaa 1) (dC (.int 0))) (dTup (zab (dC (.str "expect")) (zab (dC (.str "free")) (zad)))))) (zav (zbh (zai (zac gEq (zak 3 ze2 [] (zab (zaa 0) (zab (dC (.int 0)) (zab (zac gIx (zaa 1) (dC (.int 1))) (zad))))) (zak 1 zhY [] (zab (zaa 1) (zad))))) (zaa 0) (dC .non))) (dNx)) (zag (dIf (zai (zac gEq (zaa 0) (zaq false (zad)))) (zav (dC .non)) (dNx)) (zag (dIf (zai (zac zcG (zac gIx (zaa 1) (dC (.int 0))) (dC (.str "close")))) (zav (dSl false (zaa 0) (zaM (dC (.int 1))) (zaL))) (dNx)) (zag (dIf (zai (zac gIn (zac gIx (zaa 1) (dC (.int 0))) (dTup (zab (dC (.str "owned")) (zab (dC (.str "unowned")) (zad)))))) (zav (zbh (zai (zac gEq (zak 3 zf0 [] (zab (zaa 0) (zab (dC (.int 0)) (zab (zac gIx (zaa 1) (dC (.int 1))) (zad))))) (zak 1 zhY [] (zab (zaa 1) (zad))))) (zaa 0) (dC .non))) (dNx)) (zag (zaw 2 (dDc true (zjY (zac gIx (zaa 0) (dC (.int 0)))) (gTup (zaC (gN 3) (zaC (gN 4) (zbk)))) (zai (zac gNe (zaa 3) (zac gIx (zaa 1) (dC (.int 1))))) (zaa 3) (zaa 4) [3,4])) (zag (dIf (zai (zac zcG (zac gIx (zaa 1) (dC (.int 0))) (dC (.str "bind")))) (zcj (zaa 2) (zac gIx (zaa 1) (dC (.int 1))) (zac gIx (zaa 1) (dC (.int 2)))) (dNx)) (zbZ 2 (zav (zcb (zac (zan false) (zaq false (zab (zaa 2) (zad))) (dSl false (zaa 0) (zaM (dC (.int 1))) (zaL))))))))))))
def zk0:DF:=runD 5 zco
def zpo:DS:=zav (zbn (zak 1 zpn [] (zab (zaa 0) (zad))) (zac gLe (zaa 0) (dC (.int 200))))
def zpp:DF:=runD 1 zpo
def zpq:DS:=zag (dIf (zbv (zbb (zai (dCall za5 (zab (zaa 0) (zab (dC (.ty "tuple")) (zad)))))) (zai (zac gNe (dCall za0 (zab (zaa 0) (zad))) (dC (.int 4))))) (zav (dC (.bl false))) (dNx)) (zag (zkN (gTup (zaC (gN 1) (zaC (gN 2) (zaC (gN 3) (zaC (gN 4) (zbk)))))) (zaa 0)) (zag (dIf (zbv (zbb (zai (zak 1 zbr [] (zab (zaa 1) (zad))))) (zbv (zbb (zai (zak 1 zpp [] (zab (zaa 2) (zad))))) (zbv (zbb (zai (dCall za5 (zab (zaa 3) (zab (dC (.ty "str")) (zad)))))) (zai (zac zbi (zaa 3) (dC (.tup [.str "own",.str "seen"]))))))) (zav (dC (.bl false))) (dNx)) (zav (dOr (zac gIs (zaa 4) (dC .non)) (zak 1 zbw [] (zab (zaa 4) (zad)))))))
def zk1:DF:=runD 5 zpq
def zpr:DS:=zav (zbh (zai (zac gLt (zaa 1) (dCall za0 (zab (zaa 0) (zad))))) (zbc "dict" zg9 (zac gIx (zaa 0) (zaa 1)) (zab (zaa 2) (zad))) (dC .non))
def zhZ:DF:=runD 3 zpr
def zps:DS:=zag (zaH (zar (dSl false (zaa 0) (zaM (zaa 1)) (zaL))) (gN 3) (dIf (zai (zac gIn (zaa 2) (zaa 3))) (zav (zac gIx (zaa 3) (zaa 2))) (dNx)) [3]) (zav (dC .non))
def zh0:DF:=runD 4 zps
def zc5:DS:=zag (zaw 2 (zac gIx (zaa 1) (dC (.int 0)))) (zag (dIf (zai (zac gEq (zaa 2) (dC (.str "open")))) (zav (zac (zan false) (zaq false (zab (zbF false) (zad))) (zaa 0))) (dNx)) (zag (dIf (zai (zac gIn (zaa 2) (zaq false (zab (dC (.str "expect")) (zab (dC (.str "free")) (zad)))))) (zag (zaw 3 (zbh (zai (zac gEq (zaa 2) (dC (.str "expect")))) (zac gIx (zaa 1) (dC (.int 2))) (dC .non))) (zav (zbh (zai (zac gEq (zak 3 zh0 [] (zab (zaa 0) (zab (dC (.int 0)) (zab (zac gIx (zaa 1) (dC (.int 1))) (zad))))) (zaa 3))) (zaa 0) (dC .non)))) (dNx)) (zag (dIf (zai (zac gEq (zaa 0) (zaq false (zad)))) (zav (dC .non)) (dNx)) (zag (dIf (zai (zac gEq (zaa 2) (dC (.str "close")))) (zav (dSl false (zaa 0) (zaM (dC (.int 1))) (zaL))) (dNx)) (zag (dIf (zai (zac gIn (zaa 2) (zaq false (zab (dC (.str "owned")) (zab (dC (.str "unowned")) (zad)))))) (zag (zaw 3 (zbh (zai (zac gEq (zaa 2) (dC (.str "owned")))) (zac gIx (zaa 1) (dC (.int 2))) (dC .non))) (zav (zbh (zai (zac gEq (zak 3 zhZ [] (zab (zaa 0) (zab (dC (.int 0)) (zab (zac gIx (zaa 1) (dC (.int 1))) (zad))))) (zaa 3))) (zaa 0) (dC .non)))) (dNx)) (zag (zaw 4 (dCall (zdd true) (zab (dLc false (zar (zac gIx (zaa 0) (dC (.int 0)))) (gN 5) (zai (zac gNe (zaa 5) (zac gIx (zaa 1) (dC (.int 1))))) (dTup (zab (zaa 5) (zab (zac gIx (zac gIx (zaa 0) (dC (.int 0))) (zaa 5)) (zad)))) [5]) (zad)))) (zag (dIf (zai (zac gEq (zaa 2) (dC (.str "bind")))) (zcj (zaa 4) (zac gIx (zaa 1) (dC (.int 1))) (zac gIx (zaa 1) (dC (.int 2)))) (dNx)) (zbZ 4 (zav (zcb (zac (zan false) (zaq false (zab (zaa 4) (zad))) (dSl false (zaa 0) (zaM (dC (.int 1))) (zaL)))))))))))))
def zh1:DF:=runD 6 zc5
def zk2:DS:=zag (zaw 1 (dLc false (zar (zaa 0)) (gN 4) (zaJ) (zac gIx (zaa 4) (dC (.int 3))) [4])) (zag (zaw 2 (zaq true (zad))) (zag (zaw 3 (dC (.int 0))) (zag (zfS (zai (zac gLt (dCall za0 (zab (zaa 2) (zad))) (dC (.int 2)))) (zag (dIf (zai (zac zbi (dCall zdz (zab (zaa 3) (zad))) (zaa 1))) (zaW (zbc "list" zbo (zaa 2) (zab (dCall zdz (zab (zaa 3) (zad))) (zad)))) (dNx)) (zeM 3 zfM (dC (.int 1)))) []) (zav (zcb (zaa 2))))))
def zdh:DF:=runD 5 zk2
def zk3:DS:=zag (zaw 2 (zaq true (zad))) (zag (zaH (zar (zac gIx (zay ["Chain"] "own_bound" (zaa 0)) (zaa 1))) (gN 3) (zaH (zar (zac gIx (zay ["Chain"] "own_seen" (zaa 0)) (zac (zan false) (zaa 1) (dC (.int 1))))) (gN 4) (zag (zaw 5 (zbh (zai (zac gIs (zaa 3) (dC .non))) (zaa 4) (zaa 3))) (dIf (zai (zac gIn (zaa 5) (zac gIx (zay ["Chain"] "own_seen" (zaa 0)) (zaa 1)))) (zaW (zbc "list" zbo (zaa 2) (zab (dTup (zab (zaa 5) (zab (zaa 3) (zab (zaa 4) (zad))))) (zad)))) (dNx))) [4,5]) [3,4,5]) (zbZ 2 (zag (zb1 (zay ["Chain"] "own_seen" (zaa 0)) (zaa 1) (dLc false (zar (zac gIx (zay ["Chain"] "own_seen" (zaa 0)) (zaa 1))) (gN 6) (zai (zac gIn (zaa 6) (dLc false (zar (zaa 2)) (gN 7) (zaJ) (zac gIx (zaa 7) (dC (.int 0))) [7]))) (zaa 6) [6])) (zag (zb1 (zay ["Chain"] "own_bound" (zaa 0)) (zaa 1) (dLc false (zar (zac gIx (zay ["Chain"] "own_bound" (zaa 0)) (zaa 1))) (gN 6) (zai (zac gIn (zaa 6) (dLc false (zar (zaa 2)) (gN 7) (zaJ) (zac gIx (zaa 7) (dC (.int 1))) [7]))) (zaa 6) [6])) (zb1 (zay ["Chain"] "own_seen" (zaa 0)) (zac (zan false) (zaa 1) (dC (.int 1))) (dLc false (zar (zac gIx (zay ["Chain"] "own_seen" (zaa 0)) (zac (zan false) (zaa 1) (dC (.int 1))))) (gN 6) (zai (zac gIn (zaa 6) (dLc false (zar (zaa 2)) (gN 7) (zaJ) (zac gIx (zaa 7) (dC (.int 2))) [7]))) (zaa 6) [6]))))))
def zee:DF:=runD 8 zk3
def zpt:DS:=zag (zaH (zfY (zab (zac gSub (zay ["Chain"] "own_top" (zaa 0)) (dC (.int 1))) (zab (dUn zbu (dC (.int 1))) (zab (dUn zbu (dC (.int 1))) (zad))))) (gN 1) (zaW (zeU (zeW "Chain" zee) 2 "narrow_level" zeT (zaa 0) (zab (zaa 1) (zad)))) [1]) (zaH (zbp (zab (zay ["Chain"] "own_top" (zaa 0)) (zad))) (gN 1) (zaW (zeU (zeW "Chain" zee) 2 "narrow_level" zeT (zaa 0) (zab (zaa 1) (zad)))) [1])
def ze3:DF:=runD 2 zpt
def zk4:DS:=zag (zb0 ["Chain"] "own_top" (zaa 0) (zac (zan false) (zcD (dLc false (zar (zaa 1)) (gN 7) (zaJ) (zac gIx (zaa 7) (dC (.int 1))) [7]) (dUn zbu (dC (.int 1)))) (dC (.int 1)))) (zag (zb0 ["Chain"] "own_values" (zaa 0) (zaq true (zad))) (zag (zaH (zar (zac (zan false) (dLc false (zar (zaa 1)) (gN 7) (zai (zac zbt (zac gIx (zaa 7) (dC (.int 3))) (dC .non))) (zac gIx (zaa 7) (dC (.int 3))) [7]) (zak 1 zdh [] (zab (zaa 1) (zad))))) (gN 2) (dIf (zai (zac zbi (zaa 2) (zay ["Chain"] "own_values" (zaa 0)))) (zaW (zbc "list" zbo (zay ["Chain"] "own_values" (zaa 0)) (zab (zaa 2) (zad)))) (dNx)) [2]) (zag (zb0 ["Chain"] "own_seen" (zaa 0) (dLc true (zbp (zab (zac (zan false) (zay ["Chain"] "own_top" (zaa 0)) (dC (.int 1))) (zad))) (gN 3) (zaJ) (zac (zan false) (zaq false (zab (dC .non) (zad))) (zay ["Chain"] "own_values" (zaa 0))) [3])) (zag (zb0 ["Chain"] "own_bound" (zaa 0) (dLc true (zbp (zab (zay ["Chain"] "own_top" (zaa 0)) (zad))) (gN 3) (zaJ) (zac (zan false) (zaq false (zab (dC .non) (zad))) (zay ["Chain"] "own_values" (zaa 0))) [3])) (zag (zaH (zar (zaa 1)) (gTup (zaC (gN 4) (zaC (gN 3) (zaC (gN 5) (zaC (gN 2) (zbk)))))) (zag (zaw 6 (zbh (zai (zac gEq (zaa 5) (dC (.str "seen")))) (zay ["Chain"] "own_seen" (zaa 0)) (zay ["Chain"] "own_bound" (zaa 0)))) (zb1 (zaa 6) (zaa 3) (dLc false (zar (zac gIx (zaa 6) (zaa 3))) (gN 8) (zai (zac gEq (zaa 8) (zaa 2))) (zaa 8) [8]))) [2,3,4,5,6]) (zaW (zeU (zeW "Chain" ze3) 1 "narrow" zeT (zaa 0) zad)))))))
def ze4:DF:=runD 9 zk4
end G
end
section
namespace G
open PySem PySem.Spec PyProof.Rows L2 Z PySem.SeqAt
def zef:DS:=zag (zaw 1 (zbc "str" zd1 (dC (.str "")) (zab (dLc false (zbp (zab (zac zaK (zac gIx (zaa 0) (dC (.int 0))) (dC (.int 11))) (zad))) (gN 3) (zaJ) (zac gIx (dC (.str "abz09mq")) (zac zaK (zac gIx (zaa 0) (zac (zan false) (dC (.int 1)) (zaa 3))) (dC (.int 7)))) [3]) (zad)))) (zag (zaw 2 (zac zaK (zac gIx (zaa 0) (dC (.int 12))) (zac (zan false) (dCall za0 (zab (zaa 1) (zad))) (dC (.int 1))))) (zav (zaq false (zab (zaa 1) (zab (zac (zan false) (zac (zan false) (dSl false (zaa 1) (zaL) (zaM (zaa 2))) (zac gIx (dC (.str "A_ -=.,;\n{")) (zac zaK (zac gIx (zaa 0) (dC (.int 13))) (dC (.int 10))))) (dSl false (zaa 1) (zaM (zaa 2)) (zaL))) (zab (zd9 "9" "z" (zd9 "0" "b" (zaa 1))) (zad)))))))
def zdG:DF:=runD 4 zef
def ze5:DS:=zav (zbn (dCall zcn (zab (zaa 0) (zab (dC (.ty "dict")) (zad)))) (dCall zdc (zab (dLc false (zar (zaa 0)) (gN 1) (zaJ) (zbn (zak 1 zbr [] (zab (zaa 1) (zad))) (zak 1 zbw [] (zab (zac gIx (zaa 0) (zaa 1)) (zad)))) [1]) (zad))))
def zeg:DF:=runD 2 ze5
def ze6:DS:=zav (zbn (dCall za5 (zab (zaa 0) (zab (dC (.ty "list")) (zad)))) (dCall zdc (zab (dLc false (zar (zaa 0)) (gN 1) (zaJ) (zak 1 zeg [] (zab (zaa 1) (zad))) [1]) (zad))))
def zbR:DF:=runD 2 ze6
def zeh:DS:=zag (dIf (zbv (zbb (zai (dCall za5 (zab (zaa 0) (zab (dC (.ty "str")) (zad)))))) (zbb (zeX (zdx gLe gLe (dC (.int 1)) (dCall za0 (zab (zaa 0) (zad))) (dC (.int 8)))))) (zav (dC (.bl false))) (dNx)) (zav (zac gEq (dLc false (zar (zaa 0)) (gN 2) (zai (zac zbi (zaa 2) (zaa 1))) (zaa 2) [2]) (zaq false (zad))))
def zei:DF:=runD 3 zeh
def ze7:DS:=zav (zak 2 zei [] (zab (zaa 0) (zab (dC (.str "abcdefghijklmnopqrstuvwxyz")) (zad))))
def zb2:DF:=runD 1 ze7
def ze8:DS:=zav (zak 2 zei [] (zab (zaa 0) (zab (dC (.str "abcdefghijklmnopqrstuvwxyz0123456789")) (zad))))
def zcc:DF:=runD 1 ze8
def zej:DS:=zag (dIf (zbb (zai (dCall za5 (zab (zaa 0) (zab (dC (.ty "list")) (zad)))))) (zav (dC (.bl false))) (dNx)) (zag (zaH (zar (zaa 0)) (gN 1) (zag (dIf (zbb (zai (dCall zcn (zab (zaa 1) (zab (dC (.ty "dict")) (zad)))))) (zav (dC (.bl false))) (dNx)) (zaH (zar (zaa 1)) (gN 2) (dIf (zbv (zbb (zai (zak 1 zb2 [] (zab (zaa 2) (zad))))) (zbb (zai (zak 1 zcc [] (zab (zac gIx (zaa 1) (zaa 2)) (zad)))))) (zav (dC (.bl false))) (dNx)) [2])) [1,2]) (zav (dC (.bl true))))
def zcd:DF:=runD 3 zej
def zek:DS:=zag (zaw 2 (zac gIx (zaq false (zab (dC .non) (zab (dC (.bl true)) (zab (dC (.int 5)) (zab (dC (.str "")) (zab (dC (.str "A")) (zab (dC (.str "abcdefghi")) (zab (dTup (zab (dC (.str "x")) (zad))) (zab (zaq false (zad)) (zab (zbF false) (zab (dC (.str "a b")) (zab (dC (.str "x1")) (zab (dC (.str "1x")) (zad)))))))))))))) (zac zaK (zac gIx (zaa 0) (dC (.int 0))) (dC (.int 12))))) (zag (zaw 3 (zac zaK (zac gIx (zaa 0) (dC (.int 1))) (zac (zan false) (dCall za0 (zab (zaa 1) (zad))) (dC (.int 1))))) (zag (zaw 4 (zbh (zbv (zai (dCall za5 (zab (zaa 2) (zab (dTup (zab (dC (.ty "str")) (zab (dC (.ty "int")) (zab (dC (.ty "tuple")) (zad))))) (zad))))) (zai (zac gIs (zaa 2) (dC .non)))) (zaa 2) (dC (.str "Q")))) (zag (zaw 5 (zaq false (zab (zac (zan false) (zac (zan false) (dSl false (zaa 1) (zaL) (zaM (zaa 3))) (zaq false (zab (zaa 2) (zad)))) (dSl false (zaa 1) (zaM (zaa 3)) (zaL))) (zab (zac (zan false) (zac (zan false) (dSl false (zaa 1) (zaL) (zaM (zaa 3))) (zaq false (zab (zdD false (zd5 (dC (.str "x")) (zaa 2) (zd4))) (zad)))) (dSl false (zaa 1) (zaM (zaa 3)) (zaL))) (zab (dCall zfI (zab (zaa 1) (zad))) (zab (zac (zan false) (zaa 1) (zaq false (zab (zc4 (zaa 4) (dC (.str "1"))) (zad)))) (zad))))))) (zav (zac (zan false) (zaa 5) (zaq false (zab (zdD false (zd5 (dC (.str "x")) (dC (.str "1")) (zd4))) (zab (zac (zan false) (zaa 1) (zaq false (zab (zaa 1) (zad)))) (zab (zaa 2) (zab (zac (zan false) (zaa 1) (zaq false (zab (dCall (zdd false) (zab (zaq false (zab (dTup (zab (dC (.str "x")) (zab (dC (.str "1")) (zad)))) (zab (dTup (zab (dC (.str "y")) (zab (zaa 2) (zad)))) (zad)))) (zad))) (zad)))) (zab (zac (zan false) (zaa 1) (zaq false (zab (dTup (zab (dC (.str "x")) (zab (dC (.str "1")) (zad)))) (zad)))) (zad))))))))))))
def zcp:DF:=runD 6 zek
def ze9:DS:=zag (zaH (zc0 (zab (zac (zan false) (dSl false (zaa 0) (zaL) (zaM (dC (.int 8)))) (zac (za7 false) (zaq false (zab (dC (.int 7)) (zad))) (dCall zdY (zab (zac gEq (zaa 0) (zaq false (zad))) (zad))))) (zad))) (gTup (zaC (gN 1) (zaC (gN 2) (zbk)))) (zag (zaN [0,3,4,5,6,7] (zaw 3 (zak 3 zec [] (zab (zaa 2) (zab (zac (zan false) (dC (.int 100)) (zaa 1)) (zab (zac (za7 false) (zaq false (zab (dC (.int 420)) (zad))) (dC (.int 50))) (zad))))))) (zag (zaN [0,1,2,4,5,6,7] (zaH (zar (zac (zan false) (zak 1 zdG [] (zab (zaa 3) (zad))) (zaq false (zab (dC .non) (zab (dC (.bl true)) (zab (dC (.int 5)) (zab (dTup (zab (dC (.str "a")) (zad))) (zab (zaq false (zab (dC (.str "a")) (zad))) (zab (zbF false) (zab (zac zcH (dC (.str "a")) (dC (.int 8))) (zab (zac zcH (dC (.str "a")) (dC (.int 9))) (zab (dC (.str "1")) (zab (dC (.str "")) (zad)))))))))))))) (gN 4) (zag (zaN [0,1,2,5,6,7] (zaw 5 (zaq false (zab (zak 1 zbr [] (zab (zaa 4) (zad))) (zab (zak 1 zbw [] (zab (zaa 4) (zad))) (zab (zak 1 zbR [] (zab (zaa 4) (zad))) (zad))))))) (zaN [0,1,2,6,7] (dIf (zai (zac gNe (dCall za1 (zab (zaa 5) (zad))) (dCall za1 (zab (zaq false (zab (zak 1 zb2 [] (zab (zaa 4) (zad))) (zab (zak 1 zcc [] (zab (zaa 4) (zad))) (zab (zak 1 zcd [] (zab (zaa 4) (zad))) (zad))))) (zad))))) (zaN [0,1,2,3,4,5,6,7] (zav (dC (.bl false)))) (dNx)))) [4,5])) (zag (zaN [0,1,2,4,5,6,7] (zaw 6 (zak 2 ze1 [] (zab (dSl false (zaa 3) (zaM (dC (.int 15))) (zaL)) (zab (dC (.int 4)) (zad)))))) (zag (zaN [0,1,2,4,5,7] (zaH (zar (zac (zan false) (zac (zan false) (zaq false (zab (zaa 6) (zab (zaq false (zad)) (zab (zaq false (zab (zbF false) (zad))) (zad))))) (zak 2 zcp [] (zab (dSl false (zaa 3) (zaM (dC (.int 30))) (zaL)) (zab (zaa 6) (zad))))) (zak 2 zcp [] (zab (dSl false (zaa 3) (zaM (dC (.int 32))) (zaL)) (zab (zaa 6) (zad)))))) (gN 4) (zag (zaN [0,1,2,3,5,7] (zaw 7 (dCall za1 (zab (zaa 4) (zad))))) (zaN [0,1,2,3,5] (dIf (zbv (zai (zac gNe (dCall za1 (zab (zak 1 zbR [] (zab (zaa 4) (zad))) (zad))) (dCall za1 (zab (zak 1 zcd [] (zab (zaa 4) (zad))) (zad))))) (zai (zac gNe (dCall za1 (zab (zaa 4) (zad))) (zaa 7)))) (zaN [0,1,2,3,4,5,6,7] (zav (dC (.bl false)))) (dNx)))) [4,7])) (zaN [0,1,2,3,4,5,7] (dIf (zai (zac zbt (zak 1 zbR [] (zab (zaa 6) (zad))) (dC (.bl true)))) (zaN [0,1,2,3,4,5,6,7] (zav (dC (.bl false)))) (dNx))))))) [1,2,3,4,5,6,7]) (zav (dC (.bl true)))
def zk5:DF:=runD 8 ze9
end G
end
section
namespace G
open PySem PySem.Spec PyProof.Rows L2 Z PySem.SeqAt
def Se:Scope:=Scope.mk .function [("_law_cell",.local),("_law_salt",.local),("_law_sizes",.local),("_law_number",.local),("_law_left",.local),("_law_result",.local),("_law_k",.local),("_law_one",.local),("max",.globalImplicit),("range",.globalImplicit),("len",.globalImplicit)] false false []
def N0:List Str := ["_law_cell", "_law_salt", "_law_sizes", "_law_number", "_law_left", "_law_result", "_law_k", "_law_one"]
def J1:Ix:=⟨N0,Se,fun _=>true,false⟩
theorem F6:zaj J1 0 "_law_cell" = true∧glB J1 "max" = true∧stB J1 3 "_law_number" = true∧zaj J1 3 "_law_number" = true∧stB J1 4 "_law_left" = true∧stB J1 5 "_law_result" = true∧zaj J1 2 "_law_sizes" = true∧glB J1 "len" = true∧glB J1 "range" = true∧stB J1 6 "_law_k" = true∧zaj J1 4 "_law_left" = true∧zaj J1 5 "_law_result" = true∧zaj J1 6 "_law_k" = true∧zaj J1 1 "_law_salt" = true∧stB J1 7 "_law_one" = true∧zaj J1 7 "_law_one" = true:=by decide +kernel
theorem q1d:zaj J1 0 "_law_cell" = true:=F6.1
theorem q4f:glB J1 "max" = true:=F6.2.1
theorem q39:stB J1 3 "_law_number" = true:=F6.2.2.1
theorem qt:zaj J1 3 "_law_number" = true:=F6.2.2.2.1
theorem qz:stB J1 4 "_law_left" = true:=F6.2.2.2.2.1
theorem q2a:stB J1 5 "_law_result" = true:=F6.2.2.2.2.2.1
theorem qg:zaj J1 2 "_law_sizes" = true:=F6.2.2.2.2.2.2.1
theorem q24:glB J1 "len" = true:=F6.2.2.2.2.2.2.2.1
theorem q1t:glB J1 "range" = true:=F6.2.2.2.2.2.2.2.2.1
theorem q3i:stB J1 6 "_law_k" = true:=F6.2.2.2.2.2.2.2.2.2.1
theorem qn:zaj J1 4 "_law_left" = true:=F6.2.2.2.2.2.2.2.2.2.2.1
theorem qo:zaj J1 5 "_law_result" = true:=F6.2.2.2.2.2.2.2.2.2.2.2.1
theorem qc:zaj J1 6 "_law_k" = true:=F6.2.2.2.2.2.2.2.2.2.2.2.2.1
theorem q2v:zaj J1 1 "_law_salt" = true:=F6.2.2.2.2.2.2.2.2.2.2.2.2.2.1
theorem ql:stB J1 7 "_law_one" = true:=F6.2.2.2.2.2.2.2.2.2.2.2.2.2.2.1
theorem qu:zaj J1 7 "_law_one" = true:=F6.2.2.2.2.2.2.2.2.2.2.2.2.2.2.2
theorem zpu:defScope s12=Se:=by kernel_rfl
theorem S_law_numbers:FnScope N0 ["_law_cell", "_law_salt", "_law_sizes"] Se:=⟨rfl,rfl,rfl,by decide +kernel,by decide +kernel,by decide +kernel,by decide +kernel⟩
def Sr:Scope:=Scope.mk .function [("_law_digits",.cell),("_law_plain",.local),("_law_at",.local),("range",.globalImplicit),("len",.globalImplicit)] false false [("fast",.str "_law_digits"),("fast",.str "_law_k"),("fast",.str "_law_plain"),("fast",.str "_law_at")]
def S8:Scope:=Scope.mk .function [(".0",.local),("_law_k",.local),("_law_digits",.free)] false false []
def N3:List Str := ["_law_digits", "_law_plain", "_law_at", "_law_k"]
def J4:Ix:=⟨N3,Sr,fun _=>true,false⟩
theorem F9:zaj J4 0 "_law_digits" = true∧glB J4 "range" = true∧zbP J4 S8 [("_law_k",3)]=true∧stB (J4.blk S8) 3 "_law_k" = true∧zaj (J4.blk S8) 0 "_law_digits" = true∧zaj (J4.blk S8) 3 "_law_k" = true∧stB J4 1 "_law_plain" = true∧zaj J4 1 "_law_plain" = true∧glB J4 "len" = true∧stB J4 2 "_law_at" = true∧zaj J4 2 "_law_at" = true:=by decide +kernel
theorem qm:zaj J4 0 "_law_digits" = true:=F9.1
theorem q2o:glB J4 "range" = true:=F9.2.1
theorem q46:zbP J4 S8 [("_law_k",3)]=true:=F9.2.2.1
theorem q3x:stB (J4.blk S8) 3 "_law_k" = true:=F9.2.2.2.1
theorem q27:zaj (J4.blk S8) 0 "_law_digits" = true:=F9.2.2.2.2.1
theorem q2z:zaj (J4.blk S8) 3 "_law_k" = true:=F9.2.2.2.2.2.1
theorem q3j:stB J4 1 "_law_plain" = true:=F9.2.2.2.2.2.2.1
theorem qd:zaj J4 1 "_law_plain" = true:=F9.2.2.2.2.2.2.2.1
theorem q3o:glB J4 "len" = true:=F9.2.2.2.2.2.2.2.2.1
theorem q1y:stB J4 2 "_law_at" = true:=F9.2.2.2.2.2.2.2.2.2.1
theorem q16:zaj J4 2 "_law_at" = true:=F9.2.2.2.2.2.2.2.2.2.2
theorem zpv:defScope sr=Sr:=by kernel_rfl
theorem S_law_texts:FnScope N3 ["_law_digits"] Sr:=⟨rfl,rfl,rfl,by decide +kernel,by decide +kernel,by decide +kernel,by decide +kernel⟩
def Sf:Scope:=Scope.mk .function [("value",.local),("signs",.cell),("isinstance",.globalImplicit),("str",.globalImplicit),("len",.globalImplicit),("MAX_LENGTH",.globalImplicit),("all",.globalImplicit)] false false [("fast",.str "value"),("fast",.str "signs"),("fast",.str "sign")]
def Sb:Scope:=Scope.mk .function [(".0",.local),("sign",.local),("signs",.free)] false false []
def N6:List Str := ["value", "signs", "sign"]
def J5:Ix:=⟨N6,Sf,fun _=>true,false⟩
theorem Fd:zaj J5 0 "value" = true∧glB J5 "str" = true∧glB J5 "isinstance" = true∧glB J5 "len" = true∧glB J5 "MAX_LENGTH" = true∧zbP J5 Sb [("sign",2)]=true∧stB (J5.blk Sb) 2 "sign" = true∧zaj (J5.blk Sb) 2 "sign" = true∧zaj (J5.blk Sb) 1 "signs" = true∧glB J5 "all" = true:=by decide +kernel
theorem qq:zaj J5 0 "value" = true:=Fd.1
theorem q47:glB J5 "str" = true:=Fd.2.1
theorem q3v:glB J5 "isinstance" = true:=Fd.2.2.1
theorem q26:glB J5 "len" = true:=Fd.2.2.2.1
theorem q32:glB J5 "MAX_LENGTH" = true:=Fd.2.2.2.2.1
theorem q2p:zbP J5 Sb [("sign",2)]=true:=Fd.2.2.2.2.2.1
theorem q4c:stB (J5.blk Sb) 2 "sign" = true:=Fd.2.2.2.2.2.2.1
theorem q2h:zaj (J5.blk Sb) 2 "sign" = true:=Fd.2.2.2.2.2.2.2.1
theorem q35:zaj (J5.blk Sb) 1 "signs" = true:=Fd.2.2.2.2.2.2.2.2.1
theorem q3p:glB J5 "all" = true:=Fd.2.2.2.2.2.2.2.2.2
theorem zpw:defScope s17=Sf:=by kernel_rfl
theorem S_is_text_of:FnScope N6 ["value", "signs"] Sf:=⟨rfl,rfl,rfl,by decide +kernel,by decide +kernel,by decide +kernel,by decide +kernel⟩
def Sd:Scope:=Scope.mk .function [("value",.local),("is_text_of",.globalImplicit),("LETTERS",.globalImplicit)] false false []
def N7:List Str := ["value"]
def Jc:Ix:=⟨N7,Sd,fun _=>true,false⟩
theorem Fj:zaj Jc 0 "value" = true∧glB Jc "LETTERS" = true∧glB Jc "is_text_of" = true:=by decide +kernel
theorem q2w:zaj Jc 0 "value" = true:=Fj.1
theorem q3y:glB Jc "LETTERS" = true:=Fj.2.1
theorem q43:glB Jc "is_text_of" = true:=Fj.2.2
theorem zpx:defScope s10=Sd:=by kernel_rfl
theorem S_is_name:FnScope N7 ["value"] Sd:=⟨rfl,rfl,rfl,by decide +kernel,by decide +kernel,by decide +kernel,by decide +kernel⟩
def Sj:Scope:=Scope.mk .function [("value",.local),("is_text_of",.globalImplicit),("LETTERS",.globalImplicit),("DIGITS",.globalImplicit)] false false []
def N9:List Str := ["value"]
def Jb:Ix:=⟨N9,Sj,fun _=>true,false⟩
theorem Fh:zaj Jb 0 "value" = true∧glB Jb "LETTERS" = true∧glB Jb "DIGITS" = true∧glB Jb "is_text_of" = true:=by decide +kernel
theorem q3e:zaj Jb 0 "value" = true:=Fh.1
theorem q20:glB Jb "LETTERS" = true:=Fh.2.1
theorem q1z:glB Jb "DIGITS" = true:=Fh.2.2.1
theorem q1s:glB Jb "is_text_of" = true:=Fh.2.2.2
theorem zpy:defScope s18=Sj:=by kernel_rfl
theorem S_is_value:FnScope N9 ["value"] Sj:=⟨rfl,rfl,rfl,by decide +kernel,by decide +kernel,by decide +kernel,by decide +kernel⟩
def Su:Scope:=Scope.mk .function [("value",.cell),("isinstance",.globalImplicit),("dict",.globalImplicit),("all",.globalImplicit)] false false [("fast",.str "value"),("fast",.str "name")]
def S7:Scope:=Scope.mk .function [(".0",.local),("name",.local),("is_name",.globalImplicit),("is_value",.globalImplicit),("value",.free)] false false []
def N5:List Str := ["value", "name"]
def J6:Ix:=⟨N5,Su,fun _=>true,false⟩
theorem Fb:zaj J6 0 "value" = true∧glB J6 "dict" = true∧glB J6 "isinstance" = true∧zbP J6 S7 [("name",1)]=true∧stB (J6.blk S7) 1 "name" = true∧zaj (J6.blk S7) 1 "name" = true∧glB (J6.blk S7) "is_name" = true∧zaj (J6.blk S7) 0 "value" = true∧glB (J6.blk S7) "is_value" = true∧glB J6 "all" = true:=by decide +kernel
theorem q18:zaj J6 0 "value" = true:=Fb.1
theorem q1l:glB J6 "dict" = true:=Fb.2.1
theorem q1m:glB J6 "isinstance" = true:=Fb.2.2.1
theorem q1q:zbP J6 S7 [("name",1)]=true:=Fb.2.2.2.1
theorem q2j:stB (J6.blk S7) 1 "name" = true:=Fb.2.2.2.2.1
theorem q1a:zaj (J6.blk S7) 1 "name" = true:=Fb.2.2.2.2.2.1
theorem q3c:glB (J6.blk S7) "is_name" = true:=Fb.2.2.2.2.2.2.1
theorem q3d:zaj (J6.blk S7) 0 "value" = true:=Fb.2.2.2.2.2.2.2.1
theorem q2e:glB (J6.blk S7) "is_value" = true:=Fb.2.2.2.2.2.2.2.2.1
theorem q3q:glB J6 "all" = true:=Fb.2.2.2.2.2.2.2.2.2
theorem zpz:defScope s13=Su:=by kernel_rfl
theorem S_is_scope:FnScope N5 ["value"] Su:=⟨rfl,rfl,rfl,by decide +kernel,by decide +kernel,by decide +kernel,by decide +kernel⟩
def Sq:Scope:=Scope.mk .function [("value",.local),("isinstance",.globalImplicit),("list",.globalImplicit),("all",.globalImplicit)] false false [("fast",.str "value"),("fast",.str "scope")]
def Sa:Scope:=Scope.mk .function [(".0",.local),("scope",.local),("is_scope",.globalImplicit)] false false []
def N2:List Str := ["value", "scope"]
def J9:Ix:=⟨N2,Sq,fun _=>true,false⟩
theorem Ff:zaj J9 0 "value" = true∧glB J9 "list" = true∧glB J9 "isinstance" = true∧zbP J9 Sa [("scope",1)]=true∧stB (J9.blk Sa) 1 "scope" = true∧zaj (J9.blk Sa) 1 "scope" = true∧glB (J9.blk Sa) "is_scope" = true∧glB J9 "all" = true:=by decide +kernel
theorem qy:zaj J9 0 "value" = true:=Ff.1
theorem q3r:glB J9 "list" = true:=Ff.2.1
theorem q2k:glB J9 "isinstance" = true:=Ff.2.2.1
theorem q1j:zbP J9 Sa [("scope",1)]=true:=Ff.2.2.2.1
theorem q3h:stB (J9.blk Sa) 1 "scope" = true:=Ff.2.2.2.2.1
theorem q3b:zaj (J9.blk Sa) 1 "scope" = true:=Ff.2.2.2.2.2.1
theorem q4g:glB (J9.blk Sa) "is_scope" = true:=Ff.2.2.2.2.2.2.1
theorem q1v:glB J9 "all" = true:=Ff.2.2.2.2.2.2.2
theorem zpA:defScope s16=Sq:=by kernel_rfl
theorem S_is_nest:FnScope N2 ["value"] Sq:=⟨rfl,rfl,rfl,by decide +kernel,by decide +kernel,by decide +kernel,by decide +kernel⟩
def Ss:Scope:=Scope.mk .function [("_law_value",.local),("_law_signs",.cell),("isinstance",.globalImplicit),("str",.globalImplicit),("len",.globalImplicit)] false false [("fast",.str "_law_value"),("fast",.str "_law_signs"),("fast",.str "_law_sign")]
def S9:Scope:=Scope.mk .function [(".0",.local),("_law_sign",.local),("_law_signs",.free)] false false []
def N4:List Str := ["_law_value", "_law_signs", "_law_sign"]
def Ja:Ix:=⟨N4,Ss,fun _=>true,false⟩
theorem Fg:zaj Ja 0 "_law_value" = true∧glB Ja "str" = true∧glB Ja "isinstance" = true∧glB Ja "len" = true∧zbP Ja S9 [("_law_sign",2)]=true∧stB (Ja.blk S9) 2 "_law_sign" = true∧zaj (Ja.blk S9) 2 "_law_sign" = true∧zaj (Ja.blk S9) 1 "_law_signs" = true:=by decide +kernel
theorem qj:zaj Ja 0 "_law_value" = true:=Fg.1
theorem q4b:glB Ja "str" = true:=Fg.2.1
theorem q2l:glB Ja "isinstance" = true:=Fg.2.2.1
theorem q36:glB Ja "len" = true:=Fg.2.2.2.1
theorem q1n:zbP Ja S9 [("_law_sign",2)]=true:=Fg.2.2.2.2.1
theorem q25:stB (Ja.blk S9) 2 "_law_sign" = true:=Fg.2.2.2.2.2.1
theorem q15:zaj (Ja.blk S9) 2 "_law_sign" = true:=Fg.2.2.2.2.2.2.1
theorem q33:zaj (Ja.blk S9) 1 "_law_signs" = true:=Fg.2.2.2.2.2.2.2
theorem zpB:defScope sw=Ss:=by kernel_rfl
theorem S_law_is_text:FnScope N4 ["_law_value", "_law_signs"] Ss:=⟨rfl,rfl,rfl,by decide +kernel,by decide +kernel,by decide +kernel,by decide +kernel⟩
def Sn:Scope:=Scope.mk .function [("_law_value",.local),("_law_is_text",.globalImplicit)] false false []
def Na:List Str := ["_law_value"]
def Je:Ix:=⟨Na,Sn,fun _=>true,false⟩
theorem Fk:zaj Je 0 "_law_value" = true∧glB Je "_law_is_text" = true:=by decide +kernel
theorem q2f:zaj Je 0 "_law_value" = true:=Fk.1
theorem q21:glB Je "_law_is_text" = true:=Fk.2
theorem zpC:defScope sy=Sn:=by kernel_rfl
theorem S_law_is_name:FnScope Na ["_law_value"] Sn:=⟨rfl,rfl,rfl,by decide +kernel,by decide +kernel,by decide +kernel,by decide +kernel⟩
def Sl:Scope:=Scope.mk .function [("_law_value",.local),("_law_is_text",.globalImplicit)] false false []
def Nb:List Str := ["_law_value"]
def Jd:Ix:=⟨Nb,Sl,fun _=>true,false⟩
theorem Fl:zaj Jd 0 "_law_value" = true∧glB Jd "_law_is_text" = true:=by decide +kernel
theorem q3g:zaj Jd 0 "_law_value" = true:=Fl.1
theorem q30:glB Jd "_law_is_text" = true:=Fl.2
theorem zpD:defScope s11=Sl:=by kernel_rfl
theorem S_law_is_value:FnScope Nb ["_law_value"] Sl:=⟨rfl,rfl,rfl,by decide +kernel,by decide +kernel,by decide +kernel,by decide +kernel⟩
def Sk:Scope:=Scope.mk .function [("_law_value",.local),("_law_scope",.local),("_law_name",.local),("isinstance",.globalImplicit),("list",.globalImplicit),("dict",.globalImplicit),("_law_is_name",.globalImplicit),("_law_is_value",.globalImplicit)] false false []
def N1:List Str := ["_law_value", "_law_scope", "_law_name"]
def J8:Ix:=⟨N1,Sk,fun _=>true,false⟩
theorem Fe:zaj J8 0 "_law_value" = true∧glB J8 "list" = true∧glB J8 "isinstance" = true∧stB J8 1 "_law_scope" = true∧zaj J8 1 "_law_scope" = true∧glB J8 "dict" = true∧stB J8 2 "_law_name" = true∧zaj J8 2 "_law_name" = true∧glB J8 "_law_is_name" = true∧glB J8 "_law_is_value" = true:=by decide +kernel
theorem q17:zaj J8 0 "_law_value" = true:=Fe.1
theorem q2b:glB J8 "list" = true:=Fe.2.1
theorem q19:glB J8 "isinstance" = true:=Fe.2.2.1
theorem q49:stB J8 1 "_law_scope" = true:=Fe.2.2.2.1
theorem qp:zaj J8 1 "_law_scope" = true:=Fe.2.2.2.2.1
theorem q3n:glB J8 "dict" = true:=Fe.2.2.2.2.2.1
theorem q3f:stB J8 2 "_law_name" = true:=Fe.2.2.2.2.2.2.1
theorem qv:zaj J8 2 "_law_name" = true:=Fe.2.2.2.2.2.2.2.1
theorem q1w:glB J8 "_law_is_name" = true:=Fe.2.2.2.2.2.2.2.2.1
theorem q3s:glB J8 "_law_is_value" = true:=Fe.2.2.2.2.2.2.2.2.2
theorem zpE:defScope s19=Sk:=by kernel_rfl
theorem S_law_is_nest:FnScope N1 ["_law_value"] Sk:=⟨rfl,rfl,rfl,by decide +kernel,by decide +kernel,by decide +kernel,by decide +kernel⟩
def So:Scope:=Scope.mk .function [("_law_digits",.local),("_law_deep",.local),("_law_result",.local),("_law_k",.local),("_law_scope",.local),("_law_at",.local),("_law_name",.local),("_law_value",.local),("range",.globalImplicit),("enumerate",.globalImplicit)] false false []
def Nc:List Str := ["_law_digits", "_law_deep", "_law_result", "_law_k", "_law_scope", "_law_at", "_law_name", "_law_value"]
def J2:Ix:=⟨Nc,So,fun _=>true,false⟩
theorem F7:stB J2 2 "_law_result" = true∧zaj J2 0 "_law_digits" = true∧zaj J2 1 "_law_deep" = true∧glB J2 "range" = true∧stB J2 3 "_law_k" = true∧stB J2 4 "_law_scope" = true∧glB J2 "enumerate" = true∧stB J2 6 "_law_name" = true∧stB J2 5 "_law_at" = true∧zaj J2 3 "_law_k" = true∧zaj J2 5 "_law_at" = true∧stB J2 7 "_law_value" = true∧zaj J2 7 "_law_value" = true∧zaj J2 4 "_law_scope" = true∧zaj J2 6 "_law_name" = true∧zaj J2 2 "_law_result" = true:=by decide +kernel
theorem q3w:stB J2 2 "_law_result" = true:=F7.1
theorem q11:zaj J2 0 "_law_digits" = true:=F7.2.1
theorem q4a:zaj J2 1 "_law_deep" = true:=F7.2.2.1
theorem q2q:glB J2 "range" = true:=F7.2.2.2.1
theorem q2g:stB J2 3 "_law_k" = true:=F7.2.2.2.2.1
theorem q3k:stB J2 4 "_law_scope" = true:=F7.2.2.2.2.2.1
theorem q2x:glB J2 "enumerate" = true:=F7.2.2.2.2.2.2.1
theorem q2y:stB J2 6 "_law_name" = true:=F7.2.2.2.2.2.2.2.1
theorem q2t:stB J2 5 "_law_at" = true:=F7.2.2.2.2.2.2.2.2.1
theorem q45:zaj J2 3 "_law_k" = true:=F7.2.2.2.2.2.2.2.2.2.1
theorem q38:zaj J2 5 "_law_at" = true:=F7.2.2.2.2.2.2.2.2.2.2.1
theorem q1k:stB J2 7 "_law_value" = true:=F7.2.2.2.2.2.2.2.2.2.2.2.1
theorem q13:zaj J2 7 "_law_value" = true:=F7.2.2.2.2.2.2.2.2.2.2.2.2.1
theorem qw:zaj J2 4 "_law_scope" = true:=F7.2.2.2.2.2.2.2.2.2.2.2.2.2.1
theorem q2u:zaj J2 6 "_law_name" = true:=F7.2.2.2.2.2.2.2.2.2.2.2.2.2.2.1
theorem q1f:zaj J2 2 "_law_result" = true:=F7.2.2.2.2.2.2.2.2.2.2.2.2.2.2.2
theorem zpF:defScope sv=So:=by kernel_rfl
theorem S_law_nest:FnScope Nc ["_law_digits", "_law_deep"] So:=⟨rfl,rfl,rfl,by decide +kernel,by decide +kernel,by decide +kernel,by decide +kernel⟩
def Si:Scope:=Scope.mk .function [("_law_digits",.local),("_law_nest_here",.local),("_law_odd",.local),("_law_at",.local),("_law_key",.local),("_law_some",.local),("len",.globalImplicit),("isinstance",.globalImplicit),("str",.globalImplicit),("int",.globalImplicit),("tuple",.globalImplicit),("dict",.globalImplicit)] false false []
def N8:List Str := ["_law_digits", "_law_nest_here", "_law_odd", "_law_at", "_law_key", "_law_some"]
def J3:Ix:=⟨N8,Si,fun _=>true,false⟩
theorem F8:zaj J3 0 "_law_digits" = true∧stB J3 2 "_law_odd" = true∧zaj J3 1 "_law_nest_here" = true∧glB J3 "len" = true∧stB J3 3 "_law_at" = true∧zaj J3 2 "_law_odd" = true∧glB J3 "str" = true∧glB J3 "int" = true∧glB J3 "tuple" = true∧glB J3 "isinstance" = true∧stB J3 4 "_law_key" = true∧zaj J3 3 "_law_at" = true∧zaj J3 4 "_law_key" = true∧stB J3 5 "_law_some" = true∧zaj J3 5 "_law_some" = true∧glB J3 "dict" = true:=by decide +kernel
theorem q1c:zaj J3 0 "_law_digits" = true:=F8.1
theorem q4e:stB J3 2 "_law_odd" = true:=F8.2.1
theorem q8:zaj J3 1 "_law_nest_here" = true:=F8.2.2.1
theorem q23:glB J3 "len" = true:=F8.2.2.2.1
theorem q2r:stB J3 3 "_law_at" = true:=F8.2.2.2.2.1
theorem qa:zaj J3 2 "_law_odd" = true:=F8.2.2.2.2.2.1
theorem q3a:glB J3 "str" = true:=F8.2.2.2.2.2.2.1
theorem q40:glB J3 "int" = true:=F8.2.2.2.2.2.2.2.1
theorem qx:glB J3 "tuple" = true:=F8.2.2.2.2.2.2.2.2.1
theorem q3z:glB J3 "isinstance" = true:=F8.2.2.2.2.2.2.2.2.2.1
theorem q1p:stB J3 4 "_law_key" = true:=F8.2.2.2.2.2.2.2.2.2.2.1
theorem qe:zaj J3 3 "_law_at" = true:=F8.2.2.2.2.2.2.2.2.2.2.2.1
theorem q4d:zaj J3 4 "_law_key" = true:=F8.2.2.2.2.2.2.2.2.2.2.2.2.1
theorem q22:stB J3 5 "_law_some" = true:=F8.2.2.2.2.2.2.2.2.2.2.2.2.2.1
theorem q42:zaj J3 5 "_law_some" = true:=F8.2.2.2.2.2.2.2.2.2.2.2.2.2.2.1
theorem q3u:glB J3 "dict" = true:=F8.2.2.2.2.2.2.2.2.2.2.2.2.2.2.2
theorem zpG:defScope s14=Si:=by kernel_rfl
theorem S_law_altered:FnScope N8 ["_law_digits", "_law_nest_here"] Si:=⟨rfl,rfl,rfl,by decide +kernel,by decide +kernel,by decide +kernel,by decide +kernel⟩
def Sh:Scope:=Scope.mk .function [("_law_script",.local),("_law_k",.local),("_law_cell",.local),("_law_digits",.local),("_law_value",.local),("_law_told",.local),("_law_nest_here",.local),("_law_saved",.local),("enumerate",.globalImplicit),("int",.globalImplicit),("_law_numbers",.globalImplicit),("_law_texts",.globalImplicit),("is_name",.globalImplicit),("is_value",.globalImplicit),("is_nest",.globalImplicit),("repr",.globalImplicit),("_law_is_name",.globalImplicit),("_law_is_value",.globalImplicit),("_law_is_nest",.globalImplicit),("_law_nest",.globalImplicit),("_law_altered",.globalImplicit)] false false []
def Nd:List Str := ["_law_script", "_law_k", "_law_cell", "_law_digits", "_law_value", "_law_told", "_law_nest_here", "_law_saved"]
def J0:Ix:=⟨Nd,Sh,fun _=>true,false⟩
theorem F2:zaj J0 0 "_law_script" = true∧glB J0 "int" = true∧glB J0 "enumerate" = true∧stB J0 2 "_law_cell" = true∧stB J0 1 "_law_k" = true∧zaj J0 2 "_law_cell" = true∧zaj J0 1 "_law_k" = true∧glB J0 "_law_numbers" = true∧stB J0 3 "_law_digits" = true∧zaj J0 3 "_law_digits" = true∧glB J0 "_law_texts" = true∧stB J0 4 "_law_value" = true∧zaj J0 4 "_law_value" = true∧glB J0 "is_name" = true∧glB J0 "is_value" = true∧glB J0 "is_nest" = true∧stB J0 5 "_law_told" = true∧zaj J0 5 "_law_told" = true∧glB J0 "repr" = true∧glB J0 "_law_is_name" = true∧glB J0 "_law_is_value" = true∧glB J0 "_law_is_nest" = true∧glB J0 "_law_nest" = true∧stB J0 6 "_law_nest_here" = true:=by decide +kernel
theorem q14:zaj J0 0 "_law_script" = true:=F2.1
theorem q48:glB J0 "int" = true:=F2.2.1
theorem q1r:glB J0 "enumerate" = true:=F2.2.2.1
theorem q1x:stB J0 2 "_law_cell" = true:=F2.2.2.2.1
theorem q2s:stB J0 1 "_law_k" = true:=F2.2.2.2.2.1
theorem q2c:zaj J0 2 "_law_cell" = true:=F2.2.2.2.2.2.1
theorem q44:zaj J0 1 "_law_k" = true:=F2.2.2.2.2.2.2.1
theorem q41:glB J0 "_law_numbers" = true:=F2.2.2.2.2.2.2.2.1
theorem q2i:stB J0 3 "_law_digits" = true:=F2.2.2.2.2.2.2.2.2.1
theorem qf:zaj J0 3 "_law_digits" = true:=F2.2.2.2.2.2.2.2.2.2.1
theorem q34:glB J0 "_law_texts" = true:=F2.2.2.2.2.2.2.2.2.2.2.1
theorem q10:stB J0 4 "_law_value" = true:=F2.2.2.2.2.2.2.2.2.2.2.2.1
theorem q9:zaj J0 4 "_law_value" = true:=F2.2.2.2.2.2.2.2.2.2.2.2.2.1
theorem q2d:glB J0 "is_name" = true:=F2.2.2.2.2.2.2.2.2.2.2.2.2.2.1
theorem q1u:glB J0 "is_value" = true:=F2.2.2.2.2.2.2.2.2.2.2.2.2.2.2.1
theorem qk:glB J0 "is_nest" = true:=F2.2.2.2.2.2.2.2.2.2.2.2.2.2.2.2.1
theorem q29:stB J0 5 "_law_told" = true:=F2.2.2.2.2.2.2.2.2.2.2.2.2.2.2.2.2.1
theorem q2n:zaj J0 5 "_law_told" = true:=F2.2.2.2.2.2.2.2.2.2.2.2.2.2.2.2.2.2.1
theorem qb:glB J0 "repr" = true:=F2.2.2.2.2.2.2.2.2.2.2.2.2.2.2.2.2.2.2.1
theorem q3t:glB J0 "_law_is_name" = true:=F2.2.2.2.2.2.2.2.2.2.2.2.2.2.2.2.2.2.2.2.1
theorem q3l:glB J0 "_law_is_value" = true:=F2.2.2.2.2.2.2.2.2.2.2.2.2.2.2.2.2.2.2.2.2.1
theorem q1b:glB J0 "_law_is_nest" = true:=F2.2.2.2.2.2.2.2.2.2.2.2.2.2.2.2.2.2.2.2.2.2.1
theorem q3m:glB J0 "_law_nest" = true:=F2.2.2.2.2.2.2.2.2.2.2.2.2.2.2.2.2.2.2.2.2.2.2.1
theorem q28:stB J0 6 "_law_nest_here" = true:=F2.2.2.2.2.2.2.2.2.2.2.2.2.2.2.2.2.2.2.2.2.2.2.2
theorem Fi:zaj J0 6 "_law_nest_here" = true∧glB J0 "_law_altered" = true∧stB J0 7 "_law_saved" = true∧zaj J0 7 "_law_saved" = true:=by decide +kernel
theorem qh:zaj J0 6 "_law_nest_here" = true:=Fi.1
theorem q1h:glB J0 "_law_altered" = true:=Fi.2.1
theorem q2m:stB J0 7 "_law_saved" = true:=Fi.2.2.1
theorem q1o:zaj J0 7 "_law_saved" = true:=Fi.2.2.2
theorem zpH:defScope s15=Sh:=by kernel_rfl
theorem S_law:FnScope Nd ["_law_script"] Sh:=⟨rfl,rfl,rfl,by decide +kernel,by decide +kernel,by decide +kernel,by decide +kernel⟩
structure Md (w:World) (K:PySem.W.Frag) (mg:Str→Option Value):Prop where
 k_DIGITS:∃ u,mg "DIGITS" = some u∧RelV (.str "0123456789") u
 k_LETTERS:∃ u,mg "LETTERS" = some u∧RelV (.str "abcdefghijklmnopqrstuvwxyz") u
 k_MAX_LENGTH:∃ u,mg "MAX_LENGTH" = some u∧RelV (.int 8) u
 b_all:mg "all" = none
 b_dict:mg "dict" = none
 b_enumerate:mg "enumerate" = none
 b_int:mg "int" = none
 b_isinstance:mg "isinstance" = none
 b_len:mg "len" = none
 b_list:mg "list" = none
 b_max:mg "max" = none
 b_range:mg "range" = none
 b_repr:mg "repr" = none
 b_str:mg "str" = none
 b_tuple:mg "tuple" = none
 f_law_numbers:∃ fa fd,FunD K "_law_numbers" "_law_numbers" (defArgs s12) (defBody s12) (defScope s12) [] [] fa fd∧mg "_law_numbers" = some (.ref fa)
 f_law_texts:∃ fa fd,FunD K "_law_texts" "_law_texts" (defArgs sr) (defBody sr) (defScope sr) [] [] fa fd∧mg "_law_texts" = some (.ref fa)
 f_is_text_of:∃ fa fd,FunD K "is_text_of" "is_text_of" (defArgs s17) (defBody s17) (defScope s17) [] [] fa fd∧mg "is_text_of" = some (.ref fa)
 f_is_name:∃ fa fd,FunD K "is_name" "is_name" (defArgs s10) (defBody s10) (defScope s10) [] [] fa fd∧mg "is_name" = some (.ref fa)
 f_is_value:∃ fa fd,FunD K "is_value" "is_value" (defArgs s18) (defBody s18) (defScope s18) [] [] fa fd∧mg "is_value" = some (.ref fa)
 f_is_scope:∃ fa fd,FunD K "is_scope" "is_scope" (defArgs s13) (defBody s13) (defScope s13) [] [] fa fd∧mg "is_scope" = some (.ref fa)
 f_is_nest:∃ fa fd,FunD K "is_nest" "is_nest" (defArgs s16) (defBody s16) (defScope s16) [] [] fa fd∧mg "is_nest" = some (.ref fa)
 f_law_is_text:∃ fa fd,FunD K "_law_is_text" "_law_is_text" (defArgs sw) (defBody sw) (defScope sw) [] [] fa fd∧mg "_law_is_text" = some (.ref fa)
 f_law_is_name:∃ fa fd,FunD K "_law_is_name" "_law_is_name" (defArgs sy) (defBody sy) (defScope sy) [] [] fa fd∧mg "_law_is_name" = some (.ref fa)
 f_law_is_value:∃ fa fd,FunD K "_law_is_value" "_law_is_value" (defArgs s11) (defBody s11) (defScope s11) [] [] fa fd∧mg "_law_is_value" = some (.ref fa)
 f_law_is_nest:∃ fa fd,FunD K "_law_is_nest" "_law_is_nest" (defArgs s19) (defBody s19) (defScope s19) [] [] fa fd∧mg "_law_is_nest" = some (.ref fa)
 f_law_nest:∃ fa fd,FunD K "_law_nest" "_law_nest" (defArgs sv) (defBody sv) (defScope sv) [] [] fa fd∧mg "_law_nest" = some (.ref fa)
 f_law_altered:∃ fa fd,FunD K "_law_altered" "_law_altered" (defArgs s14) (defBody s14) (defScope s14) [] [] fa fd∧mg "_law_altered" = some (.ref fa)
 f_law:∃ fa fd,FunD K "law" "law" (defArgs s15) (defBody s15) (defScope s15) [] [] fa fd∧mg "law" = some (.ref fa)
section
variable {P:Program} {w:World} {K:PySem.W.Frag} {mg:Str→Option Value} {base:Heap} {C:Cfg}
theorem zpI {X:Cx} {W:WX} (hK:C.K=K) (hG:C.ga=He.ga K) (hx:∀ b,C.xd b=none) (m:Md w K mg) (hsy:∃ o,base.get? sysModules=some o) (B:Bd P w K mg base J1 0 X) (hp:PassesOwn (model X.prog X.w) X.A X.env X.xe) (tk:Takes X W) (hst:X.stack=X.env :: X.outer) (hfr:X.env.frame=some X.env.locals):PSs X (defBody s12) (TSz C W zeb):=
 zaR (zbl B q39 (za8 B (znQ (B.calm rfl)) q4f m.b_max rfl (zae (zaf B q1d) (zae (s9 zno (s1j znu (s8 pe_int fun _ _ => .int _)) (zaf B q1d)) zao rfl) rfl) rfl rfl) rfl) (zaR (zbl B qz (zaf B qt) rfl) (zaR (zbl B q2a (se true zao) rfl) (zaR (zdf (ws := [6]) B rfl [6,7] hp (zhf (B.gl q1t) (B.nx m.b_range) (zae (za8 B (zeK (B.eK hK)) q24 m.b_len rfl (zae (zaf B qg) zao rfl) rfl rfl) zao rfl) rfl) (zbH B q3i rfl) (sd (s_if (PW.pt (znB (zcW znz znq (zaf B qt) (s9 zgY (s8 pe_int fun _ _ => .int _) (s8 pe_int fun _ _ => .int _)) rfl) (pw_and1 (zcW zny znp (zaf B qn) (s8 pe_int fun _ _ => .int _) rfl)))) (zaR (s1e (zfL PySem.F.plainAttrs_list PySem.F.slot_list_append PySem.F.type_list_append zg8 (zaf B qo) (zae (s9 zbE (zaf B qn) (sj (B.eK hK) B.u1 (zaf B qg) (zaf B qc) (fun _ _=>rfl))) zao rfl)) rfl) (sd (zbl B qz (s9 zjt (zaf B qn) (sj (B.eK hK) B.u1 (zaf B qg) (zaf B qc) (fun _ _=>rfl))) rfl))) (zaR (zbl B ql (s9 zbE (s9 zgY (s9 (zaV (B.eK hK) false) (s9 (zaV (B.eK hK) false) (s9 zbE (zaf B qt) (s8 pe_int fun _ _ => .int _)) (s9 (zdw false) (s8 pe_int fun _ _ => .int _) (zaf B q2v))) (s8 pe_int fun _ _ => .int _)) (s8 pe_int fun _ _ => .int _)) (s8 pe_int fun _ _ => .int _)) rfl) (zaR (zbl B ql (s9 zbE (s9 (zdw false) (s9 (zaV (B.eK hK) false) (zaf B qu) (s9 (zdw false) (s8 pe_int fun _ _ => .int _) (s9 (zaV (B.eK hK) false) (zaf B qc) (s8 pe_int fun _ _ => .int _)))) (s9 (zaV (B.eK hK) false) (zaf B qc) (s8 pe_int fun _ _ => .int _))) (s8 pe_int fun _ _ => .int _)) rfl) (zaR (zbl B ql (s9 zbE (s9 (zdw false) (s9 zbE (s9 zgY (zaf B qu) (s8 pe_int fun _ _ => .int _)) (s8 pe_int fun _ _ => .int _)) (s8 pe_int fun _ _ => .int _)) (s8 pe_int fun _ _ => .int _)) rfl) (sd (s1e (zfL PySem.F.plainAttrs_list PySem.F.slot_list_append PySem.F.type_list_append zg8 (zaf B qo) (zae (s9 zbE (s9 zjt (zaf B qu) (s8 pe_int fun _ _ => .int _)) (sj (B.eK hK) B.u1 (zaf B qg) (zaf B qc) (fun _ _=>rfl))) zao rfl)) rfl)))))))) (sd (s_ret (zjV (zaf B qo)))))))
theorem zpJ {fa:Addr} {fd:FuncData} (hK:C.K=K) (hG:C.ga=He.ga K) (hx:∀ b,C.xd b=none) (m:Md w K mg) (hsy:∃ o,base.get? sysModules=some o) (F:FunD K "_law_numbers" "_law_numbers" (defArgs s12) (defBody s12) Se [] [] fa fd):FnG P w K mg base (L2.CX P w) 1 fa fd ["_law_cell", "_law_salt", "_law_sizes"] (SpZ C 3 (runD N0.length zeb)):=
 zbO (b:=zeb) F S_law_numbers rfl (fun cdv A outer s H E hid hr hg=>by
  exact zpI (C:=C.with hid) hK hG hx m hsy ⟨rfl,rfl,rfl,rfl,rfl,rfl,rfl,rfl,S_law_numbers.nd,rfl,fun _=>hr,hr.units,hg,fun _=>rfl⟩ (passes_of rfl) (takes_of rfl rfl rfl rfl) rfl rfl)
theorem zpK (hK:C.K=K) (hG:C.ga=He.ga K) (hx:∀ b,C.xd b=none) (m:Md w K mg) (hsy:∃ o,base.get? sysModules=some o):CalG P w K mg base C "_law_numbers" 1 3 zec []:=by
 obtain ⟨fa,fd,F,gm⟩:=m.f_law_numbers
 rw [zpu] at F
 have hz:FnG P w K mg base (L2.CX P w) 1 fa fd ["_law_cell", "_law_salt", "_law_sizes"] (SpZ C 3 (runD N0.length zeb)):=zpJ hK hG hx m hsy F
 exact ⟨fa,fd,["_law_cell", "_law_salt", "_law_sizes"],[],[],hz,gm,F.kp,F.bindsN (fun _ _ _ _ _ _ us hl=>match us,hl with | [_,_,_],_=>rfl),.nil,fun _ _ _ => .nil⟩
theorem zpL {X:Cx} {W:WX} (hK:C.K=K) (hG:C.ga=He.ga K) (hx:∀ b,C.xd b=none) (m:Md w K mg) (hsy:∃ o,base.get? sysModules=some o) (B:Bd P w K mg base J4 0 X) (hp:PassesOwn (model X.prog X.w) X.A X.env X.xe) (tk:Takes X W) (hst:X.stack=X.env :: X.outer) (hfr:X.env.frame=some X.env.locals):PSs X (defBody sr) (TSz C W zef):=
 zaR (zbl B q3j (zfL PySem.F.plainAttrs_str PySem.F.slot_str_join PySem.F.type_str_join (znZ (B.eK hK)) (s8 pe_str fun _ _ => .str _) (zae (zeR B rfl hK false (b:=S8) (own := [("_law_k",3)]) q46 (zhf (B.gl q2o) (B.nx m.b_range) (zae (s9 zbE (sj (B.eK hK) B.u1 (zaf B qm) (s8 pe_int fun _ _ => .int _) (fun _ _=>rfl)) (s8 pe_int fun _ _ => .int _)) zao rfl) rfl) (fun X1 B1 h1=>have k1:(C.with h1).K=K:=hK; (zbH B1 q3x rfl)) (fun X1 B1 h1=>have k1:(C.with h1).K=K:=hK; zfR) (fun X1 B1 h1=>have k1:(C.with h1).K=K:=hK; (sj (B1.eK k1) B1.u1 (s8 pe_str fun _ _ => .str _) (s9 zbE (sj (B1.eK k1) B1.u1 (zaf B1 q27) (s9 (zaV (B1.eK k1) false) (s8 pe_int fun _ _ => .int _) (zaf B1 q2z)) (fun _ _=>rfl)) (s8 pe_int fun _ _ => .int _)) (fun _ _=>rfl)))) zao rfl)) rfl) (zaR (zbl B q1y (s9 zbE (sj (B.eK hK) B.u1 (zaf B qm) (s8 pe_int fun _ _ => .int _) (fun _ _=>rfl)) (s9 (zaV (B.eK hK) false) (za8 B (zeK (B.eK hK)) q3o m.b_len rfl (zae (zaf B qd) zao rfl) rfl rfl) (s8 pe_int fun _ _ => .int _))) rfl) (sd (s_ret (se false (zae (zaf B qd) (zo2 (zpi (zaV (B.eK hK) false) (zo1 (zaV (B.eK hK) false) (so (B.eK hK) false (zaf B qd) zcx (zcy (zaf B q16))) (zpj (B.eK hK) B.u1 zo0 (s9 zbE (sj (B.eK hK) B.u1 (zaf B qm) (s8 pe_int fun _ _ => .int _) (fun _ _=>rfl)) (s8 pe_int fun _ _ => .int _)) (fun _ _=>rfl))) (so (B.eK hK) false (zaf B qd) (zcy (zaf B q16)) zcx)) (zo4 (s1m (s1l (zaf B qd) (by decide +kernel)) (by decide +kernel)) zo3 rfl) rfl) rfl)))))
theorem zpM {fa:Addr} {fd:FuncData} (hK:C.K=K) (hG:C.ga=He.ga K) (hx:∀ b,C.xd b=none) (m:Md w K mg) (hsy:∃ o,base.get? sysModules=some o) (F:FunD K "_law_texts" "_law_texts" (defArgs sr) (defBody sr) Sr [] [] fa fd):FnG P w K mg base (L2.CX P w) 1 fa fd ["_law_digits"] (SpZ C 1 (runD N3.length zef)):=
 zbO (b:=zef) F S_law_texts rfl (fun cdv A outer s H E hid hr hg=>by
  exact zpL (C:=C.with hid) hK hG hx m hsy ⟨rfl,rfl,rfl,rfl,rfl,rfl,rfl,rfl,S_law_texts.nd,rfl,fun _=>hr,hr.units,hg,fun _=>rfl⟩ (passes_of rfl) (takes_of rfl rfl rfl rfl) rfl rfl)
theorem zpN (hK:C.K=K) (hG:C.ga=He.ga K) (hx:∀ b,C.xd b=none) (m:Md w K mg) (hsy:∃ o,base.get? sysModules=some o):CalG P w K mg base C "_law_texts" 1 1 zdG []:=by
 obtain ⟨fa,fd,F,gm⟩:=m.f_law_texts
 rw [zpv] at F
 have hz:FnG P w K mg base (L2.CX P w) 1 fa fd ["_law_digits"] (SpZ C 1 (runD N3.length zef)):=zpM hK hG hx m hsy F
 exact ⟨fa,fd,["_law_digits"],[],[],hz,gm,F.kp,F.bindsN (fun _ _ _ _ _ _ us hl=>match us,hl with | [_],_=>rfl),.nil,fun _ _ _ => .nil⟩
theorem zpO {X:Cx} {W:WX} (hK:C.K=K) (hG:C.ga=He.ga K) (hx:∀ b,C.xd b=none) (m:Md w K mg) (hsy:∃ o,base.get? sysModules=some o) (B:Bd P w K mg base J5 0 X) (hp:PassesOwn (model X.prog X.w) X.A X.env X.xe) (tk:Takes X W) (hst:X.stack=X.env :: X.outer) (hfr:X.env.frame=some X.env.locals):PSs X (defBody s17) (TSz C W zeY):=
 sd (s_ret (s1c (za8 B (zd0 (B.eK hK)) q3v m.b_isinstance rfl (zae (zaf B qq) (zae (zc2 B q47 m.b_str rfl) zao rfl) rfl) rfl rfl) (s1c (s1i zjw zfC zfC (s8 pe_int fun _ _ => .int _) (za8 B (zeK (B.eK hK)) q26 m.b_len rfl (zae (zaf B qq) zao rfl) rfl rfl) (zfT B q32 m.k_MAX_LENGTH fun _ _ => .int _) rfl) (pe_one (za8 B (zg3 (B.calm rfl)) q3p m.b_all rfl (zae (zeR B rfl hK false (b:=Sb) (own := [("sign",2)]) q2p (zde (B.eK hK) (zaf B qq)) (fun X1 B1 h1=>have k1:(C.with h1).K=K:=hK; (zbH B1 q4c rfl)) (fun X1 B1 h1=>have k1:(C.with h1).K=K:=hK; zfR) (fun X1 B1 h1=>have k1:(C.with h1).K=K:=hK; (s1f (znK (B1.eK k1) B1.u64) (zaf B1 q2h) (zaf B1 q35) rfl))) zao rfl) rfl rfl)))))
theorem zpP {fa:Addr} {fd:FuncData} (hK:C.K=K) (hG:C.ga=He.ga K) (hx:∀ b,C.xd b=none) (m:Md w K mg) (hsy:∃ o,base.get? sysModules=some o) (F:FunD K "is_text_of" "is_text_of" (defArgs s17) (defBody s17) Sf [] [] fa fd):FnG P w K mg base (L2.CX P w) 1 fa fd ["value", "signs"] (SpZ C 2 (runD N6.length zeY)):=
 zbO (b:=zeY) F S_is_text_of rfl (fun cdv A outer s H E hid hr hg=>by
  exact zpO (C:=C.with hid) hK hG hx m hsy ⟨rfl,rfl,rfl,rfl,rfl,rfl,rfl,rfl,S_is_text_of.nd,rfl,fun _=>hr,hr.units,hg,fun _=>rfl⟩ (passes_of rfl) (takes_of rfl rfl rfl rfl) rfl rfl)
theorem zk6 (hK:C.K=K) (hG:C.ga=He.ga K) (hx:∀ b,C.xd b=none) (m:Md w K mg) (hsy:∃ o,base.get? sysModules=some o):CalG P w K mg base C "is_text_of" 1 2 zea []:=by
 obtain ⟨fa,fd,F,gm⟩:=m.f_is_text_of
 rw [zpw] at F
 have hz:FnG P w K mg base (L2.CX P w) 1 fa fd ["value", "signs"] (SpZ C 2 (runD N6.length zeY)):=zpP hK hG hx m hsy F
 exact ⟨fa,fd,["value", "signs"],[],[],hz,gm,F.kp,F.bindsN (fun _ _ _ _ _ _ us hl=>match us,hl with | [_,_],_=>rfl),.nil,fun _ _ _ => .nil⟩
theorem zpQ {X:Cx} {W:WX} (hK:C.K=K) (hG:C.ga=He.ga K) (hx:∀ b,C.xd b=none) (m:Md w K mg) (hsy:∃ o,base.get? sysModules=some o) (c_is_text_of:CalG P w K mg base C "is_text_of" 1 2 zea []) (B:Bd P w K mg base Jc 1 X) (hp:PassesOwn (model X.prog X.w) X.A X.env X.xe) (tk:Takes X W) (hst:X.stack=X.env :: X.outer) (hfr:X.env.frame=some X.env.locals):PSs X (defBody s10) (TSz C W zeZ):=
 sd (s_ret (za6 (C:=C) B rfl tk c_is_text_of rfl q43 (zae (zaf B q2w) (zae (zfT B q3y m.k_LETTERS fun _ _ => .str _) zao rfl) rfl) rfl rfl))
theorem zpR {fa:Addr} {fd:FuncData} (hK:C.K=K) (hG:C.ga=He.ga K) (hx:∀ b,C.xd b=none) (m:Md w K mg) (hsy:∃ o,base.get? sysModules=some o) (F:FunD K "is_name" "is_name" (defArgs s10) (defBody s10) Sd [] [] fa fd):FnG P w K mg base (L2.CX P w) 2 fa fd ["value"] (SpZ C 1 (runD N7.length zeZ)):=
 zbO (b:=zeZ) F S_is_name rfl (fun cdv A outer s H E hid hr hg=>by
  have c_is_text_of:=zk6 (P:=P) (w:=w) (K:=K) (mg:=mg) (base:=base) (C:=C.with hid) hK hG hx m hsy
  exact zpQ (C:=C.with hid) hK hG hx m hsy c_is_text_of ⟨rfl,rfl,rfl,rfl,rfl,rfl,rfl,rfl,S_is_name.nd,rfl,fun _=>hr,hr.units,hg,fun _=>rfl⟩ (passes_of rfl) (takes_of rfl rfl rfl rfl) rfl rfl)
theorem zk7 (hK:C.K=K) (hG:C.ga=He.ga K) (hx:∀ b,C.xd b=none) (m:Md w K mg) (hsy:∃ o,base.get? sysModules=some o):CalG P w K mg base C "is_name" 2 1 zbr []:=by
 obtain ⟨fa,fd,F,gm⟩:=m.f_is_name
 rw [zpx] at F
 have hz:FnG P w K mg base (L2.CX P w) 2 fa fd ["value"] (SpZ C 1 (runD N7.length zeZ)):=zpR hK hG hx m hsy F
 exact ⟨fa,fd,["value"],[],[],hz,gm,F.kp,F.bindsN (fun _ _ _ _ _ _ us hl=>match us,hl with | [_],_=>rfl),.nil,fun _ _ _ => .nil⟩
theorem zpS {X:Cx} {W:WX} (hK:C.K=K) (hG:C.ga=He.ga K) (hx:∀ b,C.xd b=none) (m:Md w K mg) (hsy:∃ o,base.get? sysModules=some o) (c_is_text_of:CalG P w K mg base C "is_text_of" 1 2 zea []) (B:Bd P w K mg base Jb 1 X) (hp:PassesOwn (model X.prog X.w) X.A X.env X.xe) (tk:Takes X W) (hst:X.stack=X.env :: X.outer) (hfr:X.env.frame=some X.env.locals):PSs X (defBody s18) (TSz C W ze0):=
 sd (s_ret (za6 (C:=C) B rfl tk c_is_text_of rfl q1s (zae (zaf B q3e) (zae (s9 (zaV (B.eK hK) false) (zfT B q20 m.k_LETTERS fun _ _ => .str _) (zfT B q1z m.k_DIGITS fun _ _ => .str _)) zao rfl) rfl) rfl rfl))
theorem zpT {fa:Addr} {fd:FuncData} (hK:C.K=K) (hG:C.ga=He.ga K) (hx:∀ b,C.xd b=none) (m:Md w K mg) (hsy:∃ o,base.get? sysModules=some o) (F:FunD K "is_value" "is_value" (defArgs s18) (defBody s18) Sj [] [] fa fd):FnG P w K mg base (L2.CX P w) 2 fa fd ["value"] (SpZ C 1 (runD N9.length ze0)):=
 zbO (b:=ze0) F S_is_value rfl (fun cdv A outer s H E hid hr hg=>by
  have c_is_text_of:=zk6 (P:=P) (w:=w) (K:=K) (mg:=mg) (base:=base) (C:=C.with hid) hK hG hx m hsy
  exact zpS (C:=C.with hid) hK hG hx m hsy c_is_text_of ⟨rfl,rfl,rfl,rfl,rfl,rfl,rfl,rfl,S_is_value.nd,rfl,fun _=>hr,hr.units,hg,fun _=>rfl⟩ (passes_of rfl) (takes_of rfl rfl rfl rfl) rfl rfl)
theorem zk8 (hK:C.K=K) (hG:C.ga=He.ga K) (hx:∀ b,C.xd b=none) (m:Md w K mg) (hsy:∃ o,base.get? sysModules=some o):CalG P w K mg base C "is_value" 2 1 zbw []:=by
 obtain ⟨fa,fd,F,gm⟩:=m.f_is_value
 rw [zpy] at F
 have hz:FnG P w K mg base (L2.CX P w) 2 fa fd ["value"] (SpZ C 1 (runD N9.length ze0)):=zpT hK hG hx m hsy F
 exact ⟨fa,fd,["value"],[],[],hz,gm,F.kp,F.bindsN (fun _ _ _ _ _ _ us hl=>match us,hl with | [_],_=>rfl),.nil,fun _ _ _ => .nil⟩
theorem zpU {X:Cx} {W:WX} (hK:C.K=K) (hG:C.ga=He.ga K) (hx:∀ b,C.xd b=none) (m:Md w K mg) (hsy:∃ o,base.get? sysModules=some o) (c_is_name:CalG P w K mg base C "is_name" 2 1 zbr []) (c_is_value:CalG P w K mg base C "is_value" 2 1 zbw []) (B:Bd P w K mg base J6 2 X) (hp:PassesOwn (model X.prog X.w) X.A X.env X.xe) (tk:Takes X W) (hst:X.stack=X.env :: X.outer) (hfr:X.env.frame=some X.env.locals):PSs X (defBody s13) (TSz C W ze5):=
 sd (s_ret (s1c (za8 B (zkW (B.eK hK)) q1m m.b_isinstance rfl (zae (zaf B q18) (zae (zc2 B q1l m.b_dict rfl) zao rfl) rfl) rfl rfl) (pe_one (za8 B (zg3 (B.calm rfl)) q3q m.b_all rfl (zae (zeR B rfl hK false (b:=S7) (own := [("name",1)]) q1q (zde (B.eK hK) (zaf B q18)) (fun X1 B1 h1=>have k1:(C.with h1).K=K:=hK; (zbH B1 q2j rfl)) (fun X1 B1 h1=>have k1:(C.with h1).K=K:=hK; zfR) (fun X1 B1 h1=>have k1:(C.with h1).K=K:=hK; (s1c (za6 (C:=C) B1 rfl zhj c_is_name rfl q3c (zae (zaf B1 q1a) zao rfl) rfl rfl) (pe_one (za6 (C:=C) B1 rfl zhj c_is_value rfl q2e (zae (sj (B1.eK k1) B1.u1 (zaf B1 q3d) (zaf B1 q1a) (fun _ _=>rfl)) zao rfl) rfl rfl))))) zao rfl) rfl rfl))))
theorem zpV {fa:Addr} {fd:FuncData} (hK:C.K=K) (hG:C.ga=He.ga K) (hx:∀ b,C.xd b=none) (m:Md w K mg) (hsy:∃ o,base.get? sysModules=some o) (F:FunD K "is_scope" "is_scope" (defArgs s13) (defBody s13) Su [] [] fa fd):FnG P w K mg base (L2.CX P w) 3 fa fd ["value"] (SpZ C 1 (runD N5.length ze5)):=
 zbO (b:=ze5) F S_is_scope rfl (fun cdv A outer s H E hid hr hg=>by
  have c_is_name:=zk7 (P:=P) (w:=w) (K:=K) (mg:=mg) (base:=base) (C:=C.with hid) hK hG hx m hsy
  have c_is_value:=zk8 (P:=P) (w:=w) (K:=K) (mg:=mg) (base:=base) (C:=C.with hid) hK hG hx m hsy
  exact zpU (C:=C.with hid) hK hG hx m hsy c_is_name c_is_value ⟨rfl,rfl,rfl,rfl,rfl,rfl,rfl,rfl,S_is_scope.nd,rfl,fun _=>hr,hr.units,hg,fun _=>rfl⟩ (passes_of rfl) (takes_of rfl rfl rfl rfl) rfl rfl)
theorem zpW (hK:C.K=K) (hG:C.ga=He.ga K) (hx:∀ b,C.xd b=none) (m:Md w K mg) (hsy:∃ o,base.get? sysModules=some o):CalG P w K mg base C "is_scope" 3 1 zeg []:=by
 obtain ⟨fa,fd,F,gm⟩:=m.f_is_scope
 rw [zpz] at F
 have hz:FnG P w K mg base (L2.CX P w) 3 fa fd ["value"] (SpZ C 1 (runD N5.length ze5)):=zpV hK hG hx m hsy F
 exact ⟨fa,fd,["value"],[],[],hz,gm,F.kp,F.bindsN (fun _ _ _ _ _ _ us hl=>match us,hl with | [_],_=>rfl),.nil,fun _ _ _ => .nil⟩
theorem zpX {X:Cx} {W:WX} (hK:C.K=K) (hG:C.ga=He.ga K) (hx:∀ b,C.xd b=none) (m:Md w K mg) (hsy:∃ o,base.get? sysModules=some o) (c_is_scope:CalG P w K mg base C "is_scope" 3 1 zeg []) (B:Bd P w K mg base J9 3 X) (hp:PassesOwn (model X.prog X.w) X.A X.env X.xe) (tk:Takes X W) (hst:X.stack=X.env :: X.outer) (hfr:X.env.frame=some X.env.locals):PSs X (defBody s16) (TSz C W ze6):=
 sd (s_ret (s1c (za8 B (zd0 (B.eK hK)) q2k m.b_isinstance rfl (zae (zaf B qy) (zae (zc2 B q3r m.b_list rfl) zao rfl) rfl) rfl rfl) (pe_one (za8 B (zg3 (B.calm rfl)) q1v m.b_all rfl (zae (zeR B rfl hK false (b:=Sa) (own := [("scope",1)]) q1j (zde (B.eK hK) (zaf B qy)) (fun X1 B1 h1=>have k1:(C.with h1).K=K:=hK; (zbH B1 q3h rfl)) (fun X1 B1 h1=>have k1:(C.with h1).K=K:=hK; zfR) (fun X1 B1 h1=>have k1:(C.with h1).K=K:=hK; (za6 (C:=C) B1 rfl zhj c_is_scope rfl q4g (zae (zaf B1 q3b) zao rfl) rfl rfl))) zao rfl) rfl rfl))))
theorem zpY {fa:Addr} {fd:FuncData} (hK:C.K=K) (hG:C.ga=He.ga K) (hx:∀ b,C.xd b=none) (m:Md w K mg) (hsy:∃ o,base.get? sysModules=some o) (F:FunD K "is_nest" "is_nest" (defArgs s16) (defBody s16) Sq [] [] fa fd):FnG P w K mg base (L2.CX P w) 4 fa fd ["value"] (SpZ C 1 (runD N2.length ze6)):=
 zbO (b:=ze6) F S_is_nest rfl (fun cdv A outer s H E hid hr hg=>by
  have c_is_scope:=zpW (P:=P) (w:=w) (K:=K) (mg:=mg) (base:=base) (C:=C.with hid) hK hG hx m hsy
  exact zpX (C:=C.with hid) hK hG hx m hsy c_is_scope ⟨rfl,rfl,rfl,rfl,rfl,rfl,rfl,rfl,S_is_nest.nd,rfl,fun _=>hr,hr.units,hg,fun _=>rfl⟩ (passes_of rfl) (takes_of rfl rfl rfl rfl) rfl rfl)
theorem zpZ (hK:C.K=K) (hG:C.ga=He.ga K) (hx:∀ b,C.xd b=none) (m:Md w K mg) (hsy:∃ o,base.get? sysModules=some o):CalG P w K mg base C "is_nest" 4 1 zbR []:=by
 obtain ⟨fa,fd,F,gm⟩:=m.f_is_nest
 rw [zpA] at F
 have hz:FnG P w K mg base (L2.CX P w) 4 fa fd ["value"] (SpZ C 1 (runD N2.length ze6)):=zpY hK hG hx m hsy F
 exact ⟨fa,fd,["value"],[],[],hz,gm,F.kp,F.bindsN (fun _ _ _ _ _ _ us hl=>match us,hl with | [_],_=>rfl),.nil,fun _ _ _ => .nil⟩
theorem zp0 {X:Cx} {W:WX} (hK:C.K=K) (hG:C.ga=He.ga K) (hx:∀ b,C.xd b=none) (m:Md w K mg) (hsy:∃ o,base.get? sysModules=some o) (B:Bd P w K mg base Ja 0 X) (hp:PassesOwn (model X.prog X.w) X.A X.env X.xe) (tk:Takes X W) (hst:X.stack=X.env :: X.outer) (hfr:X.env.frame=some X.env.locals):PSs X (defBody sw) (TSz C W zeh):=
 zaR (s_if (PW.pt (zfE (zdW (zd8 (za8 B (zd0 (B.eK hK)) q2l m.b_isinstance rfl (zae (zaf B qj) (zae (zc2 B q4b m.b_str rfl) zao rfl) rfl) rfl rfl) (B.eK hK) (fun _=>rfl))) (pw_or1 (zdW (zoU zjw zfC zfC (s8 pe_int fun _ _ => .int _) (za8 B (zeK (B.eK hK)) q36 m.b_len rfl (zae (zaf B qj) zao rfl) rfl rfl) (s8 pe_int fun _ _ => .int _) rfl))))) (sd (s_ret (s8 pe_bl fun _ _ => .bl _))) s1a) (sd (s_ret (s1f (zjr (B.eK hK) B.u64) (zeR B rfl hK false (b:=S9) (own := [("_law_sign",2)]) q1n (zde (B.eK hK) (zaf B qj)) (fun X1 B1 h1=>have k1:(C.with h1).K=K:=hK; (zbH B1 q25 rfl)) (fun X1 B1 h1=>have k1:(C.with h1).K=K:=hK; (zox (zcW znH (znL (B1.eK k1) B1.u64) (zaf B1 q15) (zaf B1 q33) rfl))) (fun X1 B1 h1=>have k1:(C.with h1).K=K:=hK; (zaf B1 q15))) (se false zao) rfl)))
theorem zp1 {fa:Addr} {fd:FuncData} (hK:C.K=K) (hG:C.ga=He.ga K) (hx:∀ b,C.xd b=none) (m:Md w K mg) (hsy:∃ o,base.get? sysModules=some o) (F:FunD K "_law_is_text" "_law_is_text" (defArgs sw) (defBody sw) Ss [] [] fa fd):FnG P w K mg base (L2.CX P w) 1 fa fd ["_law_value", "_law_signs"] (SpZ C 2 (runD N4.length zeh)):=
 zbO (b:=zeh) F S_law_is_text rfl (fun cdv A outer s H E hid hr hg=>by
  exact zp0 (C:=C.with hid) hK hG hx m hsy ⟨rfl,rfl,rfl,rfl,rfl,rfl,rfl,rfl,S_law_is_text.nd,rfl,fun _=>hr,hr.units,hg,fun _=>rfl⟩ (passes_of rfl) (takes_of rfl rfl rfl rfl) rfl rfl)
theorem zk9 (hK:C.K=K) (hG:C.ga=He.ga K) (hx:∀ b,C.xd b=none) (m:Md w K mg) (hsy:∃ o,base.get? sysModules=some o):CalG P w K mg base C "_law_is_text" 1 2 zei []:=by
 obtain ⟨fa,fd,F,gm⟩:=m.f_law_is_text
 rw [zpB] at F
 have hz:FnG P w K mg base (L2.CX P w) 1 fa fd ["_law_value", "_law_signs"] (SpZ C 2 (runD N4.length zeh)):=zp1 hK hG hx m hsy F
 exact ⟨fa,fd,["_law_value", "_law_signs"],[],[],hz,gm,F.kp,F.bindsN (fun _ _ _ _ _ _ us hl=>match us,hl with | [_,_],_=>rfl),.nil,fun _ _ _ => .nil⟩
theorem zp2 {X:Cx} {W:WX} (hK:C.K=K) (hG:C.ga=He.ga K) (hx:∀ b,C.xd b=none) (m:Md w K mg) (hsy:∃ o,base.get? sysModules=some o) (c_law_is_text:CalG P w K mg base C "_law_is_text" 1 2 zei []) (B:Bd P w K mg base Je 1 X) (hp:PassesOwn (model X.prog X.w) X.A X.env X.xe) (tk:Takes X W) (hst:X.stack=X.env :: X.outer) (hfr:X.env.frame=some X.env.locals):PSs X (defBody sy) (TSz C W ze7):=
 sd (s_ret (za6 (C:=C) B rfl tk c_law_is_text rfl q21 (zae (zaf B q2f) (zae (s8 pe_str fun _ _ => .str _) zao rfl) rfl) rfl rfl))
theorem zp3 {fa:Addr} {fd:FuncData} (hK:C.K=K) (hG:C.ga=He.ga K) (hx:∀ b,C.xd b=none) (m:Md w K mg) (hsy:∃ o,base.get? sysModules=some o) (F:FunD K "_law_is_name" "_law_is_name" (defArgs sy) (defBody sy) Sn [] [] fa fd):FnG P w K mg base (L2.CX P w) 2 fa fd ["_law_value"] (SpZ C 1 (runD Na.length ze7)):=
 zbO (b:=ze7) F S_law_is_name rfl (fun cdv A outer s H E hid hr hg=>by
  have c_law_is_text:=zk9 (P:=P) (w:=w) (K:=K) (mg:=mg) (base:=base) (C:=C.with hid) hK hG hx m hsy
  exact zp2 (C:=C.with hid) hK hG hx m hsy c_law_is_text ⟨rfl,rfl,rfl,rfl,rfl,rfl,rfl,rfl,S_law_is_name.nd,rfl,fun _=>hr,hr.units,hg,fun _=>rfl⟩ (passes_of rfl) (takes_of rfl rfl rfl rfl) rfl rfl)
theorem zla (hK:C.K=K) (hG:C.ga=He.ga K) (hx:∀ b,C.xd b=none) (m:Md w K mg) (hsy:∃ o,base.get? sysModules=some o):CalG P w K mg base C "_law_is_name" 2 1 zb2 []:=by
 obtain ⟨fa,fd,F,gm⟩:=m.f_law_is_name
 rw [zpC] at F
 have hz:FnG P w K mg base (L2.CX P w) 2 fa fd ["_law_value"] (SpZ C 1 (runD Na.length ze7)):=zp3 hK hG hx m hsy F
 exact ⟨fa,fd,["_law_value"],[],[],hz,gm,F.kp,F.bindsN (fun _ _ _ _ _ _ us hl=>match us,hl with | [_],_=>rfl),.nil,fun _ _ _ => .nil⟩
theorem zp4 {X:Cx} {W:WX} (hK:C.K=K) (hG:C.ga=He.ga K) (hx:∀ b,C.xd b=none) (m:Md w K mg) (hsy:∃ o,base.get? sysModules=some o) (c_law_is_text:CalG P w K mg base C "_law_is_text" 1 2 zei []) (B:Bd P w K mg base Jd 1 X) (hp:PassesOwn (model X.prog X.w) X.A X.env X.xe) (tk:Takes X W) (hst:X.stack=X.env :: X.outer) (hfr:X.env.frame=some X.env.locals):PSs X (defBody s11) (TSz C W ze8):=
 sd (s_ret (za6 (C:=C) B rfl tk c_law_is_text rfl q30 (zae (zaf B q3g) (zae (s8 pe_str fun _ _ => .str _) zao rfl) rfl) rfl rfl))
theorem zp5 {fa:Addr} {fd:FuncData} (hK:C.K=K) (hG:C.ga=He.ga K) (hx:∀ b,C.xd b=none) (m:Md w K mg) (hsy:∃ o,base.get? sysModules=some o) (F:FunD K "_law_is_value" "_law_is_value" (defArgs s11) (defBody s11) Sl [] [] fa fd):FnG P w K mg base (L2.CX P w) 2 fa fd ["_law_value"] (SpZ C 1 (runD Nb.length ze8)):=
 zbO (b:=ze8) F S_law_is_value rfl (fun cdv A outer s H E hid hr hg=>by
  have c_law_is_text:=zk9 (P:=P) (w:=w) (K:=K) (mg:=mg) (base:=base) (C:=C.with hid) hK hG hx m hsy
  exact zp4 (C:=C.with hid) hK hG hx m hsy c_law_is_text ⟨rfl,rfl,rfl,rfl,rfl,rfl,rfl,rfl,S_law_is_value.nd,rfl,fun _=>hr,hr.units,hg,fun _=>rfl⟩ (passes_of rfl) (takes_of rfl rfl rfl rfl) rfl rfl)
theorem zlb (hK:C.K=K) (hG:C.ga=He.ga K) (hx:∀ b,C.xd b=none) (m:Md w K mg) (hsy:∃ o,base.get? sysModules=some o):CalG P w K mg base C "_law_is_value" 2 1 zcc []:=by
 obtain ⟨fa,fd,F,gm⟩:=m.f_law_is_value
 rw [zpD] at F
 have hz:FnG P w K mg base (L2.CX P w) 2 fa fd ["_law_value"] (SpZ C 1 (runD Nb.length ze8)):=zp5 hK hG hx m hsy F
 exact ⟨fa,fd,["_law_value"],[],[],hz,gm,F.kp,F.bindsN (fun _ _ _ _ _ _ us hl=>match us,hl with | [_],_=>rfl),.nil,fun _ _ _ => .nil⟩
theorem zp6 {X:Cx} {W:WX} (hK:C.K=K) (hG:C.ga=He.ga K) (hx:∀ b,C.xd b=none) (m:Md w K mg) (hsy:∃ o,base.get? sysModules=some o) (c_law_is_name:CalG P w K mg base C "_law_is_name" 2 1 zb2 []) (c_law_is_value:CalG P w K mg base C "_law_is_value" 2 1 zcc []) (B:Bd P w K mg base J8 2 X) (hp:PassesOwn (model X.prog X.w) X.A X.env X.xe) (tk:Takes X W) (hst:X.stack=X.env :: X.outer) (hfr:X.env.frame=some X.env.locals):PSs X (defBody s19) (TSz C W zej):=
 zaR (s_if (zdW (zd8 (za8 B (zd0 (B.eK hK)) q19 m.b_isinstance rfl (zae (zaf B q17) (zae (zc2 B q2b m.b_list rfl) zao rfl) rfl) rfl rfl) (B.eK hK) (fun _=>rfl))) (sd (s_ret (s8 pe_bl fun _ _ => .bl _))) s1a) (zaR (zdf (ws := [1]) B rfl [1,2] hp (zde (B.eK hK) (zaf B q17)) (zbH B q49 rfl) (zaR (s_if (zdW (zd8 (za8 B (zkW (B.eK hK)) q19 m.b_isinstance rfl (zae (zaf B qp) (zae (zc2 B q3n m.b_dict rfl) zao rfl) rfl) rfl rfl) (B.eK hK) (fun _=>rfl))) (sd (s_ret (s8 pe_bl fun _ _ => .bl _))) s1a) (sd (zdf (ws := [2]) B rfl [2] hp (zde (B.eK hK) (zaf B qp)) (zbH B q3f rfl) (sd (s_if (PW.pt (zfE (zdW (zd8 (za6 (C:=C) B rfl tk c_law_is_name rfl q1w (zae (zaf B qv) zao rfl) rfl rfl) (B.eK hK) (fun _=>rfl))) (pw_or1 (zdW (zd8 (za6 (C:=C) B rfl tk c_law_is_value rfl q3s (zae (sj (B.eK hK) B.u1 (zaf B qp) (zaf B qv) (fun _ _=>rfl)) zao rfl) rfl rfl) (B.eK hK) (fun _=>rfl)))))) (sd (s_ret (s8 pe_bl fun _ _ => .bl _))) s1a)))))) (sd (s_ret (s8 pe_bl fun _ _ => .bl _))))
theorem zp7 {fa:Addr} {fd:FuncData} (hK:C.K=K) (hG:C.ga=He.ga K) (hx:∀ b,C.xd b=none) (m:Md w K mg) (hsy:∃ o,base.get? sysModules=some o) (F:FunD K "_law_is_nest" "_law_is_nest" (defArgs s19) (defBody s19) Sk [] [] fa fd):FnG P w K mg base (L2.CX P w) 3 fa fd ["_law_value"] (SpZ C 1 (runD N1.length zej)):=
 zbO (b:=zej) F S_law_is_nest rfl (fun cdv A outer s H E hid hr hg=>by
  have c_law_is_name:=zla (P:=P) (w:=w) (K:=K) (mg:=mg) (base:=base) (C:=C.with hid) hK hG hx m hsy
  have c_law_is_value:=zlb (P:=P) (w:=w) (K:=K) (mg:=mg) (base:=base) (C:=C.with hid) hK hG hx m hsy
  exact zp6 (C:=C.with hid) hK hG hx m hsy c_law_is_name c_law_is_value ⟨rfl,rfl,rfl,rfl,rfl,rfl,rfl,rfl,S_law_is_nest.nd,rfl,fun _=>hr,hr.units,hg,fun _=>rfl⟩ (passes_of rfl) (takes_of rfl rfl rfl rfl) rfl rfl)
theorem zp8 (hK:C.K=K) (hG:C.ga=He.ga K) (hx:∀ b,C.xd b=none) (m:Md w K mg) (hsy:∃ o,base.get? sysModules=some o):CalG P w K mg base C "_law_is_nest" 3 1 zcd []:=by
 obtain ⟨fa,fd,F,gm⟩:=m.f_law_is_nest
 rw [zpE] at F
 have hz:FnG P w K mg base (L2.CX P w) 3 fa fd ["_law_value"] (SpZ C 1 (runD N1.length zej)):=zp7 hK hG hx m hsy F
 exact ⟨fa,fd,["_law_value"],[],[],hz,gm,F.kp,F.bindsN (fun _ _ _ _ _ _ us hl=>match us,hl with | [_],_=>rfl),.nil,fun _ _ _ => .nil⟩
theorem zp9 {X:Cx} {W:WX} (hK:C.K=K) (hG:C.ga=He.ga K) (hx:∀ b,C.xd b=none) (m:Md w K mg) (hsy:∃ o,base.get? sysModules=some o) (B:Bd P w K mg base J2 0 X) (hp:PassesOwn (model X.prog X.w) X.A X.env X.xe) (tk:Takes X W) (hst:X.stack=X.env :: X.outer) (hfr:X.env.frame=some X.env.locals):PSs X (defBody sv) (TSz C W zed):=
 zaR (zbl B q3w (se true zao) rfl) (zaR (zdf (ws := [3]) B rfl [3,4,5,6,7] hp (zhf (B.gl q2q) (B.nx m.b_range) (zae (s9 zbE (sj (B.eK hK) B.u1 (zaf B q11) (s8 pe_int fun _ _ => .int _) (fun _ _=>rfl)) (s9 (zaV (B.eK hK) false) (zaf B q4a) (s8 pe_int fun _ _ => .int _))) zao rfl) rfl) (zbH B q2g rfl) (zaR (zbl B q3k (s1d true) rfl) (zaR (zdf (ws := [5,6]) B rfl [5,6,7] hp (zj0 (B.eK hK) (B.gl q2x) (B.nx m.b_enumerate) (zae (se false (zae (s8 pe_str fun _ _ => .str _) (zae (s8 pe_str fun _ _ => .str _) (zae (s8 pe_str fun _ _ => .str _) zao rfl) rfl) rfl)) zao rfl) rfl) (zj6 (B.eK hK) (B.calm rfl) (zfO (zbH B q2t rfl) (zfO (zbH B q2y rfl) zj5 rfl) rfl) rfl (zfP (zfP zj7))) (zaR (zbl B q1k (sj (B.eK hK) B.u1 (se false (zae (s8 pe_non fun _ _ => .non) (zae (s8 pe_non fun _ _ => .non) (zae (s8 pe_str fun _ _ => .str _) (zae (s8 pe_str fun _ _ => .str _) (zae (s8 pe_str fun _ _ => .str _) zao rfl) rfl) rfl) rfl) rfl)) (s9 zbE (sj (B.eK hK) B.u1 (zaf B q11) (s9 (zaV (B.eK hK) false) (s9 (zaV (B.eK hK) false) (s8 pe_int fun _ _ => .int _) (s9 (zdw false) (s8 pe_int fun _ _ => .int _) (zaf B q45))) (zaf B q38)) (fun _ _=>rfl)) (s8 pe_int fun _ _ => .int _)) (fun _ _=>rfl)) rfl) (sd (s_if (zcW zjx zju (zaf B q13) (s8 pe_non fun _ _ => .non) rfl) (sd (zob B.u1 (zaf B qw) (zaf B q2u) (zaf B q13) rfl)) s1a)))) (zoI 4 (sd (s1e (zfL PySem.F.plainAttrs_list PySem.F.slot_list_append PySem.F.type_list_append zg8 (zaf B q1f) (zae (zaf B qw) zao rfl)) rfl)))))) (sd (s_ret (zjV (zaf B q1f)))))
theorem zqa {fa:Addr} {fd:FuncData} (hK:C.K=K) (hG:C.ga=He.ga K) (hx:∀ b,C.xd b=none) (m:Md w K mg) (hsy:∃ o,base.get? sysModules=some o) (F:FunD K "_law_nest" "_law_nest" (defArgs sv) (defBody sv) So [] [] fa fd):FnG P w K mg base (L2.CX P w) 1 fa fd ["_law_digits", "_law_deep"] (SpZ C 2 (runD Nc.length zed)):=
 zbO (b:=zed) F S_law_nest rfl (fun cdv A outer s H E hid hr hg=>by
  exact zp9 (C:=C.with hid) hK hG hx m hsy ⟨rfl,rfl,rfl,rfl,rfl,rfl,rfl,rfl,S_law_nest.nd,rfl,fun _=>hr,hr.units,hg,fun _=>rfl⟩ (passes_of rfl) (takes_of rfl rfl rfl rfl) rfl rfl)
theorem zqb (hK:C.K=K) (hG:C.ga=He.ga K) (hx:∀ b,C.xd b=none) (m:Md w K mg) (hsy:∃ o,base.get? sysModules=some o):CalG P w K mg base C "_law_nest" 1 2 ze1 []:=by
 obtain ⟨fa,fd,F,gm⟩:=m.f_law_nest
 rw [zpF] at F
 have hz:FnG P w K mg base (L2.CX P w) 1 fa fd ["_law_digits", "_law_deep"] (SpZ C 2 (runD Nc.length zed)):=zqa hK hG hx m hsy F
 exact ⟨fa,fd,["_law_digits", "_law_deep"],[],[],hz,gm,F.kp,F.bindsN (fun _ _ _ _ _ _ us hl=>match us,hl with | [_,_],_=>rfl),.nil,fun _ _ _ => .nil⟩
theorem zqc {X:Cx} {W:WX} (hK:C.K=K) (hG:C.ga=He.ga K) (hx:∀ b,C.xd b=none) (m:Md w K mg) (hsy:∃ o,base.get? sysModules=some o) (B:Bd P w K mg base J3 0 X) (hp:PassesOwn (model X.prog X.w) X.A X.env X.xe) (tk:Takes X W) (hst:X.stack=X.env :: X.outer) (hfr:X.env.frame=some X.env.locals):PSs X (defBody s14) (TSz C W zek):=
 zaR (zbl B q4e (sj (B.eK hK) B.u1 (se false (zae (s8 pe_non fun _ _ => .non) (zae (s8 pe_bl fun _ _ => .bl _) (zae (s8 pe_int fun _ _ => .int _) (zae (s8 pe_str fun _ _ => .str _) (zae (s8 pe_str fun _ _ => .str _) (zae (s8 pe_str fun _ _ => .str _) (zae (s1b (zae (s8 pe_str fun _ _ => .str _) zao rfl)) (zae (se false zao) (zae (s1d false) (zae (s8 pe_str fun _ _ => .str _) (zae (s8 pe_str fun _ _ => .str _) (zae (s8 pe_str fun _ _ => .str _) zao rfl) rfl) rfl) rfl) rfl) rfl) rfl) rfl) rfl) rfl) rfl) rfl)) (s9 zbE (sj (B.eK hK) B.u1 (zaf B q1c) (s8 pe_int fun _ _ => .int _) (fun _ _=>rfl)) (s8 pe_int fun _ _ => .int _)) (fun _ _=>rfl)) rfl) (zaR (zbl B q2r (s9 zbE (sj (B.eK hK) B.u1 (zaf B q1c) (s8 pe_int fun _ _ => .int _) (fun _ _=>rfl)) (s9 (zaV (B.eK hK) false) (za8 B (zeK (B.eK hK)) q23 m.b_len rfl (zae (zaf B q8) zao rfl) rfl rfl) (s8 pe_int fun _ _ => .int _))) rfl) (zaR (zbl B q1p (s1n (PW.pt (zfE (zd8 (za8 B (zd0 (B.eK hK)) q3z m.b_isinstance rfl (zae (zaf B qa) (zae (s1b (zae (zc2 B q3a m.b_str rfl) (zae (zc2 B q40 m.b_int rfl) (zae (zc2 B qx m.b_tuple rfl) zao rfl) rfl) rfl)) zao rfl) rfl) rfl rfl) (B.eK hK) (fun _=>rfl)) (pw_or1 (zcW znA znr (zaf B qa) (s8 pe_non fun _ _ => .non) rfl)))) (zaf B qa) (s8 pe_str fun _ _ => .str _)) rfl) (zaR (zbl B q22 (se false (zae (s9 (zaV (B.eK hK) false) (s9 (zaV (B.eK hK) false) (so (B.eK hK) false (zaf B q8) zcx (zcy (zaf B qe))) (se false (zae (zaf B qa) zao rfl))) (so (B.eK hK) false (zaf B q8) (zcy (zaf B qe)) zcx)) (zae (s9 (zaV (B.eK hK) false) (s9 (zaV (B.eK hK) false) (so (B.eK hK) false (zaf B q8) zcx (zcy (zaf B qe))) (se false (zae (s1g false (zkd (fun h1=>have kh1:(C.with h1).K=K:=hK; (s8 pe_str fun _ _ => .str _)) (fun h1=>have kh1:(C.with h1).K=K:=hK; (zaf B qa)) zkc) rfl rfl (by simp) (by decide)) zao rfl))) (so (B.eK hK) false (zaf B q8) (zcy (zaf B qe)) zcx)) (zae (zhm B (znT (B.eK hK)) qx m.b_tuple rfl (zae (zaf B q8) zao rfl) rfl rfl) (zae (s9 (zaV (B.eK hK) false) (zaf B q8) (se false (zae (s1k (C:=C) (B.eK hK) B.u64 (fun h2=>have kh2:(C.with h2).K=K:=hK; (zaf B q4d)) (fun h3=>have kh3:(C.with h3).K=K:=hK; (s8 pe_str fun _ _ => .str _))) zao rfl))) zao rfl) rfl) rfl) rfl)) rfl) (sd (s_ret (s9 (zaV (B.eK hK) false) (zaf B q42) (se false (zae (s1g false (zkd (fun h4=>have kh4:(C.with h4).K=K:=hK; (s8 pe_str fun _ _ => .str _)) (fun h4=>have kh4:(C.with h4).K=K:=hK; (s8 pe_str fun _ _ => .str _)) zkc) rfl rfl (by simp) (by decide)) (zae (s9 (zaV (B.eK hK) false) (zaf B q8) (se false (zae (zaf B q8) zao rfl))) (zae (zaf B qa) (zae (s9 (zaV (B.eK hK) false) (zaf B q8) (se false (zae (zhm B (znU false (B.eK hK) (B.calm rfl)) q3u m.b_dict rfl (zae (se false (zae (s1b (zae (s8 pe_str fun _ _ => .str _) (zae (s8 pe_str fun _ _ => .str _) zao rfl) rfl)) (zae (s1b (zae (s8 pe_str fun _ _ => .str _) (zae (zaf B qa) zao rfl) rfl)) zao rfl) rfl)) zao rfl) rfl rfl) zao rfl))) (zae (s9 (zaV (B.eK hK) false) (zaf B q8) (se false (zae (s1b (zae (s8 pe_str fun _ _ => .str _) (zae (s8 pe_str fun _ _ => .str _) zao rfl) rfl)) zao rfl))) zao rfl) rfl) rfl) rfl) rfl))))))))
theorem zqd {fa:Addr} {fd:FuncData} (hK:C.K=K) (hG:C.ga=He.ga K) (hx:∀ b,C.xd b=none) (m:Md w K mg) (hsy:∃ o,base.get? sysModules=some o) (F:FunD K "_law_altered" "_law_altered" (defArgs s14) (defBody s14) Si [] [] fa fd):FnG P w K mg base (L2.CX P w) 1 fa fd ["_law_digits", "_law_nest_here"] (SpZ C 2 (runD N8.length zek)):=
 zbO (b:=zek) F S_law_altered rfl (fun cdv A outer s H E hid hr hg=>by
  exact zqc (C:=C.with hid) hK hG hx m hsy ⟨rfl,rfl,rfl,rfl,rfl,rfl,rfl,rfl,S_law_altered.nd,rfl,fun _=>hr,hr.units,hg,fun _=>rfl⟩ (passes_of rfl) (takes_of rfl rfl rfl rfl) rfl rfl)
theorem zqe (hK:C.K=K) (hG:C.ga=He.ga K) (hx:∀ b,C.xd b=none) (m:Md w K mg) (hsy:∃ o,base.get? sysModules=some o):CalG P w K mg base C "_law_altered" 1 2 zcp []:=by
 obtain ⟨fa,fd,F,gm⟩:=m.f_law_altered
 rw [zpG] at F
 have hz:FnG P w K mg base (L2.CX P w) 1 fa fd ["_law_digits", "_law_nest_here"] (SpZ C 2 (runD N8.length zek)):=zqd hK hG hx m hsy F
 exact ⟨fa,fd,["_law_digits", "_law_nest_here"],[],[],hz,gm,F.kp,F.bindsN (fun _ _ _ _ _ _ us hl=>match us,hl with | [_,_],_=>rfl),.nil,fun _ _ _ => .nil⟩
theorem zqf {X:Cx} {W:WX} (hK:C.K=K) (hG:C.ga=He.ga K) (hx:∀ b,C.xd b=none) (m:Md w K mg) (hsy:∃ o,base.get? sysModules=some o) (c_law_numbers:CalG P w K mg base C "_law_numbers" 1 3 zec []) (c_law_texts:CalG P w K mg base C "_law_texts" 1 1 zdG []) (c_is_name:CalG P w K mg base C "is_name" 2 1 zbr []) (c_is_value:CalG P w K mg base C "is_value" 2 1 zbw []) (c_is_nest:CalG P w K mg base C "is_nest" 4 1 zbR []) (c_law_is_name:CalG P w K mg base C "_law_is_name" 2 1 zb2 []) (c_law_is_value:CalG P w K mg base C "_law_is_value" 2 1 zcc []) (c_law_is_nest:CalG P w K mg base C "_law_is_nest" 3 1 zcd []) (c_law_nest:CalG P w K mg base C "_law_nest" 1 2 ze1 []) (c_law_altered:CalG P w K mg base C "_law_altered" 1 2 zcp []) (B:Bd P w K mg base J0 4 X) (hp:PassesOwn (model X.prog X.w) X.A X.env X.xe) (tk:Takes X W) (hst:X.stack=X.env :: X.outer) (hfr:X.env.frame=some X.env.locals):PSs X (defBody s15) (TSz C W ze9):=
 zaR (zdf (ws := [1,2]) B rfl [1,2,3,4,5,6,7] hp (zj0 (B.eK hK) (B.gl q1r) (B.nx m.b_enumerate) (zae (s9 (zaV (B.eK hK) false) (so (B.eK hK) false (zaf B q14) zcx (zcy (s8 pe_int fun _ _ => .int _))) (s9 (zdw false) (se false (zae (s8 pe_int fun _ _ => .int _) zao rfl)) (zhm B znN q48 m.b_int rfl (zae (s1f (zjr (B.eK hK) B.u64) (zaf B q14) (se false zao) rfl) zao rfl) rfl rfl))) zao rfl) rfl) (zj6 (B.eK hK) (B.calm rfl) (zfO (zbH B q2s rfl) (zfO (zbH B q1x rfl) zj5 rfl) rfl) rfl (zfP (zfP zj7))) (zaR (sk [0,3,4,5,6,7] (zbl B q2i (za6 (C:=C) B rfl tk c_law_numbers rfl q41 (zae (zaf B q2c) (zae (s9 (zaV (B.eK hK) false) (s8 pe_int fun _ _ => .int _) (zaf B q44)) (zae (s9 (zdw false) (se false (zae (s8 pe_int fun _ _ => .int _) zao rfl)) (s8 pe_int fun _ _ => .int _)) zao rfl) rfl) rfl) rfl rfl) rfl)) (zaR (sk [0,1,2,4,5,6,7] (zdf (ws := [4]) B rfl [4,5] hp (zde (B.eK hK) (s9 (zaV (B.eK hK) false) (za6 (C:=C) B rfl tk c_law_texts rfl q34 (zae (zaf B qf) zao rfl) rfl rfl) (se false (zae (s8 pe_non fun _ _ => .non) (zae (s8 pe_bl fun _ _ => .bl _) (zae (s8 pe_int fun _ _ => .int _) (zae (s1b (zae (s8 pe_str fun _ _ => .str _) zao rfl)) (zae (se false (zae (s8 pe_str fun _ _ => .str _) zao rfl)) (zae (s1d false) (zae (s9 zkU (s8 pe_str fun _ _ => .str _) (s8 pe_int fun _ _ => .int _)) (zae (s9 zkU (s8 pe_str fun _ _ => .str _) (s8 pe_int fun _ _ => .int _)) (zae (s8 pe_str fun _ _ => .str _) (zae (s8 pe_str fun _ _ => .str _) zao rfl) rfl) rfl) rfl) rfl) rfl) rfl) rfl) rfl) rfl)))) (zbH B q10 rfl) (zaR (sk [0,1,2,5,6,7] (zbl B q29 (se false (zae (za6 (C:=C) B rfl tk c_is_name rfl q2d (zae (zaf B q9) zao rfl) rfl rfl) (zae (za6 (C:=C) B rfl tk c_is_value rfl q1u (zae (zaf B q9) zao rfl) rfl rfl) (zae (za6 (C:=C) B rfl tk c_is_nest rfl qk (zae (zaf B q9) zao rfl) rfl rfl) zao rfl) rfl) rfl)) rfl)) (sd (sk [0,1,2,6,7] (s_if (zcW zgZ (zgV (B.eK hK) B.u64) (za8 B (zd3 (B.eK hK) (B.sys hsy) B.gu B.u64) qb m.b_repr rfl (zae (zaf B q2n) zao rfl) rfl rfl) (za8 B (zd3 (B.eK hK) (B.sys hsy) B.gu B.u64) qb m.b_repr rfl (zae (se false (zae (za6 (C:=C) B rfl tk c_law_is_name rfl q3t (zae (zaf B q9) zao rfl) rfl rfl) (zae (za6 (C:=C) B rfl tk c_law_is_value rfl q3l (zae (zaf B q9) zao rfl) rfl rfl) (zae (za6 (C:=C) B rfl tk c_law_is_nest rfl q1b (zae (zaf B q9) zao rfl) rfl rfl) zao rfl) rfl) rfl)) zao rfl) rfl rfl) rfl) (sd (sk [0,1,2,3,4,5,6,7] (s_ret (s8 pe_bl fun _ _ => .bl _)))) s1a)))))) (zaR (sk [0,1,2,4,5,6,7] (zbl B q28 (za6 (C:=C) B rfl tk c_law_nest rfl q3m (zae (so (B.eK hK) false (zaf B qf) (zcy (s8 pe_int fun _ _ => .int _)) zcx) (zae (s8 pe_int fun _ _ => .int _) zao rfl) rfl) rfl rfl) rfl)) (zaR (sk [0,1,2,4,5,7] (zdf (ws := [4]) B rfl [4,7] hp (zde (B.eK hK) (s9 (zaV (B.eK hK) false) (s9 (zaV (B.eK hK) false) (se false (zae (zaf B qh) (zae (se false zao) (zae (se false (zae (s1d false) zao rfl)) zao rfl) rfl) rfl)) (za6 (C:=C) B rfl tk c_law_altered rfl q1h (zae (so (B.eK hK) false (zaf B qf) (zcy (s8 pe_int fun _ _ => .int _)) zcx) (zae (zaf B qh) zao rfl) rfl) rfl rfl)) (za6 (C:=C) B rfl tk c_law_altered rfl q1h (zae (so (B.eK hK) false (zaf B qf) (zcy (s8 pe_int fun _ _ => .int _)) zcx) (zae (zaf B qh) zao rfl) rfl) rfl rfl))) (zbH B q10 rfl) (zaR (sk [0,1,2,3,5,7] (zbl B q2m (za8 B (zd3 (B.eK hK) (B.sys hsy) B.gu B.u64) qb m.b_repr rfl (zae (zaf B q9) zao rfl) rfl rfl) rfl)) (sd (sk [0,1,2,3,5] (s_if (PW.pt (zfE (zcW zgZ (zgV (B.eK hK) B.u64) (za8 B (zd3 (B.eK hK) (B.sys hsy) B.gu B.u64) qb m.b_repr rfl (zae (za6 (C:=C) B rfl tk c_is_nest rfl qk (zae (zaf B q9) zao rfl) rfl rfl) zao rfl) rfl rfl) (za8 B (zd3 (B.eK hK) (B.sys hsy) B.gu B.u64) qb m.b_repr rfl (zae (za6 (C:=C) B rfl tk c_law_is_nest rfl q1b (zae (zaf B q9) zao rfl) rfl rfl) zao rfl) rfl rfl) rfl) (pw_or1 (zcW zgZ (zgV (B.eK hK) B.u64) (za8 B (zd3 (B.eK hK) (B.sys hsy) B.gu B.u64) qb m.b_repr rfl (zae (zaf B q9) zao rfl) rfl rfl) (zaf B q1o) rfl)))) (sd (sk [0,1,2,3,4,5,6,7] (s_ret (s8 pe_bl fun _ _ => .bl _)))) s1a)))))) (sd (sk [0,1,2,3,4,5,7] (s_if (zcW zjx zju (za6 (C:=C) B rfl tk c_is_nest rfl qk (zae (zaf B qh) zao rfl) rfl rfl) (s8 pe_bl fun _ _ => .bl _) rfl) (sd (sk [0,1,2,3,4,5,6,7] (s_ret (s8 pe_bl fun _ _ => .bl _)))) s1a)))))))) (sd (s_ret (s8 pe_bl fun _ _ => .bl _)))
theorem zqg {fa:Addr} {fd:FuncData} (hK:C.K=K) (hG:C.ga=He.ga K) (hx:∀ b,C.xd b=none) (m:Md w K mg) (hsy:∃ o,base.get? sysModules=some o) (F:FunD K "law" "law" (defArgs s15) (defBody s15) Sh [] [] fa fd):FnG P w K mg base (L2.CX P w) 5 fa fd ["_law_script"] (SpZ C 1 (runD Nd.length ze9)):=
 zbO (b:=ze9) F S_law rfl (fun cdv A outer s H E hid hr hg=>by
  have c_law_numbers:=zpK (P:=P) (w:=w) (K:=K) (mg:=mg) (base:=base) (C:=C.with hid) hK hG hx m hsy
  have c_law_texts:=zpN (P:=P) (w:=w) (K:=K) (mg:=mg) (base:=base) (C:=C.with hid) hK hG hx m hsy
  have c_is_name:=zk7 (P:=P) (w:=w) (K:=K) (mg:=mg) (base:=base) (C:=C.with hid) hK hG hx m hsy
  have c_is_value:=zk8 (P:=P) (w:=w) (K:=K) (mg:=mg) (base:=base) (C:=C.with hid) hK hG hx m hsy
  have c_is_nest:=zpZ (P:=P) (w:=w) (K:=K) (mg:=mg) (base:=base) (C:=C.with hid) hK hG hx m hsy
  have c_law_is_name:=zla (P:=P) (w:=w) (K:=K) (mg:=mg) (base:=base) (C:=C.with hid) hK hG hx m hsy
  have c_law_is_value:=zlb (P:=P) (w:=w) (K:=K) (mg:=mg) (base:=base) (C:=C.with hid) hK hG hx m hsy
  have c_law_is_nest:=zp8 (P:=P) (w:=w) (K:=K) (mg:=mg) (base:=base) (C:=C.with hid) hK hG hx m hsy
  have c_law_nest:=zqb (P:=P) (w:=w) (K:=K) (mg:=mg) (base:=base) (C:=C.with hid) hK hG hx m hsy
  have c_law_altered:=zqe (P:=P) (w:=w) (K:=K) (mg:=mg) (base:=base) (C:=C.with hid) hK hG hx m hsy
  exact zqf (C:=C.with hid) hK hG hx m hsy c_law_numbers c_law_texts c_is_name c_is_value c_is_nest c_law_is_name c_law_is_value c_law_is_nest c_law_nest c_law_altered ⟨rfl,rfl,rfl,rfl,rfl,rfl,rfl,rfl,S_law.nd,rfl,fun _=>hr,hr.units,hg,fun _=>rfl⟩ (passes_of rfl) (takes_of rfl rfl rfl rfl) rfl rfl)
end
end G
end
section
set_option maxHeartbeats 0
namespace G
open PySem PySem.Spec PyProof.Rows L2 Z PySem.SeqAt
def fx:List He5.DefA := []
theorem ob_eq (s:PySem.W.SharedT):ob s=hk.obs s.abs:=zoB (HandSHeadRun.getT_eq s)
theorem run (w:World):HandSHeadRun.RunEq R (PySem.W.view R.prog [20]) hk ob 6000 names w:=
 PySem.W.byRow2 "special-get-raises" (P:=fun w=>HandSHeadRun.RunEq R (PySem.W.view R.prog [20]) hk ob 6000 names w) zm9 zna w
theorem md_of {w:World} {K:PySem.W.Frag} {h:Heap} {mg:Str→Option Value} (M:ModK fa fn tabs xs w K) (X:K.In h) (G:h.Ns mainGlobals mg):Md w K mg:=
 have c:=M.says.d
 ⟨(let ⟨t,e⟩:=He.str_ok X G (c.fact 0 rfl); ⟨_,e,t,rfl⟩),(let ⟨t,e⟩:=He.str_ok X G (c.fact 1 rfl); ⟨_,e,t,rfl⟩),(let ⟨t,e⟩:=He.int_ok X G (c.fact 2 rfl); ⟨_,e,t,rfl⟩),He.free_ok X G (c.fact 3 rfl),He.free_ok X G (c.fact 4 rfl),He.free_ok X G (c.fact 5 rfl),He.free_ok X G (c.fact 6 rfl),He.free_ok X G (c.fact 7 rfl),He.free_ok X G (c.fact 8 rfl),He.free_ok X G (c.fact 9 rfl),He.free_ok X G (c.fact 10 rfl),He.free_ok X G (c.fact 11 rfl),He.free_ok X G (c.fact 12 rfl),He.free_ok X G (c.fact 13 rfl),He.free_ok X G (c.fact 14 rfl),(let ⟨fd,F⟩:=c.def_ 0 rfl; ⟨_,fd,F,He.glo_ok X G (c.fact 15 rfl)⟩),(let ⟨fd,F⟩:=c.def_ 1 rfl; ⟨_,fd,F,He.glo_ok X G (c.fact 16 rfl)⟩),(let ⟨fd,F⟩:=c.def_ 2 rfl; ⟨_,fd,F,He.glo_ok X G (c.fact 17 rfl)⟩),(let ⟨fd,F⟩:=c.def_ 3 rfl; ⟨_,fd,F,He.glo_ok X G (c.fact 18 rfl)⟩),(let ⟨fd,F⟩:=c.def_ 4 rfl; ⟨_,fd,F,He.glo_ok X G (c.fact 19 rfl)⟩),(let ⟨fd,F⟩:=c.def_ 5 rfl; ⟨_,fd,F,He.glo_ok X G (c.fact 20 rfl)⟩),(let ⟨fd,F⟩:=c.def_ 6 rfl; ⟨_,fd,F,He.glo_ok X G (c.fact 21 rfl)⟩),(let ⟨fd,F⟩:=c.def_ 7 rfl; ⟨_,fd,F,He.glo_ok X G (c.fact 22 rfl)⟩),(let ⟨fd,F⟩:=c.def_ 8 rfl; ⟨_,fd,F,He.glo_ok X G (c.fact 23 rfl)⟩),(let ⟨fd,F⟩:=c.def_ 9 rfl; ⟨_,fd,F,He.glo_ok X G (c.fact 24 rfl)⟩),(let ⟨fd,F⟩:=c.def_ 10 rfl; ⟨_,fd,F,He.glo_ok X G (c.fact 25 rfl)⟩),(let ⟨fd,F⟩:=c.def_ 11 rfl; ⟨_,fd,F,He.glo_ok X G (c.fact 26 rfl)⟩),(let ⟨fd,F⟩:=c.def_ 12 rfl; ⟨_,fd,F,He.glo_ok X G (c.fact 27 rfl)⟩),(let ⟨fd,F⟩:=c.def_ 13 rfl; ⟨_,fd,F,He.glo_ok X G (c.fact 28 rfl)⟩)⟩
end G
end
section
namespace G
open PySem PySem.Spec PyProof.Rows L2 Z PySem.SeqAt
structure DigOk (ds:List Int) (ss:List Int):Prop where
 len:ds.length=ss.length
 dig:∀ (i:Nat) (d s:Int),ds[i]?=some d→ss[i]?=some s→0≤d∧d < s
theorem zbS (a:Int) {b:Int} (h:0 < b):0≤a % b∧a % b < b:=⟨Int.emod_nonneg a (by omega),Int.emod_lt_of_pos a h⟩
theorem zqh (cell salt:Int) (ss:List Int) (hs:∀ s∈ss,0 < s∧s < 1073741824) (hl:ss.length < 1000000) (h0:0≤salt) (h1:salt < 1000000) :
  ∃ ds,DigOk ds ss∧∀M,zaG zec [.int cell,.int salt,.lst (ss.map T.int)] M = .ok (.lst (ds.map T.int)) M:=by
 generalize hnum:(if -1 - cell > cell then -1 - cell else cell)=num
 have key:=zfV (α := Int × List Int) (g:=gN 6) (b:=zaP [6,7] (dIf (zfD (zai (zac gGe (zaa 3) (zac zcV (dC (.int 10)) (dC (.int 18))))) (zai (zac gGt (zaa 4) (dC (.int 0))))) (zag (zaW (zbc "list" zbo (zaa 5) (zab (zac zaK (zaa 4) (zac gIx (zaa 2) (zaa 6))) zad))) (zaw 4 (zac zdv (zaa 4) (zac gIx (zaa 2) (zaa 6))))) (zag (zaw 7 (zac zaK (zac zcV (zac (zan false) (zac (zan false) (zac zaK (zaa 3) (dC (.int 2147483629))) (zac (za7 false) (dC (.int 7919)) (zaa 1))) (dC (.int 1))) (dC (.int 3))) (dC (.int 2147483647)))) (zag (zaw 7 (zac zaK (zac (za7 false) (zac (zan false) (zaa 7) (zac (za7 false) (dC (.int 104729)) (zac (zan false) (zaa 6) (dC (.int 1))))) (zac (zan false) (zaa 6) (dC (.int 3)))) (dC (.int 2147483629)))) (zag (zaw 7 (zac zaK (zac (za7 false) (zac zaK (zac zcV (zaa 7) (dC (.int 5))) (dC (.int 2147483647))) (dC (.int 48271))) (dC (.int 2147483629)))) (zaW (zbc "list" zbo (zaa 5) (zab (zac zaK (zac zdv (zaa 7) (dC (.int 16))) (zac gIx (zaa 2) (zaa 6))) zad))))))))
  (it:=fun (i:Nat)=>T.int (i:Int)) (sO:=fun a => [some (.int cell),some (.int salt),some (.lst (ss.map T.int)),some (.int num),some (.int a.1),some (.cel 0),none,none]) (mO:=fun a => [.live (.lst (a.2.map T.int))])
  (Inv:=fun r a=>r=(List.range ss.length).drop a.2.length∧a.2.length≤ss.length∧∀(i:Nat) (d s:Int),a.2[i]?=some d→ss[i]?=some s→0≤d∧d < s) (List.range ss.length) (fun i hi r a ha=>by
   obtain ⟨left,ds⟩:=a
   obtain ⟨e1,e2,e3⟩:=ha
   simp only at e1 e2 e3
   have hlt:ds.length < ss.length:=by
    rcases Nat.lt_or_ge ds.length ss.length with h | h
    ·exact h
    ·rw [List.drop_of_length_le (by simpa using h)] at e1; cases e1
   have e4:i=ds.length∧r=(List.range ss.length).drop (ds.length + 1):=by
    rw [List.drop_eq_getElem_cons (by simpa using hlt)] at e1
    simp only [List.getElem_range,List.cons.injEq] at e1
    exact e1
   obtain ⟨rfl,rfl⟩:=e4
   have hg:ss[ds.length]?=some ss[ds.length]:=List.getElem?_eq_getElem hlt
   have hsz:=hs _ (List.getElem_mem hlt)
   have hix:∀ M,gIx (.lst (ss.map T.int)) (.int (ds.length:Int)) M=some (.int ss[ds.length],M):=fun M=>by simp [hg]
   -- one more digit
   have fin:∀ d:Int,0≤d→d < ss[ds.length]→((List.range ss.length).drop (ds.length + 1)=(List.range ss.length).drop (ds ++ [d]).length∧(ds ++ [d]).length≤ss.length∧∀(i:Nat) (d' s:Int),(ds ++ [d])[i]?=some d'→ss[i]?=some s→0≤d'∧d' < s):=fun d g1 g2=>by
    refine ⟨by simp,by simp; omega,fun i d' s q1 q2=>?_⟩
    rcases Nat.lt_or_ge i ds.length with h | h
    ·rw [List.getElem?_append_left h] at q1; exact e3 i d' s q1 q2
    ·rw [List.getElem?_append_right h] at q1
     have h0:i - ds.length=0:=by
      rcases Nat.eq_zero_or_pos (i - ds.length) with z | z
      ·exact z
      ·rw [List.getElem?_eq_none (by simp; omega)] at q1; cases q1
     have hi2:i=ds.length:=by omega
     rw [h0] at q1
     have q1':d=d':=by simpa using q1
     rw [hi2,hg] at q2
     cases q2
     subst q1'
     exact ⟨g1,g2⟩
   have hdl:ds.length < 16777216:=by omega
   have z1:(10:Int) ^ (18:Nat)=1000000000000000000:=by decide
   refine ⟨[some (.int cell),some (.int salt),some (.lst (ss.map T.int)),some (.int num),some (.int left),some (.cel 0),some (.int (ds.length:Int)),none],?_⟩
   by_cases c:num≥1000000000000000000∧left > 0
   ·refine ⟨(left / ss[ds.length],ds ++ [left % ss[ds.length]]),by simp,?_,fin _ (zbS left hsz.1).1 (zbS left hsz.1).2⟩
    have c1:(1000000000000000000≤num)=True:=eq_true c.1
    have c2:(0 < left)=True:=eq_true c.2
    simp [z1,c1,c2,hg,hsz.1,znn hsz.1 hsz.2,hdl,zbd]
   ·-- the other way
    have hp:0≤num % 2147483629 + 7919 * salt + 1∧num % 2147483629 + 7919 * salt + 1 < 18446744073709551616:=by
     have:=zbS num (b:=2147483629) (by omega)
     omega
    generalize hA:num % 2147483629 + 7919 * salt + 1=A at hp
    have hA2:A.natAbs < 18446744073709551616:=by omega
    generalize hB:A ^ 3 % 2147483647=B
    have hB2:0≤B∧B < 2147483647:=by rw [← hB]; exact zbS _ (by omega)
    generalize hC:(B + 104729 * ((ds.length:Int) + 1)) * ((ds.length:Int) + 3) % 2147483629=Cc
    have hC2:0≤Cc∧Cc < 2147483629:=by rw [← hC]; exact zbS _ (by omega)
    generalize hE:Cc ^ 5 % 2147483647=Ee
    have hE2:0≤Ee∧Ee < 2147483647:=by rw [← hE]; exact zbS _ (by omega)
    generalize hG:Ee * 48271 % 2147483629=Gg
    have hG2:0≤Gg∧Gg < 2147483629:=by rw [← hG]; exact zbS _ (by omega)
    have s1:sgn 7919=true:=zfz (by omega) (by omega)
    have s2:sgn 104729=true:=zfz (by omega) (by omega)
    have s3:sgn ((ds.length:Int) + 3)=true:=zfz (by omega) (by omega)
    have s4:sgn 48271=true:=zfz (by omega) (by omega)
    have s5:zbX 16=true:=rfl
    have hC3:Cc.natAbs < 18446744073709551616:=by omega
    refine ⟨(left,ds ++ [Gg / 16 % ss[ds.length]]),by simp,?_,fin _ (zbS _ hsz.1).1 (zbS _ hsz.1).2⟩
    have step:∀ (tt:DT) (s:Sg) (M:Mem) (a b:DS),tt s M = .ok false M→dIf tt a b s M=b s M:=fun tt s M a b h=>by
     show (tt s M).toS s (kIf a b s)=b s M
     rw [h]; rfl
    rw [u_trim,step]
    ·simp [s1,s2,s3,s4,s5,hA,hA2,hB,hC,hC3,hE,hG,hg,hsz.1,hdl,zbd]
    ·by_cases c1:1000000000000000000≤num
     ·have c2:¬ 0 < left:=fun h=>c ⟨c1,h⟩
      simp [z1,c1,c2]
     ·simp [z1,c1]) (num,[]) ⟨by simp,by simp,fun i d s q=>by simp at q⟩
 obtain ⟨⟨left,ds⟩,k1,k2,k3,k4⟩:=key
 have hlen:ds.length=ss.length:=by
  have:((List.range ss.length).drop ds.length).length=0:=by rw [← k2]; rfl
  rw [List.length_drop,List.length_range] at this
  simp only at k3
  omega
 have nc:zau (ds.map T.int)=true:=zbm (fun _=>by simp only [zal]) _
 have hd:zaU (ds.map T.int)≤18:=by
  have:=zc3 (k:=1) (f:=T.int) (fun _=>by simp [dep]) ds
  omega
 refine ⟨ds,⟨hlen,k4⟩,fun M=>zaA ⟨[.dead],zbq ?_⟩ (by simp only [zau,zal,Bool.true_and,Bool.and_true]; exact zbm (fun _=>by simp only [zal]) _) (by simp only [zal]; exact nc)⟩
 unfold zeb
 have hr:Z.inR (ss.length:Int)=true:=zdE hl
 simp only [List.map_nil] at k1
 have hnum':(if cell < -1 - cell then -1 - cell else cell)=num:=hnum
 simp -implicitDefEqProofs [zaE,hr,hnum',zd7]
 rw [k1]
 simp [zkM nc hd]
end G
end
section
namespace G
open PySem PySem.Spec PyProof.Rows L2 Z PySem.SeqAt
def zfa (m:Int):DA:=zc0 (zab (zac (zan false) (dSl false (zaa 0) zaL (zaM (dC (.int m)))) (zac (za7 false) (zaq false (zab (dC (.int 7)) zad)) (dCall zdY (zab (zac gEq (zaa 0) (zaq false zad)) zad)))) zad)
def zel (m:Nat) (ns:List Int):List Int:=ns.take m ++ (if ns = [] then [7] else [])
theorem zqi (m:Nat) (hm:m < 64) (ns:List Int):(zel m ns).length < 65:=by
 unfold zel
 rw [List.length_append,List.length_take]
 split <;> simp <;> omega
theorem zqj (ds:List Int):zau (ds.map T.int)=true:=zbm (fun _=>by simp only [zal]) _
end G
end
section
namespace G
open PySem PySem.Spec PyProof.Rows L2 Z PySem.SeqAt
abbrev Sc:=List (Str × Str)
abbrev Ne:=List Sc
def zap (s:Sc):T := .dct (s.map fun p=>(p.1,.str p.2))
def zam (n:Ne):T := .lst (n.map zap)
def enO (x:Option Str):T:=match x with
 | some v => .str v
 | none => .non
inductive Stp where
 | op | cl
 | bind (n v:Str) | drop (n:Str) | expect (n v:Str) | free (n:Str) | owned (n v:Str) | unowned (n:Str)
def enS:Stp→T
 | .op => .tup [.str "open"]
 | .cl => .tup [.str "close"]
 | .bind n v => .tup [.str "bind",.str n,.str v]
 | .drop n => .tup [.str "drop",.str n]
 | .expect n v => .tup [.str "expect",.str n,.str v]
 | .free n => .tup [.str "free",.str n]
 | .owned n v => .tup [.str "owned",.str n,.str v]
 | .unowned n => .tup [.str "unowned",.str n]
theorem zem (s:Sc):zal (zap s)=true:=by unfold zap; simp only [zal]; exact zhL (f:=fun p:Str × Str=>T.str p.2) (k:=fun p=>p.1) (fun _=>by simp only [zal]) s
theorem zbT (n:Ne):zal (zam n)=true:=by unfold zam; simp only [zal]; exact zbm zem n
theorem zdH (x:Stp):zal (enS x)=true:=by cases x <;> simp [enS,zal,zau]
theorem zen (x:Option Str):zal (enO x)=true:=by cases x <;> simp [enO,zal]
theorem zeo (s:Sc) (k:Str):(s.map fun p=>(p.1,T.str p.2)).lookup k=(s.lookup k).map T.str:=by
 induction s with
 | nil=>rfl
 | cons p r ih=>
  obtain ⟨a,b⟩:=p
  rw [List.map_cons,List.lookup_cons,List.lookup_cons,ih]
  cases k == a <;> rfl
def vis (n:Ne) (x:Str):Option Str:=n.findSome? (·.lookup x)
theorem zlc (n:Ne) (l:Nat) (x:Str) (M:Mem):zaG ze2 [zam n,.int l,.str x] M = .ok (enO (vis (n.drop l) x)) M:=by
 refine zaA ?_ (by simp [zau,zbT,zal]) (zen _)
 have key:=zkI (g:=gN 3) (b:=zaP [3] (dIf (zai (zac gIn (zaa 2) (zaa 3))) (zav (zac gIx (zaa 3) (zaa 2))) dNx)) (it:=zap) (s := [some (zam n),some (.int l),some (.str x),none]) (M := []) (f:=fun s=>(s.lookup x).map T.str) (fun s=>by
  refine ⟨[some (zam n),some (.int l),some (.str x),some (zap s)],by simp,?_⟩
  cases e:s.lookup x with
  | none=>simp [zap,zeo,e,zbd]
  | some v=>exact ⟨[],by simp [zap,zeo,e]⟩) (n.drop l)
 simp only [ze2,zkY]
 have e2:(n.drop l).findSome? (fun s=>(s.lookup x).map T.str)=(vis (n.drop l) x).map T.str:=by
  unfold vis
  induction n.drop l with
  | nil=>rfl
  | cons a r ih=>
   rw [List.findSome?_cons,List.findSome?_cons]
   cases a.lookup x with
   | some v=>rfl
   | none=>exact ih
 rw [e2] at key
 cases e:vis (n.drop l) x with
 | none=>
  rw [e] at key
  refine ⟨[],zbq (t := .non) ?_⟩
  simp [zaE,zam,← List.map_drop] at key ⊢
  rw [key]; rfl
 | some v=>
  rw [e] at key
  obtain ⟨M',key⟩:=key
  refine ⟨M',zbq (t := .str v) ?_⟩
  simp [zaE,zam,← List.map_drop] at key ⊢
  rw [key]; rfl
def zdi (n:Ne) (l:Nat) (x:Str):Option Str:=match n[l]? with
 | some s=>s.lookup x
 | none=>none
theorem zld (n:Ne) (l:Nat) (x:Str) (M:Mem):zaG zf0 [zam n,.int l,.str x] M = .ok (enO (zdi n l x)) M:=by
 refine zaA ⟨[],zbq ?_⟩ (by simp [zau,zbT,zal]) (zen _)
 unfold zkX zdi
 by_cases h:l < n.length
 ·have e:n[l]?=some n[l]:=List.getElem?_eq_getElem h
  simp [zaE,zam,h,zkp,zap,zeo]
  cases n[l].lookup x <;> rfl
 ·have e:n[l]?=none:=List.getElem?_eq_none (by omega)
  simp [zaE,zam,h,e,enO]
def wish:Stp→Option Str
 | .bind _ v=>some v
 | .expect _ v=>some v
 | .owned _ v=>some v
 | _=>none
theorem zf4 (x:Stp) (M:Mem):zaG zhY [enS x] M = .ok (enO (wish x)) M:=by
 refine zaA ⟨[],zbq ?_⟩ (by simp [zau,zdH]) (zen _)
 unfold zkZ
 cases x <;> simp [zaE,enS,wish,enO]
def zbs (s:Sc) (x v:Str):Sc:=(s.filter fun p => !(p.1 == x)) ++ [(x,v)]
def zaI (s:Sc) (x:Str):Sc:=s.filter fun p => !(p.1 == x)
def after (n:Ne):Stp→Option Ne
 | .op=>some ([] :: n)
 | .expect x v=>if vis n x=some v then some n else none
 | .free x=>if vis n x=none then some n else none
 | .cl=>(match n with
  | []=>none
  | _ :: r=>some r)
 | .owned x v=>(match n with
  | []=>none
  | s :: _=>if s.lookup x=some v then some n else none)
 | .unowned x=>(match n with
  | []=>none
  | s :: _=>if s.lookup x=none then some n else none)
 | .bind x v=>(match n with
  | []=>none
  | s :: r=>some (zbs s x v :: r))
 | .drop x=>(match n with
  | []=>none
  | s :: r=>some (zaI s x :: r))
def zaT (n:Option Ne):T:=match n with
 | some m=>zam m
 | none => .non
theorem zep (n:Option Ne):zal (zaT n)=true:=by cases n <;> simp [zaT,zal,zbT]
theorem zcI (a b:Option Str) (n:Nat):eqF true (n + 1) (enO a) (enO b)=some (decide (a=b)):=by
 cases a <;> cases b <;> simp [enO,Bool.beq_eq_decide_eq]
theorem zc6 (a:Option Str) (M:Mem):der M (enO a)=enO a:=by cases a <;> rfl
def zaO (s:Sc):Prop:=(s.map (·.1)).Nodup
theorem zf5 {s:Sc} (h:zaO s) (x:Str):zaO (zaI s x):=by
 unfold zaO zaI
 exact List.Sublist.nodup ((List.filter_sublist (l:=s)).map _) h
theorem zh2 (s:Sc) (x:Str):x∉(zaI s x).map (·.1):=by
 intro c
 obtain ⟨p,hp,e⟩:=List.mem_map.mp c
 have:=(List.mem_filter.mp hp).2
 rw [e] at this
 simp at this
theorem zqk {s:Sc} (h:zaO s) (x v:Str):zaO (zbs s x v):=by
 have h1:=zf5 h x
 have h2:=zh2 s x
 unfold zaO zaI at *
 unfold zbs
 rw [List.map_append,List.nodup_append]
 refine ⟨h1,by simp,fun a ha b hb e=>?_⟩
 have hb':b=x:=by simpa using hb
 rw [e,hb'] at ha
 exact h2 ha
theorem zh3 (s:Sc):dep (zap s)≤2:=by
 unfold zap
 simp only [dep]
 have:=zhP (k:=1) (kf:=fun p:Str × Str=>p.1) (f:=fun p:Str × Str=>T.str p.2) (fun x=>by simp [dep]) s
 omega
theorem zf6 (s:Sc):za4 (s.map fun p=>(p.1,T.str p.2))=true:=zhL (f:=fun p:Str × Str=>T.str p.2) (k:=fun p=>p.1) (fun _=>by simp only [zal]) s
theorem zf7 (s:Sc):zbx (s.map fun p=>(p.1,T.str p.2))≤18:=by
 have:=zhP (k:=1) (kf:=fun p:Str × Str=>p.1) (f:=fun p:Str × Str=>T.str p.2) (fun x=>by simp [dep]) s
 omega
@[simp] theorem it_sc (s:Sc) (M:Mem):zhB (zap s) M = .ok (s.map fun p => .tup [.str p.1,.str p.2]) M:=by
 unfold zap
 rw [w_kItems,zoP (kf:=fun p:Str × Str=>p.1) (vf:=fun p=>T.str p.2)]
end G
end
section
namespace G
open PySem PySem.Spec PyProof.Rows L2 Z PySem.SeqAt
def namesD:List Str := ["x", "y", "own"]
def valsD:List Str := ["1", "2", "x"]
structure ScOk (s:Sc):Prop where
 keys:zaO s
 ns:∀ p∈s,p.1∈namesD∧p.2∈valsD
abbrev zh4 (n:Ne):Prop := ∀ s∈n,ScOk s
def okB (o:Out T):Bool:=match o with
 | .ok (.bl true) _=>true
 | _=>false
theorem zh5 {F:DF} {ts:List T} {M:Mem} (h:okB (F ts [])=true) (h1:zau ts=true):zaG F ts M = .ok (.bl true) M:=by
 refine zaA ?_ h1 rfl
 unfold okB at h
 split at h
 ·rename_i M' e
  exact ⟨M',e⟩
 ·cases h
theorem zql:namesD.all (fun s=>okB (zbr [.str s] []))=true:=by decide +kernel
theorem zqm:valsD.all (fun s=>okB (zbw [.str s] []))=true:=by decide +kernel
theorem zle {β : Type} (f : β → Bool):∀ xs:List β,zdA (xs.map fun x=>T.bl (f x))=some (xs.map f)
 | []=>rfl
 | x :: r=>by rw [List.map_cons]; unfold zdA; rw [zle f r]; rfl
theorem all_map {β : Type} (f : β → Bool) (xs:List β) (M:Mem):zdc [.lst (xs.map fun x=>T.bl (f x))] M=some (.bl (xs.all f),M):=by
 unfold zdc Z.listOf
 simp only [der_lst',Option.bind_some,zle]
 simp [List.all_map]
@[simp] theorem isi_dct (ks:List (Str × T)) (M:Mem):za5 [.dct ks,.ty "dict"] M=some (.bl true,M):=rfl
@[simp] theorem isi_lst (ks:List T) (M:Mem):za5 [.lst ks,.ty "list"] M=some (.bl true,M):=rfl
@[simp] theorem isi_lst2 (ks:List T) (M:Mem):za5 [.lst ks,.tup [.ty "list",.ty "tuple"]] M=some (.bl true,M):=rfl
@[simp] theorem isi_tup2 (ks:List T) (M:Mem):za5 [.tup ks,.tup [.ty "list",.ty "tuple"]] M=some (.bl true,M):=rfl
end G
end
section
namespace G
open PySem PySem.Spec PyProof.Rows L2 Z PySem.SeqAt
@[simp ↓] theorem x_asgT (g:DG) (d:DE) (s:Sg) (M:Mem):zkN g d s M=(d s M).toS s fun t M1=>match g t s with
 | some s1 => .nx s1 M1
 | none => .no:=rfl
@[simp ↓] theorem x_wipe (vs:List Nat) (b:DS) (s:Sg) (M:Mem):zaN vs b s M=b (zas s vs) M:=rfl
@[simp] theorem x_wz (s:Sg):zas s []=s:=rfl
@[simp] theorem x_wc (s:Sg) (w:Nat) (r:List Nat):zas s (w :: r)=(zas s r).set w none:=rfl
structure NeS (n:Ne):Prop where
 ok:zh4 n
 len:n.length≤1000
 sc:∀ s∈n,s.length≤3
def nameOk (x:Str):Prop:=okB (zbr [.str x] [])=true
theorem nameOk.run {x:Str} (h:nameOk x) (M:Mem):zaG zbr [.str x] M = .ok (.bl true) M:=zh5 h (by simp [zau,zal])
def kindS (seen:Bool):Str:=if seen then "seen" else "own"
def zfb (x:Str) (l:Nat) (seen:Bool) (v:Option Str):T := .tup [.str x,.int (l:Int),.str (kindS seen),enO v]
theorem zh6 (x:Str) (l:Nat) (seen:Bool) (v:Option Str):zal (zfb x l seen v)=true:=by simp [zfb,zal,zau,zen]
theorem zqn:(("own" : Str) == ("seen" : Str))=false:=by decide
theorem zqo:zh0=ze2:=rfl
theorem zqp:zhZ=zf0:=rfl
def factOk (x:Str) (l:Nat) (seen:Bool) (v:Option Str):Prop:=okB (zk1 [zfb x l seen v] [])=true
theorem factOk.run {x:Str} {l:Nat} {seen:Bool} {v:Option Str} (h:factOk x l seen v) (M:Mem):zaG zk1 [zfb x l seen v] M = .ok (.bl true) M:=zh5 h (by simp [zau,zh6])
end G
end
section
namespace G
open PySem PySem.Spec PyProof.Rows L2 Z PySem.SeqAt
abbrev Pos (ds:List Int):Prop := ∀ d∈ds,0≤d
def nm2 (i:Nat):Str:=if i=0 then "x" else "y"
end G
end
section
namespace G
open PySem PySem.Spec PyProof.Rows L2 Z PySem.SeqAt
theorem sc3 {s:Sc} (h:ScOk s):s.length≤3:=by
 have h1:(s.map (·.1)) ⊆ namesD:=fun x hx=>by
  obtain ⟨p,hp,e⟩:=List.mem_map.mp hx
  rw [← e]; exact (h.ns p hp).1
 have:=List.Nodup.length_le_of_subset h.keys h1
 simpa [namesD] using this
theorem zqq:namesD.all (fun s=>Nat.ble (reprText s).length 10)=true:=by decide +kernel
theorem zqr:valsD.all (fun s=>Nat.ble (reprText s).length 10)=true:=by decide +kernel
theorem zqs (s:Sc):pl (zap s)=true:=by
 unfold zap
 simp only [pl]
 induction s with
 | nil=>simp [plK]
 | cons p r ih=>rw [List.map_cons]; simp only [plK,pl,Bool.true_and]; exact ih
theorem zqt {s:Sc} (h:ScOk s):wt (zap s)≤100:=by
 have h3:=sc3 h
 have:wtK (s.map fun p=>(p.1,T.str p.2))≤s.length * 24:=by
  have hn:=h.ns
  clear h3
  induction s with
  | nil=>simp [wtK]
  | cons p r ih=>
   have ih:=ih ⟨(List.nodup_cons.mp h.keys).2,fun q hq=>hn q (List.mem_cons_of_mem _ hq)⟩ fun q hq=>hn q (List.mem_cons_of_mem _ hq)
   have h1:=hn p (List.mem_cons_self ..)
   have w1:=Nat.le_of_ble_eq_true (List.all_eq_true.mp zqq p.1 h1.1)
   have w2:=Nat.le_of_ble_eq_true (List.all_eq_true.mp zqr p.2 h1.2)
   rw [List.map_cons,List.length_cons,Nat.succ_mul]
   simp only [wtK,wt]
   omega
 unfold zap
 simp only [wt]
 omega
theorem zh7 (n:Ne):dep (zam n)≤3:=by
 unfold zam
 simp only [dep]
 have:=zc3 (k:=2) zh3 n
 omega
end G
end
section
namespace G
open PySem
abbrev Vl:Type:=Option Str
def shown (b f:Vl):Vl:=match b with
 | none=>f
 | some v=>some v
structure Ch where
 top:Nat
 S:Nat→List Vl
 B:Nat→List Vl
def pairs (B S S':List Vl):List (Vl × Vl × Vl):=B.flatMap fun b=>(S'.filter fun f=>S.contains (shown b f)).map fun f=>(shown b f,b,f)
theorem mem_pairs {B S S':List Vl} {v b f:Vl}:(v,b,f)∈pairs B S S'↔b∈B∧f∈S'∧v=shown b f∧v∈S:=by
 unfold pairs
 simp only [List.mem_flatMap,List.mem_map,List.mem_filter,List.contains_iff_mem,Prod.mk.injEq]
 constructor
 ·rintro ⟨b',hb,f',⟨hf,hs⟩,rfl,rfl,rfl⟩
  exact ⟨hb,hf,rfl,hs⟩
 ·rintro ⟨hb,hf,rfl,hs⟩
  exact ⟨b,hb,f,⟨hf,hs⟩,rfl,rfl,rfl⟩
def zce (ps:List (Vl × Vl × Vl)) (l:List Vl):List Vl:=l.filter fun v=>(ps.map fun p=>p.1).contains v
def keep2 (ps:List (Vl × Vl × Vl)) (l:List Vl):List Vl:=l.filter fun v=>(ps.map fun p=>p.2.1).contains v
def keep3 (ps:List (Vl × Vl × Vl)) (l:List Vl):List Vl:=l.filter fun v=>(ps.map fun p=>p.2.2).contains v
def nl (c:Ch) (l:Nat):Ch:=
 ⟨c.top,fun i=>if i=l then zce (pairs (c.B l) (c.S l) (c.S (l + 1))) (c.S l) else if i=l + 1 then keep3 (pairs (c.B l) (c.S l) (c.S (l + 1))) (c.S (l + 1)) else c.S i,
  fun i=>if i=l then keep2 (pairs (c.B l) (c.S l) (c.S (l + 1))) (c.B l) else c.B i⟩
section
variable {c:Ch} {l:Nat}
theorem nl_S0 {v:Vl}:v∈(nl c l).S l↔∃ b f,b∈c.B l∧f∈c.S (l + 1)∧v=shown b f∧v∈c.S l:=by
 unfold nl zce
 simp only [if_true,List.mem_filter,List.contains_iff_mem,List.mem_map]
 constructor
 ·rintro ⟨h,⟨v',b,f⟩,hp,rfl⟩
  obtain ⟨h1,h2,h3,h4⟩:=mem_pairs.mp hp
  exact ⟨b,f,h1,h2,h3,h4⟩
 ·rintro ⟨b,f,h1,h2,h3,h4⟩
  exact ⟨h4,⟨v,b,f⟩,mem_pairs.mpr ⟨h1,h2,h3,h4⟩,rfl⟩
theorem nl_S1 {f:Vl}:f∈(nl c l).S (l + 1)↔∃ b,b∈c.B l∧f∈c.S (l + 1)∧shown b f∈c.S l:=by
 unfold nl keep3
 simp only [show (l + 1=l)=False from eq_false (by omega),if_false,if_true,List.mem_filter,List.contains_iff_mem,List.mem_map]
 constructor
 ·rintro ⟨h,⟨v',b,f'⟩,hp,rfl⟩
  obtain ⟨h1,h2,h3,h4⟩:=mem_pairs.mp hp
  exact ⟨b,h1,h2,h3 ▸ h4⟩
 ·rintro ⟨b,h1,h2,h4⟩
  exact ⟨h2,⟨_,b,f⟩,mem_pairs.mpr ⟨h1,h2,rfl,h4⟩,rfl⟩
theorem zdI {i:Nat} (h:i≠l) (h':i≠l + 1):(nl c l).S i=c.S i:=by
 unfold nl
 simp only [h,h',if_false]
theorem nl_B0 {b:Vl}:b∈(nl c l).B l↔∃ f,b∈c.B l∧f∈c.S (l + 1)∧shown b f∈c.S l:=by
 unfold nl keep2
 simp only [if_true,List.mem_filter,List.contains_iff_mem,List.mem_map]
 constructor
 ·rintro ⟨h,⟨v',b',f⟩,hp,rfl⟩
  obtain ⟨h1,h2,h3,h4⟩:=mem_pairs.mp hp
  exact ⟨f,h1,h2,h3 ▸ h4⟩
 ·rintro ⟨f,h1,h2,h4⟩
  exact ⟨h1,⟨_,b,f⟩,mem_pairs.mpr ⟨h1,h2,rfl,h4⟩,rfl⟩
theorem zeq {i:Nat} (h:i≠l):(nl c l).B i=c.B i:=by
 unfold nl
 simp only [h,if_false]
end
structure Run (c:Ch) (lo hi:Nat) (b s:Nat→Vl):Prop where
 own:∀ i,lo≤i→i < hi→b i∈c.B i
 vis:∀ i,lo≤i→i < hi→s i=shown (b i) (s (i + 1))
 mem:∀ i,lo≤i→i≤hi→s i∈c.S i
theorem Run.nl {c:Ch} {l lo hi:Nat} {b s:Nat→Vl} (r:Run c lo hi b s) (h1:lo≤l) (h2:l + 1≤hi):Run (nl c l) lo hi b s:=by
 have p:=r.vis l h1 (by omega)
 have pb:=r.own l h1 (by omega)
 have p0:=r.mem l h1 (by omega)
 have p1:=r.mem (l + 1) (by omega) h2
 refine ⟨fun i a1 a2=>?_,r.vis,fun i a1 a2=>?_⟩
 ·by_cases e:i=l
  ·subst e
   exact nl_B0.mpr ⟨s (i + 1),pb,p1,p ▸ p0⟩
  ·rw [zeq e]; exact r.own i a1 a2
 ·by_cases e:i=l
  ·subst e
   exact nl_S0.mpr ⟨b i,s (i + 1),pb,p1,p,p0⟩
  ·by_cases e':i=l + 1
   ·subst e'
    exact nl_S1.mpr ⟨b l,pb,p1,p ▸ p0⟩
   ·rw [zdI e e']; exact r.mem i a1 a2
theorem zfc {c:Ch} {l i:Nat} {v:Vl} (h:v∈(nl c l).S i):v∈c.S i:=by
 by_cases e:i=l
 ·subst e
  obtain ⟨b,f,_,_,_,h4⟩:=nl_S0.mp h
  exact h4
 ·by_cases e':i=l + 1
  ·subst e'
   obtain ⟨b,_,h2,_⟩:=nl_S1.mp h
   exact h2
  ·rwa [zdI e e'] at h
theorem zlf {c:Ch} {l i:Nat} {v:Vl} (h:v∈(nl c l).B i):v∈c.B i:=by
 by_cases e:i=l
 ·subst e
  obtain ⟨f,h1,_,_⟩:=nl_B0.mp h
  exact h1
 ·rwa [zeq e] at h
theorem Run.sub {c c':Ch} {lo hi:Nat} {b s:Nat→Vl} (hS:∀ i v,v∈c.S i→v∈c'.S i) (hB:∀ i v,v∈c.B i→v∈c'.B i) (r:Run c lo hi b s):Run c' lo hi b s:=
 ⟨fun i a1 a2=>hB i _ (r.own i a1 a2),r.vis,fun i a1 a2=>hS i _ (r.mem i a1 a2)⟩
def zcJ (c:Ch) (k:Nat):Prop := ∀ v∈c.S k,∃b s,s k=v∧Run c k c.top b s
def Inw (c:Ch) (k:Nat):Prop := ∀ v∈c.S k,∃b s,s k=v∧Run c 0 k b s
def Fits (c:Ch) (k:Nat):Prop := ∀ b∈c.B k,∃f∈c.S (k + 1),shown b f∈c.S k
theorem zlg (c:Ch):zcJ c c.top:=fun v hv=>⟨fun _=>none,fun _=>v,rfl,fun i a1 a2=>by omega,fun i a1 a2=>by omega,fun i a1 a2=>by
 have:i=c.top:=by omega
 rw [this]; exact hv⟩
theorem zqu (c:Ch):Inw c 0:=fun v hv=>⟨fun _=>none,fun _=>v,rfl,fun i a1 a2=>by omega,fun i a1 a2=>by omega,fun i a1 a2=>by
 have:i=0:=by omega
 rw [this]; exact hv⟩
theorem Run.behind {c:Ch} {l lo hi:Nat} {b s:Nat→Vl} (r:Run c lo hi b s) (h:l + 1≤lo) (h1:lo=l + 1→s (l + 1)∈(G.nl c l).S (l + 1)):Run (G.nl c l) lo hi b s:=by
 refine ⟨fun i a1 a2=>?_,r.vis,fun i a1 a2=>?_⟩
 ·rw [zeq (by omega)]; exact r.own i a1 a2
 ·by_cases e:i=l + 1
  ·rw [e]; exact h1 (by omega)
  ·rw [zdI (by omega) e]; exact r.mem i a1 a2
theorem zlh {c:Ch} {l:Nat} (hl:l < c.top) (h:∀ k,l + 1≤k→zcJ c k):∀ k,l≤k→zcJ (nl c l) k:=fun k hk v hv=>by
 by_cases e:k=l
 ·subst e
  obtain ⟨b0,f,hb,hf,rfl,hs⟩:=nl_S0.mp hv
  obtain ⟨b,s,e1,r⟩:=h (k + 1) (Nat.le_refl _) f hf
  have r0:Run c k c.top (fun i=>if i=k then b0 else b i) (fun i=>if i=k then shown b0 f else s i):=by
   refine ⟨fun i a1 a2=>?_,fun i a1 a2=>?_,fun i a1 a2=>?_⟩
   ·by_cases z:i=k
    ·simp only [z,if_true]; exact hb
    ·simp only [z,if_false]; exact r.own i (by omega) a2
   ·by_cases z:i=k
    ·subst z
     simp only [if_true,show (i + 1=i)=False from eq_false (by omega),if_false,e1]
    ·simp only [z,show (i + 1=k)=False from eq_false (by omega),if_false]; exact r.vis i (by omega) a2
   ·by_cases z:i=k
    ·simp only [z,if_true]; exact hs
    ·simp only [z,if_false]; exact r.mem i (by omega) a2
  exact ⟨_,_,by simp only [if_true],r0.nl (Nat.le_refl _) hl⟩
 ·obtain ⟨b,s,e1,r⟩:=h k (by omega) v (zfc hv)
  exact ⟨b,s,e1,r.behind (by omega) fun z=>by rw [← z,e1]; exact hv⟩
theorem zqv {c:Ch} {l:Nat} (hl:l < c.top) (ho:∀ k,zcJ c k) (hi:∀ k,k≤l→Inw c k) (hf:∀ k,k < l→Fits c k) :
  (∀ k,zcJ (nl c l) k)∧(∀ k,k≤l + 1→Inw (nl c l) k)∧∀k,k < l + 1→Fits (nl c l) k:=by
 have ho':∀ k,zcJ (nl c l) k:=fun k v hv=>by
  by_cases a:l≤k
  ·exact zlh hl (fun k _=>ho k) k a v hv
  ·obtain ⟨b,s,e1,r⟩:=ho k v (zfc hv)
   exact ⟨b,s,e1,r.nl (by omega) hl⟩
 refine ⟨ho',fun k hk v hv=>?_,fun k hk b hb=>?_⟩
 ·by_cases e:k=l + 1
  ·subst e
   obtain ⟨b0,h1,h2,h3⟩:=nl_S1.mp hv
   obtain ⟨b,s,e1,r⟩:=hi l (Nat.le_refl _) _ h3
   have r0:Run c 0 (l + 1) (fun i=>if i=l then b0 else b i) (fun i=>if i=l + 1 then v else s i):=by
    refine ⟨fun i a1 a2=>?_,fun i a1 a2=>?_,fun i a1 a2=>?_⟩
    ·by_cases z:i=l
     ·simp only [z,if_true]; exact h1
     ·simp only [z,if_false]; exact r.own i a1 (by omega)
    ·by_cases z:i=l
     ·subst z
      simp only [if_true,show (i=i + 1)=False from eq_false (by omega),if_false,e1]
     ·simp only [z,show (i=l + 1)=False from eq_false (by omega),show (i + 1=l + 1)=False from eq_false (by omega),if_false]; exact r.vis i a1 (by omega)
    ·by_cases z:i=l + 1
     ·simp only [z,if_true]; exact h2
     ·simp only [z,if_false]; exact r.mem i a1 (by omega)
   exact ⟨_,_,by simp only [if_true],r0.nl (Nat.zero_le _) (Nat.le_refl _)⟩
  ·obtain ⟨b,s,e1,r⟩:=hi k (by omega) v (zfc hv)
   refine ⟨b,s,e1,fun i a1 a2=>?_,r.vis,fun i a1 a2=>?_⟩
   ·rw [zeq (by omega)]; exact r.own i a1 a2
   ·by_cases z:i=l
    ·have q:i=k:=by omega
     rw [q,e1]; exact hv
    ·rw [zdI z (by omega)]; exact r.mem i a1 a2
 ·by_cases e:k=l
  ·subst e
   obtain ⟨f,h1,h2,h3⟩:=nl_B0.mp hb
   exact ⟨f,nl_S1.mpr ⟨b,h1,h2,h3⟩,nl_S0.mpr ⟨b,f,h1,h2,rfl,h3⟩⟩
  ·rw [zeq e] at hb
   obtain ⟨f,h1,h2⟩:=hf k (by omega) b hb
   refine ⟨f,?_,?_⟩
   ·by_cases z:k + 1=l
    ·subst z
     obtain ⟨b1,s1,e1,r⟩:=ho (k + 1) f h1
     have:=(r.nl (l:=k + 1) (Nat.le_refl _) hl).mem (k + 1) (Nat.le_refl _) (by omega)
     rw [e1] at this
     exact this
    ·rw [zdI z (by omega)]; exact h1
   ·rw [zdI e (by omega)]; exact h2
def bwd (c:Ch):Nat→Ch
 | 0=>c
 | n + 1=>bwd (nl c n) n
def fwd (c:Ch):Nat→Ch
 | 0=>c
 | n + 1=>nl (fwd c n) n
def narrow (c:Ch):Ch:=fwd (bwd c c.top) c.top
theorem zcq (c:Ch):∀ n,(bwd c n).top=c.top:=by
 intro n
 induction n generalizing c with
 | zero=>rfl
 | succ n ih=>unfold bwd; rw [ih]; rfl
theorem zdJ (c:Ch):∀ n,(fwd c n).top=c.top:=by
 intro n
 induction n with
 | zero=>rfl
 | succ n ih=>unfold fwd; exact ih
theorem zf8 (c:Ch):(narrow c).top=c.top:=by unfold narrow; rw [zdJ,zcq]
theorem zh8:∀ (n:Nat) (c:Ch),n≤c.top→(∀ k,n≤k→zcJ c k)→∀k,zcJ (bwd c n) k
 | 0,c,_,h=>fun k=>h k (Nat.zero_le _)
 | n + 1,c,hn,h=>fun k=>zh8 n (nl c n) (show n≤c.top by omega) (zlh (by omega) h) k
theorem zh9 {c:Ch} (ho:∀ k,zcJ c k):∀ n,n≤c.top→(∀ k,zcJ (fwd c n) k)∧(∀ k,k≤n→Inw (fwd c n) k)∧∀k,k < n→Fits (fwd c n) k
 | 0,_=>⟨ho,fun k hk=>by
   have:k=0:=by omega
   rw [this]; exact zqu c,fun k hk=>by omega⟩
 | n + 1,h=>by
  obtain ⟨h1,h2,h3⟩:=zh9 ho n (by omega)
  exact zqv (by rw [zdJ]; omega) h1 h2 h3
theorem zqw {c:Ch} {b s:Nat→Vl} (r:Run c 0 c.top b s):∀ n,n≤c.top→Run (bwd c n) 0 c.top b s:=by
 intro n hn
 induction n generalizing c with
 | zero=>exact r
 | succ n ih=>exact ih (c:=nl c n) (r.nl (Nat.zero_le _) hn) (show n≤c.top by omega)
theorem zqx {c:Ch} {b s:Nat→Vl} (r:Run c 0 c.top b s):∀ n,n≤c.top→Run (fwd c n) 0 c.top b s:=by
 intro n hn
 induction n with
 | zero=>exact r
 | succ n ih=>exact (ih (by omega)).nl (Nat.zero_le _) hn
theorem zer {c:Ch} {b s:Nat→Vl} (r:Run c 0 c.top b s):Run (narrow c) 0 c.top b s:=by
 have r1:=zqw r c.top (Nat.le_refl _)
 have r2:Run (bwd c c.top) 0 (bwd c c.top).top b s:=by rw [zcq]; exact r1
 have r3:=zqx r2 c.top (by rw [zcq]; exact Nat.le_refl _)
 rw [zcq] at r3
 exact r3
theorem zf9:∀ (n:Nat) (c:Ch),(∀ i v,v∈(bwd c n).S i→v∈c.S i)∧∀i v,v∈(bwd c n).B i→v∈c.B i
 | 0,c=>⟨fun _ _ h=>h,fun _ _ h=>h⟩
 | n + 1,c=>⟨fun i v h=>zfc ((zf9 n (nl c n)).1 i v h),fun i v h=>zlf ((zf9 n (nl c n)).2 i v h)⟩
theorem zga (c:Ch):∀ n:Nat,(∀ i v,v∈(fwd c n).S i→v∈c.S i)∧∀i v,v∈(fwd c n).B i→v∈c.B i
 | 0=>⟨fun _ _ h=>h,fun _ _ h=>h⟩
 | n + 1=>⟨fun i v h=>(zga c n).1 i v (zfc h),fun i v h=>(zga c n).2 i v (zlf h)⟩
theorem zgb {c:Ch} {b s:Nat→Vl} (r:Run (narrow c) 0 c.top b s):Run c 0 c.top b s:=
 r.sub (fun i v h=>(zf9 _ c).1 i v ((zga _ _).1 i v h)) fun i v h=>(zf9 _ c).2 i v ((zga _ _).2 i v h)
theorem Run.join {c:Ch} {k:Nat} {b1 s1 b2 s2:Nat→Vl} (r1:Run c 0 k b1 s1) (r2:Run c k c.top b2 s2) (hk:k≤c.top) (e:s1 k=s2 k) :
  Run c 0 c.top (fun i=>if i < k then b1 i else b2 i) fun i=>if i < k then s1 i else s2 i:=by
 refine ⟨fun i a1 a2=>?_,fun i a1 a2=>?_,fun i a1 a2=>?_⟩
 ·by_cases z:i < k
  ·simp only [z,if_true]; exact r1.own i a1 z
  ·simp only [z,if_false]; exact r2.own i (by omega) a2
 ·by_cases z:i < k
  ·by_cases y:i + 1 < k
   ·simp only [z,y,if_true]; exact r1.vis i a1 z
   ·have:i + 1=k:=by omega
    simp only [z,y,if_true,if_false]
    rw [r1.vis i a1 z,this,e]
  ·simp only [z,show (i + 1 < k)=False from eq_false (by omega),if_false]; exact r2.vis i (by omega) a2
 ·by_cases z:i < k
  ·simp only [z,if_true]; exact r1.mem i a1 (by omega)
  ·simp only [z,if_false]; exact r2.mem i (by omega) a2
theorem zgc {c:Ch} {k:Nat} (hk:k≤c.top) {v:Vl} (h:v∈(narrow c).S k):∃ b s,s k=v∧Run c 0 c.top b s:=by
 have ho:=zh8 c.top c (Nat.le_refl _) fun k hk v hv=>by
  by_cases e:k=c.top
  ·exact e ▸ zlg c v (e ▸ hv)
  ·exact ⟨fun _=>none,fun _=>v,rfl,fun i a1 a2=>by omega,fun i a1 a2=>by omega,fun i a1 a2=>by omega⟩
 obtain ⟨h1,h2,h3⟩:=zh9 ho c.top (by rw [zcq]; exact Nat.le_refl _)
 obtain ⟨b1,s1,e1,r1⟩:=h2 k hk v h
 obtain ⟨b2,s2,e2,r2⟩:=h1 k v h
 have r:=r1.join r2 (by rw [zdJ,zcq]; exact hk) (by rw [e1,e2])
 rw [zdJ,zcq] at r
 refine ⟨_,_,?_,zgb r⟩
 simp only [Nat.lt_irrefl,if_false]
 exact e2
theorem zqy {c:Ch} {k:Nat} (hk:k < c.top) {v:Vl} (h:v∈(narrow c).B k):∃ b s,b k=v∧Run c 0 c.top b s:=by
 have ho:=zh8 c.top c (Nat.le_refl _) fun k hk v hv=>by
  by_cases e:k=c.top
  ·exact e ▸ zlg c v (e ▸ hv)
  ·exact ⟨fun _=>none,fun _=>v,rfl,fun i a1 a2=>by omega,fun i a1 a2=>by omega,fun i a1 a2=>by omega⟩
 obtain ⟨h1,h2,h3⟩:=zh9 ho c.top (by rw [zcq]; exact Nat.le_refl _)
 obtain ⟨f,hf,hs⟩:=h3 k hk v h
 obtain ⟨b1,s1,e1,r1⟩:=h2 k (by omega) _ hs
 obtain ⟨b2,s2,e2,r2⟩:=h1 (k + 1) f hf
 have r0:Run (fwd (bwd c c.top) c.top) 0 (k + 1) (fun i=>if i=k then v else b1 i) (fun i=>if i=k + 1 then f else s1 i):=by
  refine ⟨fun i a1 a2=>?_,fun i a1 a2=>?_,fun i a1 a2=>?_⟩
  ·by_cases z:i=k
   ·simp only [z,if_true]; exact h
   ·simp only [z,if_false]; exact r1.own i a1 (by omega)
  ·by_cases z:i=k
   ·subst z
    simp only [if_true,show (i=i + 1)=False from eq_false (by omega),if_false,e1]
   ·simp only [z,show (i=k + 1)=False from eq_false (by omega),show (i + 1=k + 1)=False from eq_false (by omega),if_false]; exact r1.vis i a1 (by omega)
  ·by_cases z:i=k + 1
   ·simp only [z,if_true]; exact hf
   ·simp only [z,if_false]; exact r1.mem i a1 (by omega)
 have r:=r0.join r2 (by rw [zdJ,zcq]; exact hk) (by simp only [if_true,e2])
 rw [zdJ,zcq] at r
 refine ⟨_,_,?_,zgb r⟩
 simp only [show (k < k + 1)=True from eq_true (by omega),if_true]
end G
end
section
namespace G
open PySem
structure Fc where
 lvl:Nat
 seen:Bool
 v:Vl
def zaD:List Vl→Nat→Vl
 | [],_=>none
 | o :: r,0=>shown o (zaD r 0)
 | _ :: r,l + 1=>zaD r l
theorem zbI:∀ (os:List Vl) (l:Nat),zaD os l=shown (os.getD l none) (zaD os (l + 1))
 | [],l=>by simp [zaD,shown]
 | o :: r,0=>by
  show shown o (zaD r 0)=shown o (zaD r 0)
  rfl
 | o :: r,l + 1=>by
  show zaD r l=shown (r.getD l none) (zaD r (l + 1))
  exact zbI r l
theorem zdK:∀ (os:List Vl) (l:Nat),os.length≤l→zaD os l=none
 | [],_,_=>by unfold zaD; rfl
 | o :: r,0,h=>by simp at h
 | o :: r,l + 1,h=>zdK r l (by simpa using h)
def sat (os:List Vl) (f:Fc):Prop:=if f.seen=true then zaD os f.lvl=f.v else f.lvl < os.length∧os.getD f.lvl none=f.v
def zbJ (os:List Vl) (f:Fc):Prop:=if f.seen=true then zaD os f.lvl=f.v else os.getD f.lvl none=f.v
theorem sat_W {os:List Vl} {f:Fc}:sat os f↔zbJ os f∧(f.seen=false→f.lvl < os.length):=by
 unfold sat zbJ
 cases f.seen <;> simp [and_comm]
def ch0 (vals:List Str) (top:Nat) (fs:List Fc):Ch:=
 ⟨top,fun l=>(none :: vals.map some).filter fun o=>fs.all fun f => !(f.seen && f.lvl == l) || o == f.v,
  fun l=>(none :: vals.map some).filter fun o=>fs.all fun f => !(!f.seen && f.lvl == l) || o == f.v⟩
def inV (vals:List Str) (o:Vl):Prop := ∀ v,o=some v→v∈vals
theorem zli {vals:List Str} {o:Vl}:o∈(none :: vals.map some)↔inV vals o:=by
 unfold inV
 cases o with
 | none=>simp
 | some v=>simp
theorem ch0_S {vals:List Str} {top:Nat} {fs:List Fc} {l:Nat} {o:Vl}:o∈(ch0 vals top fs).S l↔inV vals o∧∀f∈fs,f.seen=true→f.lvl=l→o=f.v:=by
 unfold ch0
 simp only [List.mem_filter,zli,List.all_eq_true]
 refine and_congr_right fun _=>forall_congr' fun f=>forall_congr' fun _=>?_
 cases hs:f.seen <;> by_cases hl:f.lvl=l <;> simp [hl]
theorem ch0_B {vals:List Str} {top:Nat} {fs:List Fc} {l:Nat} {o:Vl}:o∈(ch0 vals top fs).B l↔inV vals o∧∀f∈fs,f.seen=false→f.lvl=l→o=f.v:=by
 unfold ch0
 simp only [List.mem_filter,zli,List.all_eq_true]
 refine and_congr_right fun _=>forall_congr' fun f=>forall_congr' fun _=>?_
 cases hs:f.seen <;> by_cases hl:f.lvl=l <;> simp [hl]
theorem shown_none {b f:Vl} (h:shown b f=none):b=none∧f=none:=by
 cases b with
 | none=>exact ⟨rfl,h⟩
 | some v=>cases h
def zbU (b:Nat→Vl) (h:Nat):List Vl:=(List.range h).map b
theorem zdj (b:Nat→Vl) (h:Nat):(zbU b h).length=h:=by unfold zbU; simp
theorem zia (b:Nat→Vl) (h i:Nat):(zbU b h).getD i none=if i < h then b i else none:=by
 unfold zbU
 by_cases c:i < h
 ·simp [List.getD,c]
 ·simp [List.getD,c]
theorem run_none {c:Ch} {b s:Nat→Vl} {h:Nat} (r:Run c 0 c.top b s) (e:s h=none):∀ i,h≤i→i≤c.top→s i=none∧(i < c.top→b i=none):=by
 intro i h1 h2
 have key:∀ k,h + k≤c.top→s (h + k)=none:=by
  intro k
  induction k with
  | zero=>intro _; exact e
  | succ k ih=>
   intro hk
   have q:=r.vis (h + k) (Nat.zero_le _) (by omega)
   rw [ih (by omega)] at q
   exact (shown_none q.symm).2
 have es:s i=none:=by
  have:=key (i - h) (by omega)
  rwa [show h + (i - h)=i by omega] at this
 refine ⟨es,fun lt=>?_⟩
 have q:=r.vis i (Nat.zero_le _) lt
 rw [es] at q
 exact (shown_none q.symm).1
theorem zqz {c:Ch} {b s:Nat→Vl} {h:Nat} (r:Run c 0 c.top b s) (hh:h≤c.top) (e:s h=none):∀ i,i≤c.top→zaD (zbU b h) i=s i:=by
 have back:∀ k,k≤h→zaD (zbU b h) (h - k)=s (h - k):=by
  intro k
  induction k with
  | zero=>intro _; rw [Nat.sub_zero,zdK _ _ (by rw [zdj]; exact Nat.le_refl _),e]
  | succ k ih=>
   intro hk
   rw [zbI,zia,if_pos (by omega),show h - (k + 1) + 1=h - k by omega,ih (by omega)]
   have q:=r.vis (h - (k + 1)) (Nat.zero_le _) (by omega)
   rw [q,show h - (k + 1) + 1=h - k by omega]
 intro i hi
 by_cases c1:i≤h
 ·have:=back (h - i) (by omega)
  rwa [show h - (h - i)=i by omega] at this
 ·rw [zdK _ _ (by rw [zdj]; omega),(run_none r e i (by omega) hi).1]
theorem zqA {vals:List Str} {top:Nat} {fs:List Fc} (hl:∀ f∈fs,f.lvl < top) {b s:Nat→Vl} {h:Nat} (r:Run (ch0 vals top fs) 0 top b s) (hh:h≤top) (e:s h=none):∀ f∈fs,zbJ (zbU b h) f:=by
 intro f hf
 have lt:=hl f hf
 unfold zbJ
 cases hs:f.seen with
 | true=>
  rw [if_pos rfl,zqz (c:=ch0 vals top fs) r hh e f.lvl (Nat.le_of_lt lt)]
  exact (ch0_S.mp (r.mem f.lvl (Nat.zero_le _) (Nat.le_of_lt lt))).2 f hf hs rfl
 | false=>
  rw [if_neg (by simp),zia]
  have q:=(ch0_B.mp (r.own f.lvl (Nat.zero_le _) lt)).2 f hf hs rfl
  by_cases c:f.lvl < h
  ·rw [if_pos c]; exact q
  ·rw [if_neg c,← q]
   exact ((run_none (c:=ch0 vals top fs) r e f.lvl (by omega) (Nat.le_of_lt lt)).2 lt).symm
def zbK (b s:Nat→Vl) (top:Nat):List Vl:=zbU b top ++ [s top]
theorem zgd (b s:Nat→Vl) (top i:Nat):(zbK b s top).getD i none=if i < top then b i else if i=top then s top else none:=by
 unfold zbK
 have hl:=zdj b top
 by_cases c:i < top
 ·rw [if_pos c]
  have:=zia b top i
  rw [if_pos c] at this
  rw [← this]
  simp [List.getD,List.getElem?_append_left (by rw [hl]; exact c)]
 ·rw [if_neg c]
  simp only [List.getD]
  rw [List.getElem?_append_right (by rw [hl]; omega),hl]
  by_cases d:i=top
  ·rw [if_pos d,d]; simp
  ·rw [if_neg d,List.getElem?_eq_none (by simp; omega)]; rfl
theorem zlj {c:Ch} {b s:Nat→Vl} (r:Run c 0 c.top b s):∀ i,i≤c.top→zaD (zbK b s c.top) i=s i:=by
 have back:∀ k,k≤c.top→zaD (zbK b s c.top) (c.top - k)=s (c.top - k):=by
  intro k
  induction k with
  | zero=>
   intro _
   rw [Nat.sub_zero,zbI,zgd,if_neg (by omega),if_pos rfl,zdK _ _ (by unfold zbK; simp [zdj])]
   cases s c.top <;> rfl
  | succ k ih=>
   intro hk
   rw [zbI,zgd,if_pos (by omega),show c.top - (k + 1) + 1=c.top - k by omega,ih (by omega)]
   have q:=r.vis (c.top - (k + 1)) (Nat.zero_le _) (by omega)
   rw [q,show c.top - (k + 1) + 1=c.top - k by omega]
 intro i hi
 have:=back (c.top - i) (by omega)
 rwa [show c.top - (c.top - i)=i by omega] at this
theorem zib {vals:List Str} {top:Nat} {fs:List Fc} (hl:∀ f∈fs,f.lvl < top) {b s:Nat→Vl} (r:Run (ch0 vals top fs) 0 top b s):∀ f∈fs,zbJ (zbK b s top) f:=by
 intro f hf
 have lt:=hl f hf
 unfold zbJ
 cases hs:f.seen with
 | true=>
  rw [if_pos rfl]
  have q:=zlj (c:=ch0 vals top fs) r f.lvl (Nat.le_of_lt lt)
  rw [show zaD (zbK b s top) f.lvl=s f.lvl from q]
  exact (ch0_S.mp (r.mem f.lvl (Nat.zero_le _) (Nat.le_of_lt lt))).2 f hf hs rfl
 | false=>
  rw [if_neg (by simp),zgd,if_pos lt]
  exact (ch0_B.mp (r.own f.lvl (Nat.zero_le _) lt)).2 f hf hs rfl
def toV (vals:List Str) (z:Str) (o:Vl):Vl:=o.map fun v=>if v∈vals then v else z
theorem zlk {vals:List Str} {z:Str} (hz:z∈vals) (o:Vl):inV vals (toV vals z o):=fun v h=>by
 unfold toV at h
 cases o with
 | none=>cases h
 | some u=>
  simp only [Option.map_some,Option.some.injEq] at h
  by_cases c:u∈vals
  ·rw [if_pos c] at h; rw [← h]; exact c
  ·rw [if_neg c] at h; rw [← h]; exact hz
theorem zll {vals:List Str} {z:Str} {o:Vl} (h:inV vals o):toV vals z o=o:=by
 unfold toV
 cases o with
 | none=>rfl
 | some u=>simp [h u rfl]
theorem zqB {vals:List Str} {z:Str} (b f:Vl):toV vals z (shown b f)=shown (toV vals z b) (toV vals z f):=by
 cases b with
 | none=>rfl
 | some v=>rfl
theorem zic {vals:List Str} {z:Str} (hz:z∈vals) {top:Nat} {fs:List Fc} (hn:∀ f∈fs,inV vals f.v) {os:List Vl} (h:∀ f∈fs,zbJ os f) :
  Run (ch0 vals top fs) 0 top (fun i=>toV vals z (os.getD i none)) fun i=>toV vals z (zaD os i):=by
 refine ⟨fun i _ _=>ch0_B.mpr ⟨zlk hz _,fun f hf hs hl=>?_⟩,fun i _ _=>by rw [← zqB,← zbI],fun i _ _=>ch0_S.mpr ⟨zlk hz _,fun f hf hs hl=>?_⟩⟩
 ·have q:=h f hf
  unfold zbJ at q
  rw [hs,if_neg (by simp),hl] at q
  rw [q]
  exact zll (hn f hf)
 ·have q:=h f hf
  unfold zbJ at q
  rw [hs,if_pos rfl,hl] at q
  rw [q]
  exact zll (hn f hf)
end G
end
section
namespace G
open PySem
theorem Run.sub_hi {c:Ch} {lo hi k:Nat} {b s:Nat→Vl} (r:Run c lo hi b s) (h1:lo≤k) (h2:k≤hi):Run c k hi b s:=
 ⟨fun i a1 a2=>r.own i (by omega) a2,fun i a1 a2=>r.vis i (by omega) a2,fun i a1 a2=>r.mem i (by omega) a2⟩
def zbe (c:Ch):Nat:=((List.range (c.top + 1)).find? fun h=>(c.S h).contains none).getD (c.top + 1)
theorem zid {c:Ch}:zbe c≤c.top + 1:=by
 unfold zbe
 cases e:(List.range (c.top + 1)).find? fun h=>(c.S h).contains none with
 | none=>exact Nat.le_refl _
 | some h=>
  have:=List.mem_range.mp (List.mem_of_find?_eq_some e)
  show h≤c.top + 1
  omega
theorem zqC {c:Ch} (h:zbe c≤c.top):none∈c.S (zbe c):=by
 unfold zbe at h ⊢
 cases e:(List.range (c.top + 1)).find? fun h=>(c.S h).contains none with
 | none=>rw [e] at h; simp only [Option.getD_none] at h; omega
 | some k=>
  rw [Option.getD_some]
  have:=List.find?_some e
  simpa using this
theorem zqD {c:Ch} {k:Nat} (h:none∈c.S k) (hk:k≤c.top):zbe c≤k:=by
 unfold zbe
 cases e:(List.range (c.top + 1)).find? fun h=>(c.S h).contains none with
 | none=>
  have:=List.find?_eq_none.mp e k (List.mem_range.mpr (by omega))
  simp [h] at this
 | some j=>
  rw [Option.getD_some]
  rcases Nat.lt_or_ge k j with lt | ge
  ·exfalso
   obtain ⟨_,as,bs,e1,e2⟩:=List.find?_eq_some_iff_append.mp e
   have hm:k∈as:=by
    have hj:as.length=j:=by
     have h1:(List.range (c.top + 1))[as.length]?=some j:=by rw [e1]; simp
     rw [List.getElem?_range (by
      have:=congrArg List.length e1
      simp at this
      omega)] at h1
     exact Option.some.inj h1
    have h2:(List.range (c.top + 1))[k]?=some k:=List.getElem?_range (by omega)
    rw [e1,List.getElem?_append_left (by omega)] at h2
    exact List.mem_of_getElem? h2
   have:=e2 k hm
   simp [h] at this
  ·exact ge
def zie (c:Ch) (l:Nat) (f:Vl):Option (Vl × Vl):=((c.B l).find? fun b=>(c.S l).contains (shown b f)).map fun b=>(b,shown b f)
def zes (c:Ch):Nat→Vl→List Vl→List Vl
 | 0,_,acc=>acc
 | l + 1,f,acc=>match zie c l f with
  | some (b,s)=>zes c l s (b :: acc)
  | none=>acc
def zet (c:Ch):List Vl:=if c.top < zbe c then zes c c.top ((c.S c.top).headD none) [(c.S c.top).headD none] else zes c (zbe c) none []
section
variable {c0:Ch}
theorem zqE {l:Nat} {f:Vl} (hl:l < c0.top) (hf:f∈(narrow c0).S (l + 1)):∃ b,zie (narrow c0) l f=some (b,shown b f)∧b∈(narrow c0).B l∧shown b f∈(narrow c0).S l:=by
 obtain ⟨b,s,e,r⟩:=zgc (c:=c0) (by omega) hf
 have r':=zer r
 have h1:=r'.own l (Nat.zero_le _) hl
 have h2:=r'.mem l (Nat.zero_le _) (by omega)
 rw [r'.vis l (Nat.zero_le _) hl,e] at h2
 unfold zie
 cases q:((narrow c0).B l).find? fun b=>((narrow c0).S l).contains (shown b f) with
 | none=>
  have:=List.find?_eq_none.mp q _ h1
  simp [h2] at this
 | some b'=>exact ⟨b',rfl,List.mem_of_find?_eq_some q,by simpa using List.find?_some q⟩
theorem zif:∀ (l:Nat) (f:Vl) (acc:List Vl),l≤c0.top→f∈(narrow c0).S l→∃b s,Run (narrow c0) 0 l b s∧s l=f∧zes (narrow c0) l f acc=zbU b l ++ acc
 | 0,f,acc,_,hf=>⟨fun _=>none,fun _=>f,⟨fun i a1 a2=>by omega,fun i a1 a2=>by omega,fun i a1 a2=>by
   have:i=0:=by omega
   rw [this]; exact hf⟩,rfl,rfl⟩
 | l + 1,f,acc,hl,hf=>by
  obtain ⟨b0,e0,h1,h2⟩:=zqE (c0:=c0) (by omega) hf
  obtain ⟨b,s,r,e1,e2⟩:=zif l (shown b0 f) (b0 :: acc) (by omega) h2
  refine ⟨fun i=>if i=l then b0 else b i,fun i=>if i=l + 1 then f else s i,⟨fun i a1 a2=>?_,fun i a1 a2=>?_,fun i a1 a2=>?_⟩,by simp only [if_true],?_⟩
  ·by_cases z:i=l
   ·simp only [z,if_true]; exact h1
   ·simp only [z,if_false]; exact r.own i a1 (by omega)
  ·by_cases z:i=l
   ·subst z
    simp only [if_true,show (i=i + 1)=False from eq_false (by omega),if_false,e1]
   ·simp only [z,show (i=l + 1)=False from eq_false (by omega),show (i + 1=l + 1)=False from eq_false (by omega),if_false]; exact r.vis i a1 (by omega)
  ·by_cases z:i=l + 1
   ·simp only [z,if_true]; exact hf
   ·simp only [z,if_false]; exact r.mem i a1 (by omega)
  ·unfold zes
   rw [e0]
   simp only
   rw [e2]
   have q:zbU (fun i=>if i=l then b0 else b i) (l + 1)=zbU b l ++ [b0]:=by
    unfold zbU
    rw [List.range_succ,List.map_append]
    congr 1
    ·refine List.map_congr_left fun i hi=>?_
     have:=List.mem_range.mp hi
     simp only [show (i=l)=False from eq_false (by omega),if_false]
    ·simp
   rw [q,List.append_assoc]
   rfl
end
theorem zqF {c0:Ch} (hne:∀ l,l≤c0.top→(narrow c0).S l ≠ []) :
  ∃ b s,Run c0 0 c0.top b s∧((zbe (narrow c0)≤c0.top∧s (zbe (narrow c0))=none∧zet (narrow c0)=zbU b (zbe (narrow c0)))∨(zbe (narrow c0)=c0.top + 1∧zet (narrow c0)=zbK b s c0.top)):=by
 have ht:=zf8 c0
 by_cases c:c0.top < zbe (narrow c0)
 ·have hd:zbe (narrow c0)=c0.top + 1:=by
   have:=zid (c:=narrow c0)
   rw [ht] at this
   omega
  obtain ⟨f,r,ef⟩:∃ f r,(narrow c0).S c0.top=f :: r:=by
   cases q:(narrow c0).S c0.top with
   | nil=>exact absurd q (hne c0.top (Nat.le_refl _))
   | cons f r=>exact ⟨f,r,rfl⟩
  obtain ⟨b,s,r1,e1,e2⟩:=zif (c0:=c0) c0.top f [f] (Nat.le_refl _) (by rw [ef]; exact List.mem_cons_self)
  refine ⟨b,s,zgb r1,.inr ⟨hd,?_⟩⟩
  unfold zet
  rw [ht,if_pos c,ef]
  show zes (narrow c0) c0.top f [f]=_
  rw [e2]
  unfold zbK
  rw [e1]
 ·have c':zbe (narrow c0)≤c0.top:=by omega
  have hn:=zqC (c:=narrow c0) (by rw [ht]; exact c')
  obtain ⟨b1,s1,r1,e1,e2⟩:=zif (c0:=c0) (zbe (narrow c0)) none [] c' hn
  obtain ⟨b2,s2,e3,r2⟩:=zgc (c:=c0) c' hn
  have r2':=(zer r2).sub_hi (Nat.zero_le _) c'
  have rj:=r1.join (by rw [ht]; exact r2') (by rw [ht]; exact c') (by rw [e1,e3])
  rw [ht] at rj
  refine ⟨_,_,zgb rj,.inl ⟨c',?_,?_⟩⟩
  ·simp only [Nat.lt_irrefl,if_false]; exact e3
  ·unfold zet
   rw [ht,if_neg c,e2,List.append_nil]
   unfold zbU
   refine List.map_congr_left fun i hi=>?_
   simp only [List.mem_range.mp hi,if_true]
structure Vals (vals:List Str) (fs:List Fc):Prop where
 two:∃ z1 z2,z1∈vals∧z2∈vals∧z1≠z2
 nd:vals.Nodup
 named:∀ f∈fs,inV vals f.v
section
variable {vals:List Str} {top:Nat} {fs:List Fc}
def Has (os:List Vl) (fs:List Fc):Prop := ∀ f∈fs,zbJ os f
theorem Vals.spare (h:Vals vals fs) (o:Vl):∃ z∈vals,o≠some z:=by
 obtain ⟨z1,z2,h1,h2,h3⟩:=h.two
 by_cases c:o=some z1
 ·exact ⟨z2,h2,fun e=>h3 (by rw [c] at e; exact Option.some.inj e)⟩
 ·exact ⟨z1,h1,c⟩
theorem zqG (h:Vals vals fs) {os:List Vl} (hs:Has os fs):∀ l,l≤top→(narrow (ch0 vals top fs)).S l ≠ []:=fun l hl e=>by
 obtain ⟨z,hz,_⟩:=h.spare none
 have r:=zer (c:=ch0 vals top fs) (zic hz (top:=top) h.named hs)
 have:=r.mem l (Nat.zero_le _) hl
 rw [e] at this
 cases this
theorem zlm (h:Vals vals fs) {os:List Vl} (hs:Has os fs) {z:Str} (hz:z∈vals) {l:Nat} (hl:l≤top):toV vals z (zaD os l)∈(narrow (ch0 vals top fs)).S l:=
 (zer (c:=ch0 vals top fs) (zic hz (top:=top) h.named hs)).mem l (Nat.zero_le _) hl
theorem zqH (h:Vals vals fs) {os:List Vl} (hs:Has os fs) {z:Str} (hz:z∈vals) {l:Nat} (hl:l < top):toV vals z (os.getD l none)∈(narrow (ch0 vals top fs)).B l:=
 (zer (c:=ch0 vals top fs) (zic hz (top:=top) h.named hs)).own l (Nat.zero_le _) hl
theorem zln {z:Str} {o v:Vl} (e:toV vals z o=v) (hv:v≠some z):o=v:=by
 unfold toV at e
 cases o with
 | none=>exact e
 | some u=>
  simp only [Option.map_some] at e
  by_cases c:u∈vals
  ·rw [if_pos c] at e; exact e
  ·rw [if_neg c] at e; exact absurd e.symm hv
theorem zqI (h:Vals vals fs) {os:List Vl} (hs:Has os fs) {l:Nat} (hl:l≤top) {v:Vl} (e:(narrow (ch0 vals top fs)).S l = [v]):zaD os l=v:=by
 obtain ⟨z,hz,hv⟩:=h.spare v
 have:=zlm h hs hz hl (top:=top)
 rw [e] at this
 exact zln (List.mem_singleton.mp this) hv
theorem zqJ (h:Vals vals fs) {os:List Vl} (hs:Has os fs) {l:Nat} (hl:l < top) {v:Vl} (e:(narrow (ch0 vals top fs)).B l = [v]):os.getD l none=v:=by
 obtain ⟨z,hz,hv⟩:=h.spare v
 have:=zqH h hs hz hl (top:=top)
 rw [e] at this
 exact zln (List.mem_singleton.mp this) hv
theorem zqK (hl:∀ f∈fs,f.lvl < top) {l:Nat} (h:l≤top) {v:Vl} (hv:v∈(narrow (ch0 vals top fs)).S l):∃ os,Has os fs∧zaD os l=v∧os.length=top + 1:=by
 obtain ⟨b,s,e,r⟩:=zgc (c:=ch0 vals top fs) h hv
 refine ⟨zbK b s top,zib hl r,?_,?_⟩
 ·have:=zlj (c:=ch0 vals top fs) r l h
  rw [show zaD (zbK b s top) l=s l from this,e]
 ·unfold zbK; simp [zdj]
theorem zqL (hl:∀ f∈fs,f.lvl < top) {l:Nat} (h:l < top) {v:Vl} (hv:v∈(narrow (ch0 vals top fs)).B l):∃ os,Has os fs∧os.getD l none=v∧os.length=top + 1:=by
 obtain ⟨b,s,e,r⟩:=zqy (c:=ch0 vals top fs) h hv
 exact ⟨zbK b s top,zib hl r,by rw [zgd,if_pos h,e],by unfold zbK; simp [zdj]⟩
theorem zlo (h:Vals vals fs) {os:List Vl} (hs:Has os fs):zbe (narrow (ch0 vals top fs))≤os.length:=by
 have ht:=zf8 (ch0 vals top fs)
 by_cases c:os.length≤top
 ·obtain ⟨z,hz,_⟩:=h.spare none
  have:=zlm h hs hz c (top:=top)
  rw [zdK os _ (Nat.le_refl _)] at this
  exact zqD this (by rw [ht]; exact c)
 ·have:=zid (c:=narrow (ch0 vals top fs))
  rw [ht] at this
  show _≤_
  have e:(ch0 vals top fs).top=top:=rfl
  omega
theorem zig (hl:∀ f∈fs,f.lvl < top) (hne:∀ l,l≤top→(narrow (ch0 vals top fs)).S l ≠ []):Has (zet (narrow (ch0 vals top fs))) fs∧(zet (narrow (ch0 vals top fs))).length=zbe (narrow (ch0 vals top fs)):=by
 obtain ⟨b,s,r,⟨h1,h2,h3⟩ | ⟨h1,h3⟩⟩:=zqF (c0:=ch0 vals top fs) hne
 ·rw [h3]
  exact ⟨zqA hl r h1 h2,zdj _ _⟩
 ·rw [h3,h1]
  refine ⟨zib hl r,?_⟩
  unfold zbK; simp [zdj]
end
end G
end
section
namespace G
open PySem PySem.Spec PyProof.Rows L2 Z PySem.SeqAt
def col (n:Ne) (x:Str):List Vl:=n.map fun s=>s.lookup x
theorem zlp (n:Ne) (x:Str):(col n x).length=n.length:=by unfold col; simp
structure Fa where
 nm:Str
 fc:Fc
def ofN (fs:List Fa) (x:Str):List Fc:=(fs.filter fun f=>f.nm == x).map (·.fc)
theorem mem_ofN {fs:List Fa} {x:Str} {c:Fc}:c∈ofN fs x↔⟨x,c⟩∈fs:=by
 unfold ofN
 simp only [List.mem_map,List.mem_filter,beq_iff_eq]
 constructor
 ·rintro ⟨⟨nm,fc⟩,⟨h,rfl⟩,rfl⟩; exact h
 ·intro h; exact ⟨⟨x,c⟩,⟨h,rfl⟩,rfl⟩
def Ans (n:Ne) (d:Nat) (fs:List Fa):Prop:=d≤n.length∧∀f∈fs,sat (col n f.nm) f.fc
structure Plan (fs:List Fa) where
 names:List Str
 vals:Str→List Str
 top:Str→Nat
 nd:names.Nodup
 all:∀ x,x∈names↔∃ f∈fs,f.nm=x
 ok:∀ x∈names,Vals (vals x) (ofN fs x)
 lt:∀ x,∀f∈ofN fs x,f.lvl < top x
section
variable {fs:List Fa} (p:Plan fs)
def Plan.ch (x:Str):Ch:=narrow (ch0 (p.vals x) (p.top x) (ofN fs x))
def Plan.pos (x:Str):Bool:=(List.range (p.top x + 1)).all fun l => !((p.ch x).S l).isEmpty
theorem Plan.pos_iff (x:Str):p.pos x=true↔∀ l,l≤p.top x→(p.ch x).S l ≠ []:=by
 unfold Plan.pos
 simp only [List.all_eq_true,List.mem_range,Bool.not_eq_true',List.isEmpty_eq_false_iff]
 exact ⟨fun h l hl=>h l (by omega),fun h l hl=>h l (by omega)⟩
def Plan.least (d:Nat):Nat:=(((fs.filter fun f:Fa => !f.fc.seen).map fun f:Fa=>f.fc.lvl + 1) ++ p.names.map fun x=>zbe (p.ch x)).foldl max d
theorem zqM {l:List Nat} {d m:Nat}:l.foldl max d≤m↔d≤m∧∀x∈l,x≤m:=by
 induction l generalizing d with
 | nil=>simp
 | cons a r ih=>
  rw [List.foldl_cons,ih]
  simp only [List.mem_cons]
  constructor
  ·rintro ⟨h1,h2⟩
   exact ⟨by omega,fun x hx=>by exact hx.elim (fun e=>by omega) (h2 x)⟩
  ·rintro ⟨h1,h2⟩
   exact ⟨by have:=h2 a (.inl rfl); omega,fun x hx=>h2 x (.inr hx)⟩
theorem Plan.least_le {d m:Nat}:p.least d≤m↔d≤m∧(∀ f∈fs,f.fc.seen=false→f.fc.lvl < m)∧∀x∈p.names,zbe (p.ch x)≤m:=by
 unfold Plan.least
 rw [zqM]
 refine and_congr_right fun _=>?_
 simp only [List.mem_append,List.mem_map,List.mem_filter,Bool.not_eq_true']
 constructor
 ·intro h
  exact ⟨fun f hf hs=>h (f.fc.lvl + 1) (.inl ⟨f,⟨hf,hs⟩,rfl⟩),fun x hx=>h _ (.inr ⟨x,hx,rfl⟩)⟩
 ·rintro ⟨h1,h2⟩ m' (⟨f,⟨hf,hs⟩,rfl⟩ | ⟨x,hx,rfl⟩)
  ·exact h1 f hf hs
  ·exact h2 x hx
theorem Ans.has {n:Ne} {d:Nat} (h:Ans n d fs) (x:Str):Has (col n x) (ofN fs x):=fun c hc=>(sat_W.mp (h.2 ⟨x,c⟩ (mem_ofN.mp hc))).1
theorem Plan.min {n:Ne} {d:Nat} (h:Ans n d fs):p.least d≤n.length:=by
 refine p.least_le.mpr ⟨h.1,fun f hf hs=>?_,fun x hx=>?_⟩
 ·have:=(sat_W.mp (h.2 f hf)).2 hs
  rwa [zlp] at this
 ·have:=zlo (top:=p.top x) (p.ok x hx) (h.has x)
  rwa [zlp] at this
end
end G
end
section
namespace G
open PySem PySem.Spec PyProof.Rows L2 Z PySem.SeqAt
def Sol (fs:List Fa):Prop := ∀ x,∃os,Has os (ofN fs x)
theorem Plan.pos_has {fs:List Fa} (p:Plan fs) {x:Str} (hx:x∈p.names):p.pos x=true↔∃ os,Has os (ofN fs x):=
 ⟨fun h=>⟨_,(zig (p.lt x) ((p.pos_iff x).mp h)).1⟩,fun ⟨os,h⟩=>(p.pos_iff x).mpr (zqG (p.ok x hx) h)⟩
theorem Plan.sol_iff {fs:List Fa} (p:Plan fs):Sol fs↔∀ x∈p.names,p.pos x=true:=by
 refine ⟨fun h x hx=>(p.pos_has hx).mpr (h x),fun h x=>?_⟩
 by_cases hx:x∈p.names
 ·exact (p.pos_has hx).mp (h x hx)
 ·refine ⟨[],fun c hc=>?_⟩
  exact absurd ((p.all x).mpr ⟨⟨x,c⟩,mem_ofN.mp hc,rfl⟩) hx
end G
end
section
namespace G
open PySem PySem.Spec PyProof.Rows L2 Z PySem.SeqAt
def zb3 (cs:List Str) (f:Str):T→Mem→Out T:=fun t M1=>match zhT M1 t with
 | some (c,fs)=>if cs.contains c=true then (match zfX f fs with
  | some u => .ok u M1
  | none => .no) else .no
 | none => .no
@[simp ↓] theorem u_fld (cs:List Str) (f:Str) (de:DE) (s:Sg) (M:Mem):zay cs f de s M=(de s M).bind (zb3 cs f):=rfl
theorem zge {cs:List Str} {f:Str} {do_ de:DE} {s:Sg} {M M1 M2:Mem} {v t:T} (hv:de s M = .ok v M1) (ho:do_ s M1 = .ok t M1) (hp:zdg cs f v t M1=some M2):zb0 cs f do_ de s M = .nx s M2:=by
 unfold zb0
 rw [hv,zb4,ho,zb4,hp]
end G
end
section
namespace G
open PySem PySem.Spec PyProof.Rows L2 Z PySem.SeqAt
theorem zlq (v:Vl):∀ xs:List Vl,zcz (fun y=>eqF true zaX y (enO v)) (xs.map enO)=some (xs.any (· == v))
 | []=>rfl
 | x :: r=>by
  rw [List.map_cons]
  unfold zcz
  rw [zlq v r,show eqF true zaX (enO x) (enO v)=some (decide (x=v)) from zcI x v 29]
  have e:(x == v)=decide (x=v):=by
   by_cases c:x=v <;> simp [c]
  simp [List.any_cons,e]
theorem zqN (v:Vl) (xs:List Vl):(xs.any (· == v))=xs.contains v:=by
 induction xs with
 | nil=>rfl
 | cons a r ih=>
  rw [List.any_cons,List.contains_cons,ih]
  congr 1
  exact BEq.comm
theorem zih (v:Vl) (xs:List Vl) (M:Mem):gIn (enO v) (.lst (xs.map enO)) M=some (.bl (xs.contains v),M):=by
 have q:zcX (enO v) (.lst (xs.map enO)) M=some (xs.contains v):=by
  have h:zdX M (enO v) (.lst (xs.map enO))=some (xs.contains v):=by
   show zcz (fun y=>eqF true zaX y (enO v)) (xs.map enO)=_
   rw [zlq,zqN]
  cases v with
  | none=>exact h
  | some u=>exact h
 unfold gIn
 rw [q]
 rfl
def lT (l:List Vl):T := .lst (l.map enO)
theorem zgf (l:List Vl):zal (lT l)=true:=by unfold lT; simp only [zal]; exact zbm zen l
def sT (c:Ch):List T:=(List.range (c.top + 1)).map fun l=>lT (c.S l)
def bT (c:Ch):List T:=(List.range c.top).map fun l=>lT (c.B l)
theorem zfd {c:Ch} {l:Nat} (h:l≤c.top):atI (sT c) (l:Int)=some (lT (c.S l)):=by
 unfold sT
 rw [at_pos,List.getElem?_map,List.getElem?_range (by omega)]; rfl
theorem zii {c:Ch} {l:Nat} (h:l < c.top):atI (bT c) (l:Int)=some (lT (c.B l)):=by
 unfold bT
 rw [at_pos,List.getElem?_map,List.getElem?_range h]; rfl
def F0 (top:Nat):List (Str × T) := [("own_top",.int (top:Int)),("own_values",.cel 1),("own_seen",.cel 2),("own_bound",.cel 3)]
def k0 (top:Nat):Cell := .live (.ins "Chain" (F0 top))
section
variable {top:Nat} {r:Mem} {a b c d:Cell} {xs:List T}
@[simp] theorem f_top:zb3 ["Chain"] "own_top" (.cel 0) (k0 top :: r) = .ok (.int (top:Int)) (k0 top :: r):=by kernel_rfl
@[simp] theorem f_vals:zb3 ["Chain"] "own_values" (.cel 0) (k0 top :: r) = .ok (.cel 1) (k0 top :: r):=by kernel_rfl
@[simp] theorem f_seen:zb3 ["Chain"] "own_seen" (.cel 0) (k0 top :: r) = .ok (.cel 2) (k0 top :: r):=by kernel_rfl
@[simp] theorem f_bound:zb3 ["Chain"] "own_bound" (.cel 0) (k0 top :: r) = .ok (.cel 3) (k0 top :: r):=by kernel_rfl
@[simp] theorem ix_c2 (i:Int):gIx (.cel 2) (.int i) (a :: b :: .live (.lst xs) :: r)=pr (a :: b :: .live (.lst xs) :: r) (atI xs i):=rfl
@[simp] theorem ix_c3 (i:Int):gIx (.cel 3) (.int i) (a :: b :: c :: .live (.lst xs) :: r)=pr (a :: b :: c :: .live (.lst xs) :: r) (atI xs i):=rfl
@[simp ↓] theorem w_m_c4 (g:OpM) (da:DA) (s:Sg):zcF "list" g da s (.cel 4) (a :: b :: c :: d :: .live (.lst xs) :: r)=(da s (a :: b :: c :: d :: .live (.lst xs) :: r)).bind (zck g (.cel 4)):=rfl
@[simp] theorem app_c4 (y:T):zbo (.cel 4) [y] (a :: b :: c :: d :: .live (.lst xs) :: r)=if xs.length < LIM then some (.non,a :: b :: c :: d :: .live (.lst (xs ++ [y])) :: r) else none:=rfl
end
def cm (c:Ch) (vt:Cell) (r:Mem):Mem:=k0 c.top :: vt :: .live (.lst (sT c)) :: .live (.lst (bT c)) :: r
def enP (p:Vl × Vl × Vl):T := .tup [enO p.1,enO p.2.1,enO p.2.2]
theorem zqO (p:Vl × Vl × Vl):zal (enP p)=true:=by simp [enP,zal,zau,zen]
def pL (ps:List (Vl × Vl × Vl)):Cell := .live (.lst (ps.map enP))
theorem zgg (b:Vl) (M:Mem):gIs (enO b) .non M=some (.bl b.isNone,M):=by cases b <;> rfl
def nlI (l:T):DS:=zag (zaw 5 (zbh (zai (zac gIs (zaa 3) (dC .non))) (zaa 4) (zaa 3))) (dIf (zai (zac gIn (zaa 5) (zac gIx (zay ["Chain"] "own_seen" (zaa 0)) (zaa 1)))) (zaW (zbc "list" zbo (zaa 2) (zab (dTup (zab (zaa 5) (zab (zaa 3) (zab (zaa 4) (zad))))) (zad)))) (dNx))
def stN (l:Nat) (b:Option T):Sg := [some (.cel 0),some (.int (l:Int)),some (.cel 4),b,none,none,none,none]
theorem zqP {c:Ch} {vt:Cell} {l:Nat} (hl:l < c.top) (b:Vl) (fs:List Vl) (ps:List (Vl × Vl × Vl)) (hz:ps.length + fs.length≤2000000) :
  forL (gN 4) (zaP [4,5] (nlI .non)) (fs.map enO) (stN l (some (enO b))) (cm c vt [pL ps]) = .nx (stN l (some (enO b))) (cm c vt [pL (ps ++ (fs.filter fun f=>(c.S l).contains (shown b f)).map fun f=>(shown b f,b,f))]):=by
 have hat:=zfd (c:=c) (Nat.le_of_lt hl)
 have key:=zkH (α := List (Vl × Vl × Vl)) (g:=gN 4) (b:=zaP [4,5] (nlI .non)) (it:=enO) (sO:=fun _=>stN l (some (enO b))) (mO:=fun ps=>cm c vt [pL ps]) (f:=fun ps f=>if (c.S l).contains (shown b f)=true then ps ++ [(shown b f,b,f)] else ps)
  (Inv:=fun r ps=>ps.length + r.length≤2000000) fs (fun f hf r ps hi=>by
   have hlen:ps.length < 16777216:=by simp at hi; omega
   have hin:=zih (shown b f) (c.S l)
   refine ⟨[some (.cel 0),some (.int (l:Int)),some (.cel 4),some (enO b),some (enO f),none,none,none],by simp [stN],?_,?_⟩
   ·have es:enO (shown b f)=if b.isNone=true then enO f else enO b:=by cases b <;> rfl
    cases hb:b with
    | none=>
     subst hb
     simp only [shown] at hin ⊢
     by_cases hc:f∈c.S l
     ·simp [nlI,cm,zgg,hat,lT,hin,hc,pL,hlen,zbd,stN,enP]
     ·simp [nlI,cm,zgg,hat,lT,hin,hc,pL,hlen,zbd,stN,enP]
    | some u=>
     subst hb
     simp only [shown] at hin ⊢
     by_cases hc:some u∈c.S l
     ·simp [nlI,cm,zgg,hat,lT,hin,hc,pL,hlen,zbd,stN,enP]
     ·simp [nlI,cm,zgg,hat,lT,hin,hc,pL,hlen,zbd,stN,enP]
   ·by_cases hc:(c.S l).contains (shown b f)=true
    ·rw [if_pos hc]; simp at hi ⊢; omega
    ·rw [if_neg hc]; simp at hi ⊢; omega) ps hz
 have e:∀ (fs:List Vl) (ps:List (Vl × Vl × Vl)),fs.foldl (fun ps f=>if (c.S l).contains (shown b f)=true then ps ++ [(shown b f,b,f)] else ps) ps=ps ++ (fs.filter fun f=>(c.S l).contains (shown b f)).map fun f=>(shown b f,b,f):=by
  intro fs
  induction fs with
  | nil=>intro ps; simp
  | cons f r ih=>
   intro ps
   rw [List.foldl_cons,ih]
   by_cases hc:(c.S l).contains (shown b f)=true
   ·rw [if_pos hc,List.filter_cons,if_pos hc]; simp
   ·rw [if_neg hc,List.filter_cons,if_neg hc]
 rw [e] at key
 exact key.1
end G
end
section
namespace G
open PySem PySem.Spec PyProof.Rows L2 Z PySem.SeqAt
def nlO:DS:=zaH (zar (zac gIx (zay ["Chain"] "own_seen" (zaa 0)) (zac (zan false) (zaa 1) (dC (.int 1))))) (gN 4) (nlI .non) [4,5]
theorem zlr (bs:List Vl) (b:Vl) (S S':List Vl):pairs (b :: bs) S S'=(S'.filter fun f=>S.contains (shown b f)).map (fun f=>(shown b f,b,f)) ++ pairs bs S S':=rfl
theorem zls {c:Ch} {vt:Cell} {l:Nat} (hl:l < c.top) (hS:(c.S (l + 1)).length≤1000):∀ (bs:List Vl) (ps:List (Vl × Vl × Vl)),ps.length + bs.length * 1000≤1000000 →
  forL (gN 3) (zaP [3,4,5] nlO) (bs.map enO) (stN l none) (cm c vt [pL ps]) = .nx (stN l none) (cm c vt [pL (ps ++ pairs bs (c.S l) (c.S (l + 1)))])
 | [],ps,_=>by
  show OutS.nx _ _=_
  unfold pairs
  rw [List.flatMap_nil,List.append_nil]
 | b :: r,ps,hz=>by
  rw [List.length_cons,Nat.succ_mul] at hz
  have e1:atI (sT c) ((l:Int) + 1)=some (lT (c.S (l + 1))):=by
   have:=zfd (c:=c) (l:=l + 1) hl
   rwa [show ((l + 1:Nat):Int)=(l:Int) + 1 by omega] at this
  have hi:=zqP (vt:=vt) hl b (c.S (l + 1)) ps (by omega)
  have turn:zaP [3,4,5] nlO (stN l (some (enO b))) (cm c vt [pL ps]) = .nx (stN l none) (cm c vt [pL (ps ++ ((c.S (l + 1)).filter fun f=>(c.S l).contains (shown b f)).map fun f=>(shown b f,b,f))]):=by
   have hw:nlO (stN l (some (enO b))) (cm c vt [pL ps]) = .nx (stN l (some (enO b))) (cm c vt [pL (ps ++ ((c.S (l + 1)).filter fun f=>(c.S l).contains (shown b f)).map fun f=>(shown b f,b,f))]):=by
    rw [← hi]
    unfold nlO
    rw [u_forW]
    have q:zas (stN l (some (enO b))) [4,5]=stN l (some (enO b)):=by simp [stN,zas]
    rw [q]
    have d:zar (zac gIx (zay ["Chain"] "own_seen" (zaa 0)) (zac (zan false) (zaa 1) (dC (.int 1)))) (stN l (some (enO b))) (cm c vt [pL ps]) = .ok ((c.S (l + 1)).map enO) (cm c vt [pL ps]):=by
     simp [stN,cm,e1,lT]
    rw [d]
    rfl
   rw [u_trim,hw]
   have q:zas (stN l (some (enO b))) [3,4,5]=stN l none:=rfl
   have t:∀ M:Mem,M.length=(cm c vt [pL ps]).length→zcl (cm c vt [pL ps]).length [3,4,5] (.nx (stN l (some (enO b))) M) = .nx (stN l none) M:=fun M h=>by rw [zbd _ h,q]
   exact t _ rfl
  rw [List.map_cons]
  unfold forL
  have eg:gN 3 (enO b) (stN l none)=some (stN l (some (enO b))):=by simp [stN]
  rw [eg]
  simp only
  rw [turn]
  simp only
  rw [zls hl hS r _ (by
   have h1:(((c.S (l + 1)).filter fun f=>(c.S l).contains (shown b f)).map fun f=>(shown b f,b,f)).length≤(c.S (l + 1)).length:=by
    rw [List.length_map]; exact List.length_filter_le _ _
   rw [List.length_append]
   omega),zlr,List.append_assoc]
theorem zqQ {a b c d:Cell} {r:Mem} {xs:List T} (h:zau xs=true) (dp:zaU xs≤18):frz za3 (.cel 4) (a :: b :: c :: d :: .live (.lst xs) :: r)=some (.lst xs,a :: b :: c :: d :: .dead :: r):=by
 show frz 19 (.lst xs) (a :: b :: c :: d :: .dead :: r)=_
 exact zc9 (by simp only [zal]; exact h) (by simp only [dep]; omega)
def prj (j:Nat) (p:Vl × Vl × Vl):Vl:=if j=0 then p.1 else if j=1 then p.2.1 else p.2.2
theorem zqR (p:Vl × Vl × Vl) (j:Nat) (h:j < 3):atI [enO p.1,enO p.2.1,enO p.2.2] (j:Int)=some (enO (prj j p)):=by
 match j,h with
 | 0,_=>rfl
 | 1,_=>rfl
 | 2,_=>rfl
def zdk (de:DE) (j:Int):DE:=dLc false (zar de) (gN 6) (zai (zac gIn (zaa 6) (dLc false (zar (zaa 2)) (gN 7) (zaJ) (zac gIx (zaa 7) (dC (.int j))) [7]))) (zaa 6) [6]
def stP (l:Nat) (ps:List (Vl × Vl × Vl)):Sg := [some (.cel 0),some (.int (l:Int)),some (.lst (ps.map enP)),none,none,none,none,none]
theorem keep_ok {l:Nat} {ps:List (Vl × Vl × Vl)} (hz:ps.length≤2000000) {j:Nat} (hj:j < 3) {de:DE} {xs:List Vl} (hx:xs.length≤1000) {M:Mem} (hd:de (stP l ps) M = .ok (lT xs) M) :
  zdk de (j:Int) (stP l ps) M = .ok (lT (xs.filter fun v=>(ps.map (prj j)).contains v)) M:=by
 have inner:∀ v:Vl,dLc false (zar (zaa 2)) (gN 7) (zaJ) (zac gIx (zaa 7) (dC (.int (j:Int)))) [7] [some (.cel 0),some (.int (l:Int)),some (.lst (ps.map enP)),none,none,none,some (enO v),none] M = .ok (lT (ps.map (prj j))) M:=fun v=>by
  have key:=zbQ (g:=gN 7) (tt:=zaJ) (de:=zac gIx (zaa 7) (dC (.int (j:Int)))) (s0 := [some (.cel 0),some (.int (l:Int)),some (.lst (ps.map enP)),none,none,none,some (enO v),none]) (M:=M) (it:=enP) (p:=fun _=>true) (f:=fun p=>enO (prj j p)) ps (fun p hp=>by
   refine ⟨[some (.cel 0),some (.int (l:Int)),some (.lst (ps.map enP)),none,none,none,some (enO v),some (enP p)],by simp,by simp,fun _=>?_⟩
   have:=zqR p j hj
   simp [enP,this])
  have hl:ps.length≤16777216:=by omega
  rw [List.filter_eq_self.mpr fun _ _=>rfl] at key
  simp [hl]
  rw [key]
  simp [lT,Function.comp_def]
 have outer:=zbQ (g:=gN 6) (tt:=zai (zac gIn (zaa 6) (dLc false (zar (zaa 2)) (gN 7) (zaJ) (zac gIx (zaa 7) (dC (.int (j:Int)))) [7]))) (de:=zaa 6) (s0:=stP l ps) (M:=M) (it:=enO) (p:=fun v=>(ps.map (prj j)).contains v) (f:=enO) xs (fun v hv=>by
  refine ⟨[some (.cel 0),some (.int (l:Int)),some (.lst (ps.map enP)),none,none,none,some (enO v),none],by simp [stP],?_,fun _=>by simp⟩
  have hin:=zih v (ps.map (prj j)) M
  show (zac gIn (zaa 6) _ _ M).bind zho=_
  have e:zac gIn (zaa 6) (dLc false (zar (zaa 2)) (gN 7) (zaJ) (zac gIx (zaa 7) (dC (.int (j:Int)))) [7]) [some (.cel 0),some (.int (l:Int)),some (.lst (ps.map enP)),none,none,none,some (enO v),none] M = .ok (.bl ((ps.map (prj j)).contains v)) M:=by
   generalize dLc false (zar (zaa 2)) (gN 7) (zaJ) (zac gIx (zaa 7) (dC (.int (j:Int)))) [7]=q at inner
   simp only [lT] at inner
   have hin':=hin
   rw [List.map_map] at hin'
   simp [inner,hin']
  rw [e]
  simp)
 have hl:xs.length≤16777216:=by omega
 have hf:(xs.filter fun v=>(ps.map (prj j)).contains v).length≤16777216:=Nat.le_trans (List.length_filter_le _ _) hl
 unfold zdk
 generalize zai (zac gIn (zaa 6) (dLc false (zar (zaa 2)) (gN 7) (zaJ) (zac gIx (zaa 7) (dC (.int (j:Int)))) [7]))=tt at outer
 simp only [lT] at hd ⊢
 have q6:List.set (stP l ps) 6 none=stP l ps:=rfl
 simp [hd,hl]
 rw [q6,outer]
 simp
theorem ixN_nat {n l:Nat} (h:l < n):ixN n (l:Int)=some l:=by
 unfold ixN
 rw [if_pos (by omega),if_pos (by omega)]
 simp
section
variable {a b c d:Cell} {xs:List T} {r:Mem} {v:T} {l:Nat}
theorem zij (h:l < xs.length):zeV (.cel 2) (.int (l:Int)) v (a :: b :: .live (.lst xs) :: r)=some (a :: b :: .live (.lst (xs.set l v)) :: r):=by
 show (match ixN xs.length (l:Int) with
  | some j=>some ((a :: b :: .live (.lst xs) :: r).set 2 (.live (.lst (xs.set j v))))
  | none=>none)=_
 rw [ixN_nat h]
 rfl
theorem zlt (h:l < xs.length):zeV (.cel 3) (.int (l:Int)) v (a :: b :: c :: .live (.lst xs) :: r)=some (a :: b :: c :: .live (.lst (xs.set l v)) :: r):=by
 show (match ixN xs.length (l:Int) with
  | some j=>some ((a :: b :: c :: .live (.lst xs) :: r).set 3 (.live (.lst (xs.set j v))))
  | none=>none)=_
 rw [ixN_nat h]
 rfl
end
theorem zfe {dd dk dv:DE} {s:Sg} {M M4:Mem} {t u v:T} (hv:dv s M = .ok v M) (hd:dd s M = .ok t M) (hk:dk s M = .ok u M) (hp:zeV t u v M=some M4):zb1 dd dk dv s M = .nx s M4:=by
 unfold zb1
 rw [hv]
 show (dd s M).toS s _=_
 rw [hd]
 show (dk s M).toS s _=_
 rw [hk]
 show (match zeV t u v M with
  | some M4=>OutS.nx s M4
  | none => .no)=_
 rw [hp]
theorem zcK (c:Ch):(sT c).length=c.top + 1:=by unfold sT; simp
theorem zdl (c:Ch):(bT c).length=c.top:=by unfold bT; simp
theorem zqS {c:Ch} {l:Nat} (hl:l < c.top):((sT c).set l (lT (zce (pairs (c.B l) (c.S l) (c.S (l + 1))) (c.S l)))).set (l + 1) (lT (keep3 (pairs (c.B l) (c.S l) (c.S (l + 1))) (c.S (l + 1))))=sT (nl c l):=by
 apply List.ext_getElem?
 intro i
 have ht:(nl c l).top=c.top:=rfl
 by_cases hi:i < c.top + 1
 ·have e2:(sT (nl c l))[i]?=some (lT ((nl c l).S i)):=by
   unfold sT
   rw [List.getElem?_map,List.getElem?_range (by rw [ht]; exact hi)]; rfl
  rw [e2]
  by_cases z:i=l + 1
  ·subst z
   rw [List.getElem?_set_self (by rw [List.length_set,zcK]; exact hi)]
   unfold nl
   simp only [show (l + 1=l)=False from eq_false (by omega),if_false,if_true]
  ·rw [List.getElem?_set_ne (fun y=>z y.symm)]
   by_cases y:i=l
   ·subst y
    rw [List.getElem?_set_self (by rw [zcK]; exact hi)]
    unfold nl
    simp only [if_true]
   ·rw [List.getElem?_set_ne (fun w=>y w.symm),zdI y z]
    unfold sT
    rw [List.getElem?_map,List.getElem?_range hi]; rfl
 ·rw [List.getElem?_eq_none (by rw [List.length_set,List.length_set,zcK]; omega),List.getElem?_eq_none (by rw [zcK,ht]; omega)]
theorem zqT {c:Ch} {l:Nat} (hl:l < c.top):(bT c).set l (lT (keep2 (pairs (c.B l) (c.S l) (c.S (l + 1))) (c.B l)))=bT (nl c l):=by
 apply List.ext_getElem?
 intro i
 have ht:(nl c l).top=c.top:=rfl
 by_cases hi:i < c.top
 ·have e2:(bT (nl c l))[i]?=some (lT ((nl c l).B i)):=by
   unfold bT
   rw [List.getElem?_map,List.getElem?_range (by rw [ht]; exact hi)]; rfl
  rw [e2]
  by_cases y:i=l
  ·subst y
   rw [List.getElem?_set_self (by rw [zdl]; exact hi)]
   unfold nl
   simp only [if_true]
  ·rw [List.getElem?_set_ne (fun w=>y w.symm),zeq y]
   unfold bT
   rw [List.getElem?_map,List.getElem?_range hi]; rfl
 ·rw [List.getElem?_eq_none (by rw [List.length_set,zdl]; omega),List.getElem?_eq_none (by rw [zdl,ht]; omega)]
end G
end
section
namespace G
open PySem PySem.Spec PyProof.Rows L2 Z PySem.SeqAt
structure Small (c:Ch):Prop where
 S:∀ i,(c.S i).length≤1000
 B:∀ i,(c.B i).length≤1000
theorem Small.nl {c:Ch} (h:Small c) (l:Nat):Small (nl c l):=by
 refine ⟨fun i=>?_,fun i=>?_⟩
 ·unfold G.nl zce keep3
  simp only
  by_cases e:i=l
  ·rw [if_pos e]; exact Nat.le_trans (List.length_filter_le _ _) (h.S l)
  ·rw [if_neg e]
   by_cases e':i=l + 1
   ·rw [if_pos e']; exact Nat.le_trans (List.length_filter_le _ _) (h.S (l + 1))
   ·rw [if_neg e']; exact h.S i
 ·unfold G.nl keep2
  simp only
  by_cases e:i=l
  ·rw [if_pos e]; exact Nat.le_trans (List.length_filter_le _ _) (h.B l)
  ·rw [if_neg e]; exact h.B i
theorem zqU:zk3=zag (zaw 2 (zaq true zad)) (zag (zaH (zar (zac gIx (zay ["Chain"] "own_bound" (zaa 0)) (zaa 1))) (gN 3) nlO [3,4,5]) (zbZ 2 (zag (zb1 (zay ["Chain"] "own_seen" (zaa 0)) (zaa 1) (zdk (zac gIx (zay ["Chain"] "own_seen" (zaa 0)) (zaa 1)) 0)) (zag (zb1 (zay ["Chain"] "own_bound" (zaa 0)) (zaa 1) (zdk (zac gIx (zay ["Chain"] "own_bound" (zaa 0)) (zaa 1)) 1)) (zb1 (zay ["Chain"] "own_seen" (zaa 0)) (zac (zan false) (zaa 1) (dC (.int 1))) (zdk (zac gIx (zay ["Chain"] "own_seen" (zaa 0)) (zac (zan false) (zaa 1) (dC (.int 1)))) 2)))))):=rfl
theorem pairs_len {B S S':List Vl} (hB:B.length≤1000) (hS:S'.length≤1000):(pairs B S S').length≤1000000:=by
 have key:∀ B:List Vl,(pairs B S S').length≤B.length * 1000:=by
  intro B
  induction B with
  | nil=>exact Nat.zero_le _
  | cons b r ih=>
   rw [zlr,List.length_append,List.length_map,List.length_cons,Nat.succ_mul]
   have:=List.length_filter_le (fun f=>S.contains (shown b f)) S'
   omega
 have:=key B
 have:B.length * 1000≤1000 * 1000:=Nat.mul_le_mul_right _ hB
 omega
theorem zqV (p:Vl × Vl × Vl):dep (enP p)≤2:=by
 obtain ⟨a,b,d⟩:=p
 cases a <;> cases b <;> cases d <;> simp [enP,enO,dep,zaU]
theorem zqW {c:Ch} (sm:Small c) {vt:Cell} {l:Nat} (hl:l < c.top):zee [.cel 0,.int (l:Int)] (cm c vt []) = .ok .non (cm (nl c l) vt [.dead]):=by
 have hp:=pairs_len (S:=c.S l) (sm.B l) (sm.S (l + 1))
 have q1:zaw 2 (zaq true zad) (zaE 8 [.cel 0,.int (l:Int)]) (cm c vt []) = .nx (stN l none) (cm c vt [pL []]):=by
  simp [zaE,cm,stN,pL,mk]
 have q2:zaH (zar (zac gIx (zay ["Chain"] "own_bound" (zaa 0)) (zaa 1))) (gN 3) nlO [3,4,5] (stN l none) (cm c vt [pL []]) = .nx (stN l none) (cm c vt [pL (pairs (c.B l) (c.S l) (c.S (l + 1)))]):=by
  have o:=zls (vt:=vt) hl (sm.S (l + 1)) (c.B l) [] (by have:=sm.B l; simp; omega)
  rw [List.nil_append] at o
  rw [← o,u_forW]
  have w:zas (stN l none) [3,4,5]=stN l none:=rfl
  rw [w]
  have hat:=zii hl
  have d:zar (zac gIx (zay ["Chain"] "own_bound" (zaa 0)) (zaa 1)) (stN l none) (cm c vt [pL []]) = .ok ((c.B l).map enO) (cm c vt [pL []]):=by
   simp [stN,cm,hat,lT]
  rw [d]
  rfl
 generalize hps:pairs (c.B l) (c.S l) (c.S (l + 1))=ps at q2 hp
 have hz:ps.length≤2000000:=by omega
 have hat1:=zfd (c:=c) (Nat.le_of_lt hl)
 have hat2:=zii hl
 -- the stores
 have p1:zb1 (zay ["Chain"] "own_seen" (zaa 0)) (zaa 1) (zdk (zac gIx (zay ["Chain"] "own_seen" (zaa 0)) (zaa 1)) 0) (stP l ps) (cm c vt [.dead]) = .nx (stP l ps) (k0 c.top :: vt :: .live (.lst ((sT c).set l (lT (zce ps (c.S l))))) :: .live (.lst (bT c)) :: [.dead]):=by
  refine zfe (v:=lT (zce ps (c.S l))) (t := .cel 2) (u := .int (l:Int)) (keep_ok hz (j:=0) (by omega) (sm.S l) ?_) ?_ ?_ (zij (by rw [zcK]; omega))
  ·simp [stP,cm,hat1]
  ·simp [stP,cm]
  ·simp [stP]
 have p2:zb1 (zay ["Chain"] "own_bound" (zaa 0)) (zaa 1) (zdk (zac gIx (zay ["Chain"] "own_bound" (zaa 0)) (zaa 1)) 1) (stP l ps) (k0 c.top :: vt :: .live (.lst ((sT c).set l (lT (zce ps (c.S l))))) :: .live (.lst (bT c)) :: [.dead])
   = .nx (stP l ps) (k0 c.top :: vt :: .live (.lst ((sT c).set l (lT (zce ps (c.S l))))) :: .live (.lst ((bT c).set l (lT (keep2 ps (c.B l))))) :: [.dead]):=by
  refine zfe (v:=lT (keep2 ps (c.B l))) (t := .cel 3) (u := .int (l:Int)) (keep_ok hz (j:=1) (by omega) (sm.B l) ?_) ?_ ?_ (zlt (by rw [zdl]; omega))
  ·simp [stP,hat2]
  ·simp [stP]
  ·simp [stP]
 have hat3:atI ((sT c).set l (lT (zce ps (c.S l)))) ((l:Int) + 1)=some (lT (c.S (l + 1))):=by
  rw [show (l:Int) + 1=((l + 1:Nat):Int) by omega,at_pos,List.getElem?_set_ne (by omega)]
  have:=zfd (c:=c) (l:=l + 1) hl
  rwa [at_pos] at this
 have p3:zb1 (zay ["Chain"] "own_seen" (zaa 0)) (zac (zan false) (zaa 1) (dC (.int 1))) (zdk (zac gIx (zay ["Chain"] "own_seen" (zaa 0)) (zac (zan false) (zaa 1) (dC (.int 1)))) 2) (stP l ps) (k0 c.top :: vt :: .live (.lst ((sT c).set l (lT (zce ps (c.S l))))) :: .live (.lst ((bT c).set l (lT (keep2 ps (c.B l))))) :: [.dead])
   = .nx (stP l ps) (k0 c.top :: vt :: .live (.lst (((sT c).set l (lT (zce ps (c.S l)))).set (l + 1) (lT (keep3 ps (c.S (l + 1)))))) :: .live (.lst ((bT c).set l (lT (keep2 ps (c.B l))))) :: [.dead]):=by
  refine zfe (v:=lT (keep3 ps (c.S (l + 1)))) (t := .cel 2) (u := .int ((l + 1:Nat):Int)) (keep_ok hz (j:=2) (by omega) (sm.S (l + 1)) ?_) ?_ ?_ (zij (by rw [List.length_set,zcK]; omega))
  ·simp [stP,hat3]
  ·simp [stP]
  ·simp [stP]
 have fz:frz za3 (.cel 4) (cm c vt [pL ps])=some (.lst (ps.map enP),cm c vt [.dead]):=zqQ (zbm zqO ps) (by have:=zc3 (k:=2) (f:=enP) zqV ps; omega)
 have e1:=zqS (c:=c) hl
 have e2:=zqT (c:=c) hl
 rw [hps] at e1 e2
 unfold zee
 refine zhK (s:=stP l ps) ?_
 rw [zqU,u_seq,q1,then_nx,u_seq,q2,then_nx,u_frzV]
 show zeS 2 _ (stN l none) (frz za3 (.cel 4) (cm c vt [pL ps]))=_
 rw [fz,w_kFrzV2]
 have sp:(stN l none).set 2 (some (.lst (ps.map enP)))=stP l ps:=rfl
 rw [sp,u_seq,p1,then_nx,u_seq,p2,then_nx,p3,e1,e2]
 rfl
end G
end
section
namespace G
open PySem PySem.Spec PyProof.Rows L2 Z PySem.SeqAt
def zcL:DE:=zeU (zeW "Chain" zee) 2 "narrow_level" zeT (zaa 0) (zab (zaa 1) (zad))
theorem zqX {c:Ch} {vt:Cell} {l:Nat}:zcL [some (.cel 0),some (.int (l:Int))] (cm c vt [])=zee [.cel 0,.int (l:Int)] (cm c vt []):=by kernel_rfl
theorem zqY (c:Ch) {vt:Cell} (hv:zaY 4 vt=true) (r:Mem):((cm c vt r).take 4).all (zaY 4)=true:=by
 have h1:zaY 4 (.live (.lst (sT c)))=true:=by
  simp only [zaY,zaF]
  unfold sT
  exact zcu (zbm (fun l=>zgf (c.S l)) _)
 have h2:zaY 4 (.live (.lst (bT c)))=true:=by
  simp only [zaY,zaF]
  unfold bT
  exact zcu (zbm (fun l=>zgf (c.B l)) _)
 have h0:zaY 4 (k0 c.top)=true:=rfl
 show (zaY 4 (k0 c.top) && (zaY 4 vt && (zaY 4 (.live (.lst (sT c))) && (zaY 4 (.live (.lst (bT c))) && true))))=true
 rw [h0,h1,h2,hv]
 rfl
theorem zlu {c:Ch} (sm:Small c) {vt:Cell} (hv:zaY 4 vt=true) {l:Nat} (hl:l < c.top):zaP [1] (zaW zcL) [some (.cel 0),some (.int (l:Int))] (cm c vt []) = .nx [some (.cel 0),none] (cm (nl c l) vt []):=by
 have e:zaW zcL [some (.cel 0),some (.int (l:Int))] (cm c vt []) = .nx [some (.cel 0),some (.int (l:Int))] (cm (nl c l) vt [.dead]):=by
  show (zcL [some (.cel 0),some (.int (l:Int))] (cm c vt [])).toS _ _=_
  rw [zqX,zqW sm hl]
  rfl
 rw [u_trim,e,zkG [1] (show (cm c vt []).length≤(cm (nl c l) vt [.dead]).length by show 4≤5; omega) rfl (zqY (nl c l) hv [.dead])]
 rfl
theorem zqZ (n:Nat):zdF (((n + 1:Nat):Int) - 1) (n + 1) = .int (n:Int) :: zdF ((n:Int) - 1) n:=by
 unfold zdF
 rw [List.range_succ_eq_map,List.map_cons,List.map_map]
 congr 1
 ·simp
 ·refine List.map_congr_left fun k _=>?_
  simp only [Function.comp]
  congr 1
  omega
theorem zlv {vt:Cell} (hv:zaY 4 vt=true):∀ (n:Nat) (c:Ch),Small c→n≤c.top→forL (gN 1) (zaP [1] (zaW zcL)) (zdF ((n:Int) - 1) n) [some (.cel 0),none] (cm c vt []) = .nx [some (.cel 0),none] (cm (bwd c n) vt [])∧Small (bwd c n)
 | 0,c,sm,_=>⟨rfl,sm⟩
 | n + 1,c,sm,h=>by
  obtain ⟨e,s⟩:=zlv hv n (nl c n) (sm.nl n) (show n≤c.top by omega)
  refine ⟨?_,s⟩
  rw [zqZ]
  unfold forL
  have eg:gN 1 (.int (n:Int)) [some (.cel 0),none]=some [some (.cel 0),some (.int (n:Int))]:=rfl
  rw [eg]
  simp only
  rw [zlu sm hv h]
  exact e
theorem zlw {vt:Cell} (hv:zaY 4 vt=true) {c:Ch} (sm:Small c):∀ (k:Nat),k≤c.top→forL (gN 1) (zaP [1] (zaW zcL)) ((List.range' (c.top - k) k).map fun (i:Nat)=>T.int (i:Int)) [some (.cel 0),none] (cm (fwd c (c.top - k)) vt []) = .nx [some (.cel 0),none] (cm (fwd c c.top) vt [])
 | 0,_=>rfl
 | k + 1,h=>by
  have e:=zlw hv sm k (by omega)
  have sf:∀ n,Small (fwd c n):=by
   intro n
   induction n with
   | zero=>exact sm
   | succ n ih=>exact ih.nl n
  rw [List.range'_succ,List.map_cons]
  unfold forL
  have eg:gN 1 (.int ((c.top - (k + 1):Nat):Int)) [some (.cel 0),none]=some [some (.cel 0),some (.int ((c.top - (k + 1):Nat):Int))]:=rfl
  rw [eg]
  simp only
  rw [zlu (sf _) hv (by rw [zdJ]; omega)]
  have q:nl (fwd c (c.top - (k + 1))) (c.top - (k + 1))=fwd c (c.top - k):=by
   rw [show c.top - k=c.top - (k + 1) + 1 by omega]
   rfl
  rw [q,show c.top - (k + 1) + 1=c.top - k by omega]
  exact e
theorem zq0 {c:Ch} (sm:Small c) {vt:Cell} (hv:zaY 4 vt=true) (ht:c.top < 1000000):ze3 [.cel 0] (cm c vt []) = .ok .non (cm (narrow c) vt []):=by
 obtain ⟨e1,s1⟩:=zlv hv c.top c sm (Nat.le_refl _)
 have e2:=zlw hv s1 (bwd c c.top).top (Nat.le_refl _)
 have tb:=zcq c c.top
 rw [Nat.sub_self] at e2
 have q1:zaH (zfY (zab (zac gSub (zay ["Chain"] "own_top" (zaa 0)) (dC (.int 1))) (zab (dUn zbu (dC (.int 1))) (zab (dUn zbu (dC (.int 1))) (zad))))) (gN 1) (zaW zcL) [1] [some (.cel 0),none] (cm c vt []) = .nx [some (.cel 0),none] (cm (bwd c c.top) vt []):=by
  rw [u_forW]
  have d:zfY (zab (zac gSub (zay ["Chain"] "own_top" (zaa 0)) (dC (.int 1))) (zab (dUn zbu (dC (.int 1))) (zab (dUn zbu (dC (.int 1))) (zad)))) [some (.cel 0),none] (cm c vt []) = .ok (zdF ((c.top:Int) - 1) c.top) (cm c vt []):=by
   have a:zab (zac gSub (zay ["Chain"] "own_top" (zaa 0)) (dC (.int 1))) (zab (dUn zbu (dC (.int 1))) (zab (dUn zbu (dC (.int 1))) (zad))) [some (.cel 0),none] (cm c vt []) = .ok [.int ((c.top:Int) - 1),.int (-1),.int (-1)] (cm c vt []):=by
    simp [cm]
   unfold zfY
   rw [a]
   have r1:Z.inR ((c.top:Int) - 1)=true:=by
    by_cases z:c.top=0
    ·rw [z]; rfl
    ·have:=zdE (n:=c.top - 1) (by omega)
     rwa [show ((c.top - 1:Nat):Int)=(c.top:Int) - 1 by omega] at this
   have r2:Z.inR (-1)=true:=rfl
   show (if Z.inR ((c.top:Int) - 1)=true∧Z.inR (-1)=true then Out.ok (zdF ((c.top:Int) - 1) ((c.top:Int) - 1 - (-1)).toNat) (cm c vt []) else .no)=_
   rw [if_pos ⟨r1,r2⟩,show ((c.top:Int) - 1 - (-1)).toNat=c.top by omega]
  have w:zas [some (T.cel 0),none] [1] = [some (T.cel 0),none]:=rfl
  rw [w,d]
  exact e1
 have q2:zaH (zbp (zab (zay ["Chain"] "own_top" (zaa 0)) (zad))) (gN 1) (zaW zcL) [1] [some (.cel 0),none] (cm (bwd c c.top) vt []) = .nx [some (.cel 0),none] (cm (narrow c) vt []):=by
  rw [u_forW]
  have w:zas [some (T.cel 0),none] [1] = [some (T.cel 0),none]:=rfl
  have d:zbp (zab (zay ["Chain"] "own_top" (zaa 0)) (zad)) [some (.cel 0),none] (cm (bwd c c.top) vt []) = .ok ((List.range' 0 c.top).map fun (i:Nat)=>T.int (i:Int)) (cm (bwd c c.top) vt []):=by
   have r1:Z.inR (c.top:Int)=true:=zdE ht
   simp [cm,r1,zd7,tb,List.range_eq_range']
  rw [w,d]
  rw [tb] at e2
  exact e2
 unfold ze3
 refine zhK (s := [some (.cel 0),none]) ?_
 show zag (zaH _ (gN 1) (zaW zcL) [1]) (zaH _ (gN 1) (zaW zcL) [1]) [some (.cel 0),none] (cm c vt [])=_
 rw [u_seq,q1,then_nx,q2]
end G
end
section
namespace G
open PySem PySem.Spec PyProof.Rows L2 Z PySem.SeqAt
def dec (n:Nat):Str:=toString ((n:Nat):Int)
theorem zlx {m n:Nat} (h:dec m=dec n):m=n:=by
 have e:=congrArg TL.tl h
 have hm:TL.tl (dec m)=TL.numL m:=TL.tl_num m
 have hn:TL.tl (dec n)=TL.numL n:=TL.tl_num n
 rw [hm,hn] at e
 exact TL.numL_inj e
def za9 (nd:List Vl) (n:Nat):List Nat:=(List.range n).filter fun m => !nd.contains (some (dec m))
theorem zik (nd:List Vl) (n:Nat):za9 nd (n + 1)=if nd.contains (some (dec n))=true then za9 nd n else za9 nd n ++ [n]:=by
 unfold za9
 rw [List.range_succ,List.filter_append]
 by_cases c:nd.contains (some (dec n))=true
 ·rw [if_pos c,List.filter_cons,if_neg (by rw [c]; simp)]; simp
 ·rw [if_neg c,List.filter_cons,if_pos (by simpa using c)]; simp
theorem zil (nd:List Vl) (n:Nat):n≤nd.length + (za9 nd n).length:=by
 have h1:((List.range n).filter fun m=>nd.contains (some (dec m))).length + (za9 nd n).length=n:=by
  unfold za9
  have:∀ l:List Nat,(l.filter fun m=>nd.contains (some (dec m))).length + (l.filter fun m => !nd.contains (some (dec m))).length=l.length:=by
   intro l
   induction l with
   | nil=>rfl
   | cons a r ih=>
    by_cases c:nd.contains (some (dec a))=true
    ·rw [List.filter_cons,if_pos c,List.filter_cons,if_neg (by rw [c]; simp),List.length_cons,List.length_cons]; omega
    ·rw [List.filter_cons,if_neg c,List.filter_cons,if_pos (by simpa using c),List.length_cons,List.length_cons]; omega
  have:=this (List.range n)
  rwa [List.length_range] at this
 have h2:((List.range n).filter fun m=>nd.contains (some (dec m))).length≤nd.length:=by
  have nd1:(((List.range n).filter fun m=>nd.contains (some (dec m))).map fun m=>(some (dec m):Vl)).Nodup:=by
   exact List.Pairwise.map _ (fun a b hab e=>hab (zlx (Option.some.inj e))) (show List.Nodup _ from List.Pairwise.filter _ List.nodup_range)
  have:=List.Nodup.length_le_of_subset nd1 (l₂ := nd) fun x hx=>by
   obtain ⟨m,hm,rfl⟩:=List.mem_map.mp hx
   have:=(List.mem_filter.mp hm).2
   simpa using this
  rwa [List.length_map] at this
 omega
theorem zq1 (v:Vl) (xs:List Vl) (M:Mem):zbi (enO v) (.lst (xs.map enO)) M=some (.bl (!xs.contains v),M):=by
 have h:=zih v xs M
 unfold gIn at h
 unfold zbi
 cases q:zcX (enO v) (.lst (xs.map enO)) M with
 | none=>rw [q] at h; cases h
 | some b=>
  rw [q] at h
  have:b=xs.contains v:=by
   have:=congrArg (fun z=>z.map (·.1)) h
   simpa [pr] using this
  rw [this]
  rfl
def spT:DT:=zai (zac gLt (dCall za0 (zab (zaa 2) (zad))) (dC (.int 2)))
def spB:DS:=zaP [] (zag (dIf (zai (zac zbi (dCall zdz (zab (zaa 3) (zad))) (zaa 1))) (zaW (zbc "list" zbo (zaa 2) (zab (dCall zdz (zab (zaa 3) (zad))) (zad)))) (dNx)) (zeM 3 zfM (dC (.int 1))))
def spS (ft:T) (nd:List Vl) (n:Nat):Sg := [some ft,some (.lst (nd.map enO)),some (.cel 0),some (.int (n:Int)),none]
def spM (nd:List Vl) (n:Nat):Mem := [.live (.lst ((za9 nd n).map fun m=>T.str (dec m)))]
theorem zq2 (ft:T) (nd:List Vl) (n:Nat) (h:(za9 nd n).length < 2) (hn:n < 1000000000):spB (spS ft nd n) (spM nd n) = .nx (spS ft nd (n + 1)) (spM nd (n + 1)):=by
 have hs:=zq1 (some (dec n)) nd
 have h2:((n:Int)).natAbs.log2 < 1920:=by
  rw [Int.natAbs_natCast]
  by_cases z:n=0
  ·rw [z]; decide
  ·have:n.log2 < 30:=(Nat.log2_lt z).mpr (by omega)
   omega
 have hg:∀ M,zdz [.int (n:Int)] M=some (.str (dec n),M):=fun M=>by
  show (if ((n:Int)).natAbs.log2 < 1920 then some (T.str (toString (n:Int)),M) else none)=_
  rw [if_pos h2]
  rfl
 have hl:(za9 nd n).length < 16777216:=by omega
 have en:T.str (dec n)=enO (some (dec n)):=rfl
 have hi:∀ M,zfM (.int (n:Int)) (.int 1) M=some (.int ((n:Int) + 1),M):=fun M=>rfl
 by_cases c:some (dec n)∈nd
 ·have c':nd.contains (some (dec n))=true:=by simpa using c
  have hs':∀ M,zbi (.str (dec n)) (.lst (nd.map enO)) M=some (.bl false,M):=fun M=>by rw [en,hs,c']; rfl
  simp [spB,spS,spM,hs',hg,hi,zik,c,zbd]
 ·have c':nd.contains (some (dec n))=false:=by simpa using c
  have hs':∀ M,zbi (.str (dec n)) (.lst (nd.map enO)) M=some (.bl true,M):=fun M=>by rw [en,hs,c']; rfl
  simp [spB,spS,spM,hs',hg,hi,zik,c,hl,zbd]
theorem zly (ft:T) (nd:List Vl) (n:Nat):spT (spS ft nd n) (spM nd n) = .ok (decide ((za9 nd n).length < 2)) (spM nd n):=by
 simp [spT,spS,spM]
 omega
theorem zb4 {α : Type} (a : α) (M:Mem) (s:Sg) (f : α → Mem→OutS):(Out.ok a M).toS s f=f a M:=rfl
theorem zlz (ft:T) (nd:List Vl) (hnd:nd.length≤1000000):∀ k n:Nat,(za9 nd n).length≤2→nd.length + 3≤n + k→∃n',(za9 nd n').length=2∧zdC k spT spB (spS ft nd n) (spM nd n) = .nx (spS ft nd n') (spM nd n')
 | 0,n,h,hk=>by
  have:=zil nd n
  omega
 | k + 1,n,h,hk=>by
  have hb:=zil nd n
  by_cases c:(za9 nd n).length < 2
  ·have e:=zq2 ft nd n c (by omega)
   have h':(za9 nd (n + 1)).length≤2:=by
    rw [zik]
    by_cases z:nd.contains (some (dec n))=true
    ·rw [if_pos z]; exact h
    ·rw [if_neg z,List.length_append]; simp; omega
   obtain ⟨n',g1,g2⟩:=zlz ft nd hnd k (n + 1) h' (by omega)
   refine ⟨n',g1,?_⟩
   unfold zdC
   rw [zly,decide_eq_true c,zb4]
   simp only [if_true,e]
   exact g2
  ·refine ⟨n,by omega,?_⟩
   unfold zdC
   rw [zly,decide_eq_false c,zb4]
   simp
theorem zq3 (tc:DT) (b:DS) (s:Sg) (M:Mem):zfS tc b [] s M=zdC FUEL tc (zaP [] b) s M:=rfl
theorem zq4 {n:Nat} (h:n≤1000000):n + 3≤0 + FUEL:=by unfold FUEL; omega
def zim:DS:=zag (dIf (zai (zac zbi (dCall zdz (zab (zaa 3) (zad))) (zaa 1))) (zaW (zbc "list" zbo (zaa 2) (zab (dCall zdz (zab (zaa 3) (zad))) (zad)))) (dNx)) (zeM 3 zfM (dC (.int 1)))
theorem zq5:spB=zaP [] zim:=rfl
theorem zq6:zk2=zag (zaw 1 (dLc false (zar (zaa 0)) (gN 4) (zaJ) (zac gIx (zaa 4) (dC (.int 3))) [4])) (zag (zaw 2 (zaq true (zad))) (zag (zaw 3 (dC (.int 0))) (zag (zfS spT zim []) (zav (zcb (zaa 2)))))):=rfl
theorem zq7 (ft:T) (nd:List Vl) (h:nd.length≤1000000):∃ n',(za9 nd n').length=2∧zfS spT zim [] (spS ft nd 0) (spM nd 0) = .nx (spS ft nd n') (spM nd n'):=by
 rw [zq3,← zq5]
 exact zlz ft nd h FUEL 0 (by unfold za9; simp) (zq4 h)
theorem zq8 {β : Type} (it : β → T) (vf : β → Vl) (fs:List β) (hi:∀ f∈fs,∀M,gIx (it f) (.int 3) M=some (enO (vf f),M)) (hn:∀ f∈fs,zal (it f)=true) (hl:fs.length≤1000000) :
  ∃ z1 z2,z1≠z2∧(some z1∉fs.map vf∧∃a,z1=dec a∧a≤fs.length + 2)∧(some z2∉fs.map vf∧∃a,z2=dec a∧a≤fs.length + 2)∧∀M,zaG zdh [.lst (fs.map it)] M = .ok (.lst [.str z1,.str z2]) M:=by
 have nc:zau (fs.map it)=true:=by
  clear hi hl
  induction fs with
  | nil=>rfl
  | cons f r ih=>
   rw [List.map_cons]
   simp only [zau,hn f List.mem_cons_self,Bool.true_and]
   exact ih fun g hg=>hn g (List.mem_cons_of_mem _ hg)
 obtain ⟨n',g1,q4⟩:=zq7 (.lst (fs.map it)) (fs.map vf) (by simpa using hl)
 obtain ⟨a,b,e⟩:∃ a b,za9 (fs.map vf) n' = [a,b]:=by
  match q:za9 (fs.map vf) n',g1 with
  | [a,b],_=>exact ⟨a,b,rfl⟩
 have ma:a∈za9 (fs.map vf) n':=by rw [e]; simp
 have mb:b∈za9 (fs.map vf) n':=by rw [e]; simp
 have ndp:(za9 (fs.map vf) n').Nodup:=List.Pairwise.filter _ List.nodup_range
 have hab:a≠b:=by
  rw [e] at ndp
  intro z
  rw [z] at ndp
  simp at ndp
 have bn:n'≤fs.length + 2:=by
  have:=zil (fs.map vf) n'
  rw [g1,List.length_map] at this
  omega
 have la:a≤fs.length + 2:=by
  have:=List.mem_range.mp (List.mem_filter.mp ma).1
  omega
 have lb:b≤fs.length + 2:=by
  have:=List.mem_range.mp (List.mem_filter.mp mb).1
  omega
 refine ⟨dec a,dec b,fun z=>hab (zlx z),⟨?_,a,rfl,la⟩,⟨?_,b,rfl,lb⟩,fun M=>zaA ⟨[.dead],?_⟩ (by simp only [zau,zal,nc,Bool.and_self]) rfl⟩
 ·have:=(List.mem_filter.mp ma).2
  simpa using this
 ·have:=(List.mem_filter.mp mb).2
  simpa using this
 ·have key:=zbQ (g:=gN 4) (tt:=zaJ) (de:=zac gIx (zaa 4) (dC (.int 3))) (s0:=zaE 5 [.lst (fs.map it)]) (M := []) (it:=it) (p:=fun _=>true) (f:=fun f=>enO (vf f)) fs (fun f hf=>by
   refine ⟨[some (.lst (fs.map it)),none,none,none,some (it f)],by simp [zaE],by simp,fun _=>?_⟩
   have:=hi f hf
   simp [this])
  rw [List.filter_eq_self.mpr fun _ _=>rfl] at key
  have hl':fs.length≤16777216:=by omega
  unfold zdh
  refine zbq ?_
  have q1:zaw 1 (dLc false (zar (zaa 0)) (gN 4) (zaJ) (zac gIx (zaa 4) (dC (.int 3))) [4]) (zaE 5 [.lst (fs.map it)]) [] = .nx [some (.lst (fs.map it)),some (.lst ((fs.map vf).map enO)),none,none,none] []:=by
   simp only [zaE] at key
   simp [zaE,hl']
   simp at key
   rw [key]
   simp [Function.comp_def]
  have q2:zaw 2 (zaq true (zad)) [some (.lst (fs.map it)),some (.lst ((fs.map vf).map enO)),none,none,none] [] = .nx [some (.lst (fs.map it)),some (.lst ((fs.map vf).map enO)),some (.cel 0),none,none] [.live (.lst [])]:=by
   simp [mk]
  have q3:zaw 3 (dC (.int 0)) [some (.lst (fs.map it)),some (.lst ((fs.map vf).map enO)),some (.cel 0),none,none] [.live (.lst [])] = .nx (spS (.lst (fs.map it)) (fs.map vf) 0) (spM (fs.map vf) 0):=rfl
  rw [zq6,u_seq,q1,then_nx,u_seq,q2,then_nx,u_seq,q3,then_nx,u_seq,q4,then_nx]
  have fz:frz za3 (.cel 0) (spM (fs.map vf) n')=some (.lst [.str (dec a),.str (dec b)],[.dead]):=by
   unfold spM
   rw [e]
   rfl
  simp [spS,fz]
end G
end
section
namespace G
open PySem PySem.Spec PyProof.Rows L2 Z PySem.SeqAt
def put1 (c:Ch) (f:Fc):Ch:=if f.seen=true then ⟨c.top,fun i=>if i=f.lvl then (c.S i).filter fun o=>o == f.v else c.S i,c.B⟩ else ⟨c.top,c.S,fun i=>if i=f.lvl then (c.B i).filter fun o=>o == f.v else c.B i⟩
theorem zgh (c:Ch) (f:Fc):(put1 c f).top=c.top:=by unfold put1; split <;> rfl
theorem zlA (c:Ch) (f:Fc) (i:Nat):(put1 c f).S i=(c.S i).filter fun o => !(f.seen && f.lvl == i) || o == f.v:=by
 unfold put1
 by_cases s:f.seen=true
 ·rw [if_pos s]
  show (if i=f.lvl then _ else _)=_
  by_cases e:i=f.lvl
  ·rw [if_pos e]
   congr 1
   funext o
   simp [s,e]
  ·rw [if_neg e]
   refine (List.filter_eq_self.mpr fun o _=>?_).symm
   have:(f.lvl == i)=false:=by simpa using fun z=>e z.symm
   simp [this]
 ·rw [if_neg s]
  refine (List.filter_eq_self.mpr fun o _=>?_).symm
  simp [s]
theorem zlB (c:Ch) (f:Fc) (i:Nat):(put1 c f).B i=(c.B i).filter fun o => !(!f.seen && f.lvl == i) || o == f.v:=by
 unfold put1
 by_cases s:f.seen=true
 ·rw [if_pos s]
  refine (List.filter_eq_self.mpr fun o _=>?_).symm
  simp [s]
 ·rw [if_neg s]
  show (if i=f.lvl then _ else _)=_
  by_cases e:i=f.lvl
  ·rw [if_pos e]
   congr 1
   funext o
   simp [s,e]
  ·rw [if_neg e]
   refine (List.filter_eq_self.mpr fun o _=>?_).symm
   have:(f.lvl == i)=false:=by simpa using fun z=>e z.symm
   simp [this]
theorem zq9 (fs:List Fc):∀ c:Ch,(fs.foldl put1 c).top=c.top:=by
 induction fs with
 | nil=>intro c; rfl
 | cons f r ih=>intro c; rw [List.foldl_cons,ih,zgh]
theorem zra (fs:List Fc) (i:Nat):∀ c:Ch,(fs.foldl put1 c).S i=(c.S i).filter fun o=>fs.all fun f => !(f.seen && f.lvl == i) || o == f.v:=by
 induction fs with
 | nil=>intro c; exact (List.filter_eq_self.mpr fun _ _=>rfl).symm
 | cons f r ih=>
  intro c
  rw [List.foldl_cons,ih,zlA,List.filter_filter]
  congr 1
  funext o
  rw [List.all_cons,Bool.and_comm]
theorem zrb (fs:List Fc) (i:Nat):∀ c:Ch,(fs.foldl put1 c).B i=(c.B i).filter fun o=>fs.all fun f => !(!f.seen && f.lvl == i) || o == f.v:=by
 induction fs with
 | nil=>intro c; exact (List.filter_eq_self.mpr fun _ _=>rfl).symm
 | cons f r ih=>
  intro c
  rw [List.foldl_cons,ih,zlB,List.filter_filter]
  congr 1
  funext o
  rw [List.all_cons,Bool.and_comm]
def chA (vals:List Str) (top:Nat):Ch:=⟨top,fun _=>none :: vals.map some,fun _=>none :: vals.map some⟩
theorem zlC (vals:List Str) (top:Nat) (fs:List Fc):fs.foldl put1 (chA vals top)=ch0 vals top fs:=by
 have h1:=zq9 fs (chA vals top)
 have h2:(fs.foldl put1 (chA vals top)).S=(ch0 vals top fs).S:=funext fun i=>zra fs i _
 have h3:(fs.foldl put1 (chA vals top)).B=(ch0 vals top fs).B:=funext fun i=>zrb fs i _
 cases q:fs.foldl put1 (chA vals top) with
 | mk t S B=>
  rw [q] at h1 h2 h3
  simp only at h1 h2 h3
  rw [h1,h2,h3]
  rfl
def zaz (x:Str) (f:Fc):T:=zfb x f.lvl f.seen f.v
def ptB:DS:=zag (zaw 6 (zbh (zai (zac gEq (zaa 5) (dC (.str "seen")))) (zay ["Chain"] "own_seen" (zaa 0)) (zay ["Chain"] "own_bound" (zaa 0)))) (zb1 (zaa 6) (zaa 3) (dLc false (zar (zac gIx (zaa 6) (zaa 3))) (gN 8) (zai (zac gEq (zaa 8) (zaa 2))) (zaa 8) [8]))
def ptS (ft:T):Sg := [some (.cel 0),some ft,none,none,none,none,none,none,none]
theorem zlD (s0:Sg) (M:Mem) (v:Vl) (xs:List Vl) (h8:s0.length=9) (h2:s0[2]?=some (some (enO v))):lcL (gN 8) (zai (zac gEq (zaa 8) (zaa 2))) (zaa 8) s0 (xs.map enO) M = .ok ((xs.filter fun o=>o == v).map enO) M:=
 zbQ (it:=enO) (p:=fun o:Vl=>o == v) (f:=enO) xs fun o _=>by
  have e:=zcI o v zaX
  have d:(o == v)=decide (o=v):=by by_cases c:o=v <;> simp [c]
  have g8:(s0.set 8 (some (enO o)))[8]?=some (some (enO o)):=List.getElem?_set_self (by omega)
  have g2:(s0.set 8 (some (enO o)))[2]?=some (some (enO v)):=by rw [List.getElem?_set_ne (by omega)]; exact h2
  refine ⟨s0.set 8 (some (enO o)),by simp,?_,fun _=>by simp [g8]⟩
  simp [g8,g2,zc6,e,d]
theorem zrc {c:Ch} {f:Fc} (s:f.seen=true) (h:f.lvl < c.top):(sT c).set f.lvl (lT ((c.S f.lvl).filter fun o=>o == f.v))=sT (put1 c f)∧bT c=bT (put1 c f):=by
 have e:put1 c f=⟨c.top,fun i=>if i=f.lvl then (c.S i).filter fun o=>o == f.v else c.S i,c.B⟩:=by unfold put1; rw [if_pos s]
 rw [e]
 refine ⟨?_,rfl⟩
 apply List.ext_getElem?
 intro i
 by_cases hi:i < c.top + 1
 ·by_cases z:i=f.lvl
  ·subst z
   rw [List.getElem?_set_self (by rw [zcK]; exact hi)]
   unfold sT
   rw [List.getElem?_map,List.getElem?_range hi]
   simp
  ·rw [List.getElem?_set_ne (fun y=>z y.symm)]
   unfold sT
   rw [List.getElem?_map,List.getElem?_range hi,List.getElem?_map,List.getElem?_range hi]
   simp [z]
 ·rw [List.getElem?_eq_none (by rw [List.length_set,zcK]; omega),List.getElem?_eq_none (by rw [zcK]; show c.top + 1≤i; omega)]
theorem zrd {c:Ch} {f:Fc} (s:f.seen=false) (h:f.lvl < c.top):(bT c).set f.lvl (lT ((c.B f.lvl).filter fun o=>o == f.v))=bT (put1 c f)∧sT c=sT (put1 c f):=by
 have e:put1 c f=⟨c.top,c.S,fun i=>if i=f.lvl then (c.B i).filter fun o=>o == f.v else c.B i⟩:=by unfold put1; rw [if_neg (by simp [s])]
 rw [e]
 refine ⟨?_,rfl⟩
 apply List.ext_getElem?
 intro i
 by_cases hi:i < c.top
 ·by_cases z:i=f.lvl
  ·subst z
   rw [List.getElem?_set_self (by rw [zdl]; exact hi)]
   unfold bT
   rw [List.getElem?_map,List.getElem?_range hi]
   simp
  ·rw [List.getElem?_set_ne (fun y=>z y.symm)]
   unfold bT
   rw [List.getElem?_map,List.getElem?_range hi,List.getElem?_map,List.getElem?_range hi]
   simp [z]
 ·rw [List.getElem?_eq_none (by rw [List.length_set,zdl]; omega),List.getElem?_eq_none (by rw [zdl]; show c.top≤i; omega)]
theorem Small.put {c:Ch} (h:Small c) (f:Fc):Small (put1 c f):=
 ⟨fun i=>by rw [zlA]; exact Nat.le_trans (List.length_filter_le _ _) (h.S i),fun i=>by rw [zlB]; exact Nat.le_trans (List.length_filter_le _ _) (h.B i)⟩
theorem zre {c:Ch} (sm:Small c) {vt:Cell} (ft:T) (x:Str) (f:Fc) (h:f.lvl < c.top) :
  ∃ s1,gTup (zaC (gN 4) (zaC (gN 3) (zaC (gN 5) (zaC (gN 2) (zbk))))) (zaz x f) (ptS ft)=some s1∧zaP [2,3,4,5,6] ptB s1 (cm c vt []) = .nx (ptS ft) (cm (put1 c f) vt []):=by
 refine ⟨[some (.cel 0),some ft,some (enO f.v),some (.int (f.lvl:Int)),some (.str x),some (.str (kindS f.seen)),none,none,none],rfl,?_⟩
 cases hs:f.seen with
 | true=>
  have q1:zaw 6 (zbh (zai (zac gEq (zaa 5) (dC (.str "seen")))) (zay ["Chain"] "own_seen" (zaa 0)) (zay ["Chain"] "own_bound" (zaa 0))) [some (.cel 0),some ft,some (enO f.v),some (.int (f.lvl:Int)),some (.str x),some (.str (kindS true)),none,none,none] (cm c vt []) = .nx [some (.cel 0),some ft,some (enO f.v),some (.int (f.lvl:Int)),some (.str x),some (.str (kindS true)),some (.cel 2),none,none] (cm c vt []):=by
   simp [cm,kindS]
  have hat:=zfd (c:=c) (Nat.le_of_lt h)
  have hl:(c.S f.lvl).length≤16777216:=by have:=sm.S f.lvl; omega
  have lc:=zlD [some (.cel 0),some ft,some (enO f.v),some (.int (f.lvl:Int)),some (.str x),some (.str (kindS true)),some (.cel 2),none,none] (cm c vt []) f.v (c.S f.lvl) rfl rfl
  have hv:dLc false (zar (zac gIx (zaa 6) (zaa 3))) (gN 8) (zai (zac gEq (zaa 8) (zaa 2))) (zaa 8) [8] [some (.cel 0),some ft,some (enO f.v),some (.int (f.lvl:Int)),some (.str x),some (.str (kindS true)),some (.cel 2),none,none] (cm c vt []) = .ok (lT ((c.S f.lvl).filter fun o=>o == f.v)) (cm c vt []):=by
   have d:zar (zac gIx (zaa 6) (zaa 3)) [some (.cel 0),some ft,some (enO f.v),some (.int (f.lvl:Int)),some (.str x),some (.str (kindS true)),some (.cel 2),none,none] (cm c vt []) = .ok ((c.S f.lvl).map enO) (cm c vt []):=by
    simp [cm,hat,lT]
   rw [u_lc,d,bind_ok,w_kLc,if_pos (by rw [List.length_map]; exact hl)]
   have w:zas [some (T.cel 0),some ft,some (enO f.v),some (.int (f.lvl:Int)),some (.str x),some (.str (kindS true)),some (.cel 2),none,none] [8] = [some (.cel 0),some ft,some (enO f.v),some (.int (f.lvl:Int)),some (.str x),some (.str (kindS true)),some (.cel 2),none,none]:=rfl
   rw [w,lc]
   rfl
  obtain ⟨e1,e2⟩:=zrc hs h
  have q2:=zfe (dd:=zaa 6) (dk:=zaa 3) (t := .cel 2) (u := .int (f.lvl:Int)) hv rfl rfl (zij (a:=k0 c.top) (b:=vt) (r := [.live (.lst (bT c))]) (by rw [zcK]; omega))
  rw [e1] at q2
  unfold ptB
  rw [u_trim,u_seq,q1,then_nx,q2]
  have tp:=zgh c f
  have t:∀ (s:Sg) (M:Mem),M.length=4→zcl (cm c vt []).length [2,3,4,5,6] (.nx s M) = .nx (zas s [2,3,4,5,6]) M:=fun s M h=>zbd _ h
  rw [t _ _ rfl]
  unfold cm
  rw [tp,← e2]
  rfl
 | false=>
  have q1:zaw 6 (zbh (zai (zac gEq (zaa 5) (dC (.str "seen")))) (zay ["Chain"] "own_seen" (zaa 0)) (zay ["Chain"] "own_bound" (zaa 0))) [some (.cel 0),some ft,some (enO f.v),some (.int (f.lvl:Int)),some (.str x),some (.str (kindS false)),none,none,none] (cm c vt []) = .nx [some (.cel 0),some ft,some (enO f.v),some (.int (f.lvl:Int)),some (.str x),some (.str (kindS false)),some (.cel 3),none,none] (cm c vt []):=by
   simp [cm,kindS,zqn]
  have hat:=zii h
  have hl:(c.B f.lvl).length≤16777216:=by have:=sm.B f.lvl; omega
  have lc:=zlD [some (.cel 0),some ft,some (enO f.v),some (.int (f.lvl:Int)),some (.str x),some (.str (kindS false)),some (.cel 3),none,none] (cm c vt []) f.v (c.B f.lvl) rfl rfl
  have hv:dLc false (zar (zac gIx (zaa 6) (zaa 3))) (gN 8) (zai (zac gEq (zaa 8) (zaa 2))) (zaa 8) [8] [some (.cel 0),some ft,some (enO f.v),some (.int (f.lvl:Int)),some (.str x),some (.str (kindS false)),some (.cel 3),none,none] (cm c vt []) = .ok (lT ((c.B f.lvl).filter fun o=>o == f.v)) (cm c vt []):=by
   have d:zar (zac gIx (zaa 6) (zaa 3)) [some (.cel 0),some ft,some (enO f.v),some (.int (f.lvl:Int)),some (.str x),some (.str (kindS false)),some (.cel 3),none,none] (cm c vt []) = .ok ((c.B f.lvl).map enO) (cm c vt []):=by
    simp [cm,hat,lT]
   rw [u_lc,d,bind_ok,w_kLc,if_pos (by rw [List.length_map]; exact hl)]
   have w:zas [some (T.cel 0),some ft,some (enO f.v),some (.int (f.lvl:Int)),some (.str x),some (.str (kindS false)),some (.cel 3),none,none] [8] = [some (.cel 0),some ft,some (enO f.v),some (.int (f.lvl:Int)),some (.str x),some (.str (kindS false)),some (.cel 3),none,none]:=rfl
   rw [w,lc]
   rfl
  obtain ⟨e1,e2⟩:=zrd hs h
  have q2:=zfe (dd:=zaa 6) (dk:=zaa 3) (t := .cel 3) (u := .int (f.lvl:Int)) hv rfl rfl (zlt (a:=k0 c.top) (b:=vt) (c := .live (.lst (sT c))) (r := []) (by rw [zdl]; omega))
  rw [e1] at q2
  unfold ptB
  rw [u_trim,u_seq,q1,then_nx,q2]
  have tp:=zgh c f
  have t:∀ (s:Sg) (M:Mem),M.length=4→zcl (cm c vt []).length [2,3,4,5,6] (.nx s M) = .nx (zas s [2,3,4,5,6]) M:=fun s M h=>zbd _ h
  rw [t _ _ rfl]
  unfold cm
  rw [tp,← e2]
  rfl
theorem zlE {vt:Cell} (ft:T) (x:Str):∀ (fs:List Fc) (c:Ch),Small c→(∀ f∈fs,f.lvl < c.top)→forL (gTup (zaC (gN 4) (zaC (gN 3) (zaC (gN 5) (zaC (gN 2) (zbk)))))) (zaP [2,3,4,5,6] ptB) (fs.map (zaz x)) (ptS ft) (cm c vt []) = .nx (ptS ft) (cm (fs.foldl put1 c) vt [])
 | [],_,_,_=>rfl
 | f :: r,c,sm,h=>by
  obtain ⟨s1,g1,g2⟩:=zre sm (vt:=vt) ft x f (h f List.mem_cons_self)
  rw [List.map_cons]
  unfold forL
  rw [g1]
  simp only
  rw [g2]
  exact zlE ft x r (put1 c f) (sm.put f) fun g hg=>by rw [zgh]; exact h g (List.mem_cons_of_mem _ hg)
end G
end
section
namespace G
open PySem PySem.Spec PyProof.Rows L2 Z PySem.SeqAt
def uniq (acc:List Str) (vs:List Str):List Str:=vs.foldl (fun acc v=>if v∈acc then acc else acc ++ [v]) acc
theorem zgi (vs:List Str):∀ (acc:List Str) (v:Str),v∈uniq acc vs↔v∈acc∨v∈vs:=by
 induction vs with
 | nil=>intro acc v; simp [uniq]
 | cons a r ih=>
  intro acc v
  show v∈uniq (if a∈acc then acc else acc ++ [a]) r↔_
  rw [ih]
  by_cases c:a∈acc
  ·rw [if_pos c]
   constructor
   ·rintro (h | h)
    ·exact .inl h
    ·exact .inr (List.mem_cons_of_mem _ h)
   ·rintro (h | h)
    ·exact .inl h
    ·rcases List.mem_cons.mp h with rfl | h
     ·exact .inl c
     ·exact .inr h
  ·rw [if_neg c]
   simp only [List.mem_append,List.mem_cons,List.not_mem_nil,or_false]
   constructor
   ·rintro ((h | h) | h)
    ·exact .inl h
    ·exact .inr (.inl h)
    ·exact .inr (.inr h)
   ·rintro (h | h | h)
    ·exact .inl (.inl h)
    ·exact .inl (.inr h)
    ·exact .inr h
theorem zrf (vs:List Str):∀ acc:List Str,acc.Nodup→(uniq acc vs).Nodup:=by
 induction vs with
 | nil=>intro acc h; exact h
 | cons a r ih=>
  intro acc h
  show (uniq (if a∈acc then acc else acc ++ [a]) r).Nodup
  by_cases c:a∈acc
  ·rw [if_pos c]; exact ih acc h
  ·rw [if_neg c]
   refine ih _ ?_
   rw [List.nodup_append]
   exact ⟨h,by simp,fun x hx y hy e=>by
    have:y=a:=by simpa using hy
    rw [e,this] at hx
    exact c hx⟩
theorem zrg (vs:List Str):∀ acc:List Str,(uniq acc vs).length≤acc.length + vs.length:=by
 induction vs with
 | nil=>intro acc; exact Nat.le_refl _
 | cons a r ih=>
  intro acc
  show (uniq (if a∈acc then acc else acc ++ [a]) r).length≤_
  have:=ih (if a∈acc then acc else acc ++ [a])
  by_cases c:a∈acc
  ·rw [if_pos c] at this ⊢; rw [List.length_cons]; omega
  ·rw [if_neg c] at this ⊢; rw [List.length_append] at this; simp at this ⊢; omega
def zbL (fs:List Fc):List Str:=fs.filterMap (·.v)
theorem zrh {fs:List Fc} {z1 z2:Str} (h:z1≠z2):Vals (uniq [] (zbL fs ++ [z1,z2])) fs:=by
 refine ⟨⟨z1,z2,?_,?_,h⟩,zrf _ _ (by simp),fun f hf v hv=>?_⟩
 ·rw [zgi]; simp
 ·rw [zgi]; simp
 ·rw [zgi]
  refine .inr (List.mem_append_left _ ?_)
  unfold zbL
  exact List.mem_filterMap.mpr ⟨f,hf,hv⟩
theorem zri (ls:List Nat) (h:ls ≠ []):∃ t:Nat,zbG (ls.map fun (l:Nat)=>(l:Int))=(t:Int)∧t∈ls∧∀l∈ls,l≤t:=by
 have hl:0 < (ls.map fun (l:Nat)=>(l:Int)).length:=by
  rw [List.length_map]
  exact List.length_pos_iff.mpr h
 obtain ⟨t,ht,e⟩:=List.mem_map.mp (zg2 hl)
 refine ⟨t,e.symm,ht,fun l hm=>?_⟩
 have:=zg1 (List.mem_map.mpr ⟨l,hm,rfl⟩:(l:Int)∈ls.map fun (l:Nat)=>(l:Int))
 omega
def uqB:DS:=dIf (zai (zac zbi (zaa 2) (zay ["Chain"] "own_values" (zaa 0)))) (zaW (zbc "list" zbo (zay ["Chain"] "own_values" (zaa 0)) (zab (zaa 2) (zad)))) (dNx)
def i0 (top:Nat):Cell := .live (.ins "Chain" [("own_top",.int (top:Int)),("own_values",.cel 1)])
theorem zin (top:Nat) (r:Mem):zb3 ["Chain"] "own_values" (.cel 0) (i0 top :: r) = .ok (.cel 1) (i0 top :: r):=by kernel_rfl
theorem zrj (ft:T) (top:Nat) (acc:List Str) (v:Str) (hl:acc.length < 100000):∃ s1,gN 2 (.str v) (ptS ft)=some s1∧zaP [2] uqB s1 [i0 top,.live (.lst (acc.map T.str))] = .nx (ptS ft) [i0 top,.live (.lst ((if v∈acc then acc else acc ++ [v]).map T.str))]:=by
 refine ⟨[some (.cel 0),some ft,some (.str v),none,none,none,none,none,none],rfl,?_⟩
 have hn:∀ M:Mem,zbi (.str v) (.cel 1) (i0 top :: .live (.lst (acc.map T.str)) :: M)=some (.bl (!(acc.any (· == v))),i0 top :: .live (.lst (acc.map T.str)) :: M):=fun M=>by
  have:=zoN (M:=i0 top :: .live (.lst (acc.map T.str)) :: M) v acc
  exact this
 have hl':acc.length < 16777216:=by omega
 by_cases c:v∈acc
 ·have ca:acc.any (· == v)=true:=by simpa using c
  simp [uqB,zin,hn,ca,c,zbd,ptS]
 ·have ca:acc.any (· == v)=false:=by
   rw [List.any_eq_false]
   intro x hx e
   have:x=v:=by simpa using e
   exact c (this ▸ hx)
  simp [uqB,zin,hn,ca,c,hl',zbd,ptS]
theorem zlF (ft:T) (top:Nat):∀ (vs acc:List Str),acc.length + vs.length < 100000→forL (gN 2) (zaP [2] uqB) (vs.map T.str) (ptS ft) [i0 top,.live (.lst (acc.map T.str))] = .nx (ptS ft) [i0 top,.live (.lst ((uniq acc vs).map T.str))]
 | [],_,_=>rfl
 | v :: r,acc,h=>by
  rw [List.length_cons] at h
  obtain ⟨s1,g1,g2⟩:=zrj ft top acc v (by omega)
  rw [List.map_cons]
  unfold forL
  rw [g1]
  simp only
  rw [g2]
  refine zlF ft top r _ ?_
  by_cases c:v∈acc
  ·rw [if_pos c]; omega
  ·rw [if_neg c,List.length_append]; simp; omega
end G
end
section
namespace G
open PySem PySem.Spec PyProof.Rows L2 Z PySem.SeqAt
theorem zlG:∀ l:List Int,zb9 (l.map T.int)=some l
 | []=>rfl
 | a :: r=>by rw [List.map_cons]; unfold zb9; rw [zlG r]; rfl
theorem zrk (x:Str) (f:Fc) (M:Mem):gIx (zaz x f) (.int 1) M=some (.int (f.lvl:Int),M):=rfl
theorem zlH (x:Str) (f:Fc) (M:Mem):gIx (zaz x f) (.int 3) M=some (enO f.v,M):=rfl
def mT:Mem := [.live (.ins "Chain" [])]
def lvE:DE:=dLc false (zar (zaa 1)) (gN 7) (zaJ) (zac gIx (zaa 7) (dC (.int 1))) [7]
theorem zrl (x:Str) (fs:List Fc) (hl:fs.length≤900) (M:Mem):lvE (ptS (.lst (fs.map (zaz x)))) M = .ok (.lst ((fs.map fun f=>(f.lvl:Int)).map T.int)) M:=by
 have key:=zbQ (g:=gN 7) (tt:=zaJ) (de:=zac gIx (zaa 7) (dC (.int 1))) (s0:=ptS (.lst (fs.map (zaz x)))) (M:=M) (it:=zaz x) (p:=fun _=>true) (f:=fun f=>T.int (f.lvl:Int)) fs (fun f hf=>by
  refine ⟨(ptS (.lst (fs.map (zaz x)))).set 7 (some (zaz x f)),by simp,by simp,fun _=>?_⟩
  have h:=zrk x f M
  simp [ptS,h])
 rw [List.filter_eq_self.mpr fun _ _=>rfl] at key
 unfold lvE
 have d:zar (zaa 1) (ptS (.lst (fs.map (zaz x)))) M = .ok (fs.map (zaz x)) M:=by simp [ptS]
 have w:zas (ptS (.lst (fs.map (zaz x)))) [7]=ptS (.lst (fs.map (zaz x))):=rfl
 rw [u_lc,d,bind_ok,w_kLc,if_pos (by rw [List.length_map,LIM_big]; omega),w,key]
 rw [List.map_map]
 rfl
def zff (fs:List Fc) (top:Nat):Prop := ∀ L,(∀ f∈fs,f.lvl < L)→top≤L
theorem zrm (x:Str) (fs:List Fc) (hl:fs.length≤900) (lv:∀ f∈fs,f.lvl≤200):∃ top:Nat,(top≤201∧zff fs top)∧(∀ f∈fs,f.lvl < top)∧zac (zan false) (zcD lvE (dUn zbu (dC (.int 1)))) (dC (.int 1)) (ptS (.lst (fs.map (zaz x)))) mT = .ok (.int (top:Int)) mT:=by
 have hv:=zrl x fs hl mT
 by_cases c:fs = []
 ·subst c
  refine ⟨0,⟨by omega,fun L _=>Nat.zero_le L⟩,?_,?_⟩
  ·intro f hf; cases hf
  have e:zcD lvE (dUn zbu (dC (.int 1))) (ptS (.lst [])) mT = .ok (.int (-1)) mT:=by
   unfold zcD
   rw [show lvE (ptS (.lst [])) mT = .ok (.lst []) mT from hv]
   rfl
  show (zcD lvE (dUn zbu (dC (.int 1))) (ptS (.lst [])) mT).bind _=_
  rw [e]
  rfl
 ·obtain ⟨t,e1,e2,e3⟩:=zri (fs.map (·.lvl)) (by simpa using c)
  refine ⟨t + 1,⟨?_,fun L hL=>?_⟩,fun f hf=>?_,?_⟩
  ·obtain ⟨f,hf,e⟩:=List.mem_map.mp e2
   have:=lv f hf
   omega
  ·obtain ⟨f,hf,e⟩:=List.mem_map.mp e2
   have:=hL f hf
   omega
  ·have:=e3 f.lvl (List.mem_map.mpr ⟨f,hf,rfl⟩)
   omega
  ·have e4:zbG (fs.map fun f=>(f.lvl:Int))=(t:Int):=by
    rw [← e1,List.map_map]; rfl
   obtain ⟨a,r,ea⟩:∃ a r,(fs.map fun f=>(f.lvl:Int))=a :: r:=by
    cases fs with
    | nil=>exact absurd rfl c
    | cons f r=>exact ⟨_,_,rfl⟩
   have e:zcD lvE (dUn zbu (dC (.int 1))) (ptS (.lst (fs.map (zaz x)))) mT = .ok (.int (t:Int)) mT:=by
    unfold zcD
    rw [hv,bind_ok]
    show (Out.ok (T.int (-1)) mT).bind _=_
    rw [bind_ok]
    have li:(Z.listOf mT (.lst ((fs.map fun f=>(f.lvl:Int)).map T.int))).bind zb9=some (a :: r):=by
     show zb9 _=_
     rw [zlG,ea]
    rw [li]
    show Out.ok (T.int (zbG (a :: r))) mT=_
    rw [← ea,e4]
   show (zcD lvE (dUn zbu (dC (.int 1))) (ptS (.lst (fs.map (zaz x)))) mT).bind _=_
   rw [e,bind_ok]
   show Out.ok (T.int ((t:Int) + 1)) mT=_
   rfl
def nmE:DE:=dLc false (zar (zaa 1)) (gN 7) (zai (zac zbt (zac gIx (zaa 7) (dC (.int 3))) (dC .non))) (zac gIx (zaa 7) (dC (.int 3))) [7]
theorem zlI:∀ fs:List Fc,((fs.filter fun f=>f.v.isSome).map fun f=>enO f.v)=(zbL fs).map T.str
 | []=>rfl
 | f :: r=>by
  have ih:=zlI r
  unfold zbL at ih ⊢
  cases h:f.v with
  | none=>rw [List.filter_cons,if_neg (by simp [h]),List.filterMap_cons,h]; exact ih
  | some v=>rw [List.filter_cons,if_pos (by simp [h]),List.filterMap_cons,h,List.map_cons,ih,h]; rfl
theorem zrn (v:Vl) (M:Mem):zbt (enO v) .non M=some (.bl v.isSome,M):=by cases v <;> rfl
theorem zro (x:Str) (fs:List Fc) (hl:fs.length≤900) (M:Mem):nmE (ptS (.lst (fs.map (zaz x)))) M = .ok (.lst ((zbL fs).map T.str)) M:=by
 have key:=zbQ (g:=gN 7) (tt:=zai (zac zbt (zac gIx (zaa 7) (dC (.int 3))) (dC .non))) (de:=zac gIx (zaa 7) (dC (.int 3))) (s0:=ptS (.lst (fs.map (zaz x)))) (M:=M) (it:=zaz x) (p:=fun f=>f.v.isSome) (f:=fun f=>enO f.v) fs (fun f hf=>by
  have h:=zlH x f M
  have hi:=zrn f.v M
  refine ⟨(ptS (.lst (fs.map (zaz x)))).set 7 (some (zaz x f)),by simp,?_,fun _=>?_⟩
  ·simp [ptS,h,hi]
  ·simp [ptS,h])
 unfold nmE
 have d:zar (zaa 1) (ptS (.lst (fs.map (zaz x)))) M = .ok (fs.map (zaz x)) M:=by simp [ptS]
 have w:zas (ptS (.lst (fs.map (zaz x)))) [7]=ptS (.lst (fs.map (zaz x))):=rfl
 rw [u_lc,d,bind_ok,w_kLc,if_pos (by rw [List.length_map,LIM_big]; omega),w,key,zlI]
 rfl
end G
end
section
namespace G
open PySem PySem.Spec PyProof.Rows L2 Z PySem.SeqAt
def vtC (vals:List Str):Cell := .live (.lst (vals.map T.str))
def valE:DE:=zac (zan false) (zaq false (zab (dC .non) (zad))) (zay ["Chain"] "own_values" (zaa 0))
def zlJ:DE:=dLc true (zbp (zab (zac (zan false) (zay ["Chain"] "own_top" (zaa 0)) (dC (.int 1))) (zad))) (gN 3) (zaJ) valE [3]
def zlK:DE:=dLc true (zbp (zab (zay ["Chain"] "own_top" (zaa 0)) (zad))) (gN 3) (zaJ) valE [3]
def zio:DE:=zeU (zeW "Chain" ze3) 1 "narrow" zeT (zaa 0) zad
theorem zrp:zk4=zag (zb0 ["Chain"] "own_top" (zaa 0) (zac (zan false) (zcD lvE (dUn zbu (dC (.int 1)))) (dC (.int 1)))) (zag (zb0 ["Chain"] "own_values" (zaa 0) (zaq true (zad))) (zag (zaH (zar (zac (zan false) nmE (zak 1 zdh [] (zab (zaa 1) (zad))))) (gN 2) uqB [2])
  (zag (zb0 ["Chain"] "own_seen" (zaa 0) zlJ) (zag (zb0 ["Chain"] "own_bound" (zaa 0) zlK) (zag (zaH (zar (zaa 1)) (gTup (zaC (gN 4) (zaC (gN 3) (zaC (gN 5) (zaC (gN 2) (zbk)))))) ptB [2,3,4,5,6]) (zaW zio)))))):=rfl
theorem zrq (vals:List Str):T.lst (T.non :: vals.map T.str)=lT (none :: vals.map some):=by
 unfold lT
 rw [List.map_cons,List.map_map]
 rfl
theorem zlL {F:List (Str × T)} {r:Mem} (vals:List Str) (hl:vals.length≤990) {s:Sg} (hs:s[0]?=some (some (.cel 0))) (hf:zb3 ["Chain"] "own_values" (.cel 0) (.live (.ins "Chain" F) :: vtC vals :: r) = .ok (.cel 1) (.live (.ins "Chain" F) :: vtC vals :: r)) :
  valE s (.live (.ins "Chain" F) :: vtC vals :: r) = .ok (lT (none :: vals.map some)) (.live (.ins "Chain" F) :: vtC vals :: r):=by
 have a:∀ M0:Cell,zan false (.lst [.non]) (.cel 1) (M0 :: vtC vals :: r)=some (lT (none :: vals.map some),M0 :: vtC vals :: r):=fun M0=>by
  show (if [T.non].length + (vals.map T.str).length≤LIM then some (mk false (.lst ([T.non] ++ vals.map T.str)) (M0 :: vtC vals :: r)) else none)=_
  rw [if_pos (by rw [List.length_map,LIM_big]; simp; omega),← zrq]
  rfl
 unfold valE
 simp [hs,hf,a]
theorem zrr {c:Ch} {vt:Cell} (ft:T):zio (ptS ft) (cm c vt [])=ze3 [.cel 0] (cm c vt []):=by kernel_rfl
theorem zrs (top:Nat):zdg ["Chain"] "own_top" (.int (top:Int)) (.cel 0) mT=some [.live (.ins "Chain" [("own_top",.int (top:Int))])]:=by kernel_rfl
theorem zrt (top:Nat):zdg ["Chain"] "own_values" (.cel 1) (.cel 0) [.live (.ins "Chain" [("own_top",.int (top:Int))]),.live (.lst [])]=some [i0 top,vtC []]:=by kernel_rfl
def i1 (top:Nat):Cell := .live (.ins "Chain" [("own_top",.int (top:Int)),("own_values",.cel 1),("own_seen",.cel 2)])
theorem zru (top:Nat) (v c:Cell):zdg ["Chain"] "own_seen" (.cel 2) (.cel 0) [i0 top,v,c]=some [i1 top,v,c]:=by kernel_rfl
theorem zrv (top:Nat) (v c d:Cell):zdg ["Chain"] "own_bound" (.cel 3) (.cel 0) [i1 top,v,c,d]=some [k0 top,v,c,d]:=by kernel_rfl
theorem zrw (top:Nat) (r:Mem):zb3 ["Chain"] "own_top" (.cel 0) (i0 top :: r) = .ok (.int (top:Int)) (i0 top :: r):=by kernel_rfl
theorem zrx (top:Nat) (r:Mem):zb3 ["Chain"] "own_top" (.cel 0) (i1 top :: r) = .ok (.int (top:Int)) (i1 top :: r):=by kernel_rfl
theorem zry (top:Nat) (r:Mem):zb3 ["Chain"] "own_values" (.cel 0) (i1 top :: r) = .ok (.cel 1) (i1 top :: r):=by kernel_rfl
theorem zlM {M:Mem} {ft:T} {di:DA} {n:Nat} {row:T} (hd:di (ptS ft) M = .ok (zbB 0 n) M) (hn:n≤1000) (hv:∀ s:Sg,s[0]?=some (some (.cel 0))→valE s M = .ok row M):dLc true di (gN 3) (zaJ) valE [3] (ptS ft) M = .ok (.cel M.length) (M ++ [.live (.lst ((List.range n).map fun _=>row))]):=by
 have key:=zbQ (g:=gN 3) (tt:=zaJ) (de:=valE) (s0:=ptS ft) (M:=M) (it:=fun (i:Nat)=>T.int (i:Int)) (p:=fun _=>true) (f:=fun _=>row) (List.range n) (fun i hi=>⟨(ptS ft).set 3 (some (.int (i:Int))),by simp,by simp,fun _=>hv _ rfl⟩)
 rw [List.filter_eq_self.mpr fun _ _=>rfl] at key
 have w:zas (ptS ft) [3]=ptS ft:=rfl
 rw [u_lc,hd,bind_ok,w_kLc,if_pos (by rw [zd7,List.length_map,List.length_range,LIM_big]; omega),w,zd7,key]
 rfl
def ziq (fs:List Fc) (vals:List Str):Prop := ∀ v∈vals,(∃ f∈fs,f.v=some v)∨∃a,v=dec a∧a≤fs.length + 2
theorem zrz (x:Str) (fs:List Fc) (hl:fs.length≤900) (lv:∀ f∈fs,f.lvl≤200):∃ (vals:List Str) (top:Nat),Vals vals fs∧(∀ f∈fs,f.lvl < top)∧(top≤201∧zff fs top)∧(vals.length≤fs.length + 2∧ziq fs vals) ∧
  ze4 [.cel 0,.lst (fs.map (zaz x))] mT = .ok .non (cm (narrow (ch0 vals top fs)) (vtC vals) []):=by
 obtain ⟨top,⟨ht,htl⟩,htop,e1⟩:=zrm x fs hl lv
 obtain ⟨z1,z2,hz,hz1,hz2,ez⟩:=zq8 (zaz x) (fun f=>f.v) fs (fun f _ M=>zlH x f M) (fun f _=>zh6 _ _ _ _) (by omega)
 have hnl:(zbL fs).length≤fs.length:=List.length_filterMap_le _ _
 have hvl:(uniq [] (zbL fs ++ [z1,z2])).length≤fs.length + 2:=by
  have:=zrg (zbL fs ++ [z1,z2]) []
  rw [List.length_append] at this
  simp at this
  omega
 refine ⟨uniq [] (zbL fs ++ [z1,z2]),top,zrh hz,htop,⟨ht,htl⟩,⟨hvl,fun v hv=>?_⟩,?_⟩
 ·rw [zgi] at hv
  rcases hv with hv | hv
  ·cases hv
  ·rcases List.mem_append.mp hv with hv | hv
   ·unfold zbL at hv
    exact .inl (List.mem_filterMap.mp hv)
   ·simp only [List.mem_cons,List.not_mem_nil,or_false] at hv
    rcases hv with rfl | rfl
    ·exact .inr hz1.2
    ·exact .inr hz2.2
 have q1:=zge (cs := ["Chain"]) (f := "own_top") (do_:=zaa 0) (t := .cel 0) e1 rfl (zrs top)
 have q2:zb0 ["Chain"] "own_values" (zaa 0) (zaq true (zad)) (ptS (.lst (fs.map (zaz x)))) [.live (.ins "Chain" [("own_top",.int (top:Int))])] = .nx (ptS (.lst (fs.map (zaz x)))) [i0 top,vtC []]:=
  zge (v := .cel 1) (t := .cel 0) (M1 := [.live (.ins "Chain" [("own_top",.int (top:Int))]),.live (.lst [])]) rfl rfl (zrt top)
 have q3:zaH (zar (zac (zan false) nmE (zak 1 zdh [] (zab (zaa 1) (zad))))) (gN 2) uqB [2] (ptS (.lst (fs.map (zaz x)))) [i0 top,vtC []] = .nx (ptS (.lst (fs.map (zaz x)))) [i0 top,vtC (uniq [] (zbL fs ++ [z1,z2]))]:=by
  have lp:=zlF (.lst (fs.map (zaz x))) top (zbL fs ++ [z1,z2]) [] (by rw [List.length_append]; simp; omega)
  have d:zar (zac (zan false) nmE (zak 1 zdh [] (zab (zaa 1) (zad)))) (ptS (.lst (fs.map (zaz x)))) [i0 top,vtC []] = .ok ((zbL fs ++ [z1,z2]).map T.str) [i0 top,vtC []]:=by
   have hn:=zro x fs hl [i0 top,vtC []]
   have hs:zak 1 zdh [] (zab (zaa 1) (zad)) (ptS (.lst (fs.map (zaz x)))) [i0 top,vtC []] = .ok (.lst [.str z1,.str z2]) [i0 top,vtC []]:=by
    simp [ptS,ez]
   have hz2:(zbL fs).length + 2≤16777216:=by omega
   generalize zak 1 zdh [] (zab (zaa 1) (zad))=q at hs
   simp [hn,hs,hz2]
  have w:zas (ptS (.lst (fs.map (zaz x)))) [2]=ptS (.lst (fs.map (zaz x))):=rfl
  rw [u_forW,w,d]
  exact lp
 generalize uniq [] (zbL fs ++ [z1,z2])=vals at q3 hvl ⊢
 have q4:zb0 ["Chain"] "own_seen" (zaa 0) zlJ (ptS (.lst (fs.map (zaz x)))) [i0 top,vtC vals] = .nx (ptS (.lst (fs.map (zaz x)))) [i1 top,vtC vals,.live (.lst (sT (chA vals top)))]:=by
  refine zge (v := .cel 2) (t := .cel 0) (M1 := [i0 top,vtC vals,.live (.lst (sT (chA vals top)))]) ?_ rfl (zru top _ _)
  have r1:Z.inR ((top:Int) + 1)=true:=by
   have:=zdE (n:=top + 1) (by omega)
   rwa [show ((top + 1:Nat):Int)=(top:Int) + 1 by omega] at this
  have d:zbp (zab (zac (zan false) (zay ["Chain"] "own_top" (zaa 0)) (dC (.int 1))) (zad)) (ptS (.lst (fs.map (zaz x)))) [i0 top,vtC vals] = .ok (zbB 0 (top + 1)) [i0 top,vtC vals]:=by
   have ee:((top:Int) + 1).toNat=top + 1:=by omega
   simp [ptS,zrw,r1,ee]
  exact zlM d (by omega) fun s hs=>zlL vals (by omega) hs (zin top _)
 have q5:zb0 ["Chain"] "own_bound" (zaa 0) zlK (ptS (.lst (fs.map (zaz x)))) [i1 top,vtC vals,.live (.lst (sT (chA vals top)))] = .nx (ptS (.lst (fs.map (zaz x)))) (cm (chA vals top) (vtC vals) []):=by
  refine zge (v := .cel 3) (t := .cel 0) (M1 := [i1 top,vtC vals,.live (.lst (sT (chA vals top))),.live (.lst (bT (chA vals top)))]) ?_ rfl (zrv top _ _ _)
  have r1:Z.inR (top:Int)=true:=zdE (by omega)
  have d:zbp (zab (zay ["Chain"] "own_top" (zaa 0)) (zad)) (ptS (.lst (fs.map (zaz x)))) [i1 top,vtC vals,.live (.lst (sT (chA vals top)))] = .ok (zbB 0 top) [i1 top,vtC vals,.live (.lst (sT (chA vals top)))]:=by
   simp [ptS,zrx,r1]
  exact zlM d (by omega) fun s hs=>zlL vals (by omega) hs (zry top _)
 have sm:Small (chA vals top):=⟨fun i=>by show (none :: vals.map some).length≤1000; simp; omega,fun i=>by show (none :: vals.map some).length≤1000; simp; omega⟩
 have smp:∀ (fs:List Fc) (c:Ch),Small c→Small (fs.foldl put1 c):=by
  intro fs
  induction fs with
  | nil=>intro c h; exact h
  | cons f r ih=>intro c h; exact ih _ (h.put f)
 have lp:=zlE (vt:=vtC vals) (.lst (fs.map (zaz x))) x fs (chA vals top) sm htop
 have q6:zaH (zar (zaa 1)) (gTup (zaC (gN 4) (zaC (gN 3) (zaC (gN 5) (zaC (gN 2) (zbk)))))) ptB [2,3,4,5,6] (ptS (.lst (fs.map (zaz x)))) (cm (chA vals top) (vtC vals) []) = .nx (ptS (.lst (fs.map (zaz x)))) (cm (ch0 vals top fs) (vtC vals) []):=by
  have d:zar (zaa 1) (ptS (.lst (fs.map (zaz x)))) (cm (chA vals top) (vtC vals) []) = .ok (fs.map (zaz x)) (cm (chA vals top) (vtC vals) []):=by simp [ptS]
  have w:zas (ptS (.lst (fs.map (zaz x)))) [2,3,4,5,6]=ptS (.lst (fs.map (zaz x))):=rfl
  rw [u_forW,w,d,← zlC]
  exact lp
 have hv:zaY 4 (vtC vals)=true:=by
  show zbN 4 (vals.map T.str)=true
  exact zcu (zbm (fun _=>by simp only [zal]) _)
 have q7:=zq0 (c:=ch0 vals top fs) (by rw [← zlC]; exact smp fs _ sm) hv (show top < 1000000 by omega)
 unfold ze4
 refine zhK (s:=ptS (.lst (fs.map (zaz x)))) ?_
 have s0:zaE 9 [.cel 0,.lst (fs.map (zaz x))]=ptS (.lst (fs.map (zaz x))):=rfl
 rw [zrp,s0,u_seq,q1,then_nx,u_seq,q2,then_nx,u_seq,q3,then_nx,u_seq,q4,then_nx,u_seq,q5,then_nx,u_seq,q6,then_nx]
 show (zio _ _).toS _ _=_
 rw [zrr,q7,zb4]
end G
end
section
namespace G
open PySem PySem.Spec PyProof.Rows L2 Z PySem.SeqAt
def zcM (c:Ch) (vals:List Str):T := .ins "Chain" [("own_top",.int (c.top:Int)),("own_values",.lst (vals.map T.str)),("own_seen",.lst (sT c)),("own_bound",.lst (bT c))]
theorem zlN (c:Ch):zau (sT c)=true:=zbm (fun l=>zgf (c.S l)) _
theorem zlO (c:Ch):zau (bT c)=true:=zbm (fun l=>zgf (c.B l)) _
theorem zlP (l:List Str):zau (l.map T.str)=true:=zbm (fun _=>by simp only [zal]) _
theorem zrA (c:Ch) (vals:List Str):zal (zcM c vals)=true:=by
 unfold zcM
 simp only [zal,za4,zlN,zlO,zlP,Bool.and_self]
theorem zrB (o:Vl):dep (enO o)≤1:=by cases o <;> simp [enO,dep]
theorem zlQ (l:List Vl):dep (lT l)≤2:=by
 unfold lT
 simp only [dep]
 have:=zc3 (k:=1) (f:=enO) zrB l
 omega
theorem zrC (c:Ch):zaU (sT c)≤2:=zc3 (k:=2) (f:=fun l=>lT (c.S l)) (fun l=>zlQ _) _
theorem zrD (c:Ch):zaU (bT c)≤2:=zc3 (k:=2) (f:=fun l=>lT (c.B l)) (fun l=>zlQ _) _
theorem zrE (l:List Str):zaU (l.map T.str)≤1:=zc3 (k:=1) (f:=T.str) (fun _=>by simp [dep]) l
theorem zir {n:Nat} {xs:List T} {M:Mem} (h:zau xs=true) (d:zaU xs≤10) (hn:12≤n):frz n (.lst xs) M=some (.lst xs,M):=
 zc9 (by simp only [zal]; exact h) (by simp only [dep]; omega)
theorem zrF (c:Ch) (vals:List Str):frz za3 (.cel 0) (cm c (vtC vals) [])=some (zcM c vals,[.dead,.dead,.dead,.dead]):=by
 have h1:∀ M:Mem,frz 17 (.lst (vals.map T.str)) M=some (.lst (vals.map T.str),M):=fun M=>zir (zlP _) (by have:=zrE vals; omega) (by omega)
 have h2:∀ M:Mem,frz 17 (.lst (sT c)) M=some (.lst (sT c),M):=fun M=>zir (zlN c) (by have:=zrC c; omega) (by omega)
 have h3:∀ M:Mem,frz 17 (.lst (bT c)) M=some (.lst (bT c),M):=fun M=>zir (zlO c) (by have:=zrD c; omega) (by omega)
 show (zb7 (frz 18) (F0 c.top) [.dead,vtC vals,.live (.lst (sT c)),.live (.lst (bT c))]).map (fun p=>(T.ins "Chain" p.1,p.2))=_
 have a1:frz 18 (.cel 1) [.dead,vtC vals,.live (.lst (sT c)),.live (.lst (bT c))]=some (.lst (vals.map T.str),[.dead,.dead,.live (.lst (sT c)),.live (.lst (bT c))]):=h1 _
 have a2:frz 18 (.cel 2) [.dead,.dead,.live (.lst (sT c)),.live (.lst (bT c))]=some (.lst (sT c),[.dead,.dead,.dead,.live (.lst (bT c))]):=h2 _
 have a3:frz 18 (.cel 3) [.dead,.dead,.dead,.live (.lst (bT c))]=some (.lst (bT c),[.dead,.dead,.dead,.dead]):=h3 _
 have a0:∀ M:Mem,frz 18 (.int (c.top:Int)) M=some (.int (c.top:Int),M):=fun M=>rfl
 simp [F0,zb7,a0,a1,a2,a3,zcM]
theorem zis (x:Str) (fs:List Fc) (hl:fs.length≤900) (lv:∀ f∈fs,f.lvl≤200):∃ (vals:List Str) (top:Nat),Vals vals fs∧(∀ f∈fs,f.lvl < top)∧(top≤201∧zff fs top)∧(vals.length≤fs.length + 2∧ziq fs vals) ∧
  ∀ M,zhU "Chain" ze4 [.lst (fs.map (zaz x))] M = .ok (zcM (narrow (ch0 vals top fs)) vals) M:=by
 obtain ⟨vals,top,h1,h2,h3,h4,e⟩:=zrz x fs hl lv
 refine ⟨vals,top,h1,h2,h3,h4,fun M=>?_⟩
 have nc:zau [T.lst (fs.map (zaz x))]=true:=by
  simp only [zau,zal,Bool.and_true]
  exact zbm (fun f=>zh6 _ _ _ _) _
 unfold zhU
 rw [if_pos nc,show ze4 (.cel 0 :: [.lst (fs.map (zaz x))]) [.live (.ins "Chain" [])]=_ from e]
 simp only [zrF,zrA,if_true]
end G
end
section
namespace G
open PySem PySem.Spec PyProof.Rows L2 Z PySem.SeqAt
section
variable (c:Ch) (vals:List Str) (M:Mem)
@[simp] theorem g_top:zb3 ["Chain"] "own_top" (zcM c vals) M = .ok (.int (c.top:Int)) M:=by kernel_rfl
@[simp] theorem g_seen:zb3 ["Chain"] "own_seen" (zcM c vals) M = .ok (.lst (sT c)) M:=by kernel_rfl
@[simp] theorem g_bound:zb3 ["Chain"] "own_bound" (zcM c vals) M = .ok (.lst (bT c)) M:=by kernel_rfl
end
end G
end
section
namespace G
open PySem PySem.Spec PyProof.Rows L2 Z PySem.SeqAt
end G
end
section
namespace G
open PySem PySem.Spec PyProof.Rows L2 Z PySem.SeqAt
def inB:DS:=zag (zaw 5 (zbh (zai (zac gIs (zaa 4) (dC .non))) (zaa 2) (zaa 4))) (dIf (zai (zac gIn (zaa 5) (zac gIx (zay ["Chain"] "own_seen" (zaa 0)) (zaa 1)))) (zaW (zbc "list" zbo (zaa 3) (zab (dTup (zab (zaa 4) (zab (zaa 5) (zad)))) (zad)))) (dNx))
def inS (c:Ch) (vals:List Str) (l:Nat) (f:Vl):Sg := [some (zcM c vals),some (.int (l:Int)),some (enO f),some (.cel 0),none,none]
end G
end
section
namespace G
open PySem PySem.Spec PyProof.Rows L2 Z PySem.SeqAt
theorem Small.bwd {c:Ch} (h:Small c):∀ n,Small (bwd c n):=fun n=>by
 induction n generalizing c with
 | zero=>exact h
 | succ n ih=>exact ih (h.nl n)
theorem Small.fwd {c:Ch} (h:Small c):∀ n,Small (fwd c n):=fun n=>by
 induction n with
 | zero=>exact h
 | succ n ih=>exact ih.nl n
theorem Small.narrow {c:Ch} (h:Small c):Small (narrow c):=(h.bwd c.top).fwd c.top
structure LC (i:Nat) (mk:List T→Mem):Prop where
 ty:∀ xs,tyM (mk xs) (.cel i)=some "list"
 ins:∀ xs y,xs.length < 16777216→znY (.cel i) [.int 0,y] (mk xs)=some (.non,mk (y :: xs))
 len:∀ xs,(mk xs).length=(mk []).length
 fz:∀ xs,zau xs=true→zaU xs≤10→∃M,frz za3 (.cel i) (mk xs)=some (.lst xs,M)
end G
end
section
namespace G
open PySem PySem.Spec PyProof.Rows L2 Z PySem.SeqAt
def zgj (c:Ch) (l:Nat):List Fc:=
 (if l < c.top∧(c.B l).length=1 then [⟨l,false,(c.B l).headD none⟩] else []) ++ (if (c.S l).length=1 then [⟨l,true,(c.S l).headD none⟩] else [])
def zcN (c:Ch):Nat→Nat→List Fc
 | 0,_ => []
 | n + 1,l=>if c.S l = [none] then [⟨l,true,none⟩] else zgj c l ++ zcN c n (l + 1)
theorem zlR (c:Ch):∀ n l,(zcN c n l).length≤2 * n
 | 0,_=>by unfold zcN; simp
 | n + 1,l=>by
  unfold zcN
  have:=zlR c n (l + 1)
  have h1:(zgj c l).length≤2:=by
   unfold zgj
   rw [List.length_append]
   split <;> split <;> simp
  split
  ·simp; omega
  ·rw [List.length_append]; omega
end G
end
section
namespace G
open PySem PySem.Spec PyProof.Rows L2 Z PySem.SeqAt
def zrG (f:Fa):T:=zaz f.nm f.fc
def zcO (fs:List Fa) (ks:List Str):List Str:=fs.foldl (fun ks f=>zcm ks f.nm) ks
theorem zrH {ks:List Str} {k x:Str}:x∈zcm ks k↔x∈ks∨x=k:=by
 unfold zcm
 by_cases c:ks.contains k=true
 ·rw [if_pos c]
  have c':k∈ks:=by simpa using c
  constructor
  ·exact .inl
  ·rintro (h | rfl)
   ·exact h
   ·exact c'
 ·rw [if_neg c]; simp
theorem zrI {ks:List Str} (h:ks.Nodup) (k:Str):(zcm ks k).Nodup:=by
 unfold zcm
 by_cases c:ks.contains k=true
 ·rw [if_pos c]; exact h
 ·rw [if_neg c,List.nodup_append]
  exact ⟨h,by simp,fun x hx y hy e=>by
   have:y=k:=by simpa using hy
   rw [e,this] at hx
   exact c (by simpa using hx)⟩
theorem zit (fs:List Fa):∀ (ks:List Str) (x:Str),x∈zcO fs ks↔x∈ks∨∃f∈fs,f.nm=x:=by
 induction fs with
 | nil=>intro ks x; simp [zcO]
 | cons f r ih=>
  intro ks x
  show x∈zcO r (zcm ks f.nm)↔_
  rw [ih,zrH]
  simp only [List.mem_cons]
  constructor
  ·rintro ((h | rfl) | ⟨g,hg,e⟩)
   ·exact .inl h
   ·exact .inr ⟨f,.inl rfl,rfl⟩
   ·exact .inr ⟨g,.inr hg,e⟩
  ·rintro (h | ⟨g,rfl | hg,e⟩)
   ·exact .inl (.inl h)
   ·exact .inl (.inr e.symm)
   ·exact .inr ⟨g,hg,e⟩
theorem zlS (fs:List Fa):∀ ks:List Str,ks.Nodup→(zcO fs ks).Nodup:=by
 induction fs with
 | nil=>intro ks h; exact h
 | cons f r ih=>intro ks h; exact ih _ (zrI h f.nm)
theorem zlT (l:List Str):(zdZ l).Perm l:=zjM l _
theorem zlU {l:List Str} {x:Str}:x∈zdZ l↔x∈l:=(zlT l).mem_iff
theorem zrJ {l:List Str} (h:l.Nodup):(zdZ l).Nodup:=(zlT l).nodup_iff.mpr h
open Classical in
noncomputable def cmV (x:Str) (fs:List Fc):List Str:=if h:fs.length≤900∧∀f∈fs,f.lvl≤200 then (zis x fs h.1 h.2).choose else []
open Classical in
noncomputable def cmT (x:Str) (fs:List Fc):Nat:=if h:fs.length≤900∧∀f∈fs,f.lvl≤200 then (zis x fs h.1 h.2).choose_spec.choose else 0
theorem ziu (x:Str) (fs:List Fc) (hl:fs.length≤900) (lv:∀ f∈fs,f.lvl≤200):Vals (cmV x fs) fs∧(∀ f∈fs,f.lvl < cmT x fs)∧(cmT x fs≤201∧zff fs (cmT x fs))∧((cmV x fs).length≤fs.length + 2∧ziq fs (cmV x fs)) ∧
  ∀ M,zhU "Chain" ze4 [.lst (fs.map (zaz x))] M = .ok (zcM (narrow (ch0 (cmV x fs) (cmT x fs) fs)) (cmV x fs)) M:=by
 have h:fs.length≤900∧∀f∈fs,f.lvl≤200:=⟨hl,lv⟩
 unfold cmV cmT
 rw [dif_pos h,dif_pos h]
 exact (zis x fs hl lv).choose_spec.choose_spec
structure FsOk (fs:List Fa):Prop where
 len:fs.length≤900
 lv:∀ f∈fs,f.fc.lvl≤200
 nm:(zcO fs []).length≤20
theorem zrK (fs:List Fa) (x:Str):(ofN fs x).length≤fs.length:=by
 unfold ofN
 rw [List.length_map]
 exact List.length_filter_le _ _
theorem FsOk.lvN {fs:List Fa} (h:FsOk fs) (x:Str):∀ f∈ofN fs x,f.lvl≤200:=fun f hf=>h.lv ⟨x,f⟩ (mem_ofN.mp hf)
theorem FsOk.lenN {fs:List Fa} (h:FsOk fs) (x:Str):(ofN fs x).length≤900:=Nat.le_trans (zrK fs x) h.len
noncomputable def zaB {fs:List Fa} (h:FsOk fs):Plan fs:=
 ⟨zdZ (zcO fs []),fun x=>cmV x (ofN fs x),fun x=>cmT x (ofN fs x),zrJ (zlS fs [] (by simp)),fun x=>by rw [zlU,zit]; simp,fun x _=>(ziu x _ (h.lenN x) (h.lvN x)).1,fun x f hf=>(ziu x _ (h.lenN x) (h.lvN x)).2.1 f hf⟩
theorem zlV {fs:List Fa} (h:FsOk fs) (x:Str):zff (ofN fs x) ((zaB h).top x):=(ziu x _ (h.lenN x) (h.lvN x)).2.2.1.2
end G
end
section
namespace G
open PySem PySem.Spec PyProof.Rows L2 Z PySem.SeqAt
end G
end
section
namespace G
open PySem PySem.Spec PyProof.Rows L2 Z PySem.SeqAt
def valOk (v:Str):Prop:=okB (zbw [.str v] [])=true
theorem valOk.run {x:Str} (h:valOk x) (M:Mem):zaG zbw [.str x] M = .ok (.bl true) M:=zh5 h (by simp [zau,zal])
structure ScG (s:Sc):Prop where
 keys:zaO s
 ns:∀ p∈s,nameOk p.1∧valOk p.2
 len:s.length≤1000
structure NeG (n:Ne):Prop where
 ok:∀ s∈n,ScG s
 len:n.length≤1000
end G
end
section
namespace G
open PySem PySem.Spec PyProof.Rows L2 Z PySem.SeqAt
end G
end
section
namespace G
open PySem PySem.Spec PyProof.Rows L2 Z PySem.SeqAt
def Plan.all_ {fs:List Fa} (p:Plan fs):Bool:=p.names.all p.pos
def zgk {fs:List Fa} (p:Plan fs) (x:Str):List Fa:=(zcN (p.ch x) (p.top x + 1) 0).map fun c=>⟨x,c⟩
def zby {fs:List Fa} (p:Plan fs):List Fa:=p.names.flatMap (zgk p)
end G
end
section
namespace G
open PySem PySem.Spec PyProof.Rows L2 Z PySem.SeqAt
end G
end
section
namespace G
open PySem PySem.Spec PyProof.Rows L2 Z PySem.SeqAt
section
variable {fs:List Fa} (p:Plan fs)
theorem zlW (hp:p.all_=true) {x:Str} (hx:x∈p.names):p.pos x=true:=List.all_eq_true.mp hp x hx
end
end G
end
section
namespace G
open PySem PySem.Spec PyProof.Rows L2 Z PySem.SeqAt
def AllS (P:List Vl→Prop) (l:Nat) (v:Vl):Prop := ∀ os,P os→zaD os l=v
def AllB (P:List Vl→Prop) (l:Nat) (v:Vl):Prop := ∀ os,P os→os.getD l none=v
open Classical in
/-- the known facts from a level on, told by the nests -/
noncomputable def kn (P:List Vl→Prop):Nat→Nat→List Fc
 | 0,_ => []
 | n + 1,l=>if AllS P l none then [⟨l,true,none⟩] else
  ((if h:∃ v,AllB P l v then [⟨l,false,h.choose⟩] else []) ++ (if h:∃ v,AllS P l v then [⟨l,true,h.choose⟩] else [])) ++ kn P n (l + 1)
theorem AllS.uniq {P:List Vl→Prop} {l:Nat} {v w:Vl} (h:AllS P l v) (h':AllS P l w) {os:List Vl} (hs:P os):v=w:=(h os hs).symm.trans (h' os hs)
theorem AllB.uniq {P:List Vl→Prop} {l:Nat} {v w:Vl} (h:AllB P l v) (h':AllB P l w) {os:List Vl} (hs:P os):v=w:=(h os hs).symm.trans (h' os hs)
theorem zgl {vals:List Str} {fs:List Fc} (h:Vals vals fs) (v:Vl):∃ z:Str,some z≠v:=by
 obtain ⟨z,_,hz⟩:=h.spare v
 exact ⟨z,fun e=>hz e.symm⟩
def zeu (os:List Vl) (l:Nat) (v:Vl):List Vl:=(List.range (max os.length (l + 1))).map fun i=>if i=l then v else os.getD i none
theorem setO_get (os:List Vl) (l:Nat) (v:Vl) (i:Nat):(zeu os l v).getD i none=if i=l then v else os.getD i none:=by
 unfold zeu
 simp only [List.getD,List.getElem?_map]
 by_cases h:i < max os.length (l + 1)
 ·rw [List.getElem?_range h]; rfl
 ·rw [List.getElem?_eq_none (by simp; omega)]
  rw [if_neg (by omega),List.getElem?_eq_none (by omega)]
  rfl
theorem zgm {os os':List Vl} {l:Nat} (h:∀ i,i < l→os.getD i none=os'.getD i none) (e:zaD os l=zaD os' l):∀ j,j≤l→zaD os j=zaD os' j:=by
 have key:∀ k,k≤l→zaD os (l - k)=zaD os' (l - k):=by
  intro k
  induction k with
  | zero=>intro _; exact e
  | succ k ih=>
   intro hk
   rw [zbI os,zbI os',h (l - (k + 1)) (by omega),show l - (k + 1) + 1=l - k by omega,ih (by omega)]
 intro j hj
 have:=key (l - j) (by omega)
 rwa [show l - (l - j)=j by omega] at this
section
variable {vals:List Str} {fs:List Fc} {top:Nat}
theorem beyond (h:Vals vals fs) (lt:∀ f∈fs,f.lvl < top) {os:List Vl} (hs:Has os fs) {s:Str} (hv:zaD os top=some s) (a:Vl) {l:Nat} (hl:top < l) :
  ∃ os',Has os' fs∧os'.getD top none=some s∧os'.getD l none=a∧zaD os' (l + 1)=none:=by
 let os':List Vl:=(List.range (l + 1)).map fun i=>if i < top then os.getD i none else if i=top then some s else if i=l then a else none
 have g:∀ i,os'.getD i none=if i < l + 1 then (if i < top then os.getD i none else if i=top then some s else if i=l then a else none) else none:=by
  intro i
  show ((List.range (l + 1)).map _).getD i none=_
  simp only [List.getD,List.getElem?_map]
  by_cases c:i < l + 1
  ·rw [List.getElem?_range c,if_pos c]; rfl
  ·rw [List.getElem?_eq_none (by simp; omega),if_neg c]; rfl
 have gt:os'.getD top none=some s:=by rw [g,if_pos (by omega),if_neg (by omega),if_pos rfl]
 have vt:zaD os' top=some s:=by rw [zbI,gt]; rfl
 have low:∀ i,i < top→os'.getD i none=os.getD i none:=fun i hi=>by rw [g,if_pos (by omega),if_pos hi]
 have vl:=zgm (l:=top) low (by rw [vt,hv])
 refine ⟨os',fun f hf=>?_,gt,?_,zdK _ _ (by show ((List.range (l + 1)).map _).length≤_; simp)⟩
 ·have:=hs f hf
  have lf:=lt f hf
  unfold zbJ at this ⊢
  rw [vl f.lvl (by omega),low f.lvl lf]
  exact this
 ·rw [g,if_pos (by omega),if_neg (by omega),if_neg (by omega),if_pos rfl]
theorem zlX (h:Vals vals fs) (lt:∀ f∈fs,f.lvl < top) (hx:¬ AllS (fun os=>Has os fs) top none):(∀ l v,top < l→¬AllS (fun os=>Has os fs) l v)∧∀l v,top≤l→¬AllB (fun os=>Has os fs) l v:=by
 obtain ⟨os,hs,s,hv⟩:∃ os,Has os fs∧∃s,zaD os top=some s:=by
  refine Classical.byContradiction fun c=>hx fun os hs=>?_
  cases e:zaD os top with
  | none=>rfl
  | some s=>exact absurd ⟨os,hs,s,e⟩ c
 have two:∀ l v,top < l→¬AllB (fun os=>Has os fs) l v:=fun l v hl ha=>by
  obtain ⟨z,hz⟩:=zgl h v
  obtain ⟨os1,h1,_,g1,_⟩:=beyond h lt hs hv (some z) hl
  exact hz (g1.symm.trans (ha os1 h1))
 refine ⟨fun l v hl ha=>?_,fun l v hl ha=>?_⟩
 ·obtain ⟨z,hz⟩:=zgl h v
  obtain ⟨os1,h1,_,g1,_⟩:=beyond h lt hs hv (some z) hl
  have:=ha os1 h1
  rw [zbI,g1] at this
  exact hz this
 ·rcases Nat.lt_or_ge top l with c | c
  ·exact two l v c ha
  ·have e:l=top:=by omega
   subst e
   -- the own value at the top: that of the nest, or none with the value behind it
   obtain ⟨os1,h1,g1,_,_⟩:=beyond h lt hs hv none (l:=l + 1) (by omega)
   have v1:v=some s:=(ha os1 h1).symm.trans g1
   let os2:=zeu (zeu os l none) (l + 1) (some s)
   have q:∀ i,os2.getD i none=if i=l + 1 then some s else if i=l then none else os.getD i none:=fun i=>by
    show (zeu (zeu os l none) (l + 1) (some s)).getD i none=_
    rw [setO_get,setO_get]
   have e2:zaD os2 l=some s:=by
    rw [zbI,q,if_neg (by omega),if_pos rfl,zbI,q,if_pos rfl]
    rfl
   have low:∀ i,i < l→os2.getD i none=os.getD i none:=fun i hi=>by rw [q,if_neg (by omega),if_neg (by omega)]
   have vl:=zgm (l:=l) low (by rw [e2,hv])
   have hs2:Has os2 fs:=fun f hf=>by
    have:=hs f hf
    have lf:=lt f hf
    unfold zbJ at this ⊢
    rw [vl f.lvl (by omega),low f.lvl lf]
    exact this
   have:=ha os2 hs2
   rw [q,if_neg (by omega),if_pos rfl,v1] at this
   cases this
end
theorem len_one {l:List Vl} (nd:l.Nodup) (ne:l ≠ []) {v:Vl} (h:∀ w∈l,w=v):l = [v]:=by
 match l,ne with
 | [a],_=>rw [h a List.mem_cons_self]
 | a :: b :: r,_=>
  have e1:=h a (by simp)
  have e2:=h b (by simp)
  rw [e1,e2] at nd
  simp at nd
theorem zlY {vals:List Str} {fs:List Fc} (h:Vals vals fs):(none :: vals.map some:List Vl).Nodup:=by
 rw [List.nodup_cons]
 refine ⟨by simp,?_⟩
 have:=h.nd
 exact List.Pairwise.map some (fun a b ne e=>ne (Option.some.inj e)) this
structure NdC (c:Ch):Prop where
 S:∀ i,(c.S i).Nodup
 B:∀ i,(c.B i).Nodup
theorem NdC.nl {c:Ch} (h:NdC c) (l:Nat):NdC (nl c l):=by
 refine ⟨fun i=>?_,fun i=>?_⟩
 ·unfold G.nl zce keep3
  simp only
  split
  ·exact List.Pairwise.filter _ (h.S l)
  ·split
   ·exact List.Pairwise.filter _ (h.S (l + 1))
   ·exact h.S i
 ·unfold G.nl keep2
  simp only
  split
  ·exact List.Pairwise.filter _ (h.B l)
  ·exact h.B i
theorem NdC.bwd {c:Ch} (h:NdC c):∀ n,NdC (bwd c n):=fun n=>by
 induction n generalizing c with
 | zero=>exact h
 | succ n ih=>exact ih (h.nl n)
theorem NdC.fwd {c:Ch} (h:NdC c):∀ n,NdC (fwd c n):=fun n=>by
 induction n with
 | zero=>exact h
 | succ n ih=>exact ih.nl n
theorem zlZ {vals:List Str} {fs:List Fc} (h:Vals vals fs) (top:Nat):NdC (narrow (ch0 vals top fs)):=by
 have:NdC (ch0 vals top fs):=⟨fun i=>List.Pairwise.filter _ (zlY h),fun i=>List.Pairwise.filter _ (zlY h)⟩
 exact (this.bwd _).fwd _
section
variable {vals:List Str} {fs:List Fc} {top:Nat} (h:Vals vals fs) (lt:∀ f∈fs,f.lvl < top) (ne:∀ l,l≤top→(narrow (ch0 vals top fs)).S l ≠ [])
include h lt ne
theorem zgn {l:Nat} (hl:l≤top) (v:Vl):(narrow (ch0 vals top fs)).S l = [v]↔AllS (fun os=>Has os fs) l v:=by
 refine ⟨fun e os hs=>zqI h hs hl e,fun ha=>len_one ((zlZ h top).S l) (ne l hl) fun w hw=>?_⟩
 obtain ⟨os,h1,h2,_⟩:=zqK lt hl hw
 exact h2.symm.trans (ha os h1)
theorem zl0 {l:Nat} (hl:l < top) (v:Vl):(narrow (ch0 vals top fs)).B l = [v]↔AllB (fun os=>Has os fs) l v:=by
 refine ⟨fun e os hs=>zqJ h hs hl e,fun ha=>len_one ((zlZ h top).B l) ?_ fun w hw=>?_⟩
 ·intro e
  have h1:=ne l (by omega)
  cases q:(narrow (ch0 vals top fs)).S l with
  | nil=>exact h1 q
  | cons a r=>
   obtain ⟨b,s,_,r'⟩:=zgc (c:=ch0 vals top fs) (k:=l) (by show l≤top; omega) (v:=a) (by rw [q]; simp)
   have:=(zer (c:=ch0 vals top fs) r').own l (Nat.zero_le _) hl
   rw [e] at this
   cases this
 ·obtain ⟨os,h1,h2,_⟩:=zqL lt hl hw
  exact h2.symm.trans (ha os h1)
theorem zl1:∀ (n l:Nat),l + n=top + 1→zcN (narrow (ch0 vals top fs)) n l=kn (fun os=>Has os fs) n l
 | 0,_,_=>by unfold zcN kn; rfl
 | n + 1,l,hn=>by
  obtain ⟨os0,hs0⟩:∃ os,Has os fs:=⟨_,(zig lt ne).1⟩
  have ht:(narrow (ch0 vals top fs)).top=top:=zf8 _
  unfold zcN kn
  by_cases z:(narrow (ch0 vals top fs)).S l = [none]
  ·rw [if_pos z,if_pos ((zgn h lt ne (by omega) none).mp z)]
  ·have z':¬ AllS (fun os=>Has os fs) l none:=fun c=>z ((zgn h lt ne (by omega) none).mpr c)
   rw [if_neg z,if_neg z',zl1 n (l + 1) (by omega)]
   congr 1
   unfold zgj
   rw [ht]
   congr 1
   ·by_cases c:∃ v,AllB (fun os=>Has os fs) l v
    ·have lt':l < top:=by
      refine Classical.byContradiction fun q=>?_
      have e:l=top:=by omega
      obtain ⟨v,hv⟩:=c
      exact (zlX h lt (e ▸ z')).2 l v (by omega) hv
     have e:=(zl0 h lt ne lt' _).mpr c.choose_spec
     rw [dif_pos c,e,if_pos ⟨lt',rfl⟩]
     rfl
    ·rw [dif_neg c,if_neg]
     rintro ⟨lt',q⟩
     obtain ⟨b,eb⟩:=List.length_eq_one_iff.mp q
     exact c ⟨b,(zl0 h lt ne lt' b).mp eb⟩
   ·by_cases c:∃ v,AllS (fun os=>Has os fs) l v
    ·have e:=(zgn h lt ne (by omega) _).mpr c.choose_spec
     rw [dif_pos c,e]
     rfl
    ·rw [dif_neg c,if_neg]
     intro q
     obtain ⟨b,eb⟩:=List.length_eq_one_iff.mp q
     exact c ⟨b,(zgn h lt ne (by omega) b).mp eb⟩
theorem zl2 (k:Nat):∀ (n l:Nat),l + n=top + 1→(∀ j,j < l→¬AllS (fun os=>Has os fs) j none)→kn (fun os=>Has os fs) (n + k) l=kn (fun os=>Has os fs) n l
 | 0,l,hn,hj=>by
  have key:∀ (k l:Nat),top < l→¬AllS (fun os=>Has os fs) top none→kn (fun os=>Has os fs) k l = []:=by
   intro k
   induction k with
   | zero=>intro l _ _; unfold kn; rfl
   | succ k ih=>
    intro l hl z
    have q:=zlX h lt z
    unfold kn
    rw [if_neg (q.1 l none hl),dif_neg (fun ⟨v,c⟩=>q.2 l v (by omega) c),dif_neg (fun ⟨v,c⟩=>q.1 l v hl c),ih (l + 1) (by omega) z]
    rfl
  rw [Nat.zero_add,key k l (by omega) (hj top (by omega))]
  unfold kn
  rfl
 | n + 1,l,hn,hj=>by
  rw [show n + 1 + k=(n + k) + 1 by omega]
  unfold kn
  by_cases z:AllS (fun os=>Has os fs) l none
  ·rw [if_pos z,if_pos z]
  ·rw [if_neg z,if_neg z,zl2 k n (l + 1) (by omega) (fun j hj'=>by
    by_cases e:j=l
    ·rw [e]; exact z
    ·exact hj j (by omega))]
end
end G
end
section
namespace G
open PySem PySem.Spec PyProof.Rows L2 Z PySem.SeqAt
structure FV (f:Fa):Prop where
 nm:nameOk f.nm
 v:∀ v,f.fc.v=some v→valOk v
 lv:f.fc.lvl≤200
structure FsV (n m:Nat) (fs:List Fa):Prop where
 len:fs.length≤n
 nm:(zcO fs []).length≤m
 ok:∀ f∈fs,FV f
theorem FsV.fs {n m:Nat} {fs:List Fa} (h:FsV n m fs) (hn:n≤900) (hm:m≤20):FsOk fs:=⟨by have:=h.len; omega,fun f hf=>(h.ok f hf).lv,by have:=h.nm; omega⟩
end G
end
section
namespace G
open PySem PySem.Spec PyProof.Rows L2 Z PySem.SeqAt
theorem zrL {fs:List Fa} (p:Plan fs):p.all_=true↔Sol fs:=by
 rw [p.sol_iff]
 unfold Plan.all_
 exact List.all_eq_true
theorem Ans.left {n:Ne} {d:Nat} {fs gs:List Fa} (h:Ans n d (fs ++ gs)):Ans n d fs:=⟨h.1,fun f hf=>h.2 f (List.mem_append_left _ hf)⟩
end G
end
section
namespace G
open PySem PySem.Spec PyProof.Rows L2 Z PySem.SeqAt
theorem zl3 {P:List Vl→Prop} {c:Fc}:∀ (n l:Nat),c∈kn P n l→(c.seen=true→AllS P c.lvl c.v)∧(c.seen=false→AllB P c.lvl c.v∧¬AllS P c.lvl none)∧l≤c.lvl∧c.lvl < l + n
 | 0,l,h=>by unfold kn at h; cases h
 | n + 1,l,h=>by
  unfold kn at h
  by_cases z:AllS P l none
  ·rw [if_pos z] at h
   have e:=List.mem_singleton.mp h
   subst e
   exact ⟨fun _=>z,fun z=>by simp at z,Nat.le_refl _,by show l < _; omega⟩
  ·rw [if_neg z] at h
   rcases List.mem_append.mp h with h | h
   ·rcases List.mem_append.mp h with h | h
    ·by_cases q:∃ v,AllB P l v
     ·rw [dif_pos q] at h
      have e:=List.mem_singleton.mp h
      subst e
      exact ⟨fun z=>by simp at z,fun _=>⟨q.choose_spec,z⟩,Nat.le_refl _,by show l < _; omega⟩
     ·rw [dif_neg q] at h; cases h
    ·by_cases q:∃ v,AllS P l v
     ·rw [dif_pos q] at h
      have e:=List.mem_singleton.mp h
      subst e
      exact ⟨fun _=>q.choose_spec,fun z=>by simp at z,Nat.le_refl _,by show l < _; omega⟩
     ·rw [dif_neg q] at h; cases h
   ·obtain ⟨h1,h2,h3,h4⟩:=zl3 n (l + 1) h
    exact ⟨h1,h2,by omega,by omega⟩
section
variable {fs:List Fa} (p:Plan fs)
theorem zrM (hp:p.all_=true) {x:Str} (hx:x∈p.names) (k:Nat):zcN (p.ch x) (p.top x + 1) 0=kn (fun os=>Has os (ofN fs x)) (p.top x + 1 + k) 0:=by
 have ne:=(p.pos_iff x).mp (zlW p hp hx)
 have h:=p.ok x hx
 have e:=zl1 h (p.lt x) ne (p.top x + 1) 0 (by omega)
 rw [zl2 h (p.lt x) ne k (p.top x + 1) 0 (by omega) (fun j hj=>by omega)]
 exact e
theorem zl4 {x:Str} {c:Fc}:(⟨x,c⟩:Fa)∈zby p↔x∈p.names∧c∈zcN (p.ch x) (p.top x + 1) 0:=by
 unfold zby zgk
 simp only [List.mem_flatMap,List.mem_map]
 constructor
 ·rintro ⟨y,hy,c',hc',e⟩
  have e1:y=x:=congrArg Fa.nm e
  have e2:c'=c:=congrArg Fa.fc e
  subst e1 e2
  exact ⟨hy,hc'⟩
 ·rintro ⟨h1,h2⟩
  exact ⟨x,h1,c,h2,rfl⟩
theorem zrN (hp:p.all_=true) (x:Str):∃ os,Has os (ofN fs x):=(zrL p).mp hp x
theorem zrO (hp:p.all_=true) {d m:Nat}:p.least d≤m↔d≤m∧(∀ f∈fs,f.fc.seen=false→f.fc.lvl < m)∧∀x,∃os,Has os (ofN fs x)∧os.length≤m:=by
 rw [p.least_le]
 refine and_congr_right fun _=>and_congr_right fun _=>⟨fun h x=>?_,fun h x hx=>?_⟩
 ·by_cases hx:x∈p.names
  ·have q:=zig (p.lt x) ((p.pos_iff x).mp (zlW p hp hx))
   exact ⟨_,q.1,by rw [q.2]; exact h x hx⟩
  ·exact ⟨[],fun c hc=>absurd ((p.all x).mpr ⟨⟨x,c⟩,mem_ofN.mp hc,rfl⟩) hx,Nat.zero_le _⟩
 ·obtain ⟨os,h1,h2⟩:=h x
  exact Nat.le_trans (zlo (top:=p.top x) (p.ok x hx) h1) h2
end
end G
end
section
namespace G
open PySem PySem.Spec PyProof.Rows L2 Z PySem.SeqAt
end G
end
section
namespace G
open PySem PySem.Spec PyProof.Rows L2 Z PySem.SeqAt
def LF (L:Nat) (fs:List Fa):Prop := ∀ f∈fs,f.nm ∈ [nm2 0,nm2 1]∧f.fc.lvl < L∧∀v,f.fc.v=some v→v∈valsD
end G
end
section
namespace G
open PySem PySem.Spec PyProof.Rows L2 Z PySem.SeqAt
theorem zrP {x:Str} (h:x ∈ [nm2 0,nm2 1]):nameOk x:=by
 refine List.all_eq_true.mp zql x ?_
 have:∀ y ∈ [nm2 0,nm2 1],y∈namesD:=by decide
 exact this x h
theorem LF.fv {L:Nat} {fs:List Fa} (h:LF L fs) (hL:L≤201) {f:Fa} (hf:f∈fs):FV f:=
 ⟨zrP (h f hf).1,fun v hv=>List.all_eq_true.mp zqm v ((h f hf).2.2 v hv),by have:=(h f hf).2.1; omega⟩
theorem zl5 {fs:List Fa} (h:FsOk fs) {L:Nat} (hL:∀ f∈fs,f.fc.lvl < L):(zby (zaB h)).length≤(zaB h).names.length * (2 * (L + 1)):=by
 have one:∀ x,(zgk (zaB h) x).length≤2 * (L + 1):=fun x=>by
  unfold zgk
  rw [List.length_map]
  have:=zlR ((zaB h).ch x) ((zaB h).top x + 1) 0
  have t:=zlV h x L (fun g hg=>hL ⟨x,g⟩ (mem_ofN.mp hg))
  omega
 unfold zby
 generalize (zaB h).names=l
 induction l with
 | nil=>simp
 | cons a r ih=>
  rw [List.flatMap_cons,List.length_append,List.length_cons,Nat.succ_mul]
  have:=one a
  omega
theorem zrQ {fs:List Fa} (h:FsOk fs) {d L m:Nat} (hL:∀ f∈fs,f.fc.lvl < L) (hd:d≤m) (hm:L + 1≤m):(zaB h).least d≤m:=by
 refine ((zaB h).least_le).mpr ⟨hd,fun f hf _=>by have:=hL f hf; omega,fun x _=>?_⟩
 have h1:=zid (c:=(zaB h).ch x)
 have h2:((zaB h).ch x).top=(zaB h).top x:=zf8 _
 have t:=zlV h x L (fun g hg=>hL ⟨x,g⟩ (mem_ofN.mp hg))
 omega
end G
end
section
namespace G
open PySem PySem.Spec PyProof.Rows L2 Z PySem.SeqAt
def zdm:List T := [.non,.non,.str "1",.str "2",.str "x"]
theorem zrR {i:Int} (h0:0≤i) (h1:i < 5):(∀ M,gIx (.lst zdm) (.int i) M=some (.non,M))∨∃v∈valsD,∀M,gIx (.lst zdm) (.int i) M=some (.str v,M):=by
 obtain ⟨t,ht,e⟩:=zoM (xs:=zdm) h0 (by simpa [zdm] using h1)
 have e2:∀ M,gIx (.lst zdm) (.int i) M=some (t,M):=fun M=>by rw [ix_lst',e]; rfl
 simp only [zdm,List.mem_cons,List.not_mem_nil,or_false] at ht
 rcases ht with rfl | rfl | rfl | rfl | rfl
 ·exact .inl e2
 ·exact .inl e2
 ·exact .inr ⟨_,by simp [valsD],e2⟩
 ·exact .inr ⟨_,by simp [valsD],e2⟩
 ·exact .inr ⟨_,by simp [valsD],e2⟩
def inner:DS:=zaP [5,6,7] (zag (zaw 7 (zac gIx (zaq false (zab (dC .non) (zab (dC .non) (zab (dC (.str "1")) (zab (dC (.str "2")) (zab (dC (.str "x")) zad)))))) (zac zaK (zac gIx (zaa 0) (zac (zan false) (zac (zan false) (dC (.int 1)) (zac (za7 false) (dC (.int 3)) (zaa 3))) (zaa 5))) (dC (.int 5))))) (dIf (zai (zac zbt (zaa 7) (dC .non))) (zcj (zaa 4) (zaa 6) (zaa 7)) dNx))
def nameIx:List (Str × Nat) := [("x",0),("y",1),("own",2)]
theorem zrS (ds:List Int) (hp:Pos ds) (deep:Int) (k:Nat) (hk:1 + 3 * k + 3≤ds.length) (acc:List T) :
  ∃ s:Sc,ScOk s∧s.length≤3∧forL (gTup (zaC (gN 5) (zaC (gN 6) zbk))) inner (nameIx.map fun p => .tup [.int (p.2:Int),.str p.1]) [some (.lst (ds.map T.int)),some (.int deep),some (.cel 0),some (.int (k:Int)),some (.cel 1),none,none,none] [.live (.lst acc),.live (zap [])]
   = .nx [some (.lst (ds.map T.int)),some (.int deep),some (.cel 0),some (.int (k:Int)),some (.cel 1),none,none,none] [.live (.lst acc),.live (zap s)]:=by
 have key:=zfV (α := Sc) (g:=gTup (zaC (gN 5) (zaC (gN 6) zbk))) (b:=inner) (it:=fun p:Str × Nat => .tup [.int (p.2:Int),.str p.1]) (sO:=fun _ => [some (.lst (ds.map T.int)),some (.int deep),some (.cel 0),some (.int (k:Int)),some (.cel 1),none,none,none]) (mO:=fun s => [.live (.lst acc),.live (zap s)])
  (Inv:=fun r s=>ScOk s∧s.length + r.length≤3∧(∀ p∈r,p.1∉s.map (·.1))∧(r.map (·.1)).Nodup) nameIx (fun p hpm r s hi=>by
   obtain ⟨h1,h2,h3,h4⟩:=hi
   have hn:p.1∈namesD∧p.2 < 3:=by
    simp only [nameIx,List.mem_cons,List.not_mem_nil,or_false] at hpm
    rcases hpm with rfl | rfl | rfl <;> simp [namesD]
   rw [List.map_cons,List.nodup_cons] at h4
   have hlt:1 + 3 * k + p.2 < ds.length:=by omega
   have hix:∀ M,gIx (.lst (ds.map T.int)) (.int (1 + 3 * (k:Int) + (p.2:Int))) M=some (.int ds[1 + 3 * k + p.2],M):=fun M=>by
    rw [show (1:Int) + 3 * (k:Int) + (p.2:Int)=((1 + 3 * k + p.2:Nat):Int) by omega,ix_lst',at_pos,List.getElem?_map,List.getElem?_eq_getElem hlt]; rfl
   have s1:∀ j:Int,(sgn 3 || sgn j)=true:=fun _=>rfl
   have hd:=zbS ds[1 + 3 * k + p.2] (b:=5) (by omega)
   have hix':=hix
   simp only [ix_lst'] at hix
   have hs3:s.length < 16777216:=by omega
   rcases zrR hd.1 hd.2 with hv | ⟨v,hv,ev⟩
   ·refine ⟨[some (.lst (ds.map T.int)),some (.int deep),some (.cel 0),some (.int (k:Int)),some (.cel 1),some (.int (p.2:Int)),some (.str p.1),none],s,by simp,?_,h1,by simp at h2; omega,fun q hq=>h3 q (List.mem_cons_of_mem _ hq),h4.2⟩
    simp only [zdm,ix_lst'] at hv
    simp [inner,s1,hix,hv,zbd]
   ·have hnot:p.1∉s.map (·.1):=h3 p (List.mem_cons_self ..)
    refine ⟨[some (.lst (ds.map T.int)),some (.int deep),some (.cel 0),some (.int (k:Int)),some (.cel 1),some (.int (p.2:Int)),some (.str p.1),none],s ++ [(p.1,v)],by simp,?_,⟨?_,?_⟩,by simp at h2 ⊢; omega,?_,h4.2⟩
    ·simp only [zdm,ix_lst'] at ev
     have hput:putT (s.map fun p=>(p.1,T.str p.2)) p.1 (.str v)=(s ++ [(p.1,v)]).map fun p=>(p.1,T.str p.2):=by
      rw [zfW (by rw [List.map_map]; exact hnot)]; simp
     simp [inner,s1,hix,ev,zap,hput,hs3,zbd]
    ·have hk2:=h1.keys
     unfold zaO at hk2 ⊢
     rw [List.map_append,List.nodup_append]
     refine ⟨hk2,by simp,fun a ha b hb e=>?_⟩
     have hb':b=p.1:=by simpa using hb
     rw [e,hb'] at ha
     exact hnot ha
    ·intro q hq
     rcases List.mem_append.mp hq with hq | hq
     ·exact h1.ns q hq
     ·have:q=(p.1,v):=by simpa using hq
      rw [this]; exact ⟨hn.1,hv⟩
    ·intro q hq c
     rw [List.map_append,List.mem_append] at c
     rcases c with c | c
     ·exact h3 q (List.mem_cons_of_mem _ hq) c
     ·have e:q.1=p.1:=by simpa using c
      exact h4.1 (by rw [← e]; exact List.mem_map_of_mem hq)) [] ⟨⟨by simp [zaO],fun p h=>by simp at h⟩,by simp [nameIx],by simp,by simp [nameIx]; decide +kernel⟩
 obtain ⟨s,e,h1,h2,_⟩:=key
 exact ⟨s,h1,by simpa using h2,e⟩
structure NSm (n:Ne) (d:Nat):Prop where
 ok:zh4 n
 len:n.length≤d
 sc:∀ s∈n,s.length≤3
theorem zrT (ds:List Int) (hp:Pos ds) (d:Nat) (h:1 + 3 * d + 3≤ds.length) (hd:d < 1000):∃ n,NSm n d∧∀M,zaG ze1 [.lst (ds.map T.int),.int (d:Int)] M = .ok (zam n) M:=by
 have nc:zau [T.lst (ds.map T.int),.int (d:Int)]=true:=by simp only [zau,zal,Bool.and_true]; exact zbm (fun _=>by simp only [zal]) _
 have ncd:zal (T.lst (ds.map T.int))=true:=by simp only [zal]; exact zbm (fun _=>by simp only [zal]) _
 obtain ⟨a0,ha0⟩:∃ a0,ds.headD 0=a0:=⟨_,rfl⟩
 have key:=zfV (α := Ne) (g:=gN 3) (b:=zaP [3,4,5,6,7] (zag (zaw 4 (zbF true)) (zag (zaH (zc0 (zab (zaq false (zab (dC (.str "x")) (zab (dC (.str "y")) (zab (dC (.str "own")) zad)))) zad)) (gTup (zaC (gN 5) (zaC (gN 6) zbk))) (zag (zaw 7 (zac gIx (zaq false (zab (dC .non) (zab (dC .non) (zab (dC (.str "1")) (zab (dC (.str "2")) (zab (dC (.str "x")) zad)))))) (zac zaK (zac gIx (zaa 0) (zac (zan false) (zac (zan false) (dC (.int 1)) (zac (za7 false) (dC (.int 3)) (zaa 3))) (zaa 5))) (dC (.int 5))))) (dIf (zai (zac zbt (zaa 7) (dC .non))) (zcj (zaa 4) (zaa 6) (zaa 7)) dNx)) [5,6,7]) (zbZ 4 (zaW (zbc "list" zbo (zaa 2) (zab (zaa 4) zad)))))))
  (it:=fun (i:Nat)=>T.int (i:Int)) (sO:=fun _ => [some (.lst (ds.map T.int)),some (.int (d:Int)),some (.cel 0),none,none,none,none,none]) (mO:=fun n => [.live (.lst (n.map zap))])
  (Inv:=fun r n=>zh4 n∧n.length + r.length≤d∧∀s∈n,s.length≤3) (List.range (a0 % ((d:Int) + 1)).toNat) (fun i hi r n hn=>by
   obtain ⟨h1,h2,h3⟩:=hn
   have hil:i < d:=by
    have:=List.mem_range.mp hi
    have hm:=zbS a0 (b:=(d:Int) + 1) (by omega)
    omega
   obtain ⟨s,g1,g2,g3⟩:=zrS ds hp (d:Int) i (by omega) (n.map zap)
   refine ⟨[some (.lst (ds.map T.int)),some (.int (d:Int)),some (.cel 0),some (.int (i:Int)),none,none,none,none],n ++ [s],by simp,?_,?_,by simp at h2 ⊢; omega,?_⟩
   ·have hf:=zoR (M := []) (c := .live (.lst (n.map zap))) (zf6 s) (zf7 s)
    have hz:zbj [T.str "x",T.str "y",T.str "own"]=nameIx.map fun p => .tup [.int (p.2:Int),.str p.1]:=rfl
    simp only [inner,zap,List.map_nil] at g3
    simp [hz]
    simp only [zap] at g3 ⊢
    rw [g3]
    simp [hf,show n.length < 16777216 by omega]
    have hncs:zau (n.map zap)=true:=zbm zem n
    rw [show (List.map zap n ++ [T.dct (s.map fun p=>(p.1,T.str p.2))])=(n ++ [s]).map zap by simp [zap]]
    have hncs2:zal (.lst ((n ++ [s]).map zap))=true:=by simp only [zal]; exact zbm zem _
    rw [zkG _ (by simp) (by simp [zhk,zaF,zcu (show zau (ds.map T.int)=true from zbm (fun _=>by simp only [zal]) _)]) (by simp only [List.take_succ_cons,List.take_zero,List.all_cons,List.all_nil,zaY,Bool.and_true]; exact zgK hncs2)]
    simp [zap]
   ·intro t ht
    rcases List.mem_append.mp ht with ht | ht
    ·exact h1 t ht
    ·have:t=s:=by simpa using ht
     rw [this]; exact g1
   ·intro t ht
    rcases List.mem_append.mp ht with ht | ht
    ·exact h3 t ht
    ·have:t=s:=by simpa using ht
     rw [this]; exact g2) [] ⟨fun s hs=>by simp at hs,by
      have hm:=zbS a0 (b:=(d:Int) + 1) (by omega)
      simp; omega,fun s hs=>by simp at hs⟩
 obtain ⟨n,e,h1,h2,h3⟩:=key
 refine ⟨n,⟨h1,by simpa using h2,h3⟩,fun M=>zaA ⟨[.dead],zbq ?_⟩ nc (zbT n)⟩
 have hnd:zau (n.map zap)=true:=zbm zem n
 have hdd:zaU (n.map zap)≤18:=by
  have:=zc3 (k:=2) (f:=zap) zh3 n
  omega
 have hf:=zkM (M := []) hnd hdd
 unfold zed
 cases ds with
 | nil=>simp at h
 | cons a r=>
  have ha:a=a0:=ha0
  subst ha
  have hm:=zbS a (b:=(d:Int) + 1) (by omega)
  have hr:Z.inR (a % ((d:Int) + 1))=true:=zoT hm.1 (by omega)
  have hb:(0:Int) < (d:Int) + 1:=by omega
  simp at e
  simp [zaE,hr,zd7,hb]
  rw [e]
  simp [hf,zam]
@[simp] theorem in_sc (s:Sc) (x:Str) (M:Mem):gIn (.str x) (zap s) M=some (.bl (s.lookup x).isSome,M):=by
 unfold zap
 rw [in_dct',zeo]
 cases s.lookup x <;> rfl
theorem zrU {s:Sc} {x v:Str} (h:s.lookup x=some v) (M:Mem):gIx (zap s) (.str x) M=some (.str v,M):=by
 unfold zap
 rw [ix_dct',zeo,h]; rfl
end G
end
section
namespace G
open PySem PySem.Spec PyProof.Rows L2 Z PySem.SeqAt
theorem zl6 {s:Sc} (h:zaO s) (hl:s.length≤LIM) {n:Ne} {st:Stp} {x:Str} {M:Mem} (hx:gIx (enS st) (.int 1) M=some (.str x,M)) :
  dcL (gTup (zaC (gN 3) (zaC (gN 4) zbk))) (zai (zac gNe (zaa 3) (zac gIx (zaa 1) (dC (.int 1))))) (zaa 3) (zaa 4) [some (zam n),some (enS st),none,none,none] (s.map fun p => .tup [.str p.1,.str p.2]) [] M = .ok ((zaI s x).map fun p=>(p.1,T.str p.2)) M:=by
 rw [zhN (p:=fun q => !(q.1 == x)) (kf:=fun q=>q.1) (vf:=fun q=>T.str q.2) s [] (fun q _=>?_) (by simpa using hl)]
 ·have e:=zhO (kf:=fun q:Str × Str=>q.1) (vf:=fun q=>T.str q.2) (zaI s x) [] (zf5 h x) (by simp)
  unfold zaI at e
  rw [e]
  rfl
 ·refine ⟨[some (zam n),some (enS st),none,some (.str q.1),some (.str q.2)],by simp,?_,fun _=>⟨by simp,by simp⟩⟩
  simp [hx]
theorem zrV (n:Ne) (st:Stp) (M:Mem) (hk:∀ s∈n,zaO s) (hl:n.length < LIM) (hs:∀ s∈n,s.length < LIM):zaG zk0 [zam n,enS st] M = .ok (zaT (after n st)) M:=by
 refine zaA ?_ (by simp [zau,zbT,zdH]) (zep _)
 have e0:((0:Nat):Int)=0:=rfl
 have rv:∀ x M,zaG ze2 [.lst (n.map zap),.int 0,.str x] M = .ok (enO (vis n x)) M:=fun x M=>zlc n 0 x M
 have ro:∀ x M,zaG zf0 [.lst (n.map zap),.int 0,.str x] M = .ok (enO (zdi n 0 x)) M:=fun x M=>zld n 0 x M
 have hL:n.length + 1≤LIM:=hl
 cases st with
 | op=>
  refine ⟨[],zbq ?_⟩
  unfold zco
  simp [zaE,zam,enS,zaT,after,LIM_big]
  rw [if_pos (by rw [LIM_big] at hL; omega)]
  simp [zap]
 | expect x v=>
  have rw':=zf4 (.expect x v)
  refine ⟨[],zbq ?_⟩
  unfold zco
  simp [enS,wish,enO] at rw'
  simp [zaE,zam,enS,after,LIM_big,rv,rw',zc6]
  have e:=zcI (vis n x) (some v) zaX
  rw [show T.str v=enO (some v) from rfl,e]
  by_cases h:vis n x=some v <;> simp [h,zaT,zam]
 | free x=>
  have rw':=zf4 (.free x)
  refine ⟨[],zbq ?_⟩
  unfold zco
  simp [enS,wish,enO] at rw'
  simp [zaE,zam,enS,after,LIM_big,rv,rw',zc6]
  have e:=zcI (vis n x) none zaX
  rw [show T.non=enO none from rfl,e]
  by_cases h:vis n x=none <;> simp [h,zaT,zam,enO]
 | cl=>
  refine ⟨[],zbq ?_⟩
  unfold zco
  cases n with
  | nil=>simp [zaE,zam,enS,zaT,after,LIM_big,zbg]
  | cons s r=>simp [zaE,zam,enS,zaT,after,LIM_big]
 | owned x v=>
  have rw':=zf4 (.owned x v)
  refine ⟨[],zbq ?_⟩
  unfold zco
  simp [enS,wish,enO] at rw'
  cases n with
  | nil=>simp [zaE,zam,enS,zaT,after,LIM_big,zbg]
  | cons s r=>
   simp [zdi] at ro
   simp [zaE,zam,enS,after,LIM_big,ro,rw',zc6]
   have e:=zcI (s.lookup x) (some v) zaX
   rw [show T.str v=enO (some v) from rfl,e]
   by_cases h:s.lookup x=some v <;> simp [h,zaT,zam]
 | unowned x=>
  have rw':=zf4 (.unowned x)
  refine ⟨[],zbq ?_⟩
  unfold zco
  simp [enS,wish,enO] at rw'
  cases n with
  | nil=>simp [zaE,zam,enS,zaT,after,LIM_big,zbg]
  | cons s r=>
   simp [zdi] at ro
   simp [zaE,zam,enS,after,LIM_big,ro,rw',zc6]
   have e:=zcI (s.lookup x) none zaX
   rw [show T.non=enO none from rfl,e]
   by_cases h:s.lookup x=none <;> simp [h,zaT,zam,enO]
 | bind x v=>
  cases n with
  | nil=>
   refine ⟨[],zbq ?_⟩
   unfold zco
   simp [zaE,zam,enS,zaT,after,LIM_big,zbg]
  | cons s r=>
   refine ⟨[.dead],zbq ?_⟩
   have hd:=zl6 (n:=s :: r) (st := .bind x v) (x:=x) (M := []) (hk s (List.mem_cons_self ..)) (Nat.le_of_lt (hs s (List.mem_cons_self ..))) rfl
   have hdl:(zaI s x).length < LIM:=Nat.lt_of_le_of_lt (List.length_filter_le ..) (hs s (List.mem_cons_self ..))
   have hp:putT ((zaI s x).map fun p=>(p.1,T.str p.2)) x (.str v)=(zbs s x v).map fun p=>(p.1,T.str p.2):=by
    rw [zfW (by rw [List.map_map]; exact zh2 s x)]
    unfold zbs zaI
    simp
   have hf:=zhQ (M := []) (zf6 (zbs s x v)) (zf7 (zbs s x v))
   unfold zco
   simp [enS,zam] at hd
   simp [zaE,zam,enS,after,hd]
   simp at hdl
   have hz:frz za3 (T.lst (T.dct ((zbs s x v).map fun p=>(p.1,T.str p.2)) :: r.map zap)) [.dead]=some (T.lst (T.dct ((zbs s x v).map fun p=>(p.1,T.str p.2)) :: r.map zap),[.dead]):=zhR (zbT (zbs s x v :: r)) (by have:=zh7 (zbs s x v :: r); exact Nat.le_trans this (by omega))
   simp [hdl,hp,hf]
   rw [LIM_big] at hL
   simp at hL
   simp [zaT,zam,zap,show 1 + r.length≤16777216 by omega,hz]
 | drop x=>
  cases n with
  | nil=>
   refine ⟨[],zbq ?_⟩
   unfold zco
   simp [zaE,zam,enS,zaT,after,LIM_big,zbg]
  | cons s r=>
   refine ⟨[.dead],zbq ?_⟩
   have hd:=zl6 (n:=s :: r) (st := .drop x) (x:=x) (M := []) (hk s (List.mem_cons_self ..)) (Nat.le_of_lt (hs s (List.mem_cons_self ..))) rfl
   have hf:=zhQ (M := []) (zf6 (zaI s x)) (zf7 (zaI s x))
   unfold zco
   simp [enS,zam] at hd
   simp [zaE,zam,enS,after,hd]
   have hz:frz za3 (T.lst (T.dct ((zaI s x).map fun p=>(p.1,T.str p.2)) :: r.map zap)) [.dead]=some (T.lst (T.dct ((zaI s x).map fun p=>(p.1,T.str p.2)) :: r.map zap),[.dead]):=zhR (zbT (zaI s x :: r)) (by have:=zh7 (zaI s x :: r); exact Nat.le_trans this (by omega))
   simp [hf]
   rw [LIM_big] at hL
   simp at hL
   simp [zaT,zam,zap,show 1 + r.length≤16777216 by omega,hz]
end G
end
section
namespace G
open PySem PySem.Spec PyProof.Rows L2 Z PySem.SeqAt
def zbM {α : Type} (ks:List (Str × α)) (k:Str) (a : α):List (Str × α):=if ks.any (fun p=>p.1 == k) then ks.map (fun p=>if p.1 == k then (p.1,a) else p) else ks ++ [(k,a)]
def zfg {α : Type} (ks:List (Str × α)) (k:Str):List (Str × α):=ks.filter fun p => !(p.1 == k)
theorem zl7 {α : Type} (ks:List (Str × α)) (k:Str) (a : α):(zbM ks k a).length≤ks.length + 1:=by
 unfold zbM
 split <;> simp
theorem zrW {α : Type} (ks:List (Str × α)) (k:Str):(zfg ks k).length≤ks.length:=List.length_filter_le ..
theorem zrX {α : Type} (k:Str) (a : α) (x:Str):∀ ks:List (Str × α),(zbM ks k a).lookup x=if x=k then some a else ks.lookup x:=by
 intro ks
 unfold zbM
 split
 ·rename_i h
  induction ks with
  | nil=>simp at h
  | cons p r ih=>
   rw [List.map_cons]
   by_cases e:p.1=k
   ·rw [if_pos (by simpa using e),List.lookup_cons,List.lookup_cons]
    by_cases ex:x=k
    ·subst ex; simp [e]
    ·have:(x == p.1)=false:=by rw [e]; simpa using ex
     simp only [this,if_neg ex]
     by_cases h2:r.any (fun p=>p.1 == k)=true
     ·rw [ih h2,if_neg ex]
     ·have:r.map (fun p=>if p.1 == k then (p.1,a) else p)=r:=by
       have hn:∀ q∈r,(q.1 == k)=false:=fun q hq=>by
        cases c:q.1 == k with
        | false=>rfl
        | true=>exact absurd (List.any_eq_true.mpr ⟨q,hq,c⟩) h2
       calc _=r.map id:=List.map_congr_left fun q hq=>by rw [hn q hq]; rfl
        _=r:=List.map_id r
      rw [this]
   ·have e2:(p.1 == k)=false:=by simpa using e
    rw [if_neg (by simp [e2]),List.lookup_cons,List.lookup_cons]
    have h2:r.any (fun p=>p.1 == k)=true:=by
     rw [List.any_cons,e2,Bool.false_or] at h; exact h
    cases ex:x == p.1 with
    | true=>
     have:x=p.1:=eq_of_beq ex
     simp only
     rw [if_neg (by rw [this]; exact e)]
    | false=>exact ih h2
 ·rename_i h
  have hn:∀ q∈ks,¬q.1=k:=fun q hq c=>h (List.any_eq_true.mpr ⟨q,hq,by simpa using c⟩)
  induction ks with
  | nil=>
   by_cases ex:x=k
   ·subst ex; simp [List.lookup]
   ·have:(x == k)=false:=by simpa using ex
    simp [List.lookup,this,ex]
  | cons p r ih=>
   rw [List.cons_append,List.lookup_cons,List.lookup_cons]
   cases ex:x == p.1 with
   | true=>
    have:x=p.1:=eq_of_beq ex
    simp only
    rw [if_neg (by rw [this]; exact hn p List.mem_cons_self)]
   | false=>
    refine ih (fun c=>h ?_) fun q hq=>hn q (List.mem_cons_of_mem _ hq)
    rw [List.any_cons,c,Bool.or_true]
def ziv (g f:Fa):Bool:=g.nm == f.nm && (g.fc.lvl == f.fc.lvl && (g.fc.seen == f.fc.seen && g.fc.v == f.fc.v))
theorem eqFa_iff {g f:Fa}:ziv g f=true↔g=f:=by
 obtain ⟨n,l,s,v⟩:=g
 obtain ⟨n',l',s',v'⟩:=f
 simp [ziv]
def ziw (f:Fa) (fs:List Fa):Bool:=fs.any fun g=>ziv g f
theorem memFa_iff {f:Fa} {fs:List Fa}:ziw f fs=true↔f∈fs:=by
 unfold ziw
 rw [List.any_eq_true]
 constructor
 ·rintro ⟨g,hg,e⟩
  rwa [← eqFa_iff.mp e]
 ·intro h
  exact ⟨f,h,eqFa_iff.mpr rfl⟩
structure Uk where
 dep:Nat
 fs:List Fa
 cl:Nat
 ch:List (Str × Vl)
 op:Ne
 ok:Bool
def Uk.needS (u:Uk):Uk:=if u.op = [] then {u with dep:=max u.dep (u.cl + 1)} else u
def Uk.need (u:Uk) (f:Fa):Uk:=if ziw f u.fs=true then u else {u with fs:=u.fs ++ [f]}
def Uk.dec (u:Uk) (b:Bool):Uk:=if b=true then u else {u with ok:=false}
def Uk.seen (u:Uk) (x:Str) (v:Vl):Uk:=match u.op.find? fun s=>(s.lookup x).isSome with
 | some s=>u.dec (decide (s.lookup x=v))
 | none=>match u.ch.lookup x with
  | some (some w)=>u.dec (decide (some w=v))
  | some none=>u.need ⟨x,⟨u.cl + 1,true,v⟩⟩
  | none=>u.need ⟨x,⟨u.cl,true,v⟩⟩
def Uk.own0 (u:Uk) (x:Str) (v:Vl):Uk:=match u.op with
 | s :: _=>u.dec (decide (s.lookup x=v))
 | []=>match u.ch.lookup x with
  | some w=>u.dec (decide (w=v))
  | none=>u.need ⟨x,⟨u.cl,false,v⟩⟩
def Uk.own (u:Uk) (x:Str) (v:Vl):Uk:=u.needS.own0 x v
def Uk.chg0 (u:Uk) (x:Str) (v:Vl):Uk:=match u.op with
 | []=>{u with ch:=zbM u.ch x v}
 | s :: r=>match v with
  | some w=>{u with op:=zbM s x w :: r}
  | none=>{u with op:=zfg s x :: r}
def Uk.chg (u:Uk) (x:Str) (v:Vl):Uk:=u.needS.chg0 x v
def Uk.close0 (u:Uk):Uk:=match u.op with
 | []=>{u with cl:=u.cl + 1,ch := []}
 | _ :: r=>{u with op:=r}
def Uk.close (u:Uk):Uk:=u.needS.close0
def Uk.step (u:Uk):Stp→Uk
 | .op=>{u with op := [] :: u.op}
 | .cl=>u.close
 | .bind x v=>u.chg x (some v)
 | .drop x=>u.chg x none
 | .expect x v=>u.seen x (some v)
 | .free x=>u.seen x none
 | .owned x v=>u.own x (some v)
 | .unowned x=>u.own x none
def Uk0:Uk:=⟨0,[],0,[],[],true⟩
def chT (c:List (Str × Vl)):T := .dct (c.map fun p=>(p.1,enO p.2))
def flU (u:Uk) (a b c:Nat):List (Str × T) := [("own_depth",.int (u.dep:Int)),("own_facts",.cel a),("own_closed",.int (u.cl:Int)),("own_changes",.cel b),("own_opened",.cel c),("own_is_possible",.bl u.ok)]
def zgo (u:Uk) (a b c:Nat):Cell := .live (.ins "Unknown" (flU u a b c))
def ScM (M:Mem):List Nat→Ne→Prop
 | [],[]=>True
 | j :: js,s :: r=>M[j]?=some (.live (zap s))∧ScM M js r
 | _,_=>False
theorem ScM.set {M:Mem} {j:Nat} {x:Cell}:∀ {js:List Nat} {n:Ne},j∉js→ScM M js n→ScM (M.set j x) js n
 | [],[],_,_=>trivial
 | i :: js,s :: r,h,q=>⟨by rw [List.getElem?_set_ne (fun e=>h (by rw [e]; exact List.mem_cons_self)),q.1],ScM.set (fun e=>h (List.mem_cons_of_mem _ e)) q.2⟩
 | [],_ :: _,_,q=>q.elim
 | _ :: _,[],_,q=>q.elim
theorem ScM.len {M:Mem}:∀ {js:List Nat} {n:Ne},ScM M js n→js.length=n.length
 | [],[],_=>rfl
 | _ :: js,_ :: r,q=>by rw [List.length_cons,List.length_cons,ScM.len q.2]
 | [],_ :: _,q=>q.elim
 | _ :: _,[],q=>q.elim
theorem ScM.lt {M:Mem}:∀ {js:List Nat} {n:Ne},ScM M js n→∀j∈js,j < M.length
 | [],[],_=>fun j h=>by cases h
 | i :: js,_ :: r,q=>fun j h=>by
  rcases List.mem_cons.mp h with rfl | h
  ·exact (List.getElem?_eq_some_iff.mp q.1).1
  ·exact ScM.lt q.2 j h
 | [],_ :: _,q=>q.elim
 | _ :: _,[],q=>q.elim
structure UMx (u:Uk) (M:Mem) (a b c:Nat) (js:List Nat):Prop where
 ob:M[0]?=some (zgo u a b c)
 fa:M[a]?=some (.live (.lst (u.fs.map zrG)))
 ch:M[b]?=some (.live (chT u.ch))
 op:M[c]?=some (.live (.lst (js.map T.cel)))
 sc:ScM M js u.op
 nd:(0 :: a :: b :: c :: js).Nodup
structure Uk.Sz (u:Uk) (k:Nat):Prop where
 fs:u.fs.length + k≤2000
 ch:u.ch.length + k≤2000
 op:u.op.length + k≤2000
 sc:∀ s∈u.op,s.length + k≤2000
section
variable {u:Uk} {M:Mem} {a b c:Nat} {js:List Nat}
theorem UMx.ne (h:UMx u M a b c js):(a≠0∧b≠0∧c≠0)∧(a≠b∧a≠c∧b≠c)∧(0∉js∧a∉js∧b∉js∧c∉js)∧js.Nodup:=by
 have:=h.nd
 simp only [List.nodup_cons,List.mem_cons,not_or] at this
 obtain ⟨⟨h1,h2,h3,h4⟩,⟨h5,h6,h7⟩,⟨h8,h9⟩,h10,h11⟩:=this
 exact ⟨⟨fun e=>h1 e.symm,fun e=>h2 e.symm,fun e=>h3 e.symm⟩,⟨h5,h6,h8⟩,⟨h4,h7,h9,h10⟩,h11⟩
theorem zrY (h:UMx u M a b c js) (f:Str) (v:T):zdg ["Unknown"] f v (.cel 0) M=some (M.set 0 (.live (.ins "Unknown" (zeC f v (flU u a b c))))):=by
 unfold zdg; simp only; rw [h.ob]; unfold zgo; simp only; rw [if_pos ⟨rfl,rfl⟩]
end
end G
end
section
namespace G
open PySem PySem.Spec PyProof.Rows L2 Z PySem.SeqAt
section
variable {S:Sg} {M M1:Mem}
theorem zaS {g:Op2} {d1 d2:DE} {a b r:T} (h1:d1 S M = .ok a M) (h2:d2 S M = .ok b M) (h:g a b M=some (r,M)):zac g d1 d2 S M = .ok r M:=by
 rw [u_bin,h1,bind_ok]
 show (d2 S M).bind _=_
 rw [h2,bind_ok]
 show lift (g a b M)=_
 rw [h]; rfl
theorem zax {d:DE} {ds:DA} {a:T} {as:List T} (h1:d S M = .ok a M) (h2:ds S M = .ok as M):zab d ds S M = .ok (a :: as) M:=by
 show (d S M).bind _=_
 rw [h1,bind_ok]
 show (ds S M).bind _=_
 rw [h2]; rfl
theorem zbV {g:OpN} {da:DA} {as:List T} {r:T} (h1:da S M = .ok as M) (h:g as M=some (r,M)):dCall g da S M = .ok r M:=by
 show ((da S M).bind _)=_
 rw [h1,bind_ok]
 show lift (g as M)=_
 rw [h]; rfl
theorem zb5 {d:DE} {b:Bool} (h:d S M = .ok (.bl b) M):zai d S M = .ok b M:=by
 rw [u_tst,h]
 rfl
theorem zcf {d:DE} {t:T} (h:d S M = .ok t M1):zav d S M = .rt t M1:=by rw [u_ret,h]; rfl
theorem zcr {d:DE} {t:T} {i:Nat} (h:d S M = .ok t M1):zaw i d S M = .nx (S.set i (some t)) M1:=by rw [u_asg,h]; rfl
theorem zcg {d:DT} {a b:DS} {k:Bool} (h:d S M = .ok k M):dIf d a b S M=if k=true then a S M else b S M:=by rw [u_if,h]; rfl
theorem zba {a b:DS} {S1:Sg} (h:a S M = .nx S1 M1):zag a b S M=b S1 M1:=by rw [u_seq,h,then_nx]
theorem zl8 {a b:DS} {t:T} (h:a S M = .rt t M1):zag a b S M = .rt t M1:=by rw [u_seq,h]; rfl
theorem zrZ {ty:String} {g:OpM} {d:DE} {da:DA} {t r:T} {ts:List T} (h:d S M = .ok t M) (hty:tyM M t=some ty) (ha:da S M = .ok ts M) (hg:g t ts M=some (r,M1)):zbc ty g d da S M = .ok r M1:=by
 rw [u_meth,h,bind_ok,zkp hty,ha,bind_ok]
 show lift (g t ts M)=_
 rw [hg]; rfl
end
theorem zbz {k:Nat} {b:DS} {ts:List T} {t:T} {M M':Mem} (s:Sg) (e:zaE k ts=s) (h:b s M = .rt t M'):runD k b ts M = .ok t M':=zbq (by rw [e]; exact h)
section
variable {u:Uk} {M:Mem} {a b c:Nat} {js:List Nat} {S:Sg}
end
end G
end
section
namespace G
open PySem PySem.Spec PyProof.Rows L2 Z PySem.SeqAt
section
variable {u:Uk} {M:Mem} {a b c:Nat} {js:List Nat} {S:Sg}
theorem ScM.at {M:Mem}:∀ {js:List Nat} {n:Ne} {i j:Nat},ScM M js n→js[i]?=some j→∃s,n[i]?=some s∧M[j]?=some (.live (zap s))
 | j0 :: js,s :: r,0,j,q,h=>by
  cases h
  exact ⟨s,rfl,q.1⟩
 | j0 :: js,s :: r,i + 1,j,q,h=>ScM.at (i:=i) q.2 h
 | [],[],i,j,_,h=>by simp at h
 | [],_ :: _,_,_,q,_=>q.elim
 | _ :: _,[],_,_,q,_=>q.elim
end
end G
end
section
namespace G
open PySem PySem.Spec PyProof.Rows L2 Z PySem.SeqAt
section
variable {u:Uk} {M:Mem} {a b c:Nat} {js:List Nat} {S:Sg}
theorem zr0 (u:Uk):u.needS.fs=u.fs:=by unfold Uk.needS; split <;> rfl
theorem zbA (u:Uk):u.needS.op=u.op:=by unfold Uk.needS; split <;> rfl
theorem zdn (u:Uk):u.needS.ch=u.ch:=by unfold Uk.needS; split <;> rfl
theorem zfh (u:Uk):u.needS.cl=u.cl:=by unfold Uk.needS; split <;> rfl
end
end G
end
section
namespace G
open PySem PySem.Spec PyProof.Rows L2 Z PySem.SeqAt
section
variable {u:Uk} {M:Mem} {a b c:Nat} {js:List Nat}
structure Uk.Sm (u:Uk) (k:Nat):Prop where
 fs:u.fs.length + k≤2000
 ch:u.ch.length + k≤2000
 op:u.op.length + k≤2000
 sc:∀ s∈u.op,s.length + k≤2000
theorem Uk.Sm.mono {u:Uk} {k l:Nat} (h:u.Sm k) (hl:l≤k):u.Sm l:=⟨by have:=h.fs; omega,by have:=h.ch; omega,by have:=h.op; omega,fun s hs=>by have:=h.sc s hs; omega⟩
theorem zix {k:Nat} (h:u.Sm (k + 1)) (f:Fa):(u.need f).Sm k:=by
 unfold Uk.need
 split
 ·exact h.mono (by omega)
 ·refine ⟨?_,?_,?_,fun s hs=>?_⟩
  ·have:=h.fs
   show (u.fs ++ [f]).length + k≤_
   rw [List.length_append]; simp; omega
  ·have:=h.ch
   show u.ch.length + k≤_
   omega
  ·have:=h.op
   show u.op.length + k≤_
   omega
  ·have:=h.sc s hs
   omega
theorem zgp {k:Nat} (h:u.Sm (k + 1)) (q:Bool):(u.dec q).Sm k:=by
 unfold Uk.dec
 split
 ·exact h.mono (by omega)
 ·exact ⟨by have:=h.fs; show u.fs.length + k≤_; omega,by have:=h.ch; show u.ch.length + k≤_; omega,by have:=h.op; show u.op.length + k≤_; omega,fun s hs=>by have:=h.sc s hs; omega⟩
theorem ziy {k:Nat} (h:u.Sm k):u.needS.Sm k:=⟨by rw [zr0]; exact h.fs,by rw [zdn]; exact h.ch,by rw [zbA]; exact h.op,by rw [zbA]; exact h.sc⟩
theorem Uk.Sm.step {k:Nat} (h:u.Sm (k + 1)) (st:Stp):(u.step st).Sm k:=by
 have seen:∀ x v,(u.seen x v).Sm k:=fun x v=>by
  unfold Uk.seen
  split
  ·exact zgp h _
  ·split
   ·exact zgp h _
   ·exact zix h _
   ·exact zix h _
 have own:∀ x v,(u.own x v).Sm k:=fun x v=>by
  have h1:=ziy h
  unfold Uk.own Uk.own0
  split
  ·exact zgp h1 _
  ·split
   ·exact zgp h1 _
   ·exact zix h1 _
 have chg:∀ x v,(u.chg x v).Sm k:=fun x v=>by
  have h1:=ziy h
  unfold Uk.chg Uk.chg0
  split
  ·rename_i eo
   refine ⟨?_,?_,?_,fun s hs=>?_⟩
   ·have:=h1.fs
    show u.needS.fs.length + k≤_
    omega
   ·have:=h1.ch
    have:=zl7 u.needS.ch x v
    show (zbM u.needS.ch x v).length + k≤_
    omega
   ·have:=h1.op
    show u.needS.op.length + k≤_
    omega
   ·have:=h1.sc s hs
    omega
  ·rename_i s r eo
   have hs0:=h1.sc s (by rw [eo]; exact List.mem_cons_self)
   have ho:=h1.op
   rw [eo,List.length_cons] at ho
   have hr:∀ t∈r,t.length + (k + 1)≤2000:=fun t ht=>h1.sc t (by rw [eo]; exact List.mem_cons_of_mem _ ht)
   have hf:=h1.fs
   have hc:=h1.ch
   have fin:∀ s':Sc,s'.length≤s.length + 1→({u.needS with op:=s' :: r}:Uk).Sm k:=fun s' hs'=>⟨by show u.needS.fs.length + k≤_; omega,by show u.needS.ch.length + k≤_; omega,by show (s' :: r).length + k≤_; rw [List.length_cons]; omega,fun t ht=>by
    rcases List.mem_cons.mp ht with rfl | ht
    ·omega
    ·have:=hr t ht; omega⟩
   split
   ·exact fin _ (zl7 ..)
   ·exact fin _ (Nat.le_succ_of_le (zrW ..))
 cases st with
 | op=>
  refine ⟨?_,?_,?_,fun s hs=>?_⟩
  ·have:=h.fs
   show u.fs.length + k≤_
   omega
  ·have:=h.ch
   show u.ch.length + k≤_
   omega
  ·have:=h.op
   show ([] :: u.op).length + k≤_
   rw [List.length_cons]
   omega
  ·rcases List.mem_cons.mp hs with rfl | hs
   ·have:=h.op
    simp; omega
   ·have:=h.sc s hs; omega
 | cl=>
  have h1:=ziy h
  show u.close.Sm k
  unfold Uk.close Uk.close0
  split
  ·refine ⟨?_,?_,?_,fun s hs=>?_⟩
   ·have:=h1.fs
    show u.needS.fs.length + k≤_
    omega
   ·have:=h1.fs
    show 0 + k≤_
    omega
   ·have:=h1.op
    show u.needS.op.length + k≤_
    omega
   ·have:=h1.sc s hs
    omega
  ·rename_i s r eo
   have ho:=h1.op
   rw [eo,List.length_cons] at ho
   exact ⟨by have:=h1.fs; show u.needS.fs.length + k≤_; omega,by have:=h1.ch; show u.needS.ch.length + k≤_; omega,by show r.length + k≤_; omega,fun t ht=>by have:=h1.sc t (by rw [eo]; exact List.mem_cons_of_mem _ ht); omega⟩
 | bind x v=>exact chg x _
 | drop x=>exact chg x _
 | expect x v=>exact seen x _
 | free x=>exact seen x _
 | owned x v=>exact own x _
 | unowned x=>exact own x _
end
end G
end
section
namespace G
open PySem PySem.Spec PyProof.Rows L2 Z PySem.SeqAt
section
variable {u:Uk} {M:Mem} {a b c n:Nat} {js:List Nat}
theorem zr1 (h:zaY n (zgo u a b c)=true):a < n∧b < n∧c < n:=by
 have h2:(zaF n (.int (u.dep:Int)) && (zaF n (.cel a) && (zaF n (.int (u.cl:Int)) && (zaF n (.cel b) && (zaF n (.cel c) && (zaF n (.bl u.ok) && true))))))=true:=by
  simpa only [zgo,zaY,zaF,zb8,flU] using h
 simp only [zaF,Bool.true_and,Bool.and_true,Bool.and_eq_true,decide_eq_true_eq] at h2
 exact ⟨h2.1,h2.2.1,h2.2.2⟩
theorem zl9:∀ {js:List Nat},zbN n (js.map T.cel)=true→∀j∈js,j < n
 | [],_,j,hj=>by cases hj
 | i :: r,h,j,hj=>by
  rw [List.map_cons] at h
  simp only [zbN,zaF,Bool.and_eq_true,decide_eq_true_eq] at h
  rcases List.mem_cons.mp hj with rfl | hj
  ·exact h.1
  ·exact zl9 h.2 j hj
theorem ScM.cut {M:Mem}:∀ {js:List Nat} {m:Ne},ScM M js m→(∀ j∈js,j < n)→ScM (M.take n) js m
 | [],[],_,_=>trivial
 | j :: js,s :: r,q,h=>⟨by rw [List.getElem?_take_of_lt (h j List.mem_cons_self),q.1],ScM.cut q.2 fun i hi=>h i (List.mem_cons_of_mem _ hi)⟩
 | [],_ :: _,q,_=>q.elim
 | _ :: _,[],q,_=>q.elim
theorem UMx.cut (h:UMx u M a b c js) (hn:0 < n) (hc:(M.take n).all (zaY n)=true):UMx u (M.take n) a b c js:=by
 have at_:∀ {i:Nat} {x:Cell},i < n→M[i]?=some x→(M.take n)[i]?=some x∧zaY n x=true:=fun {i x} hi e=>by
  have e2:(M.take n)[i]?=some x:=by rw [List.getElem?_take_of_lt hi,e]
  exact ⟨e2,List.all_eq_true.mp hc x (List.mem_of_getElem? e2)⟩
 obtain ⟨o1,o2⟩:=at_ hn h.ob
 obtain ⟨la,lb,lc⟩:=zr1 o2
 obtain ⟨p1,p2⟩:=at_ lc h.op
 have lj:=zl9 (n:=n) (js:=js) (by simpa only [zaY,zaF] using p2)
 exact ⟨o1,(at_ la h.fa).1,(at_ lb h.ch).1,p1,h.sc.cut lj,h.nd⟩
end
def zma (fs:List Fa) (l:Nat) (x:Str):List Vl:=(fs.filter fun f=>f.nm == x && (f.fc.lvl == l && !f.fc.seen)).map fun f=>f.fc.v
def zr2 (fs:List Fa) (l:Nat) (x:Str):List Vl:=(fs.filter fun f=>f.nm == x && ((f.fc.seen && f.fc.v == none) && Nat.ble f.fc.lvl l)).map fun _=>none
def knO (fs:List Fa) (l:Nat) (x:Str):List Vl:=if zma fs l x = [] then zr2 fs l x else zma fs l x
end G
end
section
namespace G
open PySem PySem.Spec PyProof.Rows L2 Z PySem.SeqAt
structure Ef where
 dep:Nat
 fs:List Fa
 cl:Nat
 ch:List (Str × Vl)
 op:Ne
def zdL (fs:List Fa) (cl:Nat) (ch:List (Str × Vl)):List (Str × Vl):=ch.filter fun p => !decide (knO fs cl p.1 = [p.2])
noncomputable def zb6 (u:Uk) (h:FsOk u.fs):Option Ef:=if u.ok=true∧(zaB h).all_=true then
 some ⟨(zaB h).least u.dep,zby (zaB h),u.cl,zdL (zby (zaB h)) u.cl u.ch,u.op⟩ else none
section
variable {u:Uk} {M:Mem} {a b c:Nat} {js:List Nat}
end
section
variable {u:Uk} {M:Mem} {a b c:Nat} {js:List Nat}
end
def zaQ (q:List Stp):Uk:=q.foldl Uk.step Uk0
theorem zmb:∀ (q:List Stp) (u:Uk),(u.ch.map (·.1)).Nodup→((q.foldl Uk.step u).ch.map (·.1)).Nodup
 | [],_,h=>h
 | st :: r,u,h=>by
  refine zmb r (u.step st) ?_
  have need:∀ f,((u.need f).ch.map (·.1)).Nodup:=fun f=>by unfold Uk.need; split <;> exact h
  have dec:∀ (v:Uk) q,v.ch=u.ch→((v.dec q).ch.map (·.1)).Nodup:=fun v q e=>by unfold Uk.dec; split <;> (show (v.ch.map (·.1)).Nodup; rw [e]; exact h)
  have needv:∀ (v:Uk) f,v.ch=u.ch→((v.need f).ch.map (·.1)).Nodup:=fun v f e=>by unfold Uk.need; split <;> (show (v.ch.map (·.1)).Nodup; rw [e]; exact h)
  have seen:∀ x v,((u.seen x v).ch.map (·.1)).Nodup:=fun x v=>by
   unfold Uk.seen
   split
   ·exact dec u _ rfl
   ·split
    ·exact dec u _ rfl
    ·exact need _
    ·exact need _
  have own:∀ x v,((u.own x v).ch.map (·.1)).Nodup:=fun x v=>by
   unfold Uk.own Uk.own0
   split
   ·exact dec _ _ (zdn u)
   ·split
    ·exact dec _ _ (zdn u)
    ·exact needv _ _ (zdn u)
  have chg:∀ x v,((u.chg x v).ch.map (·.1)).Nodup:=fun x v=>by
   unfold Uk.chg Uk.chg0
   split
   ·show ((zbM u.needS.ch x v).map (·.1)).Nodup
    rw [zdn]
    unfold zbM
    split
    ·rw [List.map_map]
     have:u.ch.map ((fun p:Str × Vl=>p.1) ∘ fun p=>if p.1 == x then (p.1,v) else p)=u.ch.map (·.1):=List.map_congr_left fun p _=>by
      simp only [Function.comp]
      split <;> rfl
     rw [this]
     exact h
    ·rename_i hn
     rw [List.map_append,List.nodup_append]
     refine ⟨h,by simp,fun a ha b hb e=>hn ?_⟩
     obtain ⟨p,hp,rfl⟩:=List.mem_map.mp ha
     have:b=x:=by simpa using hb
     exact List.any_eq_true.mpr ⟨p,hp,by rw [e,this]; simp⟩
   ·split <;> (show (u.needS.ch.map (·.1)).Nodup; rw [zdn]; exact h)
  cases st with
  | op=>exact h
  | cl=>
   show (u.close.ch.map (·.1)).Nodup
   unfold Uk.close Uk.close0
   split
   ·show ([]:List Str).Nodup
    simp
   ·show (u.needS.ch.map (·.1)).Nodup
    rw [zdn]; exact h
  | bind x v=>exact chg x _
  | drop x=>exact chg x _
  | expect x v=>exact seen x _
  | free x=>exact seen x _
  | owned x v=>exact own x _
  | unowned x=>exact own x _
end G
end
section
namespace G
open PySem PySem.Spec PyProof.Rows L2 Z PySem.SeqAt
theorem zew (n:Ne) (st:Stp) (hb:∀ x v,st ≠ .bind x v) (hd:∀ x,st ≠ .drop x) (hl:n.length < 100000) (M:Mem):zaG zh1 [zam n,enS st] M = .ok (zaT (after n st)) M:=by
 refine zaA ⟨[],zbq ?_⟩ (by simp [zau,zbT,zdH]) (zep _)
 have rv:∀ x M,zaG zh0 [.lst (n.map zap),.int 0,.str x] M = .ok (enO (vis n x)) M:=fun x M=>by rw [zqo]; exact zlc n 0 x M
 have ro:∀ x M,zaG zhZ [.lst (n.map zap),.int 0,.str x] M = .ok (enO (zdi n 0 x)) M:=fun x M=>by rw [zqp]; exact zld n 0 x M
 cases st with
 | op=>
  unfold zc5
  simp [zaE,zam,enS,zaT,after,LIM_big]
  rw [if_pos (by omega)]
  simp [zap]
 | expect x v=>
  unfold zc5
  simp [zaE,zam,enS,after,LIM_big,rv,zc6]
  have e:=zcI (vis n x) (some v) zaX
  rw [show T.str v=enO (some v) from rfl,e]
  by_cases h:vis n x=some v <;> simp [h,zaT,zam]
 | free x=>
  unfold zc5
  simp [zaE,zam,enS,after,LIM_big,rv,zc6]
  have e:=zcI (vis n x) none zaX
  rw [show T.non=enO none from rfl,e]
  by_cases h:vis n x=none <;> simp [h,zaT,zam,enO]
 | cl=>
  unfold zc5
  cases n with
  | nil=>simp [zaE,zam,enS,zaT,after,LIM_big,zbg]
  | cons s r=>simp [zaE,zam,enS,zaT,after,LIM_big]
 | owned x v=>
  unfold zc5
  cases n with
  | nil=>simp [zaE,zam,enS,zaT,after,LIM_big,zbg]
  | cons s r=>
   simp [zdi] at ro
   simp [zaE,zam,enS,after,LIM_big,ro,zc6]
   have e:=zcI (s.lookup x) (some v) zaX
   rw [show T.str v=enO (some v) from rfl,e]
   by_cases h:s.lookup x=some v <;> simp [h,zaT,zam]
 | unowned x=>
  unfold zc5
  cases n with
  | nil=>simp [zaE,zam,enS,zaT,after,LIM_big,zbg]
  | cons s r=>
   simp [zdi] at ro
   simp [zaE,zam,enS,after,LIM_big,ro,zc6]
   have e:=zcI (s.lookup x) none zaX
   rw [show T.non=enO none from rfl,e]
   by_cases h:s.lookup x=none <;> simp [h,zaT,zam,enO]
 | bind x v=>exact absurd rfl (hb x v)
 | drop x=>exact absurd rfl (hd x)
end G
end
section
namespace G
open PySem PySem.Spec PyProof.Rows L2 Z PySem.SeqAt
def out (n:Ne):List Stp→Option Ne
 | []=>some n
 | s :: r=>match after n s with
  | none=>none
  | some m=>out m r
structure SzOk (n:Ne) (k:Nat):Prop where
 len:n.length + k < LIM
 sc:∀ s∈n,zaO s∧s.length + k < LIM
theorem SzOk.mono {n:Ne} {j k:Nat} (h:SzOk n k) (hj:j≤k):SzOk n j:=⟨by have:=h.len; omega,fun s hs=>⟨(h.sc s hs).1,by have:=(h.sc s hs).2; omega⟩⟩
theorem SzOk.step {n:Ne} {k:Nat} (h:SzOk n (k + 1)) (st:Stp) (M:Mem):zaG zk0 [zam n,enS st] M = .ok (zaT (after n st)) M:=
 zrV n st M (fun s hs=>(h.sc s hs).1) (by have:=h.len; omega) (fun s hs=>by have:=(h.sc s hs).2; omega)
end G
end
section
namespace G
open PySem PySem.Spec PyProof.Rows L2 Z PySem.SeqAt
def lk (s:Sc):Str→Option Str:=fun k=>s.lookup k
def den (n:Ne):List (Str→Option Str):=n.map lk
end G
end
section
namespace G
open PySem
abbrev Fn:=Str→Vl
abbrev FN:=List Fn
def zmc (n:FN) (x:Str):List Vl:=n.map fun s=>s x
def zgq (ch:List (Str × Vl)) (s:Fn):Fn:=fun y=>match ch.lookup y with
 | some w=>w
 | none=>s y
def fch (ch:List (Str × Vl)):FN→FN
 | [] => []
 | s :: r=>zgq ch s :: r
structure Uk.Fits (u:Uk) (n:FN):Prop where
 ok:u.ok=true
 dep:u.dep≤n.length
 fs:∀ f∈u.fs,sat (zmc n f.nm) f.fc
def Uk.img (u:Uk) (n:FN):FN:=u.op.map lk ++ fch u.ch (n.drop u.cl)
structure Uk.Inv (u:Uk):Prop where
 cl:u.cl≤u.dep
 ch:u.ch ≠ []→u.cl < u.dep
def zmd (u:Uk) (n:FN) (r:Option FN):Prop:=(u.Fits n∧r=some (u.img n))∨(¬ u.Fits n∧r=none)
end G
end
section
namespace G
open PySem
theorem ziz {u:Uk} (h:u.Inv) (f:Fa):(u.need f).Inv:=by
 unfold Uk.need; split
 ·exact h
 ·exact ⟨h.cl,h.ch⟩
theorem zgr {u:Uk} (h:u.Inv) (b:Bool):(u.dec b).Inv:=by
 unfold Uk.dec; split
 ·exact h
 ·exact ⟨h.cl,h.ch⟩
theorem ziA {u:Uk} (h:u.Inv):u.needS.Inv:=by
 have h1:=h.cl
 have h2:=h.ch
 unfold Uk.needS; split
 ·exact ⟨by show u.cl≤max u.dep (u.cl + 1); omega,fun c=>by show u.cl < max u.dep (u.cl + 1); omega⟩
 ·exact h
theorem zfi {u:Uk} (e:u.op = []):u.cl < u.needS.dep:=by
 unfold Uk.needS
 rw [if_pos e]
 show u.cl < max u.dep (u.cl + 1)
 omega
theorem Uk.Inv.step {u:Uk} (h:u.Inv) (st:Stp):(u.step st).Inv:=by
 have seen:∀ x v,(u.seen x v).Inv:=fun x v=>by
  unfold Uk.seen
  split
  ·exact zgr h _
  ·split
   ·exact zgr h _
   ·exact ziz h _
   ·exact ziz h _
 have own:∀ x v,(u.own x v).Inv:=fun x v=>by
  have h1:=ziA h
  unfold Uk.own Uk.own0
  split
  ·exact zgr h1 _
  ·split
   ·exact zgr h1 _
   ·exact ziz h1 _
 have chg:∀ x v,(u.chg x v).Inv:=fun x v=>by
  have h1:=ziA h
  unfold Uk.chg Uk.chg0
  split
  ·rename_i eo
   rw [zbA] at eo
   refine ⟨h1.cl,fun _=>?_⟩
   show u.needS.cl < u.needS.dep
   rw [zfh]
   exact zfi eo
  ·split <;> exact ⟨h1.cl,h1.ch⟩
 cases st with
 | op=>exact ⟨h.cl,h.ch⟩
 | cl=>
  have h1:=ziA h
  show u.close.Inv
  unfold Uk.close Uk.close0
  split
  ·rename_i eo
   rw [zbA] at eo
   refine ⟨?_,fun c=>absurd rfl c⟩
   show u.needS.cl + 1≤u.needS.dep
   rw [zfh]
   exact zfi eo
  ·exact ⟨h1.cl,h1.ch⟩
 | bind x v=>exact chg x _
 | drop x=>exact chg x _
 | expect x v=>exact seen x _
 | free x=>exact seen x _
 | owned x v=>exact own x _
 | unowned x=>exact own x _
theorem zr3:Uk0.Inv:=⟨Nat.le_refl _,fun c=>absurd rfl c⟩
theorem zme:∀ (q:List Stp) {u:Uk},u.Inv→(q.foldl Uk.step u).Inv
 | [],_,h=>h
 | s :: q,_,h=>zme q (h.step s)
structure Ef.Fits (e:Ef) (n:FN):Prop where
 dep:e.dep≤n.length
 fs:∀ f∈e.fs,sat (zmc n f.nm) f.fc
def Ef.img (e:Ef) (n:FN):FN:=e.op.map lk ++ fch e.ch (n.drop e.cl)
end G
end
section
namespace G
open PySem PySem.Spec PyProof.Rows L2 Z PySem.SeqAt
def zmf (f:Fa):Stp:=match f.fc.seen,f.fc.v with
 | true,some v => .expect f.nm v
 | true,none => .free f.nm
 | false,some v => .owned f.nm v
 | false,none => .unowned f.nm
structure TS (u:Uk) (l:Nat):Prop where
 op:u.op = []
 ch:u.ch = []
 ok:u.ok=true
 cl:u.cl=l
structure Grow (u u':Uk) (l:Nat) (P:Fa→Prop) (k:Nat) (D:Nat→Prop):Prop where
 ts:TS u' l
 fs:∀ g,g∈u'.fs↔g∈u.fs∨P g
 len:u'.fs.length≤u.fs.length + k
 dep:∀ m,u'.dep≤m↔u.dep≤m∧D m
theorem Grow.trans {u u1 u2:Uk} {l l':Nat} {P P':Fa→Prop} {k k':Nat} {D D':Nat→Prop} (h:Grow u u1 l P k D) (h':Grow u1 u2 l' P' k' D'):Grow u u2 l' (fun g=>P g∨P' g) (k + k') (fun m=>D m∧D' m):=
 ⟨h'.ts,fun g=>by rw [h'.fs,h.fs,or_assoc],by have:=h.len; have:=h'.len; omega,fun m=>by rw [h'.dep,h.dep,and_assoc]⟩
theorem Grow.to {u u':Uk} {l:Nat} {P P':Fa→Prop} {k k':Nat} {D D':Nat→Prop} (h:Grow u u' l P k D) (hp:∀ g,P g↔P' g) (hk:k≤k') (hd:∀ m,D m↔D' m):Grow u u' l P' k' D':=
 ⟨h.ts,fun g=>by rw [h.fs,hp],by have:=h.len; omega,fun m=>by rw [h.dep,hd]⟩
end G
end
section
namespace G
open PySem
section
variable {vals:List Str} {fs:List Fc} {top:Nat}
theorem ziB (lt:∀ f∈fs,f.lvl≤top∧(f.seen=false→f.lvl < top)) {os:List Vl} (hs:Has os fs) {s:Str} (hv:zaD os top=some s) (a:Vl) {l:Nat} (hl:top < l) :
  ∃ os',Has os' fs∧os'.getD top none=some s∧os'.getD l none=a∧zaD os' (l + 1)=none:=by
 let os':List Vl:=(List.range (l + 1)).map fun i=>if i < top then os.getD i none else if i=top then some s else if i=l then a else none
 have g:∀ i,os'.getD i none=if i < l + 1 then (if i < top then os.getD i none else if i=top then some s else if i=l then a else none) else none:=by
  intro i
  show ((List.range (l + 1)).map _).getD i none=_
  simp only [List.getD,List.getElem?_map]
  by_cases c:i < l + 1
  ·rw [List.getElem?_range c,if_pos c]; rfl
  ·rw [List.getElem?_eq_none (by simp; omega),if_neg c]; rfl
 have gt:os'.getD top none=some s:=by rw [g,if_pos (by omega),if_neg (by omega),if_pos rfl]
 have vt:zaD os' top=some s:=by rw [zbI,gt]; rfl
 have low:∀ i,i < top→os'.getD i none=os.getD i none:=fun i hi=>by rw [g,if_pos (by omega),if_pos hi]
 have vl:=zgm (l:=top) low (by rw [vt,hv])
 refine ⟨os',fun f hf=>?_,gt,?_,zdK _ _ (by show ((List.range (l + 1)).map _).length≤_; simp)⟩
 ·have:=hs f hf
  have lf:=lt f hf
  unfold zbJ at this ⊢
  cases q:f.seen with
  | true=>
   rw [q] at this
   rw [if_pos rfl] at this ⊢
   rw [vl f.lvl lf.1]; exact this
  | false=>
   rw [q] at this
   rw [if_neg (by simp)] at this ⊢
   rw [low f.lvl (lf.2 q)]; exact this
 ·rw [g,if_pos (by omega),if_neg (by omega),if_neg (by omega),if_pos rfl]
theorem zr4 (h:Vals vals fs) (lt:∀ f∈fs,f.lvl≤top∧(f.seen=false→f.lvl < top)) (hx:¬ AllS (fun os=>Has os fs) top none):(∀ l v,top < l→¬AllS (fun os=>Has os fs) l v)∧∀l v,top≤l→¬AllB (fun os=>Has os fs) l v:=by
 obtain ⟨os,hs,s,hv⟩:∃ os,Has os fs∧∃s,zaD os top=some s:=by
  refine Classical.byContradiction fun c=>hx fun os hs=>?_
  cases e:zaD os top with
  | none=>rfl
  | some s=>exact absurd ⟨os,hs,s,e⟩ c
 refine ⟨fun l v hl ha=>?_,fun l v hl ha=>?_⟩
 ·obtain ⟨z,hz⟩:=zgl h v
  obtain ⟨os',h1,_,h3,_⟩:=ziB lt hs hv (some z) hl
  have:=ha os' h1
  rw [zbI,h3] at this
  exact hz this
 ·by_cases e:l=top
  ·subst e
   -- the own value is the visible one, or the one behind
   obtain ⟨os1,h1,h2,_,_⟩:=ziB lt hs hv none (Nat.lt_succ_self l)
   have e1:=ha os1 h1
   rw [h2] at e1
   -- nothing own there, the value behind
   let os2:List Vl:=(List.range (l + 2)).map fun i=>if i < l then os.getD i none else if i=l then none else some s
   have g:∀ i,os2.getD i none=if i < l + 2 then (if i < l then os.getD i none else if i=l then none else some s) else none:=by
    intro i
    show ((List.range (l + 2)).map _).getD i none=_
    simp only [List.getD,List.getElem?_map]
    by_cases c:i < l + 2
    ·rw [List.getElem?_range c,if_pos c]; rfl
    ·rw [List.getElem?_eq_none (by simp; omega),if_neg c]; rfl
   have g0:os2.getD l none=none:=by rw [g,if_pos (by omega),if_neg (by omega),if_pos rfl]
   have g1:os2.getD (l + 1) none=some s:=by rw [g,if_pos (by omega),if_neg (by omega),if_neg (by omega)]
   have vt:zaD os2 l=some s:=by rw [zbI,g0,zbI,g1]; rfl
   have low:∀ i,i < l→os2.getD i none=os.getD i none:=fun i hi=>by rw [g,if_pos (by omega),if_pos hi]
   have vl:=zgm (l:=l) low (by rw [vt,hv])
   have h3:Has os2 fs:=fun f hf=>by
    have:=hs f hf
    have lf:=lt f hf
    unfold zbJ at this ⊢
    cases q:f.seen with
    | true=>
     rw [q] at this
     rw [if_pos rfl] at this ⊢
     rw [vl f.lvl lf.1]; exact this
    | false=>
     rw [q] at this
     rw [if_neg (by simp)] at this ⊢
     rw [low f.lvl (lf.2 q)]; exact this
   have e2:=ha os2 h3
   rw [g0] at e2
   rw [← e1] at e2
   cases e2
  ·obtain ⟨z,hz⟩:=zgl h v
   obtain ⟨os',h1,_,h3,_⟩:=ziB lt hs hv (some z) (show top < l by omega)
   have:=ha os' h1
   rw [h3] at this
   exact hz this
end
theorem zmg {P:List Vl→Prop} {c:Fc}:∀ (n l:Nat),c∈kn P n l→∀i,l≤i→i < c.lvl→¬AllS P i none
 | 0,l,h=>by unfold kn at h; cases h
 | n + 1,l,h=>fun i hi hc=>by
  unfold kn at h
  by_cases z:AllS P l none
  ·rw [if_pos z] at h
   rw [List.mem_singleton.mp h] at hc
   have:i < l:=hc
   omega
  ·rw [if_neg z] at h
   by_cases e:i=l
   ·rw [e]; exact z
   ·rcases List.mem_append.mp h with h | h
    ·exfalso
     rcases List.mem_append.mp h with h | h
     ·by_cases q:∃ v,AllB P l v
      ·rw [dif_pos q] at h
       rw [List.mem_singleton.mp h] at hc
       have:i < l:=hc
       omega
      ·rw [dif_neg q] at h; cases h
     ·by_cases q:∃ v,AllS P l v
      ·rw [dif_pos q] at h
       rw [List.mem_singleton.mp h] at hc
       have:i < l:=hc
       omega
      ·rw [dif_neg q] at h; cases h
    ·exact zmg n (l + 1) h i (by omega) hc
section
variable {fs:List Fa} (h:FsOk fs) (hp:(zaB h).all_=true)
def PX (fs:List Fa) (x:Str):List Vl→Prop:=fun os=>Has os (ofN fs x)
include hp
theorem zmh {x:Str} {c:Fc} (k:(⟨x,c⟩:Fa)∈zby (zaB h)):x∈(zaB h).names∧(c.seen=true→AllS (PX fs x) c.lvl c.v)∧(c.seen=false→AllB (PX fs x) c.lvl c.v∧¬AllS (PX fs x) c.lvl none)∧∀i,i < c.lvl→¬AllS (PX fs x) i none:=by
 obtain ⟨hx,hc⟩:=(zl4 _).mp k
 rw [zrM _ hp hx 0] at hc
 obtain ⟨a,b,_,_⟩:=zl3 _ _ hc
 exact ⟨hx,a,b,fun i hi=>zmg _ _ hc i (Nat.zero_le _) hi⟩
theorem zr5 {cl:Nat} (lt:∀ f∈fs,f.fc.lvl≤cl + 1∧(f.fc.seen=false→f.fc.lvl≤cl)) {f:Fa} (k:f∈zby (zaB h)):f.fc.lvl≤cl + 1∧(f.fc.seen=false→f.fc.lvl≤cl):=by
 obtain ⟨x,c⟩:=f
 obtain ⟨hx,a,b,d⟩:=zmh h hp k
 have lt':∀ g∈ofN fs x,g.lvl≤cl + 1∧(g.seen=false→g.lvl < cl + 1):=fun g hg=>by
  have:=lt ⟨x,g⟩ (mem_ofN.mp hg)
  exact ⟨this.1,fun z=>by have:=this.2 z; show g.lvl < cl + 1; have:g.lvl≤cl:=this; omega⟩
 by_cases z:AllS (PX fs x) (cl + 1) none
 ·refine ⟨?_,fun hs=>?_⟩
  ·show c.lvl≤cl + 1
   by_cases q:c.lvl≤cl + 1
   ·exact q
   ·exact absurd z (d (cl + 1) (by show cl + 1 < c.lvl; omega))
  ·show c.lvl≤cl
   have hs:c.seen=false:=hs
   by_cases q:c.lvl≤cl
   ·exact q
   ·by_cases q2:c.lvl=cl + 1
    ·rw [q2] at b
     exact absurd z (b hs).2
    ·exact absurd z (d (cl + 1) (by show cl + 1 < c.lvl; omega))
 ·have nb:=zr4 ((zaB h).ok x hx) lt' z
  refine ⟨?_,fun hs=>?_⟩
  ·show c.lvl≤cl + 1
   cases q:c.seen with
   | true=>
    by_cases q2:c.lvl≤cl + 1
    ·exact q2
    ·exact absurd (a q) (nb.1 c.lvl c.v (by omega))
   | false=>
    by_cases q2:c.lvl≤cl + 1
    ·exact q2
    ·exact absurd (b q).1 (nb.2 c.lvl c.v (by omega))
  ·show c.lvl≤cl
   have hs:c.seen=false:=hs
   by_cases q2:c.lvl≤cl
   ·exact q2
   ·exact absurd (b hs).1 (nb.2 c.lvl c.v (by omega))
end
end G
end
section
namespace G
open PySem
def zcP (ch:List (Str × Vl)) (x:Str):Prop:=(ch.lookup x).isSome=true
structure Uk.Inw (u:Uk):Prop where
 cl:u.cl≤u.dep
 up:u.dep≤u.cl + 1
 ch:∀ x,zcP u.ch x→u.cl < u.dep
 lv:∀ f∈u.fs,(f.fc.lvl≤u.cl∨(f.fc.lvl=u.cl + 1∧f.fc.seen=true∧zcP u.ch f.nm))∧(f.fc.seen=false→f.fc.lvl < u.dep∧f.fc.lvl≤u.cl)
 why:u.dep=u.cl + 1→(∃ x,zcP u.ch x)∨∃f∈u.fs,f.fc.seen=false∧f.fc.lvl=u.cl
theorem zr6:Uk0.Inw:=⟨Nat.le_refl _,Nat.zero_le _,fun x h=>(by cases h),fun f hf=>(by cases hf),fun h=>(by cases h)⟩
theorem zgs {u:Uk} (h:u.Inw) (b:Bool):(u.dec b).Inw:=by
 unfold Uk.dec; split
 ·exact h
 ·exact ⟨h.cl,h.up,h.ch,h.lv,h.why⟩
theorem zmi {u:Uk} (h:u.Inw) (f:Fa) (hf:(f.fc.lvl≤u.cl∨(f.fc.lvl=u.cl + 1∧f.fc.seen=true∧zcP u.ch f.nm))∧(f.fc.seen=false→f.fc.lvl < u.dep∧f.fc.lvl≤u.cl)):(u.need f).Inw:=by
 unfold Uk.need; split
 ·exact h
 ·refine ⟨h.cl,h.up,h.ch,fun g hg=>?_,fun e=>?_⟩
  ·rcases List.mem_append.mp hg with hg | hg
   ·exact h.lv g hg
   ·rw [List.mem_singleton.mp hg]; exact hf
  ·rcases h.why e with c | ⟨g,hg,c⟩
   ·exact .inl c
   ·exact .inr ⟨g,List.mem_append_left _ hg,c⟩
structure Uk.Inx (u:Uk):Prop where
 cl:u.cl≤u.dep
 up:u.dep≤u.cl + 1
 ch:∀ x,zcP u.ch x→u.cl < u.dep
 lv:∀ f∈u.fs,(f.fc.lvl≤u.cl∨(f.fc.lvl=u.cl + 1∧f.fc.seen=true∧zcP u.ch f.nm))∧(f.fc.seen=false→f.fc.lvl < u.dep∧f.fc.lvl≤u.cl)
theorem Uk.Inw.x {u:Uk} (h:u.Inw):u.Inx:=⟨h.cl,h.up,h.ch,h.lv⟩
theorem ziC {u:Uk} (h:u.Inw):u.needS.Inx:=by
 unfold Uk.needS; split
 ·refine ⟨?_,?_,fun x _=>?_,fun f hf=>⟨(h.lv f hf).1,fun z=>⟨?_,((h.lv f hf).2 z).2⟩⟩⟩
  ·show u.cl≤max u.dep (u.cl + 1); omega
  ·have:=h.up
   show max u.dep (u.cl + 1)≤u.cl + 1; omega
  ·show u.cl < max u.dep (u.cl + 1); omega
  ·have:=((h.lv f hf).2 z).1
   show f.fc.lvl < max u.dep (u.cl + 1); omega
 ·exact h.x
theorem key_put {ch:List (Str × Vl)} {x y:Str} {v:Vl}:zcP (zbM ch x v) y↔y=x∨zcP ch y:=by
 unfold zcP
 rw [zrX]
 by_cases c:y=x
 ·simp [c]
 ·simp [c]
theorem Uk.Inw.step {u:Uk} (h:u.Inw) (st:Stp):(u.step st).Inw:=by
 have seen:∀ x v,(u.seen x v).Inw:=fun x v=>by
  unfold Uk.seen
  split
  ·exact zgs h _
  ·split
   ·exact zgs h _
   ·rename_i hw
    exact zmi h _ ⟨.inr ⟨rfl,rfl,by show (u.ch.lookup x).isSome=true; rw [hw]; rfl⟩,fun z=>by cases z⟩
   ·exact zmi h _ ⟨.inl (Nat.le_refl _),fun z=>by cases z⟩
 have own:∀ x v,(u.own x v).Inw:=fun x v=>by
  have hx:=ziC h
  unfold Uk.own Uk.own0
  split
  ·rename_i s t eo
   rw [zbA] at eo
   have:u.needS=u:=by unfold Uk.needS; rw [if_neg (by rw [eo]; simp)]
   rw [this]
   exact zgs h _
  ·rename_i eo
   rw [zbA] at eo
   have dp:=zfi eo
   have cl:=zfh u
   split
   ·rename_i w hw
    exact zgs ⟨hx.cl,hx.up,hx.ch,hx.lv,fun _ => .inl ⟨x,by show (u.needS.ch.lookup x).isSome=true; rw [hw]; rfl⟩⟩ _
   ·-- the fact itself tells why
    unfold Uk.need
    split
    ·rename_i hm
     exact ⟨hx.cl,hx.up,hx.ch,hx.lv,fun _ => .inr ⟨_,memFa_iff.mp hm,rfl,rfl⟩⟩
    ·refine ⟨hx.cl,hx.up,hx.ch,fun g hg=>?_,fun _ => .inr ⟨_,List.mem_append_right _ (List.mem_singleton.mpr rfl),rfl,rfl⟩⟩
     rcases List.mem_append.mp hg with hg | hg
     ·exact hx.lv g hg
     ·rw [List.mem_singleton.mp hg]
      exact ⟨.inl (Nat.le_refl _),fun _=>⟨by show u.needS.cl < u.needS.dep; omega,Nat.le_refl _⟩⟩
 have chg:∀ x v,(u.chg x v).Inw:=fun x v=>by
  have hx:=ziC h
  unfold Uk.chg Uk.chg0
  split
  ·rename_i eo
   rw [zbA] at eo
   have dp:=zfi eo
   have cl:=zfh u
   refine ⟨hx.cl,hx.up,fun _ _=>by show u.needS.cl < u.needS.dep; omega,fun f hf=>?_,fun _ => .inl ⟨x,key_put.mpr (.inl rfl)⟩⟩
   obtain ⟨a,b⟩:=hx.lv f hf
   refine ⟨?_,b⟩
   rcases a with a | ⟨a,c,d⟩
   ·exact .inl a
   ·exact .inr ⟨a,c,key_put.mpr (.inr d)⟩
  ·rename_i s t eo
   rw [zbA] at eo
   have e:u.needS=u:=by unfold Uk.needS; rw [if_neg (by rw [eo]; simp)]
   rw [e]
   split <;> exact ⟨h.cl,h.up,h.ch,h.lv,h.why⟩
 cases st with
 | op=>exact ⟨h.cl,h.up,h.ch,h.lv,h.why⟩
 | cl=>
  have hx:=ziC h
  show u.close.Inw
  unfold Uk.close Uk.close0
  split
  ·rename_i eo
   rw [zbA] at eo
   have dp:=zfi eo
   have cl:=zfh u
   have up:=hx.up
   refine ⟨?_,?_,fun x z=>(by cases z),fun f hf=>?_,fun e=>?_⟩
   ·show u.needS.cl + 1≤u.needS.dep; omega
   ·show u.needS.dep≤u.needS.cl + 1 + 1; omega
   ·obtain ⟨a,b⟩:=hx.lv f hf
    refine ⟨.inl ?_,fun z=>⟨(b z).1,?_⟩⟩
    ·show f.fc.lvl≤u.needS.cl + 1
     rcases a with a | ⟨a,_⟩ <;> omega
    ·have:=(b z).2
     show f.fc.lvl≤u.needS.cl + 1
     omega
   ·have e:u.needS.dep=u.needS.cl + 1 + 1:=e
    omega
  ·rename_i s t eo
   rw [zbA] at eo
   have e:u.needS=u:=by unfold Uk.needS; rw [if_neg (by rw [eo]; simp)]
   rw [e]
   exact ⟨h.cl,h.up,h.ch,h.lv,h.why⟩
 | bind x v=>exact chg x _
 | drop x=>exact chg x _
 | expect x v=>exact seen x _
 | free x=>exact seen x _
 | owned x v=>exact own x _
 | unowned x=>exact own x _
theorem zmj:∀ (q:List Stp) {u:Uk},u.Inw→(q.foldl Uk.step u).Inw
 | [],_,h=>h
 | s :: q,_,h=>zmj q (h.step s)
theorem zmk:∀ (q:List Stp) (u:Uk),(∀ s∈u.op,zaO s)→∀s∈(q.foldl Uk.step u).op,zaO s
 | [],_,h=>h
 | st :: q,u,h=>by
  refine zmk q (u.step st) ?_
  have nd:∀ f,∀s∈(u.need f).op,zaO s:=fun f=>by unfold Uk.need; split <;> exact h
  have putK:∀ {s:Sc} {x w:Str},zaO s→zaO (zbM s x w):=fun {s x w} hs=>by
   unfold zaO zbM
   split
   ·rw [List.map_map]
    have:s.map ((fun p:Str × Str=>p.1) ∘ fun p=>if p.1 == x then (p.1,w) else p)=s.map (·.1):=List.map_congr_left fun p _=>by
     simp only [Function.comp]
     split <;> rfl
    rw [this]
    exact hs
   ·rename_i hn
    rw [List.map_append,List.nodup_append]
    refine ⟨hs,by simp,fun a ha b hb e=>hn ?_⟩
    obtain ⟨p,hp,rfl⟩:=List.mem_map.mp ha
    have:b=x:=by simpa using hb
    exact List.any_eq_true.mpr ⟨p,hp,by rw [e,this]; simp⟩
  have dropK:∀ {s:Sc} {x:Str},zaO s→zaO (zfg s x):=fun {s x} hs=>List.Sublist.nodup ((List.filter_sublist (l:=s)).map _) hs
  have seen:∀ x v,∀s∈(u.seen x v).op,zaO s:=fun x v=>by
   unfold Uk.seen
   split
   ·unfold Uk.dec; split <;> exact h
   ·split
    ·unfold Uk.dec; split <;> exact h
    ·exact nd _
    ·exact nd _
  have own:∀ x v,∀s∈(u.own x v).op,zaO s:=fun x v=>by
   have h1:∀ s∈u.needS.op,zaO s:=by rw [zbA]; exact h
   unfold Uk.own Uk.own0
   split
   ·unfold Uk.dec; split <;> exact h1
   ·split
    ·unfold Uk.dec; split <;> exact h1
    ·unfold Uk.need; split <;> exact h1
  have chg:∀ x v,∀s∈(u.chg x v).op,zaO s:=fun x v=>by
   unfold Uk.chg Uk.chg0
   split
   ·show∀s∈u.needS.op,zaO s
    rw [zbA]; exact h
   ·rename_i s0 t eo
    rw [zbA] at eo
    have h0:=h s0 (by rw [eo]; exact List.mem_cons_self)
    have ht:∀ s∈t,zaO s:=fun s hs=>h s (by rw [eo]; exact List.mem_cons_of_mem _ hs)
    split
    ·intro s hs
     rcases List.mem_cons.mp hs with rfl | hs
     ·exact putK h0
     ·exact ht s hs
    ·intro s hs
     rcases List.mem_cons.mp hs with rfl | hs
     ·exact dropK h0
     ·exact ht s hs
  cases st with
  | op=>
   intro s hs
   rcases List.mem_cons.mp hs with rfl | hs
   ·unfold zaO; simp
   ·exact h s hs
  | cl=>
   show∀s∈u.close.op,zaO s
   unfold Uk.close Uk.close0
   split
   ·show∀s∈u.needS.op,zaO s
    rw [zbA]; exact h
   ·rename_i s0 t eo
    rw [zbA] at eo
    exact fun s hs=>h s (by rw [eo]; exact List.mem_cons_of_mem _ hs)
  | bind x v=>exact chg x _
  | drop x=>exact chg x _
  | expect x v=>exact seen x _
  | free x=>exact seen x _
  | owned x v=>exact own x _
  | unowned x=>exact own x _
end G
end
section
namespace G
open PySem Z
def ziD (K:List Fa) (cl:Nat) (x:Str):List Fa:=K.filter fun f=>f.nm == x && (f.fc.lvl == cl + 1 && f.fc.seen)
def zex (K:List Fa) (cl:Nat) (x:Str):List Stp:=if ziD K cl x ≠ []∧(knO K cl x).take 1 ≠ [none] then .drop x :: (ziD K cl x).map zmf else []
def zgt (K:List Fa) (cl:Nat) (ch:List (Str × Vl)) (x:Str):Vl:=match ch.lookup x with
 | some w=>w
 | none=>(knO K cl x).headD none
def zr7 (x:Str):Vl→Stp
 | some w => .bind x w
 | none => .drop x
def zml (K:List Fa) (cl:Nat) (ch:List (Str × Vl)) (x:Str):List Stp:=
 if (ch.lookup x).isSome=true∨(zex K cl x ≠ []∧zgt K cl ch x≠none) then (if zex K cl x = []∨zgt K cl ch x≠none then zex K cl x ++ [zr7 x (zgt K cl ch x)] else zex K cl x) else zex K cl x
structure St0 (u:Uk) (cl:Nat):Prop where
 op:u.op = []
 ok:u.ok=true
 cl:u.cl=cl
structure Gr (u u':Uk) (cl:Nat) (P:Fa→Prop) (D:Nat→Prop) (cm:Str→Option Vl):Prop where
 st:St0 u' cl
 fs:∀ g,g∈u'.fs↔g∈u.fs∨P g
 dep:∀ m,u'.dep≤m↔u.dep≤m∧D m
 ch:∀ y,u'.ch.lookup y=cm y
section
variable {K:List Fa} {cl:Nat} {ch:List (Str × Vl)}
end
def zr8 (s:Sc):Sc:=(zdZ (s.map (·.1))).map fun k=>(k,(s.lookup k).getD (.ofString ""))
end G
end
section
namespace G
open PySem Z
def zmm (K:List Fa) (cl:Nat) (x:Str):Fa:=⟨x,⟨cl,false,(knO K cl x).headD none⟩⟩
def zr9 (K:List Fa) (cl D:Nat) (ks:List Str):List Stp:=if cl < D then (match ks.find? fun x => !(knO K cl x).isEmpty with
 | some x => [zmf (zmm K cl x)]
 | none => []) else []
structure Again (K:List Fa) (cl D:Nat) (ch:List (Str × Vl)) (op:Ne) (ks xs:List Str) (u:Uk):Prop where
 hok:u.ok=true
 hcl:u.cl=cl
 hop:u.op=op.map zr8
 hfs:∀ g,g∈u.fs↔((g∈K∧g.fc.lvl≤cl)∨(∃ x,ks.find? (fun x => !(knO K cl x).isEmpty)=some x∧cl < D∧g=zmm K cl x))∨∃x∈xs,zex K cl x ≠ []∧g∈ziD K cl x
 hdep:∀ m,u.dep≤m↔((cl≤m∧∀f∈K,f.fc.lvl≤cl→f.fc.seen=false→f.fc.lvl < m)∧(zr9 K cl D ks ≠ []→cl < m))∧((∃ x∈xs,zml K cl ch x ≠ [])→cl < m)
 hch:∀ y,u.ch.lookup y=if y∈xs∧zml K cl ch y ≠ [] then some (zgt K cl ch y) else none
section
variable (q:List Stp) (h:FsOk (zaQ q).fs) (hp:(zaB h).all_=true)
include hp
variable {ks xs:List Str} (hks:∀ x,x∈ks↔∃ f∈zby (zaB h),f.nm=x)
 (hxs:∀ x,x∈xs↔(∃ f∈zby (zaB h),f.nm=x∧f.fc.lvl=(zaQ q).cl + 1)∨zcP (zdL (zby (zaB h)) (zaQ q).cl (zaQ q).ch) x)
 {u:Uk} (A:Again (zby (zaB h)) (zaQ q).cl ((zaB h).least (zaQ q).dep) (zdL (zby (zaB h)) (zaQ q).cl (zaQ q).ch) (zaQ q).op ks xs u)
include hks hxs A
end
end G
end
section
namespace G
open PySem Z
section
variable {u:Uk} (h:FsOk u.fs) (hp:(zaB h).all_=true)
include hp
end
section
variable {u u':Uk} (h:FsOk u.fs) (h':FsOk u'.fs) (ok:u.ok=true) (ok':u'.ok=true) (hp:(zaB h).all_=true) (hf:∀ n,u.Fits n↔u'.Fits n)
include h h' ok ok' hp hf
end
theorem zsa (l:List Str):∃ z:Str,z∉l:=by
 have big:∀ l:List Str,∃N,∀y∈l,y.cps.size < N:=fun l=>by
  induction l with
  | nil=>exact ⟨0,fun y hy=>absurd hy List.not_mem_nil⟩
  | cons a l ih=>
   obtain ⟨N,hN⟩:=ih
   refine ⟨N + a.cps.size + 1,fun y hy=>?_⟩
   rcases List.mem_cons.mp hy with rfl | hy
   ·omega
   ·have:=hN y hy
    omega
 obtain ⟨N,hN⟩:=big l
 refine ⟨⟨Array.replicate N 97⟩,fun z=>?_⟩
 have:=hN _ z
 simp at this
end G
end
section
namespace G
open PySem Z
section
variable {fs:List Fa} (h:FsOk fs) (hp:(zaB h).all_=true)
include hp
end
end G
end
section
namespace G
open PySem Z
structure EfEq (a b:Ef):Prop where
 dep:a.dep=b.dep
 fs:a.fs=b.fs
 cl:a.cl=b.cl
 op:a.op.map lk=b.op.map lk
 ch:∀ y,a.ch.lookup y=b.ch.lookup y
def EfEqO:Option Ef→Option Ef→Prop
 | none,none=>True
 | some a,some b=>EfEq a b
 | _,_=>False
def Ef.uk (e:Ef):Uk:={dep:=e.dep,fs:=e.fs,cl:=e.cl,ch:=e.ch,op:=e.op,ok:=true}
theorem Ef.uk_fits (e:Ef) (n:FN):e.uk.Fits n↔e.Fits n:=⟨fun f=>⟨f.dep,f.fs⟩,fun f=>⟨rfl,f.dep,f.fs⟩⟩
theorem Ef.uk_img (e:Ef) (n:FN):e.uk.img n=e.img n:=rfl
structure Ef.Inv (e:Ef):Prop where
 cl:e.cl≤e.dep
 ch:e.ch ≠ []→e.cl < e.dep
theorem zsb {u:Uk} (h:FsOk u.fs) (i:u.Inv) {e:Ef} (he:zb6 u h=some e):e.Inv:=by
 unfold zb6 at he
 by_cases c:u.ok=true∧(zaB h).all_=true
 ·rw [if_pos c] at he
  have he:=Option.some.inj he
  have l:=((zrO (zaB h) c.2 (d:=u.dep)).mp (Nat.le_refl _)).1
  subst he
  refine ⟨Nat.le_trans i.cl l,fun z=>Nat.lt_of_lt_of_le (i.ch fun q=>z ?_) l⟩
  show zdL _ _ u.ch = []
  rw [q]
  rfl
 ·rw [if_neg c] at he
  cases he
theorem zsc {u:Uk} (h:FsOk u.fs) (nd:(u.ch.map (·.1)).Nodup) {e:Ef} (he:zb6 u h=some e):(e.ch.map (·.1)).Nodup:=by
 unfold zb6 at he
 by_cases c:u.ok=true∧(zaB h).all_=true
 ·rw [if_pos c] at he
  have he:=Option.some.inj he
  subst he
  show ((zdL _ _ u.ch).map (·.1)).Nodup
  unfold zdL
  exact List.Sublist.nodup ((List.filter_sublist (l:=u.ch)).map _) nd
 ·rw [if_neg c] at he
  cases he
end G
end
section
namespace G
open PySem PySem.Spec PyProof.Rows L2 Z PySem.SeqAt
abbrev ML (q:List Stp):Mem := [.live (.lst (q.map enS))]
end G
end
section
namespace G
open PySem PySem.Spec PyProof.Rows L2 Z PySem.SeqAt
theorem ziE {S:Sg} {M:Mem} {d1 d2:DT} {x y:Bool} (h1:d1 S M = .ok x M) (h2:d2 S M = .ok y M):zbv d1 d2 S M = .ok (x || y) M:=by
 unfold zbv
 rw [h1]
 cases x with
 | true=>rfl
 | false=>exact h2
end G
end
section
namespace G
open PySem PySem.Spec PyProof.Rows L2 Z PySem.SeqAt
end G
end
section
namespace G
open PySem PySem.Spec PyProof.Rows L2 Z PySem.SeqAt
def ziF (e:Ef):List Str:=zdZ ((e.ch.map (·.1)).foldl zcm (zcO (e.fs.filter fun f=>f.fc.lvl == e.cl + 1) []))
structure SmE (e:Ef):Prop where
 fs:e.fs.length≤900
 nm:(zcO e.fs []).length≤20
 cl:e.cl≤200
 op:e.op.length≤1000
 sc:∀ s∈e.op,s.length < 64
 nd:(e.ch.map (·.1)).Nodup
 un:(zcO (e.fs.filter fun f=>f.fc.lvl == e.cl + 1) []).length + e.ch.length≤15
end G
end
section
namespace G
open PySem PySem.Spec PyProof.Rows L2 Z PySem.SeqAt
theorem lookup_mem {β : Type} {x:Str} {v : β}:∀ {l:List (Str × β)},(l.map (·.1)).Nodup→(l.lookup x=some v↔(x,v)∈l)
 | [],_=>by simp
 | p :: r,nd=>by
  rw [List.map_cons,List.nodup_cons] at nd
  have ih:=lookup_mem (x:=x) (v:=v) nd.2
  rw [List.lookup_cons]
  cases e:x == p.1 with
  | true=>
   have e1:x=p.1:=eq_of_beq e
   constructor
   ·intro h
    have h:some p.2=some v:=h
    have:p=(x,v):=by
     rw [e1,← Option.some.inj h]
    rw [this]
    exact List.mem_cons_self
   ·intro h
    rcases List.mem_cons.mp h with h | h
    ·rw [← h]
    ·exact absurd (List.mem_map.mpr ⟨_,h,e1⟩) nd.1
  | false=>
   constructor
   ·intro h
    exact List.mem_cons_of_mem _ (ih.mp h)
   ·intro h
    rcases List.mem_cons.mp h with h | h
    ·rw [← h] at e
     simp at e
    ·exact ih.mpr h
structure EfNd (e:Ef):Prop where
 ch:(e.ch.map (·.1)).Nodup
 op:∀ s∈e.op,zaO s
end G
end
section
namespace G
open PySem PySem.Spec PyProof.Rows L2 Z PySem.SeqAt
section
variable {S:Sg} {M:Mem}
theorem zdo {d:DT} {b:Bool} (h:d S M = .ok b M):zbb d S M = .ok (!b) M:=by unfold zbb; rw [h]; rfl
theorem zfj {d e:DE} (h:d S M = .ok (.bl true) M):zbn d e S M=e S M:=by unfold zbn; rw [h]; rfl
end
structure EfV (e:Ef):Prop where
 sm:SmE e
 nd:EfNd e
 dep:e.dep≤200
 le:e.cl≤e.dep
 fv:∀ f∈e.fs,FV f
 ch:∀ p∈e.ch,nameOk p.1∧∀v,p.2=some v→valOk v
 op:∀ s∈e.op,ScG s
 ol:e.op.length≤200
end G
end
section
namespace G
open PySem PySem.Spec PyProof.Rows L2 Z PySem.SeqAt
end G
end
section
namespace G
open PySem PySem.Spec PyProof.Rows L2 Z PySem.SeqAt
end G
end
section
namespace G
open PySem PySem.Spec PyProof.Rows L2 Z PySem.SeqAt
end G
end
section
namespace G
open PySem PySem.Spec PyProof.Rows L2 Z PySem.SeqAt
end G
end
section
namespace G
open PySem PySem.Spec PyProof.Rows L2 Z PySem.SeqAt
def zsd (o:Option Ef):Prop := ∀ e,o=some e→e.ch.length < 64∧(∀ s∈e.op,s.length < 64)∧e.op.length≤1000
end G
end
section
namespace G
open PySem PySem.Spec PyProof.Rows L2 Z PySem.SeqAt
end G
end
section
namespace G
open PySem PySem.Spec PyProof.Rows L2 Z PySem.SeqAt
theorem zfk {α : Type} [DecidableEq α]:∀ {l m:List α},l.Nodup→(∀ x∈l,x∈m)→l.length≤m.length
 | [],m,_,_=>Nat.zero_le _
 | a :: l,m,nd,h=>by
  rw [List.nodup_cons] at nd
  have ma:=h a List.mem_cons_self
  have ih:=zfk (l:=l) (m:=m.erase a) nd.2 fun x hx=>(List.mem_erase_of_ne (fun e=>nd.1 (by rw [← e]; exact hx))).mpr (h x (List.mem_cons_of_mem _ hx))
  rw [List.length_erase_of_mem ma] at ih
  have:=List.length_pos_of_mem ma
  rw [List.length_cons]
  omega
end G
end
section
namespace G
open PySem Z
theorem EfEq.symm {a b:Ef} (h:EfEq a b):EfEq b a:=⟨h.dep.symm,h.fs.symm,h.cl.symm,h.op.symm,fun y=>(h.ch y).symm⟩
theorem EfEq.trans {a b c:Ef} (h:EfEq a b) (g:EfEq b c):EfEq a c:=⟨h.dep.trans g.dep,h.fs.trans g.fs,h.cl.trans g.cl,h.op.trans g.op,fun y=>(h.ch y).trans (g.ch y)⟩
theorem EfEqO.symm {a b:Option Ef} (h:EfEqO a b):EfEqO b a:=by
 cases a <;> cases b <;> first | trivial | exact h.elim | exact EfEq.symm h
theorem EfEqO.trans {a b c:Option Ef} (h:EfEqO a b) (g:EfEqO b c):EfEqO a c:=by
 cases a <;> cases b <;> cases c <;> first | trivial | exact h.elim | exact g.elim | exact EfEq.trans h g
end G
end
section
namespace G
open PySem Z
def zgu:Stp→List Str
 | .op => []
 | .cl => []
 | .bind x _ => [x]
 | .drop x => [x]
 | .expect x _ => [x]
 | .free x => [x]
 | .owned x _ => [x]
 | .unowned x => [x]
structure Far (u v:Uk) (ns:List Str):Prop where
 len:v.fs.length≤u.fs.length + 1
 fs:∀ f∈v.fs,f∈u.fs∨(f.nm∈ns∧f.fc.lvl≤u.cl + 1)
 cl:v.cl≤u.cl + 1
theorem zc7 {u v:Uk} {ns:List Str} (h:v.fs=u.fs) (hc:v.cl≤u.cl + 1):Far u v ns:=⟨by rw [h]; omega,fun f hf => .inl (by rw [h] at hf; exact hf),hc⟩
theorem zgv {u v:Uk} {ns:List Str} (b:Bool) (h:v.fs=u.fs) (hc:v.cl=u.cl):Far u (v.dec b) ns:=by
 unfold Uk.dec
 split
 ·exact zc7 h (by omega)
 ·exact zc7 h (by show v.cl≤_; omega)
theorem ziG {u v:Uk} {ns:List Str} (f:Fa) (h:v.fs=u.fs) (hc:v.cl=u.cl) (hn:f.nm∈ns) (hl:f.fc.lvl≤u.cl + 1):Far u (v.need f) ns:=by
 unfold Uk.need
 split
 ·exact zc7 h (by omega)
 ·refine ⟨by show (v.fs ++ [f]).length≤_; rw [h]; simp,fun g hg=>?_,by show v.cl≤_; omega⟩
  rcases List.mem_append.mp (show g∈v.fs ++ [f] from hg) with z | z
  ·exact .inl (by rw [h] at z; exact z)
  ·rw [List.mem_singleton.mp z]
   exact .inr ⟨hn,hl⟩
theorem zcQ (u:Uk):u.needS.fs=u.fs:=by unfold Uk.needS; split <;> rfl
theorem zcs (u:Uk):u.needS.cl=u.cl:=by unfold Uk.needS; split <;> rfl
theorem zse (u:Uk) (st:Stp):Far u (u.step st) (zgu st):=by
 have seen:∀ x v,Far u (u.seen x v) [x]:=fun x v=>by
  unfold Uk.seen
  split
  ·exact zgv _ rfl rfl
  ·split
   ·exact zgv _ rfl rfl
   ·exact ziG _ rfl rfl (List.mem_singleton.mpr rfl) (Nat.le_refl _)
   ·exact ziG _ rfl rfl (List.mem_singleton.mpr rfl) (Nat.le_succ _)
 have own:∀ x v,Far u (u.own x v) [x]:=fun x v=>by
  unfold Uk.own Uk.own0
  split
  ·exact zgv _ (zcQ u) (zcs u)
  ·split
   ·exact zgv _ (zcQ u) (zcs u)
   ·exact ziG _ (zcQ u) (zcs u) (List.mem_singleton.mpr rfl) (by show u.needS.cl≤_; rw [zcs]; omega)
 have chg:∀ x v,Far u (u.chg x v) [x]:=fun x v=>by
  unfold Uk.chg Uk.chg0
  split
  ·exact zc7 (zcQ u) (by show u.needS.cl≤_; rw [zcs]; omega)
  ·split
   ·exact zc7 (zcQ u) (by show u.needS.cl≤_; rw [zcs]; omega)
   ·exact zc7 (zcQ u) (by show u.needS.cl≤_; rw [zcs]; omega)
 cases st with
 | op=>exact zc7 rfl (Nat.le_succ _)
 | cl=>
  show Far u u.close _
  unfold Uk.close Uk.close0
  split
  ·exact zc7 (zcQ u) (by show u.needS.cl + 1≤_; rw [zcs]; omega)
  ·exact zc7 (zcQ u) (by show u.needS.cl≤_; rw [zcs]; omega)
 | bind x v=>exact chg x (some v)
 | drop x=>exact chg x none
 | expect x v=>exact seen x (some v)
 | free x=>exact seen x none
 | owned x v=>exact own x (some v)
 | unowned x=>exact own x none
theorem zmn (ns:List Str):∀ (q:List Stp) (u:Uk),(∀ st∈q,∀x∈zgu st,x∈ns)→(q.foldl Uk.step u).fs.length≤u.fs.length + q.length∧(q.foldl Uk.step u).cl≤u.cl + q.length∧∀f∈(q.foldl Uk.step u).fs,f∈u.fs∨(f.nm∈ns∧f.fc.lvl≤u.cl + q.length)
 | [],u,_=>⟨Nat.le_refl _,Nat.le_refl _,fun f hf => .inl hf⟩
 | st :: q,u,h=>by
  have s:=zse u st
  obtain ⟨a,b,c⟩:=zmn ns q (u.step st) fun t ht=>h t (List.mem_cons_of_mem _ ht)
  have l1:=s.len
  have l2:=s.cl
  rw [List.length_cons]
  refine ⟨by show ((q.foldl Uk.step (u.step st)).fs).length≤_; omega,by show (q.foldl Uk.step (u.step st)).cl≤_; omega,fun f hf=>?_⟩
  rcases c f hf with z | ⟨z1,z2⟩
  ·rcases s.fs f z with y | ⟨y1,y2⟩
   ·exact .inl y
   ·exact .inr ⟨h st List.mem_cons_self _ y1,by omega⟩
  ·exact .inr ⟨z1,by omega⟩
theorem zsf {fs:List Fa} {ns:List Str} (hn:ns.length≤20) (h:∀ f∈fs,f.nm∈ns∧f.fc.lvl≤200) (hl:fs.length≤900):FsOk fs:=
 ⟨hl,fun f hf=>(h f hf).2,Nat.le_trans (zfk (zlS fs [] (by simp)) fun x hx=>by
  rcases (zit _ _ _).mp hx with z | ⟨f,hf,rfl⟩
  ·cases z
  ·exact (h f hf).1) hn⟩
theorem zsg {q:List Stp} {ns:List Str} (hn:ns.length≤20) (hq:∀ st∈q,∀x∈zgu st,x∈ns) (hl:q.length≤200):FsOk (zaQ q).fs:=by
 obtain ⟨a,b,c⟩:=zmn ns q Uk0 hq
 have a':(zaQ q).fs.length≤0 + q.length:=a
 refine zsf hn (fun f hf=>?_) (by omega)
 rcases c f hf with z | ⟨z1,z2⟩
 ·cases z
 ·have:Uk0.cl=0:=rfl
  exact ⟨z1,by omega⟩
end G
end
section
namespace G
open PySem Z
theorem ziH {u:Uk} (h:FsOk u.fs) {e:Ef} (he:zb6 u h=some e):e.op=u.op∧e.cl=u.cl∧e.fs=zby (zaB h)∧e.dep=(zaB h).least u.dep∧e.ch=zdL (zby (zaB h)) u.cl u.ch∧(zaB h).all_=true∧u.ok=true:=by
 unfold zb6 at he
 by_cases c:u.ok=true∧(zaB h).all_=true
 ·rw [if_pos c] at he
  have he:=Option.some.inj he
  subst he
  exact ⟨rfl,rfl,rfl,rfl,rfl,c.2,c.1⟩
 ·rw [if_neg c] at he
  cases he
theorem zsh {u:Uk} (h:FsOk u.fs) (nd:(u.ch.map (·.1)).Nodup) (ko:∀ s∈u.op,zaO s) {e:Ef} (he:zb6 u h=some e):EfNd e:=
 ⟨zsc h nd he,by rw [(ziH h he).1]; exact ko⟩
theorem zsi {q:List Stp} (h:FsOk (zaQ q).fs) {e:Ef} (he:zb6 (zaQ q) h=some e):EfNd e:=
 zsh h (zmb q Uk0 (by show ([]:List Str).Nodup; simp)) (zmk q Uk0 (fun s hs=>by cases hs)) he
theorem zsj {fs:List Fa} (h:FsOk fs) (hp:(zaB h).all_=true) {f:Fa} (hf:f∈zby (zaB h)):∃ g∈fs,g.nm=f.nm:=by
 obtain ⟨nm,c⟩:=f
 exact ((zaB h).all nm).mp ((zl4 (zaB h)).mp hf).1
end G
end
section
namespace G
open PySem PySem.Spec PyProof.Rows L2 Z PySem.SeqAt
def swV (w z:Str) (o:Vl):Vl:=if o=some w then some z else o
theorem zgw (w z:Str):∀ (os:List Vl) (l:Nat),zaD (os.map (swV w z)) l=swV w z (zaD os l)
 | [],l=>by
  have:swV w z none=none:=rfl
  show zaD [] l=swV w z (zaD [] l)
  unfold zaD
  exact this.symm
 | o :: r,0=>by
  have ih:=zgw w z r 0
  show shown (swV w z o) (zaD (r.map (swV w z)) 0)=swV w z (shown o (zaD r 0))
  rw [ih]
  cases o with
  | none=>rfl
  | some v=>
   by_cases c:v=w
   ·subst c
    unfold swV
    simp [shown]
   ·unfold swV
    simp [shown,c]
 | o :: r,l + 1=>zgw w z r l
theorem zmo (w z:Str) (os:List Vl) (l:Nat):(os.map (swV w z)).getD l none=swV w z (os.getD l none):=by
 unfold List.getD
 rw [List.getElem?_map]
 cases os[l]? <;> rfl
theorem zsk {w z:Str} {fs:List Fc} (hw:∀ f∈fs,f.v≠some w) {os:List Vl} (h:Has os fs):Has (os.map (swV w z)) fs:=fun f hf=>by
 have q:=h f hf
 have k:∀ o,o=f.v→swV w z o=f.v:=fun o e=>by
  rw [e]
  unfold swV
  rw [if_neg (hw f hf)]
 unfold zbJ at q ⊢
 cases e:f.seen with
 | true=>
  rw [e] at q
  rw [if_pos rfl] at q ⊢
  rw [zgw]
  exact k _ q
 | false=>
  rw [e] at q
  rw [if_neg (by simp)] at q ⊢
  rw [zmo]
  exact k _ q
theorem zsl {fs:List Fa} (h:FsOk fs) (hp:(zaB h).all_=true) {f:Fa} (hf:f∈zby (zaB h)) {w:Str} (hv:f.fc.v=some w):∃ g∈fs,g.nm=f.nm∧g.fc.v=some w:=by
 refine Classical.byContradiction fun no=>?_
 obtain ⟨x,c⟩:=f
 obtain ⟨z,hz⟩:=zsa [w]
 have zw:z≠w:=fun e=>hz (by rw [e]; exact List.mem_singleton.mpr rfl)
 obtain ⟨hx,k1,k2,_⟩:=zmh h hp hf
 obtain ⟨os,ho⟩:=zrN (zaB h) hp x
 have ho2:Has (os.map (swV w z)) (ofN fs x):=zsk (fun g hg e=>no ⟨⟨x,g⟩,mem_ofN.mp hg,rfl,e⟩) ho
 have ez:swV w z (some w)=some z:=by unfold swV; rw [if_pos rfl]
 have hv:c.v=some w:=hv
 cases e:c.seen with
 | true=>
  have a:=k1 e os ho
  have b:=k1 e _ ho2
  rw [hv] at a b
  rw [zgw,a,ez] at b
  exact zw (Option.some.inj b)
 | false=>
  have a:=(k2 e).1 os ho
  have b:=(k2 e).1 _ ho2
  rw [hv] at a b
  rw [zmo,a,ez] at b
  exact zw (Option.some.inj b)
def StD (ns vs:List Str):Stp→Prop
 | .op=>True
 | .cl=>True
 | .bind x v=>x∈ns∧v∈vs
 | .drop x=>x∈ns
 | .expect x v=>x∈ns∧v∈vs
 | .free x=>x∈ns
 | .owned x v=>x∈ns∧v∈vs
 | .unowned x=>x∈ns
structure UkD (ns vs:List Str) (u:Uk):Prop where
 fs:∀ f∈u.fs,f.nm∈ns∧inV vs f.fc.v
 ch:∀ p∈u.ch,p.1∈ns∧inV vs p.2
 op:∀ s∈u.op,∀p∈s,p.1∈ns∧p.2∈vs
theorem ziI (vs:List Str):inV vs none:=fun v h=>by cases h
theorem ziJ {vs:List Str} {v:Str} (h:v∈vs):inV vs (some v):=fun w e=>by
 have:v=w:=Option.some.inj e
 rw [← this]; exact h
theorem zmp {α : Type} {ks:List (Str × α)} {k:Str} {a : α} {p:Str × α} (h:p∈zbM ks k a):p∈ks∨(p.1=k∧p.2=a):=by
 unfold zbM at h
 split at h
 ·obtain ⟨q,hq,e⟩:=List.mem_map.mp h
  split at e
  ·rename_i c
   rw [← e]
   exact .inr ⟨eq_of_beq c,rfl⟩
  ·rw [← e]; exact .inl hq
 ·rcases List.mem_append.mp h with h | h
  ·exact .inl h
  ·rw [List.mem_singleton.mp h]
   exact .inr ⟨rfl,rfl⟩
theorem zsm {α : Type} {ks:List (Str × α)} {k:Str} {p:Str × α} (h:p∈zfg ks k):p∈ks:=(List.mem_filter.mp h).1
section
variable {ns vs:List Str} {u:Uk}
theorem zmq {v:Uk} (h:UkD ns vs u) (e1:v.fs=u.fs) (e2:v.ch=u.ch) (e3:v.op=u.op):UkD ns vs v:=⟨by rw [e1]; exact h.fs,by rw [e2]; exact h.ch,by rw [e3]; exact h.op⟩
theorem zgx (h:UkD ns vs u) (b:Bool):UkD ns vs (u.dec b):=by
 unfold Uk.dec
 split
 ·exact h
 ·exact zmq h rfl rfl rfl
theorem zfl (h:UkD ns vs u):UkD ns vs u.needS:=zmq h (zcQ u) (zdn u) (zbA u)
theorem ziK (h:UkD ns vs u) {f:Fa} (hf:f.nm∈ns∧inV vs f.fc.v):UkD ns vs (u.need f):=by
 unfold Uk.need
 split
 ·exact h
 ·refine ⟨fun g hg=>?_,h.ch,h.op⟩
  rcases List.mem_append.mp hg with hg | hg
  ·exact h.fs g hg
  ·rw [List.mem_singleton.mp hg]; exact hf
theorem UkD.step (h:UkD ns vs u) {st:Stp} (hs:StD ns vs st):UkD ns vs (u.step st):=by
 have seen:∀ x v,x∈ns→inV vs v→UkD ns vs (u.seen x v):=fun x v hx hv=>by
  unfold Uk.seen
  split
  ·exact zgx h _
  ·split
   ·exact zgx h _
   ·exact ziK h ⟨hx,hv⟩
   ·exact ziK h ⟨hx,hv⟩
 have own:∀ x v,x∈ns→inV vs v→UkD ns vs (u.own x v):=fun x v hx hv=>by
  unfold Uk.own Uk.own0
  split
  ·exact zgx (zfl h) _
  ·split
   ·exact zgx (zfl h) _
   ·exact ziK (zfl h) ⟨hx,hv⟩
 have chg:∀ x v,x∈ns→inV vs v→UkD ns vs (u.chg x v):=fun x v hx hv=>by
  have h2:=zfl h
  unfold Uk.chg Uk.chg0
  split
  ·refine ⟨h2.fs,fun p hp=>?_,h2.op⟩
   rcases zmp hp with hp | ⟨e1,e2⟩
   ·exact h2.ch p hp
   ·rw [e1,e2]; exact ⟨hx,hv⟩
  ·rename_i s r eo
   have hs0:=h2.op s (by rw [eo]; exact List.mem_cons_self)
   have hr:∀ t∈r,∀p∈t,p.1∈ns∧p.2∈vs:=fun t ht=>h2.op t (by rw [eo]; exact List.mem_cons_of_mem _ ht)
   split
   ·rename_i w
    refine ⟨h2.fs,h2.ch,fun t ht p hp=>?_⟩
    rcases List.mem_cons.mp ht with rfl | ht
    ·rcases zmp hp with hp | ⟨e1,e2⟩
     ·exact hs0 p hp
     ·rw [e1,e2]; exact ⟨hx,hv w rfl⟩
    ·exact hr t ht p hp
   ·refine ⟨h2.fs,h2.ch,fun t ht p hp=>?_⟩
    rcases List.mem_cons.mp ht with rfl | ht
    ·exact hs0 p (zsm hp)
    ·exact hr t ht p hp
 cases st with
 | op=>
  refine ⟨h.fs,h.ch,fun t ht p hp=>?_⟩
  rcases List.mem_cons.mp ht with rfl | ht
  ·cases hp
  ·exact h.op t ht p hp
 | cl=>
  have h2:=zfl h
  show UkD ns vs u.close
  unfold Uk.close Uk.close0
  split
  ·exact ⟨h2.fs,fun p hp=>(by cases hp),h2.op⟩
  ·rename_i eo
   exact ⟨h2.fs,h2.ch,fun t ht=>h2.op t (by rw [eo]; exact List.mem_cons_of_mem _ ht)⟩
 | bind x v=>exact chg x _ hs.1 (ziJ hs.2)
 | drop x=>exact chg x _ hs (ziI _)
 | expect x v=>exact seen x _ hs.1 (ziJ hs.2)
 | free x=>exact seen x _ hs (ziI _)
 | owned x v=>exact own x _ hs.1 (ziJ hs.2)
 | unowned x=>exact own x _ hs (ziI _)
end
theorem ziL {ns vs:List Str}:∀ (q:List Stp) {u:Uk},UkD ns vs u→(∀ s∈q,StD ns vs s)→UkD ns vs (q.foldl Uk.step u)
 | [],_,h,_=>h
 | s :: q,_,h,hq=>ziL q (h.step (hq s List.mem_cons_self)) fun t ht=>hq t (List.mem_cons_of_mem _ ht)
theorem zmr (ns vs:List Str):UkD ns vs Uk0:=⟨fun f hf=>(by cases hf),fun p hp=>(by cases hp),fun s hs=>(by cases hs)⟩
theorem zsn {ns vs:List Str} {st:Stp} (h:StD ns vs st):∀ x∈zgu st,x∈ns:=by
 cases st with
 | op=>intro x hx; cases hx
 | cl=>intro x hx; cases hx
 | bind y v=>intro x hx; rw [List.mem_singleton.mp hx]; exact h.1
 | drop y=>intro x hx; rw [List.mem_singleton.mp hx]; exact h
 | expect y v=>intro x hx; rw [List.mem_singleton.mp hx]; exact h.1
 | free y=>intro x hx; rw [List.mem_singleton.mp hx]; exact h
 | owned y v=>intro x hx; rw [List.mem_singleton.mp hx]; exact h.1
 | unowned y=>intro x hx; rw [List.mem_singleton.mp hx]; exact h
def stC:Stp→Nat
 | .cl=>1
 | _=>0
def stO:Stp→Nat
 | .op=>1
 | _=>0
def zdp (q:List Stp):Nat:=(q.map stC).sum
def zdM (q:List Stp):Nat:=(q.map stO).sum
theorem zms (s:Stp) (q:List Stp):zdp (s :: q)=stC s + zdp q:=rfl
theorem zmt (s:Stp) (q:List Stp):zdM (s :: q)=stO s + zdM q:=rfl
theorem sum_le:∀ q:List Stp,zdp q + zdM q≤q.length
 | []=>Nat.le_refl _
 | s :: q=>by
  have ih:=sum_le q
  rw [zms,zmt,List.length_cons]
  have:stC s + stO s≤1:=by cases s <;> simp [stC,stO]
  omega
structure CnU (u v:Uk) (c o:Nat):Prop where
 cl:v.cl≤u.cl + c
 op:v.op.length≤u.op.length + o
 fl:∀ f∈v.fs,f∈u.fs∨f.fc.lvl≤u.cl + 1
theorem zgy {u v:Uk} {c o:Nat} (h:CnU u v c o) (b:Bool):CnU u (v.dec b) c o:=by
 unfold Uk.dec
 split
 ·exact h
 ·exact ⟨h.cl,h.op,h.fl⟩
theorem ziM {u v:Uk} {c o:Nat} (h:CnU u v c o) (f:Fa) (hf:f.fc.lvl≤u.cl + 1):CnU u (v.need f) c o:=by
 unfold Uk.need
 split
 ·exact h
 ·refine ⟨h.cl,h.op,fun g hg=>?_⟩
  rcases List.mem_append.mp hg with hg | hg
  ·exact h.fl g hg
  ·rw [List.mem_singleton.mp hg]; exact .inr hf
theorem zgz (u:Uk) (c o:Nat):CnU u u c o:=⟨Nat.le_add_right _ _,Nat.le_add_right _ _,fun f hf => .inl hf⟩
theorem zfm (u:Uk) (c o:Nat):CnU u u.needS c o:=⟨by rw [zcs]; exact Nat.le_add_right _ _,by rw [zbA]; exact Nat.le_add_right _ _,fun f hf => .inl (by rw [zcQ] at hf; exact hf)⟩
theorem zso (u:Uk) (st:Stp):CnU u (u.step st) (stC st) (stO st):=by
 have seen:∀ x v c o,CnU u (u.seen x v) c o:=fun x v c o=>by
  unfold Uk.seen
  split
  ·exact zgy (zgz u c o) _
  ·split
   ·exact zgy (zgz u c o) _
   ·exact ziM (zgz u c o) _ (Nat.le_refl _)
   ·exact ziM (zgz u c o) _ (Nat.le_succ _)
 have own:∀ x v c o,CnU u (u.own x v) c o:=fun x v c o=>by
  unfold Uk.own Uk.own0
  split
  ·exact zgy (zfm u c o) _
  ·split
   ·exact zgy (zfm u c o) _
   ·exact ziM (zfm u c o) _ (by show u.needS.cl≤_; rw [zcs]; omega)
 have chg:∀ x v c o,CnU u (u.chg x v) c o:=fun x v c o=>by
  have h:=zfm u c o
  unfold Uk.chg Uk.chg0
  split
  ·exact ⟨h.cl,h.op,h.fl⟩
  ·rename_i s r eo
   have ho:=h.op
   rw [eo] at ho
   split
   ·exact ⟨h.cl,by show (zbM _ _ _ :: r).length≤_; simpa using ho,h.fl⟩
   ·exact ⟨h.cl,by show (zfg _ _ :: r).length≤_; simpa using ho,h.fl⟩
 cases st with
 | op=>exact ⟨Nat.le_refl _,Nat.le_refl _,fun f hf => .inl hf⟩
 | cl=>
  have h:=zfm u 0 0
  show CnU u u.close 1 0
  unfold Uk.close Uk.close0
  split
  ·exact ⟨Nat.succ_le_succ h.cl,h.op,h.fl⟩
  ·rename_i s r eo
   have ho:=h.op
   rw [eo] at ho
   exact ⟨Nat.le_succ_of_le h.cl,by show r.length≤_; simp at ho; omega,h.fl⟩
 | bind x v=>exact chg x _ _ _
 | drop x=>exact chg x _ _ _
 | expect x v=>exact seen x _ _ _
 | free x=>exact seen x _ _ _
 | owned x v=>exact own x _ _ _
 | unowned x=>exact own x _ _ _
theorem zmu:∀ (q:List Stp) (u:Uk),(q.foldl Uk.step u).cl≤u.cl + zdp q∧(q.foldl Uk.step u).op.length≤u.op.length + zdM q∧∀f∈(q.foldl Uk.step u).fs,f∈u.fs∨f.fc.lvl≤u.cl + zdp q + 1
 | [],u=>⟨Nat.le_refl _,Nat.le_refl _,fun f hf => .inl hf⟩
 | s :: q,u=>by
  have h:=zso u s
  obtain ⟨a,b,c⟩:=zmu q (u.step s)
  have h1:=h.cl
  have h2:=h.op
  rw [zms,zmt]
  refine ⟨by show (q.foldl Uk.step (u.step s)).cl≤_; omega,by show (q.foldl Uk.step (u.step s)).op.length≤_; omega,fun f hf=>?_⟩
  rcases c f hf with z | z
  ·rcases h.fl f z with y | y
   ·exact .inl y
   ·exact .inr (by omega)
  ·exact .inr (by omega)
end G
end
section
namespace G
open PySem PySem.Spec PyProof.Rows L2 Z PySem.SeqAt
structure Dom (ns vs:List Str):Prop where
 nl:ns.length≤3
 nk:∀ x∈ns,nameOk x∧(reprText x).length≤20
 vk:∀ v∈vs,valOk v∧(reprText v).length≤20
structure EfD (ns vs:List Str) (e:Ef):Prop where
 fs:∀ f∈e.fs,f.nm∈ns∧inV vs f.fc.v
 ch:∀ p∈e.ch,p.1∈ns∧inV vs p.2
 op:∀ s∈e.op,∀p∈s,p.1∈ns∧p.2∈vs
theorem zsp {ns vs:List Str} {u:Uk} (h:FsOk u.fs) (d:UkD ns vs u) {e:Ef} (he:zb6 u h=some e):EfD ns vs e:=by
 obtain ⟨e1,e2,e3,e4,e5,hp,ok⟩:=ziH h he
 refine ⟨fun f hf=>?_,fun p hp'=>?_,by rw [e1]; exact d.op⟩
 ·rw [e3] at hf
  obtain ⟨g,hg,en⟩:=zsj h hp hf
  refine ⟨by rw [← en]; exact (d.fs g hg).1,fun w hw=>?_⟩
  obtain ⟨g',hg',_,ev⟩:=zsl h hp hf hw
  exact (d.fs g' hg').2 w ev
 ·rw [e5] at hp'
  exact d.ch p (List.mem_filter.mp (show p∈List.filter _ u.ch from hp')).1
theorem EfD.same {ns vs:List Str} {a b:Ef} (h:EfEq a b) (ha:EfNd a) (hb:EfNd b) (d:EfD ns vs b):EfD ns vs a:=by
 refine ⟨by rw [h.fs]; exact d.fs,fun p hp=>?_,fun s hs p hp=>?_⟩
 ·have l1:a.ch.lookup p.1=some p.2:=(lookup_mem ha.ch).mpr hp
  rw [h.ch] at l1
  exact d.ch (p.1,p.2) ((lookup_mem hb.ch).mp l1)
 ·have m:lk s∈a.op.map lk:=List.mem_map.mpr ⟨s,hs,rfl⟩
  rw [h.op] at m
  obtain ⟨t,ht,e⟩:=List.mem_map.mp m
  have l1:lk s p.1=some p.2:=(lookup_mem (ha.op s hs)).mpr hp
  rw [← e] at l1
  exact d.op t ht (p.1,p.2) ((lookup_mem (hb.op t ht)).mp l1)
theorem zmv {β : Type} {l:List (Str × β)} {ns:List Str} (nd:(l.map (·.1)).Nodup) (h:∀ p∈l,p.1∈ns):l.length≤ns.length:=by
 have:=zfk nd fun x hx=>by
  obtain ⟨p,hp,rfl⟩:=List.mem_map.mp hx
  exact h p hp
 rwa [List.length_map] at this
structure EfS (ns:List Str) (e:Ef) (C O:Nat):Prop where
 cl:e.cl≤C
 op:e.op.length≤O
 fs:e.fs.length≤6 * (C + 3)
 fs2:ns.length≤2→e.fs.length≤4 * (C + 3)
 dep:e.dep≤C + 3
 le:e.cl≤e.dep
 lv:∀ f∈e.fs,f.fc.lvl≤C + 1
theorem EfS.same {ns:List Str} {a b:Ef} {C O:Nat} (h:EfEq a b) (s:EfS ns b C O):EfS ns a C O:=
 ⟨by rw [h.cl]; exact s.cl,by have:=congrArg List.length h.op; rw [List.length_map,List.length_map] at this; rw [this]; exact s.op,by rw [h.fs]; exact s.fs,by rw [h.fs]; exact s.fs2,by rw [h.dep]; exact s.dep,by rw [h.cl,h.dep]; exact s.le,by rw [h.fs]; exact s.lv⟩
theorem zsq {ns vs:List Str} (D:Dom ns vs) {q:List Stp} (hq:∀ s∈q,StD ns vs s) (h:FsOk (zaQ q).fs) {e:Ef} (he:zb6 (zaQ q) h=some e):EfS ns e (zdp q) (zdM q):=by
 obtain ⟨e1,e2,e3,e4,e5,hp,ok⟩:=ziH h he
 have iw:(zaQ q).Inw:=zmj q zr6
 obtain ⟨c1,c2,c3⟩:=zmu q Uk0
 have c1:(zaQ q).cl≤0 + zdp q:=c1
 have c2:(zaQ q).op.length≤0 + zdM q:=c2
 have ud:=ziL q (zmr ns vs) hq
 have lt:∀ f∈(zaQ q).fs,f.fc.lvl≤(zaQ q).cl + 1∧(f.fc.seen=false→f.fc.lvl≤(zaQ q).cl):=fun f hf=>by
  obtain ⟨a,b⟩:=iw.lv f hf
  refine ⟨?_,fun z=>(b z).2⟩
  rcases a with a | ⟨a,_⟩ <;> omega
 have inv:=zsb h (zme q zr3) he
 refine ⟨by rw [e2]; omega,by rw [e1]; omega,?_,?_,?_,inv.cl,fun f hf=>?_⟩
 ·rw [e3]
  have k:=zl5 h (L:=(zaQ q).cl + 2) fun f hf=>by have:=(lt f hf).1; omega
  have n:(zaB h).names.length≤ns.length:=zfk (zaB h).nd fun x hx=>by
   obtain ⟨g,hg,rfl⟩:=((zaB h).all x).mp hx
   exact (ud.fs g hg).1
  have nl:=D.nl
  have:(zaB h).names.length * (2 * ((zaQ q).cl + 2 + 1))≤3 * (2 * ((zaQ q).cl + 2 + 1)):=Nat.mul_le_mul_right _ (by omega)
  omega
 ·rw [e3]
  intro nl
  have k:=zl5 h (L:=(zaQ q).cl + 2) fun f hf=>by have:=(lt f hf).1; omega
  have n:(zaB h).names.length≤ns.length:=zfk (zaB h).nd fun x hx=>by
   obtain ⟨g,hg,rfl⟩:=((zaB h).all x).mp hx
   exact (ud.fs g hg).1
  have:(zaB h).names.length * (2 * ((zaQ q).cl + 2 + 1))≤2 * (2 * ((zaQ q).cl + 2 + 1)):=Nat.mul_le_mul_right _ (by omega)
  omega
 ·rw [e4]
  have up:=iw.up
  exact zrQ h (L:=(zaQ q).cl + 2) (fun f hf=>by have:=(lt f hf).1; omega) (by omega) (by omega)
 ·rw [e3] at hf
  have:=(zr5 h hp lt hf).1
  omega
section
variable {ns vs:List Str} {e:Ef} {C O:Nat}
end
end G
end
section
namespace G
open PySem PySem.Spec PyProof.Rows L2 Z PySem.SeqAt
section
variable {ns vs:List Str}
theorem zsr {e:Ef} {x:Str} (h:x∈ziF e):(∃ f∈e.fs,f.nm=x)∨∃p∈e.ch,p.1=x:=by
 unfold ziF at h
 rw [zlU,zkR,zit] at h
 rcases h with (h | ⟨f,hf,e⟩) | h
 ·cases h
 ·exact .inl ⟨f,(List.mem_filter.mp hf).1,e⟩
 ·obtain ⟨p,hp,e⟩:=List.mem_map.mp h
  exact .inr ⟨p,hp,e⟩
theorem EfD.names {e:Ef} (d:EfD ns vs e) {x:Str} (h:x∈ziF e):x∈ns:=by
 rcases zsr h with ⟨f,hf,rfl⟩ | ⟨p,hp,rfl⟩
 ·exact (d.fs f hf).1
 ·exact (d.ch p hp).1
end
end G
end
section
namespace G
open PySem PySem.Spec PyProof.Rows L2 Z PySem.SeqAt
structure SqD (ns vs:List Str) (L:Nat) (q:List Stp):Prop where
 st:∀ s∈q,StD ns vs s
 len:q.length≤L
structure IsE (p:List Stp) (o:Option Ef):Prop where
 eq:∀ h:FsOk (zaQ p).fs,EfEqO o (zb6 (zaQ p) h)
 nd:∀ e,o=some e→EfNd e
theorem SqD.mono {ns vs:List Str} {L L':Nat} {p:List Stp} (hp:SqD ns vs L p) (h:L≤L'):SqD ns vs L' p:=⟨hp.st,Nat.le_trans hp.len h⟩
theorem SqD.nil (ns vs:List Str):SqD ns vs 0 []:=⟨fun s hs=>(by cases hs),Nat.le_refl _⟩
section
variable {ns vs:List Str} (D:Dom ns vs)
include D
theorem SqD.fs {L:Nat} {q:List Stp} (h:SqD ns vs L q) (hL:L≤190):FsOk (zaQ q).fs:=
 zsg (ns:=ns) (by have:=D.nl; omega) (fun st hs=>zsn (h.st st hs)) (by have:=h.len; omega)
theorem IsE.parts {L:Nat} {q:List Stp} (h:SqD ns vs L q) (hL:L≤190) {e:Ef} (i:IsE q (some e)) :
  EfD ns vs e∧EfS ns e (zdp q) (zdM q)∧EfNd e∧∃e0,zb6 (zaQ q) (h.fs D hL)=some e0∧EfEq e e0∧EfNd e0:=by
 have hf:=h.fs D hL
 have z:=i.eq hf
 have nd:=i.nd e rfl
 cases he:zb6 (zaQ q) hf with
 | none=>rw [he] at z; exact z.elim
 | some e0=>
  rw [he] at z
  have z:EfEq e e0:=z
  have nd0:=zsi hf he
  have d0:EfD ns vs e0:=zsp hf (ziL q (zmr ns vs) h.st) he
  exact ⟨d0.same z nd nd0,(zsq D h.st hf he).same z,nd,e0,rfl,z,nd0⟩
theorem IsE.sp {L:Nat} {q:List Stp} (h:SqD ns vs L q) (hL:L≤190) {o:Option Ef} (i:IsE q o):zsd o:=fun e he=>by
 subst he
 obtain ⟨d,s,nd,_⟩:=i.parts D h hL
 have nl:=D.nl
 have l1:=sum_le q
 have l2:=h.len
 have s3:=s.op
 refine ⟨?_,fun t ht=>?_,by omega⟩
 ·have:=zmv nd.ch fun p hp=>(d.ch p hp).1
  omega
 ·have:=zmv (nd.op t ht) fun p hp=>(d.op t ht p hp).1
  omega
end
theorem EfEq.fits {a b:Ef} (h:EfEq a b) (n:FN):a.Fits n↔b.Fits n:=⟨fun f=>⟨by rw [← h.dep]; exact f.dep,by rw [← h.fs]; exact f.fs⟩,fun f=>⟨by rw [h.dep]; exact f.dep,by rw [h.fs]; exact f.fs⟩⟩
theorem EfEq.img {a b:Ef} (h:EfEq a b) (n:FN):a.img n=b.img n:=by
 unfold Ef.img
 rw [h.op,h.cl]
 congr 1
 cases n.drop b.cl with
 | nil=>rfl
 | cons s r=>
  show zgq a.ch s :: r=zgq b.ch s :: r
  congr 1
  funext w
  unfold zgq
  rw [h.ch w]
theorem EfEq.says {a b:Ef} (h:EfEq a b) {n:FN} {r:Option FN} (s:zmd b.uk n r):zmd a.uk n r:=by
 rcases s with ⟨f,e⟩ | ⟨f,e⟩
 ·refine .inl ⟨(a.uk_fits n).mpr ((h.fits n).mpr ((b.uk_fits n).mp f)),?_⟩
  rw [e,b.uk_img,a.uk_img,h.img]
 ·exact .inr ⟨fun z=>f ((b.uk_fits n).mpr ((h.fits n).mp ((a.uk_fits n).mp z))),e⟩
theorem EfEq.inv {a b:Ef} (h:EfEq a b) (nd:EfNd a) (i:b.Inv):a.Inv:=by
 refine ⟨by rw [h.cl,h.dep]; exact i.cl,fun z=>?_⟩
 rw [h.cl,h.dep]
 refine i.ch fun c=>?_
 cases e:a.ch with
 | nil=>exact z e
 | cons p r=>
  have l1:a.ch.lookup p.1=some p.2:=(lookup_mem nd.ch).mpr (by rw [e]; exact List.mem_cons_self)
  rw [h.ch,c] at l1
  cases l1
section
variable {ns vs:List Str} (D:Dom ns vs)
include D
end
end G
end
section
namespace G
open PySem PySem.Spec PyProof.Rows L2 Z PySem.SeqAt
theorem za2 {S:Sg} {M:Mem} {n:Nat} {F:DF} {da:DA} {ts:List T} {r:T} (h1:da S M = .ok ts M) (hn:ts.length=n) (h:zaG F ts M = .ok r M):zak n F [] da S M = .ok r M:=by
 have e:zak n F [] da S M=(da S M).bind fun ts M1=>if (ts ++ []).length=n then zaG F (ts ++ []) M1 else .no:=rfl
 rw [e,h1,bind_ok,List.append_nil,if_pos hn,h]
def lsL:DE:=dLc false (zar (zac gIx (zaa 0) (dC (.int 0)))) (gN 5) (zai (zac gNe (zaa 5) (zac gIx (zaa 1) (dC (.int 1))))) (dTup (zab (zaa 5) (zab (zac gIx (zac gIx (zaa 0) (dC (.int 0))) (zaa 5)) (zad)))) [5]
def lsR:DS:=zag (dIf (zai (zac gEq (zaa 2) (dC (.str "bind")))) (zcj (zaa 4) (zac gIx (zaa 1) (dC (.int 1))) (zac gIx (zaa 1) (dC (.int 2)))) (dNx)) (zbZ 4 (zav (zcb (zac (zan false) (zaq false (zab (zaa 4) (zad))) (dSl false (zaa 0) (zaM (dC (.int 1))) (zaL))))))
theorem ix0 (s:Sc) (r:Ne) (M:Mem):gIx (zam (s :: r)) (.int 0) M=some (zap s,M):=by
 show pr M (atI ((s :: r).map zap) ((0:Nat):Int))=_
 rw [at_pos]
 rfl
theorem zss {s:Sc} {r:Ne} (hs:zaO s) (hl:s.length≤1000000) {st:Stp} {x:Str} (hx:∀ S:Sg,S[1]?=some (some (enS st))→zac gIx (zaa 1) (dC (.int 1)) S [] = .ok (.str x) []) (w:Option T):lsL [some (zam (s :: r)),some (enS st),w,none,none,none] [] = .ok (.lst ((zaI s x).map fun p => .tup [.str p.1,.str p.2])) []:=by
 let S:Sg := [some (zam (s :: r)),some (enS st),w,none,none,none]
 have key:=zbQ (g:=gN 5) (tt:=zai (zac gNe (zaa 5) (zac gIx (zaa 1) (dC (.int 1))))) (de:=dTup (zab (zaa 5) (zab (zac gIx (zac gIx (zaa 0) (dC (.int 0))) (zaa 5)) (zad)))) (s0:=S) (M := []) (it:=fun p:Str × Str=>T.str p.1) (p:=fun p => !(p.1 == x)) (f:=fun p=>T.tup [.str p.1,.str p.2]) s (fun p hp=>by
  let S1:Sg := [some (zam (s :: r)),some (enS st),w,none,none,some (.str p.1)]
  have lk:=zdR hs hp
  have v5:zaa 5 S1 [] = .ok (.str p.1) []:=rfl
  have nn:zac gIx (zaa 0) (dC (.int 0)) S1 [] = .ok (zap s) []:=zaS (a:=zam (s :: r)) (b := .int 0) rfl rfl (ix0 s r [])
  refine ⟨S1,rfl,zb5 (zaS v5 (hx S1 rfl) ?_),fun _=>?_⟩
  ·unfold gNe
   simp
  ·show ((zab _ _ S1 []).bind _)=_
   rw [zax v5 (zax (zaS nn v5 (zrU lk [])) rfl)]
   rfl)
 have wk:zar (zac gIx (zaa 0) (dC (.int 0))) S [] = .ok (s.map fun p=>T.str p.1) []:=by
  have nn:zac gIx (zaa 0) (dC (.int 0)) S [] = .ok (zap s) []:=zaS (a:=zam (s :: r)) (b := .int 0) rfl rfl (ix0 s r [])
  rw [u_walk,nn]
  have ek:zca (List.map (fun p:Str × Str=>(p.1,T.str p.2)) s)=s.map fun p=>T.str p.1:=zoQ (kf:=fun p:Str × Str=>p.1) (vf:=fun p=>T.str p.2) s
  show Out.ok (zca (List.map (fun p:Str × Str=>(p.1,T.str p.2)) s)) []=_
  rw [ek]
 show lsL S []=_
 unfold lsL
 rw [u_lc,wk,bind_ok,w_kLc,if_pos (by rw [List.length_map,LIM_big]; omega)]
 have ww:zas S [5]=S:=rfl
 rw [ww,key]
 rfl
theorem zmw {s:Sc} {r:Ne} (hs:zaO s) (hl:s.length≤1000000) {st:Stp} {x:Str} (hx:∀ S:Sg,S[1]?=some (some (enS st))→zac gIx (zaa 1) (dC (.int 1)) S [] = .ok (.str x) []) (w:Option T) :
  zaw 4 (dCall (zdd true) (zab lsL (zad))) [some (zam (s :: r)),some (enS st),w,none,none,none] [] = .nx [some (zam (s :: r)),some (enS st),w,none,some (.cel 0),none] [.live (zap (zaI s x))]:=by
 refine zcr (t := .cel 0) ?_
 show ((zab lsL zad _ []).bind _)=_
 rw [zax (zss hs hl hx w) rfl,bind_ok]
 have e:=zhO (kf:=fun p:Str × Str=>p.1) (vf:=fun p=>T.str p.2) (zaI s x) [] (zf5 hs x) (by simp)
 have e2:zcB [] ((zaI s x).map fun p=>(p.1,T.str p.2))=(zaI s x).map fun p=>(p.1,T.str p.2):=by
  unfold zcB
  rw [List.foldl_map]
  exact e.trans (by simp)
 have pp:∀ s:Sc,zdB (s.map fun p=>T.tup [.str p.1,.str p.2])=some (s.map fun p=>(p.1,T.str p.2)):=fun s=>by
  induction s with
  | nil=>rfl
  | cons p r ih=>rw [List.map_cons]; unfold zdB; rw [ih]; rfl
 show lift (match zdB ((zaI s x).map fun p=>T.tup [.str p.1,.str p.2]) with
  | some ps=>some (mk true (.dct (zcB [] ps)) [])
  | none=>none)=_
 rw [pp]
 simp only
 rw [e2]
 rfl
theorem zmx {t:Sc} {r:Ne} {s:Sc} {a1 a2:Option T} (hr:r.length≤1000000):zbZ 4 (zav (zcb (zac (zan false) (zaq false (zab (zaa 4) (zad))) (dSl false (zaa 0) (zaM (dC (.int 1))) (zaL))))) [some (zam (s :: r)),a1,a2,none,some (.cel 0),none] [.live (zap t)] = .rt (zam (t :: r)) [.dead]:=by
 have fz:frz za3 (.cel 0) [.live (zap t)]=some (zap t,[.dead]):=zhQ (zf6 t) (zf7 t)
 unfold zbZ
 show (match frz za3 (.cel 0) [.live (zap t)] with
  | some (t',M')=>zav (zcb (zac (zan false) (zaq false (zab (zaa 4) (zad))) (dSl false (zaa 0) (zaM (dC (.int 1))) (zaL)))) ([some (zam (s :: r)),a1,a2,none,some (T.cel 0),none].set 4 (some t')) M'
  | none => .no)=_
 rw [fz]
 simp only
 refine zcf ?_
 have e1:zac (zan false) (zaq false (zab (zaa 4) (zad))) (dSl false (zaa 0) (zaM (dC (.int 1))) (zaL)) ([some (zam (s :: r)),a1,a2,none,some (T.cel 0),none].set 4 (some (zap t))) [.dead] = .ok (zam (t :: r)) [.dead]:=by
  refine zaS (a := .lst [zap t]) (b:=zam r) rfl ?_ ?_
  ·show lift (some (mk false (.lst (zaZ ((s :: r).map zap) (some ((1:Nat):Int)) none)) [.dead]))=_
   rw [cut_lo]
   rfl
  ·show (if [zap t].length + (r.map zap).length≤LIM then some (mk false (.lst ([zap t] ++ r.map zap)) [.dead]) else none)=_
   rw [if_pos (by rw [List.length_map,LIM_big]; simp; omega)]
   rfl
 unfold zcb
 rw [e1,bind_ok,zhR (zbT _) (by have:=zh7 (t :: r); exact Nat.le_trans this (by omega))]
 rfl
theorem zst (n:Ne) (st:Stp) (h:SzOk n 1) (hl:n.length < 100000) (hs:∀ s∈n,s.length≤100000) (M:Mem):zaG zh1 [zam n,enS st] M = .ok (zaT (after n st)) M:=by
 cases st with
 | op=>exact zew n _ (fun _ _ e=>by cases e) (fun _ e=>by cases e) hl M
 | cl=>exact zew n _ (fun _ _ e=>by cases e) (fun _ e=>by cases e) hl M
 | expect x v=>exact zew n _ (fun _ _ e=>by cases e) (fun _ e=>by cases e) hl M
 | free x=>exact zew n _ (fun _ _ e=>by cases e) (fun _ e=>by cases e) hl M
 | owned x v=>exact zew n _ (fun _ _ e=>by cases e) (fun _ e=>by cases e) hl M
 | unowned x=>exact zew n _ (fun _ _ e=>by cases e) (fun _ e=>by cases e) hl M
 | bind x v=>
  cases n with
  | nil=>
   refine zaA ⟨[],zbz [some (zam []),some (enS (.bind x v)),none,none,none,none] rfl ?_⟩ (by simp [zau,zbT,zdH]) (zep _)
   kernel_rfl
  | cons s r=>
   refine zaA ⟨[.dead],zbz [some (zam (s :: r)),some (enS (.bind x v)),none,none,none,none] rfl ?_⟩ (by simp [zau,zbT,zdH]) (zep _)
   have h0:zc5 [some (zam (s :: r)),some (enS (.bind x v)),none,none,none,none] []=zag (zaw 4 (dCall (zdd true) (zab lsL (zad)))) lsR [some (zam (s :: r)),some (enS (.bind x v)),some (.str "bind"),none,none,none] []:=by kernel_rfl
   have q:=h.sc s List.mem_cons_self
   have hx:∀ S:Sg,S[1]?=some (some (enS (.bind x v)))→zac gIx (zaa 1) (dC (.int 1)) S [] = .ok (.str x) []:=fun S hS=>zaS (a:=enS (.bind x v)) (b := .int 1) (by unfold zaa; rw [hS]) rfl rfl
   have sl:=hs s List.mem_cons_self
   rw [h0,zba (zmw q.1 (by omega) hx _)]
   have dl:(zaI s x).length≤s.length:=List.length_filter_le ..
   have hp:putT ((zaI s x).map fun p=>(p.1,T.str p.2)) x (.str v)=(zbs s x v).map fun p=>(p.1,T.str p.2):=by
    rw [zfW (by rw [List.map_map]; exact zh2 s x)]
    unfold zbs zaI
    simp
   have q5:dIf (zai (zac gEq (zaa 2) (dC (.str "bind")))) (zcj (zaa 4) (zac gIx (zaa 1) (dC (.int 1))) (zac gIx (zaa 1) (dC (.int 2)))) (dNx) [some (zam (s :: r)),some (enS (.bind x v)),some (.str "bind"),none,some (.cel 0),none] [.live (zap (zaI s x))] = .nx [some (zam (s :: r)),some (enS (.bind x v)),some (.str "bind"),none,some (.cel 0),none] [.live (zap (zbs s x v))]:=by
    rw [zcg (k:=true) (by kernel_rfl),if_pos rfl]
    unfold zcj
    have ev:zac gIx (zaa 1) (dC (.int 2)) [some (zam (s :: r)),some (enS (.bind x v)),some (.str "bind"),none,some (.cel 0),none] [.live (zap (zaI s x))] = .ok (.str v) [.live (zap (zaI s x))]:=zaS (a:=enS (.bind x v)) (b := .int 2) rfl rfl rfl
    rw [ev,zb4]
    show (match zcY (.cel 0) (.str x) (.str v) [.live (zap (zaI s x))] with
     | some M4=>OutS.nx _ M4
     | none=>OutS.no)=_
    have eg:zcY (.cel 0) (.str x) (.str v) [.live (zap (zaI s x))]=some [.live (zap (zbs s x v))]:=by
     have hlt:(zaI s x).length < 16777216:=by omega
     have e0:zap (zbs s x v) = .dct ((zbs s x v).map fun p=>(p.1,T.str p.2)):=rfl
     rw [e0,← hp]
     unfold zcY
     rw [show Z.cellOf [Cell.live (zap (zaI s x))] (.cel 0)=some (0,zap (zaI s x)) from rfl]
     show (if ((zaI s x).map fun p=>(p.1,T.str p.2)).length < LIM then some ([Cell.live (zap (zaI s x))].set 0 (.live (.dct (putT ((zaI s x).map fun p=>(p.1,T.str p.2)) x (.str v))))) else none)=_
     rw [if_pos (by rw [List.length_map,LIM_big]; exact hlt)]
     rfl
    rw [eg]
   unfold lsR
   rw [zba q5]
   exact zmx (by have:=hl; simp at this; omega)
 | drop x=>
  cases n with
  | nil=>
   refine zaA ⟨[],zbz [some (zam []),some (enS (.drop x)),none,none,none,none] rfl ?_⟩ (by simp [zau,zbT,zdH]) (zep _)
   kernel_rfl
  | cons s r=>
   refine zaA ⟨[.dead],zbz [some (zam (s :: r)),some (enS (.drop x)),none,none,none,none] rfl ?_⟩ (by simp [zau,zbT,zdH]) (zep _)
   have h0:zc5 [some (zam (s :: r)),some (enS (.drop x)),none,none,none,none] []=zag (zaw 4 (dCall (zdd true) (zab lsL (zad)))) lsR [some (zam (s :: r)),some (enS (.drop x)),some (.str "drop"),none,none,none] []:=by kernel_rfl
   have q:=h.sc s List.mem_cons_self
   have hx:∀ S:Sg,S[1]?=some (some (enS (.drop x)))→zac gIx (zaa 1) (dC (.int 1)) S [] = .ok (.str x) []:=fun S hS=>zaS (a:=enS (.drop x)) (b := .int 1) (by unfold zaa; rw [hS]) rfl rfl
   have sl:=hs s List.mem_cons_self
   rw [h0,zba (zmw q.1 (by omega) hx _)]
   have q5:dIf (zai (zac gEq (zaa 2) (dC (.str "bind")))) (zcj (zaa 4) (zac gIx (zaa 1) (dC (.int 1))) (zac gIx (zaa 1) (dC (.int 2)))) (dNx) [some (zam (s :: r)),some (enS (.drop x)),some (.str "drop"),none,some (.cel 0),none] [.live (zap (zaI s x))] = .nx [some (zam (s :: r)),some (enS (.drop x)),some (.str "drop"),none,some (.cel 0),none] [.live (zap (zaI s x))]:=by
    rw [zcg (k:=false) (by kernel_rfl)]
    rfl
   unfold lsR
   rw [zba q5]
   exact zmx (by have:=hl; simp at this; omega)
structure NSz (n:Ne) (k:Nat):Prop where
 len:n.length + k≤5000
 sc:∀ s∈n,zaO s∧s.length + k≤5000
theorem NSz.sz {n:Ne} {k:Nat} (h:NSz n k):SzOk n k:=⟨by have:=h.len; rw [LIM_big]; omega,fun s hs=>⟨(h.sc s hs).1,by have:=(h.sc s hs).2; rw [LIM_big]; omega⟩⟩
theorem NSz.mono {n:Ne} {j k:Nat} (h:NSz n k) (hj:j≤k):NSz n j:=⟨by have:=h.len; omega,fun s hs=>⟨(h.sc s hs).1,by have:=(h.sc s hs).2; omega⟩⟩
theorem NSz.after {n m:Ne} {k:Nat} {st:Stp} (h:NSz n (k + 1)) (e:G.after n st=some m):NSz m k:=by
 have hd:∀ s x,(zaI s x).length≤s.length:=fun s x=>List.length_filter_le ..
 have h0:=h.mono (Nat.le_succ k)
 cases st with
 | op=>
  simp only [G.after,Option.some.injEq] at e
  subst e
  refine ⟨by have:=h.len; simp only [List.length_cons]; omega,fun s hs=>?_⟩
  rcases List.mem_cons.mp hs with rfl | hs
  ·exact ⟨by simp [zaO],by have:=h.len; simp only [List.length_nil]; omega⟩
  ·exact h0.sc s hs
 | expect x v=>
  simp only [G.after] at e
  split at e
  ·cases e; exact h0
  ·cases e
 | free x=>
  simp only [G.after] at e
  split at e
  ·cases e; exact h0
  ·cases e
 | cl=>
  cases n with
  | nil=>simp [G.after] at e
  | cons s r=>
   simp only [G.after,Option.some.injEq] at e
   subst e
   exact ⟨by have:=h.len; simp only [List.length_cons] at this; omega,fun s hs=>h0.sc s (List.mem_cons_of_mem _ hs)⟩
 | owned x v=>
  cases n with
  | nil=>simp [G.after] at e
  | cons s r=>
   simp only [G.after] at e
   split at e
   ·cases e; exact h0
   ·cases e
 | unowned x=>
  cases n with
  | nil=>simp [G.after] at e
  | cons s r=>
   simp only [G.after] at e
   split at e
   ·cases e; exact h0
   ·cases e
 | bind x v=>
  cases n with
  | nil=>simp [G.after] at e
  | cons s r=>
   simp only [G.after,Option.some.injEq] at e
   subst e
   refine ⟨by have:=h0.len; simpa using this,fun t ht=>?_⟩
   rcases List.mem_cons.mp ht with rfl | ht
   ·have q:=h.sc s (List.mem_cons_self ..)
    refine ⟨zqk q.1 x v,?_⟩
    have:=hd s x
    have e2:(zbs s x v).length=(zaI s x).length + 1:=by unfold zbs zaI; simp
    have:=q.2
    omega
   ·exact h0.sc t (List.mem_cons_of_mem _ ht)
 | drop x=>
  cases n with
  | nil=>simp [G.after] at e
  | cons s r=>
   simp only [G.after,Option.some.injEq] at e
   subst e
   refine ⟨by have:=h0.len; simpa using this,fun t ht=>?_⟩
   rcases List.mem_cons.mp ht with rfl | ht
   ·have q:=h0.sc s (List.mem_cons_self ..)
    exact ⟨zf5 q.1 x,by have:=hd s x; have:=q.2; omega⟩
   ·exact h0.sc t (List.mem_cons_of_mem _ ht)
theorem NSz.step {n:Ne} {k:Nat} (h:NSz n (k + 1)) (st:Stp) (M:Mem):zaG zh1 [zam n,enS st] M = .ok (zaT (G.after n st)) M:=
 zst n st (h.mono (by omega)).sz (by have:=h.len; omega) (fun s hs=>by have:=(h.sc s hs).2; omega) M
end G
end
section
namespace G
open PySem PySem.Spec PyProof.Rows L2 Z PySem.SeqAt
end G
end
section
namespace G
open PySem PySem.Spec PyProof.Rows L2 Z PySem.SeqAt
def iT (ds:List Int):T := .lst (ds.map T.int)
theorem zmy (ds:List Int):zal (iT ds)=true:=zqj ds
structure Dg (m:Nat) (ds:List Int):Prop where
 len:m≤ds.length
 pos:∀ d∈ds,0≤d
theorem zsu {n:Nat} {ds:List Int} (h:DigOk ds (List.replicate n 420)):Dg n ds:=by
 have hl:ds.length=n:=by have:=h.len; simpa using this
 refine ⟨Nat.le_of_eq hl.symm,fun d hd=>?_⟩
 obtain ⟨i,hi,e⟩:=List.getElem_of_mem hd
 exact (h.dig i d 420 (by rw [List.getElem?_eq_getElem hi,e]) (by rw [List.getElem?_replicate,if_pos (by omega)])).1
theorem Dg.drop {m k:Nat} {ds:List Int} (h:Dg m ds):Dg (m - k) (ds.drop k):=⟨by rw [List.length_drop]; have:=h.len; omega,fun d hd=>h.pos d (List.mem_of_mem_drop hd)⟩
theorem Dg.mono {m k:Nat} {ds:List Int} (h:Dg m ds) (hk:k≤m):Dg k ds:=⟨Nat.le_trans hk h.len,h.pos⟩
theorem ixI {ds:List Int} (n:Nat) (h:n < ds.length) (M:Mem):gIx (iT ds) (.int (n:Int)) M=some (.int ds[n],M):=by
 unfold iT
 rw [ix_lst',at_pos,List.getElem?_map,List.getElem?_eq_getElem h]; rfl
theorem slI {ds:List Int} (n:Nat) (M:Mem):gSl false (iT ds) (some (n:Int)) none M=some (iT (ds.drop n),M):=by
 unfold iT
 rw [sl_lst',cut_lo,List.map_drop]
 rfl
theorem ziN {S:Sg} {M:Mem} {dd dx:DE} {ds:List Int} {j:Nat} (h1:dd S M = .ok (iT ds) M) (h2:dx S M = .ok (.int (j:Int)) M):dSl false dd (zaM dx) zaL S M = .ok (iT (ds.drop j)) M:=by
 rw [u_sl,h1,bind_ok,w_kSl1]
 show (((dx S M).bind _).bind _)=_
 rw [h2,bind_ok]
 show lift (gSl false (iT ds) (some (j:Int)) none M)=_
 rw [slI]
 rfl
theorem flat_rep (n:Nat) (a:Int):(List.replicate n [T.int a]).flatten=(List.replicate n a).map T.int:=by
 induction n with
 | zero=>rfl
 | succ n ih=>rw [List.replicate_succ,List.flatten_cons,ih,List.replicate_succ]; rfl
theorem v_mod {S:Sg} {M:Mem} {d1:DE} {a:Int} {b:Nat} (hb:0 < b) (hf:zbX (b:Int)=true) (h:d1 S M = .ok (.int a) M):∃ m:Nat,m < b∧zac zaK d1 (dC (.int (b:Int))) S M = .ok (.int (m:Int)) M:=by
 have h0:=zbS a (b:=(b:Int)) (by omega)
 obtain ⟨m,e⟩:=Int.eq_ofNat_of_zero_le h0.1
 refine ⟨m,by have:=h0.2; omega,zaS h (show dC (.int (b:Int)) S M = .ok (.int (b:Int)) M from rfl) ?_⟩
 have hz:¬ (b:Int)=0:=by omega
 simp [hf]
 first
 | exact ⟨hb,e⟩
 | exact e
theorem ziO {S:Sg} {M:Mem} {d:DE} {ds:List Int} {m:Nat} (h:d S M = .ok (iT ds) M) (hd:Dg m ds) {i b:Nat} (hi:i < m) (hb:0 < b) (hf:zbX (b:Int)=true):∃ k:Nat,k < b∧zac zaK (zac gIx d (dC (.int (i:Int)))) (dC (.int (b:Int))) S M = .ok (.int (k:Int)) M:=
 v_mod hb hf (zaS h (show dC (.int (i:Int)) S M = .ok (.int (i:Int)) M from rfl) (ixI i (by have:=hd.len; omega) M))
theorem zgA {g:DG} {b:DS} {M:Mem} {I:Sg→Prop}:∀ (xs:List T) (s:Sg),I s→(∀ t∈xs,∀s,I s→∃s1,g t s=some s1∧∃s',b s1 M = .nx s' M∧I s')→∃s',forL g b xs s M = .nx s' M∧I s'
 | [],s,hs,_=>⟨s,rfl,hs⟩
 | t :: r,s,hs,h=>by
  obtain ⟨s1,e1,s2,e2,hs2⟩:=h t List.mem_cons_self s hs
  obtain ⟨s3,e3,hs3⟩:=zgA r s2 hs2 fun u hu=>h u (List.mem_cons_of_mem _ hu)
  refine ⟨s3,?_,hs3⟩
  unfold forL
  rw [e1]
  simp only
  rw [e2]
  exact e3
theorem zsv {m:Nat} (hm:m < 64) {S:Sg} {ns:List Int} (hl:ns.length≤63) (e0:S[0]?=some (some (.fz (ns.map T.int)))):∃ xs:List T,zfa (m:Int) S [] = .ok xs []∧∀t∈xs,∃(k:Nat) (c:Int),k < 65∧t = .tup [.int (k:Int),.int c]:=by
 have cutm:∀ xs:List T,zaZ xs none (some (m:Int))=xs.take m:=fun xs=>cut_hi xs m
 have di:zfa (m:Int) S [] = .ok (zbj ((zel m ns).map T.int)) []:=by
  unfold zfa
  cases ns with
  | nil=>simp [e0,zbg,cutm,zel]
  | cons a r=>
   have e:(zel m (a :: r)).map T.int=((a :: r).map T.int).take m:=by
    unfold zel
    rw [if_neg (by simp),List.append_nil,List.map_take]
   rw [e]
   have hl2:min m (r.length + 1)≤16777216:=by omega
   simp [e0,zbg,cutm,hl2]
 refine ⟨_,di,fun t ht=>?_⟩
 rw [zoS] at ht
 obtain ⟨p,hp,rfl⟩:=List.mem_map.mp ht
 obtain ⟨c,i⟩:=p
 have h1:=(List.mem_zipIdx' hp).1
 have h2:=zqi m hm ns
 exact ⟨i,c,by omega,rfl⟩
theorem zsw (N:Nat) (hN:N≤1000) (M:Mem):za7 false (.lst [.int 420]) (.int (N:Int)) M=some (.lst ((List.replicate N 420).map T.int),M):=by
 have z:=flat_rep N 420
 have s1:N≤16777216:=by omega
 have s2:inR (N:Int)=true:=zdE (by omega)
 simp [-List.reduceReplicate,z,s1,s2]
 omega
end G
end
section
namespace G
open PySem PySem.Spec PyProof.Rows L2 Z PySem.SeqAt
def zdN (c sg:Str):Bool := !(Builtin.Str.occurrences sg c 0 sg.length 1).isEmpty
def chs (x:Str):List Str:=x.cps.toList.map fun c=>(⟨#[c]⟩:Str)
theorem zsx (x:Str):zcC x=(chs x).map T.str:=by simp [zcC,chs]
theorem zmz (x:Str):(chs x).length=x.length:=by
 unfold chs
 rw [List.length_map,Array.length_toList]
 rfl
def txB (sg:Str):T→Bool
 | .str x=>(decide (1≤x.length) && decide (x.length≤8)) && (chs x).all (fun c=>zdN c sg)
 | _=>false
def okV:T→Bool
 | .non | .bl _ | .int _=>true
 | .str x=>Nat.ble x.length 1000
 | .tup _ | .lst _ | .dct _=>true
 | _=>false
theorem zmA {S:Sg} {M:Mem} {d e:DE} (h:d S M = .ok (.bl false) M):zbn d e S M = .ok (.bl false) M:=by unfold zbn; rw [h]; rfl
theorem zmB {S:Sg} {M:Mem} {d e:DE} {a b:Bool} (h:d S M = .ok (.bl a) M) (h2:e S M = .ok (.bl b) M):zbn d e S M = .ok (.bl (a && b)) M:=by
 cases a with
 | true=>rw [zfj h,h2]; rfl
 | false=>rw [zmA h]; rfl
theorem len_str {x:Str} (h:x.length≤1000) (M:Mem):za0 [.str x] M=some (.int (x.length:Int),M):=by
 show (if x.length≤LIM then some (T.int (x.length:Int),M) else none)=_
 rw [if_pos (by rw [LIM_big]; omega)]
theorem zmC (a b:Nat) (M:Mem):gLe (.int (a:Int)) (.int (b:Int)) M=some (.bl (decide (a≤b)),M):=by
 show some (T.bl (decide ((a:Int)≤(b:Int))),M)=_
 congr 3
 simp
theorem zmD {S:Sg} {M:Mem} {x:Str} (h:x.length≤1000) (hv:zaa 0 S M = .ok (.str x) M):zdx gLe gLe (dC (.int 1)) (dCall za0 (zab (zaa 0) (zad))) (dC (.int 8)) S M = .ok (.bl (decide (1≤x.length) && decide (x.length≤8))) M:=by
 have c:dCall za0 (zab (zaa 0) (zad)) S M = .ok (.int (x.length:Int)) M:=zbV (zax hv rfl) (len_str h M)
 have e1:=zmC 1 x.length M
 have e2:=zmC x.length 8 M
 rw [u_chn,u_c,bind_ok,w_kChn1,c,bind_ok,w_kChn2]
 rw [show gLe (.int 1) (.int (x.length:Int)) M=some (.bl (decide (1≤x.length)),M) from e1]
 cases decide (1≤x.length) with
 | false=>rfl
 | true=>
  rw [lift_some,bind_ok]
  show ((dC (.int 8)) S M).bind (zd6 gLe (.int (x.length:Int)))=_
  rw [u_c,bind_ok,w_kOp2]
  rw [show gLe (.int (x.length:Int)) (.int 8) M=some (.bl (decide (x.length≤8)),M) from e2]
  rfl
theorem walk_str {S:Sg} {M:Mem} {d:DE} {x:Str} (h:d S M = .ok (.str x) M):zar d S M = .ok ((chs x).map T.str) M:=by
 rw [u_walk,h]
 show toA (zcZ (.str x)) M=_
 rw [← zsx]
 rfl
theorem zmE {t:T} (sg:Str) (h:okV t=true) (hc:zal t=true) (M:Mem):zaG zea [t,.str sg] M = .ok (.bl (txB sg t)) M:=by
 have n:zau [t,.str sg]=true:=by simp [zau,zal,hc]
 cases t with
 | str x=>
  have hx:x.length≤1000:=Nat.le_of_ble_eq_true h
  let S:Sg := [some (.str x),some (.str sg),none]
  refine zaA ⟨[],zbz S rfl (zcf ?_)⟩ n rfl
  have i1:dCall za5 (zab (zaa 0) (zab (dC (.ty "str")) (zad))) S [] = .ok (.bl true) []:=rfl
  rw [zfj i1]
  have c:=zmD (S:=S) (M := []) hx rfl
  have key:=zbQ (g:=gN 2) (tt:=zaJ) (de:=zac gIn (zaa 2) (zaa 1)) (s0:=S) (M := []) (it:=T.str) (p:=fun _=>true) (f:=fun y=>T.bl (zdN y sg)) (chs x) (fun y hy=>⟨S.set 2 (some (.str y)),rfl,rfl,fun _=>zaS (show zaa 2 (S.set 2 (some (.str y))) [] = .ok (.str y) [] from rfl) (show zaa 1 (S.set 2 (some (.str y))) [] = .ok (.str sg) [] from rfl) rfl⟩)
  rw [List.filter_eq_self.mpr fun _ _=>rfl] at key
  have w:zas S [2]=S:=rfl
  have e:dLc false (zar (zaa 0)) (gN 2) (zaJ) (zac gIn (zaa 2) (zaa 1)) [2] S [] = .ok (.lst ((chs x).map fun y=>T.bl (zdN y sg))) []:=by
   rw [u_lc,walk_str (show zaa 0 S [] = .ok (.str x) [] from rfl),bind_ok,w_kLc,if_pos (by rw [List.length_map,zmz,LIM_big]; omega),w,key]
   rfl
  exact zmB c (zbV (zax e rfl) (all_map _ _ []))
 | non=>exact zaA ⟨[],by kernel_rfl⟩ n rfl
 | bl b=>exact zaA ⟨[],by kernel_rfl⟩ n rfl
 | int i=>exact zaA ⟨[],by kernel_rfl⟩ n rfl
 | tup xs=>exact zaA ⟨[],by kernel_rfl⟩ n rfl
 | lst xs=>exact zaA ⟨[],by kernel_rfl⟩ n rfl
 | dct xs=>exact zaA ⟨[],by kernel_rfl⟩ n rfl
 | _=>cases h
theorem eq_nil (ys:List Str) (M:Mem):gEq (.lst (ys.map T.str)) (.lst []) M=some (.bl ys.isEmpty,M):=by
 cases ys <;> rfl
theorem zsy {S:Sg} {M:Mem} {d:DE} {b:Bool} (h:d S M = .ok (.bl b) M):zeX d S M = .ok b M:=by
 unfold zeX
 rw [h]
 rfl
theorem zmF (f:Str→Bool):∀ ys:List Str,(ys.filter fun y => !f y).isEmpty=ys.all f
 | []=>rfl
 | y :: r=>by
  cases e:f y with
  | true=>
   rw [List.filter_cons_of_neg (by simp [e]),zmF f r]
   simp [e]
  | false=>
   rw [List.filter_cons_of_pos (by simp [e])]
   simp [e]
theorem zmG {t:T} (sg:Str) (h:okV t=true) (hc:zal t=true) (M:Mem):zaG zei [t,.str sg] M = .ok (.bl (txB sg t)) M:=by
 have n:zau [t,.str sg]=true:=by simp [zau,zal,hc]
 cases t with
 | str x=>
  have hx:x.length≤1000:=Nat.le_of_ble_eq_true h
  let S:Sg := [some (.str x),some (.str sg),none]
  have i1:dCall za5 (zab (zaa 0) (zab (dC (.ty "str")) (zad))) S [] = .ok (.bl true) []:=rfl
  have c:=zmD (S:=S) (M := []) hx rfl
  have key:=zbQ (g:=gN 2) (tt:=zai (zac zbi (zaa 2) (zaa 1))) (de:=zaa 2) (s0:=S) (M := []) (it:=T.str) (p:=fun y => !zdN y sg) (f:=T.str) (chs x) (fun y hy=>⟨S.set 2 (some (.str y)),rfl,zb5 (zaS (show zaa 2 (S.set 2 (some (.str y))) [] = .ok (.str y) [] from rfl) (show zaa 1 (S.set 2 (some (.str y))) [] = .ok (.str sg) [] from rfl) rfl),fun _=>rfl⟩)
  have w:zas S [2]=S:=rfl
  have e:dLc false (zar (zaa 0)) (gN 2) (zai (zac zbi (zaa 2) (zaa 1))) (zaa 2) [2] S [] = .ok (.lst (((chs x).filter fun y => !zdN y sg).map T.str)) []:=by
   rw [u_lc,walk_str (show zaa 0 S [] = .ok (.str x) [] from rfl),bind_ok,w_kLc,if_pos (by rw [List.length_map,zmz,LIM_big]; omega),w,key]
   rfl
  have t1:=ziE (zdo (zb5 i1)) (zdo (zsy c))
  have last:zav (zac gEq (dLc false (zar (zaa 0)) (gN 2) (zai (zac zbi (zaa 2) (zaa 1))) (zaa 2) [2]) (zaq false (zad))) S [] = .rt (.bl ((chs x).all fun y=>zdN y sg)) []:=by
   refine zcf (zaS e (show zaq false (zad) S [] = .ok (.lst []) [] from rfl) ?_)
   rw [eq_nil,zmF]
  rw [show txB sg (.str x)=((decide (1≤x.length) && decide (x.length≤8)) && (chs x).all fun c=>zdN c sg) from rfl]
  refine zaA ⟨[],zbz S rfl ?_⟩ n rfl
  unfold zeh
  cases hb:(decide (1≤x.length) && decide (x.length≤8)) with
  | true=>
   rw [hb] at t1
   rw [zba (show dIf _ (zav (dC (.bl false))) dNx S [] = .nx S [] from by rw [zcg t1]; rfl),last,Bool.true_and]
  | false=>
   rw [hb] at t1
   exact zl8 (show dIf _ (zav (dC (.bl false))) dNx S [] = .rt (.bl false) [] from by rw [zcg t1]; rfl)
 | non=>exact zaA ⟨[],by kernel_rfl⟩ n rfl
 | bl b=>exact zaA ⟨[],by kernel_rfl⟩ n rfl
 | int i=>exact zaA ⟨[],by kernel_rfl⟩ n rfl
 | tup xs=>exact zaA ⟨[],by kernel_rfl⟩ n rfl
 | lst xs=>exact zaA ⟨[],by kernel_rfl⟩ n rfl
 | dct xs=>exact zaA ⟨[],by kernel_rfl⟩ n rfl
 | _=>cases h
def nmB:T→Bool:=txB "abcdefghijklmnopqrstuvwxyz"
def vuB:T→Bool:=txB "abcdefghijklmnopqrstuvwxyz0123456789"
section
variable {t:T} (h:okV t=true) (hc:zal t=true) (M:Mem)
include h hc
theorem qi:zaG zbr [t] M = .ok (.bl (nmB t)) M:=
 zaA ⟨[],zbz [some t] rfl (zcf (za2 (ts := [t,.str "abcdefghijklmnopqrstuvwxyz"]) rfl rfl (zmE _ h hc [])))⟩ (by simp [zau,hc]) rfl
theorem q12:zaG zbw [t] M = .ok (.bl (vuB t)) M:=
 zaA ⟨[],zbz [some t] rfl (zcf (za2 (ts := [t,.str "abcdefghijklmnopqrstuvwxyz0123456789"]) rfl rfl (zmE _ h hc [])))⟩ (by simp [zau,hc]) rfl
theorem qr:zaG zb2 [t] M = .ok (.bl (nmB t)) M:=
 zaA ⟨[],zbz [some t] rfl (zcf (za2 (ts := [t,.str "abcdefghijklmnopqrstuvwxyz"]) rfl rfl (zmG _ h hc [])))⟩ (by simp [zau,hc]) rfl
theorem q1g:zaG zcc [t] M = .ok (.bl (vuB t)) M:=
 zaA ⟨[],zbz [some t] rfl (zcf (za2 (ts := [t,.str "abcdefghijklmnopqrstuvwxyz0123456789"]) rfl rfl (zmG _ h hc [])))⟩ (by simp [zau,hc]) rfl
end
end G
end
section
namespace G
open PySem PySem.Spec PyProof.Rows L2 Z PySem.SeqAt
def scB:T→Bool
 | .dct ks=>ks.all (fun p=>nmB (.str p.1) && vuB p.2)
 | .dn ks _=>ks.all nmB
 | _=>false
def okS:T→Prop
 | .dct ks=>ks.length≤1000∧∀p∈ks,ks.lookup p.1=some p.2∧p.1.length≤1000∧okV p.2=true∧zal p.2=true
 | .dn ks us => ∃ k u,ks = [k]∧us = [u]∧okV k=true∧zal k=true∧nmB k=false
 | .non | .bl _ | .int _ | .str _ | .tup _ | .lst _=>True
 | _=>False
theorem zgB {x:Str} (h:x.length≤1000):okV (.str x)=true:=Nat.ble_eq_true_of_le h
theorem zsz {S:Sg} {M:Mem} {d e:DT} (h:d S M = .ok true M):zbv d e S M = .ok true M:=by
 unfold zbv
 rw [h]
 rfl
theorem zsA (b:Bool) (M:Mem):zdc [.lst [.bl b]] M=some (.bl b,M):=by
 have:=all_map (fun c:Bool=>c) [b] M
 simpa using this
theorem q31 {t:T} (h:okS t) (hc:zal t=true) (M:Mem):zaG zeg [t] M = .ok (.bl (scB t)) M:=by
 have n:zau [t]=true:=by simp [zau,hc]
 cases t with
 | dct ks=>
  let S:Sg := [some (.dct ks),none]
  refine zaA ⟨[],zbz S rfl (zcf ?_)⟩ n rfl
  have i1:dCall zcn (zab (zaa 0) (zab (dC (.ty "dict")) (zad))) S [] = .ok (.bl true) []:=rfl
  rw [zfj i1]
  have key:=zbQ (g:=gN 1) (tt:=zaJ) (de:=zbn (zak 1 zbr [] (zab (zaa 1) (zad))) (zak 1 zbw [] (zab (zac gIx (zaa 0) (zaa 1)) (zad)))) (s0:=S) (M := []) (it:=fun p:Str × T=>T.str p.1) (p:=fun _=>true) (f:=fun p=>T.bl (nmB (.str p.1) && vuB p.2)) ks (fun p hp=>by
   obtain ⟨h1,h2,h3,h4⟩:=h.2 p hp
   let S1:Sg:=S.set 1 (some (.str p.1))
   refine ⟨S1,rfl,rfl,fun _=>?_⟩
   have c1:zak 1 zbr [] (zab (zaa 1) (zad)) S1 [] = .ok (.bl (nmB (.str p.1))) []:=za2 (ts := [.str p.1]) rfl rfl (qi (zgB h2) rfl [])
   have ix:zac gIx (zaa 0) (zaa 1) S1 [] = .ok p.2 []:=zaS (show zaa 0 S1 [] = .ok (.dct ks) [] from rfl) (show zaa 1 S1 [] = .ok (.str p.1) [] from rfl) (by rw [ix_dct',h1]; rfl)
   have c2:zak 1 zbw [] (zab (zac gIx (zaa 0) (zaa 1)) (zad)) S1 [] = .ok (.bl (vuB p.2)) []:=za2 (zax ix rfl) rfl (q12 h3 h4 [])
   exact zmB c1 c2)
  rw [List.filter_eq_self.mpr fun _ _=>rfl] at key
  have w:zas S [1]=S:=rfl
  have dw:zar (zaa 0) S [] = .ok (ks.map fun p:Str × T=>T.str p.1) []:=rfl
  have e:dLc false (zar (zaa 0)) (gN 1) (zaJ) (zbn (zak 1 zbr [] (zab (zaa 1) (zad))) (zak 1 zbw [] (zab (zac gIx (zaa 0) (zaa 1)) (zad)))) [1] S [] = .ok (.lst (ks.map fun p=>T.bl (nmB (.str p.1) && vuB p.2))) []:=by
   rw [u_lc,dw,bind_ok,w_kLc,if_pos (by rw [List.length_map,LIM_big]; have:=h.1; omega),w,key]
   rfl
  exact zbV (zax e rfl) (all_map _ _ [])
 | dn ks us=>
  obtain ⟨k,u,rfl,rfl,h1,h2,h3⟩:=h
  let S:Sg := [some (.dn [k] [u]),none]
  refine zaA ⟨[],zbz S rfl (zcf ?_)⟩ n rfl
  have i1:dCall zcn (zab (zaa 0) (zab (dC (.ty "dict")) (zad))) S [] = .ok (.bl true) []:=rfl
  rw [zfj i1]
  have key:=zbQ (g:=gN 1) (tt:=zaJ) (de:=zbn (zak 1 zbr [] (zab (zaa 1) (zad))) (zak 1 zbw [] (zab (zac gIx (zaa 0) (zaa 1)) (zad)))) (s0:=S) (M := []) (it:=fun t:T=>t) (p:=fun _=>true) (f:=fun _=>T.bl false) [k] (fun p hp=>by
   obtain rfl:p=k:=by simpa using hp
   let S1:Sg:=S.set 1 (some p)
   refine ⟨S1,rfl,rfl,fun _=>?_⟩
   have c1:zak 1 zbr [] (zab (zaa 1) (zad)) S1 [] = .ok (.bl (nmB p)) []:=za2 (ts := [p]) rfl rfl (qi h1 h2 [])
   rw [h3] at c1
   exact zmA c1)
  rw [List.filter_eq_self.mpr fun _ _=>rfl] at key
  have w:zas S [1]=S:=rfl
  have dw:zar (zaa 0) S [] = .ok ([k].map fun t:T=>t) []:=rfl
  have e:dLc false (zar (zaa 0)) (gN 1) (zaJ) (zbn (zak 1 zbr [] (zab (zaa 1) (zad))) (zak 1 zbw [] (zab (zac gIx (zaa 0) (zaa 1)) (zad)))) [1] S [] = .ok (.lst [.bl false]) []:=by
   rw [u_lc,dw,bind_ok,w_kLc,if_pos (by rw [List.length_map,LIM_big]; exact (by decide:1≤16777216)),w,key]
   rfl
  have z:scB (.dn [k] [u])=false:=by simp [scB,h3]
  rw [z]
  exact zbV (zax e rfl) (zsA false [])
 | non=>exact zaA ⟨[],by kernel_rfl⟩ n rfl
 | bl b=>exact zaA ⟨[],by kernel_rfl⟩ n rfl
 | int i=>exact zaA ⟨[],by kernel_rfl⟩ n rfl
 | str x=>exact zaA ⟨[],by kernel_rfl⟩ n rfl
 | tup xs=>exact zaA ⟨[],by kernel_rfl⟩ n rfl
 | lst xs=>exact zaA ⟨[],by kernel_rfl⟩ n rfl
 | _=>exact h.elim
def zch:T→Bool
 | .lst xs=>xs.all scB
 | _=>false
def okN:T→Prop
 | .lst xs=>xs.length≤1000∧∀x∈xs,okS x∧zal x=true
 | .non | .bl _ | .int _ | .str _ | .tup _ | .dct _=>True
 | _=>False
theorem qs {t:T} (h:okN t) (hc:zal t=true) (M:Mem):zaG zbR [t] M = .ok (.bl (zch t)) M:=by
 have n:zau [t]=true:=by simp [zau,hc]
 cases t with
 | lst xs=>
  let S:Sg := [some (.lst xs),none]
  refine zaA ⟨[],zbz S rfl (zcf ?_)⟩ n rfl
  have i1:dCall za5 (zab (zaa 0) (zab (dC (.ty "list")) (zad))) S [] = .ok (.bl true) []:=rfl
  rw [zfj i1]
  have key:=zbQ (g:=gN 1) (tt:=zaJ) (de:=zak 1 zeg [] (zab (zaa 1) (zad))) (s0:=S) (M := []) (it:=fun t:T=>t) (p:=fun _=>true) (f:=fun x=>T.bl (scB x)) xs (fun x hx=>by
   obtain ⟨h1,h2⟩:=h.2 x hx
   exact ⟨S.set 1 (some x),rfl,rfl,fun _=>za2 (ts := [x]) rfl rfl (q31 h1 h2 [])⟩)
  rw [List.filter_eq_self.mpr fun _ _=>rfl] at key
  have w:zas S [1]=S:=rfl
  have dw:zar (zaa 0) S [] = .ok (xs.map fun t:T=>t) []:=by rw [List.map_id']; rfl
  have e:dLc false (zar (zaa 0)) (gN 1) (zaJ) (zak 1 zeg [] (zab (zaa 1) (zad))) [1] S [] = .ok (.lst (xs.map fun x=>T.bl (scB x))) []:=by
   rw [u_lc,dw,bind_ok,w_kLc,if_pos (by rw [List.length_map,LIM_big]; have:=h.1; omega),w,key]
   rfl
  exact zbV (zax e rfl) (all_map _ _ [])
 | non=>exact zaA ⟨[],by kernel_rfl⟩ n rfl
 | bl b=>exact zaA ⟨[],by kernel_rfl⟩ n rfl
 | int i=>exact zaA ⟨[],by kernel_rfl⟩ n rfl
 | str x=>exact zaA ⟨[],by kernel_rfl⟩ n rfl
 | tup xs=>exact zaA ⟨[],by kernel_rfl⟩ n rfl
 | dct xs=>exact zaA ⟨[],by kernel_rfl⟩ n rfl
 | _=>exact h.elim
theorem zgC {β : Type} {g:DG} {b:DS} {S:Sg} {M:Mem} {it : β → T} {p : β → Bool}:∀ xs:List β,(∀ x∈xs,∃s1,g (it x) S=some s1∧b s1 M=if p x=true then .nx S M else .rt (.bl false) M)→forL g b (xs.map it) S M=if xs.all p=true then .nx S M else .rt (.bl false) M
 | [],_=>rfl
 | x :: r,h=>by
  obtain ⟨s1,e1,e2⟩:=h x (List.mem_cons_self ..)
  have ih:=zgC r fun y hy=>h y (List.mem_cons_of_mem _ hy)
  rw [List.map_cons,List.all_cons]
  unfold forL
  simp only [e1,e2]
  cases p x with
  | true=>simpa using ih
  | false=>rfl
def lnI:DS:=dIf (zbv (zbb (zai (zak 1 zb2 [] (zab (zaa 2) (zad))))) (zbb (zai (zak 1 zcc [] (zab (zac gIx (zaa 1) (zaa 2)) (zad)))))) (zav (dC (.bl false))) (dNx)
def lnO:DS:=zag (dIf (zbb (zai (dCall zcn (zab (zaa 1) (zab (dC (.ty "dict")) (zad)))))) (zav (dC (.bl false))) (dNx)) (zaH (zar (zaa 1)) (gN 2) lnI [2])
theorem zsB:zej=zag (dIf (zbb (zai (dCall za5 (zab (zaa 0) (zab (dC (.ty "list")) (zad)))))) (zav (dC (.bl false))) (dNx)) (zag (zaH (zar (zaa 0)) (gN 1) lnO [1,2]) (zav (dC (.bl true)))):=rfl
def sN3 (v:T) (t:Option T) (k:Option T):Sg := [some v,t,k]
theorem zsC {v:T} {ks:List (Str × T)} (h:okS (.dct ks)) {p:Str × T} (hp:p∈ks):lnI (sN3 v (some (.dct ks)) (some (.str p.1))) []=if (nmB (.str p.1) && vuB p.2)=true then .nx (sN3 v (some (.dct ks)) (some (.str p.1))) [] else .rt (.bl false) []:=by
 obtain ⟨h1,h2,h3,h4⟩:=h.2 p hp
 let S1:Sg:=sN3 v (some (.dct ks)) (some (.str p.1))
 have c1:zak 1 zb2 [] (zab (zaa 2) (zad)) S1 [] = .ok (.bl (nmB (.str p.1))) []:=za2 (ts := [.str p.1]) rfl rfl (qr (zgB h2) rfl [])
 have ix:zac gIx (zaa 1) (zaa 2) S1 [] = .ok p.2 []:=zaS (show zaa 1 S1 [] = .ok (.dct ks) [] from rfl) (show zaa 2 S1 [] = .ok (.str p.1) [] from rfl) (by rw [ix_dct',h1]; rfl)
 have c2:zak 1 zcc [] (zab (zac gIx (zaa 1) (zaa 2)) (zad)) S1 [] = .ok (.bl (vuB p.2)) []:=za2 (zax ix rfl) rfl (q1g h3 h4 [])
 unfold lnI
 rw [zcg (ziE (zdo (zb5 c1)) (zdo (zb5 c2)))]
 cases nmB (.str p.1) <;> cases vuB p.2 <;> rfl
theorem zsD {v:T} {t k:Option T}:zcl 0 [2] (.nx (sN3 v t k) []) = .nx (sN3 v t none) []:=by
 rw [zbd _ (by rfl)]
 rfl
theorem zsE (v:T) {t:T} (h:okS t) (hc:zal t=true):lnO (sN3 v (some t) none) []=if scB t=true then .nx (sN3 v (some t) none) [] else .rt (.bl false) []:=by
 cases t with
 | dct ks=>
  let S:Sg:=sN3 v (some (.dct ks)) none
  have i1:dCall zcn (zab (zaa 1) (zab (dC (.ty "dict")) (zad))) S [] = .ok (.bl true) []:=rfl
  have f1:dIf (zbb (zai (dCall zcn (zab (zaa 1) (zab (dC (.ty "dict")) (zad)))))) (zav (dC (.bl false))) (dNx) S [] = .nx S []:=by
   rw [zcg (zdo (zb5 i1))]
   rfl
  have dw:zar (zaa 1) S [] = .ok (ks.map fun p:Str × T=>T.str p.1) []:=rfl
  have w:zas S [2]=S:=rfl
  have key:=zgC (g:=gN 2) (b:=zaP [2] lnI) (S:=S) (M := []) (it:=fun p:Str × T=>T.str p.1) (p:=fun p=>nmB (.str p.1) && vuB p.2) ks fun p hp=>⟨sN3 v (some (.dct ks)) (some (.str p.1)),rfl,by
   rw [u_trim,zsC h hp]
   cases nmB (.str p.1) && vuB p.2 with
   | true=>
    rw [if_pos rfl,if_pos rfl]
    exact zsD
   | false=>rfl⟩
  unfold lnO
  rw [zba f1,u_forW,w,dw,zb4,w_kFor]
  exact key
 | dn ks us=>
  obtain ⟨k,u,rfl,rfl,h1,h2,h3⟩:=h
  let S:Sg:=sN3 v (some (.dn [k] [u])) none
  have i1:dCall zcn (zab (zaa 1) (zab (dC (.ty "dict")) (zad))) S [] = .ok (.bl true) []:=rfl
  have f1:dIf (zbb (zai (dCall zcn (zab (zaa 1) (zab (dC (.ty "dict")) (zad)))))) (zav (dC (.bl false))) (dNx) S [] = .nx S []:=by
   rw [zcg (zdo (zb5 i1))]
   rfl
  have dw:zar (zaa 1) S [] = .ok ([k].map fun t:T=>t) []:=rfl
  have w:zas S [2]=S:=rfl
  have key:=zgC (g:=gN 2) (b:=zaP [2] lnI) (S:=S) (M := []) (it:=fun t:T=>t) (p:=nmB) [k] fun p hp=>⟨sN3 v (some (.dn [k] [u])) (some p),rfl,by
   obtain rfl:p=k:=by simpa using hp
   have c1:zak 1 zb2 [] (zab (zaa 2) (zad)) (sN3 v (some (.dn [p] [u])) (some p)) [] = .ok (.bl (nmB p)) []:=za2 (ts := [p]) rfl rfl (qr h1 h2 [])
   rw [h3] at c1 ⊢
   rw [u_trim]
   unfold lnI
   rw [zcg (zsz (zdo (zb5 c1)))]
   rfl⟩
  unfold lnO
  rw [zba f1,u_forW,w,dw,zb4,w_kFor]
  exact key
 | non=>rfl
 | bl b=>rfl
 | int i=>rfl
 | str x=>rfl
 | tup xs=>rfl
 | lst xs=>rfl
 | _=>exact h.elim
theorem q1e {t:T} (h:okN t) (hc:zal t=true) (M:Mem):zaG zcd [t] M = .ok (.bl (zch t)) M:=by
 have n:zau [t]=true:=by simp [zau,hc]
 cases t with
 | lst xs=>
  let S:Sg:=sN3 (.lst xs) none none
  refine zaA ⟨[],zbz S rfl ?_⟩ n rfl
  have i1:dCall za5 (zab (zaa 0) (zab (dC (.ty "list")) (zad))) S [] = .ok (.bl true) []:=rfl
  have f1:dIf (zbb (zai (dCall za5 (zab (zaa 0) (zab (dC (.ty "list")) (zad)))))) (zav (dC (.bl false))) (dNx) S [] = .nx S []:=by
   rw [zcg (zdo (zb5 i1))]
   rfl
  have dw:zar (zaa 0) S [] = .ok (xs.map fun t:T=>t) []:=by rw [List.map_id']; rfl
  have w:zas S [1,2]=S:=rfl
  have key:=zgC (g:=gN 1) (b:=zaP [1,2] lnO) (S:=S) (M := []) (it:=fun t:T=>t) (p:=scB) xs fun x hx=>⟨sN3 (.lst xs) (some x) none,rfl,by
   obtain ⟨h1,h2⟩:=h.2 x hx
   rw [u_trim,zsE _ h1 h2]
   cases scB x with
   | true=>
    rw [if_pos rfl,if_pos rfl,zbd _ (by rfl)]
    rfl
   | false=>rfl⟩
  have lp:zaH (zar (zaa 0)) (gN 1) lnO [1,2] S []=if xs.all scB=true then .nx S [] else .rt (.bl false) []:=by
   rw [u_forW,w,dw,zb4,w_kFor]
   exact key
  rw [zsB,zba f1]
  show _=OutS.rt (.bl (xs.all scB)) []
  cases hb:xs.all scB with
  | true=>
   rw [hb] at lp
   rw [zba (show zaH (zar (zaa 0)) (gN 1) lnO [1,2] S [] = .nx S [] from lp)]
   rfl
  | false=>
   rw [hb] at lp
   exact zl8 (show zaH (zar (zaa 0)) (gN 1) lnO [1,2] S [] = .rt (.bl false) [] from lp)
 | non=>exact zaA ⟨[],by kernel_rfl⟩ n rfl
 | bl b=>exact zaA ⟨[],by kernel_rfl⟩ n rfl
 | int i=>exact zaA ⟨[],by kernel_rfl⟩ n rfl
 | str x=>exact zaA ⟨[],by kernel_rfl⟩ n rfl
 | tup xs=>exact zaA ⟨[],by kernel_rfl⟩ n rfl
 | dct xs=>exact zaA ⟨[],by kernel_rfl⟩ n rfl
 | _=>exact h.elim
end G
end
section
namespace G
open PySem PySem.Spec PyProof.Rows L2 Z PySem.SeqAt
theorem zsF {S:Sg} {M:Mem} {d:DE} {k:Nat} (h:d S M = .ok (.int (k:Int)) M) (hk:k < 1000000):zbp (zab d zad) S M = .ok ((List.range k).map fun (i:Nat)=>T.int (i:Int)) M:=by
 have e1:zab d zad S M = .ok [.int (k:Int)] M:=zax h rfl
 unfold zbp
 rw [e1,bind_ok]
 show (if Z.inR (k:Int)=true then Out.ok (zbB 0 (k:Int).toNat) M else .no)=_
 rw [if_pos (by unfold Z.inR; simp; omega),show (k:Int).toNat=k from rfl,← zd7 k]
theorem ziP {S:Sg} {d1 d2:DE} {a b:Nat} (h1:d1 S [] = .ok (.int (a:Int)) []) (h2:d2 S [] = .ok (.int (b:Int)) []):zac (zan false) d1 d2 S [] = .ok (.int ((a + b:Nat):Int)) []:=by
 refine zaS h1 h2 ?_
 have e:(a:Int) + (b:Int)=((a + b:Nat):Int):=by simp
 show some (T.int ((a:Int) + (b:Int)),([]:Mem))=_
 rw [e]
theorem zmH {S:Sg} {M:Mem} {d1 d2:DE} {a:Int} {b:Nat} (hb:0 < b) (hf:zbX (b:Int)=true) (h:d1 S M = .ok (.int a) M) (h2:d2 S M = .ok (.int (b:Int)) M):∃ m:Nat,m < b∧zac zaK d1 d2 S M = .ok (.int (m:Int)) M:=by
 obtain ⟨m,hm,e⟩:=v_mod (S:=S) hb hf h
 refine ⟨m,hm,?_⟩
 rw [← e,u_bin,u_bin,h,bind_ok,bind_ok]
 show (d2 S M).bind _=((dC (.int (b:Int)) S M).bind _)
 rw [h2]
 rfl
theorem zsG:(List.range 20).all (fun n=>zbX ((n + 1:Nat):Int))=true:=by decide +kernel
theorem zmI {b:Nat} (h0:0 < b) (h:b≤20):zbX (b:Int)=true:=by
 have:=List.all_eq_true.mp zsG (b - 1) (List.mem_range.mpr (by omega))
 rwa [show b - 1 + 1=b by omega] at this
theorem zsH {xs:List Str} {k:Nat} (h:∀ x∈xs,x.length≤k):(xs.map (·.length)).sum≤k * xs.length:=by
 induction xs with
 | nil=>simp
 | cons x r ih=>
  have h1:=ih fun y hy=>h y (List.mem_cons_of_mem _ hy)
  have h2:=h x List.mem_cons_self
  simp only [List.map_cons,List.sum_cons,List.length_cons]
  have:k * (r.length + 1)=k * r.length + k:=Nat.mul_succ _ _
  omega
theorem zsI (xs:List Str):zcA (xs.map T.str)=some xs:=by
 induction xs with
 | nil=>rfl
 | cons x r ih=>rw [List.map_cons]; unfold zcA; rw [ih]; rfl
theorem join_1 {ys:List Str} (h:∀ y∈ys,y.length≤1) (hl:ys.length≤1000) (M:Mem):zd1 (.str "") [.lst (ys.map T.str)] M=some (.str (Txt.join "" ys),M)∧(Txt.join "" ys).length≤ys.length:=by
 have e:(Z.listOf M (.lst (ys.map T.str))).bind zcA=some ys:=by
  show zcA _=_
  exact zsI ys
 have s:=zsH h
 have z:("" : Str).length=0:=by decide +kernel
 constructor
 ·unfold zd1
  simp only [e]
  rw [if_pos (by rw [z]; omega)]
 ·have h1:=StrLaws.join_length_le "" ys
  unfold Txt.join
  rw [StrLaws.glued_eq_join]
  rw [z] at h1
  omega
theorem zmJ (z:Str) (lo hi:Option Int):(cutS z lo hi).length≤z.length:=by
 have e:(cutS z lo hi).length=((z.cps.toList.drop (HT.sIx z.length 0 lo)).take (HT.sIx z.length z.length hi - HT.sIx z.length 0 lo)).length:=by
  show Array.size _=_
  simp [cutS]
 have e2:z.length=z.cps.toList.length:=by rw [Array.length_toList]; rfl
 rw [e,List.length_take,List.length_drop,e2]
 omega
theorem sl_str {S:Sg} {M:Mem} {d:DE} {dl dh:DO} {x:Str} {lo hi:Option Int} (hx:x.length≤1000) (h:d S M = .ok (.str x) M) (h1:dl S M = .ok lo M) (h2:dh S M = .ok hi M):dSl false d dl dh S M = .ok (.str (cutS x lo hi)) M:=by
 rw [u_sl,h,bind_ok,w_kSl1]
 show ((dl S M).bind _)=_
 rw [h1,bind_ok]
 show ((dh S M).bind _)=_
 rw [h2,bind_ok]
 show lift (if x.length≤LIM then some (T.str (cutS x lo hi),M) else none)=_
 rw [if_pos (by rw [LIM_big]; omega)]
 rfl
theorem add_str {S:Sg} {M:Mem} {d e:DE} {x y:Str} (hx:x.length≤1000) (hy:y.length≤1000) (h:d S M = .ok (.str x) M) (h2:e S M = .ok (.str y) M):zac (zan false) d e S M = .ok (.str (x ++ y)) M:=by
 refine zaS h h2 ?_
 show (if x.length + y.length≤LIM then some (T.str (x ++ y),M) else none)=_
 rw [if_pos (by rw [LIM_big]; omega)]
theorem zmK {S:Sg} {M:Mem} {d:DE} {x y z:Str} (hx:x.length≤100) (hz:z.length=1) (h:d S M = .ok (.str x) M):zd9 y z d S M = .ok (.str (Txt.replace x y z)) M∧(Txt.replace x y z).length≤2 * x.length + 1:=by
 have b:=TK.replace_len x y z
 rw [hz] at b
 constructor
 ·unfold zd9
  rw [h,bind_ok]
  show (if x.length + (x.length + 1) * z.length≤16777216 then _ else _)=_
  rw [if_pos (by rw [hz]; omega)]
 ·omega
theorem ch7 (m:Nat) (h:m < 7) (M:Mem):∃ c:Str,c.length≤1∧gIx (.str "abz09mq") (.int (m:Int)) M=some (.str c,M):=by
 match m,h with
 | 0,_=>exact ⟨"a",by decide +kernel,by kernel_rfl⟩
 | 1,_=>exact ⟨"b",by decide +kernel,by kernel_rfl⟩
 | 2,_=>exact ⟨"z",by decide +kernel,by kernel_rfl⟩
 | 3,_=>exact ⟨"0",by decide +kernel,by kernel_rfl⟩
 | 4,_=>exact ⟨"9",by decide +kernel,by kernel_rfl⟩
 | 5,_=>exact ⟨"m",by decide +kernel,by kernel_rfl⟩
 | 6,_=>exact ⟨"q",by decide +kernel,by kernel_rfl⟩
theorem zsJ (m:Nat) (h:m < 10) (M:Mem):∃ c:Str,c.length≤1∧gIx (.str "A_ -=.,;\n{") (.int (m:Int)) M=some (.str c,M):=by
 match m,h with
 | 0,_=>exact ⟨"A",by decide +kernel,by kernel_rfl⟩
 | 1,_=>exact ⟨"_",by decide +kernel,by kernel_rfl⟩
 | 2,_=>exact ⟨" ",by decide +kernel,by kernel_rfl⟩
 | 3,_=>exact ⟨"-",by decide +kernel,by kernel_rfl⟩
 | 4,_=>exact ⟨"=",by decide +kernel,by kernel_rfl⟩
 | 5,_=>exact ⟨".",by decide +kernel,by kernel_rfl⟩
 | 6,_=>exact ⟨",",by decide +kernel,by kernel_rfl⟩
 | 7,_=>exact ⟨";",by decide +kernel,by kernel_rfl⟩
 | 8,_=>exact ⟨"\n",by decide +kernel,by kernel_rfl⟩
 | 9,_=>exact ⟨"{",by decide +kernel,by kernel_rfl⟩
theorem q37 {ds:List Int} (hd:Dg 50 ds):∃ a b c:Str,a.length≤1000∧b.length≤1000∧c.length≤1000∧∀M,zaG zdG [iT ds] M = .ok (.lst [.str a,.str b,.str c]) M:=by
 let S:Sg := [some (iT ds),none,none,none]
 have hl:=hd.len
 obtain ⟨n,hn,en⟩:=ziO (S:=S) (M := []) (d:=zaa 0) rfl hd (i:=0) (b:=11) (by omega) (by omega) (by decide +kernel)
 have en:zac zaK (zac gIx (zaa 0) (dC (.int 0))) (dC (.int 11)) S [] = .ok (.int (n:Int)) []:=en
 obtain ⟨ys,ly,hy,ey⟩:=zkJ (γ := Str) (g:=gN 3) (tt:=zaJ) (de:=zac gIx (dC (.str "abz09mq")) (zac zaK (zac gIx (zaa 0) (zac (zan false) (dC (.int 1)) (zaa 3))) (dC (.int 7)))) (s0:=S) (M := []) (it:=fun i:Nat=>T.int (i:Int)) (en:=T.str) (Q:=fun y=>y.length≤1) (List.range n) (fun i hi=>by
  have hi:=List.mem_range.mp hi
  let S1:Sg:=S.set 3 (some (.int (i:Int)))
  have a1:zac (zan false) (dC (.int 1)) (zaa 3) S1 [] = .ok (.int ((1 + i:Nat):Int)) []:=ziP (a:=1) (b:=i) rfl rfl
  obtain ⟨m,hm,em⟩:=v_mod (S:=S1) (M := []) (b:=7) (by omega) (by decide +kernel) (zaS (show zaa 0 S1 [] = .ok (iT ds) [] from rfl) a1 (ixI (1 + i) (by omega) []))
  obtain ⟨c,hc,ec⟩:=ch7 m hm []
  exact ⟨S1,rfl,rfl,c,hc,zaS (show dC (.str "abz09mq") S1 [] = .ok (.str "abz09mq") [] from rfl) em ec⟩)
 have hly:ys.length≤10:=by rw [ly,List.length_range]; omega
 obtain ⟨j1,j2⟩:=join_1 hy (by omega) []
 let x:=Txt.join "" ys
 have hx:x.length≤10:=Nat.le_trans j2 hly
 have w:zas S [3]=S:=rfl
 have el:dLc false (zbp (zab (zac zaK (zac gIx (zaa 0) (dC (.int 0))) (dC (.int 11))) (zad))) (gN 3) (zaJ) (zac gIx (dC (.str "abz09mq")) (zac zaK (zac gIx (zaa 0) (zac (zan false) (dC (.int 1)) (zaa 3))) (dC (.int 7)))) [3] S [] = .ok (.lst (ys.map T.str)) []:=by
  rw [u_lc,zsF en (by omega),bind_ok,w_kLc,if_pos (by rw [List.length_map,List.length_range,LIM_big]; omega),w,ey]
  rfl
 have s1:zaw 1 (zbc "str" zd1 (dC (.str "")) (zab (dLc false (zbp (zab (zac zaK (zac gIx (zaa 0) (dC (.int 0))) (dC (.int 11))) (zad))) (gN 3) (zaJ) (zac gIx (dC (.str "abz09mq")) (zac zaK (zac gIx (zaa 0) (zac (zan false) (dC (.int 1)) (zaa 3))) (dC (.int 7)))) [3]) (zad))) S [] = .nx (S.set 1 (some (.str x))) []:=
  zcr (zrZ (show dC (.str "") S [] = .ok (.str "") [] from rfl) rfl (zax el rfl) j1)
 let S2:Sg:=S.set 1 (some (.str x))
 have lx:dCall za0 (zab (zaa 1) (zad)) S2 [] = .ok (.int (x.length:Int)) []:=zbV (zax (show zaa 1 S2 [] = .ok (.str x) [] from rfl) rfl) (len_str (by omega) [])
 obtain ⟨t,ht,et⟩:=zmH (S:=S2) (M := []) (b:=x.length + 1) (by omega) (zmI (by omega) (by omega)) (zaS (show zaa 0 S2 [] = .ok (iT ds) [] from rfl) (show dC (.int ((12:Nat):Int)) S2 [] = .ok (.int ((12:Nat):Int)) [] from rfl) (ixI 12 (by omega) [])) (ziP lx (show dC (.int ((1:Nat):Int)) S2 [] = .ok (.int ((1:Nat):Int)) [] from rfl))
 let S3:Sg:=S2.set 2 (some (.int (t:Int)))
 have s2:zaw 2 (zac zaK (zac gIx (zaa 0) (dC (.int 12))) (zac (zan false) (dCall za0 (zab (zaa 1) (zad))) (dC (.int 1)))) S2 [] = .nx S3 []:=zcr et
 obtain ⟨m,hm,em⟩:=ziO (S:=S3) (M := []) (d:=zaa 0) rfl hd (i:=13) (b:=10) (by omega) (by omega) (by decide +kernel)
 have em:zac zaK (zac gIx (zaa 0) (dC (.int 13))) (dC (.int 10)) S3 [] = .ok (.int (m:Int)) []:=em
 obtain ⟨c,hc,ec⟩:=zsJ m hm []
 have v1:zaa 1 S3 [] = .ok (.str x) []:=rfl
 have c1:dSl false (zaa 1) (zaL) (zaM (zaa 2)) S3 [] = .ok (.str (cutS x none (some (t:Int)))) []:=sl_str (by omega) v1 rfl rfl
 have c2:dSl false (zaa 1) (zaM (zaa 2)) (zaL) S3 [] = .ok (.str (cutS x (some (t:Int)) none)) []:=sl_str (by omega) v1 rfl rfl
 have l1:=zmJ x none (some (t:Int))
 have l2:=zmJ x (some (t:Int)) none
 have a1:=add_str (by omega) (by omega) c1 (zaS (show dC (.str "A_ -=.,;\n{") S3 [] = .ok (.str "A_ -=.,;\n{") [] from rfl) em ec)
 have l3:(cutS x none (some (t:Int)) ++ c).length≤20:=by rw [strLen_append]; omega
 have a2:=add_str (by omega) (by omega) a1 c2
 have l4:((cutS x none (some (t:Int)) ++ c) ++ cutS x (some (t:Int)) none).length≤100:=by rw [strLen_append]; omega
 obtain ⟨r1,b1⟩:=zmK (y := "0") (z := "b") (by omega) (by decide +kernel) v1
 obtain ⟨r2,b2⟩:=zmK (y := "9") (z := "z") (by omega) (by decide +kernel) r1
 refine ⟨x,_,_,by omega,Nat.le_trans l4 (by omega),Nat.le_trans b2 (by omega),fun M=>zaA ⟨[],zbz S rfl ?_⟩ (by simp [zau,zmy]) (by simp [zal,zau])⟩
 unfold zef
 rw [zba s1,zba s2]
 refine zcf ?_
 show ((zab _ _ S3 []).bind _)=_
 rw [zax v1 (zax a2 (zax r2 (show zad S3 [] = .ok [] [] from rfl)))]
 rfl
end G
end
section
namespace G
open PySem PySem.Spec PyProof.Rows L2 Z PySem.SeqAt
structure Good (t:T):Prop where
 ok:okN t
 nc:zal t=true
 pl:pl t=true
 dep:dep t≤20
 wt:wt t≤1000000
structure Itm (k w:Nat) (x:T):Prop where
 ok:okS x
 nc:zal x=true
 pl:pl x=true
 dep:dep x≤k
 wt:wt x≤w
theorem Itm.mono {k k' w w':Nat} {x:T} (h:Itm k w x) (hk:k≤k') (hw:w≤w'):Itm k' w' x:=⟨h.ok,h.nc,h.pl,Nat.le_trans h.dep hk,Nat.le_trans h.wt hw⟩
theorem ziQ {k:Nat}:∀ {ys:List T},(∀ y∈ys,dep y≤k)→zaU ys≤k
 | [],_=>Nat.zero_le _
 | y :: r,h=>by
  simp only [zaU]
  exact Nat.max_le.mpr ⟨h y List.mem_cons_self,ziQ fun z hz=>h z (List.mem_cons_of_mem _ hz)⟩
theorem ziR {w:Nat}:∀ {ys:List T},(∀ y∈ys,wt y≤w)→wtL ys≤ys.length * (w + 2)
 | [],_=>Nat.zero_le _
 | y :: r,h=>by
  have h1:=h y List.mem_cons_self
  have h2:=ziR (ys:=r) fun z hz=>h z (List.mem_cons_of_mem _ hz)
  simp only [wtL]
  rw [List.length_cons,Nat.succ_mul]
  omega
theorem ziS:∀ {ys:List T},(∀ y∈ys,pl y=true)→plL ys=true
 | [],_=>rfl
 | y :: r,h=>by
  simp only [plL,Bool.and_eq_true]
  exact ⟨h y List.mem_cons_self,ziS fun z hz=>h z (List.mem_cons_of_mem _ hz)⟩
theorem zfn:∀ {ys:List T},(∀ y∈ys,zal y=true)→zau ys=true
 | [],_=>rfl
 | y :: r,h=>by
  simp only [zau,Bool.and_eq_true]
  exact ⟨h y List.mem_cons_self,zfn fun z hz=>h z (List.mem_cons_of_mem _ hz)⟩
theorem zmL {k w n:Nat} {ys:List T} (h:∀ y∈ys,Itm k w y) (hl:ys.length≤n):Itm (k + 1) (n * (w + 2) + 2) (.lst ys):=by
 refine ⟨trivial,by simp only [zal]; exact zfn fun y hy=>(h y hy).nc,by simp only [pl]; exact ziS fun y hy=>(h y hy).pl,?_,?_⟩
 ·simp only [dep]
  have:=ziQ fun y hy=>(h y hy).dep
  omega
 ·simp only [wt]
  have h1:=ziR fun y hy=>(h y hy).wt
  have h2:=Nat.mul_le_mul_right (w + 2) hl
  omega
theorem zsK {k w n:Nat} {ys:List T} (h:∀ y∈ys,Itm k w y) (hl:ys.length≤n):Itm (k + 1) (n * (w + 2) + 3) (.tup ys):=by
 refine ⟨trivial,by simp only [zal]; exact zfn fun y hy=>(h y hy).nc,by simp only [pl]; exact ziS fun y hy=>(h y hy).pl,?_,?_⟩
 ·simp only [dep]
  have:=ziQ fun y hy=>(h y hy).dep
  omega
 ·simp only [wt]
  have h1:=ziR fun y hy=>(h y hy).wt
  have h2:=Nat.mul_le_mul_right (w + 2) hl
  omega
theorem zfo {ys:List T} (h:∀ y∈ys,Itm 10 2000 y) (hl:ys.length≤20):Good (.lst ys):=by
 have i:=zmL h hl
 exact ⟨⟨by omega,fun x hx=>⟨(h x hx).ok,(h x hx).nc⟩⟩,i.nc,i.pl,Nat.le_trans i.dep (by omega),Nat.le_trans i.wt (by omega)⟩
def odds:List T := [.non,.bl true,.int 5,.str "",.str "A",.str "abcdefghi",.tup [.str "x"],.lst [],.dct [],.str "a b",.str "x1",.str "1x"]
def keyOf:T→T
 | .lst _ => .str "Q"
 | .dct _ => .str "Q"
 | t=>t
def zgD (t:T):Bool:=okV t && zal t && pl t && Nat.ble (dep t) 3 && Nat.ble (wt t) 100
def zmM (t:T):Bool:=keyB t && !nmB t && zgD t
theorem zsL:odds.all (fun t=>zgD t && zmM (keyOf t))=true:=by decide +kernel
structure OddF (t:T):Prop where
 ok:okV t=true
 nc:zal t=true
 pl:pl t=true
 dep:dep t≤3
 wt:wt t≤100
theorem ziT {t:T} (h:zgD t=true):OddF t:=by
 unfold zgD at h
 simp only [Bool.and_eq_true] at h
 exact ⟨h.1.1.1.1,h.1.1.1.2,h.1.1.2,Nat.le_of_ble_eq_true h.1.2,Nat.le_of_ble_eq_true h.2⟩
theorem zcR {t:T} (h:t∈odds):OddF t∧OddF (keyOf t)∧keyB (keyOf t)=true∧nmB (keyOf t)=false:=by
 have q:=List.all_eq_true.mp zsL t h
 rw [Bool.and_eq_true] at q
 have q2:=q.2
 unfold zmM at q2
 simp only [Bool.and_eq_true,Bool.not_eq_true'] at q2
 exact ⟨ziT q.1,ziT q2.2,q2.1.1,q2.1.2⟩
theorem zmN {t:T} (h:t∈odds):okS t∧okN t:=by
 simp only [odds,List.mem_cons,List.not_mem_nil,or_false] at h
 rcases h with rfl | rfl | rfl | rfl | rfl | rfl | rfl | rfl | rfl | rfl | rfl | rfl <;>
  first
  | exact ⟨trivial,trivial⟩
  | exact ⟨trivial,Nat.zero_le _,fun x hx=>by cases hx⟩
  | exact ⟨⟨Nat.zero_le _,fun x hx=>by cases hx⟩,trivial⟩
theorem zsM {t:T} (h:t∈odds):Itm 3 100 t:=⟨(zmN h).1,(zcR h).1.nc,(zcR h).1.pl,(zcR h).1.dep,(zcR h).1.wt⟩
theorem zsN {t:T} (h:t∈odds):Good t:=⟨(zmN h).2,(zcR h).1.nc,(zcR h).1.pl,Nat.le_trans (zcR h).1.dep (by omega),Nat.le_trans (zcR h).1.wt (by omega)⟩
theorem wq:(reprText "x").length≤10∧(reprText "y").length≤10∧(reprText "1").length≤10:=⟨Nat.le_of_ble_eq_true (by decide +kernel),Nat.le_of_ble_eq_true (by decide +kernel),Nat.le_of_ble_eq_true (by decide +kernel)⟩
theorem ziU:("x" : Str).length≤1000∧("y" : Str).length≤1000:=⟨Nat.le_of_ble_eq_true (by decide +kernel),Nat.le_of_ble_eq_true (by decide +kernel)⟩
theorem zmO {t:T} (h:OddF t):Itm 4 200 (.dct [("x",t)]):=by
 refine ⟨⟨by show 1≤1000; omega,fun p hp=>?_⟩,by simp [zal,za4,h.nc],by simp [pl,plK,h.pl],?_,?_⟩
 ·obtain rfl:p=(("x" : Str),t):=by simpa using hp
  exact ⟨rfl,ziU.1,h.ok,h.nc⟩
 ·simp only [dep,zbx]; have:=h.dep; omega
 ·simp only [wt,wtK]; have:=h.wt; have:=wq.1; omega
theorem one_f:OddF (.str "1"):=ziT (by decide +kernel)
theorem zsO {t:T} (h:OddF t):Itm 4 300 (.dct [("x",.str "1"),("y",t)]):=by
 refine ⟨⟨by show 2≤1000; omega,fun p hp=>?_⟩,by simp [zal,za4,h.nc],by simp [pl,plK,h.pl],?_,?_⟩
 ·rcases (by simpa using hp:p=(("x" : Str),T.str "1")∨p=(("y" : Str),t)) with rfl | rfl
  ·exact ⟨rfl,ziU.1,one_f.ok,rfl⟩
  ·exact ⟨rfl,ziU.2,h.ok,h.nc⟩
 ·simp only [dep,zbx]; have:=h.dep; omega
 ·simp only [wt,wtK]; have:=h.wt; have:=wq.1; have:=wq.2.1; have:=wq.2.2; omega
theorem zsP {k:T} (h:OddF k) (hn:nmB k=false):Itm 4 200 (.dn [k] [.str "1"]):=by
 refine ⟨⟨k,_,rfl,rfl,h.ok,h.nc,hn⟩,by simp [zal,zau,h.nc],by simp [pl,plL,h.pl],?_,?_⟩
 ·simp only [dep,zaU]; have:=h.dep; omega
 ·simp only [wt,wtL]; have:=h.wt; have:=wq.2.2; omega
theorem itm_x1:Itm 4 200 (.tup [.str "x",.str "1"]):=by
 refine ⟨trivial,rfl,rfl,by simp [dep,zaU],?_⟩
 simp only [wt,wtL]; have:=wq.1; have:=wq.2.2; omega
def ziV (xs l r:List T) (odd:T):List T := [.lst (l ++ [odd] ++ r),.lst (l ++ [.dct [("x",odd)]] ++ r),.tup xs,.lst (xs ++ [.dn [keyOf odd] [.str "1"]]),.dct [("x",.str "1")],.lst (xs ++ [.lst xs]),odd,.lst (xs ++ [.dct [("x",.str "1"),("y",odd)]]),.lst (xs ++ [.tup [.str "x",.str "1"]])]
section
variable {xs l r:List T} {odd:T} (hg:∀ x∈xs,Itm 3 100 x) (hx:xs.length≤4) (hl:∀ x∈l,x∈xs) (ll:l.length≤4) (hr:∀ x∈r,x∈xs) (lr:r.length≤4) (ho:odd∈odds)
include hg hx
theorem zgE {t:T} (h:Itm 10 2000 t):Good (.lst (xs ++ [t])):=zfo (fun y hy=>by
 rcases List.mem_append.mp hy with z | z
 ·exact (hg y z).mono (by omega) (by omega)
 ·obtain rfl:y=t:=by simpa using z
  exact h) (by simp; omega)
include hl ll hr lr
theorem zmP {t:T} (h:Itm 10 2000 t):Good (.lst (l ++ [t] ++ r)):=zfo (fun y hy=>by
 rcases List.mem_append.mp hy with z | z
 ·rcases List.mem_append.mp z with z | z
  ·exact (hg y (hl y z)).mono (by omega) (by omega)
  ·obtain rfl:y=t:=by simpa using z
   exact h
 ·exact (hg y (hr y z)).mono (by omega) (by omega)) (by simp; omega)
include ho
theorem zsQ:∀ t∈ziV xs l r odd,Good t:=by
 intro t ht
 have f:=zcR ho
 simp only [ziV,List.mem_cons,List.not_mem_nil,or_false] at ht
 rcases ht with rfl | rfl | rfl | rfl | rfl | rfl | rfl | rfl | rfl
 ·exact zmP hg hx hl ll hr lr ((zsM ho).mono (by omega) (by omega))
 ·exact zmP hg hx hl ll hr lr ((zmO f.1).mono (by omega) (by omega))
 ·have i:=zsK hg hx
  exact ⟨trivial,i.nc,i.pl,Nat.le_trans i.dep (by omega),Nat.le_trans i.wt (by omega)⟩
 ·exact zgE hg hx ((zsP f.2.1 f.2.2.2).mono (by omega) (by omega))
 ·have i:=zmO one_f
  exact ⟨trivial,i.nc,i.pl,Nat.le_trans i.dep (by omega),Nat.le_trans i.wt (by omega)⟩
 ·exact zgE hg hx ((zmL hg hx).mono (by omega) (by omega))
 ·exact zsN ho
 ·exact zgE hg hx ((zsO f.1).mono (by omega) (by omega))
 ·exact zgE hg hx (itm_x1.mono (by omega) (by omega))
end
theorem zci {S:Sg} {M:Mem} {d e:DE} {a b:List T} (h:d S M = .ok (.lst a) M) (h2:e S M = .ok (.lst b) M) (hl:a.length + b.length≤1000):zac (zan false) d e S M = .ok (.lst (a ++ b)) M:=by
 refine zaS h h2 ?_
 rw [add_lst',if_pos (by rw [LIM_big]; omega)]
 rfl
theorem zmQ {S:Sg} {M:Mem} {d:DE} {dl dh:DO} {a:List T} {lo hi:Option Int} (h:d S M = .ok (.lst a) M) (h1:dl S M = .ok lo M) (h2:dh S M = .ok hi M):dSl false d dl dh S M = .ok (.lst (zaZ a lo hi)) M:=by
 rw [u_sl,h,bind_ok,w_kSl1]
 show ((dl S M).bind _)=_
 rw [h1,bind_ok]
 show ((dh S M).bind _)=_
 rw [h2,bind_ok]
 rfl
theorem cut_mem {xs:List T} {lo hi:Option Int} {x:T} (h:x∈zaZ xs lo hi):x∈xs:=List.mem_of_mem_drop (List.mem_of_mem_take h)
theorem zmR {xs:List T} {lo hi:Option Int}:(zaZ xs lo hi).length≤xs.length:=by
 unfold zaZ
 rw [List.length_take,List.length_drop]
 omega
theorem zsR {S:Sg} {M:Mem} {d e:DE} {k u:T} (h:d S M = .ok k M) (h2:e S M = .ok u M) (hk:keyB k=true):zc4 d e S M = .ok (.dn [k] [u]) M:=by
 unfold zc4
 rw [h,noEr_ok,bind_ok,h2,noEr_ok,bind_ok,if_pos hk]
theorem zey {S:Sg} {M:Mem} {d:DE} {t:T} (h:d S M = .ok t M):zaq false (zab d zad) S M = .ok (.lst [t]) M:=by
 show ((zab _ _ S M).bind _)=_
 rw [zax h (show zad S M = .ok [] M from rfl)]
 rfl
theorem zsS (a b c:Option T) {odd:T} (h:odd∈odds):zbh (zbv (zai (dCall za5 (zab (zaa 2) (zab (dTup (zab (dC (.ty "str")) (zab (dC (.ty "int")) (zab (dC (.ty "tuple")) (zad))))) (zad))))) (zai (zac gIs (zaa 2) (dC .non)))) (zaa 2) (dC (.str "Q")) [a,b,some odd,c,none,none] [] = .ok (keyOf odd) []:=by
 simp only [odds,List.mem_cons,List.not_mem_nil,or_false] at h
 rcases h with rfl | rfl | rfl | rfl | rfl | rfl | rfl | rfl | rfl | rfl | rfl | rfl <;> kernel_rfl
theorem q1i {es:List Int} (hd:Dg 2 es) {xs:List T} (hg:∀ x∈xs,Itm 3 100 x) (hx:xs.length≤4):∃ ys:List T,ys.length=9∧(∀ t∈ys,Good t)∧∀M,zaG zcp [iT es,.lst xs] M = .ok (.lst ys) M:=by
 let S0:Sg := [some (iT es),some (.lst xs),none,none,none,none]
 have hl:=hd.len
 obtain ⟨m,hm,em⟩:=ziO (S:=S0) (M := []) (d:=zaa 0) rfl hd (i:=0) (b:=12) (by omega) (by omega) (by decide +kernel)
 have em:zac zaK (zac gIx (zaa 0) (dC (.int 0))) (dC (.int 12)) S0 [] = .ok (.int (m:Int)) []:=em
 have hm2:m < odds.length:=hm
 let odd:=odds[m]
 have ho:odd∈odds:=List.getElem_mem hm2
 have ix:gIx (.lst odds) (.int (m:Int)) []=some (odd,[]):=by
  rw [ix_lst',at_pos,List.getElem?_eq_getElem hm2]
  rfl
 have f:=zcR ho
 let S1:Sg := [some (iT es),some (.lst xs),some odd,none,none,none]
 have lx:dCall za0 (zab (zaa 1) (zad)) S1 [] = .ok (.int (xs.length:Int)) []:=zbV (zax (show zaa 1 S1 [] = .ok (.lst xs) [] from rfl) rfl) rfl
 obtain ⟨t,ht,et⟩:=zmH (S:=S1) (M := []) (b:=xs.length + 1) (by omega) (zmI (by omega) (by omega)) (zaS (show zaa 0 S1 [] = .ok (iT es) [] from rfl) (show dC (.int ((1:Nat):Int)) S1 [] = .ok (.int ((1:Nat):Int)) [] from rfl) (ixI 1 (by omega) [])) (ziP lx (show dC (.int ((1:Nat):Int)) S1 [] = .ok (.int ((1:Nat):Int)) [] from rfl))
 let S4:Sg := [some (iT es),some (.lst xs),some odd,some (.int (t:Int)),some (keyOf odd),none]
 let l:=zaZ xs none (some (t:Int))
 let r:=zaZ xs (some (t:Int)) none
 have lnl:l.length≤4:=Nat.le_trans zmR hx
 have lnr:r.length≤4:=Nat.le_trans zmR hx
 have gd:=zsQ hg hx (fun x h=>cut_mem h) lnl (fun x h=>cut_mem h) lnr ho (l:=l) (r:=r)
 have v1:zaa 1 S4 [] = .ok (.lst xs) []:=rfl
 have v2:zaa 2 S4 [] = .ok odd []:=rfl
 have c1:dSl false (zaa 1) (zaL) (zaM (zaa 3)) S4 [] = .ok (.lst l) []:=zmQ v1 rfl rfl
 have c2:dSl false (zaa 1) (zaM (zaa 3)) (zaL) S4 [] = .ok (.lst r) []:=zmQ v1 rfl rfl
 have e1:=zci (zci c1 (zey v2) (by simp; omega)) c2 (by simp; omega)
 have e2:=zci (zci c1 (zey (show zdD false (zd5 (dC (.str "x")) (zaa 2) (zd4)) S4 [] = .ok (.dct [("x",odd)]) [] from rfl)) (by simp; omega)) c2 (by simp; omega)
 have e3:dCall zfI (zab (zaa 1) (zad)) S4 [] = .ok (.tup xs) []:=zbV (zax v1 rfl) rfl
 have e4:=zci v1 (zey (zsR (show zaa 4 S4 [] = .ok (keyOf odd) [] from rfl) (show dC (.str "1") S4 [] = .ok (.str "1") [] from rfl) f.2.2.1)) (by simp; omega)
 let v4:List T := [.lst (l ++ [odd] ++ r),.lst (l ++ [.dct [("x",odd)]] ++ r),.tup xs,.lst (xs ++ [.dn [keyOf odd] [.str "1"]])]
 let S5:Sg := [some (iT es),some (.lst xs),some odd,some (.int (t:Int)),some (keyOf odd),some (.lst v4)]
 have w1:zaa 1 S5 [] = .ok (.lst xs) []:=rfl
 have w2:zaa 2 S5 [] = .ok odd []:=rfl
 have g1:zdD false (zd5 (dC (.str "x")) (dC (.str "1")) (zd4)) S5 [] = .ok (.dct [("x",.str "1")]) []:=rfl
 have g2:=zci w1 (zey w1) (by simp; omega)
 have g4:=zci w1 (zey (show dCall (zdd false) (zab (zaq false (zab (dTup (zab (dC (.str "x")) (zab (dC (.str "1")) (zad)))) (zab (dTup (zab (dC (.str "y")) (zab (zaa 2) (zad)))) (zad)))) (zad)) S5 [] = .ok (.dct [("x",.str "1"),("y",odd)]) [] from rfl)) (by simp; omega)
 have g5:=zci w1 (zey (show dTup (zab (dC (.str "x")) (zab (dC (.str "1")) (zad))) S5 [] = .ok (.tup [.str "x",.str "1"]) [] from rfl)) (by simp; omega)
 refine ⟨ziV xs l r odd,rfl,gd,fun M=>zaA ⟨[],zbz S0 rfl ?_⟩ (by simp only [zau,Bool.and_true,Bool.and_eq_true,zmy,true_and,zal]; exact zfn fun y hy=>(hg y hy).nc) (by simp only [zal]; exact zfn fun y hy=>(gd y hy).nc)⟩
 unfold zek
 refine (zba (zcr (t:=odd) (zaS (a := .lst odds) rfl em ix))).trans ?_
 refine (zba (S1 := [some (iT es),some (.lst xs),some odd,some (.int (t:Int)),none,none]) (zcr et)).trans ?_
 refine (zba (S1:=S4) (zcr (zsS _ _ _ ho))).trans ?_
 refine (zba (S1:=S5) (M1 := []) (zcr (t := .lst v4) ?_)).trans ?_
 ·show ((zab _ _ S4 []).bind _)=_
  rw [zax e1 (zax e2 (zax e3 (zax e4 (show zad S4 [] = .ok [] [] from rfl))))]
  rfl
 ·refine zcf (zci (a:=v4) (b := [.dct [("x",.str "1")],.lst (xs ++ [.lst xs]),odd,.lst (xs ++ [.dct [("x",.str "1"),("y",odd)]]),.lst (xs ++ [.tup [.str "x",.str "1"]])]) rfl ?_ (by show 4 + 5≤1000; omega))
  show ((zab _ _ S5 []).bind _)=_
  rw [zax g1 (zax g2 (zax w2 (zax g4 (zax g5 (show zad S5 [] = .ok [] [] from rfl)))))]
  rfl
end G
end
section
namespace G
open PySem PySem.Spec PyProof.Rows L2 Z PySem.SeqAt
def Bq0:DS:=zaN [0,3,4,5,6,7] (zaw 3 (zak 3 zec [] (zab (zaa 2) (zab (zac (zan false) (dC (.int 100)) (zaa 1)) (zab (zac (za7 false) (zaq false (zab (dC (.int 420)) zad)) (dC (.int 50))) zad)))))
def Bq1:DS:=zaN [0,1,2,4,5,6,7] (zaH (zar (zac (zan false) (zak 1 zdG [] (zab (zaa 3) zad)) (zaq false (zab (dC .non) (zab (dC (.bl true)) (zab (dC (.int 5)) (zab (dTup (zab (dC (.str "a")) zad)) (zab (zaq false (zab (dC (.str "a")) zad)) (zab (zbF false) (zab (zac zcH (dC (.str "a")) (dC (.int 8))) (zab (zac zcH (dC (.str "a")) (dC (.int 9))) (zab (dC (.str "1")) (zab (dC (.str "")) zad))))))))))))) (gN 4) (zag (zaN [0,1,2,5,6,7] (zaw 5 (zaq false (zab (zak 1 zbr [] (zab (zaa 4) zad)) (zab (zak 1 zbw [] (zab (zaa 4) zad)) (zab (zak 1 zbR [] (zab (zaa 4) zad)) zad)))))) (zaN [0,1,2,6,7] (dIf (zai (zac gNe (dCall za1 (zab (zaa 5) zad)) (dCall za1 (zab (zaq false (zab (zak 1 zb2 [] (zab (zaa 4) zad)) (zab (zak 1 zcc [] (zab (zaa 4) zad)) (zab (zak 1 zcd [] (zab (zaa 4) zad)) zad)))) zad)))) (zaN [0,1,2,3,4,5,6,7] (zav (dC (.bl false)))) dNx))) [4,5])
def Bq2:DS:=zaN [0,1,2,4,5,6,7] (zaw 6 (zak 2 ze1 [] (zab (dSl false (zaa 3) (zaM (dC (.int 15))) zaL) (zab (dC (.int 4)) zad))))
def Bq3:DS:=zaN [0,1,2,4,5,7] (zaH (zar (zac (zan false) (zac (zan false) (zaq false (zab (zaa 6) (zab (zaq false zad) (zab (zaq false (zab (zbF false) zad)) zad)))) (zak 2 zcp [] (zab (dSl false (zaa 3) (zaM (dC (.int 30))) zaL) (zab (zaa 6) zad)))) (zak 2 zcp [] (zab (dSl false (zaa 3) (zaM (dC (.int 32))) zaL) (zab (zaa 6) zad))))) (gN 4) (zag (zaN [0,1,2,3,5,7] (zaw 7 (dCall za1 (zab (zaa 4) zad)))) (zaN [0,1,2,3,5] (dIf (zbv (zai (zac gNe (dCall za1 (zab (zak 1 zbR [] (zab (zaa 4) zad)) zad)) (dCall za1 (zab (zak 1 zcd [] (zab (zaa 4) zad)) zad)))) (zai (zac gNe (dCall za1 (zab (zaa 4) zad)) (zaa 7)))) (zaN [0,1,2,3,4,5,6,7] (zav (dC (.bl false)))) dNx))) [4,7])
def Bq4:DS:=zaN [0,1,2,3,4,5,7] (dIf (zai (zac zbt (zak 1 zbR [] (zab (zaa 6) zad)) (dC (.bl true)))) (zaN [0,1,2,3,4,5,6,7] (zav (dC (.bl false)))) dNx)
def Rq4:DS:=Bq4
def Rq3:DS:=zag Bq3 Rq4
def Rq2:DS:=zag Bq2 Rq3
def Rq1:DS:=zag Bq1 Rq2
def Rq0:DS:=zag Bq0 Rq1
def WSq:List Nat := [1,2,3,4,5,6,7]
theorem zsT:ze9=zag (zaH (zfa ((8:Nat):Int)) (gTup (zaC (gN 1) (zaC (gN 2) zbk))) Rq0 WSq) (zav (dC (.bl true))):=rfl
def b1X:DE:=(zac (zan false) (zak 1 zdG [] (zab (zaa 3) zad)) (zaq false (zab (dC .non) (zab (dC (.bl true)) (zab (dC (.int 5)) (zab (dTup (zab (dC (.str "a")) zad)) (zab (zaq false (zab (dC (.str "a")) zad)) (zab (zbF false) (zab (zac zcH (dC (.str "a")) (dC (.int 8))) (zab (zac zcH (dC (.str "a")) (dC (.int 9))) (zab (dC (.str "1")) (zab (dC (.str "")) zad))))))))))))
def b1A:DS:=(zaN [0,1,2,5,6,7] (zaw 5 (zaq false (zab (zak 1 zbr [] (zab (zaa 4) zad)) (zab (zak 1 zbw [] (zab (zaa 4) zad)) (zab (zak 1 zbR [] (zab (zaa 4) zad)) zad))))))
def b1C:DS:=(zaN [0,1,2,6,7] (dIf (zai (zac gNe (dCall za1 (zab (zaa 5) zad)) (dCall za1 (zab (zaq false (zab (zak 1 zb2 [] (zab (zaa 4) zad)) (zab (zak 1 zcc [] (zab (zaa 4) zad)) (zab (zak 1 zcd [] (zab (zaa 4) zad)) zad)))) zad)))) (zaN [0,1,2,3,4,5,6,7] (zav (dC (.bl false)))) dNx))
theorem zsU:Bq1=zaN [0,1,2,4,5,6,7] (zaH (zar b1X) (gN 4) (zag b1A b1C) [4,5]):=rfl
def b3X:DE:=(zac (zan false) (zac (zan false) (zaq false (zab (zaa 6) (zab (zaq false zad) (zab (zaq false (zab (zbF false) zad)) zad)))) (zak 2 zcp [] (zab (dSl false (zaa 3) (zaM (dC (.int 30))) zaL) (zab (zaa 6) zad)))) (zak 2 zcp [] (zab (dSl false (zaa 3) (zaM (dC (.int 32))) zaL) (zab (zaa 6) zad))))
def b3A:DS:=(zaN [0,1,2,3,5,7] (zaw 7 (dCall za1 (zab (zaa 4) zad))))
def b3C:DS:=(zaN [0,1,2,3,5] (dIf (zbv (zai (zac gNe (dCall za1 (zab (zak 1 zbR [] (zab (zaa 4) zad)) zad)) (dCall za1 (zab (zak 1 zcd [] (zab (zaa 4) zad)) zad)))) (zai (zac gNe (dCall za1 (zab (zaa 4) zad)) (zaa 7)))) (zaN [0,1,2,3,4,5,6,7] (zav (dC (.bl false)))) dNx))
theorem zsV:Bq3=zaN [0,1,2,4,5,7] (zaH (zar b3X) (gN 4) (zag b3A b3C) [4,7]):=rfl
def sW (a0 a1 a2 a3 a4 a5 a6 a7:Option T):Sg := [a0,a1,a2,a3,a4,a5,a6,a7]
theorem ziW (x:Str) (M:Mem):gNe (.str x) (.str x) M=some (.bl false,M):=by
 have h:eqF true zaX (T.str x) (.str x)=some (x == x):=rfl
 simp [h]
theorem zmS (a b c:Bool) (M:Mem):za1 [.lst [.bl a,.bl b,.bl c]] M=some (.str (rp (.lst [.bl a,.bl b,.bl c])),M):=
 zhS rfl (by simp [dep,zaU]) (by simp [wt,wtL]) M
theorem zmT (a:Bool) (M:Mem):za1 [.bl a] M=some (.str (rp (.bl a)),M):=zhS rfl (by simp [dep]) (by simp [wt]) M
structure V1 (t:T):Prop where
 v:okV t=true
 n:okN t
 c:zal t=true
def S1 (D:List Int) (a4 a5:Option T):Sg:=sW none none none (some (iT D)) a4 a5 none none
theorem turn1 {t:T} (h:V1 t) (D:List Int):zaP [4,5] (zag b1A b1C) (S1 D (some t) none) [] = .nx (S1 D none none) []:=by
 let told:T := .lst [.bl (nmB t),.bl (vuB t),.bl (zch t)]
 let S:=S1 D (some t) none
 have v4:zaa 4 S [] = .ok t []:=rfl
 have c1:zak 1 zbr [] (zab (zaa 4) zad) S [] = .ok (.bl (nmB t)) []:=za2 (zax v4 rfl) rfl (qi h.v h.c [])
 have c2:zak 1 zbw [] (zab (zaa 4) zad) S [] = .ok (.bl (vuB t)) []:=za2 (zax v4 rfl) rfl (q12 h.v h.c [])
 have c3:zak 1 zbR [] (zab (zaa 4) zad) S [] = .ok (.bl (zch t)) []:=za2 (zax v4 rfl) rfl (qs h.n h.c [])
 have w1:zas S [0,1,2,5,6,7]=S:=rfl
 have eA:b1A S [] = .nx (S1 D (some t) (some told)) []:=by
  unfold b1A
  rw [x_wipe,w1]
  refine zcr (t:=told) ?_
  show ((zab _ _ S []).bind _)=_
  rw [zax c1 (zax c2 (zax c3 (show zad S [] = .ok [] [] from rfl)))]
  rfl
 let S':=S1 D (some t) (some told)
 have u4:zaa 4 S' [] = .ok t []:=rfl
 have d1:zak 1 zb2 [] (zab (zaa 4) zad) S' [] = .ok (.bl (nmB t)) []:=za2 (zax u4 rfl) rfl (qr h.v h.c [])
 have d2:zak 1 zcc [] (zab (zaa 4) zad) S' [] = .ok (.bl (vuB t)) []:=za2 (zax u4 rfl) rfl (q1g h.v h.c [])
 have d3:zak 1 zcd [] (zab (zaa 4) zad) S' [] = .ok (.bl (zch t)) []:=za2 (zax u4 rfl) rfl (q1e h.n h.c [])
 have ls:zaq false (zab (zak 1 zb2 [] (zab (zaa 4) zad)) (zab (zak 1 zcc [] (zab (zaa 4) zad)) (zab (zak 1 zcd [] (zab (zaa 4) zad)) zad))) S' [] = .ok told []:=by
  show ((zab _ _ S' []).bind _)=_
  rw [zax d1 (zax d2 (zax d3 (show zad S' [] = .ok [] [] from rfl)))]
  rfl
 have r1:dCall za1 (zab (zaa 5) zad) S' [] = .ok (.str (rp told)) []:=zbV (zax (show zaa 5 S' [] = .ok told [] from rfl) rfl) (zmS _ _ _ [])
 have r2:=zbV (zax ls (show zad S' [] = .ok [] [] from rfl)) (zmS (nmB t) (vuB t) (zch t) [])
 have w2:zas S' [0,1,2,6,7]=S':=rfl
 have eC:b1C S' [] = .nx S' []:=by
  unfold b1C
  rw [x_wipe,w2,zcg (zb5 (zaS r1 r2 (ziW _ [])))]
  rfl
 rw [u_trim,zba eA,eC,zbd _ (by rfl)]
 rfl
def l10:List T := [.non,.bl true,.int 5,.tup [.str "a"],.lst [.str "a"],.dct [],.str "aaaaaaaa",.str "aaaaaaaaa",.str "1",.str ""]
theorem zsW:l10.all (fun t=>okV t && zal t)=true:=by decide +kernel
theorem zsX {t:T} (h:t∈l10):V1 t:=by
 have q:=List.all_eq_true.mp zsW t h
 rw [Bool.and_eq_true] at q
 refine ⟨q.1,?_,q.2⟩
 simp only [l10,List.mem_cons,List.not_mem_nil,or_false] at h
 rcases h with rfl | rfl | rfl | rfl | rfl | rfl | rfl | rfl | rfl | rfl <;>
  first
  | trivial
  | exact ⟨by show 1≤1000; omega,fun x hx=>by obtain rfl:x=T.str "a" := (by simpa using hx); exact ⟨trivial,rfl⟩⟩
theorem ziX {x:Str} (h:x.length≤1000):V1 (.str x):=⟨zgB h,trivial,rfl⟩
theorem z1 {ds:List Int} (hd:Dg 50 ds) (k c:Option T):Bq1 (sW none k c (some (iT ds)) none none none none) [] = .nx (S1 ds none none) []:=by
 obtain ⟨x,y,z,hx,hy,hz,e⟩:=q37 hd
 let S:=S1 ds none none
 have w:zas (sW none k c (some (iT ds)) none none none none) [0,1,2,4,5,6,7]=S:=rfl
 have w2:zas S [4,5]=S:=rfl
 have t1:zak 1 zdG [] (zab (zaa 3) zad) S [] = .ok (.lst [.str x,.str y,.str z]) []:=za2 (ts := [iT ds]) rfl rfl (e [])
 have t2:zaq false (zab (dC .non) (zab (dC (.bl true)) (zab (dC (.int 5)) (zab (dTup (zab (dC (.str "a")) zad)) (zab (zaq false (zab (dC (.str "a")) zad)) (zab (zbF false) (zab (zac zcH (dC (.str "a")) (dC (.int 8))) (zab (zac zcH (dC (.str "a")) (dC (.int 9))) (zab (dC (.str "1")) (zab (dC (.str "")) zad)))))))))) S [] = .ok (.lst l10) []:=by kernel_rfl
 have dd:zar b1X S [] = .ok ([.str x,.str y,.str z] ++ l10) []:=by
  rw [u_walk,show b1X S [] = .ok (.lst ([.str x,.str y,.str z] ++ l10)) [] from zci t1 t2 (by show 3 + 10≤1000; omega)]
  rfl
 obtain ⟨s',e2,rfl⟩:=zgA (g:=gN 4) (b:=zaP [4,5] (zag b1A b1C)) (M := []) (I:=fun s=>s=S) ([.str x,.str y,.str z] ++ l10) S rfl (fun t ht s hs=>by
  subst hs
  have hv:V1 t:=by
   rcases List.mem_append.mp ht with q | q
   ·simp only [List.mem_cons,List.not_mem_nil,or_false] at q
    rcases q with rfl | rfl | rfl
    ·exact ziX hx
    ·exact ziX hy
    ·exact ziX hz
   ·exact zsX q
  exact ⟨_,rfl,_,turn1 hv ds,rfl⟩)
 rw [zsU,x_wipe,w,u_forW,w2,dd,zb4,w_kFor]
 exact e2
theorem zsY:namesD.all (fun s=>nmB (.str s) && Nat.ble s.length 1000)=true:=by decide +kernel
theorem zsZ:valsD.all (fun s=>vuB (.str s) && Nat.ble s.length 1000)=true:=by decide +kernel
theorem zmU {s:Str} (h:s∈namesD):nmB (.str s)=true∧s.length≤1000:=by
 have:=List.all_eq_true.mp zsY s h
 rw [Bool.and_eq_true] at this
 exact ⟨this.1,Nat.le_of_ble_eq_true this.2⟩
theorem zmV {s:Str} (h:s∈valsD):vuB (.str s)=true∧s.length≤1000:=by
 have:=List.all_eq_true.mp zsZ s h
 rw [Bool.and_eq_true] at this
 exact ⟨this.1,Nat.le_of_ble_eq_true this.2⟩
theorem zmW {s:Sc} (h:ScOk s):Itm 3 100 (zap s):=by
 refine ⟨⟨by rw [List.length_map]; have:=sc3 h; omega,fun p hp=>?_⟩,zem s,zqs s,Nat.le_trans (zh3 s) (by omega),zqt h⟩
 obtain ⟨q,hq,rfl⟩:=List.mem_map.mp hp
 refine ⟨?_,(zmU (h.ns q hq).1).2,zgB (zmV (h.ns q hq).2).2,rfl⟩
 have lk:s.lookup q.1=some q.2:=zdR h.keys hq
 show (s.map fun p=>(p.1,T.str p.2)).lookup q.1=_
 rw [zeo,lk]
 rfl
theorem Sv {s:Sc} (h:ScOk s):scB (zap s)=true:=by
 show (s.map fun p:Str × Str=>(p.1,T.str p.2)).all (fun p=>nmB (.str p.1) && vuB p.2)=true
 rw [List.all_map,List.all_eq_true]
 intro p hp
 simp [(zmU (h.ns p hp).1).1,(zmV (h.ns p hp).2).1]
def S2 (a3:Option T) (N:T) (a4 a7:Option T):Sg:=sW none none none a3 a4 none (some N) a7
theorem z2 {ds:List Int} (hd:Dg 50 ds):∃ n,NSm n 4∧Bq2 (S1 ds none none) [] = .nx (S2 (some (iT ds)) (zam n) none none) []:=by
 have h35:Dg 35 (ds.drop 15):=hd.drop (k:=15)
 obtain ⟨n,hn,e⟩:=zrT (ds.drop 15) h35.pos 4 (by have:=h35.len; omega) (by omega)
 refine ⟨n,hn,?_⟩
 let S:=S1 ds none none
 have w:zas S [0,1,2,4,5,6,7]=S:=rfl
 have a1:dSl false (zaa 3) (zaM (dC (.int ((15:Nat):Int)))) zaL S [] = .ok (iT (ds.drop 15)) []:=ziN rfl rfl
 unfold Bq2
 rw [x_wipe,w]
 exact zcr (za2 (zax a1 (zax (show dC (.int ((4:Nat):Int)) S [] = .ok (.int ((4:Nat):Int)) [] from rfl) rfl)) rfl (e []))
theorem zmX {t:T} (h:Good t) (a3:Option T) (N:T):zaP [4,7] (zag b3A b3C) (S2 a3 N (some t) none) [] = .nx (S2 none N none none) []:=by
 have rt:∀ M,za1 [t] M=some (.str (rp t),M):=fun M=>zhS h.pl (by have:=h.dep; omega) (by have:=h.wt; omega) M
 let S:=S2 none N (some t) none
 have w1:zas (S2 a3 N (some t) none) [0,1,2,3,5,7]=S:=rfl
 have eA:b3A (S2 a3 N (some t) none) [] = .nx (S2 none N (some t) (some (.str (rp t)))) []:=by
  unfold b3A
  rw [x_wipe,w1]
  exact zcr (zbV (zax (show zaa 4 S [] = .ok t [] from rfl) rfl) (rt []))
 let S':=S2 none N (some t) (some (.str (rp t)))
 have u4:zaa 4 S' [] = .ok t []:=rfl
 have c1:zak 1 zbR [] (zab (zaa 4) zad) S' [] = .ok (.bl (zch t)) []:=za2 (zax u4 rfl) rfl (qs h.ok h.nc [])
 have c2:zak 1 zcd [] (zab (zaa 4) zad) S' [] = .ok (.bl (zch t)) []:=za2 (zax u4 rfl) rfl (q1e h.ok h.nc [])
 have r1:=zbV (zax c1 (show zad S' [] = .ok [] [] from rfl)) (zmT (zch t) [])
 have r2:=zbV (zax c2 (show zad S' [] = .ok [] [] from rfl)) (zmT (zch t) [])
 have r3:=zbV (zax u4 (show zad S' [] = .ok [] [] from rfl)) (rt [])
 have w2:zas S' [0,1,2,3,5]=S':=rfl
 have eC:b3C S' [] = .nx S' []:=by
  unfold b3C
  rw [x_wipe,w2,zcg (ziE (zb5 (zaS r1 r2 (ziW _ []))) (zb5 (zaS r3 (show zaa 7 S' [] = .ok (.str (rp t)) [] from rfl) (ziW _ []))))]
  rfl
 rw [u_trim,zba eA,eC,zbd _ (by rfl)]
 rfl
theorem zs1:Good (.lst []):=zfo (fun y hy=>by cases hy) (by show 0≤20; omega)
theorem zs2:Good (.lst [.dct []]):=zfo (fun y hy=>by
 obtain rfl:y=T.dct []:=by simpa using hy
 exact ⟨⟨Nat.zero_le _,fun p hp=>by cases hp⟩,rfl,rfl,by simp [dep,zbx],by simp [wt,wtK]⟩) (by show 1≤20; omega)
theorem z3 {ds:List Int} (hd:Dg 50 ds) {n:Ne} (hn:NSm n 4):∃ s',(s'=S2 (some (iT ds)) (zam n) none none∨s'=S2 none (zam n) none none)∧Bq3 (S2 (some (iT ds)) (zam n) none none) [] = .nx s' []:=by
 have hg:∀ x∈n.map zap,Itm 3 100 x:=fun x hx=>by
  obtain ⟨s,hs,rfl⟩:=List.mem_map.mp hx
  exact zmW (hn.ok s hs)
 have hl:(n.map zap).length≤4:=by rw [List.length_map]; exact hn.len
 have d30:Dg 2 (ds.drop 30):=(hd.drop (k:=30)).mono (by omega)
 have d32:Dg 2 (ds.drop 32):=(hd.drop (k:=32)).mono (by omega)
 obtain ⟨ys,ly,gy,ey⟩:=q1i d30 hg hl
 obtain ⟨zs,lz,gz,ez⟩:=q1i d32 hg hl
 let N:=zam n
 let S:=S2 (some (iT ds)) N none none
 have w1:zas S [0,1,2,4,5,7]=S:=rfl
 have w2:zas S [4,7]=S:=rfl
 have a0:zaq false (zab (zaa 6) (zab (zaq false zad) (zab (zaq false (zab (zbF false) zad)) zad))) S [] = .ok (.lst [N,.lst [],.lst [.dct []]]) []:=rfl
 have a1:dSl false (zaa 3) (zaM (dC (.int ((30:Nat):Int)))) zaL S [] = .ok (iT (ds.drop 30)) []:=ziN rfl rfl
 have a2:dSl false (zaa 3) (zaM (dC (.int ((32:Nat):Int)))) zaL S [] = .ok (iT (ds.drop 32)) []:=ziN rfl rfl
 have v6:zaa 6 S [] = .ok (.lst (n.map zap)) []:=rfl
 have b1:zak 2 zcp [] (zab (dSl false (zaa 3) (zaM (dC (.int 30))) zaL) (zab (zaa 6) zad)) S [] = .ok (.lst ys) []:=za2 (zax a1 (zax v6 rfl)) rfl (ey [])
 have b2:zak 2 zcp [] (zab (dSl false (zaa 3) (zaM (dC (.int 32))) zaL) (zab (zaa 6) zad)) S [] = .ok (.lst zs) []:=za2 (zax a2 (zax v6 rfl)) rfl (ez [])
 have l0:([N,.lst [],.lst [.dct []]]:List T).length=3:=rfl
 have ad:=zci (zci a0 b1 (by rw [l0,ly]; omega)) b2 (by rw [List.length_append,l0,ly,lz]; omega)
 have dd:zar b3X S [] = .ok ([N,.lst [],.lst [.dct []]] ++ ys ++ zs) []:=by
  rw [u_walk,show b3X S [] = .ok (.lst ([N,.lst [],.lst [.dct []]] ++ ys ++ zs)) [] from ad]
  rfl
 have gN':Good N:=zfo (fun y hy=>(hg y hy).mono (by omega) (by omega)) (by omega)
 obtain ⟨s',e,hs⟩:=zgA (g:=gN 4) (b:=zaP [4,7] (zag b3A b3C)) (M := []) (I:=fun s=>s=S∨s=S2 none N none none) ([N,.lst [],.lst [.dct []]] ++ ys ++ zs) S (.inl rfl) (fun t ht s hs=>by
  have gt:Good t:=by
   rcases List.mem_append.mp ht with q | q
   ·rcases List.mem_append.mp q with q | q
    ·simp only [List.mem_cons,List.not_mem_nil,or_false] at q
     rcases q with rfl | rfl | rfl
     ·exact gN'
     ·exact zs1
     ·exact zs2
    ·exact gy t q
   ·exact gz t q
  rcases hs with rfl | rfl
  ·exact ⟨_,rfl,_,zmX gt _ N,.inr rfl⟩
  ·exact ⟨_,rfl,_,zmX gt _ N,.inr rfl⟩)
 refine ⟨s',hs,?_⟩
 rw [zsV,x_wipe,w1,u_forW,w2,dd,zb4,w_kFor]
 exact e
theorem z4 {n:Ne} (hn:NSm n 4):Bq4 (S2 none (zam n) none none) [] = .nx (S2 none (zam n) none none) []:=by
 let S:=S2 none (zam n) none none
 have w:zas S [0,1,2,3,4,5,7]=S:=rfl
 have ok:okN (zam n):=⟨by rw [List.length_map]; have:=hn.len; omega,fun x hx=>by
  obtain ⟨s,hs,rfl⟩:=List.mem_map.mp hx
  exact ⟨(zmW (hn.ok s hs)).ok,zem s⟩⟩
 have tr:zch (zam n)=true:=by
  show (n.map zap).all scB=true
  rw [List.all_map,List.all_eq_true]
  exact fun s hs=>Sv (hn.ok s hs)
 have c1:zak 1 zbR [] (zab (zaa 6) zad) S [] = .ok (.bl (zch (zam n))) []:=za2 (zax (show zaa 6 S [] = .ok (zam n) [] from rfl) rfl) rfl (qs ok (zbT n) [])
 rw [tr] at c1
 unfold Bq4
 rw [x_wipe,w,zcg (zb5 (zaS c1 (show dC (.bl true) S [] = .ok (.bl true) [] from rfl) (show zbt (.bl true) (.bl true) []=some (.bl false,[]) from rfl)))]
 rfl
theorem zmY (k:Nat) (c:Int) (hk:k < 65) (a0:Option T):zaP WSq Rq0 (sW a0 (some (.int (k:Int))) (some (.int c)) none none none none none) [] = .nx (sW none none none none none none none none) []:=by
 let S:Sg:=sW none (some (.int (k:Int))) (some (.int c)) none none none none none
 have h1:zaa 2 S [] = .ok (.int c) []:=rfl
 have h2:zaa 1 S [] = .ok (.int (k:Int)) []:=rfl
 have hm:zac (za7 false) (zaq false (zab (dC (.int 420)) (zad))) (dC (.int 50)) S [] = .ok (.lst ((List.replicate 50 420).map T.int)) []:=zaS (show zaq false (zab (dC (.int 420)) (zad)) S [] = .ok (.lst [.int 420]) [] from rfl) (show dC (.int 50) S [] = .ok (.int ((50:Nat):Int)) [] from rfl) (zsw 50 (by omega) [])
 obtain ⟨ds,hd,er⟩:=zqh c (100 + (k:Int)) (List.replicate 50 420) (fun s hs=>by rw [List.eq_of_mem_replicate hs]; omega) (by simp) (by omega) (by omega)
 have e0:zak 3 zec [] (zab (zaa 2) (zab (zac (zan false) (dC (.int 100)) (zaa 1)) (zab (zac (za7 false) (zaq false (zab (dC (.int 420)) (zad))) (dC (.int 50))) zad))) S [] = .ok (iT ds) []:=za2 (zax h1 (zax (zaS (show dC (.int 100) S [] = .ok (.int 100) [] from rfl) h2 rfl) (zax hm rfl))) rfl (er [])
 have q0:Bq0 (sW a0 (some (.int (k:Int))) (some (.int c)) none none none none none) [] = .nx (sW none (some (.int (k:Int))) (some (.int c)) (some (iT ds)) none none none none) []:=by
  have ws:zas (sW a0 (some (.int (k:Int))) (some (.int c)) none none none none none) [0,3,4,5,6,7]=S:=rfl
  unfold Bq0
  rw [x_wipe,ws]
  exact zcr e0
 have hD:=zsu hd
 have q1:=z1 hD (some (.int (k:Int))) (some (.int c))
 obtain ⟨n,hn,q2⟩:=z2 hD
 obtain ⟨s',hs,q3⟩:=z3 hD hn
 have q4:Bq4 s' [] = .nx (S2 none (zam n) none none) []:=by
  rw [← z4 hn]
  unfold Bq4
  rw [x_wipe,x_wipe]
  have w:zas s' [0,1,2,3,4,5,7]=zas (S2 none (zam n) none none) [0,1,2,3,4,5,7]:=by
   rcases hs with rfl | rfl <;> rfl
  rw [w]
 rw [u_trim]
 unfold Rq0
 rw [zba q0]; unfold Rq1
 rw [zba q1]; unfold Rq2
 rw [zba q2]; unfold Rq3
 rw [zba q3]; unfold Rq4
 rw [q4,zbd _ (by rfl)]
 rfl
theorem zs3 (ns:List Int) (h:ns.length≤63):∃ M',zk5 [.fz (ns.map T.int)] [] = .ok (.bl true) M':=by
 let F:Option T:=some (.fz (ns.map T.int))
 let Z:Option T→Sg:=fun a=>sW a none none none none none none none
 obtain ⟨xs,ex,hx⟩:=zsv (m:=8) (by omega) (S:=Z F) h rfl
 have w:zas (Z F) WSq=Z F:=rfl
 obtain ⟨s',e2,hs'⟩:=zgA (g:=gTup (zaC (gN 1) (zaC (gN 2) zbk))) (b:=zaP WSq Rq0) (M := []) (I:=fun s=>s=Z F∨s=Z none) xs (Z F) (.inl rfl) (fun t ht s hs=>by
  obtain ⟨k,c,hk,rfl⟩:=hx t ht
  rcases hs with rfl | rfl
  ·exact ⟨_,rfl,_,zmY k c hk F,.inr rfl⟩
  ·exact ⟨_,rfl,_,zmY k c hk none,.inr rfl⟩)
 refine ⟨[],zbz (Z F) rfl ?_⟩
 have q2:zaH (zfa ((8:Nat):Int)) (gTup (zaC (gN 1) (zaC (gN 2) zbk))) Rq0 WSq (Z F) [] = .nx s' []:=by
  rw [u_forW,w,ex,zb4,w_kFor]
  exact e2
 rw [zsT,zba q2]
 rcases hs' with rfl | rfl <;> kernel_rfl
end G
end
section
set_option maxHeartbeats 0
namespace G
open PySem PySem.Spec PyProof.Rows L2 Z PySem.SeqAt
theorem fin_law {P:Program} {w:World} {K:PySem.W.Frag} {mg:Str→Option Value} {fa:Addr} (m:Md w K mg) (hmg:mg "law" = some (.ref fa)) :
  ∃ (fd:FuncData) (sp:Sp),(∀ (s:Shared) (u:Value),BindsTo s fd ⟨[u],[]⟩ [("_law_script",u)]) ∧
    (∀ (H:Hp) (a:Addr) (ns:List Int) (od:Obj),ns.length≤63→H a=some (.frz od (.lst (ns.map V.int)))→sp [.ref a] H (fun v _=>v = .bl true) fun _ _ _=>False) ∧
    ∀ base:Heap,K.In base→base.Ns mainGlobals mg→(∃ o,base.get? sysModules=some o)→FnG P w K mg base (L2.CX P w) 5 fa fd ["_law_script"] sp:=by
 obtain ⟨fb,fd,F,gm⟩:=m.f_law
 have e:fb=fa:=by
  rw [hmg] at gm
  cases gm; rfl
 subst e
 rw [zpH] at F
 let C:Cfg:=⟨K,He.ga K,fun _=>False,fun _=>none,[]⟩
 have b:=FunD.bindsA (ps := ["_law_script"]) F fun _ _ _ _ _ _ us hl=>match us,hl with | [_],_=>rfl
 refine ⟨fd,SpZ C 1 zk5,fun s v=>b s [v] rfl,fun H a ns od hl hH=>sp_law C (zs3 ns hl) hH,fun base _ _ hsy=>?_⟩
 exact zqg (C:=C) (K:=K) (base:=base) rfl rfl (fun _=>rfl) m hsy F
end G
open PySem PySem.W PySem.Calls PyProof.Rows
theorem PySem.Challenge.cw_scopeeffect_k01_names_values_nests_holds : PySem.Challenge.rw_scopeeffect_k01_names_values_nests.Holds := by
 w_on; o_law
 refine HandSHeadRun.head_any (r:=OpenLaw.row PySem.Challenge.rw_scopeeffect_k01_names_values_nests) (q:=view (OpenLaw.row PySem.Challenge.rw_scopeeffect_k01_names_values_nests).prog [20]) (H:=G.hk) (ob:=G.ob) (M:=6000) (loose:=G.names) (d:=HandSHeadRun.topDef (OpenLaw.row PySem.Challenge.rw_scopeeffect_k01_names_values_nests).prog 20) (kwd := []) G.ob_eq
  (by kernel_rfl) (fun s=>by kernel_rfl) G.run (by kernel_rfl) (by kernel_rfl) (by kernel_rfl) (by rfl) (by first | assumption | decide +kernel) (by decide +kernel) ⟨rfl,rfl,rfl,rfl,rfl,by decide +kernel⟩ ?hw ?hc
 case hw=>w_witness2
 case hc=>
  refine Z.walk_ofG (l:=PySem.Challenge.rw_scopeeffect_k01_names_values_nests) (n:=63) (k:=5) (x := "_law_script") rfl (by decide) (by kernel_rfl) ⟨rfl,by decide,by decide⟩ ?F
  intro w mg fa h K X M Gh hmg0
  have hmg:mg ("law" : PySem.Str)=some (.ref fa):=by
   have e:(HandSHeadRun.topDef (OpenLaw.row PySem.Challenge.rw_scopeeffect_k01_names_values_nests).prog 20).name=("law" : PySem.Str):=by kernel_rfl
   rw [← e]
   exact hmg0
  exact G.fin_law (P:=(PySem.Challenge.rw_scopeeffect_k01_names_values_nests).prog) (G.md_of M X Gh) hmg
end
