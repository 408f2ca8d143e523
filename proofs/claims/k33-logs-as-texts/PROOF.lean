import PyProof.Rows.All
import Wide.All
import OpenK.AllK
import Wide.FinOn
import HandS.ForMost
import HandS.ForExc
import HandS.Wide
import HandS.IsInst
import HandS.ExcIs
import HandS.CallSlots
import HandS.Lambda
import HandS.EndTab
import HandS.HeadHook4
import HandS.Flow
import HandS.Defaults
import HandS.MakeKw
import HandS.Head2
import HandS.HeadEnd
import HandS.HeadHook2
import HandS.Zip
import PyProof.CollectIter
import PyProof.WalksMore
import HandS.Small
import HandS.SetFor
import HandS.Strs
import HandS.FStr
import HandS.RaiseMore
import HandS.TupMul
import HandS.MakeKwOnly
import KE.KCallOwn
import HandS.HeadWalk
import KE.GoesEnum
import HandS.Conv
import HandS.Style
import HandS.ExcInit
import KE.KExcInit
import HandS.ExcField
import KE.KExcIs
import HandS.Text
import PyProof.Rows.ListMulArg
import HandS.DictComp
import HandS.SetKeys
import KE.KDictDisplayH
import HandS.SortRule
import KE.KAssignIn
import KE.KEqNest
import KE.DataFind
import HandS.Remove
import PyProof.NeKinds
import HandS.Deep
import PyProof.InstNe
import HandS.More
import HandS.HeadHook3
import HandS.SortKw
import KE.DatumOrd
import PyProof.DictUpdate
import HandS.TupAny
import HandS.DictEq
import PyProof.FactsLen
import HandS.Rev
import HandS.Finally
import HandS.OwnEq
import PyProof.EqKinds
import PyProof.FactsAll.dict_1
import PyProof.SeqRoads2
import HandS.Dict
import HandS.StrMore
import HandS.Codes
import PyProof.ReprBulk
import PySem.Challenge.RW_sharetags_k33_logs_as_texts
set_option Elab.async false
set_option linter.all false
set_option maxRecDepth 100000
set_option maxHeartbeats 8000000
namespace G
open PySem L2
inductive D where
  | non | bl (b:Bool) | int (i:Int) | str (x:Str)
  | tup (l:List D) | lst (l:List D) | scr (l:List D) | dic (ks:List Key) (l:List D) | loc (n:Nat)
  | exc (c:Nat) (fs:List (Nat×D))
  | ins (c:Nat) (fs:List (Nat×D))
  | fa (a:Nat)
  | pin (v:V) (d:D)
inductive Cell where
  | dead | lst (l:List D) | dk (kvs:List (Key×D)) | fk (kvs:List (Key×D)) | ts (ks:List (List Int)) | fs (ks:List (List Int)) | obj (c:Nat) (fs:List (Nat×D)) | tbl (p:Str×Option Str) (q:Str)
def Cell.frz:Cell→Bool
  | .fk _=>true
  | .fs _=>true
  | _=>false
def hashL (k:List Int):Int:=reduceHash (Builtin.Tuple.tupleHashOf (k.map hashInt))
def TsP (a:Addr) (xs:List (List Int×Addr)):Heap→Prop:=fun h=>∃ o es ep,h.get? a=some o∧o.ExactDict∧o.data = .dict es ep∧es.toList=xs.map (fun x=>⟨hashL x.1, .ref x.2, .bool true⟩)∧(xs.map (·.1)).Nodup
def cnames:List String:=["TagError","LostError","ShareError","NoRatio","NoText","NoName","NoRate","NoWeight","NoNumber","NoTime","NoTags","NoSize","NoClient","NoLeast","NoRivals","NoTruth","NoDeeds","NoLog","NoStretch","NoLess","NoPlan","NoLeasts","NoWord","NoRow","NoOne","NoAsk","NoPlace","Nought","Stands","TooMany","TooMuch","Full","Past","Client","Bookings","Seat","Room","Server","Fleet","Desk","Tale","Walk","Chair","Replay","Served","Glance","Look"]
def fnames:List String:=["name","least","most","weight","row","rate","place","taken","time","lines","at","begins","begun","bookings","books","by","came","chairs","clocks","coming","due_time","fates","gate","heft","hefts","held","here","kept","leasts","lifts","limit","line","marks","mosts","number","rates","room","rows","seats","ships","sizes","speed","tales","told","turned","until","why","size"]
def cname (c:Nat):Str:=Str.ofString (cnames.getD c "")
def fname (c:Nat):Str:=Str.ofString (fnames.getD c "")
abbrev Store:=List Cell
abbrev En:=List (Option D)
structure Wo where
  al:List Addr
  st:Store
  hp:Hp
  /-- what is being built and nobody sees -/
  hid:List Addr
def Zl (w:Wo) (a:Addr):Prop:=(∃ (n:Nat) (c:Cell),w.al[n]? = some a∧w.st[n]? = some c∧c≠Cell.dead)∨a∈w.hid
def StO (w:Wo) (a:Addr) (u:HO):Prop:=Rd w.hp a u∧¬ Zl w a
def StP (w:Wo) (a:Addr) (u:HO):Prop:=w.hp a=some u∧¬ Zl w a
def KtT (K:PySem.W.Frag) (a:Addr) (vs:List V):Prop:=
  ∃ (o:Obj) (its:Array Value) (n:Nat),K.lookup a=some o∧o.cls = .type "tuple"∧o.data = .seq its n∧its.size≤sizeLine∧Vals vs its.toList
def KtL (K:PySem.W.Frag) (a:Addr) (vs:List V):Prop:=
  ∃ (o:Obj) (its:Array Value) (n:Nat),K.lookup a=some o∧o.cls = .type "list"∧o.dict=none∧o.data = .seq its n∧its.size≤sizeLine∧Vals vs its.toList
def StT (K:PySem.W.Frag) (w:Wo) (a:Addr) (vs:List V):Prop:=StO w a (.tup vs)∨KtT K a vs
def StL (K:PySem.W.Frag) (w:Wo) (a:Addr) (vs:List V):Prop:=StO w a (.lst vs)∨KtL K a vs
theorem StT.sq {K:PySem.W.Frag}{w:Wo}{a:Addr}{vs:List V}(h:StT K w a vs):SqT K w.hp a vs:=by
  rcases h with h | h
  · exact .inl h.1
  · exact .inr h
theorem StL.sq {K:PySem.W.Frag}{w:Wo}{a:Addr}{vs:List V}(h:StL K w a vs):SqL K w.hp a vs:=by
  rcases h with h | h
  · exact .inl h.1
  · exact .inr h
def ExcO (a:Addr) (cls:Value) (dd:Option Addr):HO:=.ext fun h=>∃ o vs,h.get? a=some o∧o.cls=cls∧o.dict=dd∧o.data = .fields vs
def XfO (w:Wo) (dd:Option Addr) (gs:List (Str×V)):Prop:=(gs = []∧dd=none)∨(gs≠[]∧∃ x,dd=some x∧StP w x (.xd gs))
mutual
inductive RepD (K:PySem.W.Frag) (mg:Str→Option Value) (w:Wo):D→V→Prop where
  | non:RepD K mg w .non .non
  | bl (b:Bool):RepD K mg w (.bl b) (.bl b)
  | int (i:Int):RepD K mg w (.int i) (.int i)
  | str (x:Str):RepD K mg w (.str x) (.str x)
  | tup {l:List D}{a:Addr}{vs:List V}:StT K w a vs→RepL K mg w l vs→RepD K mg w (.tup l) (.ref a)
  | lst {l:List D}{a:Addr}{vs:List V}:StP w a (.lst vs)→RepL K mg w l vs→RepD K mg w (.lst l) (.ref a)
  | scr {l:List D}{a:Addr}{vs:List V}:StL K w a vs→RepL K mg w l vs→RepD K mg w (.scr l) (.ref a)
  | dic {ks:List Key}{l:List D}{a:Addr}{vs:List V}:StP w a (.dK (ks.zip vs))→ks.length=vs.length→RepL K mg w l vs→RepD K mg w (.dic ks l) (.ref a)
  | loc {n:Nat}{a:Addr}:w.al[n]? = some a→RepD K mg w (.loc n) (.ref a)
  | ins {c:Nat}{C a dx:Addr}{fs:List (Nat×D)}{gs:List (Str×V)}:mg (cname c)=some (.ref C)→StP w a (.ins C dx gs)→RepF K mg w fs gs→RepD K mg w (.ins c fs) (.ref a)
  | exc {c:Nat}{C a:Addr}{dd:Option Addr}{fs:List (Nat×D)}{gs:List (Str×V)}:mg (cname c)=some (.ref C)→StP w a (ExcO a (.ref C) dd)→XfO w dd gs→RepF K mg w fs gs→RepD K mg w (.exc c fs) (.ref a)
  | fa (a:Addr):RepD K mg w (.fa a) (.ref a)
  | pin {d:D}{v:V}:RepD K mg w d v→RepD K mg w (.pin v d) v
inductive RepL (K:PySem.W.Frag) (mg:Str→Option Value) (w:Wo):List D→List V→Prop where
  | nil:RepL K mg w [] []
  | cons {d:D}{v:V}{l:List D}{vs:List V}:RepD K mg w d v→RepL K mg w l vs→RepL K mg w (d::l) (v::vs)
inductive RepF (K:PySem.W.Frag) (mg:Str→Option Value) (w:Wo):List (Nat×D)→List (Str×V)→Prop where
  | nil:RepF K mg w [] []
  | cons {f:Nat}{d:D}{v:V}{l:List (Nat×D)}{vs:List (Str×V)}:RepD K mg w d v→RepF K mg w l vs→RepF K mg w ((f,d)::l) ((fname f,v)::vs)
end
structure Ex0 (w w':Wo):Prop where
  al:∃ t,w'.al=w.al++t
  zz:∀ a,Zl w' a→Zl w a∨w.hp a=none
  keep:∀ a o,w.hp a=some o→¬ Zl w a→w'.hp a=some o
  tr:∀ a o,w.hp a=some o→∃ o',w'.hp a=some o'
def Fz (w w':Wo):Prop:=∀ (n:Nat) (a:Addr) (c:Cell),w.al[n]? = some a→w.st[n]? = some c→c.frz=true→w'.st[n]? = some c∧w'.hp a=w.hp a
theorem Fz.trans {w w1 w2:Wo}(x:∃ t,w1.al=w.al++t) (a:Fz w w1) (b:Fz w1 w2):Fz w w2:=fun n y c h1 h2 h3=>by
  obtain ⟨t,e⟩:=x
  obtain ⟨f1,f2⟩:=a n y c h1 h2 h3
  have h1':w1.al[n]? = some y:=by
    rw [e,List.getElem?_append_left (List.getElem?_eq_some_iff.mp h1).1];exact h1
  obtain ⟨g1,g2⟩:=b n y c h1' f1 h3
  exact ⟨g1,g2.trans f2⟩
structure Ext (w w':Wo):Prop extends Ex0 w w' where
  hid:w'.hid=w.hid
  kh:∀ a,a∈w.hid→w'.hp a=w.hp a
  fz:Fz w w'
theorem Ex0.trans {w w1 w2:Wo}(a:Ex0 w w1) (b:Ex0 w1 w2):Ex0 w w2:=by
  refine ⟨?_,fun x h => ?_,fun x o h z => ?_,fun x o h => ?_⟩
  · obtain ⟨t,e⟩:=a.al
    obtain ⟨u,f⟩:=b.al
    exact ⟨t++u,by rw [f,e,List.append_assoc]⟩
  · rcases b.zz x h with h | h
    · exact a.zz x h
    · refine .inr ?_
      cases e:w.hp x with
      | none=>rfl
      | some o=>
        obtain ⟨o',f⟩:=a.tr x o e
        rw [f] at h;cases h
  · refine b.keep x o (a.keep x o h z) fun q => ?_
    rcases a.zz x q with q | q
    · exact z q
    · rw [h] at q;cases q
  · obtain ⟨o',f⟩:=a.tr x o h
    exact b.tr x o' f
theorem Ext.trans {w w1 w2:Wo}(a:Ext w w1) (b:Ext w1 w2):Ext w w2:=
  ⟨a.toEx0.trans b.toEx0,b.hid.trans a.hid,fun x h=>(b.kh x (by rw [a.hid];exact h)).trans (a.kh x h),a.fz.trans a.al b.fz⟩
theorem Rd.some {H:Hp}{a:Addr}{u:HO}(h:Rd H a u):∃ o,H a=some o:=by
  rcases h with h | ⟨o,h⟩
  · exact ⟨_,h⟩
  · exact ⟨_,h⟩
theorem StO.ext {w w':Wo}{a:Addr}{u:HO}(h:StO w a u) (e:Ex0 w w'):StO w' a u:=by
  obtain ⟨r,z⟩:=h
  obtain ⟨o,ho⟩:=Rd.some r
  refine ⟨?_,fun q => ?_⟩
  · rcases r with r | ⟨o',r⟩
    · exact .inl (e.keep _ _ r z)
    · exact .inr ⟨o',e.keep _ _ r z⟩
  · rcases e.zz a q with q | q
    · exact z q
    · rw [ho] at q;cases q
theorem StP.ext {w w':Wo}{a:Addr}{u:HO}(h:StP w a u) (e:Ex0 w w'):StP w' a u:=by
  obtain ⟨r,z⟩:=h
  refine ⟨e.keep _ _ r z,fun q => ?_⟩
  rcases e.zz a q with q | q
  · exact z q
  · rw [r] at q;cases q
theorem StT.ext {K:PySem.W.Frag}{w w':Wo}{a:Addr}{vs:List V}(h:StT K w a vs) (e:Ex0 w w'):StT K w' a vs:=h.imp (fun h=>h.ext e) id
theorem StL.ext {K:PySem.W.Frag}{w w':Wo}{a:Addr}{vs:List V}(h:StL K w a vs) (e:Ex0 w w'):StL K w' a vs:=h.imp (fun h=>h.ext e) id
theorem XfO.ext {w w':Wo}{dd:Option Addr}{gs:List (Str×V)}(h:XfO w dd gs) (e:Ex0 w w'):XfO w' dd gs:=h.imp id fun ⟨z,x,q,s⟩=>⟨z,x,q,s.ext e⟩
theorem Ex0.get {w w':Wo}(e:Ex0 w w') {n:Nat}{a:Addr}(h:w.al[n]? = some a):w'.al[n]? = some a:=by
  obtain ⟨t,f⟩:=e.al
  rw [f,List.getElem?_append_left (List.getElem?_eq_some_iff.mp h).1]
  exact h
variable {K:PySem.W.Frag}{mg:Str→Option Value}{w w':Wo}
mutual
theorem RepD.ext {d:D}{v:V}:RepD K mg w d v→Ex0 w w'→RepD K mg w' d v
  | .non,_ => .non
  | .bl b,_ => .bl b
  | .int i,_ => .int i
  | .str x,_ => .str x
  | .tup h r,e => .tup (h.ext e) (RepL.ext r e)
  | .lst h r,e => .lst (h.ext e) (RepL.ext r e)
  | .scr h r,e => .scr (h.ext e) (RepL.ext r e)
  | .dic h z r,e => .dic (h.ext e) z (RepL.ext r e)
  | .loc h,e => .loc (e.get h)
  | .ins g h r,e => .ins g (h.ext e) (RepF.ext r e)
  | .exc g h x r,e => .exc g (h.ext e) (x.ext e) (RepF.ext r e)
  | .fa a,_ => .fa a
  | .pin h,e => .pin (RepD.ext h e)
theorem RepL.ext {l:List D}{vs:List V}:RepL K mg w l vs→Ex0 w w'→RepL K mg w' l vs
  | .nil,_ => .nil
  | .cons r t,e => .cons (RepD.ext r e) (RepL.ext t e)
theorem RepF.ext {l:List (Nat×D)}{vs:List (Str×V)}:RepF K mg w l vs→Ex0 w w'→RepF K mg w' l vs
  | .nil,_ => .nil
  | .cons r t,e => .cons (RepD.ext r e) (RepF.ext t e)
end
theorem RepL.length {l:List D}{vs:List V}:RepL K mg w l vs→l.length=vs.length
  | .nil=>rfl
  | .cons _ t=>by rw [List.length_cons,List.length_cons,RepL.length t]
theorem RepL.get {l:List D}{vs:List V}{i:Nat}{d:D}:RepL K mg w l vs→l[i]? = some d→∃ v,vs[i]? = some v∧RepD K mg w d v
  | .nil,h=>by simp at h
  | .cons r t,h=>by
    cases i with
    | zero=>simp at h;subst h;exact ⟨_,by simp,r⟩
    | succ i=>
      obtain ⟨v,e,q⟩:=RepL.get (i:=i) t (by simpa using h)
      exact ⟨v,by simpa using e,q⟩
theorem RepL.set {l:List D}{vs:List V}{d:D}{v:V}(q:RepD K mg w d v):∀ (i:Nat),RepL K mg w l vs→RepL K mg w (l.set i d) (vs.set i v)
  | _, .nil => .nil
  | 0, .cons _ t => .cons q t
  | i+1, .cons r t => .cons r (RepL.set q i t)
theorem RepL.take {l:List D}{vs:List V}:∀ (n:Nat),RepL K mg w l vs→RepL K mg w (l.take n) (vs.take n)
  | 0,_=>by simp only [List.take_zero];exact .nil
  | _+1, .nil => .nil
  | n+1, .cons r t => .cons r (RepL.take n t)
theorem RepL.drop {l:List D}{vs:List V}:∀ (n:Nat),RepL K mg w l vs→RepL K mg w (l.drop n) (vs.drop n)
  | 0,h=>h
  | _+1, .nil => .nil
  | n+1, .cons _ t=>RepL.drop n t
inductive RepK (κ:Type) (K:PySem.W.Frag) (mg:Str→Option Value) (w:Wo):List (κ×D)→List (κ×V)→Prop where
  | nil:RepK κ K mg w [] []
  | cons {f:κ}{d:D}{v:V}{l:List (κ×D)}{vs:List (κ×V)}:RepD K mg w d v→RepK κ K mg w l vs→RepK κ K mg w ((f,d)::l) ((f,v)::vs)
theorem RepK.ext {κ:Type}{l:List (κ×D)}{vs:List (κ×V)}:RepK κ K mg w l vs→Ex0 w w'→RepK κ K mg w' l vs
  | .nil,_ => .nil
  | .cons r t,e => .cons (r.ext e) (RepK.ext t e)
def CellR (K:PySem.W.Frag) (mg:Str→Option Value) (w:Wo) (a:Addr):Cell→Prop
  | .dead=>True
  | .lst l=>∃ vs,w.hp a=some (.lst vs)∧RepL K mg w l vs
  | .dk kvs=>∃ us,w.hp a=some (.dK us)∧RepK Key K mg w kvs us
  | .fk kvs=>∃ o us,w.hp a=some (.frz o (.dK us))∧RepK Key K mg w kvs us
  | .ts ks=>(a == sysModules)=false∧ks.length≤sizeLine∧∃ xs:List (List Int×Addr),xs.map (·.1)=ks∧w.hp a=some (.ext (TsP a xs))∧∀ x,x∈xs→StT K w x.2 (x.1.map V.int)
  | .fs ks=>(a == sysModules)=false∧ks.length≤sizeLine∧∃ (o:Obj) (xs:List (List Int×Addr)),xs.map (·.1)=ks∧w.hp a=some (.frz o (.ext (TsP a xs)))∧∀ x,x∈xs→StT K w x.2 (x.1.map V.int)
  | .obj c fs=>∃ C dx gs,mg (cname c)=some (.ref C)∧w.hp a=some (.ins C dx gs)∧RepF K mg w fs gs
  | .tbl p q=>a=(He.cT K p).2∧∃ ps:Array Value,w.hp a=some (.tbl ps)∧TriplesOk ps.toList∧∀ (pos:Pos) (cv:Value),codeAmong pos ps.toList=some cv→∃ c o,cv = .ref c∧w.hp c=some (.frz o (LamX.CodeO c q))∧¬ Zl w c
theorem CellR.ext {a:Addr}{c:Cell}(h:CellR K mg w a c) (e:Ex0 w w') (k:w'.hp a=w.hp a):CellR K mg w' a c:=by
  cases c with
  | dead=>trivial
  | lst l=>obtain ⟨vs,p,r⟩:=h;exact ⟨vs,k.trans p,r.ext e⟩
  | dk l=>obtain ⟨vs,p,r⟩:=h;exact ⟨vs,k.trans p,r.ext e⟩
  | fk l=>obtain ⟨o,vs,p,r⟩:=h;exact ⟨o,vs,k.trans p,r.ext e⟩
  | ts l=>obtain ⟨h1,h2,xs,h3,h4,h5⟩:=h;exact ⟨h1,h2,xs,h3,k.trans h4,fun x hx=>(h5 x hx).ext e⟩
  | fs l=>obtain ⟨h1,h2,o,xs,h3,h4,h5⟩:=h;exact ⟨h1,h2,o,xs,h3,k.trans h4,fun x hx=>(h5 x hx).ext e⟩
  | obj c l=>obtain ⟨C,dx,gs,g,p,r⟩:=h;exact ⟨C,dx,gs,g,k.trans p,r.ext e⟩
  | tbl _ q=>
    obtain ⟨ea,ps,p,t,r⟩:=h
    refine ⟨ea,ps,k.trans p,t,fun pos cv hc => ?_⟩
    obtain ⟨c,o,e1,e2,e3⟩:=r pos cv hc
    refine ⟨c,o,e1,e.keep _ _ e2 e3,fun z => ?_⟩
    rcases e.zz c z with z | z
    · exact e3 z
    · rw [e2] at z;cases z
structure Rep (K:PySem.W.Frag) (mg:Str→Option Value) (w:Wo):Prop where
  len:w.al.length=w.st.length
  nd:w.al.Nodup
  tr:∀ a,a∈w.al→∃ o,w.hp a=some o
  cell:∀ (n:Nat) (a:Addr) (c:Cell),w.al[n]? = some a→w.st[n]? = some c→CellR K mg w a c
  hid:∀ a,a∈w.hid→a∉w.al∧∃ o,w.hp a=some o
structure RepE (K:PySem.W.Frag) (mg:Str→Option Value) (w:Wo) (e:En) (s:St):Prop where
  len:e.length=s.length
  get:∀ (i:Nat) (d:D),e[i]? = some (some d)→∃ v,s[i]? = some (some v)∧RepD K mg w d v
theorem RepE.ext {e:En}{s:St}(h:RepE K mg w e s) (x:Ex0 w w'):RepE K mg w' e s:=
  ⟨h.len,fun i d g=>let ⟨v,p,r⟩:=h.get i d g;⟨v,p,r.ext x⟩⟩
theorem RepE.set {e:En}{s:St}{d:D}{v:V}(h:RepE K mg w e s) (i:Nat) (r:RepD K mg w d v):RepE K mg w (e.set i (some d)) (s.set i (some v)):=by
  refine ⟨by rw [List.length_set,List.length_set];exact h.len,fun j d' g => ?_⟩
  by_cases hj:j=i
  · subst hj
    by_cases hl:j<e.length
    · rw [List.getElem?_set_self hl] at g
      cases g
      exact ⟨v,by rw [List.getElem?_set_self (by rw [← h.len];exact hl)],r⟩
    · rw [List.getElem?_eq_none (by simpa using hl)] at g;cases g
  · rw [List.getElem?_set_ne (Ne.symm hj)] at g ⊢
    exact h.get j d' g
inductive Res (β:Type) where
  | ok (b:β) (S:Store)
  | exc (e:D) (S:Store)
  | stuck
def Res.bind {β γ:Type}(r:Res β) (k:β→Store→Res γ):Res γ:=match r with
  | .ok b S=>k b S
  | .exc e S => .exc e S
  | .stuck => .stuck
def RepX (K:PySem.W.Frag) (mg:Str→Option Value) (w:Wo) (e:D) (cls:Value) (dd:Option Addr):Prop:=
  ∃ c C fs gs,e = .exc c fs∧mg (cname c)=some (.ref C)∧cls = .ref C∧XfO w dd gs∧RepF K mg w fs gs
theorem RepX.ext {e:D}{cls:Value}{dd:Option Addr}(h:RepX K mg w e cls dd) (x:Ex0 w w'):RepX K mg w' e cls dd:=by
  obtain ⟨c,C,fs,gs,h1,h2,h3,h4,h5⟩:=h
  exact ⟨c,C,fs,gs,h1,h2,h3,h4.ext x,h5.ext x⟩
def Post {β γ:Type}(Rl:Wo→β→γ→Prop) (K:PySem.W.Frag) (mg:Str→Option Value) (w:Wo) (r:Res β) (Q:γ→Hp→Prop) (E:XK):Prop:=match r with
  | .ok b S=>∀ w' v,Ext w w'→Rep K mg w'→w'.st=S→Rl w' b v→Q v w'.hp
  | .exc e S=>∀ w' cls dd,Ext w w'→Rep K mg w'→w'.st=S→RepX K mg w' e cls dd→E cls dd w'.hp
  | .stuck=>False
theorem Post.ext {β γ:Type}{Rl:Wo→β→γ→Prop}{r:Res β}{Q:γ→Hp→Prop}{E:XK}(h:Post Rl K mg w r Q E) (x:Ext w w'):Post Rl K mg w' r Q E:=by
  cases r with
  | ok b S=>exact fun w2 v e=>h w2 v (x.trans e)
  | exc e S=>exact fun w2 v d e=>h w2 v d (x.trans e)
  | stuck=>exact h
theorem Post.imp {β γ:Type}{Rl:Wo→β→γ→Prop}{r:Res β}{Q Q':γ→Hp→Prop}{E:XK}(h:Post Rl K mg w r Q E) (i:∀ v H,Q v H→Q' v H):Post Rl K mg w r Q' E:=by
  cases r with
  | ok b S=>exact fun w2 v e R s r=>i _ _ (h w2 v e R s r)
  | exc e S=>exact h
  | stuck=>exact h
def Mid {β γ δ ε:Type}(Rl:Wo→β→γ→Prop) (Rm:Wo→δ→ε→Prop) (K:PySem.W.Frag) (mg:Str→Option Value) (w:Wo) (k:β→Store→Res δ) (Q:ε→Hp→Prop) (E:XK):γ→Hp→Prop:=fun v H=>
  ∃ w1 b,w1.hp=H∧Ext w w1∧Rep K mg w1∧Rl w1 b v∧Post Rm K mg w1 (k b w1.st) Q E
theorem Post.bind {β γ δ ε:Type}{Rl:Wo→β→γ→Prop}{Rm:Wo→δ→ε→Prop}{r:Res β}{k:β→Store→Res δ}{Q:ε→Hp→Prop}{E:XK}(h:Post Rm K mg w (r.bind k) Q E) :
    Post Rl K mg w r (Mid Rl Rm K mg w k Q E) E:=by
  cases r with
  | ok b S=>
    intro w1 v e R s q
    subst s
    exact ⟨w1,b,rfl,e,R,q,Post.ext (Rl:=Rm) h e⟩
  | exc e S=>exact h
  | stuck=>exact h
end G
namespace G
open PySem L2
abbrev EM:=En→Store→Res D
abbrev TM:=En→Store→Res Bool
end G
namespace G
open PySem L2
section
variable {X:Cx}{W:WX}{a b c e o:Expr}{es:List Expr}{ma mb mc me:EM}{ta tb:TM}{pos:Pos}
variable {K:PySem.W.Frag}{mg:Str→Option Value}{w:Wo}
theorem RepL.at {l:List D}{vs:List V}{i:Int}{d:D}(h:RepL K mg w l vs) (e:atI l i=some d):∃ v,atI vs i=some v∧RepD K mg w d v:=by
  unfold atI at e ⊢
  rw [← h.length]
  cases q:ixN l.length i with
  | none=>rw [q] at e;cases e
  | some j=>
    rw [q] at e
    exact h.get e
def lenD (S:Store):D→Option Nat
  | .str x=>if x.length≤sizeLine then some x.length else none
  | .tup l=>some l.length
  | .lst l=>some l.length
  | .scr l=>some l.length
  | .loc n=>match S[n]? with
    | some (.lst l)=>some l.length
    | _=>none
  | _=>none
theorem RepD.len {d:D}{v:V}{n:Nat}(R:Rep K mg w) (h:RepD K mg w d v) (e:lenD w.st d=some n):LenV K v w.hp n:=by
  cases h with
  | str x=>
    replace e:(if x.length≤sizeLine then some x.length else none)=some n:=e
    split at e
    · cases e;exact ⟨by assumption,rfl⟩
    · cases e
  | tup s r=>cases e;exact .inr ⟨_,s.sq,r.length⟩
  | lst s r=>cases e;exact .inl ⟨_,SqL.of s.1,r.length⟩
  | scr s r=>cases e;exact .inl ⟨_,s.sq,r.length⟩
  | @loc m a hn=>
    replace e:(match w.st[m]? with
      | some (.lst l)=>some l.length
      | _=>none)=some n:=e
    split at e
    · rename_i l hl
      cases e
      obtain ⟨vs,p,r⟩:=R.cell _ _ _ hn hl
      exact .inl ⟨vs,SqL.of p,r.length⟩
    · cases e
  | _=>cases e
def seqD (S:Store):D→Option (List D)
  | .lst l=>some l
  | .scr l=>some l
  | .loc n=>match S[n]? with
    | some (.lst l)=>some l
    | _=>none
  | _=>none
theorem RepD.seq {d:D}{v:V}{l:List D}(R:Rep K mg w) (h:RepD K mg w d v) (e:seqD w.st d=some l):∃ a vs,v = .ref a∧SqL K w.hp a vs∧RepL K mg w l vs:=by
  cases h with
  | lst s r=>cases e;exact ⟨_,_,rfl,SqL.of s.1,r⟩
  | scr s r=>cases e;exact ⟨_,_,rfl,s.sq,r⟩
  | @loc m a hn=>
    replace e:(match w.st[m]? with
      | some (.lst l)=>some l
      | _=>none)=some l:=e
    split at e
    · rename_i l hl
      cases e
      obtain ⟨vs,p,r⟩:=R.cell _ _ _ hn hl
      exact ⟨_,vs,rfl,SqL.of p,r⟩
    · cases e
  | _=>cases e
inductive Ty where
  | int | bool | str | tuple | list | dict
def Ty.nm:Ty→String
  | .int=>"int" | .bool=>"bool" | .str=>"str" | .tuple=>"tuple" | .list=>"list" | .dict=>"dict"
inductive Tn where
  | non | bool | int | str | tuple | list | dict
def Tn.nm:Tn→String
  | .non=>"NoneType" | .bool=>"bool" | .int=>"int" | .str=>"str" | .tuple=>"tuple" | .list=>"list" | .dict=>"dict"
end
end G
namespace G
open PySem L2
inductive SRes where
  | nxt (e:En) (S:Store)
  | ret (d:D) (S:Store)
  | brk (e:En) (S:Store)
  | cnt (e:En) (S:Store)
  | exc (x:D) (e:En) (S:Store)
  | stuck
abbrev SM:=En→Store→SRes
def PostS (X:Cx) (W:WX) (w:Wo) (r:SRes) (D:Ends):Prop:=match r with
  | .nxt e S=>∀ w' s',Ext w w'→Rep X.K X.mg w'→w'.st=S→RepE X.K X.mg w' e s'→D.nx s' w'.hp
  | .ret d S=>∀ w' v,Ext w w'→Rep X.K X.mg w'→w'.st=S→RepD X.K X.mg w' d v→D.rt v w'.hp
  | .brk e S=>∀ w' s',Ext w w'→Rep X.K X.mg w'→w'.st=S→RepE X.K X.mg w' e s'→D.bk s' w'.hp
  | .cnt e S=>∀ w' s',Ext w w'→Rep X.K X.mg w'→w'.st=S→RepE X.K X.mg w' e s'→D.ct s' w'.hp
  | .exc x e S=>∀ w' s' cls dd,Ext w w'→Rep X.K X.mg w'→w'.st=S→RepE X.K X.mg w' e s'→RepX X.K X.mg w' x cls dd→W cls dd s' w'.hp
  | .stuck=>False
def tS (X:Cx) (W:WX) (m:SM):TS:=fun D s H=>∃ w e,w.hp=H∧Rep X.K X.mg w∧RepE X.K X.mg w e s∧PostS X W w (m e w.st) D
def sE {β:Type}(r:Res β) (e:En) (k:β→Store→SRes):SRes:=match r with
  | .ok b S=>k b S
  | .exc x S => .exc x e S
  | .stuck => .stuck
def sS (r:SRes) (k:SM):SRes:=match r with
  | .nxt e S=>k e S
  | r=>r
section
variable {X:Cx}{W:WX}{a b c e o:Expr}{es:List Expr}{ma mb mc me:EM}{ta tb:TM}{pos:Pos}{st:Stmt}{rest:List Stmt}{m n:SM}
theorem PostS.ext {w w':Wo}{r:SRes}{D:Ends}(h:PostS X W w r D) (x:Ext w w'):PostS X W w' r D:=by
  cases r with
  | nxt e S=>exact fun w2 s e=>h w2 s (x.trans e)
  | ret e S=>exact fun w2 s e=>h w2 s (x.trans e)
  | brk e S=>exact fun w2 s e=>h w2 s (x.trans e)
  | cnt e S=>exact fun w2 s e=>h w2 s (x.trans e)
  | exc y e S=>exact fun w2 s c d e=>h w2 s c d (x.trans e)
  | stuck=>exact h
def MidS {β γ:Type}(Rl:Wo→β→γ→Prop) (X:Cx) (W:WX) (w:Wo) (k:β→Store→SRes) (D:Ends):γ→Hp→Prop:=fun v H=>
  ∃ w1 b,w1.hp=H∧Ext w w1∧Rep X.K X.mg w1∧Rl w1 b v∧PostS X W w1 (k b w1.st) D
theorem PostS.of {β γ:Type}{Rl:Wo→β→γ→Prop}{w:Wo}{r:Res β}{en:En}{s:St}{k:β→Store→SRes}{D:Ends}(h:PostS X W w (sE r en k) D) (E:RepE X.K X.mg w en s) :
    Post Rl X.K X.mg w r (MidS Rl X W w k D) (fun cls dd H'=>W cls dd s H'):=by
  cases r with
  | ok b S=>
    intro w1 v x R st q
    subst st
    exact ⟨w1,b,rfl,x,R,q,PostS.ext h x⟩
  | exc y S=>exact fun w1 cls dd x R st q=>h w1 s cls dd x R st (E.ext x.toEx0) q
  | stuck=>exact h
theorem PostS.s {w:Wo}{r:SRes}{n:SM}{D:Ends}(h:PostS X W w (sS r n) D):PostS X W w r { D with nx:=tS X W n D }:=by
  cases r with
  | nxt e S=>
    intro w1 s x R st E
    subst st
    exact ⟨w1,e,rfl,R,E,PostS.ext h x⟩
  | ret e S=>exact h
  | brk e S=>exact h
  | cnt e S=>exact h
  | exc y e S=>exact h
  | stuck=>exact h
end
end G
namespace G
open PySem L2
inductive Tg where
  | nm (i:Nat)
  | tp (is:List Nat)
def gNs:List Nat→TGs
  | []=>gNil
  | i::r=>gCons (gName i) (gNs r)
def Tg.r (K:PySem.W.Frag):Tg→TG
  | .nm i=>gName i
  | .tp is=>gTup K is.length (gNs is)
def putAll:List Nat→List D→En→Option En
  | [],[],e=>some e
  | i::is,d::ds,e=>putAll is ds (e.set i (some d))
  | _,_,_=>none
def Tg.m:Tg→D→En→Option En
  | .nm i,d,e=>some (e.set i (some d))
  | .tp is, .tup ds,e=>putAll is ds e
  | _,_,_=>none
def Tg.ix:Tg→List Nat
  | .nm i=>[i]
  | .tp is=>is
section
variable {X:Cx}{W:WX}{a b c e o:Expr}{es:List Expr}{ma mb mc me:EM}{ta tb:TM}{pos:Pos}
variable {K:PySem.W.Frag}{mg:Str→Option Value}{w:Wo}
theorem aSC:∀ (is:List Nat) (ds:List D) (us:List V) (en en':En) (s:St) (H:Hp) (Q:St→Hp→Prop),RepE K mg w en s→RepL K mg w ds us→putAll is ds en=some en' →
    (∀ s',RepE K mg w en' s'→s'.length=s.length→(∀ j,j∉is→s'[j]? = s[j]?)→Q s' H)→gNs is us s H Q
  | [],ds,us,en,en',s,H,Q,E,R,h,q=>by
    cases ds with
    | nil=>
      cases h
      cases R
      exact ⟨rfl,q s E rfl fun _ _=>rfl⟩
    | cons _ _=>cases h
  | i::is,ds,us,en,en',s,H,Q,E,R,h,q=>by
    cases ds with
    | nil=>cases h
    | cons d ds=>
      cases R with
      | cons r R=>
        refine ⟨_,_,rfl,?_⟩
        refine aSC is ds _ _ en' _ H Q (E.set i r) R h fun s' E' hl hj=>q s' E' (by rw [hl,List.length_set]) fun j hn => ?_
        rw [hj j fun z=>hn (List.mem_cons_of_mem _ z),List.getElem?_set_ne fun z:i=j=>hn (by rw [z];exact List.mem_cons_self)]
theorem Tg.ok (tg:Tg) {d:D}{v:V}{en en':En}{s:St}{Q:St→Hp→Prop}(E:RepE K mg w en s) (R:RepD K mg w d v) (h:tg.m d en=some en')
    (q:∀ s',RepE K mg w en' s'→s'.length=s.length→(∀ j,j∉tg.ix→s'[j]? = s[j]?)→Q s' w.hp):tg.r K v s w.hp Q:=by
  cases tg with
  | nm i=>
    cases h
    exact q _ (E.set i R) (by rw [List.length_set]) fun j hj=>List.getElem?_set_ne fun z=>hj (by rw [z];exact List.mem_cons_self)
  | tp is=>
    cases R with
    | tup st rl=>
      have hl:∀ (is:List Nat) (ds:List D) (en en':En),putAll is ds en=some en'→is.length=ds.length:=by
        intro is
        induction is with
        | nil=>intro ds en en' h;cases ds with
          | nil=>rfl
          | cons _ _=>cases h
        | cons i is ih=>intro ds en en' h;cases ds with
          | nil=>cases h
          | cons _ _=>exact congrArg Nat.succ (ih _ _ _ h)
      exact ⟨_,_,rfl,st.sq,by rw [← rl.length];exact (hl _ _ _ _ h).symm,aSC is _ _ en en' s w.hp Q E rl h q⟩
    | _=>cases h
end
end G
namespace G
open PySem L2 PySem.Spec
abbrev FM:=List D→Store→Res D
def spM (K:PySem.W.Frag) (mg:Str→Option Value) (n:Nat) (f:FM):Sp:=fun vs H Q E=>vs.length=n∧∃ w ds,w.hp=H∧Rep K mg w∧RepL K mg w ds vs∧Post (RepD K mg) K mg w (f ds w.st) Q E
structure RoomG (k:Nat) (A:Around):Prop where
  r:Room k A
  gd:A.guards=some []
structure Cg (X:Cx) (W:WX) (k:Nat):Prop where
  calm:X.calm=true
  nd:X.N.Nodup
  tk:Takes X W
  po:PassesOwn (model X.prog X.w) X.A X.env X.xe
  rm:RoomG k X.A
  hs:X.stack=X.env::X.outer
  hf:X.env.frame=some X.env.locals
  em:X.ex = []
section
variable {P:Program}{w0:World}{K:PySem.W.Frag}{mg:Str→Option Value}{base:Heap}
structure FnG (P:Program) (w0:World) (K:PySem.W.Frag) (mg:Str→Option Value) (base:Heap) (k:Nat) (f:Addr) (fd:FuncData) (ps:List Str) (sp:Sp):Prop where
  len:∀ vs H Q E,sp vs H Q E→vs.length=ps.length
  run:∀ (A:Around) (outer:List Env) (s:Shared) (H:Hp) (args:Args) (us:List Value) (vs:List V) (Q:VK) (E:XK),RoomG k A→Env0 P w0 K mg base A outer s H→BindsTo s fd args (ps.zip us)→Vals vs us→sp vs H Q E →
    codeAny (model P w0) A (.call (.ref f) args) (CR (L2.CX P w0) outer P w0 H s Q E) s
structure Df (P:Program) (w0:World) (K:PySem.W.Frag) (mg:Str→Option Value) (base:Heap) (x:Str) (ps:List Str) (k:Nat) (m:FM):Prop where
  ex:∃ f fd,mg x=some (.ref f)∧PySem.W.keepIn K (.ref f)=true∧Binds K fd ps []∧FnG P w0 K mg base k f fd ps (spM K mg ps.length m)
end
end G
namespace G
open PySem L2 PySem.Spec
section
variable {X:Cx}{W:WX}{a b c e o:Expr}{es:List Expr}{ma mb mc me:EM}{ta tb:TM}{pos:Pos}{x:Str}{p:Pos}{j k:Nat}
theorem Cg.tr (c:Cg X W k) {pn:List (Addr×Obj)}{xe:Value→Shared→Prop}{W':WX}(t:Takes (X.tr pn xe) W') (po:PassesOwn (model X.prog X.w) X.A X.env xe):Cg (X.tr pn xe) W' k:=⟨c.calm,c.nd,t,po,c.rm,c.hs,c.hf,c.em⟩
end
end G
namespace G
open PySem L2 PySem.Spec
abbrev bmValueError:List Value:=[.type "ValueError", .type "Exception", .type "BaseException", .type "object"]
end G
namespace G
open PySem L2 PySem.Spec PyProof.Rows
def refsX (o:Obj):List Addr:=(match o.dict with
  | some d=>[d]
  | none=>[])++match o.data with
  | .seq its _=>its.toList.flatMap He.refV
  | .dict es _=>es.toList.flatMap fun e=>He.refV e.val
  | .func fd=>He.refV fd.code++(He.refV fd.defaults++He.refV fd.kwdefaults)
  | .cls cd=>[cd.ns]
  | _=>[]
def lvX (g:Addr→Option Obj):Nat→List Addr→List Addr
  | 0,as=>as
  | n+1,as=>as++lvX g n (as.flatMap fun a=>match g a with
    | some o=>refsX o
    | none=>[])
abbrev Fx:Type:=PySem.W.Frag→Bool
def obsX (fx:List Fx) (fn:List He.DefD) (K:PySem.W.Frag):He.AlD:=((fx.all fun f=>f K) && fn.all fun d=>d.ok K,fn.map fun d=>He.fnW K d.at_)
def SaysX (fx:List Fx) (fn:List He.DefD) (K:PySem.W.Frag):Prop:=obsX fx fn K=He.valD fn
def oneFree (K:PySem.W.Frag) (x:Str):Bool:=He.eqO (PySem.W.nsIn K mainGlobals x) (some none)
def freesB (l:List Str):Fx:=fun K=>l.all fun x=>oneFree K x
def oneGlo (K:PySem.W.Frag) (x:Str):Bool:=He.eqO (PySem.W.nsIn K mainGlobals x) (some (some (.ref (He.ga K x))))
def glosB (l:List Str):Fx:=fun K=>l.all fun x=>oneGlo K x
def intB (x:Str) (i:Int):Fx:=fun K=>match PySem.W.nsIn K mainGlobals x with
  | some (some (.int j _))=>decide (j=i)
  | _=>false
def strB (x z:Str):Fx:=fun K=>match PySem.W.nsIn K mainGlobals x with
  | some (some (.str y _))=>decide (y=z)
  | _=>false
section
variable {K:PySem.W.Frag}{h:Heap}{mg:Str→Option Value}
def tupX (x:Str) (vs:List V):Fx:=fun K=>match K.lookup (He.ga K x) with
  | some ⟨.type c,_, .seq its _,_⟩=>decide (c="tuple") && (decide (its.size≤sizeLine) && He.relAll vs its.toList)
  | _=>false
def xcoB (x:Str) (bm:List Value) (nw:String):Fx:=fun K=>PySem.W.excIn K (He.ga K x) bm nw && (PySem.W.keepIn K (.ref (He.ga K x)) && (decide (PySem.W.subIn K (.ref (He.ga K x)) (.type "BaseException")=some true) && decide (PySem.W.typeIn K (.ref (He.ga K x))=some (.type "type"))))
def exqB (K:PySem.W.Frag) (C:Addr):Bool:=He.eqO (PySem.W.findIn K (.ref C) "__getattribute__") (some (some (.builtin "BaseException.__getattribute__"))) && (He.eqO (PySem.W.findIn K (.ref C) "__getattr__") (some none) &&
  (decide (PySem.W.subIn K (.ref C) (.type "BaseException")=some true) && (PySem.W.hasDictIn K C && (He.eqO (PySem.W.findIn K (.ref C) "__class__") (some (some (.builtin "object.__class__"))) &&
  (He.eqO (PySem.W.specialIn K (.builtin "object.__class__") "__get__") (some (some (.builtin "getset_descriptor.__get__"))) && (decide (PySem.W.takesIn K (.builtin "object.__class__")=some true) && decide (PySem.W.mroIn K C (.type "object")=some true)))))))
def exsB (l:List Nat):Fx:=fun K=>l.all fun n=>oneGlo K (cname n) && exqB K (He.ga K (cname n))
def exmO (K:PySem.W.Frag) (y:Str) (p:Nat×Bool):Bool:=decide (PySem.W.exmOne K (.ref (He.ga K (cname p.1))) (.ref (He.ga K y))=some p.2)
def exmB (y:Str) (l:List (Nat×Bool)):Fx:=fun K=>l.all fun p=>exmO K y p
end
end G
namespace G
open PySem L2 PySem.Spec
end G
namespace G
open PySem L2 PySem.Spec
theorem aPk:((List.range 48).all fun g=>(List.range 48).all fun f=>g == f || !(fname g == fname f))=true:=by decide +kernel
theorem aPl:((List.range 48).all fun f => !((Str.ofString "") == fname f))=true:=by decide +kernel
theorem aPm {g:Nat}(h:¬ g<48):fname g=Str.ofString "":=by
  unfold fname
  rw [List.getD_eq_getElem?_getD,List.getElem?_eq_none (by show 48≤g;omega)]
  rfl
theorem aNz {f g:Nat}(hf:f<48) (h:g≠f):fname g≠fname f:=by
  intro e
  by_cases hg:g<48
  · have:=List.all_eq_true.mp (List.all_eq_true.mp aPk g (List.mem_range.mpr hg)) f (List.mem_range.mpr hf)
    rw [e] at this
    simp [h] at this
  · have:=List.all_eq_true.mp aPl f (List.mem_range.mpr hf)
    rw [aPm hg] at e
    rw [e] at this
    simp at this
section
variable {K:PySem.W.Frag}{mg:Str→Option Value}{w:Wo}
theorem RepF.get {fs:List (Nat×D)}{gs:List (Str×V)}{f:Nat}{d:D}(hf:f<48):RepF K mg w fs gs→fs.lookup f=some d→∃ v,gs.lookup (fname f)=some v∧RepD K mg w d v
  | .nil,h=>by cases h
  | @RepF.cons _ _ _ g d' v' l vs r t,h=>by
    rw [List.lookup_cons] at h
    by_cases e:f=g
    · subst e
      simp only [beq_self_eq_true] at h
      cases h
      exact ⟨v',by rw [List.lookup_cons];simp,r⟩
    · have hb:(f == g)=false:=beq_eq_false_iff_ne.mpr e
      rw [hb] at h
      obtain ⟨v,h1,h2⟩:=RepF.get hf t h
      refine ⟨v,?_,h2⟩
      have hc:(fname f == fname g)=false:=beq_eq_false_iff_ne.mpr (Ne.symm (aNz hf (Ne.symm e)))
      rw [List.lookup_cons,hc]
      exact h1
def insD (S:Store):D→Option (Nat×List (Nat×D))
  | .ins c fs=>some (c,fs)
  | .loc n=>match S[n]? with
    | some (.obj c fs)=>some (c,fs)
    | _=>none
  | _=>none
end
end G
namespace G
open PySem L2 PySem.Spec
end G
namespace G
open PySem L2 PySem.Spec RZ
end G
namespace G
open PySem L2 PySem.Spec PyProof.Rows
def clsSt (st:Stmt) (j:Nat):Stmt:=match st with
  | .ClassDef _ _ _ body _ _ _ _ _ _ _=>body.getD j (.Pass ⟨0,0,0,0⟩)
  | _ => .Pass ⟨0,0,0,0⟩
def famC (n:Nat):Nat:=if n<3 then n else if n<24 then 0 else if n<27 then 1 else 2
def subC (n c:Nat):Bool:=n == c || (famC n == c || 100+famC n == c)
end G
namespace G
open PySem L2 PySem.Spec PyProof.Rows
end G
namespace G
open PySem L2 PySem.Spec
def isCn (cn:Nat) (S:Store) (d:D):Bool:=match insD S d with
  | some (c,_)=>c == cn
  | none=>false
end G
namespace G
open PySem L2 PySem.Spec PyProof.Rows
def valD (kvs:List (Key×D)) (k:Key):Option D:=(kvs.find? fun kv=>decide (kv.1=k)).map (·.2)
def dropKD (kvs:List (Key×D)) (k:Key):List (Key×D):=kvs.filter fun kv=>decide (kv.1≠k)
section
variable {K:PySem.W.Frag}{mg:Str→Option Value}{w:Wo}
theorem RepK.val {k:Key}{d:D}{kvs:List (Key×D)}{us:List (Key×V)}:RepK Key K mg w kvs us→valD kvs k=some d→∃ v,valV us k=some v∧RepD K mg w d v
  | .nil,h=>by cases h
  | @RepK.cons _ _ _ _ f d' v' l vs r t,h=>by
    by_cases e:f=k
    · have h1:valD ((f,d')::l) k=some d':=by simp [valD,List.find?_cons,e]
      rw [h1] at h
      cases h
      exact ⟨v',valV_pos e,r⟩
    · have h1:valD ((f,d')::l) k=valD l k:=by simp [valD,List.find?_cons,e]
      rw [h1] at h
      obtain ⟨v,q1,q2⟩:=RepK.val t h
      exact ⟨v,by rw [valV_neg (by exact e)];exact q1,q2⟩
theorem RepK.drop {k:Key}{kvs:List (Key×D)}{us:List (Key×V)}:RepK Key K mg w kvs us→RepK Key K mg w (dropKD kvs k) (dropK us k)
  | .nil => .nil
  | @RepK.cons _ _ _ _ f d' v' l vs r t=>by
    unfold dropKD dropK
    rw [List.filter_cons,List.filter_cons]
    by_cases e:f=k
    · rw [if_neg (by simp [e]),if_neg (by simp [e])];exact RepK.drop t
    · rw [if_pos (by simp [e]),if_pos (by simp [e])];exact .cons r (RepK.drop t)
end
end G
namespace G
open PySem L2 PySem.Spec PyProof.Rows
end G
namespace G
open PySem L2 PySem.Spec
end G
namespace G
open PySem L2 PySem.Spec PyProof.Rows
end G
namespace G
open PySem L2 PySem.Spec
end G
namespace G
open PySem L2 PySem.Spec
instance:Inhabited V:=⟨.non⟩
section
variable {X:Cx}{W:WX}{a b c e l:Expr}{es:List Expr}{ma mb mc me:EM}{pos:Pos}{x:Str}{p:Pos}{j k:Nat}{ps ks:List Str}{f:FM}
instance {n:Nat}:Inhabited { vs:List V // vs.length=n }:=⟨⟨List.replicate n .non,by simp⟩⟩
end
end G
namespace G
open PySem L2 PySem.Spec PyProof.Rows
end G
namespace G
open PySem L2 PySem.Spec PyProof.Rows
end G
namespace G
open PySem L2 PySem.Spec PyProof.Rows
end G
namespace G
open PySem L2 PySem.Spec PyProof.Rows
abbrev Mk2:Type:=He.Defn×Str
def al0 (K:PySem.W.Frag) (ts:List Mk2):List Addr:=ts.map fun t=>(He.cT K t.1).2
def obsTG (n:Nat) (fx:List Fx) (fn:List He.DefD) (tf:List He.Defn) (g:Addr→Option Obj):He.AlD×Bool:=(obsX fx fn (He.frT g (lvX g n [mainGlobals]++[cStatics])),He.tabsB g tf (He.frT g (lvX g n [mainGlobals]++[cStatics])))
structure SaysT (fx:List Fx) (fn:List He.DefD) (tf:List He.Defn) (h:Heap) (K:PySem.W.Frag):Prop where
  s:SaysX fx fn K
  hd:∀ p∈tf,PySem.W.codeHdIn K (He.cT K p).1 (He.cT K p).2=true
  out:∀ p∈tf,K.lookup (He.cT K p).2=none
  empty:∀ p∈tf,h.get? (He.cT K p).2=some { cls:=.none,data:=.fields #[] }
theorem aN0 {n:Nat}{fx:List Fx}{fn:List He.DefD}{tf:List He.Defn}{h:Heap}(e:obsTG n fx fn tf h.get? = (He.valD fn,true)):SaysT fx fn tf h (He.frT h.get? (lvX h.get? n [mainGlobals]++[cStatics])):=by
  have e1:obsX fx fn (He.frT h.get? (lvX h.get? n [mainGlobals]++[cStatics]))=He.valD fn:=congrArg Prod.fst e
  have e2:He.tabsB h.get? tf (He.frT h.get? (lvX h.get? n [mainGlobals]++[cStatics]))=true:=congrArg Prod.snd e
  have one:∀ p∈tf,PySem.W.codeHdIn (He.frT h.get? (lvX h.get? n [mainGlobals]++[cStatics])) (He.cT (He.frT h.get? (lvX h.get? n [mainGlobals]++[cStatics])) p).1 (He.cT (He.frT h.get? (lvX h.get? n [mainGlobals]++[cStatics])) p).2=true∧∃ o,h.get? (He.cT (He.frT h.get? (lvX h.get? n [mainGlobals]++[cStatics])) p).2=some o∧He.emptyTab o=true:=by
    intro p hp
    obtain ⟨a1,a2⟩:=He.ba (List.all_eq_true.mp e2 p hp)
    refine ⟨a1,?_⟩
    split at a2
    · rename_i o q
      exact ⟨o,q,a2⟩
    · cases a2
  refine ⟨e1,fun p hp=>(one p hp).1,fun p hp => ?_,fun p hp => ?_⟩
  · obtain ⟨_,o,q,z⟩:=one p hp
    exact He.frT_none q z
  · obtain ⟨_,o,q,z⟩:=one p hp
    rw [q,He.emptyTab_eq z]
def hookT (n:Nat) (fx:List Fx) (fn:List He.DefD) (tf:List He.Defn):PySem.W.Hook where
  α:=He.AlD×Bool
  obs:=fun s=>obsTG n fx fn tf s.heap.get?
  val:=fun _=>(He.valD fn,true)
  says:=fun _ h=>∃ K:PySem.W.Frag,K.In h∧SaysT fx fn tf h K
  of:=fun _ _ e=>⟨_,He.frT_in,aN0 e⟩
  keeps:=fun _ _ _ ⟨K,hK,c⟩ k=>⟨K,PySem.W.Frag.In.keeps hK k,⟨c.s,c.hd,c.out,fun p hp=>k _ _ (c.empty p hp)⟩⟩
def obTT (n:Nat) (fx:List Fx) (fn:List He.DefD) (tf:List He.Defn) (s:PySem.W.SharedT):He.AlD×Bool:=obsTG n fx fn tf (HandSHeadRun.getT s)
section
variable {K:PySem.W.Frag}{mg:Str→Option Value}
def ndB (ts:List Mk2):Fx:=fun K=>decide (al0 K ts).Nodup
end
end G
namespace G
open PySem L2 PySem.Spec PyProof.Rows
end G
namespace G
open PySem L2 PySem.Spec
end G
namespace G
open PySem L2 PySem.Spec
end G
namespace G
open PySem L2 PySem.Spec PyProof.Rows
end G
namespace G
open PySem L2 PySem.Spec
end G
namespace G
open PySem L2 PySem.Spec
end G
namespace G
open PySem L2 PySem.Spec
end G
namespace G
open PySem L2 PySem.Spec PyProof.Rows
def tbAny:List (Nat→Option Bool)→Nat→Option Bool
  | [],_=>some false
  | t::r,n=>match t n,tbAny r n with
    | some a,some b=>some (a || b)
    | _,_=>none
end G
namespace G
open PySem L2 PySem.Spec
section
variable {X:Cx}{W:WX}{a b c e o:Expr}{es:List Expr}{ma mb mc me:EM}{ta tb:TM}{pos:Pos}{x:Str}{p:Pos}{j k:Nat}
def KtOk (K:PySem.W.Frag) (mg:Str→Option Value) (tb:Nat→Option Bool) (u:Value):Prop:=∀ cn C q,tb cn=some q→mg (cname cn)=some (.ref C)→ExcC K C∧PySem.W.kitOne K (.ref C) u=some q
inductive PCs (X:Cx):List Expr→List V→List Value→Prop
  | nil:PCs X [] [] []
  | cons {T:Str}{p2:Pos}{cv:V}{u:Value}{es:List Expr}{cs:List V}{us:List Value}(hT:PE X (.Name T p2) (tC cv)) (hcv:ClsV cv u) (hs:starEach (.Name T p2::es) X.env=(false,eval (.Name T p2) X.env)::starEach es X.env) (r:PCs X es cs us):PCs X (.Name T p2::es) (cv::cs) (u::us)
theorem PCs.cls {es:List Expr}{cs:List V}{us:List Value}(h:PCs X es cs us):Paired ClsV cs us:=by
  induction h with
  | nil=>exact .nil
  | cons hT hcv hs r ih=>exact .cons hcv ih
theorem PCs.len {es:List Expr}{cs:List V}{us:List Value}(h:PCs X es cs us):cs.length=es.length:=by
  induction h with
  | nil=>rfl
  | cons hT hcv hs r ih=>simp [ih]
inductive KtsOk (K:PySem.W.Frag) (mg:Str→Option Value):List (Nat→Option Bool)→List Value→Prop
  | nil:KtsOk K mg [] []
  | cons {t:Nat→Option Bool}{c:Value}{ts:List (Nat→Option Bool)}{cs:List Value}(h:KtOk K mg t c) (r:KtsOk K mg ts cs):KtsOk K mg (t::ts) (c::cs)
theorem KtsOk.exc {K:PySem.W.Frag}{mg:Str→Option Value}{t:Nat→Option Bool}{ts:List (Nat→Option Bool)}{cs:List Value}(h:KtsOk K mg (t::ts) cs) {cn:Nat}{C:Addr}{q:Bool}(e:tbAny (t::ts) cn=some q) (hC:mg (cname cn)=some (.ref C)):ExcC K C:=by
  cases h with
  | cons h r=>
    unfold tbAny at e
    split at e
    · rename_i b1 b2 e1 e2
      exact (h cn C b1 e1 hC).1
    · cases e
end
end G
namespace G
open PySem L2 PySem.Spec
section
variable {K:PySem.W.Frag}
def xoC (K:PySem.W.Frag) (C:Addr) (tl:List Value) (nw:String) (cd:ClassData) (sl:Array (Option Value)):Bool:=match cd.mro,sl.toList with
  | .ref C'::bm,[_,_,_,_,some (.builtin n),_]=>decide (C'=C) && (decide (n=nw) && (!cd.hasDel && (cd.hasDict && PySem.W.excTail tl bm)))
  | _,_=>false
def xoL (K:PySem.W.Frag) (C:Addr) (tl:List Value) (nw:String):Bool:=match K.lookup C with
  | some ⟨.type c,_, .cls cd,sl⟩=>decide (c="type") && xoC K C tl nw cd sl
  | _=>false
def xoB (x:Str) (tl:List Value) (nw:String):Fx:=fun K=>xoL K (He.ga K x) tl nw && (He.eqO (PySem.W.findIn K (.ref (He.ga K x)) "__setattr__") (some (some (.builtin "object.__setattr__"))) && (decide (PySem.W.subIn K (.ref (He.ga K x)) (.type "BaseException")=some true) && (decide (PySem.W.typeIn K (.ref (He.ga K x))=some (.type "type")) && PySem.W.keepIn K (.ref (He.ga K x)))))
def iniB (x f:Str):Fx:=fun K=>He.eqO (PySem.W.findIn K (.ref (He.ga K x)) "__init__") (some (some (.ref (He.fAd K (x,some "__init__"))))) && (decide (PySem.W.typeIn K (.ref (He.fAd K (x,some "__init__")))=some (.type "function")) && He.eqO (PySem.W.findIn K (.ref (He.ga K x)) f) (some none))
def fcB (K:PySem.W.Frag) (C:Addr) (ini:String):Bool:=match PySem.W.findCls K (.ref C) (.type "type") "__init__" with
  | some (.val (.builtin n))=>decide (n=ini)
  | _=>false
def hdB (x:Str) (ini:String):Fx:=fun K=>He.eqO (PySem.W.specialIn K (.ref (He.ga K x)) "__getattribute__") (some (some (.builtin "type.__getattribute__"))) && (PySem.W.readsIn K (He.ga K x) (.type "type") && (fcB K (He.ga K x) ini && PySem.W.handedIn (.builtin ini)))
def xcfB (f:Nat) (cs:List Nat):Fx:=fun K=>cs.all fun n=>oneGlo K (cname n) && (exqB K (He.ga K (cname n)) && He.eqO (PySem.W.findIn K (.ref (He.ga K (cname n))) (fname f)) (some none))
end
end G
namespace G
open PySem L2 PySem.Spec
end G
namespace G
open PySem L2
variable {X:Cx}{W:WX}{a b c o e:Expr}{es:List Expr}{pos:Pos}{ma mb:EM}
def strsD:List D→Option (List Str)
  | []=>some []
  | .str x::l=>(strsD l).map (x :: ·)
  | _=>none
theorem RepL.strs {K:PySem.W.Frag}{mg:Str→Option Value}{w:Wo}{l:List D}{vs:List V}{ys:List Str}(h:RepL K mg w l vs) (e:strsD l=some ys):vs=ys.map V.str:=by
  induction l generalizing vs ys with
  | nil=>cases h;cases e;rfl
  | cons d l ih=>
    cases h with
    | cons r t=>
      cases d with
      | str x=>
        obtain ⟨zs,e1,rfl⟩:=Option.map_eq_some_iff.mp e
        cases r
        rw [ih t e1];rfl
      | _=>cases e
end G
namespace G
open PySem L2 PySem.Spec
end G
namespace G
open PySem L2 PySem.Spec
end G
namespace G
open PySem L2 PySem.Spec
end G
namespace G
open PySem L2 PySem.Spec PyProof.Rows
end G
namespace G
open PySem L2 PySem.Spec PyProof.Rows
end G
namespace G
open PySem L2 PySem.Spec
end G
namespace G
open PySem L2 PySem.Spec
end G
namespace G
open PySem L2 PySem.Spec
end G
namespace G
open PySem L2 PySem.Spec PyProof.Rows SrtO
def IsFst (h:Heap) (v:Value) (x:Int):Prop:=∃ a o t r n,v = .ref a∧h.get? a=some o∧o.cls = .type "tuple"∧o.data = .seq #[.int x t,r] n
theorem IsFst.keeps {h h':Heap}{v:Value}{x:Int}(p:IsFst h v x) (k:∀ b o,h.get? b=some o→o.cls = .type "tuple"→h'.get? b=some o):IsFst h' v x:=by
  obtain ⟨a,o,t,r,n,e,ho,hc,hd⟩:=p
  exact ⟨a,o,t,r,n,e,k _ _ ho hc,hc,hd⟩
def fstV (h:Heap) (v:Value):Int:=match v with
  | .ref a=>match h.get? a with
    | some o=>match o.data with
      | .seq its _=>match its[0]? with
        | some (Value.int i _)=>i
        | _=>0
      | _=>0
    | _=>0
  | _=>0
theorem IsFst.val {h:Heap}{v:Value}{x:Int}(p:IsFst h v x):fstV h v=x:=by
  obtain ⟨a,o,t,r,n,rfl,ho,_,hd⟩:=p
  unfold fstV
  simp only [ho,hd]
  rfl
end G
namespace G
open PySem L2 PySem.Spec
end G
namespace G
open PySem L2 PySem.Spec
section
variable {X:Cx}{W:WX}{a b c e o f:Expr}{es:List Expr}{ma mb mc me:EM}{pos apos cpos tpos:Pos}{x:Str}
theorem RepK.zip {K:PySem.W.Frag}{mg:Str→Option Value}{w:Wo}:∀ {ks:List Key}{ds:List D}{us:List V},RepL K mg w ds us→RepK Key K mg w (ks.zip ds) (ks.zip us)
  | [],_,_,_=>by simp only [List.zip_nil_left];exact .nil
  | _::_,_,_, .nil => .nil
  | k::ks,_,_, .cons r t => .cons r (RepK.zip t)
end
end G
namespace G
open PySem L2 PySem.Spec PyProof.Rows PySem.SeqAt
end G
namespace G
open PySem L2 PySem.Spec PyProof.Rows PySem.SeqAt PySem.W
end G
namespace G
open PySem L2 PySem.Spec PyProof.Rows
end G
namespace G
open PySem L2 PySem.Spec PyProof.Rows
end G
namespace G
open PySem L2 PySem.Spec PyProof.Rows PySem.SeqAt
end G
namespace G
open PySem L2 PySem.Spec
end G
namespace G
open PySem PySem.W
theorem aVv {R:OpenRow}{q:Program}{H:Hook}{ob:SharedT→H.α}{M:Nat}{names:List Str}(hf:∀ w:World,HandSHeadRun.RunEq R q H ob M names (w.withFollow "special-get-raises" false)) (ht:∀ w:World,HandSHeadRun.RunEq R q H ob M names (w.withFollow "special-get-raises" true)) (w:World) :
    HandSHeadRun.RunEq R q H ob M names w:=byRow2 "special-get-raises" (P:=fun w=>HandSHeadRun.RunEq R q H ob M names w) hf ht w
end G
namespace G
open PySem L2 PySem.Spec PyProof.Rows
end G
namespace G
open PySem PySem.W HandSHeadRun
def RunO (r:OpenRow) (H:Hook) (ob:SharedT→H.α) (M:Nat) (w:World):Prop:=∀ os:OsState,(endF (stepQ (denQ tabQ) r.prog w) M r.prog w os).map (fun s=>ob s)=some (H.val w)
def RunLS (r:OpenRow) (q:Program) (M:Nat) (loose:List Str) (w:World):Prop:=∀ os:OsState,(endF (stepQ (denQ tabQ) r.prog w) M r.prog w os).map (fun s=>(looksF r.prog (boot_heap w.params) s.abs,seenQ q loose (importedModules r.prog.main.body) (fun s=>xlAt q [] s && recOk r.toRowW.records s) s.abs))=some (true,openGood q loose)
theorem aPn {r:OpenRow}{q:Program}{H:Hook}{ob:SharedT→H.α}{M:Nat}{loose:List Str}{w:World}(h1:RunLS r q M loose w) (h3:RunO r H ob M w):RunEq r q H ob M loose w:=by
  intro os
  have a:=h1 os
  have c:=h3 os
  cases e:endF (stepQ (denQ tabQ) r.prog w) M r.prog w os with
  | none=>rw [e] at a;cases a
  | some s=>
    rw [e] at a c
    rw [Option.map_some] at a c ⊢
    have a1:=congrArg Prod.fst (Option.some.inj a)
    have a2:=congrArg Prod.snd (Option.some.inj a)
    dsimp only at a1 a2
    rw [a1,a2,Option.some.inj c]
theorem aN1 {fx1 fx2:List Fx}{fn1 fn2:List He.DefD}{K:PySem.W.Frag}(h1:obsX fx1 fn1 K=He.valD fn1) (h2:obsX fx2 fn2 K=He.valD fn2):obsX (fx1++fx2) (fn1++fn2) K=He.valD (fn1++fn2):=by
  unfold obsX He.valD at h1 h2 ⊢
  have a1:=congrArg Prod.fst h1
  have a2:=congrArg Prod.fst h2
  have b1:=congrArg Prod.snd h1
  have b2:=congrArg Prod.snd h2
  dsimp only at a1 a2 b1 b2
  rw [Bool.and_eq_true] at a1 a2
  refine Prod.ext ?_ ?_
  · dsimp only
    rw [List.all_append,List.all_append,a1.1,a1.2,a2.1,a2.2];rfl
  · dsimp only
    rw [List.map_append,List.map_append,b1,b2]
theorem aR5 {r:OpenRow}{n:Nat}{fx1 fx2:List Fx}{fn1 fn2:List He.DefD}{tf:List He.Defn}{M:Nat}{w:World}(h1:RunO r (hookT n fx1 fn1 tf) (obTT n fx1 fn1 tf) M w) (h2:RunO r (hookT n fx2 fn2 []) (obTT n fx2 fn2 []) M w):RunO r (hookT n (fx1++fx2) (fn1++fn2) tf) (obTT n (fx1++fx2) (fn1++fn2) tf) M w:=by
  intro os
  have a:=h1 os
  have b:=h2 os
  cases e:endF (stepQ (denQ tabQ) r.prog w) M r.prog w os with
  | none=>rw [e] at a;cases a
  | some s=>
    rw [e] at a b
    have a':obTT n fx1 fn1 tf s=(He.valD fn1,true):=Option.some.inj a
    have b':obTT n fx2 fn2 [] s=(He.valD fn2,true):=Option.some.inj b
    have a1:=congrArg Prod.fst a'
    have a2:=congrArg Prod.snd a'
    have b1:=congrArg Prod.fst b'
    show some (obTT n (fx1++fx2) (fn1++fn2) tf s)=some (He.valD (fn1++fn2),true)
    exact congrArg some (Prod.ext (aN1 a1 b1) a2)
theorem aGM {r:OpenRow}{n:Nat}{fx:List Fx}{fn:List He.DefD}{tf:List He.Defn}{M:Nat}{w:World}(k j:Nat) (h1:RunO r (hookT n (fx.take k) (fn.take j) tf) (obTT n (fx.take k) (fn.take j) tf) M w) (h2:RunO r (hookT n (fx.drop k) (fn.drop j) []) (obTT n (fx.drop k) (fn.drop j) []) M w):RunO r (hookT n fx fn tf) (obTT n fx fn tf) M w:=by
  have h:=aR5 h1 h2
  rw [List.take_append_drop,List.take_append_drop] at h
  exact h
end G
namespace G
open PySem L2 PySem.Spec PyProof.Rows
def eqOf (neg:Bool) (r:Res D):Res D:=r.bind fun y S1=>match y with
  | .bl b => .ok (.bl (if neg=true then !b else b)) S1
  | _ => .stuck
def eqO (neg:Bool) (cn:Nat) (f:FM) (gD:List D→List D→List D) (x y:D) (S:Store):Res D:=if isCn cn S x=true∧isCn cn S y=true then eqOf neg (f (gD [x,y] []) S) else .stuck
end G
namespace G
open PySem L2 PySem.Spec PyProof.Rows
end G
namespace G
open PySem L2 PySem.Spec PyProof.Rows
end G
namespace G
open PySem L2 PySem.Spec PyProof.Rows
inductive FsOk (P:Program) (w0:World) (K:PySem.W.Frag) (mg:Str→Option Value) (base:Heap) (k:Nat):List (Str×Str)→List (Str×Nat×FM)→Prop where
  | nil:FsOk P w0 K mg base k [] []
  | cons {z g:Str}{ps:List Str}{j:Nat}{f:FM}{ks:List (Str×Str)}{fs:List (Str×Nat×FM)}:Df P w0 K mg base g ps j f→j≤k→FsOk P w0 K mg base k ks fs→FsOk P w0 K mg base k ((z,g)::ks) ((z,ps.length,f)::fs)
theorem FsOk.get {P:Program}{w0:World}{K:PySem.W.Frag}{mg:Str→Option Value}{base:Heap}{k:Nat}{ks:List (Str×Str)}{fs:List (Str×Nat×FM)}(h:FsOk P w0 K mg base k ks fs) {z:Str}{q:Nat×FM}(e:fs.lookup z=some q) :
    ∃ g ps j,ks.lookup z=some g∧j≤k∧ps.length=q.1∧Df P w0 K mg base g ps j q.2:=by
  induction h with
  | nil=>cases e
  | @cons z' g ps j f ks fs hF hj _ ih=>
    rw [List.lookup_cons] at e ⊢
    cases c:z == z' with
    | true=>
      rw [c] at e
      cases e
      exact ⟨g,ps,j,rfl,hj,rfl,hF⟩
    | false=>
      rw [c] at e
      exact ih e
end G
namespace G
open PySem L2 PySem.Spec PyProof.Rows
abbrev TabE:Type:=Str×List Str
def SaysK (ts:List TabE) (w0:World) (K:PySem.W.Frag):Prop:=ts.map (fun t=>He.dicW K (He.ga K t.1))=ts.map fun t=>some (He.keysIn w0.params t.2)
def obsU (n:Nat) (fx:List Fx) (fn:List He.DefD) (tf:List He.Defn) (ts:List TabE) (g:Addr→Option Obj):(He.AlD×Bool)×List (Option (List (Option (Str×Int)))):=(obsTG n fx fn tf g,ts.map fun t=>He.dicW (He.frT g (lvX g n [mainGlobals]++[cStatics])) (He.ga (He.frT g (lvX g n [mainGlobals]++[cStatics])) t.1))
theorem aR6 {n:Nat}{fx:List Fx}{fn:List He.DefD}{tf:List He.Defn}{ts:List TabE}{w0:World}{g:Addr→Option Obj}{z:He.AlD×Bool}(e:obsU n fx fn tf ts g=(z,ts.map fun t=>some (He.keysIn w0.params t.2))):SaysK ts w0 (He.frT g (lvX g n [mainGlobals]++[cStatics])):=by
  have:=congrArg Prod.snd e
  exact this
def hookU (n:Nat) (fx:List Fx) (fn:List He.DefD) (tf:List He.Defn) (ts:List TabE):PySem.W.Hook where
  α:=(He.AlD×Bool)×List (Option (List (Option (Str×Int))))
  obs:=fun s=>obsU n fx fn tf ts s.heap.get?
  val:=fun w=>((He.valD fn,true),ts.map fun t=>some (He.keysIn w.params t.2))
  says:=fun w h=>∃ K:PySem.W.Frag,K.In h∧SaysT fx fn tf h K∧SaysK ts w K
  of:=fun _ _ e=>⟨_,He.frT_in,aN0 (congrArg Prod.fst e),aR6 e⟩
  keeps:=fun _ _ _ ⟨K,hK,c,d⟩ k=>⟨K,PySem.W.Frag.In.keeps hK k,⟨c.s,c.hd,c.out,fun p hp=>k _ _ (c.empty p hp)⟩,d⟩
def obUT (n:Nat) (fx:List Fx) (fn:List He.DefD) (tf:List He.Defn) (ts:List TabE) (s:PySem.W.SharedT):(He.AlD×Bool)×List (Option (List (Option (Str×Int)))):=obsU n fx fn tf ts (HandSHeadRun.getT s)
section
open PySem.W HandSHeadRun
theorem aR7 {r:OpenRow}{n:Nat}{fx1 fx2:List Fx}{fn1 fn2:List He.DefD}{tf:List He.Defn}{ts:List TabE}{M:Nat}{w:World}(h1:RunO r (hookU n fx1 fn1 tf ts) (obUT n fx1 fn1 tf ts) M w) (h2:RunO r (hookT n fx2 fn2 []) (obTT n fx2 fn2 []) M w):RunO r (hookU n (fx1++fx2) (fn1++fn2) tf ts) (obUT n (fx1++fx2) (fn1++fn2) tf ts) M w:=by
  intro os
  have a:=h1 os
  have b:=h2 os
  cases e:endF (stepQ (denQ tabQ) r.prog w) M r.prog w os with
  | none=>rw [e] at a;cases a
  | some s=>
    rw [e] at a b
    have a':obUT n fx1 fn1 tf ts s=((He.valD fn1,true),ts.map fun t=>some (He.keysIn w.params t.2)):=Option.some.inj a
    have b':obTT n fx2 fn2 [] s=(He.valD fn2,true):=Option.some.inj b
    have a0:obTT n fx1 fn1 tf s=(He.valD fn1,true):=congrArg Prod.fst a'
    have a1:=congrArg Prod.fst a0
    have a2:=congrArg Prod.snd a0
    have b1:=congrArg Prod.fst b'
    have a3:=congrArg Prod.snd a'
    show some (obUT n (fx1++fx2) (fn1++fn2) tf ts s)=some ((He.valD (fn1++fn2),true),ts.map fun t=>some (He.keysIn w.params t.2))
    have c:obTT n (fx1++fx2) (fn1++fn2) tf s=(He.valD (fn1++fn2),true):=Prod.ext (aN1 a1 b1) a2
    exact congrArg some (Prod.ext c a3)
theorem aDP {r:OpenRow}{n:Nat}{fx:List Fx}{fn:List He.DefD}{tf:List He.Defn}{ts:List TabE}{M:Nat}{w:World}(k j:Nat) (h1:RunO r (hookU n (fx.take k) (fn.take j) tf ts) (obUT n (fx.take k) (fn.take j) tf ts) M w) (h2:RunO r (hookT n (fx.drop k) (fn.drop j) []) (obTT n (fx.drop k) (fn.drop j) []) M w):RunO r (hookU n fx fn tf ts) (obUT n fx fn tf ts) M w:=by
  have h:=aR7 h1 h2
  rw [List.take_append_drop,List.take_append_drop] at h
  exact h
end
inductive TV where
  | strs (l:List Str)
  | int (i:Int)
def tvB (K:PySem.W.Frag) (u:Value):TV→Bool
  | .strs l=>match u with
    | .ref t=>match K.lookup t with
      | some ⟨.type c,_, .seq its _,_⟩=>decide (c="tuple") && (decide (its.size≤sizeLine) && He.relAll (l.map V.str) its.toList)
      | _=>false
    | _=>false
  | .int i=>He.relB (.int i) u
def tabVB (x:Str) (kvs:List (Str×TV)):Fx:=fun K=>kvs.all fun q=>match PySem.W.nsIn K (He.ga K x) q.1 with
  | some (some u)=>tvB K u q.2
  | _=>false
def tabGB (x:Str) (ks:List (Str×Str)):Fx:=fun K=>ks.all fun q=>match PySem.W.nsIn K (He.ga K x) q.1 with
  | some (some (.ref f))=>decide (f=He.ga K q.2)
  | _=>false
end G
namespace G
open PySem L2 PySem.Spec PyProof.Rows
end G
namespace G
open PySem L2 PySem.Spec PyProof.Rows RZ
end G
namespace G
open PySem L2 PySem.Spec
end G
namespace G
open PySem L2 PySem.Spec PyProof.Rows
end G
namespace G
open PySem L2 PySem.Spec PyProof.Rows
end G
namespace G
open PySem L2 PySem.Spec PyProof.Rows
end G
namespace G
open PySem L2 PySem.Spec PyProof.Rows
end G
namespace G
open PySem L2 PySem.Spec PyProof.Rows
open PySem.SeqAt
open AutoSeq1 (wpAny_loadPart')
end G
namespace G
open PySem L2 PySem.Spec PyProof.Rows
open PySem.W (InstAt)
end G
namespace G
open PySem L2 PySem.Spec
end G
namespace G
open PySem L2 PySem.Spec PyProof.Rows
end G
namespace G
open PySem L2 PySem.Spec PyProof.Rows
open PySem.W (InstAt)
end G
namespace G
open PySem L2 PySem.Spec PyProof.Rows
end G
namespace G
open PySem L2 PySem.Spec PyProof.Rows
end G
namespace G
open PySem L2 PySem.Spec PyProof.Rows
end G
namespace G
open PySem L2 PySem.Spec PyProof.Rows
end G
namespace G
open PySem L2 PySem.Spec PyProof.Rows
end G
namespace G
open PySem L2 PySem.Spec PyProof.Rows
end G
namespace G
open PySem L2 PySem.Spec PyProof.Rows
end G
namespace G
open PySem L2 PySem.Spec PyProof.Rows
open MeetsSeq MeetsSeq2 MeetsSeq3
end G
namespace G
open PySem L2 PySem.Spec PyProof.Rows RZ
end G
namespace G
open PySem L2 PySem.Spec PyProof.Rows
end G
namespace G
open PySem L2 PySem.Spec PyProof.Rows
end G
namespace G
open PySem L2 PySem.Spec PyProof.Rows SrtO
def IsFsS (h:Heap) (v:Value) (x:Str):Prop:=∃ a o t r n,v = .ref a∧h.get? a=some o∧o.cls = .type "tuple"∧o.data = .seq #[.str x t,r] n
theorem IsFsS.keeps {h h':Heap}{v:Value}{x:Str}(p:IsFsS h v x) (k:∀ b o,h.get? b=some o→o.cls = .type "tuple"→h'.get? b=some o):IsFsS h' v x:=by
  obtain ⟨a,o,t,r,n,e,ho,hc,hd⟩:=p
  exact ⟨a,o,t,r,n,e,k _ _ ho hc,hc,hd⟩
def fstVS (h:Heap) (v:Value):Str:=match v with
  | .ref a=>match h.get? a with
    | some o=>match o.data with
      | .seq its _=>match its[0]? with
        | some (Value.str i _)=>i
        | _=>""
      | _=>""
    | _=>""
  | _=>""
theorem IsFsS.val {h:Heap}{v:Value}{x:Str}(p:IsFsS h v x):fstVS h v=x:=by
  obtain ⟨a,o,t,r,n,rfl,ho,_,hd⟩:=p
  unfold fstVS
  simp only [ho,hd]
  rfl
end G
namespace Wk33
open PySem L2 G
noncomputable section
def topS (i:Nat):Stmt:=PySem.Challenge.pw_sharetags_k33_logs_as_texts.main.body.getD i (.Pass ⟨0,0,0,0⟩)
abbrev aAD:Stmt:=topS 49
abbrev aBZ:Stmt:=topS 52
abbrev aBc:Stmt:=topS 53
abbrev aAE:Stmt:=topS 51
abbrev aAz:Stmt:=topS 56
abbrev aA2:Stmt:=topS 54
abbrev aAF:Stmt:=topS 55
abbrev aAq:Stmt:=topS 57
abbrev aAw:Stmt:=topS 60
abbrev aAx:Stmt:=topS 60
abbrev aAy:Stmt:=topS 60
abbrev aBl:Stmt:=topS 60
abbrev aAG:Stmt:=topS 58
abbrev aA7:Stmt:=topS 59
abbrev aAH:Stmt:=topS 50
abbrev aBd:Stmt:=topS 8
abbrev aB_:Stmt:=topS 9
abbrev aAS:Stmt:=topS 10
abbrev aA0:Stmt:=topS 12
abbrev aAI:Stmt:=topS 13
abbrev aAJ:Stmt:=topS 14
abbrev aBt:Stmt:=topS 19
abbrev aBu:Stmt:=topS 18
abbrev aBe:Stmt:=topS 28
abbrev aBv:Stmt:=topS 29
abbrev aBm:Stmt:=topS 23
abbrev aAK:Stmt:=topS 27
abbrev aBw:Stmt:=topS 31
abbrev aCa:Stmt:=topS 32
abbrev aAL:Stmt:=topS 30
abbrev aBx:Stmt:=topS 35
abbrev aBI:Stmt:=topS 36
abbrev aA8:Stmt:=topS 44
abbrev aA9:Stmt:=topS 16
abbrev aCb:Stmt:=topS 11
abbrev aA4:Stmt:=topS 15
abbrev aA5:Stmt:=topS 17
abbrev aBy:Stmt:=topS 45
abbrev aBJ:Stmt:=topS 46
abbrev aBf:Stmt:=topS 47
abbrev aAu:Stmt:=topS 61
abbrev aAM:Stmt:=topS 37
abbrev aA1:Stmt:=topS 38
abbrev aAN:Stmt:=topS 41
abbrev aAT:Stmt:=topS 42
abbrev aAU:Stmt:=topS 43
abbrev aEY:Stmt:=topS 62
abbrev tsL:List Mk2:=[]
abbrev aGF:List (Str×Str):=[("name","is_name"),("least","is_least"),("most","is_most"),("weight","is_weight"),("size","is_size"),("way","is_way")]
abbrev aN2:List (Str×TV):=[("join", .strs ["name","least","most","weight"]),("ask", .strs ["name","size"]),("leave", .strs ["name"]),("least", .strs ["name","least"]),("most", .strs ["name","most"]),("weight", .strs ["name","weight"]),("serve", .strs ["name","size","way"]),("now", .strs [])]
abbrev tdL:List TabE:=[("LOOKS",["name","least","most","weight","size","way"]),("PARTS",["join","ask","leave","least","most","weight","serve","now"])]
abbrev aAO:Stmt:=clsSt (topS 4) 0
abbrev aAW:Stmt:=clsSt (topS 5) 0
def aGN:He.DefD:=⟨("_law_cell",none),"_law_cell","_law_cell",defArgs aAD,defBody aAD,defScope aAD,[],[]⟩
def aN3:He.DefD:=⟨("_law_r",none),"_law_r","_law_r",defArgs aBZ,defBody aBZ,defScope aBZ,[],[]⟩
def aI8:He.DefD:=⟨("_law_add",none),"_law_add","_law_add",defArgs aBc,defBody aBc,defScope aBc,[],[]⟩
def aGO:He.DefD:=⟨("_law_take",none),"_law_take","_law_take",defArgs aAE,defBody aAE,defScope aAE,[],[]⟩
def aFA:He.DefD:=⟨("_law_moment",none),"_law_moment","_law_moment",defArgs aAz,defBody aAz,defScope aAz,[],[]⟩
def aGP:He.DefD:=⟨("_law_name",none),"_law_name","_law_name",defArgs aA2,defBody aA2,defScope aA2,[],[]⟩
def aGQ:He.DefD:=⟨("_law_rate",none),"_law_rate","_law_rate",defArgs aAF,defBody aAF,defScope aAF,[],[]⟩
def aE6:He.DefD:=⟨("_law_drawn_log",none),"_law_drawn_log","_law_drawn_log",defArgs aAq,defBody aAq,defScope aAq,[],[]⟩
def aFB:He.DefD:=⟨("_law_is",none),"_law_is","_law_is",defArgs aAw,defBody aAw,defScope aAw,[],[]⟩
def aFC:He.DefD:=⟨("_law_is",none),"_law_is","_law_is",defArgs aAx,defBody aAx,defScope aAx,[],[]⟩
def aFD:He.DefD:=⟨("_law_is",none),"_law_is","_law_is",defArgs aAy,defBody aAy,defScope aAy,[],[]⟩
def aJK:He.DefD:=⟨("_law_is",none),"_law_is","_law_is",defArgs aBl,defBody aBl,defScope aBl,[],[]⟩
def aGR:He.DefD:=⟨("_law_word",none),"_law_word","_law_word",defArgs aAG,defBody aAG,defScope aAG,[],[]⟩
def aGS:He.DefD:=⟨("_law_line",none),"_law_line","_law_line",defArgs aA7,defBody aA7,defScope aA7,[],[]⟩
def aGT:He.DefD:=⟨("_law_pool",none),"_law_pool","_law_pool",defArgs aAH,defBody aAH,defScope aAH,[],[]⟩
def aI9:He.DefD:=⟨("is_whole",none),"is_whole","is_whole",defArgs aBd,defBody aBd,defScope aBd,[],[]⟩
def aN4:He.DefD:=⟨("shared",none),"shared","shared",defArgs aB_,defBody aB_,defScope aB_,[],[]⟩
def aIA:He.DefD:=⟨("is_ratio",none),"is_ratio","is_ratio",defArgs aAS,defBody aAS,defScope aAS,[],[]⟩
def aFE:He.DefD:=⟨("check_ratio",none),"check_ratio","check_ratio",defArgs aA0,defBody aA0,defScope aA0,[],[]⟩
def aGU:He.DefD:=⟨("check_two",none),"check_two","check_two",defArgs aAI,defBody aAI,defScope aAI,[],[]⟩
def aGV:He.DefD:=⟨("is_before",none),"is_before","is_before",defArgs aAJ,defBody aAJ,defScope aAJ,[],[]⟩
def aJL:He.DefD:=⟨("is_rate",none),"is_rate","is_rate",defArgs aBt,defBody aBt,defScope aBt,[],[]⟩
def aJM:He.DefD:=⟨("is_time",none),"is_time","is_time",defArgs aBu,defBody aBu,defScope aBu,[],[]⟩
def aIB:He.DefD:=⟨("is_least",none),"is_least","is_least",defArgs aBe,defBody aBe,defScope aBe,[],[]⟩
def aJN:He.DefD:=⟨("is_most",none),"is_most","is_most",defArgs aBv,defBody aBv,defScope aBv,[],[]⟩
def aJO:He.DefD:=⟨("is_name",none),"is_name","is_name",defArgs aBm,defBody aBm,defScope aBm,[],[]⟩
def aGW:He.DefD:=⟨("is_within",none),"is_within","is_within",defArgs aAK,defBody aAK,defScope aAK,[],[]⟩
def aJP:He.DefD:=⟨("is_size",none),"is_size","is_size",defArgs aBw,defBody aBw,defScope aBw,[],[]⟩
def aN5:He.DefD:=⟨("is_way",none),"is_way","is_way",defArgs aCa,defBody aCa,defScope aCa,[],[]⟩
def aGX:He.DefD:=⟨("is_weight",none),"is_weight","is_weight",defArgs aAL,defBody aAL,defScope aAL,[],[]⟩
def aJQ:He.DefD:=⟨("is_part",none),"is_part","is_part",defArgs aBx,defBody aBx,defScope aBx,[],[]⟩
def aN6:He.DefD:=⟨("is_row",none),"is_row","is_row",defArgs aBI,defBody aBI,defScope aBI,[],[]⟩
def aGY:He.DefD:=⟨("number_of",none),"number_of","number_of",defArgs aA8,defBody aA8,defScope aA8,[],[]⟩
def aGZ:He.DefD:=⟨("is_number",none),"is_number","is_number",defArgs aA9,defBody aA9,defScope aA9,[],[]⟩
def aN7:He.DefD:=⟨("lowest",none),"lowest","lowest",defArgs aCb,defBody aCb,defScope aCb,[],[]⟩
def aG1:He.DefD:=⟨("show_ratio",none),"show_ratio","show_ratio",defArgs aA4,defBody aA4,defScope aA4,[],[]⟩
def aG2:He.DefD:=⟨("read_ratio",none),"read_ratio","read_ratio",defArgs aA5,defBody aA5,defScope aA5,[],[]⟩
def aJR:He.DefD:=⟨("part_of",none),"part_of","part_of",defArgs aBy,defBody aBy,defScope aBy,[],[]⟩
def aN8:He.DefD:=⟨("row_of",none),"row_of","row_of",defArgs aBJ,defBody aBJ,defScope aBJ,[],[]⟩
def aIC:He.DefD:=⟨("read_log",none),"read_log","read_log",defArgs aBf,defBody aBf,defScope aBf,[],[]⟩
def aEV:He.DefD:=⟨("_law_refused",none),"_law_refused","_law_refused",defArgs aAu,defBody aAu,defScope aAu,[],[]⟩
def aG_:He.DefD:=⟨("first_odd",none),"first_odd","first_odd",defArgs aAM,defBody aAM,defScope aAM,[],[]⟩
def aFF:He.DefD:=⟨("check_forms",none),"check_forms","check_forms",defArgs aA1,defBody aA1,defScope aA1,[],[]⟩
def aHa:He.DefD:=⟨("show_part",none),"show_part","show_part",defArgs aAN,defBody aAN,defScope aAN,[],[]⟩
def aID:He.DefD:=⟨("show_row",none),"show_row","show_row",defArgs aAT,defBody aAT,defScope aAT,[],[]⟩
def aIE:He.DefD:=⟨("show_log",none),"show_log","show_log",defArgs aAU,defBody aAU,defScope aAU,[],[]⟩
def aTt:He.DefD:=⟨("law",none),"law","law",defArgs aEY,defBody aEY,defScope aEY,[],[]⟩
def aDG:He.DefD:=⟨("NoText",some "__init__"),"__init__","NoText.__init__",defArgs aAO,defBody aAO,defScope aAO,[],[]⟩
def aE7:He.DefD:=⟨("NoLog",some "__init__"),"__init__","NoLog.__init__",defArgs aAW,defBody aAW,defScope aAW,[],[]⟩
def fnAll:List He.DefD:=[aGN,aN3,aI8,aGO,aFA,aGP,aGQ,aE6,aFB,aFC,aFD,aJK,aGR,aGS,aGT,aI9,aN4,aIA,aFE,aGU,aGV,aJL,aJM,aIB,aJN,aJO,aGW,aJP,aN5,aGX,aJQ,aN6,aGY,aGZ,aN7,aG1,aG2,aJR,aN8,aIC,aEV,aG_,aFF,aHa,aID,aIE,aTt,aDG,aE7]
def fx_0:Fx:=freesB [("abs":Str),("all":Str),("bool":Str),("divmod":Str),("enumerate":Str),("int":Str),("isinstance":Str),("len":Str),("max":Str),("min":Str),("range":Str),("str":Str),("tuple":Str),("zip":Str)]
def fx_1:Fx:=glosB [("LOOKS":Str),("PARTS":Str),("_law_cell":Str),("_law_r":Str),("_law_add":Str),("_law_take":Str),("_law_moment":Str),("_law_name":Str),("_law_rate":Str),("_law_drawn_log":Str),("_law_is":Str),("_law_word":Str),("_law_line":Str),("_law_pool":Str),("is_whole":Str),("shared":Str),("is_ratio":Str),("check_ratio":Str),("check_two":Str),("is_before":Str)]
def fx_2:Fx:=glosB [("is_rate":Str),("is_time":Str),("is_least":Str),("is_most":Str),("is_name":Str),("is_within":Str),("is_size":Str),("is_way":Str),("is_weight":Str),("is_part":Str),("is_row":Str),("number_of":Str),("is_number":Str),("lowest":Str),("show_ratio":Str),("read_ratio":Str),("part_of":Str),("row_of":Str),("read_log":Str),("_law_refused":Str)]
def fx_3:Fx:=glosB [("first_odd":Str),("check_forms":Str),("show_part":Str),("show_row":Str),("show_log":Str),("law":Str),("NONE":Str),("NoLog":Str),("NoRatio":Str),("NoText":Str),("TagError":Str)]
def fx_4:Fx:=strB "FIGURES_logtexts" "0123456789"
def fx_5:Fx:=strB "FIGURES_ratios" "0123456789"
def fx_6:Fx:=strB "LETTERS" "abcdefghijklmnopqrstuvwxyz"
def fx_7:Fx:=intB "MOST_LETTERS" 8
def fx_8:Fx:=intB "MOST_SIZE" 999
def fx_9:Fx:=intB "MOST_WEIGHT" 99
def aVw:Fx:=tupX "NONE" [.int 0, .int 1]
def aVx:Fx:=xoB "NoText" bmValueError "ValueError.__new__"
def aR8:Fx:=iniB "NoText" "row"
def aVy:Fx:=hdB "TagError" "ValueError.__init__"
def aVz:Fx:=xoB "NoLog" bmValueError "ValueError.__new__"
def aR9:Fx:=iniB "NoLog" "row"
def aV0:Fx:=hdB "TagError" "ValueError.__init__"
def aV1:Fx:=xcfB 4 [4,17]
def aV2:Fx:=xcoB "NoRatio" bmValueError "ValueError.__new__"
def aV3:Fx:=exsB [3,4,17]
def aV4:Fx:=exmB "NoText" ([3,4,17].map fun n=>(n,subC n 4))
def aV5:Fx:=ndB tsL
def aV6:Fx:=tabGB "LOOKS" aGF
def aV7:Fx:=tabVB "PARTS" aN2
def fxAll:List Fx:=[fx_0,fx_1,fx_2,fx_3,fx_4,fx_5,fx_6,fx_7,fx_8,fx_9,aVw,aVx,aR8,aVy,aVz,aR9,aV0,aV1,aV2,aV3,aV4,aV5,aV6,aV7]
abbrev R:PySem.W.OpenRow:=PySem.W.OpenLaw.row PySem.Challenge.rw_sharetags_k33_logs_as_texts
abbrev qv:Program:=PySem.W.view R.prog [62]
def nm_0:List Str:=[("NONE":Str),("TagError":Str),("NoRatio":Str),("NoText":Str),("NoLog":Str),("FIGURES_ratios":Str),("is_whole":Str),("shared":Str),("is_ratio":Str),("lowest":Str),("check_ratio":Str),("check_two":Str),("is_before":Str),("show_ratio":Str),("is_number":Str),("read_ratio":Str),("is_time":Str),("is_rate":Str),("LETTERS":Str),("MOST_LETTERS":Str)]
def nm_1:List Str:=[("is_name":Str),("MOST_WEIGHT":Str),("MOST_SIZE":Str),("is_within":Str),("is_least":Str),("is_most":Str),("is_weight":Str),("is_size":Str),("is_way":Str),("LOOKS":Str),("PARTS":Str),("is_part":Str),("is_row":Str),("first_odd":Str),("check_forms":Str),("FIGURES_logtexts":Str),("show_part":Str),("show_row":Str),("show_log":Str),("number_of":Str)]
def nm_2:List Str:=[("part_of":Str),("row_of":Str),("read_log":Str),("_law_cell":Str),("_law_pool":Str),("_law_take":Str),("_law_r":Str),("_law_add":Str),("_law_name":Str),("_law_rate":Str),("_law_moment":Str),("_law_drawn_log":Str),("_law_word":Str),("_law_line":Str),("_law_is":Str),("_law_refused":Str)]
def nmAll:List Str:=nm_0++nm_1++nm_2
end
end Wk33
namespace Wk33
open PySem L2 G PySem.W PySem.Calls PyProof.Rows
set_option maxRecDepth 100000 in
set_option maxHeartbeats 0 in
theorem aPo (w:World):RunLS R qv 100000 nmAll (w.withFollow "special-get-raises" false):=by
  intro os
  kernel_rfl
set_option maxRecDepth 100000 in
set_option maxHeartbeats 0 in
theorem aPp (w:World):RunO R (hookU 5 ((fxAll.take 12).take 6) ((fnAll.take 25).take 13) (tsL.map (·.1)) tdL) (obUT 5 ((fxAll.take 12).take 6) ((fnAll.take 25).take 13) (tsL.map (·.1)) tdL) 100000 (w.withFollow "special-get-raises" false):=by
  intro os
  kernel_rfl
set_option maxRecDepth 100000 in
set_option maxHeartbeats 0 in
theorem aPq (w:World):RunO R (hookT 5 ((fxAll.take 12).drop 6) ((fnAll.take 25).drop 13) []) (obTT 5 ((fxAll.take 12).drop 6) ((fnAll.take 25).drop 13) []) 100000 (w.withFollow "special-get-raises" false):=by
  intro os
  kernel_rfl
theorem aPr (w:World):RunO R (hookU 5 (fxAll.take 12) (fnAll.take 25) (tsL.map (·.1)) tdL) (obUT 5 (fxAll.take 12) (fnAll.take 25) (tsL.map (·.1)) tdL) 100000 (w.withFollow "special-get-raises" false):=aDP 6 13 (aPp w) (aPq w)
set_option maxRecDepth 100000 in
set_option maxHeartbeats 0 in
theorem aPs (w:World):RunO R (hookT 5 ((fxAll.drop 12).take 6) ((fnAll.drop 25).take 13) []) (obTT 5 ((fxAll.drop 12).take 6) ((fnAll.drop 25).take 13) []) 100000 (w.withFollow "special-get-raises" false):=by
  intro os
  kernel_rfl
set_option maxRecDepth 100000 in
set_option maxHeartbeats 0 in
theorem aPt (w:World):RunO R (hookT 5 ((fxAll.drop 12).drop 6) ((fnAll.drop 25).drop 13) []) (obTT 5 ((fxAll.drop 12).drop 6) ((fnAll.drop 25).drop 13) []) 100000 (w.withFollow "special-get-raises" false):=by
  intro os
  kernel_rfl
theorem aPu (w:World):RunO R (hookT 5 (fxAll.drop 12) (fnAll.drop 25) []) (obTT 5 (fxAll.drop 12) (fnAll.drop 25) []) 100000 (w.withFollow "special-get-raises" false):=aGM 6 13 (aPs w) (aPt w)
theorem aPv (w:World):HandSHeadRun.RunEq R qv (hookU 5 fxAll fnAll (tsL.map (·.1)) tdL) (obUT 5 fxAll fnAll (tsL.map (·.1)) tdL) 100000 nmAll (w.withFollow "special-get-raises" false):=aPn (aPo w) (aDP 12 25 (aPr w) (aPu w))
set_option maxRecDepth 100000 in
set_option maxHeartbeats 0 in
theorem aRA (w:World):RunLS R qv 100000 nmAll (w.withFollow "special-get-raises" true):=by
  intro os
  kernel_rfl
set_option maxRecDepth 100000 in
set_option maxHeartbeats 0 in
theorem aRB (w:World):RunO R (hookU 5 ((fxAll.take 12).take 6) ((fnAll.take 25).take 13) (tsL.map (·.1)) tdL) (obUT 5 ((fxAll.take 12).take 6) ((fnAll.take 25).take 13) (tsL.map (·.1)) tdL) 100000 (w.withFollow "special-get-raises" true):=by
  intro os
  kernel_rfl
set_option maxRecDepth 100000 in
set_option maxHeartbeats 0 in
theorem aRC (w:World):RunO R (hookT 5 ((fxAll.take 12).drop 6) ((fnAll.take 25).drop 13) []) (obTT 5 ((fxAll.take 12).drop 6) ((fnAll.take 25).drop 13) []) 100000 (w.withFollow "special-get-raises" true):=by
  intro os
  kernel_rfl
theorem aRD (w:World):RunO R (hookU 5 (fxAll.take 12) (fnAll.take 25) (tsL.map (·.1)) tdL) (obUT 5 (fxAll.take 12) (fnAll.take 25) (tsL.map (·.1)) tdL) 100000 (w.withFollow "special-get-raises" true):=aDP 6 13 (aRB w) (aRC w)
set_option maxRecDepth 100000 in
set_option maxHeartbeats 0 in
theorem aRE (w:World):RunO R (hookT 5 ((fxAll.drop 12).take 6) ((fnAll.drop 25).take 13) []) (obTT 5 ((fxAll.drop 12).take 6) ((fnAll.drop 25).take 13) []) 100000 (w.withFollow "special-get-raises" true):=by
  intro os
  kernel_rfl
set_option maxRecDepth 100000 in
set_option maxHeartbeats 0 in
theorem aRF (w:World):RunO R (hookT 5 ((fxAll.drop 12).drop 6) ((fnAll.drop 25).drop 13) []) (obTT 5 ((fxAll.drop 12).drop 6) ((fnAll.drop 25).drop 13) []) 100000 (w.withFollow "special-get-raises" true):=by
  intro os
  kernel_rfl
theorem aRG (w:World):RunO R (hookT 5 (fxAll.drop 12) (fnAll.drop 25) []) (obTT 5 (fxAll.drop 12) (fnAll.drop 25) []) 100000 (w.withFollow "special-get-raises" true):=aGM 6 13 (aRE w) (aRF w)
theorem aRH (w:World):HandSHeadRun.RunEq R qv (hookU 5 fxAll fnAll (tsL.map (·.1)) tdL) (obUT 5 fxAll fnAll (tsL.map (·.1)) tdL) 100000 nmAll (w.withFollow "special-get-raises" true):=aPn (aRA w) (aDP 12 25 (aRD w) (aRG w))
theorem run (w:World):HandSHeadRun.RunEq R qv (hookU 5 fxAll fnAll (tsL.map (·.1)) tdL) (obUT 5 fxAll fnAll (tsL.map (·.1)) tdL) 100000 nmAll w:=G.aVv aPv aRH w
end Wk33
set_option Elab.async false
set_option linter.all false
set_option maxRecDepth 100000
set_option maxHeartbeats 8000000
namespace G
open PySem L2
theorem Fz.same {w w':Wo}(h1:w'.st=w.st) (h2:w'.hp=w.hp):Fz w w':=fun _ _ _ _ h _=>⟨by rw [h1];exact h,by rw [h2]⟩
theorem Ex0.refl (w:Wo):Ex0 w w:=⟨⟨[],by simp⟩,fun _ h => .inl h,fun _ _ h _=>h,fun _ o h=>⟨o,h⟩⟩
theorem Ext.refl (w:Wo):Ext w w:=⟨Ex0.refl w,rfl,fun _ _=>rfl,Fz.same rfl rfl⟩
variable {K:PySem.W.Frag}{mg:Str→Option Value}{w w':Wo}
theorem RepL.getV {l:List D}{vs:List V}{i:Nat}{v:V}:RepL K mg w l vs→vs[i]? = some v→∃ d,l[i]? = some d∧RepD K mg w d v
  | .nil,h=>by simp at h
  | .cons r t,h=>by
    cases i with
    | zero=>simp at h;subst h;exact ⟨_,by simp,r⟩
    | succ i=>
      obtain ⟨v,e,q⟩:=RepL.getV (i:=i) t (by simpa using h)
      exact ⟨v,by simpa using e,q⟩
theorem RepL.append {l m:List D}{vs us:List V}:RepL K mg w l vs→RepL K mg w m us→RepL K mg w (l++m) (vs++us)
  | .nil,h=>h
  | .cons r t,h => .cons r (RepL.append t h)
theorem aPw {l:List Addr}(h:l.Nodup) {n m:Nat}{a:Addr}(e:l[n]? = some a) (f:l[m]? = some a):n=m:=by
  obtain ⟨h1,e1⟩:=List.getElem?_eq_some_iff.mp e
  obtain ⟨h2,e2⟩:=List.getElem?_eq_some_iff.mp f
  exact (List.getElem_inj h).mp (e1.trans e2.symm)
def Wo.put (w:Wo) (p:Addr) (o:HO):Wo:={ w with hp:=upd w.hp p o }
theorem Rep.not_mem (R:Rep K mg w) {p:Addr}(hn:w.hp p=none):p∉w.al:=fun h=>by
  obtain ⟨o,e⟩:=R.tr p h
  rw [hn] at e;cases e
theorem Rep.not_hid (R:Rep K mg w) {p:Addr}(hn:w.hp p=none):p∉w.hid:=fun h=>by
  obtain ⟨_,o,e⟩:=R.hid p h
  rw [hn] at e;cases e
theorem aBk (R:Rep K mg w) {p:Addr}{o:HO}(hn:w.hp p=none):Ext w (w.put p o):=by
  refine ⟨⟨⟨[],by simp [Wo.put]⟩,fun a h => .inl h,fun a u h _ => ?_,fun a u h=>⟨u,?_⟩⟩,rfl,fun a h => ?_,fun n a c h1 h2 _=>⟨h2,?_⟩⟩
  · show upd w.hp p o a=_
    rw [upd_ne (ne_of_none h hn)];exact h
  · show upd w.hp p o a=_
    rw [upd_ne (ne_of_none h hn)];exact h
  · show upd w.hp p o a=_
    exact upd_ne fun e=>R.not_hid hn (e ▸ h)
  · show upd w.hp p o a=_
    exact upd_ne fun e=>R.not_mem hn (e ▸ List.mem_of_getElem? h1)
theorem Rep.put (R:Rep K mg w) {p:Addr}{o:HO}(hn:w.hp p=none):Rep K mg (w.put p o):=by
  have X:=aBk (o:=o) R hn
  refine ⟨R.len,R.nd,fun a h => ?_,fun n a c h1 h2 => ?_,fun a h => ?_⟩
  · obtain ⟨u,e⟩:=R.tr a h
    exact X.tr a u e
  · have hm:a∈w.al:=List.mem_of_getElem? h1
    refine (R.cell n a c h1 h2).ext X.toEx0 ?_
    show upd w.hp p o a=_
    exact upd_ne fun z=>R.not_mem hn (z ▸ hm)
  · obtain ⟨h1,u,e⟩:=R.hid a h
    exact ⟨h1,X.tr a u e⟩
theorem aBO (R:Rep K mg w) {p:Addr}{o:HO}(hn:w.hp p=none):StP (w.put p o) p o:=by
  refine ⟨upd_same,fun z => ?_⟩
  rcases z with ⟨n,c,h1,_,_⟩ | z
  · exact R.not_mem hn (List.mem_of_getElem? h1)
  · exact R.not_hid hn z
theorem StP.o {w:Wo}{a:Addr}{u:HO}(h:StP w a u):StO w a u:=⟨.inl h.1,h.2⟩
def Wo.new (w:Wo) (p:Addr) (o:HO) (c:Cell):Wo:=⟨w.al++[p],w.st++[c],upd w.hp p o,w.hid⟩
theorem aLF (R:Rep K mg w) {p:Addr}{o:HO}{c:Cell}(hn:w.hp p=none):Ext w (w.new p o c):=by
  refine ⟨⟨⟨[p],rfl⟩,fun a h => ?_,fun a u h _ => ?_,fun a u h=>⟨u,?_⟩⟩,rfl,fun a h => ?_,fun n a c' h1 h2 _=>⟨?_,?_⟩⟩
  · rcases h with h | h
    · obtain ⟨n,c',h1,h2,h3⟩:=h
      have h1:(w.al++[p])[n]? = some a:=h1
      have h2:(w.st++[c])[n]? = some c':=h2
      by_cases hl:n<w.al.length
      · rw [List.getElem?_append_left hl] at h1
        rw [List.getElem?_append_left (by rw [← R.len];exact hl)] at h2
        exact .inl (.inl ⟨n,c',h1,h2,h3⟩)
      · rw [List.getElem?_append_right (by omega)] at h1
        have e:n - w.al.length=0:=by
          rcases List.getElem?_eq_some_iff.mp h1 with ⟨q,_⟩
          simp at q;omega
        rw [e] at h1
        simp at h1
        subst h1
        exact .inr hn
    · exact .inl (.inr h)
  · show upd w.hp p o a=_
    rw [upd_ne (ne_of_none h hn)];exact h
  · show upd w.hp p o a=_
    rw [upd_ne (ne_of_none h hn)];exact h
  · show upd w.hp p o a=_
    exact upd_ne fun e=>R.not_hid hn (e ▸ h)
  · show (w.st++[c])[n]? = _
    rw [List.getElem?_append_left (List.getElem?_eq_some_iff.mp h2).1];exact h2
  · show upd w.hp p o a=_
    exact upd_ne fun e=>R.not_mem hn (e ▸ List.mem_of_getElem? h1)
theorem aTu (R:Rep K mg w) {p:Addr}{o:HO}{c:Cell}:(w.new p o c).al[w.st.length]? = some p:=by
  show (w.al++[p])[w.st.length]? = _
  rw [← R.len];simp
theorem Rep.new (R:Rep K mg w) {p:Addr}{o:HO}{c:Cell}(hn:w.hp p=none) (hc:CellR K mg (w.new p o c) p c):Rep K mg (w.new p o c):=by
  have X:=aLF (o:=o) (c:=c) R hn
  refine ⟨?_,?_,fun a h => ?_,fun n a c' h1 h2 => ?_,fun a h => ?_⟩
  · show (w.al++[p]).length=(w.st++[c]).length
    rw [List.length_append,List.length_append,R.len];rfl
  · show (w.al++[p]).Nodup
    rw [List.nodup_append]
    refine ⟨R.nd,by simp,fun a ha b hb => ?_⟩
    simp at hb;subst hb
    exact fun z=>R.not_mem hn (z ▸ ha)
  · have h:a∈w.al++[p]:=h
    rcases List.mem_append.mp h with h | h
    · obtain ⟨u,e⟩:=R.tr a h
      exact X.tr a u e
    · simp at h;subst h
      exact ⟨o,upd_same⟩
  · have h1:(w.al++[p])[n]? = some a:=h1
    have h2:(w.st++[c])[n]? = some c':=h2
    by_cases hl:n<w.al.length
    · rw [List.getElem?_append_left hl] at h1
      rw [List.getElem?_append_left (by rw [← R.len];exact hl)] at h2
      refine (R.cell n a c' h1 h2).ext X.toEx0 ?_
      show upd w.hp p o a=_
      exact upd_ne fun z=>R.not_mem hn (z ▸ List.mem_of_getElem? h1)
    · rw [List.getElem?_append_right (by omega)] at h1
      rw [List.getElem?_append_right (by rw [← R.len];omega)] at h2
      have e:n - w.al.length=0:=by
        rcases List.getElem?_eq_some_iff.mp h1 with ⟨q,_⟩
        simp at q;omega
      rw [← R.len,e] at h2
      rw [e] at h1
      simp at h1 h2
      subst h1;subst h2
      exact hc
  · obtain ⟨h1,u,e⟩:=R.hid a h
    refine ⟨fun z => ?_,X.tr a u e⟩
    rcases List.mem_append.mp (show a∈w.al++[p] from z) with z | z
    · exact h1 z
    · simp at z;subst z
      rw [hn] at e;cases e
def Wo.wr (w:Wo) (n:Nat) (a:Addr) (o:HO) (c:Cell):Wo:=⟨w.al,w.st.set n c,upd w.hp a o,w.hid⟩
theorem aSD {n:Nat}{a:Addr}{o:HO}{c c0:Cell}(h1:w.al[n]? = some a) (h2:w.st[n]? = some c0) (h3:c0 ≠ .dead):Ex0 w (w.wr n a o c):=by
  have za:Zl w a:=.inl ⟨n,c0,h1,h2,h3⟩
  refine ⟨⟨[],by simp [Wo.wr]⟩,fun b h => ?_,fun b u h z => ?_,fun b u h => ?_⟩
  · rcases h with h | h
    · obtain ⟨m,c',g1,g2,g3⟩:=h
      have g2:(w.st.set n c)[m]? = some c':=g2
      by_cases e:m=n
      · subst e
        have g1:w.al[m]? = some b:=g1
        rw [h1] at g1;cases g1
        exact .inl za
      · rw [List.getElem?_set_ne (Ne.symm e)] at g2
        exact .inl (.inl ⟨m,c',g1,g2,g3⟩)
    · exact .inl (.inr h)
  · show upd w.hp a o b=_
    rw [upd_ne fun e:b=a=>z (by rw [e];exact za)];exact h
  · by_cases e:b=a
    · subst e;exact ⟨o,upd_same⟩
    · exact ⟨u,by show upd w.hp a o b=_;rw [upd_ne e];exact h⟩
theorem aJS (R:Rep K mg w) {n:Nat}{a:Addr}{o:HO}{c c0:Cell}(h1:w.al[n]? = some a) (h2:w.st[n]? = some c0) (h3:c0 ≠ .dead) (hz:c0.frz=false:=by rfl):Ext w (w.wr n a o c):=by
  refine ⟨aSD h1 h2 h3,rfl,fun b h => ?_,fun m b c' g1 g2 g3 => ?_⟩
  · show upd w.hp a o b=_
    exact upd_ne fun e=>(R.hid b h).1 (e ▸ List.mem_of_getElem? h1)
  · have e:m≠n:=fun z=>by
      subst z
      rw [h2] at g2;cases g2
      rw [hz] at g3;cases g3
    refine ⟨?_,?_⟩
    · show (w.st.set n c)[m]? = _
      rw [List.getElem?_set_ne (Ne.symm e)];exact g2
    · show upd w.hp a o b=_
      exact upd_ne fun z=>e (aPw R.nd g1 (z ▸ h1))
theorem Rep.wr (R:Rep K mg w) {n:Nat}{a:Addr}{o:HO}{c c0:Cell}(h1:w.al[n]? = some a) (h2:w.st[n]? = some c0) (h3:c0 ≠ .dead) (hc:CellR K mg (w.wr n a o c) a c):Rep K mg (w.wr n a o c):=by
  have X:=aSD (o:=o) (c:=c) h1 h2 h3
  refine ⟨?_,R.nd,fun b h => ?_,fun m b c' g1 g2 => ?_,fun b h => ?_⟩
  · show w.al.length=(w.st.set n c).length
    rw [List.length_set];exact R.len
  · obtain ⟨u,e⟩:=R.tr b h
    exact X.tr b u e
  · have g2:(w.st.set n c)[m]? = some c':=g2
    replace g1:w.al[m]? = some b:=g1
    by_cases e:m=n
    · subst e
      replace g1:=h1.symm.trans g1;cases g1
      rw [List.getElem?_set_self (List.getElem?_eq_some_iff.mp h2).1] at g2
      cases g2;exact hc
    · rw [List.getElem?_set_ne (Ne.symm e)] at g2
      refine (R.cell m b c' g1 g2).ext X ?_
      show upd w.hp a o b=_
      exact upd_ne fun z=>e (aPw R.nd g1 (z ▸ h1))
  · obtain ⟨h1,u,e⟩:=R.hid b h
    exact ⟨h1,X.tr b u e⟩
def Wo.cut (w:Wo) (n:Nat):Wo:=⟨w.al.take n,w.st.take n,w.hp,w.hid⟩
theorem aGG {α:Type}{l:List α}{n m:Nat}{a:α}(h:(l.take n)[m]? = some a):l[m]? = some a:=by
  rw [List.getElem?_take] at h
  split at h
  · exact h
  · cases h
theorem aPx {n:Nat}{a:Addr}(h:Zl (w.cut n) a):Zl w a:=by
  rcases h with ⟨m,c,g1,g2,g3⟩ | h
  · exact .inl ⟨m,c,aGG g1,aGG g2,g3⟩
  · exact .inr h
theorem aN9 {α:Type}{l:List α}{n:Nat}{a:α}(h:a∈l.take n):a∈l:=List.mem_of_mem_take h
theorem RepE.gone {e:En}{s:St}(h:RepE K mg w e s) (i:Nat):RepE K mg w (e.set i none) (s.set i none):=by
  refine ⟨by rw [List.length_set,List.length_set];exact h.len,fun j d' g => ?_⟩
  by_cases hj:j=i
  · subst hj
    by_cases hl:j<e.length
    · rw [List.getElem?_set_self hl] at g;cases g
    · rw [List.getElem?_eq_none (by simpa using hl)] at g;cases g
  · rw [List.getElem?_set_ne (Ne.symm hj)] at g ⊢
    exact h.get j d' g
theorem Post.now {β γ:Type}{Rl:Wo→β→γ→Prop}{b:β}{v:γ}{Q:γ→Hp→Prop}{E:XK}(h:Post Rl K mg w (.ok b w.st) Q E) (R:Rep K mg w) (q:Rl w b v):Q v w.hp:=h w v (Ext.refl w) R rfl q
theorem Post.put {β γ:Type}{Rl:Wo→β→γ→Prop}{b:β}{v:γ}{Q:γ→Hp→Prop}{E:XK}{p:Addr}{o:HO}(h:Post Rl K mg w (.ok b w.st) Q E) (R:Rep K mg w) (hn:w.hp p=none) (q:Rl (w.put p o) b v):Q v (upd w.hp p o):=
  h (w.put p o) v (aBk R hn) (R.put hn) rfl q
end G
namespace G
open PySem L2
abbrev AM:=En→Store→Res (List D)
def RlB:Wo→Bool→Bool→Prop:=fun _ b c=>c=b
def tG {β γ:Type}(Rl:Wo→β→γ→Prop) (X:Cx) (W:WX) (m:En→Store→Res β):St→Hp→(γ→Hp→Prop)→Prop:=fun s H Q=>
  ∃ w e,w.hp=H∧Rep X.K X.mg w∧RepE X.K X.mg w e s∧Post Rl X.K X.mg w (m e w.st) Q (fun cls dd H'=>W cls dd s H')
abbrev RE (X:Cx) (W:WX) (e:Expr) (m:EM):Prop:=PE X e (tG (RepD X.K X.mg) X W m)
abbrev RT (X:Cx) (W:WX) (e:Expr) (m:TM):Prop:=PT X e (tG RlB X W m)
abbrev RW (X:Cx) (W:WX) (e:Expr) (m:TM):Prop:=PW X e (tG RlB X W m)
abbrev RA (X:Cx) (W:WX) (es:List Expr) (m:AM):Prop:=PA X es (tG (RepL X.K X.mg) X W m)
section
variable {X:Cx}{W:WX}{a b c e:Expr}{es:List Expr}{ma mb mc me:EM}{ta tb:TM}{pos:Pos}
theorem aAV {t t':TE}(h:PE X e t) (i:∀ s H Q,t' s H Q→t s H Q):PE X e t':=⟨fun pins s σ H Q I q=>h.run pins s σ H Q I (i _ _ _ q)⟩
theorem aIF {t t':TT}(h:PT X e t) (i:∀ s H Q,t' s H Q→t s H Q):PT X e t':=⟨fun pins s σ H Q I q=>h.run pins s σ H Q I (i _ _ _ q)⟩
theorem aSE {t t':TT}(h:PW X e t) (i:∀ s H Q,t' s H Q→t s H Q):PW X e t':=⟨fun wh pins s σ H Q I q=>h.run wh pins s σ H Q I (i _ _ _ q)⟩
theorem aSF {t t':TA}(h:PA X es t) (i:∀ s H Q,t' s H Q→t s H Q):PA X es t':=⟨fun ps pins s σ H Q I q=>h.run ps pins s σ H Q I (i _ _ _ q)⟩
def lf {β:Type}(o:Option β) (S:Store):Res β:=match o with
  | some d => .ok d S
  | none => .stuck
def eC (d:D):EM:=fun _ S => .ok d S
def eVar (i:Nat):EM:=fun e S=>match e[i]? with
  | some (some d) => .ok d S
  | _ => .stuck
theorem re_c {v:V}{d:D}(h:PE X e (tC v)) (q:∀ w,RepD X.K X.mg w d v):RE X W e (eC d):=aAV h fun s H Q ⟨w,en,hw,R,E,P⟩=>by
  subst hw
  exact Post.now P R (q w)
theorem aAe {i j pos}:RE X W (.Constant (.int i) j pos) (eC (.int i)):=re_c pe_int fun _ => .int i
theorem aFG {b j pos}:RE X W (.Constant (.bool b) j pos) (eC (.bl b)):=re_c pe_bl fun _ => .bl b
theorem aBj {j pos}:RE X W (.Constant .none j pos) (eC .non):=re_c pe_non fun _ => .non
theorem aAp {x j pos}:RE X W (.Constant (.str x) j pos) (eC (.str x)):=re_c pe_str fun _ => .str x
theorem aD9 {x:Str}{v:V}{u:Value}{d:D}(hg:Gl X x) (hm:X.mg x=some u) (r:RelV v u) (q:∀ w,RepD X.K X.mg w d v) (hd:(x == ("__debug__":Str))=false:=by decide):RE X W (.Name x pos) (eC d):=re_c (pe_glob hg hm r hd) q
theorem re_v {i:Nat}{x:Str}(h:PE X (.Name x pos) (tVar i)):RE X W (.Name x pos) (eVar i):=aAV h fun s H Q ⟨w,en,hw,R,E,P⟩=>by
  subst hw
  unfold eVar at P
  split at P
  · rename_i d hd
    obtain ⟨v,hv,r⟩:=E.get i d hd
    exact ⟨v,hv,Post.now P R r⟩
  · exact False.elim P
theorem rv (i:Nat) {x:Str}(hN:X.N[i]? = some x:=by rfl) (hv:Vis X.env.scope x:=by first | exact Or.inl rfl | exact Or.inr (Or.inl rfl) | exact Or.inr (Or.inr rfl)) (hd:(x == ("__debug__":Str))=false:=by decide)
    (hcd:(x == ("__classdict__":Str))=false:=by decide):RE X W (.Name x pos) (eVar i):=re_v (pe_var hN hv hd hcd)
def OpM (X:Cx) (f:D→D→Option D):R2:=fun v u H Q=>∃ w x y E,w.hp=H∧Rep X.K X.mg w∧RepD X.K X.mg w x v∧RepD X.K X.mg w y u∧Post (RepD X.K X.mg) X.K X.mg w (lf (f x y) w.st) Q E
def eBin (f:D→D→Option D) (a b:EM):EM:=fun e S=>(a e S).bind fun x S1=>(b e S1).bind fun y S2=>lf (f x y) S2
theorem aTv {f:D→D→Option D}:∀ s H Q,tG (RepD X.K X.mg) X W (eBin f ma mb) s H Q→tOp (OpM X f) (tG (RepD X.K X.mg) X W ma) (tG (RepD X.K X.mg) X W mb) s H Q:=by
  rintro s H Q ⟨w,en,rfl,R,E,P⟩
  refine ⟨w,en,rfl,R,E,(Post.bind P).imp ?_⟩
  rintro v H1 ⟨w1,x,rfl,X1,R1,rx,P1⟩
  refine ⟨w1,en,rfl,R1,E.ext X1.toEx0,(Post.bind P1).imp ?_⟩
  rintro u H2 ⟨w2,y,rfl,X2,R2,ry,P2⟩
  exact ⟨w2,x,y,_,rfl,R2,rx.ext X2.toEx0,ry,P2⟩
theorem aBg {op:Operator}{f:D→D→Option D}(ho:OpR X (binaryOp op) (OpM X f)) (ha:RE X W a ma) (hb:RE X W b mb):RE X W (.BinOp a op b pos) (eBin f ma mb):=aAV (pe_op ho ha hb) aTv
theorem aBK {op:CmpOp}{f:D→D→Option D}(ho:OpR X (compareOp op) (OpM X f)) (ha:RE X W a ma) (hb:RE X W b mb) (hm:behindInMarks op b=false):RE X W (.Compare a [op] [b] pos) (eBin f ma mb):=aAV (pe_cmpR ho ha hb hm) aTv
def tB (m:EM):TM:=fun e S=>(m e S).bind fun x S1=>match x with
  | .bl b => .ok b S1
  | _ => .stuck
theorem aAs {op:CmpOp}{f:D→D→Option D}(ho:OpR X (compareOp op) (OpM X f)) (ha:RE X W a ma) (hb:RE X W b mb) (hm:behindInMarks op b=false):RT X W (.Compare a [op] [b] pos) (tB (eBin f ma mb)):=by
  refine aIF (pt_cmpR ho ha hb hm) ?_
  rintro s H Q ⟨w,en,rfl,R,E,P⟩
  refine aTv s w.hp _ ⟨w,en,rfl,R,E,(Post.bind P).imp ?_⟩
  rintro v H1 ⟨w1,x,rfl,X1,R1,rx,P1⟩
  cases x with
  | bl b=>cases rx;exact ⟨b,rfl,Post.now P1 R1 rfl⟩
  | _=>exact False.elim P1
def dAdd:D→D→Option D
  | .int i, .int j=>some (.int (i+j))
  | .str x, .str y=>if x.length+y.length≤sizeLine then some (.str (x++y)) else none
  | .lst l, .lst m=>if l.length+m.length≤sizeLine then some (.lst (l++m)) else none
  | .tup (d::l), .tup m=>if (d::l).length+m.length≤sizeLine then some (.tup (d::l++m)) else none
  | _,_=>none
theorem aV8:OpR X (binaryOp .Add) (OpM X dAdd):=by
  intro pins s σ H x y v u Q I rx ry h
  obtain ⟨w,dx,dy,E,rfl,R,qx,qy,P⟩:=h
  unfold dAdd at P
  split at P
  · cases qx;cases qy
    exact op_add pins s σ w.hp _ _ v u Q I rx ry ⟨_,_,rfl,rfl,Post.now P R (.int _)⟩
  · split at P
    · rename_i hz
      cases qx;cases qy
      exact op_add_str pins s σ w.hp _ _ v u Q I rx ry ⟨_,_,rfl,rfl,hz,Post.now P R (.str _)⟩
    · exact False.elim P
  · split at P
    · rename_i hz
      cases qx with
      | lst s1 r1=>
        cases qy with
        | lst s2 r2=>
          refine op_cat pins s σ w.hp _ _ v u Q I rx ry ⟨_,_,_,_,rfl,rfl,s1.1,s2.1,by rw [← r1.length,← r2.length];exact hz,fun p hp => ?_⟩
          exact Post.put P R hp (.lst (aBO R hp) ((r1.append r2).ext (aBk R hp).toEx0))
    · exact False.elim P
  · split at P
    · rename_i hz
      cases qx with
      | tup s1 r1=>
        cases qy with
        | tup s2 r2=>
          have r12:=r1.append r2
          cases r1 with
          | cons r1 r1'=>
            refine op_catT pins s σ w.hp _ _ v u Q I rx ry ⟨_,_,_,_,rfl,rfl,s1.sq,s2.sq,by simp,?_,?_⟩
            · have e1:=r1'.length
              have e2:=r2.length
              simp only [List.length_cons] at hz ⊢
              omega
            · first
                | refine ⟨fun hn => ?_,fun hn p hp => ?_⟩
                | refine ⟨fun hn p hp => ?_,fun hn => ?_⟩
              · subst hn
                cases r2
                rw [List.append_nil] at P
                exact Post.now P R (.tup s1 (.cons r1 r1'))
              · exact Post.put P R hp (.tup (.inl (aBO R hp).o) (r12.ext (aBk R hp).toEx0))
    · exact False.elim P
  · exact False.elim P
def dSub:D→D→Option D
  | .int i, .int j=>some (.int (i - j))
  | _,_=>none
theorem aSG:OpR X (binaryOp .Sub) (OpM X dSub):=by
  intro pins s σ H x y v u Q I rx ry h
  obtain ⟨w,dx,dy,E,rfl,R,qx,qy,P⟩:=h
  unfold dSub at P
  split at P
  · cases qx;cases qy
    exact op_sub pins s σ w.hp _ _ v u Q I rx ry ⟨_,_,rfl,rfl,Post.now P R (.int _)⟩
  · exact False.elim P
def mulOk (i j:Int):Bool:=decide (i.natAbs<2 ^ 64) || (decide (j.natAbs<2 ^ 64) || decide (i.natAbs.log2+j.natAbs.log2<1000000))
def dMul:D→D→Option D
  | .int i, .int j=>if mulOk i j then some (.int (i*j)) else none
  | .lst l, .int k=>if -(2 ^ 63)≤k∧k<2 ^ 63∧l.length*k.toNat≤sizeLine then some (.lst (List.replicate k.toNat l).flatten) else none
  | _,_=>none
theorem RepL.rep {w:Wo}{l:List D}{vs:List V}(h:RepL X.K X.mg w l vs):∀ n:Nat,RepL X.K X.mg w (List.replicate n l).flatten (List.replicate n vs).flatten
  | 0 => .nil
  | n+1=>by
    rw [List.replicate_succ,List.replicate_succ,List.flatten_cons,List.flatten_cons]
    exact h.append (RepL.rep h n)
theorem aDH:OpR X (binaryOp .Mult) (OpM X dMul):=by
  intro pins s σ H x y v u Q I rx ry h
  obtain ⟨w,dx,dy,E,rfl,R,qx,qy,P⟩:=h
  unfold dMul at P
  split at P
  · split at P
    · rename_i hm
      cases qx;cases qy
      unfold mulOk at hm
      rw [Bool.or_eq_true,Bool.or_eq_true] at hm
      rcases hm with hm | hm | hm
      · have hm:=of_decide_eq_true hm
        exact op_mul pins s σ w.hp _ _ v u Q I rx ry ⟨_,_,rfl,rfl, .inl (by omega),Post.now P R (.int _)⟩
      · have hm:=of_decide_eq_true hm
        exact op_mul pins s σ w.hp _ _ v u Q I rx ry ⟨_,_,rfl,rfl, .inr (by omega),Post.now P R (.int _)⟩
      · have hm:=of_decide_eq_true hm
        exact op_mulW pins s σ w.hp _ _ v u Q I rx ry ⟨_,_,rfl,rfl,hm,Post.now P R (.int _)⟩
    · exact False.elim P
  · split at P
    · rename_i hm
      cases qx with
      | lst s1 r1=>
        cases qy
        refine op_rep pins s σ w.hp _ _ v u Q I rx ry ⟨_,_,_,rfl,rfl,s1.1,hm.1,hm.2.1,by rw [← r1.length];exact hm.2.2,fun p hp => ?_⟩
        exact Post.put P R hp (.lst (aBO R hp) ((RepL.rep r1 _).ext (aBk R hp).toEx0))
    · exact False.elim P
  · exact False.elim P
def divOk (j:Int):Bool:=j != 0 && decide (j.natAbs.log2<9000)
def dDiv:D→D→Option D
  | .int i, .int j=>if divOk j then some (.int (i.fdiv j)) else none
  | _,_=>none
theorem aRI:OpR X (binaryOp .FloorDiv) (rI (fun _ j=>j≠0∧j.natAbs.log2<9000) fun i j => .int (i.fdiv j)):=
  opI fun i j _ _ _ _ _ hc q=>PyProof.Rows.floordiv_int hc.1 q (.inl (PyProof.noPylong_of_log2 hc.2))
theorem aJT:OpR X (binaryOp .FloorDiv) (OpM X dDiv):=by
  intro pins s σ H x y v u Q I rx ry h
  obtain ⟨w,dx,dy,E,rfl,R,qx,qy,P⟩:=h
  unfold dDiv at P
  split at P
  · split at P
    · rename_i hm
      cases qx;cases qy
      unfold divOk at hm
      simp only [Bool.and_eq_true,bne_iff_ne,decide_eq_true_eq] at hm
      exact aRI pins s σ w.hp _ _ v u Q I rx ry ⟨_,_,rfl,rfl,hm,Post.now P R (.int _)⟩
    · exact False.elim P
  · exact False.elim P
def dMod:D→D→Option D
  | .int i, .int j=>if j=0 then none else some (.int (i.fmod j))
  | _,_=>none
theorem aG3:OpR X (binaryOp .Mod) (OpM X dMod):=by
  intro pins s σ H x y v u Q I rx ry h
  obtain ⟨w,dx,dy,E,rfl,R,qx,qy,P⟩:=h
  unfold dMod at P
  split at P
  · split at P
    · exact False.elim P
    · rename_i hm
      cases qx;cases qy
      exact op_modN pins s σ w.hp _ _ v u Q I rx ry ⟨_,_,rfl,rfl,hm,Post.now P R (.int _)⟩
  · exact False.elim P
def dPow:D→D→Option D
  | .int i, .int j=>if 0≤j∧j≤1000000∧i.natAbs<2 ^ 64 then some (.int (i ^ j.toNat)) else none
  | _,_=>none
theorem aPy:OpR X (binaryOp .Pow) (OpM X dPow):=by
  intro pins s σ H x y v u Q I rx ry h
  obtain ⟨w,dx,dy,E,rfl,R,qx,qy,P⟩:=h
  unfold dPow at P
  split at P
  · split at P
    · rename_i hm
      cases qx;cases qy
      exact op_pow pins s σ w.hp _ _ v u Q I rx ry ⟨_,_,rfl,rfl,hm,Post.now P R (.int _)⟩
    · exact False.elim P
  · exact False.elim P
mutual
def D.toP:D→Option PyData
  | .non=>some .none
  | .bl b=>some (.bool b)
  | .int i=>some (.int i)
  | .str x=>some (.str x)
  | .tup l=>(toPs l).map .tuple
  | .lst l=>(toPs l).map .list
  | .scr l=>(toPs l).map .list
  | .dic _ _=>none
  | .loc _=>none
  | .exc _ _=>none
  | .ins _ _=>none
  | .fa _=>none
  | .pin _ _=>none
def toPs:List D→Option (List PyData)
  | []=>some []
  | d::l=>match d.toP,toPs l with
    | some p,some ps=>some (p::ps)
    | _,_=>none
end
mutual
theorem RepD.dp {K:PySem.W.Frag}{mg:Str→Option Value}{w:Wo}{d:D}{v:V}{p:PyData}:RepD K mg w d v→d.toP=some p→Dp K w.hp v p
  | .non,h=>by cases h;exact .non
  | .bl b,h=>by cases h;exact .bl b
  | .int i,h=>by cases h;exact .int i
  | .str x,h=>by cases h;exact .str x
  | .tup s r,h=>by
    rw [D.toP] at h
    obtain ⟨ps,e,rfl⟩:=Option.map_eq_some_iff.mp h
    exact .tup s.sq (RepL.dp r e)
  | .lst s r,h=>by
    rw [D.toP] at h
    obtain ⟨ps,e,rfl⟩:=Option.map_eq_some_iff.mp h
    exact .lst (SqL.of s.1) (RepL.dp r e)
  | .scr s r,h=>by
    rw [D.toP] at h
    obtain ⟨ps,e,rfl⟩:=Option.map_eq_some_iff.mp h
    exact .lst s.sq (RepL.dp r e)
  | .dic _ _ _,h=>by rw [D.toP] at h;cases h
  | .loc _,h=>by rw [D.toP] at h;cases h
  | .ins _ _ _,h=>by rw [D.toP] at h;cases h
  | .exc _ _ _ _,h=>by rw [D.toP] at h;cases h
  | .fa _,h=>by rw [D.toP] at h;cases h
  | .pin _,h=>by rw [D.toP] at h;cases h
theorem RepL.dp {K:PySem.W.Frag}{mg:Str→Option Value}{w:Wo}{l:List D}{vs:List V}{ps:List PyData}:RepL K mg w l vs→toPs l=some ps→DpAll K w.hp vs ps
  | .nil,h=>by rw [toPs] at h;cases h;exact .nil
  | .cons r t,h=>by
    rw [toPs] at h
    split at h
    · rename_i p q e1 e2
      cases h
      exact .cons (RepD.dp r e1) (RepL.dp t e2)
    · cases h
end
def eqP (x y:D):Option Bool:=match x.toP,y.toP with
  | some p,some q=>if SeqAt.shaped p && SeqAt.shaped q then some (PyData.eqv p q) else none
  | _,_=>none
def eqD:D→D→Option Bool
  | .str a, .str b=>some (decide (a=b))
  | x,y=>eqP x y
def dEq (x y:D):Option D:=(eqD x y).map .bl
def dNe (x y:D):Option D:=(eqD x y).map fun b => .bl (!b)
theorem aSH (a b:Str):decide (V.str a=V.str b)=decide (a=b):=by
  by_cases h:a=b
  · subst h;simp
  · rw [decide_eq_false h,decide_eq_false fun z=>h (by cases z;rfl)]
theorem aJU {x y:D}{r:Option Bool}(h:eqD x y=r):(∃ a b,x = .str a∧y = .str b∧r=some (decide (a=b)))∨r=eqP x y:=by
  unfold eqD at h
  split at h
  · exact .inl ⟨_,_,rfl,rfl,h.symm⟩
  · exact .inr h.symm
theorem aDa (hu:X.A.units+64<cLine):OpR X (compareOp .Eq) (OpM X dEq):=by
  intro pins s σ H x y v u Q I rx ry h
  obtain ⟨w,dx,dy,E,rfl,R,qx,qy,P⟩:=h
  unfold dEq at P
  rcases aJU (x:=dx) (y:=dy) rfl with ⟨a,b,rfl,rfl,e⟩ | e
  · rw [e] at P
    cases qx;cases qy
    exact op_eq pins s σ w.hp _ _ v u Q I rx ry ⟨rfl,by rw [aSH];exact Post.now P R (.bl _)⟩
  · rw [e] at P
    unfold eqP at P
    split at P
    · rename_i p q e1 e2
      split at P
      · rename_i hs
        rw [Bool.and_eq_true] at hs
        exact op_eqD hu pins s σ w.hp _ _ v u Q I rx ry ⟨p,q,qx.dp e1,qy.dp e2,hs.1,hs.2,Post.now P R (.bl _)⟩
      · exact False.elim P
    · exact False.elim P
theorem aEC (hu:X.A.units+64<cLine):OpR X (compareOp .NotEq) (OpM X dNe):=by
  intro pins s σ H x y v u Q I rx ry h
  obtain ⟨w,dx,dy,E,rfl,R,qx,qy,P⟩:=h
  unfold dNe at P
  rcases aJU (x:=dx) (y:=dy) rfl with ⟨a,b,rfl,rfl,e⟩ | e
  · rw [e] at P
    cases qx;cases qy
    exact op_ne pins s σ w.hp _ _ v u Q I rx ry ⟨rfl,by rw [aSH];exact Post.now P R (.bl _)⟩
  · rw [e] at P
    unfold eqP at P
    split at P
    · rename_i p q e1 e2
      split at P
      · rename_i hs
        rw [Bool.and_eq_true] at hs
        exact op_neD hu pins s σ w.hp _ _ v u Q I rx ry ⟨p,q,qx.dp e1,qy.dp e2,hs.1,hs.2,Post.now P R (.bl _)⟩
      · exact False.elim P
    · exact False.elim P
def cmpI (f:Int→Int→Bool):D→D→Option D
  | .int i, .int j=>some (.bl (f i j))
  | _,_=>none
theorem aIX {op:CmpOp}{f:Int→Int→Bool}(ho:OpR X (compareOp op) (rI0 fun i j => .bl (f i j))):OpR X (compareOp op) (OpM X (cmpI f)):=by
  intro pins s σ H x y v u Q I rx ry h
  obtain ⟨w,dx,dy,E,rfl,R,qx,qy,P⟩:=h
  unfold cmpI at P
  split at P
  · cases qx;cases qy
    exact ho pins s σ w.hp _ _ v u Q I rx ry ⟨_,_,rfl,rfl,Post.now P R (.bl _)⟩
  · exact False.elim P
abbrev dLt:D→D→Option D:=cmpI fun i j=>decide (i<j)
abbrev dLe:D→D→Option D:=cmpI fun i j=>decide (i≤j)
abbrev dGt:D→D→Option D:=cmpI fun i j=>decide (j<i)
abbrev dGe:D→D→Option D:=cmpI fun i j=>decide (j≤i)
theorem aO0:OpR X (compareOp .Lt) (OpM X dLt):=aIX op_lt
theorem aPz:OpR X (compareOp .LtE) (OpM X dLe):=aIX op_le
theorem aLG:OpR X (compareOp .Gt) (OpM X dGt):=aIX op_gt
theorem aV9:OpR X (compareOp .GtE) (OpM X dGe):=aIX op_ge
def isN:D→Bool
  | .non=>true
  | .pin v _=>decide (v = .non)
  | _=>false
theorem RepD.isN {K:PySem.W.Frag}{mg:Str→Option Value}{w:Wo}{d:D}{v:V}(h:RepD K mg w d v):decide (v = .non)=isN d:=by
  cases h<;>simp [G.isN]
def dIs (x y:D):Option D:=if isN y then some (.bl (isN x)) else none
def dIsNot (x y:D):Option D:=if isN y then some (.bl (!isN x)) else none
theorem aEG:OpR X (compareOp .Is) (OpM X dIs):=by
  intro pins s σ H x y v u Q I rx ry h
  obtain ⟨w,dx,dy,E,rfl,R,qx,qy,P⟩:=h
  unfold dIs at P
  split at P
  · rename_i hy
    have ey:=qy.isN
    rw [hy] at ey
    exact op_isN pins s σ w.hp _ _ v u Q I rx ry ⟨of_decide_eq_true ey,Post.now P R (by rw [qx.isN];exact .bl _)⟩
  · exact False.elim P
theorem aIY:OpR X (compareOp .IsNot) (OpM X dIsNot):=by
  intro pins s σ H x y v u Q I rx ry h
  obtain ⟨w,dx,dy,E,rfl,R,qx,qy,P⟩:=h
  unfold dIsNot at P
  split at P
  · rename_i hy
    have ey:=qy.isN
    rw [hy] at ey
    exact op_notN pins s σ w.hp _ _ v u Q I rx ry ⟨of_decide_eq_true ey,Post.now P R (by rw [qx.isN];exact .bl _)⟩
  · exact False.elim P
def eChain (f g:D→D→Option D) (a b c:EM):EM:=fun e S=>(a e S).bind fun x S1=>(b e S1).bind fun y S2=>(lf (f x y) S2).bind fun z S3=>match z with
  | .bl true=>(c e S3).bind fun t S4=>lf (g y t) S4
  | .bl false => .ok (.bl false) S3
  | _ => .stuck
theorem aP0 {f g:D→D→Option D}:∀ s H Q,tG (RepD X.K X.mg) X W (eChain f g ma mb mc) s H Q→tChain (OpM X f) (OpM X g) (tG (RepD X.K X.mg) X W ma) (tG (RepD X.K X.mg) X W mb) (tG (RepD X.K X.mg) X W mc) s H Q:=by
  rintro s H Q ⟨w,en,rfl,R,E,P⟩
  refine ⟨w,en,rfl,R,E,(Post.bind P).imp ?_⟩
  rintro v H1 ⟨w1,x,rfl,X1,R1,rx,P1⟩
  refine ⟨w1,en,rfl,R1,E.ext X1.toEx0,(Post.bind P1).imp ?_⟩
  rintro u H2 ⟨w2,y,rfl,X2,R2,ry,P2⟩
  refine ⟨w2,x,y,_,rfl,R2,rx.ext X2.toEx0,ry,(Post.bind (Rl:=RepD X.K X.mg) P2).imp ?_⟩
  rintro z H3 ⟨w3,d,rfl,X3,R3,rz,P3⟩
  cases d with
  | bl b=>
    cases rz
    cases b with
    | true=>
      refine ⟨true,rfl,?_⟩
      rw [if_pos rfl]
      refine ⟨w3,en,rfl,R3,((E.ext X1.toEx0).ext X2.toEx0).ext X3.toEx0,(Post.bind P3).imp ?_⟩
      rintro t H4 ⟨w4,d4,rfl,X4,R4,r4,P4⟩
      exact ⟨w4,y,d4,_,rfl,R4,(ry.ext X3.toEx0).ext X4.toEx0,r4,P4⟩
    | false=>
      refine ⟨false,rfl,?_⟩
      rw [if_neg Bool.false_ne_true]
      exact Post.now P3 R3 (.bl false)
  | _=>exact False.elim P3
theorem aNA {op op':CmpOp}{f g:D→D→Option D}(ho:OpR X (compareOp op) (OpM X f)) (ho':OpR X (compareOp op') (OpM X g)) (ha:RE X W a ma) (hb:RE X W b mb) (hc:RE X W c mc)
    (hm:lastMarks [op,op'] [b,c]=false:=by with_unfolding_all rfl):RE X W (.Compare a [op,op'] [b,c] pos) (eChain f g ma mb mc):=aAV (pe_chain ho ho' ha hb hc hm) aP0
theorem aRJ {op op':CmpOp}{f g:D→D→Option D}(ho:OpR X (compareOp op) (OpM X f)) (ho':OpR X (compareOp op') (OpM X g)) (ha:RE X W a ma) (hb:RE X W b mb) (hc:RE X W c mc)
    (hm:lastMarks [op,op'] [b,c]=false:=by with_unfolding_all rfl):RT X W (.Compare a [op,op'] [b,c] pos) (tB (eChain f g ma mb mc)):=by
  refine aIF (pt_chain ho ho' ha hb hc hm) ?_
  rintro s H Q ⟨w,en,rfl,R,E,P⟩
  refine aP0 s w.hp _ ⟨w,en,rfl,R,E,(Post.bind P).imp ?_⟩
  rintro v H1 ⟨w1,x,rfl,X1,R1,rx,P1⟩
  cases x with
  | bl b=>cases rx;exact ⟨b,rfl,Post.now P1 R1 rfl⟩
  | _=>exact False.elim P1
def truD (S:Store):D→Option Bool
  | .non=>some false
  | .bl b=>some b
  | .int i=>some (i != 0)
  | .str x=>if x.length≤sizeLine then some ((x.length:Int) != 0) else none
  | .tup l=>some (!l.isEmpty)
  | .lst l=>some (!l.isEmpty)
  | .scr l=>some (!l.isEmpty)
  | .dic _ l=>some (!l.isEmpty)
  | .loc n=>match S[n]? with
    | some (.lst l)=>some (!l.isEmpty)
    | some (.dk l)=>some (!l.isEmpty)
    | _=>none
  | _=>none
theorem RepL.emp {K:PySem.W.Frag}{mg:Str→Option Value}{w:Wo}{l:List D}{vs:List V}(h:RepL K mg w l vs):(!vs.isEmpty) = !l.isEmpty:=by cases h<;>rfl
theorem RepK.emp {κ:Type}{K:PySem.W.Frag}{mg:Str→Option Value}{w:Wo}{l:List (κ×D)}{vs:List (κ×V)}(h:RepK κ K mg w l vs):(!vs.isEmpty) = !l.isEmpty:=by cases h<;>rfl
theorem RepD.tru {w:Wo}{d:D}{v:V}{k:Bool}(R:Rep X.K X.mg w) (h:RepD X.K X.mg w d v) (e:truD w.st d=some k):TruV X.K v w.hp k:=by
  cases h with
  | non=>cases e;rfl
  | bl b=>cases e;rfl
  | int i=>cases e;rfl
  | str x=>
    replace e:(if x.length≤sizeLine then some ((x.length:Int) != 0) else none)=some k:=e
    split at e
    · cases e;exact ⟨by assumption,rfl⟩
    · cases e
  | tup s r=>cases e;exact .inr (.inl ⟨_,s.sq,r.emp.symm⟩)
  | lst s r=>cases e;exact .inl ⟨_,SqL.of s.1,r.emp.symm⟩
  | scr s r=>cases e;exact .inl ⟨_,s.sq,r.emp.symm⟩
  | @dic ks l a vs s z r=>
    cases e
    refine .inr (.inr ⟨_,s.1,?_⟩)
    rw [← r.emp]
    cases ks with
    | nil=>cases vs with
      | nil=>rfl
      | cons _ _=>cases z
    | cons _ _=>cases vs with
      | nil=>cases z
      | cons _ _=>rfl
  | @loc n a hn=>
    replace e:(match w.st[n]? with
      | some (.lst l)=>some (!l.isEmpty)
      | some (.dk l)=>some (!l.isEmpty)
      | _=>none)=some k:=e
    split at e
    · rename_i l hl
      cases e
      obtain ⟨vs,p,r⟩:=R.cell _ _ _ hn hl
      exact .inl ⟨vs,SqL.of p,r.emp.symm⟩
    · rename_i l hl
      cases e
      obtain ⟨vs,p,r⟩:=R.cell _ _ _ hn hl
      exact .inr (.inr ⟨vs,p,r.emp.symm⟩)
    · cases e
  | ins _ _ _=>cases e
  | exc _ _ _ _=>cases e
  | fa _=>cases e
  | pin _=>cases e
def tT (m:EM):TM:=fun e S=>(m e S).bind fun x S1=>lf (truD S1 x) S1
theorem rt_e (ha:RE X W a ma) (he:∀ whole,isTrue a X.env whole=(do let v ← whole;standAt a.pos;holding [v] (truthy v)):=by intro _;rfl):RT X W a (tT ma):=by
  refine aIF (pt_truth ha he) ?_
  rintro s H Q ⟨w,en,rfl,R,E,P⟩
  refine ⟨w,en,rfl,R,E,(Post.bind P).imp ?_⟩
  rintro v H1 ⟨w1,x,rfl,X1,R1,rx,P1⟩
  dsimp only at P1
  cases h:truD w1.st x with
  | none=>rw [h] at P1;exact False.elim P1
  | some k=>
    rw [h] at P1
    exact ⟨k,rx.tru R1 h,Post.now P1 R1 rfl⟩
def tNt (t:TM):TM:=fun e S=>(t e S).bind fun b S1 => .ok (!b) S1
def tAn (t u:TM):TM:=fun e S=>(t e S).bind fun b S1=>if b then u e S1 else .ok false S1
def tOr' (t u:TM):TM:=fun e S=>(t e S).bind fun b S1=>if b then .ok true S1 else u e S1
theorem aCg (ha:RT X W a ta):RT X W (.UnaryOp .Not a pos) (tNt ta):=by
  refine aIF (pt_not ha) ?_
  rintro s H Q ⟨w,en,rfl,R,E,P⟩
  refine ⟨w,en,rfl,R,E,(Post.bind P).imp ?_⟩
  rintro v H1 ⟨w1,x,rfl,X1,R1,rx,P1⟩
  cases rx
  exact Post.now P1 R1 rfl
theorem aIZ (ha:RT X W a ta):RW X W (.BoolOp .And [a] pos) ta:=pw_and1 ha
theorem aBL (ha:RT X W a ta):RW X W (.BoolOp .Or [a] pos) ta:=pw_or1 ha
theorem aNB {rest:List Expr}(ha:RT X W a ta) (hb:RW X W (.BoolOp .And (b::rest) pos) tb):RW X W (.BoolOp .And (a::b::rest) pos) (tAn ta tb):=by
  refine aSE (pw_and ha hb) ?_
  rintro s H Q ⟨w,en,rfl,R,E,P⟩
  refine ⟨w,en,rfl,R,E,(Post.bind P).imp ?_⟩
  rintro v H1 ⟨w1,x,rfl,X1,R1,rx,P1⟩
  cases rx
  dsimp only at P1
  cases v with
  | true=>
    rw [if_pos rfl] at P1 ⊢
    exact ⟨w1,en,rfl,R1,E.ext X1.toEx0,P1⟩
  | false=>
    rw [if_neg Bool.false_ne_true] at P1 ⊢
    exact Post.now P1 R1 rfl
theorem aC3 {rest:List Expr}(ha:RT X W a ta) (hb:RW X W (.BoolOp .Or (b::rest) pos) tb):RW X W (.BoolOp .Or (a::b::rest) pos) (tOr' ta tb):=by
  refine aSE (pw_or ha hb) ?_
  rintro s H Q ⟨w,en,rfl,R,E,P⟩
  refine ⟨w,en,rfl,R,E,(Post.bind P).imp ?_⟩
  rintro v H1 ⟨w1,x,rfl,X1,R1,rx,P1⟩
  cases rx
  dsimp only at P1
  cases v with
  | true=>
    rw [if_pos rfl] at P1 ⊢
    exact Post.now P1 R1 rfl
  | false=>
    rw [if_neg Bool.false_ne_true] at P1 ⊢
    exact ⟨w1,en,rfl,R1,E.ext X1.toEx0,P1⟩
theorem rt_w (h:RW X W a ta):RT X W a ta:=h.pt
def eAn (a b:EM):EM:=fun e S=>(a e S).bind fun x S1=>(lf (truD S1 x) S1).bind fun k S2=>if k then b e S2 else .ok x S2
def eOr (a b:EM):EM:=fun e S=>(a e S).bind fun x S1=>(lf (truD S1 x) S1).bind fun k S2=>if k then .ok x S2 else b e S2
def eNt (a:EM):EM:=fun e S=>(a e S).bind fun x S1=>(lf (truD S1 x) S1).bind fun k S2 => .ok (.bl (!k)) S2
theorem aC4 {op}(h:RE X W a ma):RE X W (.BoolOp op [a] pos) ma:=pe_one h
theorem aCh {rest:List Expr}(ha:RE X W a ma) (hb:RE X W (.BoolOp .And (b::rest) pos) mb):RE X W (.BoolOp .And (a::b::rest) pos) (eAn ma mb):=by
  refine aAV (pe_andT ha hb) ?_
  rintro s H Q ⟨w,en,rfl,R,E,P⟩
  refine ⟨w,en,rfl,R,E,(Post.bind P).imp ?_⟩
  rintro v H1 ⟨w1,x,rfl,X1,R1,rx,P1⟩
  dsimp only at P1
  cases h:truD w1.st x with
  | none=>rw [h] at P1;exact False.elim P1
  | some k=>
    rw [h] at P1
    refine ⟨k,rx.tru R1 h,?_⟩
    replace P1:Post (RepD X.K X.mg) X.K X.mg w1 (if k=true then mb en w1.st else .ok x w1.st) Q _:=P1
    cases k with
    | true=>
      rw [if_pos rfl] at P1 ⊢
      exact ⟨w1,en,rfl,R1,E.ext X1.toEx0,P1⟩
    | false=>
      rw [if_neg Bool.false_ne_true] at P1 ⊢
      exact Post.now P1 R1 rx
theorem aTw {rest:List Expr}(ha:RE X W a ma) (hb:RE X W (.BoolOp .Or (b::rest) pos) mb):RE X W (.BoolOp .Or (a::b::rest) pos) (eOr ma mb):=by
  refine aAV (pe_orT ha hb) ?_
  rintro s H Q ⟨w,en,rfl,R,E,P⟩
  refine ⟨w,en,rfl,R,E,(Post.bind P).imp ?_⟩
  rintro v H1 ⟨w1,x,rfl,X1,R1,rx,P1⟩
  dsimp only at P1
  cases h:truD w1.st x with
  | none=>rw [h] at P1;exact False.elim P1
  | some k=>
    rw [h] at P1
    refine ⟨k,rx.tru R1 h,?_⟩
    replace P1:Post (RepD X.K X.mg) X.K X.mg w1 (if k=true then .ok x w1.st else mb en w1.st) Q _:=P1
    cases k with
    | true=>
      rw [if_pos rfl] at P1 ⊢
      exact Post.now P1 R1 rx
    | false=>
      rw [if_neg Bool.false_ne_true] at P1 ⊢
      exact ⟨w1,en,rfl,R1,E.ext X1.toEx0,P1⟩
theorem aIG (ha:RE X W a ma):RE X W (.UnaryOp .Not a pos) (eNt ma):=by
  refine aAV (pe_notT ha) ?_
  rintro s H Q ⟨w,en,rfl,R,E,P⟩
  refine ⟨w,en,rfl,R,E,(Post.bind P).imp ?_⟩
  rintro v H1 ⟨w1,x,rfl,X1,R1,rx,P1⟩
  dsimp only at P1
  cases h:truD w1.st x with
  | none=>rw [h] at P1;exact False.elim P1
  | some k=>
    rw [h] at P1
    exact ⟨k,rx.tru R1 h,Post.now P1 R1 (.bl _)⟩
def eIf (t:TM) (a b:EM):EM:=fun e S=>(t e S).bind fun k S1=>if k then a e S1 else b e S1
theorem aJV (hc:RT X W c ta) (ha:RE X W a ma) (hb:RE X W b mb):RE X W (.IfExp c a b pos) (eIf ta ma mb):=by
  refine aAV (pe_ifExp hc ha hb) ?_
  rintro s H Q ⟨w,en,rfl,R,E,P⟩
  refine ⟨w,en,rfl,R,E,(Post.bind P).imp ?_⟩
  rintro v H1 ⟨w1,x,rfl,X1,R1,rx,P1⟩
  cases rx
  dsimp only at P1
  cases v with
  | true=>
    rw [if_pos rfl] at P1 ⊢
    exact ⟨w1,en,rfl,R1,E.ext X1.toEx0,P1⟩
  | false=>
    rw [if_neg Bool.false_ne_true] at P1 ⊢
    exact ⟨w1,en,rfl,R1,E.ext X1.toEx0,P1⟩
def eNeg (a:EM):EM:=fun e S=>(a e S).bind fun x S1=>match x with
  | .int i => .ok (.int (-i)) S1
  | _ => .stuck
theorem aNC (ha:RE X W a ma):RE X W (.UnaryOp .USub a pos) (eNeg ma):=by
  refine aAV (pe_un un_neg ha) ?_
  rintro s H Q ⟨w,en,rfl,R,E,P⟩
  refine ⟨w,en,rfl,R,E,(Post.bind P).imp ?_⟩
  rintro v H1 ⟨w1,x,rfl,X1,R1,rx,P1⟩
  cases x with
  | int i=>cases rx;exact ⟨i,rfl,Post.now P1 R1 (.int _)⟩
  | _=>exact False.elim P1
def aNil:AM:=fun _ S => .ok [] S
def aCons (a:EM) (r:AM):AM:=fun e S=>(a e S).bind fun x S1=>(r e S1).bind fun xs S2 => .ok (x::xs) S2
theorem aAc:RA X W [] aNil:=aSF pa_nil fun s H Q ⟨w,en,hw,R,E,P⟩=>by
  subst hw
  exact Post.now P R .nil
theorem aAa {mr:AM}(ha:RE X W e ma) (hr:RA X W es mr) (hs:starEach (e::es) X.env=(false,eval e X.env)::starEach es X.env:=by rfl):RA X W (e::es) (aCons ma mr):=by
  refine aSF (pa_cons ha hr hs) ?_
  rintro s H Q ⟨w,en,rfl,R,E,P⟩
  refine ⟨w,en,rfl,R,E,(Post.bind P).imp ?_⟩
  rintro v H1 ⟨w1,x,rfl,X1,R1,rx,P1⟩
  refine ⟨w1,en,rfl,R1,E.ext X1.toEx0,(Post.bind P1).imp ?_⟩
  rintro vs H2 ⟨w2,y,rfl,X2,R2,ry,P2⟩
  exact Post.now P2 R2 (.cons (rx.ext X2.toEx0) ry)
def eTup (m:AM):EM:=fun e S=>(m e S).bind fun xs S1=>if xs.length≤sizeLine then .ok (.tup xs) S1 else .stuck
def eLst (m:AM):EM:=fun e S=>(m e S).bind fun xs S1=>if xs.length≤sizeLine then .ok (.lst xs) S1 else .stuck
def eNew (m:AM):EM:=fun e S=>(m e S).bind fun xs S1=>if xs.length≤sizeLine then .ok (.loc S1.length) (S1++[.lst xs]) else .stuck
theorem aCf {m:AM} {x1}(h:RA X W es m):RE X W (.Tuple es x1 pos) (eTup m):=by
  refine aAV (pe_tup h) ?_
  rintro s H Q ⟨w,en,rfl,R,E,P⟩
  refine ⟨w,en,rfl,R,E,(Post.bind P).imp ?_⟩
  rintro v H1 ⟨w1,x,rfl,X1,R1,rx,P1⟩
  dsimp only at P1
  split at P1
  · rename_i hz
    exact ⟨by rw [← rx.length];exact hz,fun p hp=>Post.put P1 R1 hp (.tup (.inl (aBO R1 hp).o) (rx.ext (aBk R1 hp).toEx0))⟩
  · exact False.elim P1
theorem aD3 {m:AM}(h:RA X W es m):RE X W (.List es pos) (eLst m):=by
  refine aAV (pe_lst h) ?_
  rintro s H Q ⟨w,en,rfl,R,E,P⟩
  refine ⟨w,en,rfl,R,E,(Post.bind P).imp ?_⟩
  rintro v H1 ⟨w1,x,rfl,X1,R1,rx,P1⟩
  dsimp only at P1
  split at P1
  · rename_i hz
    exact ⟨by rw [← rx.length];exact hz,fun p hp=>Post.put P1 R1 hp (.lst (aBO R1 hp) (rx.ext (aBk R1 hp).toEx0))⟩
  · exact False.elim P1
theorem Post.new {β γ:Type}{Rl:Wo→β→γ→Prop}{K:PySem.W.Frag}{mg:Str→Option Value}{w:Wo}{b:β}{v:γ}{Q:γ→Hp→Prop}{E:XK}{p:Addr}{o:HO}{c:Cell}(h:Post Rl K mg w (.ok b (w.st++[c])) Q E) (R:Rep K mg w) (hn:w.hp p=none)
    (hc:CellR K mg (w.new p o c) p c) (q:Rl (w.new p o c) b v):Q v (upd w.hp p o):=
  h (w.new p o c) v (aLF R hn) (R.new hn hc) rfl q
theorem aP1 {m:AM}(h:RA X W es m):RE X W (.List es pos) (eNew m):=by
  refine aAV (pe_lst h) ?_
  rintro s H Q ⟨w,en,rfl,R,E,P⟩
  refine ⟨w,en,rfl,R,E,(Post.bind P).imp ?_⟩
  rintro v H1 ⟨w1,x,rfl,X1,R1,rx,P1⟩
  dsimp only at P1
  split at P1
  · rename_i hz
    refine ⟨by rw [← rx.length];exact hz,fun p hp=>Post.new P1 R1 hp ⟨v,upd_same,rx.ext (aLF R1 hp).toEx0⟩ (.loc (aTu R1))⟩
  · exact False.elim P1
end
end G
namespace G
open PySem L2
section
variable {X:Cx}{W:WX}{a b c e o:Expr}{es:List Expr}{ma mb mc me:EM}{ta tb:TM}{pos:Pos}
variable {K:PySem.W.Frag}{mg:Str→Option Value}{w:Wo}
def ixD (S:Store):D→D→Option D
  | .tup l, .int i=>atI l i
  | .lst l, .int i=>atI l i
  | .scr l, .int i=>atI l i
  | .str x, .int i=>if x.length≤sizeLine then (atI x.cps.toList i).map fun c => .str ⟨#[c]⟩ else none
  | .loc n, .int i=>match S[n]? with
    | some (.lst l)=>atI l i
    | _=>none
  | _,_=>none
def OpMS (X:Cx) (f:Store→D→D→Option D):R2:=fun v u H Q=>∃ w x y E,w.hp=H∧Rep X.K X.mg w∧RepD X.K X.mg w x v∧RepD X.K X.mg w y u∧Post (RepD X.K X.mg) X.K X.mg w (lf (f w.st x y) w.st) Q E
def eBinS (f:Store→D→D→Option D) (a b:EM):EM:=fun e S=>(a e S).bind fun x S1=>(b e S1).bind fun y S2=>lf (f S2 x y) S2
theorem aJW {f:Store→D→D→Option D}:∀ s H Q,tG (RepD X.K X.mg) X W (eBinS f ma mb) s H Q→tOp (OpMS X f) (tG (RepD X.K X.mg) X W ma) (tG (RepD X.K X.mg) X W mb) s H Q:=by
  rintro s H Q ⟨w,en,rfl,R,E,P⟩
  refine ⟨w,en,rfl,R,E,(Post.bind P).imp ?_⟩
  rintro v H1 ⟨w1,x,rfl,X1,R1,rx,P1⟩
  refine ⟨w1,en,rfl,R1,E.ext X1.toEx0,(Post.bind P1).imp ?_⟩
  rintro u H2 ⟨w2,y,rfl,X2,R2,ry,P2⟩
  exact ⟨w2,x,y,_,rfl,R2,rx.ext X2.toEx0,ry,P2⟩
theorem aVA:IxR X (OpMS X ixD):=by
  intro va sl pins s σ H x y v u Q I rx ry h hs
  obtain ⟨w,dx,dy,E,rfl,R,qx,qy,P⟩:=h
  unfold ixD at P
  split at P
  · rename_i l i
    cases qy
    cases qx with
    | tup st r=>
      cases q:atI l i with
      | none=>rw [q] at P;exact False.elim P
      | some d=>
        rw [q] at P
        obtain ⟨z,e1,rz⟩:=r.at q
        exact ix_tup va sl pins s σ w.hp _ _ v u Q I rx ry ⟨_,_,_,_,rfl,rfl,st.sq,e1,Post.now P R rz⟩ hs
  · rename_i l i
    cases qy
    cases qx with
    | lst st r=>
      cases q:atI l i with
      | none=>rw [q] at P;exact False.elim P
      | some d=>
        rw [q] at P
        obtain ⟨z,e1,rz⟩:=r.at q
        exact ix_list va sl pins s σ w.hp _ _ v u Q I rx ry ⟨_,_,_,_,rfl,rfl,SqL.of st.1,e1,Post.now P R rz⟩ hs
  · rename_i l i
    cases qy
    cases qx with
    | scr st r=>
      cases q:atI l i with
      | none=>rw [q] at P;exact False.elim P
      | some d=>
        rw [q] at P
        obtain ⟨z,e1,rz⟩:=r.at q
        exact ix_list va sl pins s σ w.hp _ _ v u Q I rx ry ⟨_,_,_,_,rfl,rfl,st.sq,e1,Post.now P R rz⟩ hs
  · rename_i z i
    cases qy;cases qx
    split at P
    · rename_i hz
      cases q:atI z.cps.toList i with
      | none=>rw [q] at P;exact False.elim P
      | some ch=>
        rw [q] at P
        exact ix_str va sl pins s σ w.hp _ _ v u Q I rx ry ⟨_,_,_,rfl,rfl,hz,q,Post.now P R (.str _)⟩ hs
    · exact False.elim P
  · rename_i n i
    cases qy
    cases qx with
    | loc hn=>
      split at P
      · rename_i l hl
        obtain ⟨vs,p,r⟩:=R.cell _ _ _ hn hl
        cases q:atI l i with
        | none=>rw [q] at P;exact False.elim P
        | some d=>
          rw [q] at P
          obtain ⟨z,e1,rz⟩:=r.at q
          exact ix_list va sl pins s σ w.hp _ _ v u Q I rx ry ⟨_,_,_,_,rfl,rfl,SqL.of p,e1,Post.now P R rz⟩ hs
      · exact False.elim P
  · exact False.elim P
theorem aAB (ha:RE X W a ma) (hb:RE X W b mb) (hs:PlainIx b:=by intro _ _;rfl):RE X W (.Subscript a b pos) (eBinS ixD ma mb):=aAV (pe_ix aVA ha hb hs) aJW
abbrev OM:=En→Store→Res (Option Int)
def RlO:Wo→Option Int→Option Int→Prop:=fun _ b c=>c=b
abbrev RO (X:Cx) (W:WX) (e:Option Expr) (m:OM):Prop:=PO X e (tG RlO X W m)
def oNone:OM:=fun _ S => .ok none S
def oSome (m:EM):OM:=fun e S=>(m e S).bind fun x S1=>match x with
  | .int i => .ok (some i) S1
  | _ => .stuck
theorem aGe:RO X W none oNone:=⟨fun pins s σ H Q I ⟨w,en,hw,R,E,P⟩=>po_none.run pins s σ H Q I (by subst hw;exact Post.now P R rfl)⟩
theorem aGf (ha:RE X W a ma):RO X W (some a) (oSome ma):=⟨fun pins s σ H Q I hq=>(po_some ha).run pins s σ H Q I (by
  obtain ⟨w,en,rfl,R,E,P⟩:=hq
  refine ⟨w,en,rfl,R,E,(Post.bind P).imp ?_⟩
  rintro v H1 ⟨w1,x,rfl,X1,R1,rx,P1⟩
  cases x with
  | int i=>cases rx;exact ⟨i,rfl,Post.now P1 R1 rfl⟩
  | _=>exact False.elim P1)⟩
def cutL {α:Type}(l:List α) (lo hi:Option Int):List α:=(l.drop (HT.sIx l.length 0 lo)).take (HT.sIx l.length l.length hi - HT.sIx l.length 0 lo)
theorem RepL.cut {l:List D}{vs:List V}(h:RepL K mg w l vs) (lo hi:Option Int):RepL K mg w (cutL l lo hi) (cutV vs lo hi):=by
  unfold cutL cutV
  rw [h.length]
  exact (h.drop _).take _
def slD (S:Store):D→Option Int→Option Int→Option D
  | .lst l,lo,hi=>some (.lst (cutL l lo hi))
  | .scr l,lo,hi=>some (.lst (cutL l lo hi))
  | .tup l,lo,hi=>if HT.sIx l.length 0 lo=0∧HT.sIx l.length l.length hi=l.length then none else some (.tup (cutL l lo hi))
  | .loc n,lo,hi=>match S[n]? with
    | some (.lst l)=>some (.lst (cutL l lo hi))
    | _=>none
  | .str x,lo,hi=>if x.length≤sizeLine then some (.str (cutS x lo hi)) else none
  | _,_,_=>none
def SlM (X:Cx):V→Option Int→Option Int→Hp→VK→Prop:=fun v lo hi H Q=>∃ w x E,w.hp=H∧Rep X.K X.mg w∧RepD X.K X.mg w x v∧Post (RepD X.K X.mg) X.K X.mg w (lf (slD w.st x lo hi) w.st) Q E
theorem aVB:SlR X (SlM X):=by
  intro pins s σ H x v vl vu lo hi sl Q I rx hs pl pu h
  obtain ⟨w,dx,E,rfl,R,qx,P⟩:=h
  unfold slD at P
  split at P
  · cases qx with
    | lst st r=>exact sl_list pins s σ w.hp _ v vl vu _ _ sl Q I rx hs pl pu ⟨_,_,rfl,SqL.of st.1,fun p hp=>Post.put P R hp (.lst (aBO R hp) ((r.cut _ _).ext (aBk R hp).toEx0))⟩
  · cases qx with
    | scr st r=>exact sl_list pins s σ w.hp _ v vl vu _ _ sl Q I rx hs pl pu ⟨_,_,rfl,st.sq,fun p hp=>Post.put P R hp (.lst (aBO R hp) ((r.cut _ _).ext (aBk R hp).toEx0))⟩
  · split at P
    · exact False.elim P
    · rename_i hn
      cases qx with
      | tup st r=>
        rw [r.length] at hn
        exact sl_tup pins s σ w.hp _ v vl vu _ _ sl Q I rx hs pl pu ⟨_,_,rfl,st.sq,hn,fun p hp=>Post.put P R hp (.tup (.inl (aBO R hp).o) ((r.cut _ _).ext (aBk R hp).toEx0))⟩
  · cases qx with
    | loc hn=>
      split at P
      · rename_i l hl
        obtain ⟨vs,p,r⟩:=R.cell _ _ _ hn hl
        exact sl_list pins s σ w.hp _ v vl vu _ _ sl Q I rx hs pl pu ⟨_,_,rfl,SqL.of p,fun p hp=>Post.put P R hp (.lst (aBO R hp) ((r.cut _ _).ext (aBk R hp).toEx0))⟩
      · exact False.elim P
  · split at P
    · rename_i hz
      cases qx
      exact sl_str pins s σ w.hp _ v vl vu _ _ sl Q I rx hs pl pu ⟨_,rfl,hz,Post.now P R (.str _)⟩
    · exact False.elim P
  · exact False.elim P
def eSl (a:EM) (lo hi:OM):EM:=fun e S=>(a e S).bind fun x S1=>(lo e S1).bind fun l S2=>(hi e S2).bind fun h S3=>lf (slD S3 x l h) S3
theorem aRK {lo hi:Option Expr}{ml mh:OM}{p2:Pos}(ha:RE X W a ma) (hl:RO X W lo ml) (hh:RO X W hi mh):RE X W (.Subscript a (.Slice lo hi none p2) pos) (eSl ma ml mh):=by
  refine aAV (pe_slice aVB ha hl hh) ?_
  rintro s H Q ⟨w,en,rfl,R,E,P⟩
  refine ⟨w,en,rfl,R,E,(Post.bind P).imp ?_⟩
  rintro v H1 ⟨w1,x,rfl,X1,R1,rx,P1⟩
  refine ⟨w1,en,rfl,R1,E.ext X1.toEx0,(Post.bind P1).imp ?_⟩
  rintro l H2 ⟨w2,y,rfl,X2,R2,ry,P2⟩
  cases ry
  refine ⟨w2,en,rfl,R2,(E.ext X1.toEx0).ext X2.toEx0,(Post.bind P2).imp ?_⟩
  rintro h H3 ⟨w3,z,rfl,X3,R3,rz,P3⟩
  cases rz
  exact ⟨w3,x,_,rfl,R3,(rx.ext X2.toEx0).ext X3.toEx0,P3⟩
def CaM (X:Cx) (f:Store→List D→Option D):List V→Hp→VK→Prop:=fun vs H Q=>∃ w xs E,w.hp=H∧Rep X.K X.mg w∧RepL X.K X.mg w xs vs∧Post (RepD X.K X.mg) X.K X.mg w (lf (f w.st xs) w.st) Q E
def eCa (f:Store→List D→Option D) (m:AM):EM:=fun e S=>(m e S).bind fun xs S1=>lf (f S1 xs) S1
theorem t_ca {f:Store→List D→Option D}{m:AM}:∀ s H Q,tG (RepD X.K X.mg) X W (eCa f m) s H Q→tCB (CaM X f) (tG (RepL X.K X.mg) X W m) s H Q:=by
  rintro s H Q ⟨w,en,rfl,R,E,P⟩
  refine ⟨w,en,rfl,R,E,(Post.bind P).imp ?_⟩
  rintro v H1 ⟨w1,x,rfl,X1,R1,rx,P1⟩
  exact ⟨w1,x,_,rfl,R1,rx,P1⟩
theorem re_b {x:Str}{p:Pos}{id:String}{f:Store→List D→Option D}{m:AM}(hc:CallR X (.builtin id) (CaM X f)) (hg:Gl X x) (hm:X.mg x=none) (hv:bootBuiltins x=some (.builtin id)) (ha:RA X W (e::es) m) (hn:x≠"__name__":=by decide) (hdb:(x == ("__debug__":Str))=false:=by decide)
    (he:starEach (e::es) X.env=(false,eval e X.env)::starEach es X.env:=by rfl) (hpl:(backTo pos (starEach es X.env)).any (·.1)=false:=by rfl):RE X W (.Call (.Name x p) (e::es) [] pos) (eCa f m):=
  aAV (pe_callB hc hg hm hv ha hn hdb he hpl) t_ca
theorem aED {x:Str}{p:Pos}{T:String}{f:Store→List D→Option D}{m:AM}(hc:CallR X (.type T) (CaM X f)) (hg:Gl X x) (hm:X.mg x=none) (hv:bootBuiltins x=some (.type T)) (ha:RA X W (e::es) m) (hn:x≠"__name__":=by decide) (hdb:(x == ("__debug__":Str))=false:=by decide)
    (he:starEach (e::es) X.env=(false,eval e X.env)::starEach es X.env:=by rfl) (hpl:(backTo pos (starEach es X.env)).any (·.1)=false:=by rfl):RE X W (.Call (.Name x p) (e::es) [] pos) (eCa f m):=
  aAV (pe_callTy hc hg hm hv ha hn hdb he hpl) t_ca
theorem RepL.nil_inv {vs:List V}(h:RepL K mg w [] vs):vs = []:=by cases h;rfl
theorem RepL.cons_inv {d:D}{l:List D}{vs:List V}(h:RepL K mg w (d::l) vs):∃ v us,vs=v::us∧RepD K mg w d v∧RepL K mg w l us:=by
  cases h with
  | cons r t=>exact ⟨_,_,rfl,r,t⟩
theorem RepL.one_inv {d:D}{vs:List V}(h:RepL K mg w [d] vs):∃ v,vs = [v]∧RepD K mg w d v:=by
  obtain ⟨v,us,rfl,r,t⟩:=h.cons_inv
  rw [t.nil_inv]
  exact ⟨v,rfl,r⟩
theorem RepL.two_inv {d d':D}{vs:List V}(h:RepL K mg w [d,d'] vs):∃ v v',vs = [v,v']∧RepD K mg w d v∧RepD K mg w d' v':=by
  obtain ⟨v,us,rfl,r,t⟩:=h.cons_inv
  obtain ⟨v',rfl,r'⟩:=t.one_inv
  exact ⟨v,v',rfl,r,r'⟩
def fAbs:Store→List D→Option D
  | _,[.int i]=>some (.int (if i<0 then -i else i))
  | _,_=>none
theorem aJX:CallR X (.builtin "abs") (CaM X fAbs):=by
  intro pins s σ H xs us Q I r h
  obtain ⟨w,ds,E,rfl,R,q,P⟩:=h
  unfold fAbs at P
  split at P
  · obtain ⟨v,rfl,rv⟩:=q.one_inv
    cases rv
    exact call_abs pins s σ w.hp _ us Q I r ⟨_,rfl,Post.now P R (.int _)⟩
  · exact False.elim P
def fMax:Store→List D→Option D
  | _,[.int i, .int j]=>some (.int (if j > i then j else i))
  | _,_=>none
theorem aVC (hc:X.calm=true):CallR X (.builtin "max") (CaM X fMax):=by
  intro pins s σ H xs us Q I r h
  obtain ⟨w,ds,E,rfl,R,q,P⟩:=h
  unfold fMax at P
  split at P
  · obtain ⟨v,v',rfl,rv,rv'⟩:=q.two_inv
    cases rv;cases rv'
    exact call_max2 hc pins s σ w.hp _ us Q I r ⟨_,_,rfl,Post.now P R (.int _)⟩
  · exact False.elim P
def fMin:Store→List D→Option D
  | _,[.int i, .int j]=>some (.int (if j<i then j else i))
  | _,_=>none
theorem aSI (hc:X.calm=true):CallR X (.builtin "min") (CaM X fMin):=by
  intro pins s σ H xs us Q I r h
  obtain ⟨w,ds,E,rfl,R,q,P⟩:=h
  unfold fMin at P
  split at P
  · obtain ⟨v,v',rfl,rv,rv'⟩:=q.two_inv
    cases rv;cases rv'
    exact call_min2 hc pins s σ w.hp _ us Q I r ⟨_,_,rfl,Post.now P R (.int _)⟩
  · exact False.elim P
def fLen:Store→List D→Option D
  | S,[d]=>(lenD S d).map fun n => .int n
  | _,_=>none
theorem aBq:CallR X (.builtin "len") (CaM X fLen):=by
  intro pins s σ H xs us Q I r h
  obtain ⟨w,ds,E,rfl,R,q,P⟩:=h
  unfold fLen at P
  split at P
  · rename_i d
    obtain ⟨v,rfl,rv⟩:=q.one_inv
    cases e:lenD w.st d with
    | none=>rw [e] at P;exact False.elim P
    | some n=>
      rw [e] at P
      exact call_len pins s σ w.hp _ us Q I r ⟨_,n,rfl,rv.len R e,Post.now P R (.int _)⟩
  · exact False.elim P
def fInt:Store→List D→Option D
  | _,[.int i]=>some (.int i)
  | _,[.bl b]=>some (.int (if b then 1 else 0))
  | _,_=>none
theorem aP2:CallR X (.type "int") (CaM X fInt):=by
  intro pins s σ H xs us Q I r h
  obtain ⟨w,ds,E,rfl,R,q,P⟩:=h
  unfold fInt at P
  split at P
  · obtain ⟨v,rfl,rv⟩:=q.one_inv
    cases rv
    exact call_int1 pins s σ w.hp _ us Q I r (.inl ⟨_,rfl,Post.now P R (.int _)⟩)
  · obtain ⟨v,rfl,rv⟩:=q.one_inv
    cases rv
    exact call_int1 pins s σ w.hp _ us Q I r (.inr ⟨_,rfl,Post.now P R (.int _)⟩)
  · exact False.elim P
def bools:List D→Option (List Bool)
  | []=>some []
  | .bl b::l=>(bools l).map (b :: ·)
  | _::_=>none
theorem RepL.bools {l:List D}{vs:List V}{bs:List Bool}(h:RepL K mg w l vs) (e:bools l=some bs):vs=bs.map V.bl:=by
  induction l generalizing vs bs with
  | nil=>cases h;cases e;rfl
  | cons d l ih=>
    cases h with
    | cons r t=>
      cases d with
      | bl b=>
        cases r
        rw [G.bools] at e
        obtain ⟨cs,e1,rfl⟩:=Option.map_eq_some_iff.mp e
        rw [ih t e1];rfl
      | _=>cases e
def fAll:Store→List D→Option D
  | S,[d]=>((seqD S d).bind bools).map fun bs => .bl (bs.all id)
  | _,_=>none
theorem aFH (hc:X.calm=true):CallR X (.builtin "all") (CaM X fAll):=by
  intro pins s σ H xs us Q I r h
  obtain ⟨w,ds,E,rfl,R,q,P⟩:=h
  unfold fAll at P
  split at P
  · rename_i d
    obtain ⟨v,rfl,rv⟩:=q.one_inv
    cases e:(seqD w.st d).bind bools with
    | none=>rw [e] at P;exact False.elim P
    | some bs=>
      rw [e] at P
      obtain ⟨l,e1,e2⟩:=Option.bind_eq_some_iff.mp e
      obtain ⟨a,vs,rfl,hs,hl⟩:=rv.seq R e1
      exact cr_all hc pins s σ w.hp _ us Q I r ⟨a,bs,rfl,by rw [← hl.bools e2];exact hs,Post.now P R (.bl _)⟩
  · exact False.elim P
def fTuple:Store→List D→Option D
  | _,[.tup l]=>some (.tup l)
  | S,[d]=>(seqD S d).map .tup
  | _,_=>none
theorem aI_:CallR X (.type "tuple") (CaM X fTuple):=by
  intro pins s σ H xs us Q I r h
  obtain ⟨w,ds,E,rfl,R,q,P⟩:=h
  unfold fTuple at P
  split at P
  · obtain ⟨v,rfl,rv⟩:=q.one_inv
    cases rv with
    | tup st rl=>exact call_tuple_of pins s σ w.hp _ us Q I r ⟨_,_,rfl, .inr ⟨st.sq,Post.now P R (.tup st rl)⟩⟩
  · rename_i d _
    obtain ⟨v,rfl,rv⟩:=q.one_inv
    cases e:seqD w.st d with
    | none=>rw [e] at P;exact False.elim P
    | some l=>
      rw [e] at P
      obtain ⟨a,vs,rfl,hs,hl⟩:=rv.seq R e
      exact call_tuple_of pins s σ w.hp _ us Q I r ⟨_,_,rfl, .inl ⟨hs,fun p hp=>Post.put P R hp (.tup (.inl (aBO R hp).o) (hl.ext (aBk R hp).toEx0))⟩⟩
  · exact False.elim P
theorem aJa:bootBuiltins "isinstance"=some (.builtin "isinstance"):=by decide +kernel
theorem aJY:bootBuiltins "abs"=some (.builtin "abs"):=by decide +kernel
theorem aVD:bootBuiltins "max"=some (.builtin "max"):=by decide +kernel
theorem aSJ:bootBuiltins "min"=some (.builtin "min"):=by decide +kernel
theorem aBr:bootBuiltins "len"=some (.builtin "len"):=by decide +kernel
theorem aP3:bootBuiltins "divmod"=some (.builtin "divmod"):=by decide +kernel
theorem aFI:bootBuiltins "all"=some (.builtin "all"):=by decide +kernel
theorem aD4:bootBuiltins "int"=some (.type "int"):=by decide +kernel
theorem aGg:bootBuiltins "bool"=some (.type "bool"):=by decide +kernel
theorem aC1:bootBuiltins "str"=some (.type "str"):=by decide +kernel
theorem aBs:bootBuiltins "tuple"=some (.type "tuple"):=by decide +kernel
def Tn.is:Tn→Ty→Bool
  | .int, .int=>true
  | .bool, .int=>true
  | .bool, .bool=>true
  | .str, .str=>true
  | .tuple, .tuple=>true
  | .list, .list=>true
  | .dict, .dict=>true
  | _,_=>false
theorem Tn.kit (t:Tn) (y:Ty):L2.kitB t.nm y.nm=some (t.is y):=by
  cases t<;>cases y<;>decide +kernel
def tyC:Option Cell→Option Tn
  | some (.lst _)=>some .list
  | some (.dk _)=>some .dict
  | _=>none
def tyD (S:Store):D→Option Tn
  | .non=>some .non
  | .bl _=>some .bool
  | .int _=>some .int
  | .str _=>some .str
  | .tup _=>some .tuple
  | .lst _=>some .list
  | .scr _=>some .list
  | .dic _ _=>some .dict
  | .loc n=>tyC S[n]?
  | .exc _ _=>none
  | .ins _ _=>none
  | .fa _=>none
  | .pin _ _=>none
def isTy (S:Store) (y:Ty) (d:D):Option Bool:=(tyD S d).map fun t=>t.is y
theorem RepD.tyX {d:D}{v:V}{t:Tn}(R:Rep K mg w) (h:RepD K mg w d v) (e:tyD w.st d=some t):TyX K w.hp v (.type t.nm):=by
  cases h with
  | non=>cases e;exact .base .non
  | bl k=>cases e;exact .base (.bl k)
  | int i=>cases e;exact .base (.int i)
  | str x=>cases e;exact .base (.str x)
  | tup s r=>
    cases e
    rcases s with ⟨s | ⟨o,s⟩,_⟩ | ⟨o,its,n,hk,hc,_⟩
    · exact .base (.tup s)
    · exact .fTuple s
    · exact .kTuple hk hc
  | lst s r=>cases e;exact .base (.lst s.1)
  | scr s r=>
    cases e
    rcases s with ⟨s | ⟨o,s⟩,_⟩ | ⟨o,its,n,hk,hc,_⟩
    · exact .base (.lst s)
    · exact .base (.frz s)
    · exact .kList hk hc
  | dic s z r=>cases e;exact .base (.dK s.1)
  | @loc m a hn=>
    replace e:tyC w.st[m]? = some t:=e
    cases q:w.st[m]? with
    | none=>rw [q] at e;cases e
    | some cl=>
      rw [q] at e
      cases cl with
      | lst l=>
        cases e
        obtain ⟨vs,p,r⟩:=R.cell _ _ _ hn q
        exact .base (.lst p)
      | dk l=>
        cases e
        obtain ⟨vs,p,r⟩:=R.cell _ _ _ hn q
        exact .base (.dK p)
      | _=>cases e
  | ins _ _ _=>cases e
  | exc _ _ _ _=>cases e
  | fa _=>cases e
  | pin _=>cases e
def eIsTy (y:Ty) (m:EM):EM:=fun e S=>(m e S).bind fun x S1=>lf ((isTy S1 y x).map .bl) S1
theorem aAt {T:Str}{p p2:Pos}(y:Ty) (hm:X.mg "isinstance"=none) (hT:X.mg T=none) (hv:bootBuiltins T=some (.type y.nm)) (ha:RE X W a ma) (hg:Gl X "isinstance":=by rfl) (hgT:Gl X T:=by rfl) (hn:T≠"__name__":=by decide) (hdT:(T == ("__debug__":Str))=false:=by decide)
    (he:starEach (a::[.Name T p2]) X.env=(false,eval a X.env)::starEach [.Name T p2] X.env:=by rfl) (hpl:(backTo pos (starEach [.Name T p2] X.env)).any (·.1)=false:=by rfl) (hs2:starEach [.Name T p2] X.env=(false,eval (.Name T p2) X.env)::starEach [] X.env:=by rfl) :
    RE X W (.Call (.Name "isinstance" p) [a, .Name T p2] [] pos) (eIsTy y ma):=by
  refine aAV (pe_callB call_isi hg hm aJa (pa_cons ha (pa_cons (pe_bltn (v:=.ty y.nm) hgT hT hv rfl hn hdT) pa_nil hs2) he) (by decide) (by decide) he hpl) ?_
  rintro s H Q ⟨w,en,rfl,R,E,P⟩
  refine ⟨w,en,rfl,R,E,(Post.bind P).imp ?_⟩
  rintro v H1 ⟨w1,d,rfl,X1,R1,rx,P1⟩
  dsimp only at P1
  unfold isTy at P1
  cases q:tyD w1.st d with
  | none=>rw [q] at P1;exact False.elim P1
  | some t=>
    rw [q] at P1
    exact ⟨v, .ty y.nm, .type t.nm, .type y.nm,t.is y,rfl, .ty _,rx.tyX R1 q,kit_ty (t.kit y),Post.now P1 R1 (.bl _)⟩
end
end G
namespace G
open PySem L2
abbrev RS (X:Cx) (W:WX) (st:Stmt) (m:SM):Prop:=PS X st (tS X W m)
abbrev RSs (X:Cx) (W:WX) (st:List Stmt) (m:SM):Prop:=PSs X st (tS X W m)
section
variable {X:Cx}{W:WX}{a b c e o:Expr}{es:List Expr}{ma mb mc me:EM}{ta tb:TM}{pos:Pos}{st:Stmt}{rest:List Stmt}{m n:SM}
theorem aE8 {t t':TS}(h:PS X st t) (i:∀ D s H,t' D s H→t D s H):PS X st t':=⟨fun pins s σ H D I q=>h.run pins s σ H D I (i _ _ _ q)⟩
theorem aJb {t t':TS}(h:PSs X rest t) (i:∀ D s H,t' D s H→t D s H):PSs X rest t':=⟨fun pins s σ H D I q=>h.run pins s σ H D I (i _ _ _ q)⟩
def sNop:SM:=fun e S => .nxt e S
theorem aAn:RSs X W [] sNop:=aJb pss_nil fun D s H ⟨w,en,hw,R,E,P⟩=>by
  subst hw
  exact P w s (Ext.refl w) R rfl E
def sSeq (m n:SM):SM:=fun e S=>sS (m e S) n
theorem aAd (h1:RS X W st m) (h2:RSs X W rest n):RSs X W (st::rest) (sSeq m n):=by
  refine aJb (pss_cons h1 h2) ?_
  rintro D s H ⟨w,en,rfl,R,E,P⟩
  exact ⟨w,en,rfl,R,E,PostS.s P⟩
theorem aAf (h1:RS X W st m):RSs X W [st] m:=pss_one h1
def sBrk:SM:=fun e S => .brk e S
def sCnt:SM:=fun e S => .cnt e S
def sDrop (m:EM):SM:=fun e S=>sE (m e S) e fun _ S1 => .nxt e S1
theorem aDQ (he:RE X W e me) (hs:swapsWith e none pos.line X.env=pure false:=by rfl):RS X W (.Expr e pos) (sDrop me):=by
  refine aE8 (ps_expr he hs) ?_
  rintro D s H ⟨w,en,rfl,R,E,P⟩
  refine ⟨w,en,rfl,R,E,(PostS.of P E).imp ?_⟩
  rintro v H1 ⟨w1,x,rfl,X1,R1,rx,P1⟩
  exact P1 w1 s (Ext.refl w1) R1 rfl (E.ext X1.toEx0)
def sRet (m:EM):SM:=fun e S=>sE (m e S) e fun d S1 => .ret d S1
theorem aAk (he:RE X W e me):RS X W (.Return (some e) pos) (sRet me):=by
  refine aE8 (ps_ret he) ?_
  rintro D s H ⟨w,en,rfl,R,E,P⟩
  refine ⟨w,en,rfl,R,E,(PostS.of P E).imp ?_⟩
  rintro v H1 ⟨w1,x,rfl,X1,R1,rx,P1⟩
  exact P1 w1 v (Ext.refl w1) R1 rfl rx
def sRetN:SM:=fun e S => .ret .non S
def sIf (t:TM) (m n:SM):SM:=fun e S=>sE (t e S) e fun k S1=>if k then m e S1 else n e S1
theorem aBi {p q:List Stmt}(hc:RT X W c ta) (ha:RSs X W p m) (hb:RSs X W q n):RS X W (.If c p q pos) (sIf ta m n):=by
  refine aE8 (ps_if hc ha hb) ?_
  rintro D s H ⟨w,en,rfl,R,E,P⟩
  refine ⟨w,en,rfl,R,E,(PostS.of P E).imp ?_⟩
  rintro v H1 ⟨w1,x,rfl,X1,R1,rx,P1⟩
  cases rx
  dsimp only at P1
  cases v with
  | true=>
    rw [if_pos rfl] at P1 ⊢
    exact ⟨w1,en,rfl,R1,E.ext X1.toEx0,P1⟩
  | false=>
    rw [if_neg Bool.false_ne_true] at P1 ⊢
    exact ⟨w1,en,rfl,R1,E.ext X1.toEx0,P1⟩
abbrev GM:=D→En→Store→Res En
def tGt (X:Cx) (W:WX) (g:GM):TG:=fun v s H Q=>∃ w e d,w.hp=H∧Rep X.K X.mg w∧RepE X.K X.mg w e s∧RepD X.K X.mg w d v∧Post (RepE X.K X.mg) X.K X.mg w (g d e w.st) Q (fun cls dd H'=>W cls dd s H')
abbrev RG (X:Cx) (W:WX) (tg:Expr) (g:GM):Prop:=PG X tg (tGt X W g)
theorem aJZ {tg:Expr}{t t':TG}(h:PG X tg t) (i:∀ v s H Q,t' v s H Q→t v s H Q):PG X tg t':=⟨fun pins s σ H v u Q I r q=>h.run pins s σ H v u Q I r (i _ _ _ _ q)⟩
def gN (i:Nat):GM:=fun d e S => .ok (e.set i (some d)) S
theorem aAX {i:Nat}{x:Str}(hN:X.N.Nodup) (hi:X.N[i]? = some x) (hx:Loc X.env.scope x:=by first | exact Or.inl rfl | exact Or.inr rfl) (hf:X.fn x=true∨X.env.scope.names.lookup x=some .local:=by first | exact .inl rfl | exact .inr rfl | assumption):RG X W (.Name x pos) (gN i):=by
  refine aJZ (pg_name hN hi hx hf) ?_
  rintro v s H Q ⟨w,en,d,rfl,R,E,rd,P⟩
  exact Post.now P R (E.set i rd)
abbrev GMs:=List D→En→Store→Res En
def tGts (X:Cx) (W:WX) (g:GMs):TGs:=fun vs s H Q=>∃ w e ds,w.hp=H∧Rep X.K X.mg w∧RepE X.K X.mg w e s∧RepL X.K X.mg w ds vs∧Post (RepE X.K X.mg) X.K X.mg w (g ds e w.st) Q (fun cls dd H'=>W cls dd s H')
abbrev RGs (X:Cx) (W:WX) (ts:List Expr) (g:GMs):Prop:=PGs X ts (tGts X W g)
theorem aLH {ts:List Expr}{t t':TGs}(h:PGs X ts t) (i:∀ v s H Q,t' v s H Q→t v s H Q):PGs X ts t':=⟨fun pins s σ H v u Q I r q=>h.run pins s σ H v u Q I r (i _ _ _ _ q)⟩
def gsNil:GMs:=fun ds e S=>match ds with
  | [] => .ok e S
  | _ => .stuck
theorem aDA:RGs X W [] gsNil:=by
  refine aLH pgs_nil ?_
  rintro v s H Q ⟨w,en,ds,rfl,R,E,rd,P⟩
  cases rd with
  | nil=>exact ⟨rfl,Post.now P R E⟩
  | cons _ _=>exact False.elim P
def noX {β:Type}:Res β→Res β
  | .exc _ _ => .stuck
  | r=>r
def gsCons' (g:GM) (r:GMs):GMs:=fun ds e S=>match ds with
  | d::ds=>(noX (g d e S)).bind fun e1 S1=>noX (r ds e1 S1)
  | _ => .stuck
theorem Post.noX {β γ:Type}{Rl:Wo→β→γ→Prop}{K:PySem.W.Frag}{mg:Str→Option Value}{w:Wo}{r:Res β}{Q:γ→Hp→Prop}{E E':XK}(h:Post Rl K mg w (G.noX r) Q E):Post Rl K mg w r Q E':=by
  cases r with
  | ok _ _=>exact h
  | exc _ _=>exact False.elim h
  | stuck=>exact h
theorem aA_ {tg:Expr}{ts:List Expr}{g:GM}{r:GMs}(h1:RG X W tg g) (h2:RGs X W ts r)
    (hs:(assignEach (tg::ts) X.env).map (·.2)=assign tg X.env::(assignEach ts X.env).map (·.2):=by rfl):RGs X W (tg::ts) (gsCons' g r):=by
  refine aLH (pgs_cons h1 h2 hs) ?_
  rintro v s H Q ⟨w,en,ds,rfl,R,E,rd,P⟩
  cases rd with
  | nil=>exact False.elim P
  | cons r1 r2=>
    refine ⟨_,_,rfl,w,en,_,rfl,R,E,r1,Post.noX (E:=fun cls dd H'=>W cls dd s H') ((Post.bind P).imp ?_)⟩
    rintro s1 H1 ⟨w1,e1,rfl,X1,R1,E1,P1⟩
    exact ⟨w1,e1,_,rfl,R1,E1,r2.ext X1.toEx0,Post.noX P1⟩
def gTp (n:Nat) (r:GMs):GM:=fun d e S=>match d with
  | .tup ds=>if ds.length=n then r ds e S else .stuck
  | _ => .stuck
theorem aIH {ts:List Expr}{k n:Nat}{r:GMs}(hc:X.calm=true) (h:RGs X W ts r) (hn:(assignEach ts X.env).length=n:=by rfl) (hst:(assignEach ts X.env).findIdx? (·.1)=none:=by rfl):RG X W (.Tuple ts k pos) (gTp n r):=by
  refine aJZ (pg_tup hc h hn hst) ?_
  rintro v s H Q ⟨w,en,d,rfl,R,E,rd,P⟩
  unfold gTp at P
  split at P
  · split at P
    · rename_i hl
      cases rd with
      | tup st rl=>exact ⟨_,_,rfl,st.sq,by rw [← rl.length];exact hl,w,en,_,rfl,R,E,rl,P⟩
    · exact False.elim P
  · exact False.elim P
def setD (S:Store) (o i d:D):Option Store:=match o,i with
  | .loc n, .int k=>match S[n]? with
    | some (.lst l)=>(ixN l.length k).map fun j=>S.set n (.lst (l.set j d))
    | _=>none
  | _,_=>none
def gSb (o i:EM):GM:=fun d e S=>(noX (o e S)).bind fun x S1=>(noX (i e S1)).bind fun y S2=>match setD S2 x y d with
  | some S3 => .ok e S3
  | none => .stuck
theorem aP4 (ho:RE X W o ma) (hi:RE X W b mb)
    (ha:∀ v,assign (.Subscript o b pos) X.env v=(do
      let ov ← holding [v] (eval o X.env)
      let iv ← holding [v,ov] (eval b X.env)
      standAt pos
      holding [v,ov,iv] (setItem ov iv v)
      release [v,ov,iv] []):=by intro _;rfl):RG X W (.Subscript o b pos) (gSb ma mb):=by
  refine aJZ (pg_sub ho hi set_list ha) ?_
  rintro v s H Q ⟨w,en,d,rfl,R,E,rd,P⟩
  refine ⟨w,en,rfl,R,E,Post.noX (E:=fun cls dd H'=>W cls dd s H') ((Post.bind P).imp ?_)⟩
  rintro ov H1 ⟨w1,x,rfl,X1,R1,rx,P1⟩
  refine ⟨w1,en,rfl,R1,E.ext X1.toEx0,Post.noX (E:=fun cls dd H'=>W cls dd s H') ((Post.bind P1).imp ?_)⟩
  rintro iv H2 ⟨w2,y,rfl,X2,R2,ry,P2⟩
  have rx':=rx.ext X2.toEx0
  dsimp only at P2
  cases q:setD w2.st x y d with
  | none=>rw [q] at P2;exact False.elim P2
  | some S3=>
    rw [q] at P2
    unfold setD at q
    split at q
    · rename_i m k
      cases ry
      cases rx' with
      | @loc _ ad hn=>
        split at q
        · rename_i l hl
          obtain ⟨j,e1,rfl⟩:=Option.map_eq_some_iff.mp q
          obtain ⟨vs,p,r⟩:=R2.cell _ _ _ hn hl
          have rd':=(rd.ext X1.toEx0).ext X2.toEx0
          have Xw:Ext w2 (w2.wr m ad (.lst (vs.set j v)) (.lst (l.set j d))):=aJS R2 hn hl (by intro z;cases z)
          refine ⟨_,vs,k,j,rfl,rfl,p,by rw [← r.length];exact e1,?_⟩
          exact P2 (w2.wr m ad (.lst (vs.set j v)) (.lst (l.set j d))) s Xw (R2.wr hn hl (by intro z;cases z) ⟨_,upd_same,(r.set rd' j).ext Xw.toEx0⟩) rfl (((E.ext X1.toEx0).ext X2.toEx0).ext Xw.toEx0)
        · cases q
    · cases q
def sAsg (m:EM) (g:GM):SM:=fun e S=>sE (m e S) e fun d S1=>sE (g d e S1) e fun e1 S2 => .nxt e1 S2
theorem aEH {tg:Expr}{g:GM}(he:RE X W e me) (hg:RG X W tg g) (hs:swapsWithSole [tg] e pos.line X.env=pure false:=by rfl) (hw:swappedStores [tg] e X.env=pure none:=by rfl)
    (h1:(assignEach [tg] X.env).map (·.2) = [assign tg X.env]:=by rfl):RS X W (.Assign [tg] e pos) (sAsg me g):=by
  refine aE8 (ps_asg he hg hs hw h1) ?_
  rintro D s H ⟨w,en,rfl,R,E,P⟩
  refine ⟨w,en,rfl,R,E,(PostS.of P E).imp ?_⟩
  rintro v H1 ⟨w1,x,rfl,X1,R1,rx,P1⟩
  refine ⟨w1,en,x,rfl,R1,E.ext X1.toEx0,rx,(PostS.of P1 (E.ext X1.toEx0)).imp ?_⟩
  rintro s1 H2 ⟨w2,e2,rfl,X2,R2,E2,P2⟩
  exact P2 w2 s1 (Ext.refl w2) R2 rfl E2
def sSet (i:Nat) (m:EM):SM:=fun e S=>sE (m e S) e fun d S1 => .nxt (e.set i (some d)) S1
theorem aAR {i:Nat}{x:Str}{pos':Pos}(hN:X.N.Nodup) (hi:X.N[i]? = some x) (he:RE X W e me) (hx:Loc X.env.scope x:=by first | exact Or.inl rfl | exact Or.inr rfl) (hs:swapsWith e (some (.Name x pos')) pos.line X.env=pure false:=by rfl) (hf:X.fn x=true∨X.env.scope.names.lookup x=some .local:=by first | exact .inl rfl | exact .inr rfl | assumption) :
    RS X W (.Assign [.Name x pos'] e pos) (sSet i me):=by
  refine aE8 (ps_set hN hi hx he hs hf) ?_
  rintro D s H ⟨w,en,rfl,R,E,P⟩
  refine ⟨w,en,rfl,R,E,(PostS.of P E).imp ?_⟩
  rintro v H1 ⟨w1,x,rfl,X1,R1,rx,P1⟩
  exact P1 w1 _ (Ext.refl w1) R1 rfl ((E.ext X1.toEx0).set i rx)
def sPar (i j:Nat) (m:AM):SM:=fun e S=>sE (m e S) e fun ds S1=>match ds with
  | [x,y] => .nxt ((e.set i (some x)).set j (some y)) S1
  | _ => .stuck
theorem aND {i j:Nat}{x y:Str}{m:AM}{px py pt:Pos} {kt k2 pt2}(hc:X.calm=true) (hN:X.N.Nodup) (hi:X.N[i]? = some x) (hj:X.N[j]? = some y) (hij:i≠j) (ha:RA X W [a,b] m)
    (hx:X.env.scope.names.lookup x=some .local:=by rfl) (hy:X.env.scope.names.lookup y=some .local:=by rfl)
    (hw:swappedStores [.Tuple [.Name x px, .Name y py] kt pt] (.Tuple [a,b] k2 pt2) X.env=pure (some [x,y]):=by rfl)
    (hs:swapsWithSole [.Tuple [.Name x px, .Name y py] kt pt] (.Tuple [a,b] k2 pt2) pos.line X.env=pure false:=by rfl) :
    RS X W (.Assign [.Tuple [.Name x px, .Name y py] kt pt] (.Tuple [a,b] k2 pt2) pos) (sPar i j m):=by
  refine aE8 (ps_par hc hN hi hj hij hx hy ha hw hs) ?_
  rintro D s H ⟨w,en,rfl,R,E,P⟩
  refine ⟨w,en,rfl,R,E,(PostS.of P E).imp ?_⟩
  rintro v H1 ⟨w1,ds,rfl,X1,R1,rx,P1⟩
  dsimp only at P1
  split at P1
  · obtain ⟨v,v',rfl,r1,r2⟩:=rx.two_inv
    exact ⟨v,v',rfl,P1 w1 _ (Ext.refl w1) R1 rfl (((E.ext X1.toEx0).set i r1).set j r2)⟩
  · exact False.elim P1
def wlR (t:TM) (m:SM):Nat→SM
  | 0=>fun _ _ => .stuck
  | k+1=>fun e S=>sE (t e S) e fun b S1=>if b then (match m e S1 with
    | .nxt e2 S2=>wlR t m k e2 S2
    | .cnt e2 S2=>wlR t m k e2 S2
    | .brk e2 S2 => .nxt e2 S2
    | r=>r) else .nxt e S1
theorem aNE (k:Nat) {body:List Stmt}(hp:PassesOwn (model X.prog X.w) X.A X.env X.xe) (hc:RT X W c ta) (hb:RSs X W body m):RS X W (.While c body [] pos) (wlR ta m k):=by
  refine aE8 (ps_while hp hc hb) ?_
  rintro D s H ⟨w,en,rfl,R,E,P⟩
  refine ⟨fun j s H=>∃ w e,w.hp=H∧Rep X.K X.mg w∧RepE X.K X.mg w e s∧PostS X W w (wlR ta m j e w.st) D,⟨k,w,en,rfl,R,E,P⟩,?_⟩
  rintro j s H ⟨w,en,rfl,R,E,P⟩
  cases j with
  | zero=>exact False.elim P
  | succ j=>
    refine ⟨w,en,rfl,R,E,(PostS.of P E).imp ?_⟩
    rintro v H1 ⟨w1,x,rfl,X1,R1,rx,P1⟩
    cases rx
    dsimp only at P1
    cases v with
    | false=>
      rw [if_neg Bool.false_ne_true] at P1 ⊢
      exact P1 w1 s (Ext.refl w1) R1 rfl (E.ext X1.toEx0)
    | true=>
      rw [if_pos rfl] at P1 ⊢
      refine ⟨fun s' H'=>∃ w e,w.hp=H'∧Rep X.K X.mg w∧RepE X.K X.mg w e s'∧PostS X W w (wlR ta m j e w.st) D,fun s' H' h=>⟨j,Nat.lt_succ_self j,h⟩,w1,en,rfl,R1,E.ext X1.toEx0,?_⟩
      cases q:m en w1.st with
      | nxt e S=>
        rw [q] at P1
        exact fun w2 s2 x2 R2 st E2=>⟨w2,e,rfl,R2,E2,by rw [st];exact PostS.ext P1 x2⟩
      | cnt e S=>
        rw [q] at P1
        exact fun w2 s2 x2 R2 st E2=>⟨w2,e,rfl,R2,E2,by rw [st];exact PostS.ext P1 x2⟩
      | brk e S=>rw [q] at P1;exact P1
      | ret e S=>rw [q] at P1;exact P1
      | exc y e S=>rw [q] at P1;exact P1
      | stuck=>rw [q] at P1;exact P1
def ItsR (X:Cx):Wo→List D→It→Prop:=fun w ds J=>∀ w2,Ex0 w w2→Fz w w2→Rep X.K X.mg w2 →
  (∀ i,i<ds.length→J.go i w2.hp∧∀ x H',J.yld i w2.hp x H'→∃ w3 d,w3.hp=H'∧Ext w2 w3∧Rep X.K X.mg w3∧w3.st=w2.st∧w3.al=w2.al∧ds[i]? = some d∧RepD X.K X.mg w3 d x)∧J.stop ds.length w2.hp
abbrev RI (X:Cx) (W:WX) (tg it:Expr) (m:AM):Prop:=PI X tg it (tG (ItsR X) X W m)
theorem aNF {w:Wo}{ds:List D}{ad:Addr}{vs:List V}(st:∀ w2,Ex0 w w2→SqL X.K w2.hp ad vs) (r:RepL X.K X.mg w ds vs):ItsR X w ds (Itl X.K ad):=by
  intro w2 x2 _ R2
  have s2:=st w2 x2
  refine ⟨fun i hi=>⟨⟨vs,vs[i]'(by rw [← r.length];exact hi),s2,by simp⟩,fun x H' y => ?_⟩,⟨vs,s2,by rw [r.length];exact Nat.le_refl _⟩⟩
  obtain ⟨rfl,y⟩:=y
  obtain ⟨d,e1,rd⟩:=r.getV (y vs s2)
  exact ⟨w2,d,rfl,Ext.refl w2,R2,rfl,rfl,e1,rd.ext x2⟩
theorem aTx {w:Wo}{ds:List D}{ad:Addr}{vs:List V}(st:∀ w2,Ex0 w w2→SqT X.K w2.hp ad vs) (r:RepL X.K X.mg w ds vs):ItsR X w ds (Itt X.K ad):=by
  intro w2 x2 _ R2
  have s2:=st w2 x2
  refine ⟨fun i hi=>⟨⟨vs,vs[i]'(by rw [← r.length];exact hi),s2,by simp⟩,fun x H' y => ?_⟩,⟨vs,s2,by rw [r.length];exact Nat.le_refl _⟩⟩
  obtain ⟨rfl,y⟩:=y
  obtain ⟨d,e1,rd⟩:=r.getV (y vs s2)
  exact ⟨w2,d,rfl,Ext.refl w2,R2,rfl,rfl,e1,rd.ext x2⟩
def iSeq (m:EM):AM:=fun e S=>(m e S).bind fun d S1=>match d with
  | .tup l => .ok l S1
  | .lst l => .ok l S1
  | .scr l => .ok l S1
  | _ => .stuck
theorem ri_e {tg:Expr}(ha:RE X W a ma):RI X W tg a (iSeq ma):=by
  refine ⟨fun pins s σ H R' I h => ?_⟩
  obtain ⟨w,en,rfl,R,E,P⟩:=h
  cases q:ma en w.st with
  | stuck=>unfold iSeq at P;rw [q] at P;exact False.elim P
  | exc x S=>
    unfold iSeq at P;rw [q] at P
    exact (pi_list ha).run pins s σ w.hp R' I ⟨w,en,rfl,R,E,by rw [q];exact P⟩
  | ok d S=>
    unfold iSeq at P;rw [q] at P
    cases d with
    | tup l=>
      refine (pi_tup ha).run pins s σ w.hp R' I ⟨w,en,rfl,R,E,?_⟩
      rw [q]
      intro w1 v x1 R1 s1 r1
      cases r1 with
      | tup st rl=>exact ⟨_,rfl,⟨_,st.sq⟩,P w1 _ x1 R1 s1 (aTx (fun w2 x2=>(st.ext x2).sq) rl)⟩
    | lst l=>
      refine (pi_list ha).run pins s σ w.hp R' I ⟨w,en,rfl,R,E,?_⟩
      rw [q]
      intro w1 v x1 R1 s1 r1
      cases r1 with
      | lst st rl=>exact ⟨_,rfl,⟨_,SqL.of st.1⟩,P w1 _ x1 R1 s1 (aNF (fun w2 x2=>SqL.of (st.ext x2).1) rl)⟩
    | scr l=>
      refine (pi_list ha).run pins s σ w.hp R' I ⟨w,en,rfl,R,E,?_⟩
      rw [q]
      intro w1 v x1 R1 s1 r1
      cases r1 with
      | scr st rl=>exact ⟨_,rfl,⟨_,st.sq⟩,P w1 _ x1 R1 s1 (aNF (fun w2 x2=>(st.ext x2).sq) rl)⟩
    | _=>exact False.elim P
def rangeD (lo:Int) (n:Nat):List D:=(List.range n).map fun k => .int (lo+(k:Nat))
theorem aP5 {w:Wo}(lo:Int) (n:Nat):ItsR X w (rangeD lo n) (Itr lo n):=by
  intro w2 x2 _ R2
  have hl:(rangeD lo n).length=n:=by unfold rangeD;simp
  refine ⟨fun i hi=>⟨by rw [hl] at hi;exact hi,fun x H' y => ?_⟩,by rw [hl];exact Nat.le_refl _⟩
  obtain ⟨rfl,rfl⟩:=y
  rw [hl] at hi
  exact ⟨w2, .int (lo+i),rfl,Ext.refl w2,R2,rfl,rfl,by unfold rangeD;simp [hi], .int _⟩
open Classical in
noncomputable def iRg1 (m:AM):AM:=fun e S=>(m e S).bind fun ds S1=>match ds with
  | [.int j]=>if -(2 ^ 62)≤j∧j<2 ^ 62 then .ok (rangeD 0 j.toNat) S1 else .stuck
  | _ => .stuck
theorem aDh {tg:Expr}{m:AM}{p:Pos}(hm:X.mg "range"=none) (ha:RA X W [a] m) (hg:Gl X "range":=by rfl) (hs:starEach [a] X.env = [(false,eval a X.env)]:=by rfl):RI X W tg (.Call (.Name "range" p) [a] [] pos) (iRg1 m):=by
  refine ⟨fun pins s σ H R' I h=>(pi_range1 hg hm ha hs).run pins s σ H R' I ?_⟩
  obtain ⟨w,en,rfl,R,E,P⟩:=h
  refine ⟨w,en,rfl,R,E,(Post.bind P).imp ?_⟩
  rintro vs H1 ⟨w1,ds,rfl,X1,R1,rx,P1⟩
  dsimp only at P1
  split at P1
  · split at P1
    · rename_i hj
      obtain ⟨v,rfl,rv⟩:=rx.one_inv
      cases rv
      exact ⟨_,rfl,hj.1,hj.2,Post.now P1 R1 (aP5 0 _)⟩
    · exact False.elim P1
  · exact False.elim P1
open Classical in
noncomputable def iRg2 (m:AM):AM:=fun e S=>(m e S).bind fun ds S1=>match ds with
  | [.int i, .int j]=>if -(2 ^ 62)≤i∧i<2 ^ 62 ∧ -(2 ^ 62)≤j∧j<2 ^ 62 then .ok (rangeD i (j - i).toNat) S1 else .stuck
  | _ => .stuck
def fiR (g:GM) (m:SM):List D→SM
  | []=>fun e S => .nxt e S
  | d::ds=>fun e S=>sE (g d e S) e fun e1 S1=>match m e1 S1 with
    | .nxt e2 S2=>fiR g m ds e2 S2
    | .cnt e2 S2=>fiR g m ds e2 S2
    | .brk e2 S2 => .nxt e2 S2
    | r=>r
def sFor (i:AM) (g:GM) (m:SM):SM:=fun e S=>sE (i e S) e fun ds S1=>fiR g m ds e S1
theorem aJ_ {tg it:Expr}{i:AM}{g:GM}{body:List Stmt}(hp:PassesOwn (model X.prog X.w) X.A X.env X.xe) (hc:X.calm=true) (hi:RI X W tg it i) (hg:RG X W tg g) (hb:RSs X W body m) (hs:∀ x,foldedSetIterable it X.env x=pure x:=by intro _;rfl) :
    RS X W (.For tg it body [] pos) (sFor i g m):=by
  refine aE8 (ps_for hp hc hi hg hb hs) ?_
  rintro D s H ⟨w,en,rfl,R,E,P⟩
  refine ⟨w,en,rfl,R,E,(PostS.of P E).imp ?_⟩
  rintro J H1 ⟨w1,ds,rfl,X1,R1,its,P1⟩
  refine ⟨fun j k s H=>k=ds.length - j∧j≤ds.length∧∃ w e,w.hp=H∧Ext w1 w∧Rep X.K X.mg w∧RepE X.K X.mg w e s∧PostS X W w (fiR g m (ds.drop j) e w.st) D,
    ⟨ds.length,rfl,Nat.zero_le _,w1,en,rfl,Ext.refl w1,R1,E.ext X1.toEx0,P1⟩,?_⟩
  rintro j k s H ⟨rfl,hj,w,en,rfl,x1,R,E,P⟩
  obtain ⟨go,stop⟩:=its w x1.toEx0 x1.fz R
  by_cases hlt:j<ds.length
  · obtain ⟨go1,yl⟩:=go j hlt
    refine .inr ⟨go1,fun s' H'=>∃ w e,w.hp=H'∧Ext w1 w∧Rep X.K X.mg w∧RepE X.K X.mg w e s'∧PostS X W w (fiR g m (ds.drop (j+1)) e w.st) D,fun s' H' h=>⟨ds.length - (j+1),by omega,rfl,hlt,h⟩,fun x H' y => ?_⟩
    obtain ⟨w3,d,rfl,x3,R3,st3,_,hd,rd⟩:=yl x H' y
    have e1:ds.drop j=d::ds.drop (j+1):=by
      obtain ⟨hl,rfl⟩:=List.getElem?_eq_some_iff.mp hd
      exact List.drop_eq_getElem_cons hl
    rw [e1] at P
    have P':PostS X W w3 (sE (g d en w3.st) en fun e1 S1=>match m e1 S1 with
      | .nxt e2 S2=>fiR g m (ds.drop (j+1)) e2 S2
      | .cnt e2 S2=>fiR g m (ds.drop (j+1)) e2 S2
      | .brk e2 S2 => .nxt e2 S2
      | r=>r) D:=by rw [st3];exact PostS.ext P x3
    refine ⟨w3,en,d,rfl,R3,E.ext x3.toEx0,rd,(PostS.of P' (E.ext x3.toEx0)).imp ?_⟩
    rintro s4 H4 ⟨w4,e4,rfl,x4,R4,E4,P4⟩
    refine ⟨w4,e4,rfl,R4,E4,?_⟩
    have x14:Ext w1 w4:=(x1.trans x3).trans x4
    dsimp only at P4
    cases q:m e4 w4.st with
    | nxt e S=>rw [q] at P4;exact fun w5 s5 x5 R5 st E5=>⟨w5,e,rfl,x14.trans x5,R5,E5,by rw [st];exact PostS.ext P4 x5⟩
    | cnt e S=>rw [q] at P4;exact fun w5 s5 x5 R5 st E5=>⟨w5,e,rfl,x14.trans x5,R5,E5,by rw [st];exact PostS.ext P4 x5⟩
    | brk e S=>rw [q] at P4;exact P4
    | ret e S=>rw [q] at P4;exact P4
    | exc y e S=>rw [q] at P4;exact P4
    | stuck=>rw [q] at P4;exact P4
  · have e:j=ds.length:=by omega
    subst e
    rw [List.drop_length] at P
    exact .inl ⟨stop,P w s (Ext.refl w) R rfl E⟩
end
end G
namespace G
open PySem L2
def wipeE (e:En):List Nat→En
  | []=>e
  | v::vs=>(wipeE e vs).set v none
def W0:WX:=fun _ _ _ _=>False
section
variable {X:Cx}{W:WX}{a b c e o:Expr}{es:List Expr}{ma mb mc me:EM}{ta tb:TM}{pos:Pos}
variable {K:PySem.W.Frag}{mg:Str→Option Value}{w:Wo}
theorem RepE.wipe {en:En}{s:St}(h:RepE K mg w en s):∀ vs:List Nat,RepE K mg w (wipeE en vs) (L2.wipe s vs)
  | []=>h
  | v::vs=>(RepE.wipe h vs).gone v
theorem aJc (s:St) (j:Nat):∀ vs:List Nat,(L2.wipe s vs)[j]? = if j∈vs then (if j<s.length then some none else none) else s[j]?
  | []=>by simp [L2.wipe]
  | v::vs=>by
    have ih:=aJc s j vs
    unfold L2.wipe
    by_cases hv:v=j
    · subst hv
      rw [if_pos List.mem_cons_self]
      by_cases hl:v<s.length
      · rw [if_pos hl,List.getElem?_set_self (by rw [wipe_length];exact hl)]
      · rw [if_neg hl,List.getElem?_eq_none (by rw [List.length_set,wipe_length];omega)]
    · rw [List.getElem?_set_ne hv,ih]
      have e:(j∈v::vs)↔j∈vs:=by
        rw [List.mem_cons]
        exact ⟨fun h=>h.resolve_left (Ne.symm hv), .inr⟩
      simp only [e]
theorem aTy {s t:St}{vs:List Nat}(hl:s.length=t.length) (h:∀ j,j∉vs→s[j]? = t[j]?):L2.wipe s vs=L2.wipe t vs:=by
  refine List.ext_getElem? fun j => ?_
  rw [aJc,aJc,hl]
  by_cases hj:j∈vs
  · rw [if_pos hj,if_pos hj]
  · rw [if_neg hj,if_neg hj];exact h j hj
def lcR (g:Tg) (t:TM) (m:EM) (e:En):List D→List D→Store→Res (List D)
  | [],acc,S => .ok acc S
  | d::ds,acc,S=>match g.m d e with
    | some e1=>(noX (t e1 S)).bind fun b S2=>if b then (noX (m e1 S2)).bind fun y S3=>if acc.length<sizeLine then lcR g t m e ds (acc++[y]) S3 else .stuck else lcR g t m e ds acc S2
    | none => .stuck
def eLc (i:AM) (g:Tg) (t:TM) (m:EM) (vs:List Nat):EM:=fun e S=>(i e S).bind fun ds S1=>(lcR g t m (wipeE e vs) ds [] S1).bind fun acc S2 => .ok (.lst acc) S2
def eLcN (i:AM) (g:Tg) (t:TM) (m:EM) (vs:List Nat):EM:=fun e S=>(i e S).bind fun ds S1=>(lcR g t m (wipeE e vs) ds [] S1).bind fun acc S2 => .ok (.loc S2.length) (S2++[.lst acc])
def Wo.hide (w:Wo) (p:Addr) (o:HO):Wo:=⟨w.al,w.st,upd w.hp p o,p::w.hid⟩
theorem aJd (R:Rep K mg w) {p:Addr}{o:HO}(hn:w.hp p=none):Ex0 w (w.hide p o):=by
  refine ⟨⟨[],by simp [Wo.hide]⟩,fun a h => ?_,fun a u h _ => ?_,fun a u h=>⟨u,?_⟩⟩
  · rcases h with h | h
    · exact .inl (.inl h)
    · rcases List.mem_cons.mp h with h | h
      · exact .inr (by rw [h];exact hn)
      · exact .inl (.inr h)
  · show upd w.hp p o a=_
    rw [upd_ne (ne_of_none h hn)];exact h
  · show upd w.hp p o a=_
    rw [upd_ne (ne_of_none h hn)];exact h
theorem Rep.hide (R:Rep K mg w) {p:Addr}{o:HO}(hn:w.hp p=none):Rep K mg (w.hide p o):=by
  have X:=aJd (o:=o) R hn
  refine ⟨R.len,R.nd,fun a h => ?_,fun n a c h1 h2 => ?_,fun a h => ?_⟩
  · obtain ⟨u,e⟩:=R.tr a h
    exact X.tr a u e
  · refine (R.cell n a c h1 h2).ext X ?_
    show upd w.hp p o a=_
    exact upd_ne fun z=>R.not_mem hn (z ▸ List.mem_of_getElem? h1)
  · rcases List.mem_cons.mp h with h | h
    · subst h;exact ⟨R.not_mem hn,o,upd_same⟩
    · obtain ⟨h1,u,e⟩:=R.hid a h
      exact ⟨h1,X.tr a u e⟩
def Wo.gro (w:Wo) (p:Addr) (o:HO):Wo:=⟨w.al,w.st,upd w.hp p o,w.hid⟩
theorem aP6 {p:Addr}{o:HO}(hm:p∈w.hid):Ex0 w (w.gro p o):=by
  refine ⟨⟨[],by simp [Wo.gro]⟩,fun a h => .inl h,fun a u h z => ?_,fun a u h => ?_⟩
  · show upd w.hp p o a=_
    rw [upd_ne fun e:a=p=>z (.inr (e ▸ hm))];exact h
  · by_cases e:a=p
    · subst e;exact ⟨o,upd_same⟩
    · exact ⟨u,by show upd w.hp p o a=_;rw [upd_ne e];exact h⟩
theorem Rep.gro (R:Rep K mg w) {p:Addr}{o:HO}(hm:p∈w.hid):Rep K mg (w.gro p o):=by
  have X:=aP6 (o:=o) hm
  refine ⟨R.len,R.nd,fun a h => ?_,fun n a c h1 h2 => ?_,fun a h => ?_⟩
  · obtain ⟨u,e⟩:=R.tr a h
    exact X.tr a u e
  · refine (R.cell n a c h1 h2).ext X ?_
    show upd w.hp p o a=_
    exact upd_ne fun z=>(R.hid p hm).1 (z ▸ List.mem_of_getElem? h1)
  · obtain ⟨h1,u,e⟩:=R.hid a h
    exact ⟨h1,X.tr a u e⟩
def Wo.shw (w:Wo) (hs:List Addr):Wo:=⟨w.al,w.st,w.hp,hs⟩
theorem aSK {hs:List Addr}(hm:∀ a,a∈hs→a∈w.hid):Ex0 w (w.shw hs):=
  ⟨⟨[],by simp [Wo.shw]⟩,fun a h => .inl (h.imp id (hm a)),fun a u h _=>h,fun a u h=>⟨u,h⟩⟩
theorem Rep.shw (R:Rep K mg w) {hs:List Addr}(hm:∀ a,a∈hs→a∈w.hid):Rep K mg (w.shw hs):=
  ⟨R.len,R.nd,R.tr,fun n a c h1 h2=>(R.cell n a c h1 h2).ext (aSK hm) rfl,fun a h=>R.hid a (hm a h)⟩
theorem aP7 (R:Rep K mg w) {p:Addr}{o:HO}(hn:w.hp p=none):Fz w (w.hide p o):=fun _ _ _ h1 h2 _=>⟨h2,upd_ne fun e=>R.not_mem hn (e ▸ List.mem_of_getElem? h1)⟩
theorem aSL (R:Rep K mg w) {p:Addr}{o:HO}(hm:p∈w.hid):Fz w (w.gro p o):=fun _ _ _ h1 h2 _=>⟨h2,upd_ne fun e=>(R.hid p hm).1 (e ▸ List.mem_of_getElem? h1)⟩
structure Kp (w1 w:Wo):Prop where
  kh:∀ a,a∈w1.hid→w.hp a=w1.hp a
  fz:Fz w1 w
theorem aRL {i:AM}{g:Tg}{t:TM}{m:EM}{vs:List Nat}{fin:List D→Store→Res D}(hg:∀ j,j∈g.ix→j∈vs)
    (hfin:∀ (w1 w:Wo) (p:Addr) (us:List V) (acc:List D) (Q:VK) (E:XK),Rep X.K X.mg w1→w1.hp p=none→Rep X.K X.mg w→Ex0 w1 w→w.hid=p::w1.hid→Kp w1 w→w.hp p=some (.lst us)→RepL X.K X.mg w acc us →
      Post (RepD X.K X.mg) X.K X.mg w1 (fin acc w.st) Q E→Q (.ref p) w.hp) :
    ∀ s H Q,tG (RepD X.K X.mg) X W (fun e S=>(i e S).bind fun ds S1=>(lcR g t m (wipeE e vs) ds [] S1).bind fin) s H Q →
      tLc (tG (ItsR X) X W i) (g.r X.K) (tG RlB X W0 t) (tG (RepD X.K X.mg) X W0 m) vs s H Q:=by
  rintro s H Q ⟨w,en,rfl,R,E,P⟩
  refine ⟨w,en,rfl,R,E,(Post.bind P).imp ?_⟩
  rintro J H1 ⟨w1,ds,rfl,X1,R1,its,P1⟩
  intro p hp
  dsimp only at P1
  have E1:=E.ext X1.toEx0
  refine ⟨fun j k H=>k=ds.length - j∧j≤ds.length∧∃ w acc us,w.hp=H∧Ex0 w1 w∧Rep X.K X.mg w∧w.hid=p::w1.hid∧Kp w1 w∧w.hp p=some (.lst us)∧RepL X.K X.mg w acc us ∧
      Post (RepD X.K X.mg) X.K X.mg w1 ((lcR g t m (wipeE en vs) (ds.drop j) acc w.st).bind fin) Q (fun cls dd H'=>W cls dd s H'),
    ⟨ds.length,rfl,Nat.zero_le _,w1.hide p (.lst []),[],[],rfl,aJd R1 hp,R1.hide hp,rfl,⟨fun a ha => ?_,aP7 R1 hp⟩,upd_same, .nil,P1⟩,?_⟩
  · show upd w1.hp p _ a=_
    exact upd_ne fun z=>R1.not_hid hp (z ▸ ha)
  rintro j k H ⟨rfl,hj,w,acc,us,rfl,x1,R,hh,hk,hu,ra,P⟩
  obtain ⟨go,stop⟩:=its w x1 hk.fz R
  by_cases hlt:j<ds.length
  · obtain ⟨go1,yl⟩:=go j hlt
    refine .inr ⟨go1,fun H'=>∃ w acc us,w.hp=H'∧Ex0 w1 w∧Rep X.K X.mg w∧w.hid=p::w1.hid∧Kp w1 w∧w.hp p=some (.lst us)∧RepL X.K X.mg w acc us ∧
      Post (RepD X.K X.mg) X.K X.mg w1 ((lcR g t m (wipeE en vs) (ds.drop (j+1)) acc w.st).bind fin) Q (fun cls dd H'=>W cls dd s H'),
      fun H' h=>⟨ds.length - (j+1),by omega,rfl,hlt,h⟩,fun x H' y => ?_⟩
    obtain ⟨w3,d,rfl,x3,R3,st3,_,hd,rd⟩:=yl x H' y
    have e1:ds.drop j=d::ds.drop (j+1):=by
      obtain ⟨hl,rfl⟩:=List.getElem?_eq_some_iff.mp hd
      exact List.drop_eq_getElem_cons hl
    rw [e1,← st3] at P
    unfold lcR at P
    have E3:RepE X.K X.mg w3 (wipeE en vs) (L2.wipe s vs):=(E1.ext (x1.trans x3.toEx0)).wipe vs
    cases hm:g.m d (wipeE en vs) with
    | none=>rw [hm] at P;exact False.elim P
    | some e4=>
      rw [hm] at P
      dsimp only at P
      refine g.ok E3 rd hm fun s4 E4 hl4 hj4=>⟨?_,?_⟩
      · refine aTy (by rw [hl4,wipe_length]) fun q hq => ?_
        rw [hj4 q fun z=>hq (hg q z),aJc,if_neg hq]
      · have hh3:w3.hid=p::w1.hid:=x3.hid.trans hh
        have hk3:Kp w1 w3:=⟨fun a ha=>(x3.kh a (by rw [hh];exact List.mem_cons_of_mem _ ha)).trans (hk.kh a ha),hk.fz.trans x1.al x3.fz⟩
        have hu3:w3.hp p=some (.lst us):=(x3.kh p (by rw [hh];exact List.mem_cons_self)).trans hu
        refine ⟨w3,e4,rfl,R3,E4,?_⟩
        cases ht:t e4 w3.st with
        | exc _ _=>rw [ht] at P;exact False.elim P
        | stuck=>rw [ht] at P;exact False.elim P
        | ok bb S5=>
          rw [ht] at P
          intro w5 c5 x5 R5 st5 r5
          cases r5
          subst st5
          replace P:Post (RepD X.K X.mg) X.K X.mg w1 ((if bb=true then (noX (m e4 w5.st)).bind fun y S3=>if acc.length<sizeLine then lcR g t m (wipeE en vs) (ds.drop (j+1)) (acc++[y]) S3 else .stuck else lcR g t m (wipeE en vs) (ds.drop (j+1)) acc w5.st).bind fin) Q (fun cls dd H'=>W cls dd s H'):=P
          have hh5:w5.hid=p::w1.hid:=x5.hid.trans hh3
          have hk5:Kp w1 w5:=⟨fun a ha=>(x5.kh a (by rw [hh3];exact List.mem_cons_of_mem _ ha)).trans (hk3.kh a ha),hk3.fz.trans (x1.trans x3.toEx0).al x5.fz⟩
          have hu5:w5.hp p=some (.lst us):=(x5.kh p (by rw [hh3];exact List.mem_cons_self)).trans hu3
          have ra5:=(ra.ext x3.toEx0).ext x5.toEx0
          have x15:Ex0 w1 w5:=(x1.trans x3.toEx0).trans x5.toEx0
          cases bb with
          | false=>
            rw [if_neg Bool.false_ne_true] at P ⊢
            exact ⟨w5,acc,us,rfl,x15,R5,hh5,hk5,hu5,ra5,P⟩
          | true=>
            rw [if_pos rfl] at P ⊢
            refine ⟨w5,e4,rfl,R5,E4.ext x5.toEx0,?_⟩
            cases hme:m e4 w5.st with
            | exc _ _=>rw [hme] at P;exact False.elim P
            | stuck=>rw [hme] at P;exact False.elim P
            | ok y S6=>
              rw [hme] at P
              intro w6 v6 x6 R6 st6 r6
              subst st6
              replace P:Post (RepD X.K X.mg) X.K X.mg w1 ((if acc.length<sizeLine then lcR g t m (wipeE en vs) (ds.drop (j+1)) (acc++[y]) w6.st else .stuck).bind fin) Q (fun cls dd H'=>W cls dd s H'):=P
              by_cases hz:acc.length<sizeLine
              · rw [if_pos hz] at P
                have ra6:=ra5.ext x6.toEx0
                have hh6:w6.hid=p::w1.hid:=x6.hid.trans hh5
                have hk6:Kp w1 w6:=⟨fun a ha=>(x6.kh a (by rw [hh5];exact List.mem_cons_of_mem _ ha)).trans (hk5.kh a ha),hk5.fz.trans x15.al x6.fz⟩
                have hu6:w6.hp p=some (.lst us):=(x6.kh p (by rw [hh5];exact List.mem_cons_self)).trans hu5
                have pm:p∈w6.hid:=by rw [hh6];exact List.mem_cons_self
                have xg:=aP6 (o:=.lst (us++[v6])) pm
                refine ⟨us,hu6,by rw [← ra6.length];exact hz,w6.gro p (.lst (us++[v6])),acc++[y],us++[v6],rfl,(x15.trans x6.toEx0).trans xg,R6.gro pm,hh6,⟨fun a ha => ?_,hk6.fz.trans (x15.trans x6.toEx0).al (aSL R6 pm)⟩,upd_same,(ra6.append (.cons r6 .nil)).ext xg,P⟩
                refine Eq.trans (show upd w6.hp p _ a=w6.hp a from upd_ne fun z => ?_) (hk6.kh a ha)
                subst z
                obtain ⟨_,o,ho⟩:=R1.hid a ha
                rw [hp] at ho;cases ho
              · rw [if_neg hz] at P;exact False.elim P
  · have e:j=ds.length:=by omega
    subst e
    rw [List.drop_length] at P
    exact .inl ⟨stop,hfin w1 w p us acc Q _ R1 hp R x1 hh hk hu ra P⟩
theorem aTz:∀ (w1 w:Wo) (p:Addr) (us:List V) (acc:List D) (Q:VK) (E:XK),Rep X.K X.mg w1→w1.hp p=none→Rep X.K X.mg w→Ex0 w1 w→w.hid=p::w1.hid→Kp w1 w→w.hp p=some (.lst us)→RepL X.K X.mg w acc us →
      Post (RepD X.K X.mg) X.K X.mg w1 ((fun acc S=>Res.ok (D.lst acc) S) acc w.st) Q E→Q (.ref p) w.hp:=by
  intro w1 w p us acc Q E R1 hp R x1 hh hk hu ra P
  have sub:∀ a,a∈w1.hid→a∈w.hid:=fun a h=>by rw [hh];exact List.mem_cons_of_mem _ h
  have xs:=aSK sub
  refine P (w.shw w1.hid) (.ref p) ⟨x1.trans xs,rfl,hk.kh,hk.fz.trans x1.al (Fz.same rfl rfl)⟩ (R.shw sub) rfl (.lst ⟨hu,fun z => ?_⟩ (ra.ext xs))
  rcases z with ⟨n,c,h1,_,_⟩ | z
  · exact (R.hid p (by rw [hh];exact List.mem_cons_self)).1 (List.mem_of_getElem? h1)
  · exact R1.not_hid hp z
theorem t_lc {i:AM}{g:Tg}{t:TM}{m:EM}{vs:List Nat}(hg:∀ j,j∈g.ix→j∈vs):∀ s H Q,tG (RepD X.K X.mg) X W (eLc i g t m vs) s H Q →
      tLc (tG (ItsR X) X W i) (g.r X.K) (tG RlB X W0 t) (tG (RepD X.K X.mg) X W0 m) vs s H Q:=aRL hg aTz
def tTrue:TM:=fun _ S => .ok true S
theorem pts0 {X':Cx}:PTs X' [] (tG RlB X' W0 tTrue):=⟨fun pins s σ H Q I h=>pts_nil.run pins s σ H Q I (by
  obtain ⟨w,en,rfl,R,E,P⟩:=h
  exact Post.now P R rfl)⟩
theorem aEE {elt tg iter:Expr}{ifs:List Expr}{scope:Scope}{i:AM}{g:Tg}{t:TM}{m:EM}(own:List (Str×Nat)) (hc:X.calm=true) (hN:X.N.Nodup) (hi:RI X W tg iter i) (ok:BlkOk X.N X.env.scope scope own) (hgi:∀ j,j∈g.ix→j∈own.map (·.2))
    (hg:∀ (s:Shared) (H:Hp) (C:Addr) (cl:List (Str×Addr)) (fp:List Addr),PG (X.blk s H scope (compEnvC scope cl C X.env) fp) tg (g.r X.K)) (ht:∀ (s:Shared) (H:Hp) (C:Addr) (cl:List (Str×Addr)) (fp:List Addr),PTs (X.blk s H scope (compEnvC scope cl C X.env) fp) ifs (tG RlB X W0 t))
    (he:∀ (s:Shared) (H:Hp) (C:Addr) (cl:List (Str×Addr)) (fp:List Addr),RE (X.blk s H scope (compEnvC scope cl C X.env) fp) W0 elt m) (hs:∀ x,foldedSetIterable iter X.env x=pure x:=by intro _;rfl) :
    RE X W (.ListComp elt [⟨tg,iter,ifs,0⟩] scope pos) (eLc i g t m (own.map (·.2))):=
  aAV (pe_lc hc hN hi ok hg ht he hs) (t_lc hgi)
end
end G
namespace G
open PySem L2 PySem.Spec
def enOf (N:Nat) (ds:List D):En:=ds.map some++List.replicate (N - ds.length) none
def fnM (N:Nat) (m:SM):FM:=fun ds S=>match m (enOf N ds) S with
  | .nxt _ S' => .ok .non S'
  | .ret d S' => .ok d S'
  | .exc x _ S' => .exc x S'
  | _ => .stuck
theorem RoomG.mono {j k:Nat}{A:Around}(h:RoomG k A) (l:j≤k):RoomG j A:=⟨h.r.mono l,h.gd⟩
theorem RoomG.units {k:Nat}{A:Around}(h:RoomG k A):A.units+64<cLine:=h.r.units
theorem Cg.u {X:Cx}{W:WX}{k:Nat}(c:Cg X W k):X.A.units+64<cLine:=c.rm.units
structure Cb (X:Cx) (k:Nat):Prop where
  calm:X.calm=true
  nd:X.N.Nodup
  rm:RoomG k X.A
  xe:X.xe=fun _ _=>False
theorem Cb.u {X:Cx}{k:Nat}(c:Cb X k):X.A.units+64<cLine:=c.rm.units
theorem Cg.blk {X:Cx}{W:WX}{k:Nat}(c:Cg X W k) {s:Shared}{H:Hp}{scope:Scope}{cenv:Env}{fp:List Addr}:Cb (X.blk s H scope cenv fp) k:=⟨c.calm,c.nd,c.rm,rfl⟩
section
variable {P:Program}{w0:World}{K:PySem.W.Frag}{mg:Str→Option Value}{base:Heap}
theorem RepE.start {w:Wo}{ds:List D}{vs:List V}(h:RepL K mg w ds vs) (N:List Str):RepE K mg w (enOf N.length ds) (start N vs):=by
  have hl:=h.length
  refine ⟨by unfold enOf L2.start;simp [hl],fun i d e => ?_⟩
  unfold enOf at e
  unfold L2.start
  by_cases hi:i<ds.length
  · rw [List.getElem?_append_left (by simpa using hi),List.getElem?_map] at e
    cases q:ds[i]? with
    | none=>rw [q] at e;cases e
    | some d'=>
      rw [q] at e
      cases e
      obtain ⟨v,hv,r⟩:=h.get q
      exact ⟨v,by rw [List.getElem?_append_left (by simpa [← hl] using hi),List.getElem?_map,hv];rfl,r⟩
  · rw [List.getElem?_append_right (by simpa using hi),List.getElem?_replicate] at e
    split at e<;>cases e
theorem aVE {x qual:Str}{params:Arguments}{body:List Stmt}{scope:Scope}{dvs:List V}{kws:List (Str×V)}{f:Addr}{fd:FuncData}{N ps:List Str}{k:Nat}{sp:Sp}(F:FunD K x qual params body scope dvs kws f fd) (S:FnScope N ps scope)
    (len:∀ vs H Q E,sp vs H Q E→vs.length=ps.length)
    (hbody:∀ (cdv:Value) (A:Around) (outer:List Env) (s:Shared) (H:Hp) (vs:List V) (Q:VK) (E:XK),RoomG k (A.deeper (PyProof.Rows.envOfC qual scope s.heap.objs.size f cdv))→sp vs H Q E →
      ∃ t,PSs (cxOf (L2.CX P w0) P w0 K mg base N qual scope f cdv A outer s H E) body t∧t { nx:=fun _ H'=>Q .non H',rt:=Q } (L2.start N vs) H):FnG P w0 K mg base (k+1) f fd ps sp:=by
  obtain ⟨oc,od,dV,kV,doc,pm,an,cdv,ct,osl,rfl,lk,hcd,_,_⟩:=F.ex
  constructor
  · exact len
  intro A outer s H args us vs Q E rm env bnd rel hs
  have inn:K.In s.heap:=env.mod.kin.keeps fun a o q=>(env.bs a o q).1
  have nol:s.heap.NoLimit:=env.mod.nolimit.keeps fun a o q=>(env.bs a o q).1
  apply codeAny_call_function rm.r.depth (inn _ _ lk) rfl S.co S.gen rfl (PySem.W.codeRec_of inn hcd)
  apply bnd
  apply wpAny_newFunctionEnv_cells S.kind
  · rintro ⟨n,u⟩ hn
    exact (S.par n (List.of_mem_zip hn).1).imp id fun q=>⟨q,PySem.W.cellsFrom_some _ _ _ (.inl q)⟩
  rintro _ rfl s1 nw
  constructor
  · exact nol.keeps nw.toInCall.keep
  obtain ⟨t,ht,hq⟩:=hbody cdv A outer s H vs Q E ⟨rm.r.deeper _,rm.gd⟩ hs
  have hI:=inv_start (CX:=L2.CX P w0) (E:=E) S rm.r.hd env (len _ _ _ _ hs) rel nw
  apply codeAny_func
  refine wpAny_mono (ht.run [] s1 _ H _ hI hq) ?_ fun _ _ z=>z
  intro fl s' z
  cases fl with
  | next=>obtain ⟨st,H',J,q⟩:=z;exact ⟨V.non,H',J.os,J.bare,J.base,J.hok,rfl,q⟩
  | ret u=>obtain ⟨v,st,H',J,rv,q⟩:=z;exact ⟨v,H',J.os,J.bare,J.base,J.hok,rv,q⟩
  | brk=>exact False.elim z.choose_spec.choose_spec.2
  | cont=>exact False.elim z.choose_spec.choose_spec.2
theorem aAm {x qual:Str}{st:Stmt}{f:Addr}{fd:FuncData}{N ps:List Str}{k:Nat}{m:SM}{dvs:List V}{kws:List (Str×V)}(F:FunD K x qual (defArgs st) (defBody st) (defScope st) dvs kws f fd) (S:FnScope N ps (defScope st))
    (hbody:∀ (cdv:Value) (A:Around) (outer:List Env) (s:Shared) (H:Hp) (E:XK),Cg (cxOf (L2.CX P w0) P w0 K mg base N qual (defScope st) f cdv A outer s H E) (fun cls d _ H'=>E cls d H') k →
      RSs (cxOf (L2.CX P w0) P w0 K mg base N qual (defScope st) f cdv A outer s H E) (fun cls d _ H'=>E cls d H') (defBody st) m) :
    FnG P w0 K mg base (k+1) f fd ps (spM K mg ps.length (fnM N.length m)):=by
  refine aVE F S (fun vs H Q E h=>h.1) (fun cdv A outer s H vs Q E hr h => ?_)
  refine ⟨_,hbody cdv A outer s H E ⟨rfl,S.nd,takes_of rfl rfl rfl rfl,passes_of rfl,hr,rfl,rfl,rfl⟩,?_⟩
  obtain ⟨hl,w,ds,rfl,R,rl,P1⟩:=h
  refine ⟨w,enOf N.length ds,rfl,R,RepE.start rl N,?_⟩
  unfold fnM at P1
  cases q:m (enOf N.length ds) w.st with
  | nxt e S=>rw [q] at P1;exact fun w1 s1 x1 R1 st1 _=>P1 w1 .non x1 R1 st1 .non
  | ret d S=>rw [q] at P1;exact P1
  | brk e S=>rw [q] at P1;exact False.elim P1
  | cnt e S=>rw [q] at P1;exact False.elim P1
  | exc y e S=>rw [q] at P1;exact fun w1 s1 c1 d1 x1 R1 st1 _ rx=>P1 w1 c1 d1 x1 R1 st1 rx
  | stuck=>rw [q] at P1;exact P1
end
section
variable {X:Cx}{W:WX}{a b c e o:Expr}{es:List Expr}{ma mb mc me:EM}{ta tb:TM}{pos:Pos}{x:Str}{p:Pos}{j k:Nat}{ps ks:List Str}{f:FM}
def eCall (f:FM) (m:AM):EM:=fun e S=>(m e S).bind fun ds S1=>f ds S1
def nA (n:Nat) (m:AM):AM:=fun e S=>(m e S).bind fun ds S1=>if ds.length=n then .ok ds S1 else .stuck
theorem aSM {E:St→XK}{f:Addr}{fd:FuncData}{sp:Sp}{pins:List (Addr×Obj)}{s:St}{H:Hp}{sh:Shared}{Q:VK}{args:Args}{zs:List Value}{ws:List V}(F:FnG X.prog X.w X.K X.mg X.base k f fd ps sp) (hr:RoomG k X.A) (hb:BindsTo sh fd args (ps.zip zs)) (hx:PassesAt (L2.CX X.prog X.w) X s (E s))
    (I:L2.Inv X pins s H sh) (r:Vals ws zs) (h:sp ws H Q (E s)):codeAny (model X.prog X.w) X.A (.call (.ref f) args) (fun r s'=>match r with | .ok (.ret u)=>EP X pins s Q u s' | .error y=>X.xe y s' | _=>False) sh:=by
  refine codeAny_mono (F.run X.A X.stack sh H args zs ws Q (E s) hr I.env0 hb r h) ?_
  intro res s' q
  cases res with
  | error y=>exact hx pins H sh y s' I q
  | ok fl=>
    cases fl with
    | ret u=>exact I.after q
    | _=>exact False.elim q
theorem aNG {fa:Addr}{fd:FuncData}{sp:Sp}{E:St→XK}{t:TA}(F:FnG X.prog X.w X.K X.mg X.base k fa fd ps sp) (hr:RoomG k X.A) (hg:Gl X x) (hm:X.mg x=some (.ref fa)) (hk:PySem.W.keepIn X.K (.ref fa)=true) (hb:Binds X.K fd ps []) (hx:∀ σ,PassesAt (L2.CX X.prog X.w) X σ (E σ))
    (ha:PA X (e::es) t) (hdb:(x == ("__debug__":Str))=false) (he:starEach (e::es) X.env=(false,eval e X.env)::starEach es X.env) (hpl:(backTo pos (starEach es X.env)).any (·.1)=false) :
    PE X (.Call (.Name x p) (e::es) [] pos) (tCallS sp E t):=by
  constructor
  intro pins s σ H Q I h
  apply wpAny_Call_Name_kw
  refine ld_glob I hg hm ?_ hdb
  refine PySem.W.callWith_K (h₀:=X.base) I.ok.mod.kin hk ?_ he hpl
  refine thn (ha.run pos pins s σ H _ I h) ?_
  rintro us s1 ⟨vs,H1,I1,r,q⟩
  have hl:us.length=ps.length:=by rw [← r.length];exact F.len _ _ _ _ q
  have b:=hb s1 us I1.kIn (by simpa using hl)
  rw [List.append_nil] at b
  refine ⟨I1.kIn,wpAny_call (codeAny_mono (aSM F hr b (hx σ) I1 r q) ?_)⟩
  intro res s' z
  cases res with
  | error y=>exact z
  | ok fl=>
    cases fl with
    | ret u=>exact z
    | _=>exact False.elim z
theorem aAg {m:AM}(c:Cg X W k) (hF:Df X.prog X.w X.K X.mg X.base x ps j f) (hj:j≤k) (ha:RA X W (e::es) m) (hg:Gl X x:=by rfl) (hdb:(x == ("__debug__":Str))=false:=by decide) (he:starEach (e::es) X.env=(false,eval e X.env)::starEach es X.env:=by rfl) (hpl:(backTo pos (starEach es X.env)).any (·.1)=false:=by rfl) :
    RE X W (.Call (.Name x p) (e::es) [] pos) (eCall f (nA ps.length m)):=by
  obtain ⟨fa,fd,h1,h2,h3,h4⟩:=hF.ex
  refine aAV (aNG h4 (c.rm.mono hj) hg h1 h2 h3 (fun s=>passAt c.tk s) ha hdb he hpl) ?_
  rintro s H Q ⟨w,en,rfl,R,E,P⟩
  unfold eCall nA at P
  refine ⟨w,en,rfl,R,E,?_⟩
  cases q:m en w.st with
  | stuck=>rw [q] at P;exact P
  | exc y S=>rw [q] at P;exact P
  | ok ds S=>
    rw [q] at P
    replace P:Post (RepD X.K X.mg) X.K X.mg w ((if ds.length=ps.length then .ok ds S else .stuck:Res (List D)).bind f) Q _:=P
    intro w1 vs x1 R1 st1 rl
    subst st1
    split at P
    · rename_i hl
      exact ⟨by rw [← rl.length];exact hl,w1,ds,rfl,R1,rl,Post.ext P x1⟩
    · exact False.elim P
theorem aRM {X':Cx}(h:X'.xe=fun _ _=>False):Takes X' W0:=fun _ _ z=>by
  obtain ⟨_,_,_,_,_,_,_,_,_,_,_,_,_,_,_,_,q⟩:=z
  exact False.elim q
theorem aCk {m:AM}(c:Cb X k) (hF:Df X.prog X.w X.K X.mg X.base x ps j f) (hj:j≤k) (ha:RA X W0 (e::es) m) (hg:Gl X x:=by rfl) (hdb:(x == ("__debug__":Str))=false:=by decide) (he:starEach (e::es) X.env=(false,eval e X.env)::starEach es X.env:=by rfl) (hpl:(backTo pos (starEach es X.env)).any (·.1)=false:=by rfl) :
    RE X W0 (.Call (.Name x p) (e::es) [] pos) (eCall f (nA ps.length m)):=by
  obtain ⟨fa,fd,h1,h2,h3,h4⟩:=hF.ex
  refine aAV (aNG h4 (c.rm.mono hj) hg h1 h2 h3 (fun s=>passAt (aRM c.xe) s) ha hdb he hpl) ?_
  rintro s H Q ⟨w,en,rfl,R,E,P⟩
  unfold eCall nA at P
  refine ⟨w,en,rfl,R,E,?_⟩
  cases q:m en w.st with
  | stuck=>rw [q] at P;exact P
  | exc y S=>rw [q] at P;exact P
  | ok ds S=>
    rw [q] at P
    replace P:Post (RepD X.K X.mg) X.K X.mg w ((if ds.length=ps.length then .ok ds S else .stuck:Res (List D)).bind f) Q _:=P
    intro w1 vs x1 R1 st1 rl
    subst st1
    split at P
    · rename_i hl
      exact ⟨by rw [← rl.length];exact hl,w1,ds,rfl,R1,rl,Post.ext P x1⟩
    · exact False.elim P
def eCallK (f:FM) (gD:List D→List D→List D) (n l:Nat) (m mk:AM):EM:=fun e S=>(m e S).bind fun ds S1=>(mk e S1).bind fun zs S2=>if ds.length=n∧zs.length=l then f (gD ds zs) S2 else .stuck
def eCallK0 (f:FM) (gD:List D→List D→List D) (l:Nat) (mk:AM):EM:=fun e S=>(mk e S).bind fun zs S2=>if zs.length=l then f (gD [] zs) S2 else .stuck
def sRaise (c:Nat):SM:=fun e S => .exc (.exc c []) e S
theorem aRN {C:Addr}{bm:List Value}{B newId initId:String}{m:Str}{jj:Nat}{p2 pos2:Pos}(cn:Nat) (hcn:cname cn=x) (c:Cg X W k) (F:ExcBaseFacts B newId initId bm) (q:PySem.W.excIn X.K C bm newId=true) (gC:X.mg x=some (.ref C)) (kC:PySem.W.keepIn X.K (.ref C)=true) (r:Raises X (.ref C)) (hg:Gl X x:=by rfl)
    (hdb:(x == ("__debug__":Str))=false:=by decide):RS X W (.Raise (some (.Call (.Name x p) [.Constant (.str m) jj p2] [] pos)) none pos2) (sRaise cn):=by
  refine aE8 (ps_raise c.calm c.tk (pmk_own F q gC kC r hg hdb)) ?_
  rintro D s H ⟨w,en,rfl,R,E,P⟩
  exact P w s (.ref C) none (Ext.refl w) R rfl E ⟨cn,C,[],[],rfl,by rw [hcn];exact gC,rfl, .inl ⟨rfl,rfl⟩, .nil⟩
end
end G
namespace G
open PySem L2 PySem.Spec
section
variable {X:Cx}{pins:List (Addr×Obj)}{s:L2.St}{H:Hp}{sh:Shared}
theorem aKa (I:L2.Inv X pins s H sh) {ad:Addr}{o:HO}(na:H ad=none) (h0:X.s_0.heap.get? ad=none) (nL:ad≠X.env.locals) (nC:∀ x c,X.env.cells.lookup x=some c→c≠ad)
    (nP:∀ p,p∈X.pn++pins→p.1≠ad) (new:ObjOk X.prog X.w (upd H ad o) sh.heap ad o):L2.Inv X pins s (upd H ad o) sh:=by
  have ne:∀ (b:Addr) (u:HO),H b=some u→b≠ad:=fun b u h=>ne_of_none h na
  have bs:=I.base
  refine ⟨I.ok,I.os,I.bare,⟨bs.keep,bs.slot,fun b ob h1 h2 h3 => ?_,bs.there,fun b xs h => ?_,fun b ob u h => ?_,fun b q h => ?_⟩,I.loc,I.cell,?_,fun x c h => ?_,fun p hp => ?_,fun b u h => ?_,I.len⟩
  · have hb:b≠ad:=fun z=>by rw [z,h0] at h1;cases h1
    rw [upd_ne hb];exact bs.free b ob h1 h2 h3
  · have z:=bs.tups b xs h
    rw [upd_ne (ne _ _ z)];exact z
  · have z:=bs.frzs b ob u h
    rw [upd_ne (ne _ _ z)];exact z
  · obtain ⟨m,z⟩:=bs.tbls b q h
    exact ⟨m,by rw [upd_ne (ne _ _ z)];exact z⟩
  · rw [upd_ne (Ne.symm nL)];exact I.free
  · rw [upd_ne (nC x c h)];exact I.freeC x c h
  · obtain ⟨z1,z2,z3⟩:=I.pin p hp
    exact ⟨z1,by rw [upd_ne (nP p hp)];exact z2,z3⟩
  · by_cases hb:b=ad
    · subst hb
      rw [upd_same] at h;cases h;exact new
    · rw [upd_ne hb] at h
      exact (I.hok b u h).stay (fun _ _ _ q=>q) (fun c q=>by rw [upd_ne (ne _ _ q)];exact q) fun c xs q=>by rw [upd_ne (ne _ _ q)];exact q
theorem aDI (I:L2.Inv X pins s H sh) (ad:Addr):L2.Inv (X.suite ad (X.pn++pins)) [] s H sh:=
  ⟨I.ok.suite _ _,I.os,I.bare,I.base,I.loc,I.cell,I.free,I.freeC,fun p hp=>I.pin p (by rw [List.append_nil] at hp;exact hp),I.hok,I.len⟩
theorem aGh {ad:Addr}{pn':List (Addr×Obj)}(ok:X.Ok) (I:L2.Inv (X.suite ad (X.pn++pins)) pn' s H sh):L2.Inv X pins s H sh:=
  ⟨ok,I.os,I.bare,I.base,I.loc,I.cell,I.free,I.freeC,fun p hp=>I.pin p (List.mem_append_left _ hp),I.hok,I.len⟩
end
def wKeep (K:PySem.W.Frag) (c:Value) (i:Nat) (ts:TS) (Wo:WX) (D:Ends):WX:=fun cls d s H=>
  ∃ b,PySem.W.exmOne K cls c=some b∧(b=true→∀ ad,H ad=none→ts ⟨fun s' H'=>D.nx (s'.set i none) H',D.rt,fun s' H'=>D.bk (s'.set i none) H',fun s' H'=>D.ct (s'.set i none) H'⟩ (s.set i (some (.ref ad))) (upd H ad (ExcO ad cls d)))∧(b=false→Wo cls d s H)
section
variable {X:Cx}{x n:Str}{c:Value}{i:Nat}{body suite:List Stmt}{b0:Stmt}{np pos pos':Pos}{tb:WX→TS}{ts:TS}{Wt:WX}
theorem aT0 (hs:X.stack=X.env::X.outer) (hf:X.env.frame=some X.env.locals) (hex:X.ex = []) (hN:X.N.Nodup) (hi:X.N[i]? = some n) (hln:X.env.kindOf n=some .local) (hc:Names X x c) (tk:Takes X Wt)
    (hb:∀ (W':WX) (pn:List (Addr×Obj)) (xe:Value→Shared→Prop),Takes (X.tr pn xe) W'→PassesOwn (model X.prog X.w) X.A X.env xe→PSs (X.tr pn xe) body (tb W'))
    (hsu:∀ (ad:Addr) (pn:List (Addr×Obj)),PSs (X.suite ad pn) (b0::suite) ts) :
    PS X (.Try body [.ExceptHandler (some (.Name x np)) (some n) (b0::suite) pos'] [] [] pos) (fun D s H=>tb (wKeep X.K c i ts Wt D) D s H):=by
  refine ⟨fun pins sh s H D I h => ?_⟩
  have ok:=I.ok
  have frames:X.A.frames=some (X.env::X.outer):=ok.frames.trans (congrArg some hs)
  refine wpAny_Try_except ?_
  refine wpAny_mono ((hb (wKeep X.K c i ts Wt D) (X.pn++pins)
    (fun y s1=>wpAny (model X.prog X.w) X.A (noteFrame y X.env) (fun _ s2=>wpAny (model X.prog X.w) X.A (setFlight y none) (fun _ s3=>
      wpAny (model X.prog X.w) X.A (handleBy y X.env [.ExceptHandler (some (.Name x np)) (some n) (b0::suite) pos']) (SP X pins D) X.xe s3) X.xe s2) X.xe s1)
    (fun u s' xx => ?_) PassesOwn.looking).run [] sh s H D (I.toTry _) h) (fun fl s1 hsp => ?_) (fun _ _ q=>q)
  · obtain ⟨ad,B,sI,pins',s5,H5,cls,d,rfl,J5,nb,up,sky,na,os,ag,b,hb1,hyes,hno⟩:=xx
    have J:L2.Inv X pins s5 H5 sI:=J5.ofTry ok
    have sky1:Sky B (X.env::X.outer) ad (Zc cls d) X.env.locals s'.heap:=hs ▸ sky
    show wpAny (model X.prog X.w) X.A (noteFrame (.ref ad) X.env) _ _ _
    refine Sky.land Zc.steady frames hf sky1 fun h3 fl3 up3 => ?_
    have J3:L2.Inv X pins s5 H5 { s' with heap:=h3 }:=J.landed nb fl3.1 (up.trans up3) os ag
    obtain ⟨oe3,vs3,he3,hz3,hd3⟩:=fl3.there
    have nfr:ad∉frs (X.env::X.outer):=fun hm=>by
      obtain ⟨_,o',e',hnf⟩:=fl3.2.2.1.mem hm
      rw [he3] at e';cases e'
      exact hnf _ hd3
    have nL:ad≠X.env.locals:=fun z=>nfr (List.mem_filterMap.mpr ⟨X.env,List.mem_cons_self,by rw [hf,z]⟩)
    have noI:sI.heap.get? ad=none:=by
      cases q:sI.heap.get? ad with
      | none=>rfl
      | some o=>
        have z:=nb ad o q (by rw [hs];exact nfr)
        rw [fl3.2.1] at z;cases z
    have no0:X.s_0.heap.get? ad=none:=by
      cases q:X.s_0.heap.get? ad with
      | none=>rfl
      | some o=>
        obtain ⟨o',z⟩:=J.base.there ad o q (by rw [hex];simp)
        rw [noI] at z;cases z
    have noC:∀ y c',X.env.cells.lookup y=some c'→c'≠ad:=fun y c' e z=>by
      obtain ⟨v,o,ho,_⟩:=J.cell y c' e
      rw [z,noI] at ho;cases ho
    have noP:∀ q,q∈X.pn++pins→q.1≠ad:=fun q hq z=>by
      have e:=(J.pin q hq).1
      rw [z,noI] at e;cases e
    refine wpAny_handleBy_cons (codeAny_handlers_test ?_) (by intro q;cases q)
    have LT:PySem.W.Looks (model X.prog X.w) h3 (typeOf (.ref ad)) cls:=fun A Q E s k q=>wpAny_typeOf_ref (k _ _ he3) (hz3.1 ▸ q)
    have LM:=PySem.W.exm_one (M:=model X.prog X.w) (J3.kIn) LT hb1
    have S3:=aDI J3 ad
    have test:∀ {Q:Value→Shared→Prop}{E:Value→Shared→Prop},Q c { s' with heap:=h3 }→wpAny (model X.prog X.w) (X.A.mark (some (.ref ad))) (eval (.Name x np) X.env) Q E { s' with heap:=h3 }:=fun {Q E} q=>by
      obtain ⟨hg,hdb,hm | ⟨hm,hv,hnn⟩⟩:=hc
      · exact ld_glob (X:=X.suite ad (X.pn++pins)) S3 hg hm q hdb
      · exact ld_blt (X:=X.suite ad (X.pn++pins)) S3 hg hm hv q hnn hdb
    refine test (LM.here ?_)
    cases b with
    | true=>
      refine codeAny_handlers_suite_as (HandSPX.lands_againZ fl3 fun h4 fl4 up4 => ?_)
      have J4:L2.Inv X pins s5 H5 { s' with heap:=h4 }:=J.landed nb fl4.1 ((up.trans up3).trans up4) os ag
      obtain ⟨oe4,vs4,he4,hz4,hd4⟩:=fl4.there
      have J5:L2.Inv X pins s5 (upd H5 ad (ExcO ad cls d)) { s' with heap:=h4 }:=aKa J4 na no0 nL noC noP
        ⟨⟨oe4,vs4,he4,hz4.1,hz4.2,hd4⟩,⟨oe4,he4⟩,fun h1 h2 ⟨o,v,e,r⟩ k=>⟨o,v,k o e,r⟩⟩
      have S5:=aDI J5 ad
      refine store_ok (X:=X.suite ad (X.pn++pins)) (v:=.ref ad) S5 hN hi (.inl hln) rfl (fun s6 S6 => ?_) (.inr hln)
      refine wpAny_mono ((hsu ad (X.pn++pins)).run [] s6 _ _ _ S6 (hyes rfl ad na)) (fun fl s7 hsp => ?_) (fun _ _ z=>False.elim z)
      have fin:∀ {t:L2.St}{H7:Hp}{Q:Shared→Prop},L2.Inv (X.suite ad (X.pn++pins)) [] t H7 s7→(∀ s8,L2.Inv X pins (t.set i none) H7 s8→Q s8) →
          wpAny (model X.prog X.w) X.A (do bindName X.env n .none;unbindBehindTheSuite X.env n pos') (fun _ s8=>Q s8) X.xe s7:=fun {t H7 Q} S7 hq=>gone_ok (aGh ok S7) hN hi hln hq
      cases fl with
      | next=>obtain ⟨t,H7,S7,q7⟩:=hsp;exact fin S7 fun s8 J8=>⟨_,_,J8,q7⟩
      | brk=>obtain ⟨t,H7,S7,q7⟩:=hsp;exact fin S7 fun s8 J8=>⟨_,_,J8,q7⟩
      | cont=>obtain ⟨t,H7,S7,q7⟩:=hsp;exact fin S7 fun s8 J8=>⟨_,_,J8,q7⟩
      | ret u=>obtain ⟨v7,t,H7,S7,r7,q7⟩:=hsp;exact fin S7 fun s8 J8=>⟨_,_,_,J8,r7,q7⟩
    | false=>
      show wpAny _ X.A (handleBy (.ref ad) X.env []) _ _ _
      refine wpAny_handleBy_nil ?_
      obtain ⟨k1,k2,k3,oe,vs,T,oT,ts',he,hz,hd,h1,hr⟩:=id fl3
      unfold PySem.passOn
      refine wpAny_bind (wpAny_field he hd h1 ?_)
      rw [if_neg (show ¬ ((Value.ref T == Value.none)=true) from by simp)]
      have fin:wpAny (model X.prog X.w) X.A (setFlight (.ref ad) X.env.frame) (fun _ s4=>wpAny (model X.prog X.w) X.A (throw (.ref ad):Sem Flow) (SP X pins D) X.xe s4) X.xe { s' with heap:=h3 }:=by
        rw [hf]
        refine HandSPX.setFlight_upZ fl3 fun h4 hh4 up4=>wpAny_throw (tk _ _ ?_)
        exact ⟨ad,B,sI,pins,s5,H5,cls,d,rfl,J,nb,(up.trans up3).trans up4, .inr (.inr (by rw [hs];exact hh4)),na,os,ag,hno rfl⟩
      first
        | exact wpAny_bind (wpAny_pure (wpAny_bind fin))
        | exact wpAny_bind fin
  · cases fl with
    | next=>obtain ⟨t,H1,J1,q⟩:=hsp;exact wpAny_execs_nil ⟨t,H1,J1.ofTry ok,q⟩
    | brk=>obtain ⟨t,H1,J1,q⟩:=hsp;exact ⟨t,H1,J1.ofTry ok,q⟩
    | cont=>obtain ⟨t,H1,J1,q⟩:=hsp;exact ⟨t,H1,J1.ofTry ok,q⟩
    | ret u=>obtain ⟨v,t,H1,J1,r,q⟩:=hsp;exact ⟨v,t,H1,J1.ofTry ok,r,q⟩
end
section
variable {X:Cx}{W:WX}{a b c e o:Expr}{es:List Expr}{ma mb mc me:EM}{ta tb:TM}{pos:Pos}{x:Str}{p:Pos}{j k:Nat}
def sSu (i:Nat):SRes→SRes
  | .nxt e S => .nxt (e.set i none) S
  | .brk e S => .brk (e.set i none) S
  | .cnt e S => .cnt (e.set i none) S
  | .ret d S => .ret d S
  | _ => .stuck
def sTry (i:Nat) (tb:Nat→Option Bool) (m n:SM):SM:=fun e S=>match m e S with
  | .exc (.exc cn fs) e1 S1=>match tb cn with
    | some true=>sSu i (n (e1.set i (some (.exc cn fs))) S1)
    | some false => .exc (.exc cn fs) e1 S1
    | none => .stuck
  | .exc _ _ _ => .stuck
  | r=>r
theorem aVF {i:Nat}{n:Str}{cv:Value}{tb:Nat→Option Bool}{body suite:List Stmt}{b0:Stmt}{np pos':Pos}{mt mn:SM}(c:Cg X W k) (hi:X.N[i]? = some n) (hc:Names X x cv)
    (htb:∀ cn C q,tb cn=some q→X.mg (cname cn)=some (.ref C)→PySem.W.exmOne X.K (.ref C) cv=some q)
    (hb:∀ (W':WX) (pn:List (Addr×Obj)) (xe:Value→Shared→Prop),Cg (X.tr pn xe) W' k→RSs (X.tr pn xe) W' body mt)
    (hsu:∀ (ad:Addr) (pn:List (Addr×Obj)),RSs (X.suite ad pn) W0 (b0::suite) mn) (hln:X.env.kindOf n=some .local:=by rfl) :
    RS X W (.Try body [.ExceptHandler (some (.Name x np)) (some n) (b0::suite) pos'] [] [] pos) (sTry i tb mt mn):=by
  refine aE8 (aT0 (tb:=fun W'=>tS X W' mt) (ts:=tS X W0 mn) c.hs c.hf c.em c.nd hi hln hc c.tk (fun W' pn xe t po=>hb W' pn xe (c.tr t po)) hsu) ?_
  rintro D s H ⟨w,en,rfl,R,E,P⟩
  refine ⟨w,en,rfl,R,E,?_⟩
  unfold sTry at P
  cases q:mt en w.st with
  | nxt e S=>rw [q] at P;exact P
  | ret e S=>rw [q] at P;exact P
  | brk e S=>rw [q] at P;exact P
  | cnt e S=>rw [q] at P;exact P
  | stuck=>rw [q] at P;exact P
  | exc y e1 S1=>
    rw [q] at P
    intro w1 s1 cls dd x1 R1 st1 E1 rx
    subst st1
    obtain ⟨cn,C,fs,gs,rfl,hC,rfl,hx,rf⟩:=rx
    dsimp only at P
    cases ht:tb cn with
    | none=>rw [ht] at P;exact False.elim P
    | some bb=>
      rw [ht] at P
      refine ⟨bb,htb cn C bb ht hC,?_,?_⟩
      · rintro rfl ad na
        dsimp only at P
        have xp:=aBk (o:=ExcO ad (.ref C) dd) R1 na
        refine ⟨w1.put ad (ExcO ad (.ref C) dd),e1.set i (some (.exc cn fs)),rfl,R1.put na,(E1.ext xp.toEx0).set i (.exc hC (aBO R1 na) (hx.ext xp.toEx0) (rf.ext xp.toEx0)),?_⟩
        show PostS X W0 _ (mn _ w1.st) _
        have P2:PostS X W (w1.put ad (ExcO ad (.ref C) dd)) (sSu i (mn (e1.set i (some (.exc cn fs))) w1.st)) D:=PostS.ext (PostS.ext P x1) xp
        cases q2:mn (e1.set i (some (.exc cn fs))) w1.st with
        | nxt e S=>rw [q2] at P2;exact fun w3 s3 x3 R3 st3 E3=>P2 w3 _ x3 R3 st3 (E3.gone i)
        | brk e S=>rw [q2] at P2;exact fun w3 s3 x3 R3 st3 E3=>P2 w3 _ x3 R3 st3 (E3.gone i)
        | cnt e S=>rw [q2] at P2;exact fun w3 s3 x3 R3 st3 E3=>P2 w3 _ x3 R3 st3 (E3.gone i)
        | ret e S=>rw [q2] at P2;exact P2
        | exc y e S=>rw [q2] at P2;exact False.elim P2
        | stuck=>rw [q2] at P2;exact False.elim P2
      · rintro rfl
        dsimp only at P
        exact P w1 s1 _ dd x1 R1 rfl E1 ⟨cn,C,fs,gs,rfl,hC,rfl,hx,rf⟩
def isC (tb:Nat→Option Bool):D→Option Bool
  | .exc cn []=>tb cn
  | _=>none
def eIsC (tb:Nat→Option Bool) (m:EM):EM:=fun e S=>(m e S).bind fun x S1=>lf ((isC tb x).map .bl) S1
def MtX (X:Cx) (f:Store→D→List D→Option D):V→List V→Hp→VK→Prop:=fun v vs H Q=>∃ w x xs E,w.hp=H∧Rep X.K X.mg w∧RepD X.K X.mg w x v∧RepL X.K X.mg w xs vs∧Post (RepD X.K X.mg) X.K X.mg w (lf (f w.st x xs) w.st) Q E
def eMt (f:Store→D→List D→Option D) (a:EM) (m:AM):EM:=fun e S=>(a e S).bind fun x S1=>if (seqD S1 x).isSome then (m e S1).bind fun xs S2=>lf (f S2 x xs) S2 else .stuck
def flatD:D→Option V
  | .non=>some .non
  | .bl b=>some (.bl b)
  | .int i=>some (.int i)
  | .str x=>some (.str x)
  | _=>none
theorem RepD.flat {K:PySem.W.Frag}{mg:Str→Option Value}{w:Wo}{d:D}{v u:V}(h:RepD K mg w d v) (e:flatD d=some u):v=u∧flatV v=true:=by
  cases h<;>first | (cases e;exact ⟨rfl,rfl⟩) | cases e
def flatL:List D→Option (List V)
  | []=>some []
  | d::l=>match flatD d,flatL l with
    | some v,some vs=>some (v::vs)
    | _,_=>none
theorem RepL.flat {K:PySem.W.Frag}{mg:Str→Option Value}{w:Wo}{l:List D}{vs us:List V}(h:RepL K mg w l vs) (e:flatL l=some us):vs=us∧vs.all flatV=true:=by
  induction l generalizing vs us with
  | nil=>cases h;cases e;exact ⟨rfl,rfl⟩
  | cons d l ih=>
    cases h with
    | cons r t=>
      rw [flatL] at e
      split at e
      · rename_i v2 vs2 e1 e2
        cases e
        obtain ⟨q1,q2⟩:=r.flat e1
        obtain ⟨q3,q4⟩:=ih t e2
        exact ⟨by rw [q1,q3],by rw [List.all_cons,q2,q4];rfl⟩
      · cases e
end
end G
namespace G
open PySem L2 PySem.Spec
structure XcO (K:PySem.W.Frag) (C:Addr) (bm:List Value) (nw:String):Prop where
  x:PySem.W.excIn K C bm nw=true
  k:PySem.W.keepIn K (.ref C)=true
  b:PySem.W.subIn K (.ref C) (.type "BaseException")=some true
  t:PySem.W.typeIn K (.ref C)=some (.type "type")
section
variable {P:Program}{w0:World}{K:PySem.W.Frag}{mg:Str→Option Value}{base:Heap}
theorem aNH {w:Wo}:∀ ns:List Int,RepL K mg w (ns.map D.int) (ns.map V.int)
  | [] => .nil
  | n::ns => .cons (.int n) (aNH ns)
end
end G
namespace G
open PySem L2 PySem.Spec PyProof.Rows
section
variable {fx:List Fx}{fn:List He.DefD}{K:PySem.W.Frag}
theorem SaysX.fact (c:SaysX fx fn K) (i:Nat) {f:Fx}(h:fx[i]? = some f:=by rfl):f K=true:=by
  have c1:=(He.ba (show ((fx.all fun f=>f K) && fn.all fun d=>d.ok K)=true from congrArg (fun z:He.AlD=>z.1) c)).1
  exact List.all_eq_true.mp c1 f (List.mem_of_getElem? h)
theorem SaysX.def_ (c:SaysX fx fn K) (i:Nat) {d:He.DefD}(h:fn[i]? = some d:=by rfl):∃ fd,FunD K d.name d.qual d.params d.body d.scope (d.dvs K) (d.kws K) (He.fAd K d.at_) fd:=by
  have c2:=(He.ba (show ((fx.all fun f=>f K) && fn.all fun d=>d.ok K)=true from congrArg (fun z:He.AlD=>z.1) c)).2
  have e:fn.map (fun d=>He.fnW K d.at_)=fn.map He.DefD.val:=congrArg (fun z:He.AlD=>z.2) c
  have e2:(fn.map fun d=>He.fnW K d.at_)[i]? = (fn.map He.DefD.val)[i]? := by rw [e]
  rw [List.getElem?_map,List.getElem?_map,h] at e2
  exact He.DefD.funD (Option.some.inj e2) (List.all_eq_true.mp c2 d (List.mem_of_getElem? h))
end
section
variable {K:PySem.W.Frag}{h:Heap}{mg:Str→Option Value}
theorem aC5 (X:K.In h) (Y:h.Ns mainGlobals mg) {l:List Str}(c:freesB l K=true) (i:Nat) {x:Str}(e:l[i]? = some x:=by rfl):mg x=none:=
  PySem.W.mg_none_of X Y (He.eqO_ok (List.all_eq_true.mp c x (List.mem_of_getElem? e)))
theorem aLI (X:K.In h) (Y:h.Ns mainGlobals mg) {x:Str}(c:oneGlo K x=true):mg x=some (.ref (He.ga K x)):=PySem.W.mg_of X Y (He.eqO_ok c)
theorem aAl (X:K.In h) (Y:h.Ns mainGlobals mg) {l:List Str}(c:glosB l K=true) (i:Nat) {x:Str}(e:l[i]? = some x:=by rfl):mg x=some (.ref (He.ga K x)):=
  aLI X Y (List.all_eq_true.mp c x (List.mem_of_getElem? e))
theorem aP8 (X:K.In h) (Y:h.Ns mainGlobals mg) {x:Str}{i:Int}(c:intB x i K=true):∃ t,mg x=some (.int i t):=He.int_ok X Y (show (He.Fa.int x i).ok K=true from c)
theorem aP9 (X:K.In h) (Y:h.Ns mainGlobals mg) {x z:Str}(c:strB x z K=true):∃ t,mg x=some (.str z t):=He.str_ok X Y (show (He.Fa.str x z).ok K=true from c)
theorem aT1 {x:Str}{vs:List V}(h:tupX x vs K=true):KtT K (He.ga K x) vs:=by
  unfold tupX at h
  cases q:K.lookup (He.ga K x) with
  | none=>
    rw [q] at h
    cases h
  | some o=>
    obtain ⟨oc,od,dt,osl⟩:=o
    rw [q] at h
    cases oc with
    | type c=>
      cases dt with
      | seq its n=>
        obtain ⟨h1,h2⟩:=He.ba (show (decide (c="tuple") && (decide (its.size≤sizeLine) && He.relAll vs its.toList))=true from h)
        obtain ⟨h3,h4⟩:=He.ba h2
        exact ⟨_,its,n,q,congrArg Value.type (of_decide_eq_true h1),rfl,of_decide_eq_true h3,He.relAll_ok h4⟩
      | _=>cases h
    | _=>cases dt<;>cases h
theorem aT2 {x:Str}{bm:List Value}{nw:String}(h:xcoB x bm nw K=true):XcO K (He.ga K x) bm nw:=by
  obtain ⟨c1,c⟩:=He.ba h
  obtain ⟨c2,c⟩:=He.ba c
  obtain ⟨c3,c4⟩:=He.ba c
  exact ⟨c1,c2,of_decide_eq_true c3,of_decide_eq_true c4⟩
theorem aT3 {C:Addr}(h:exqB K C=true):ExcC K C:=by
  obtain ⟨c1,c⟩:=He.ba h
  obtain ⟨c2,c⟩:=He.ba c
  obtain ⟨c3,c⟩:=He.ba c
  obtain ⟨c4,c⟩:=He.ba c
  obtain ⟨c5,c⟩:=He.ba c
  obtain ⟨c6,c⟩:=He.ba c
  obtain ⟨c7,c8⟩:=He.ba c
  exact ⟨He.eqO_ok c1,He.eqO_ok c2,of_decide_eq_true c3,c4,He.eqO_ok c5,He.eqO_ok c6,of_decide_eq_true c7,of_decide_eq_true c8⟩
def kitO (K:PySem.W.Frag) (D:Value) (p:Nat×Bool):Bool:=decide (PySem.W.kitOne K (.ref (He.ga K (cname p.1))) D=some p.2)
def kitB (D:PySem.W.Frag→Value) (l:List (Nat×Bool)):Fx:=fun K=>l.all fun p=>kitO K (D K) p
theorem aVG {D A:Addr}{p:Addr→Prop}{x:Str}(g:mg x=some (.ref A)) (h:p A) (e:mg x=some (.ref D)):p D:=by
  rw [g] at e
  cases e
  exact h
end
end G
namespace G
open PySem L2 PySem.Spec
end G
namespace G
open PySem L2 PySem.Spec
section
variable {X:Cx}{W:WX}{a b c e o:Expr}{es:List Expr}{ma mb mc me:EM}{ta tb:TM}{pos:Pos}{x:Str}{p:Pos}{j k:Nat}{ps ks:List Str}{f:FM}{st:Stmt}
def eStk:EM:=fun _ _ => .stuck
theorem aVH:RE X W e eStk:=⟨fun _ _ _ _ _ _ ⟨_,_,_,_,_,P⟩=>False.elim P⟩
end
section
variable {K:PySem.W.Frag}{mg:Str→Option Value}{w:Wo}
def putD (f:Nat) (d:D):List (Nat×D)→List (Nat×D)
  | []=>[(f,d)]
  | (g,x)::r=>if g=f then (g,d)::r else (g,x)::putD f d r
theorem RepF.put {f:Nat}{d:D}{v:V}(hf:f<48) (q:RepD K mg w d v) {fs:List (Nat×D)}{gs:List (Str×V)}:RepF K mg w fs gs→RepF K mg w (putD f d fs) (putF (fname f) v gs)
  | .nil => .cons q .nil
  | @RepF.cons _ _ _ g d' v' l vs r t=>by
    unfold putD putF
    by_cases e:g=f
    · subst e
      rw [if_pos rfl,if_pos rfl]
      exact .cons q t
    · rw [if_neg e,if_neg (aNz hf e)]
      exact .cons r (RepF.put hf q t)
def fldD (cs:List Nat) (f:Nat) (S:Store) (x:D):Option D:=match insD S x with
  | some (c,fs)=>if cs.contains c then fs.lookup f else none
  | none=>none
end
section
variable {X:Cx}{W:WX}{a b c e o:Expr}{es:List Expr}{ma mb mc me:EM}{ta tb:TM}{pos:Pos}{x:Str}{p:Pos}{j k:Nat}{ps ks:List Str}
def eFld (cs:List Nat) (f:Nat) (m:EM):EM:=fun e S=>(m e S).bind fun x S1=>lf (fldD cs f S1 x) S1
def stF (cs:List Nat) (f:Nat) (S:Store) (x y:D):Option Store:=match x with
  | .loc n=>match S[n]? with
    | some (.obj c fs)=>if cs.contains c && decide (fs.length<1000) then some (S.set n (.obj c (putD f y fs))) else none
    | _=>none
  | _=>none
def stR (o:Option Store) (e:En):SRes:=match o with
  | some S => .nxt e S
  | none => .stuck
def sFldM (cs:List Nat) (f:Nat) (o v:EM):SM:=fun e S=>sE (v e S) e fun y S1=>sE (o e S1) e fun x S2=>stR (stF cs f S2 x y) e
end
mutual
def D.lo (n:Nat):D→Bool
  | .non=>true
  | .bl _=>true
  | .int _=>true
  | .str _=>true
  | .tup l=>loL n l
  | .lst l=>loL n l
  | .scr l=>loL n l
  | .dic _ l=>loL n l
  | .loc m=>decide (m<n)
  | .exc _ fs=>loF n fs
  | .ins _ fs=>loF n fs
  | .fa _=>true
  | .pin _ d=>d.lo n
def loL (n:Nat):List D→Bool
  | []=>true
  | d::l=>d.lo n && loL n l
def loF (n:Nat):List (Nat×D)→Bool
  | []=>true
  | (_,d)::l=>d.lo n && loF n l
end
section
variable {K:PySem.W.Frag}{mg:Str→Option Value}{w:Wo}
theorem StP.cut {n:Nat}{a:Addr}{u:HO}(h:StP w a u):StP (w.cut n) a u:=⟨h.1,fun z=>h.2 (aPx z)⟩
theorem StO.cut {n:Nat}{a:Addr}{u:HO}(h:StO w a u):StO (w.cut n) a u:=⟨h.1,fun z=>h.2 (aPx z)⟩
mutual
theorem RepD.cut {n:Nat}{d:D}{v:V}:RepD K mg w d v→d.lo n=true→RepD K mg (w.cut n) d v
  | .non,_ => .non
  | .bl b,_ => .bl b
  | .int i,_ => .int i
  | .str x,_ => .str x
  | .tup h r,l => .tup (h.imp (fun h=>h.cut) id) (RepL.cutR r (by rw [D.lo] at l;exact l))
  | .lst h r,l => .lst h.cut (RepL.cutR r (by rw [D.lo] at l;exact l))
  | .scr h r,l => .scr (h.imp (fun h=>h.cut) id) (RepL.cutR r (by rw [D.lo] at l;exact l))
  | .dic h z r,l => .dic h.cut z (RepL.cutR r (by rw [D.lo] at l;exact l))
  | .loc h,l => .loc (by
      rw [D.lo] at l
      show (w.al.take n)[_]? = _
      rw [List.getElem?_take,if_pos (of_decide_eq_true l)];exact h)
  | .ins g h r,l => .ins g h.cut (RepF.cutR r (by rw [D.lo] at l;exact l))
  | .exc g h x r,l => .exc g h.cut (x.imp id fun ⟨z,y,q,s⟩=>⟨z,y,q,s.cut⟩) (RepF.cutR r (by rw [D.lo] at l;exact l))
  | .fa a,_ => .fa a
  | .pin h,l => .pin (RepD.cut h (by rw [D.lo] at l;exact l))
theorem RepL.cutR {n:Nat}{l:List D}{vs:List V}:RepL K mg w l vs→loL n l=true→RepL K mg (w.cut n) l vs
  | .nil,_ => .nil
  | .cons r t,h=>by
    rw [loL,Bool.and_eq_true] at h
    exact .cons (RepD.cut r h.1) (RepL.cutR t h.2)
theorem RepF.cutR {n:Nat}{l:List (Nat×D)}{vs:List (Str×V)}:RepF K mg w l vs→loF n l=true→RepF K mg (w.cut n) l vs
  | .nil,_ => .nil
  | .cons r t,h=>by
    rw [loF,Bool.and_eq_true] at h
    exact .cons (RepD.cut r h.1) (RepF.cutR t h.2)
end
mutual
theorem RepD.low {d:D}{v:V}:RepD K mg w d v→d.lo w.al.length=true
  | .non=>by rw [D.lo]
  | .bl b=>by rw [D.lo]
  | .int i=>by rw [D.lo]
  | .str x=>by rw [D.lo]
  | .tup h r=>by rw [D.lo];exact RepL.low r
  | .lst h r=>by rw [D.lo];exact RepL.low r
  | .scr h r=>by rw [D.lo];exact RepL.low r
  | .dic h z r=>by rw [D.lo];exact RepL.low r
  | .loc h=>by rw [D.lo];exact decide_eq_true (List.getElem?_eq_some_iff.mp h).1
  | .ins g h r=>by rw [D.lo];exact RepF.low r
  | .exc g h x r=>by rw [D.lo];exact RepF.low r
  | .fa a=>by rw [D.lo]
  | .pin h=>by rw [D.lo];exact RepD.low h
theorem RepL.low {l:List D}{vs:List V}:RepL K mg w l vs→loL w.al.length l=true
  | .nil=>by rw [loL]
  | .cons r t=>by rw [loL,Bool.and_eq_true];exact ⟨RepD.low r,RepL.low t⟩
theorem RepF.low {l:List (Nat×D)}{vs:List (Str×V)}:RepF K mg w l vs→loF w.al.length l=true
  | .nil=>by rw [loF]
  | .cons r t=>by rw [loF,Bool.and_eq_true];exact ⟨RepD.low r,RepF.low t⟩
end
def loK {κ:Type}(n:Nat):List (κ×D)→Bool
  | []=>true
  | (_,d)::l=>d.lo n && loK n l
theorem RepK.low {κ:Type}{l:List (κ×D)}{vs:List (κ×V)}:RepK κ K mg w l vs→loK w.al.length l=true
  | .nil=>rfl
  | .cons r t=>by rw [loK,Bool.and_eq_true];exact ⟨r.low,RepK.low t⟩
theorem RepK.cutR {κ:Type}{n:Nat}{l:List (κ×D)}{vs:List (κ×V)}:RepK κ K mg w l vs→loK n l=true→RepK κ K mg (w.cut n) l vs
  | .nil,_ => .nil
  | .cons r t,h=>by
    rw [loK,Bool.and_eq_true] at h
    exact .cons (r.cut h.1) (RepK.cutR t h.2)
theorem CellR.cut {w1:Wo}{n:Nat}{a a':Addr}{c:Cell}(h:CellR K mg w a c) (h0:CellR K mg w1 a' c) (hn:w1.al.length=n):CellR K mg (w.cut n) a c:=by
  subst hn
  cases c with
  | dead=>trivial
  | lst l=>obtain ⟨vs,p,r⟩:=h;obtain ⟨_,_,r0⟩:=h0;exact ⟨vs,p,r.cutR r0.low⟩
  | dk l=>obtain ⟨vs,p,r⟩:=h;obtain ⟨_,_,r0⟩:=h0;exact ⟨vs,p,r.cutR r0.low⟩
  | fk l=>obtain ⟨o,vs,p,r⟩:=h;obtain ⟨_,_,_,r0⟩:=h0;exact ⟨o,vs,p,r.cutR r0.low⟩
  | ts l=>obtain ⟨h1,h2,xs,h3,h4,h5⟩:=h;exact ⟨h1,h2,xs,h3,h4,fun x hx=>(h5 x hx).imp (fun q=>q.cut) id⟩
  | fs l=>obtain ⟨h1,h2,o,xs,h3,h4,h5⟩:=h;exact ⟨h1,h2,o,xs,h3,h4,fun x hx=>(h5 x hx).imp (fun q=>q.cut) id⟩
  | obj c l=>obtain ⟨C,dx,gs,g,p,r⟩:=h;obtain ⟨_,_,_,_,_,r0⟩:=h0;exact ⟨C,dx,gs,g,p,r.cutR r0.low⟩
  | tbl _ q=>
    obtain ⟨ea,ps,p,t,r⟩:=h
    refine ⟨ea,ps,p,t,fun pos cv hc => ?_⟩
    obtain ⟨c,o,e1,e2,e3⟩:=r pos cv hc
    exact ⟨c,o,e1,e2,fun z=>e3 (aPx z)⟩
theorem Rep.cut {w1:Wo}(R1:Rep K mg w1) (X:Ext w1 w) (R:Rep K mg w) (hs:w.st.take w1.st.length=w1.st):Rep K mg (w.cut w1.al.length):=by
  obtain ⟨t,e⟩:=X.al
  have el:w.al.take w1.al.length=w1.al:=by rw [e];simp
  have es:w.st.take w1.al.length=w1.st:=by rw [R1.len];exact hs
  refine ⟨?_,?_,fun a h => ?_,fun m a c g1 g2 => ?_,fun a h => ?_⟩
  · show (w.al.take _).length=(w.st.take _).length
    rw [el,es];exact R1.len
  · show (w.al.take _).Nodup
    rw [el];exact R1.nd
  · have h:a∈w.al.take w1.al.length:=h
    exact R.tr a (aN9 h)
  · have g1:(w.al.take w1.al.length)[m]? = some a:=g1
    have g2:(w.st.take w1.al.length)[m]? = some c:=g2
    have c0:=R1.cell m a c (by rw [← el];exact g1) (by rw [← es];exact g2)
    exact (R.cell m a c (aGG g1) (aGG g2)).cut c0 rfl
  · obtain ⟨h1,h2⟩:=R.hid a h
    exact ⟨fun z=>h1 (aN9 z),h2⟩
end
end G
namespace G
open PySem L2 PySem.Spec
theorem RoomG.make {k:Nat}{A:Around}(h:RoomG (k+1) A) (C:Addr) (us:List Value) (kw:List (Str×Value)):RoomG k (A.under (.builtin "type.__call__" ⟨.ref C::us,kw⟩)):=⟨h.r.make C us kw,by
  have:=h.gd
  first
    | exact this
    | simpa [Around.under] using this⟩
section
variable {X:Cx}{W:WX}{a b c e o:Expr}{es:List Expr}{ma mb mc me:EM}{ta tb:TM}{pos:Pos}{x:Str}{p:Pos}{j k cn n:Nat}{ps ks:List Str}{f:FM}{gD:List D→List D→List D}
def eMk (mk':List D→List D→Store→Res D) (n l:Nat) (m mk:AM):EM:=fun e S=>(m e S).bind fun ds S1=>(mk e S1).bind fun zs S2=>if ds.length=n∧zs.length=l then mk' ds zs S2 else .stuck
def eMk0 (mk':List D→List D→Store→Res D):EM:=fun _ S=>mk' [] [] S
end
end G
namespace G
open PySem L2 PySem.Spec RZ
section
variable {X:Cx}{W:WX}{a b c e o:Expr}{es:List Expr}{ma mb mc me:EM}{ta tb:TM}{pos:Pos}{x:Str}{p:Pos}{j k:Nat}
variable {K:PySem.W.Frag}{mg:Str→Option Value}{w:Wo}
def zipD (l m:List D):List D:=List.zipWith (fun x y => .tup [x,y]) l m
def zipR (ds:List D) (S:Store):Res (List D):=match ds with
  | [.tup l, .tup m] => .ok (zipD l m) S
  | [.lst l, .lst m] => .ok (zipD l m) S
  | _ => .stuck
def iZip (m:AM):AM:=fun e S=>(m e S).bind zipR
def signs (x:Str):List D:=x.cps.toList.map fun c => .str ⟨#[c]⟩
def strR (d:D) (S:Store):Res (List D):=match d with
  | .str x => .ok (signs x) S
  | _ => .stuck
def iStrM (m:EM):AM:=fun e S=>(m e S).bind strR
theorem aT4 (x:Str):ItsR X w (signs x) (Its x):=by
  intro w2 x2 _ R2
  have hl:(signs x).length=x.cps.size:=by unfold signs;simp
  refine ⟨fun i hi=>⟨?_,fun v H' y => ?_⟩,?_⟩
  · rw [hl] at hi;exact hi
  · obtain ⟨rfl,c,hc,rfl⟩:=y
    refine ⟨w2, .str ⟨#[c]⟩,rfl,Ext.refl w2,R2,rfl,rfl,?_, .str _⟩
    unfold signs
    rw [List.getElem?_map,Array.getElem?_toList,hc];rfl
  · show x.cps.size≤(signs x).length
    rw [hl];exact Nat.le_refl _
theorem aNI {tg:Expr}(ha:RE X W a ma):RI X W tg a (iStrM ma):=by
  refine ⟨fun pins s σ H R' I h=>(pi_str ha).run pins s σ H R' I ?_⟩
  obtain ⟨w,en,rfl,R,E,P⟩:=h
  refine ⟨w,en,rfl,R,E,(Post.bind P).imp ?_⟩
  rintro v H1 ⟨w1,d,rfl,X1,R1,rx,P1⟩
  unfold strR at P1
  split at P1
  · cases rx;exact ⟨_,rfl,Post.now P1 R1 (aT4 _)⟩
  · exact False.elim P1
def appR (x:D) (xs:List D) (S:Store):Res D:=match x,xs with
  | .loc n,[y]=>match S[n]? with
    | some (.lst l)=>if l.length<sizeLine then .ok .non (S.set n (.lst (l++[y]))) else .stuck
    | _ => .stuck
  | _,_ => .stuck
def isLst (S:Store) (x:D):Bool:=(seqD S x).isSome
def eApp (a:EM) (m:AM):EM:=fun e S=>(a e S).bind fun x S1=>if isLst S1 x then (m e S1).bind fun xs S2=>appR x xs S2 else .stuck
theorem aSN {m:AM}{apos:Pos}(ho:RE X W o ma) (ha:RA X W [e] m) (hbase:attributeBase o "append" X.env (eval o X.env)=eval o X.env:=by rfl)
    (hfew:((backTo pos (starEach [e] X.env)).all (fun x => !x.1) && (backToKw pos (keywordEach [] X.env)).all (fun x=>x.1.isSome) && decide ([e].length+([]:List Keyword).length+(if ([]:List Keyword).isEmpty then 0 else 1)<30))=true:=by rfl)
    (hline:(apos.endLine == pos.line)=true:=by rfl) (hs:starEach [e] X.env=(false,eval e X.env)::starEach [] X.env:=by rfl) (hpl:(backTo pos (starEach [] X.env)).any (·.1)=false:=by rfl) :
    RE X W (.Call (.Attribute o "append" apos) [e] [] pos) (eApp ma m):=by
  refine aAV (pe_bm PySem.F.plainAttrs_list PySem.F.slot_list_append PySem.F.type_list_append mt_append ho ha hbase hfew hline hs hpl) ?_
  rintro s H Q ⟨w,en,rfl,R,E,P⟩
  refine ⟨w,en,rfl,R,E,(Post.bind P).imp ?_⟩
  rintro v H1 ⟨w1,d,rfl,X1,R1,rd,P1⟩
  dsimp only at P1
  split at P1
  · rename_i hq
    unfold isLst at hq
    cases q:seqD w1.st d with
    | none=>rw [q] at hq;cases hq
    | some l=>
      obtain ⟨ad,vs,rfl,hs,hl⟩:=rd.seq R1 q
      refine ⟨.inl ⟨rfl,_,hs⟩,w1,en,rfl,R1,E.ext X1.toEx0,(Post.bind P1).imp ?_⟩
      rintro us H2 ⟨w2,xs,rfl,X2,R2,rl,P2⟩
      have rd2:=rd.ext X2.toEx0
      dsimp only at P2
      unfold appR at P2
      split at P2
      · rename_i n y
        split at P2
        · rename_i l2 hl2
          split at P2
          · rename_i hz
            obtain ⟨u,rfl,ru⟩:=rl.one_inv
            cases rd2 with
            | loc hn=>
              obtain ⟨vs2,p2,r2⟩:=R2.cell _ _ _ hn hl2
              have Xw:Ext w2 (w2.wr n ad (.lst (vs2++[u])) (.lst (l2++[y]))):=aJS R2 hn hl2 (by intro z;cases z)
              refine ⟨ad,vs2,u,rfl,rfl,p2,by rw [← r2.length];exact hz,?_⟩
              exact P2 (w2.wr n ad (.lst (vs2++[u])) (.lst (l2++[y]))) .non Xw (R2.wr hn hl2 (by intro z;cases z) ⟨_,upd_same,(r2.append (.cons ru .nil)).ext Xw.toEx0⟩) rfl .non
          · exact False.elim P2
        · exact False.elim P2
      · exact False.elim P2
  · exact False.elim P1
def rsv (S:Store):D→D
  | .loc n=>match S[n]? with
    | some (.lst l) => .lst l
    | _ => .loc n
  | d=>d
def lstOf (S:Store) (d:D):Option (List D):=match rsv S d with
  | .lst l=>some l
  | _=>none
theorem RepD.lstV {d:D}{v:V}{l:List D}(R:Rep K mg w) (h:RepD K mg w d v) (e:rsv w.st d = .lst l):∃ a vs,v = .ref a∧w.hp a=some (.lst vs)∧RepL K mg w l vs:=by
  cases h with
  | lst s r=>cases e;exact ⟨_,_,rfl,s.1,r⟩
  | @loc n a hn=>
    replace e:(match w.st[n]? with
      | some (.lst l) => .lst l
      | _ => .loc n)=D.lst l:=e
    split at e
    · rename_i l' hl
      cases e
      obtain ⟨vs,p,r⟩:=R.cell _ _ _ hn hl
      exact ⟨_,vs,rfl,p,r⟩
    · cases e
  | _=>cases e
def dAddS (S:Store) (x y:D):Option D:=match rsv S x,rsv S y with
  | .lst l, .lst m=>if l.length+m.length≤sizeLine then some (.lst (l++m)) else none
  | _,_=>dAdd x y
theorem aBo:OpR X (binaryOp .Add) (OpMS X dAddS):=by
  intro pins s σ H x y v u Q I rx ry h
  obtain ⟨w,dx,dy,E,rfl,R,qx,qy,P⟩:=h
  unfold dAddS at P
  split at P
  · rename_i l m e1 e2
    split at P
    · rename_i hz
      obtain ⟨a1,vs,rfl,p1,r1⟩:=qx.lstV R e1
      obtain ⟨a2,us,rfl,p2,r2⟩:=qy.lstV R e2
      refine op_cat pins s σ w.hp _ _ v u Q I rx ry ⟨_,_,_,_,rfl,rfl,p1,p2,by rw [← r1.length,← r2.length];exact hz,fun p hp => ?_⟩
      exact Post.put P R hp (.lst (aBO R hp) ((r1.append r2).ext (aBk R hp).toEx0))
    · exact False.elim P
  · exact aV8 pins s σ w.hp _ _ v u Q I rx ry ⟨w,dx,dy,E,rfl,R,qx,qy,P⟩
theorem aAA {op:Operator}{f:Store→D→D→Option D}(ho:OpR X (binaryOp op) (OpMS X f)) (ha:RE X W a ma) (hb:RE X W b mb):RE X W (.BinOp a op b pos) (eBinS f ma mb):=aAV (pe_op ho ha hb) aJW
def fDivmodW:Store→List D→Option D
  | _,[.int i, .int j]=>if 0<j∧j.natAbs.log2<9000 then some (.tup [.int (i / j), .int (i % j)]) else none
  | _,_=>none
theorem aKb:CallR X (.builtin "divmod") (fun xs H Q=>∃ i j,xs = [.int i, .int j]∧(0<j∧j.natAbs.log2<9000)∧∀ p,H p=none→Q (.ref p) (upd H p (.tup [.int (i / j), .int (i % j)]))):=by
  intro pins s σ H xs us Q I r h
  obtain ⟨i,j,rfl,⟨h1,h2⟩,q⟩:=h
  obtain ⟨u,w',rfl,⟨t,rfl⟩,⟨t',rfl⟩⟩:=vals2 r
  refine PyProof.Rows.divmod_int (by omega) ?_ (.inl (PyProof.noPylong_of_log2 h2))
  rw [Int.fdiv_eq_ediv_of_nonneg i (by omega),Int.fmod_eq_emod_of_nonneg i (by omega)]
  have hn:H s.heap.objs.size=none:=I.hok.fresh (Nat.le_refl _)
  refine ⟨.ref s.heap.objs.size,_,?_,rfl,q _ hn⟩
  refine I.laid (fun b o e=>Heap.get?_push_of_some _ e) (Nat.le_refl _) ⟨by simp only [List.length_cons,List.length_nil];rw [sizeLine_eq];decide,[.int (i / j) s.toks, .int (i % j) (s.toks+1)], .cons ⟨_,rfl⟩ (.cons ⟨_,rfl⟩ .nil),?_⟩
  exact ⟨_,Heap.get?_push_size s.heap rfl,rfl,0,rfl⟩
theorem aO1:CallR X (.builtin "divmod") (CaM X fDivmodW):=by
  intro pins s σ H xs us Q I r h
  obtain ⟨w,ds,E,rfl,R,q,P⟩:=h
  unfold fDivmodW at P
  split at P
  · split at P
    · rename_i hj
      obtain ⟨v,v',rfl,rv,rv'⟩:=q.two_inv
      cases rv;cases rv'
      exact aKb pins s σ w.hp _ us Q I r ⟨_,_,rfl,hj,fun p hp=>Post.put P R hp (.tup (.inl (aBO R hp).o) (.cons (.int _) (.cons (.int _) .nil)))⟩
    · exact False.elim P
  · exact False.elim P
def inS (i z:Str):Bool:=match i.cps.toList with
  | [c]=>decide (c∈z.cps.toList)
  | _ => !(Builtin.Str.occurrences z i 0 z.length 1).isEmpty
theorem aRO {i:Str}{c:Nat}(h:i.cps.toList = [c]):i=⟨#[c]⟩:=by
  obtain ⟨cps⟩:=i
  congr 1
  apply Array.ext'
  exact h
def dIn (neg:Bool) (S:Store) (x y:D):Option D:=match y with
  | .str z=>match x with
    | .str i=>some (.bl (if neg then !inS i z else inS i z))
    | _=>none
  | _=>none
theorem aT5:OpR X (compareOp .In) (OpMS X (dIn false)):=by
  intro pins s σ H x y v u Q I rx ry h
  obtain ⟨w,dx,dy,E,rfl,R,qx,qy,P⟩:=h
  unfold dIn at P
  split at P
  · split at P
    · rename_i z i
      cases qx;cases qy
      rw [if_neg Bool.false_ne_true] at P
      unfold inS at P
      split at P
      · rename_i ch hc
        have e:=aRO hc
        subst e
        exact op_in_sign pins s σ w.hp _ _ v u Q I rx ry ⟨_,_,rfl,rfl,Post.now P R (.bl _)⟩
      · exact op_in_str pins s σ w.hp _ _ v u Q I rx ry ⟨_,_,rfl,rfl,Post.now P R (.bl _)⟩
    · exact False.elim P
  · exact False.elim P
theorem aJe {op:CmpOp}{f:Store→D→D→Option D}(ho:OpR X (compareOp op) (OpMS X f)) (ha:RE X W a ma) (hb:RE X W b mb) (hm:behindInMarks op b=false:=by rfl):RE X W (.Compare a [op] [b] pos) (eBinS f ma mb):=aAV (pe_cmpR ho ha hb hm) aJW
theorem aJf {op:CmpOp}{f:Store→D→D→Option D}(ho:OpR X (compareOp op) (OpMS X f)) (ha:RE X W a ma) (hb:RE X W b mb) (hm:behindInMarks op b=false:=by rfl):RT X W (.Compare a [op] [b] pos) (tB (eBinS f ma mb)):=by
  refine aIF (pt_cmpR ho ha hb hm) ?_
  rintro s H Q ⟨w,en,rfl,R,E,P⟩
  refine aJW s w.hp _ ⟨w,en,rfl,R,E,(Post.bind P).imp ?_⟩
  rintro v H1 ⟨w1,x,rfl,X1,R1,rx,P1⟩
  cases x with
  | bl b=>cases rx;exact ⟨b,rfl,Post.now P1 R1 rfl⟩
  | _=>exact False.elim P1
end
end G
namespace G
open PySem L2 PySem.Spec PyProof.Rows
def ownCs:List Nat:=[33,34,35,36,37,38,39,40,41,42,43,44,45,46]
def isO (cn:Nat) (S:Store) (d:D):Option Bool:=match tyD S d with
  | some _=>some false
  | none=>match insD S d with
    | some (c,_)=>if ownCs.contains c then some (c == cn) else none
    | none=>none
section
variable {X:Cx}{W:WX}{a b c e o:Expr}{es:List Expr}{ma mb mc me:EM}{ta tb:TM}{pos:Pos}{x:Str}{p:Pos}{j k:Nat}
def eIsO (cn:Nat) (m:EM):EM:=fun e S=>(m e S).bind fun x S1=>lf ((isO cn S1 x).map .bl) S1
end
end G
namespace G
open PySem L2 PySem.Spec PyProof.Rows
section
variable {prog:Program}{w:World}{A:Around}{E:Value→Shared→Prop}{s:Shared}
theorem aJg (hh:A.handled=none) {I t:Addr}(hne:t≠I) (items:Array Value) (i:Nat) (hi:i≤items.size) :
    WalksS prog w A I [I,t] [I] (fun a b=>a=b) (items.size - i) (fun j v=>items[i+j]? = some v) (fun j s=>s.heap.IsTupleIter I t (i+j)∧s.heap.IsTuple t items) where
  sub:=fun b hb=>by simp at hb;simp [hb]
  grefl:=fun _=>rfl
  gtrans:=fun _ _ _ h1 h2=>h1.trans h2
  frame:=fun j s h' tk st _ hk=>⟨st.1.at fun o e=>hk I (by simp) o e,st.2.at fun o e=>hk t (by simp) o e⟩
  item:=fun j s Q E hj st hQ=>by
    have hlt:i+j<items.size:=by omega
    refine wpAny_pyNext_tuple_item st.1 st.2 (x:=items[i+j]) (by simp [hlt]) fun h' hit' hs' => ?_
    exact hQ _ _ (by simp [hlt]) ⟨by rw [← Nat.add_assoc];exact hit',st.2.extBut hs'.extBut hne⟩ ⟨fun b o hb e=>hs'.extBut b o (fun h=>hb (by simp [h])) e,rfl,rfl,rfl,Nat.le_refl _⟩
  done:=fun s Q E st hQ=>by
    refine wpAny_pyNext_tuple_end hh st.1 st.2 (by simp;omega) fun h' he'=>hQ _ ⟨fun b o hb e=>he' b o (fun h=>hb (by simp [h])) e,rfl,rfl,rfl,Nat.le_refl _⟩
  self:=fun _ _ _ _ st hQ=>wpAny_pyIter_tupleiter st.1 hQ
theorem aJh (hh:A.handled=none) {I t:Addr}(hne:t≠I) (items:Array Value) (i:Nat) (hi:i≤items.size) :
    WalksS prog w A I [I,t] [I] (fun a b=>a=b) (items.size - i) (fun j v=>items[i+j]? = some v) (fun j s=>s.heap.IsListIter I t (i+j)∧s.heap.IsList t items) where
  sub:=fun b hb=>by simp at hb;simp [hb]
  grefl:=fun _=>rfl
  gtrans:=fun _ _ _ h1 h2=>h1.trans h2
  frame:=fun j s h' tk st _ hk=>⟨st.1.at fun o e=>hk I (by simp) o e,st.2.at fun o e=>hk t (by simp) o e⟩
  item:=fun j s Q E hj st hQ=>by
    have hlt:i+j<items.size:=by omega
    refine wpAny_pyNext_list_item st.1 st.2 (x:=items[i+j]) (by simp [hlt]) fun h' hit' hs' => ?_
    exact hQ _ _ (by simp [hlt]) ⟨by rw [← Nat.add_assoc];exact hit',st.2.extBut hs'.extBut hne⟩ ⟨fun b o hb e=>hs'.extBut b o (fun h=>hb (by simp [h])) e,rfl,rfl,rfl,Nat.le_refl _⟩
  done:=fun s Q E st hQ=>by
    refine wpAny_pyNext_list_end hh st.1 st.2 (by simp;omega) fun h' he'=>hQ _ ⟨fun b o hb e=>he' b o (fun h=>hb (by simp [h])) e,rfl,rfl,rfl,Nat.le_refl _⟩
  self:=fun _ _ _ _ st hQ=>wpAny_pyIter_listiter st.1 hQ
theorem aPA {P:Nat→Value→Prop}{acc:Array Value}{n:Nat}{xs:List Value}(h:ItemsOf P acc n) (hx:xs.length=n) (hp:∀ j v,P j v→xs[j]? = some v):acc.toList=xs:=by
  obtain ⟨h1,h2⟩:=h
  apply List.ext_getElem?
  intro j
  by_cases hj:j<acc.size
  · have e:acc[j]? = some acc[j]:=by simp [hj]
    rw [Array.getElem?_toList,e]
    exact (hp j _ (h2 j _ e)).symm
  · rw [List.getElem?_eq_none (by simpa using hj),List.getElem?_eq_none (by omega)]
theorem aRP {items:Array Value}{i j:Nat}{v:Value}(h:items[i+j]? = some v):(items.toList.drop i)[j]? = some v:=by
  rw [List.getElem?_drop,Array.getElem?_toList];exact h
def StarQ (s:Shared) (items:Array Value) (i:Nat) (Q:List Value→Shared→Prop):Prop:=∀ (h':Heap) (tk:Nat),(∀ b o,s.heap.get? b=some o→h'.get? b=some o) →
  Q (items.toList.take i++[.ref h'.objs.size]) { s with heap:=h'.push { cls:=.type "list",data:=.seq (items.toList.drop i).toArray },toks:=tk }
theorem aKc {it:Addr}{items:Array Value}{i:Nat}{Q:List Value→Shared→Prop}{s1:Shared}{St:Nat→Shared→Prop}{t:Addr}{T:String}(hTm:T="str_ascii_iterator"∨T="str_iterator"∨T="list_iterator"∨T="tuple_iterator")
    (W:WalksS prog w A.in1 it [it,t] [it] (fun a b=>a=b) (items.size - i) (fun j v=>items[i+j]? = some v) St) (hT:∀ i s,St i s→s.TypeIs (.ref it) T) (hst:St 0 s1) (hi:i≤items.size) (hz:items.size≤sizeLine) (hit:s.heap.objs.size=it) (hlt:it<s1.heap.objs.size) (ht:t<s1.heap.objs.size)
    (k1:∀ b o,s.heap.get? b=some o→s1.heap.get? b=some o) (e1:s1 = { s with heap:=s1.heap }) (hQ:StarQ s items i Q) :
    wpAny (model prog w) A (do
      let rest ← holding (items.toList.take i) (collect (.ref it))
      let after:=i+1 - 1 - i
      if rest.length<after then
        rule "unpack.star.too-few"
        raiseError "ValueError" s!"not enough values to unpack (expected at least {i + 1 - 1}, got {i + rest.length})"
      let mid:=rest.length - after
      return items.toList.take i++[← newList (rest.take mid)]++rest.drop mid) Q E s1:=by
  refine wpAny_bind (wpAny_holding (wpAny_collect_iter hTm W hT hst (fun b hb => ?_) (by simp) (fun s2 acc hm ha => ?_) (by omega)))
  · simp at hb
    rcases hb with rfl | rfl
    · exact hlt
    · exact ht
  · have e:acc.toList=items.toList.drop i:=aPA ha (by simp) fun j v=>aRP
    rw [e]
    dsimp only
    rw [if_neg (by omega)]
    have e2:(items.toList.drop i).length - (i+1 - 1 - i)=(items.toList.drop i).length:=by omega
    rw [e2,List.take_length,List.drop_length]
    have hs2:s2 = { s with heap:=s2.heap,toks:=s2.toks }:=by
      obtain ⟨_,g,d,o,_⟩:=hm
      obtain ⟨h2,g2,d2,t2,o2⟩:=s2
      rw [e1] at g d o
      dsimp only at g d o ⊢
      subst g d o
      rfl
    have kk:∀ b o,s.heap.get? b=some o→s2.heap.get? b=some o:=fun b o hb=>hm.heap b o (by
      simp only [List.mem_cons,List.not_mem_nil,or_false]
      intro z
      exact Nat.ne_of_lt (hit ▸ Heap.lt_size hb) z) (k1 b o hb)
    rw [hs2]
    unfold newList
    refine wpAny_bind (wpAny_newObj_type ?_ (by show (items.toList.drop i).toArray.size≤sizeLine;rw [List.size_toArray,List.length_drop];simp only [Array.length_toList];omega))
    rw [List.append_nil]
    exact wpAny_pure (hQ s2.heap s2.toks kk)
theorem aRQ {t:Addr}{items:Array Value}{i:Nat}{Q:List Value→Shared→Prop}(hh:A.handled=none) (ht:s.heap.IsTuple t items) (hi:i≤items.size) (hz:items.size≤sizeLine) (hQ:StarQ s items i Q):wpAny (model prog w) A (unpackItems (.ref t) (i+1) (some i)) Q E s:=by
  have hlt:t<s.heap.objs.size:=by obtain ⟨o,ho,_⟩:=ht;exact Heap.lt_size ho
  have hne:t≠s.heap.objs.size:=Nat.ne_of_lt hlt
  unfold unpackItems
  refine wpAny_bind ?_
  unfold notIterableAtAll
  refine wpAny_bind (wpAny_specialOf ht.typeIs F.slot_tuple_iter.lookup ?_)
  refine wpAny_pure ?_
  simp only [Bool.false_eq_true,if_false]
  refine wpAny_bind (wpAny_holding (wpAny_pyIter_tuple ht ?_))
  refine wpAny_bind (wpAny_holding (wpAny_draw_tuple hne i 0 _ _ ⟨_,Heap.get?_push_size _ rfl,rfl,rfl⟩ (ht.push _) (by omega) fun h1 hit1 hs1 => ?_))
  rw [List.drop_zero,if_neg (by simp;omega)]
  have ht1:h1.IsTuple t items:=(ht.push _).extBut hs1.extBut hne
  have hl1:s.heap.objs.size<h1.objs.size:=by
    rw [hs1.1]
    simp [Heap.push]
  refine aKc (s:=s) (t:=t) (T:="tuple_iterator") (St:=fun j s'=>s'.heap.IsTupleIter s.heap.objs.size t (i+j)∧s'.heap.IsTuple t items) (by simp) (aJg (A:=A.in1) hh hne items i hi) (fun j s hs => ?_) ⟨?_,ht1⟩ hi hz rfl hl1 (Nat.lt_trans hlt hl1) (fun b o hb => ?_) rfl hQ
  · obtain ⟨o,e,c,d⟩:=hs.1
    exact ⟨o,e,c⟩
  · simpa using hit1
  · exact hs1.extBut b o (Nat.ne_of_lt (Heap.lt_size hb)) (Heap.get?_push_of_some _ hb)
theorem aNJ {it t:Addr}{items:Array Value}(hne:t≠it):∀ (n i:Nat) (s:Shared) (Q:List Value→Shared→Prop),s.heap.IsListIter it t i→s.heap.IsList t items→i+n≤items.size →
    (∀ h',h'.IsListIter it t (i+n)→Heap.SameBut it s.heap h'→Q ((items.toList.drop i).take n) { s with heap:=h' })→wpAny (model prog w) A (draw (.ref it) n) Q E s
  | 0,i,s,Q,hit,_,_,hQ=>by
    show wpAny _ _ (pure []) Q E s
    exact wpAny_pure (by simpa using hQ s.heap hit (Heap.SameBut.refl ..))
  | n+1,i,s,Q,hit,ht,hle,hQ=>by
    have hlt:i<items.size:=by omega
    show wpAny _ _ (pyNext (.ref it) >>= _) Q E s
    refine wpAny_bind (wpAny_pyNext_list_item hit ht (x:=items[i]) (by simp [hlt]) fun h₁ hit₁ hs₁ => ?_)
    refine wpAny_bind (wpAny_holding (aNJ hne n (i+1) _ _ hit₁ (ht.extBut hs₁.extBut hne) (by omega) fun h₂ hit₂ hs₂=>wpAny_pure ?_))
    have hd:items.toList.drop i=items[i]::items.toList.drop (i+1):=by simp [List.drop_eq_getElem_cons,hlt]
    have:=hQ h₂ (by rw [show i+(n+1)=i+1+n by omega];exact hit₂) (hs₁.trans hs₂)
    rw [hd,List.take_succ_cons] at this
    exact this
theorem aRR {t:Addr}{items:Array Value}{i:Nat}{Q:List Value→Shared→Prop}(hh:A.handled=none) (ht:s.heap.IsList t items) (hi:i≤items.size) (hz:items.size≤sizeLine) (hQ:StarQ s items i Q):wpAny (model prog w) A (unpackItems (.ref t) (i+1) (some i)) Q E s:=by
  have hlt:t<s.heap.objs.size:=by obtain ⟨o,ho,_⟩:=ht;exact Heap.lt_size ho
  have hne:t≠s.heap.objs.size:=Nat.ne_of_lt hlt
  unfold unpackItems
  refine wpAny_bind ?_
  unfold notIterableAtAll
  refine wpAny_bind (wpAny_specialOf ht.typeIs F.slot_list_iter.lookup ?_)
  refine wpAny_pure ?_
  simp only [Bool.false_eq_true,if_false]
  refine wpAny_bind (wpAny_holding (wpAny_pyIter_list ht ?_))
  refine wpAny_bind (wpAny_holding (aNJ hne i 0 _ _ ⟨_,Heap.get?_push_size _ rfl,rfl,rfl⟩ (ht.push _) (by omega) fun h1 hit1 hs1 => ?_))
  rw [List.drop_zero,if_neg (by simp;omega)]
  have ht1:h1.IsList t items:=(ht.push _).extBut hs1.extBut hne
  have hl1:s.heap.objs.size<h1.objs.size:=by
    rw [hs1.1]
    simp [Heap.push]
  refine aKc (s:=s) (t:=t) (T:="list_iterator") (St:=fun j s'=>s'.heap.IsListIter s.heap.objs.size t (i+j)∧s'.heap.IsList t items) (by simp) (aJh (A:=A.in1) hh hne items i hi) (fun j s hs => ?_) ⟨?_,ht1⟩ hi hz rfl hl1 (Nat.lt_trans hlt hl1) (fun b o hb => ?_) rfl hQ
  · obtain ⟨o,e,c,d⟩:=hs.1
    exact ⟨o,e,c⟩
  · simpa using hit1
  · exact hs1.extBut b o (Nat.ne_of_lt (Heap.lt_size hb)) (Heap.get?_push_of_some _ hb)
end
section
variable {X:Cx}{W:WX}{pos:Pos}
theorem aRS {e:Expr}{es:List Expr}{t:TG}{u:TGs}{p:Pos}(h1:PG X e t) (h2:PGs X es u):PGs X (.Starred e p::es) (gCons t u):=by
  refine ⟨fun pins s σ H vs us Q I r h => ?_⟩
  obtain ⟨v,vr,e1,h⟩:=h
  subst e1
  cases r with
  | cons r rr=>
    have hs:(assignEach (.Starred e p::es) X.env).map (·.2)=assign e X.env::(assignEach es X.env).map (·.2):=by
      simp only [assignEach,List.map_cons]
    rw [hs]
    refine assignInOrder_cons (thn (h1.run pins s σ H _ _ _ I r h) fun _ s1 ⟨σ1,H1,I1,q1⟩ => ?_)
    exact h2.run pins s1 σ1 H1 _ _ Q I1 rr q1
def gStar (K:PySem.W.Frag) (i:Nat) (t:TGs):TG:=fun v σ H Q=>∃ a xs,v = .ref a∧(SqT K H a xs∨SqL K H a xs)∧i≤xs.length∧∀ p,H p=none→t (xs.take i++[.ref p]) σ (upd H p (.lst (xs.drop i))) Q
theorem aPB {vs:List V}{us:List Value}(h:Vals vs us):∀ n,Vals (vs.take n) (us.take n):=by
  induction h with
  | nil=>intro n;simp;exact .nil
  | cons r t ih=>
    intro n
    cases n with
    | zero=>exact .nil
    | succ n=>exact .cons r (ih n)
theorem aPC {vs:List V}{us:List Value}(h:Vals vs us):∀ n,Vals (vs.drop n) (us.drop n):=by
  induction h with
  | nil=>intro n;simp;exact .nil
  | cons r t ih=>
    intro n
    cases n with
    | zero=>exact .cons r t
    | succ n=>exact ih n
theorem aRT {vs ws:List V}{us zs:List Value}(h:Vals vs us) (h':Vals ws zs):Vals (vs++ws) (us++zs):=by
  induction h with
  | nil=>exact h'
  | cons r t ih=>exact .cons r ih
theorem aT6 {es:List Expr}{k:Nat}{t:TGs}{i:Nat}(hc:X.calm=true) (h:PGs X es t)
    (hn:(assignEach es X.env).length=i+1:=by rfl) (hst:(assignEach es X.env).findIdx? (·.1)=some i:=by rfl):PG X (.Tuple es k pos) (gStar X.K i t):=by
  refine ⟨fun pins s σ H v u Q I r hw => ?_⟩
  obtain ⟨a,xs,e1,hq,hl,hw⟩:=hw
  subst e1
  cases r
  rw [assign_Tuple]
  refine wpAny_bind (wpAny_standAt ?_)
  unfold unpack
  rw [hn,hst]
  have fin:∀ (its:List Value),Vals xs its→its.length≤sizeLine→StarQ s its.toArray i (fun ws s'=>wpAny (model X.prog X.w) X.A (assignInOrder ((assignEach es X.env).map (·.2)) ws) (fun _ s'=>∃ σ' H',L2.Inv X pins σ' H' s'∧Q σ' H') X.xe s'):=by
    intro its rv hz h' tk kk
    have I1:L2.Inv X pins σ H { s with heap:=h',toks:=tk }:=I.kept kk
    have hnew:H h'.objs.size=none:=I1.hok.fresh (Nat.le_refl _)
    have rd:=aPC rv i
    have I2:L2.Inv X pins σ (upd H h'.objs.size (.lst (xs.drop i))) { s with heap:=h'.push { cls:=.type "list",data:=.seq (its.drop i).toArray },toks:=tk }:=
      I1.laid (t':=tk) (fun b o e=>Heap.get?_push_of_some _ e) (Nat.le_refl _) ⟨by rw [List.length_drop,rv.length];omega,its.drop i,0,rd,Heap.get?_push_size _ rfl⟩
    exact h.run pins _ σ _ _ _ Q I2 (aRT (aPB rv i) (.cons (show L2.RelV (V.ref h'.objs.size) (Value.ref h'.objs.size) from rfl) .nil)) (hw _ hnew)
  rcases hq with hq | hq
  · obtain ⟨its,rv,ht,hz⟩:=I.tuple hq
    exact wpAny_bind (wpAny_holding (aRQ (I.ok.hd hc) (show s.heap.IsTuple a its.toArray from ht) (by simpa [← rv.length] using hl) (by simpa [← rv.length] using hz) (fin its rv (by simpa [← rv.length] using hz))))
  · obtain ⟨its,rv,ht,hz⟩:=I.list hq
    exact wpAny_bind (wpAny_holding (aRR (I.ok.hd hc) ht.isList (by simpa [← rv.length] using hl) (by simpa [← rv.length] using hz) (fin its rv (by simpa [← rv.length] using hz))))
def starR (i:Nat) (r:GMs) (l:List D) (e:En) (S:Store):Res En:=if i≤l.length then r (l.take i++[.lst (l.drop i)]) e S else .stuck
def gStr (i:Nat) (r:GMs):GM:=fun d e S=>match d with
  | .tup l=>starR i r l e S
  | .lst l=>starR i r l e S
  | .scr l=>starR i r l e S
  | .loc n=>match S[n]? with
    | some (.lst l)=>starR i r l e S
    | _ => .stuck
  | _ => .stuck
theorem aGH {tg:Expr}{ts:List Expr}{g:GM}{r:GMs}{p:Pos}(h1:RG X W tg g) (h2:RGs X W ts r):RGs X W (.Starred tg p::ts) (gsCons' g r):=by
  refine aLH (aRS h1 h2) ?_
  rintro v s H Q ⟨w,en,ds,rfl,R,E,rd,P⟩
  cases rd with
  | nil=>exact False.elim P
  | cons r1 r2=>
    refine ⟨_,_,rfl,w,en,_,rfl,R,E,r1,Post.noX (E:=fun cls dd H'=>W cls dd s H') ((Post.bind P).imp ?_)⟩
    rintro s1 H1 ⟨w1,e1,rfl,X1,R1,E1,P1⟩
    exact ⟨w1,e1,_,rfl,R1,E1,r2.ext X1.toEx0,Post.noX P1⟩
theorem aFJ {w:Wo}{l:List D}{vs:List V}{en:En}{s:L2.St}{i:Nat}{r:GMs}{Q:L2.St→Hp→Prop}(R:Rep X.K X.mg w) (E:RepE X.K X.mg w en s) (rl:RepL X.K X.mg w l vs) (P:Post (RepE X.K X.mg) X.K X.mg w (starR i r l en w.st) Q (fun cls dd H'=>W cls dd s H')) :
    i≤vs.length∧∀ p,w.hp p=none→tGts X W r (vs.take i++[.ref p]) s (upd w.hp p (.lst (vs.drop i))) Q:=by
  unfold starR at P
  split at P
  · rename_i hi
    refine ⟨by rw [← rl.length];exact hi,fun p hp => ?_⟩
    have xp:=aBk (o:=.lst (vs.drop i)) R hp
    exact ⟨w.put p (.lst (vs.drop i)),en,l.take i++[.lst (l.drop i)],rfl,R.put hp,E.ext xp.toEx0,((rl.take i).ext xp.toEx0).append (.cons (.lst (aBO R hp) ((rl.drop i).ext xp.toEx0)) .nil),P.ext xp⟩
  · exact False.elim P
theorem aJi {ts:List Expr}{k i:Nat}{r:GMs}(hc:X.calm=true) (h:RGs X W ts r) (hn:(assignEach ts X.env).length=i+1:=by rfl) (hst:(assignEach ts X.env).findIdx? (·.1)=some i:=by rfl):RG X W (.Tuple ts k pos) (gStr i r):=by
  refine aJZ (aT6 hc h hn hst) ?_
  rintro v s H Q ⟨w,en,d,rfl,R,E,rd,P⟩
  unfold gStr at P
  split at P
  · cases rd with
    | tup st rl=>
      obtain ⟨h1,h2⟩:=aFJ R E rl P
      exact ⟨_,_,rfl, .inl st.sq,h1,h2⟩
  · cases rd with
    | lst st rl=>
      obtain ⟨h1,h2⟩:=aFJ R E rl P
      exact ⟨_,_,rfl, .inr (SqL.of st.1),h1,h2⟩
  · cases rd with
    | scr st rl=>
      obtain ⟨h1,h2⟩:=aFJ R E rl P
      exact ⟨_,_,rfl, .inr st.sq,h1,h2⟩
  · split at P
    · rename_i n l hl
      cases rd with
      | loc hn=>
        obtain ⟨vs,p,rl⟩:=R.cell _ _ _ hn hl
        obtain ⟨h1,h2⟩:=aFJ R E rl P
        exact ⟨_,_,rfl, .inr (SqL.of p),h1,h2⟩
    · exact False.elim P
  · exact False.elim P
end
end G
namespace G
open PySem L2 PySem.Spec
section
variable {X:Cx}{W:WX}{a b c e o:Expr}{es:List Expr}{ma mb mc me:EM}{ta tb:TM}{pos apos:Pos}{x:Str}{p:Pos}{j k cn n:Nat}{ps ks:List Str}{f:FM}{gD:List D→List D→List D}
def eMeth (cn:Nat) (f:FM) (gD:List D→List D→List D) (n l:Nat) (mo:EM) (m mk:AM):EM:=fun e S=>(mo e S).bind fun x S0=>if isCn cn S0 x=true then (m e S0).bind fun ds S1=>(mk e S1).bind fun zs S2=>if ds.length=n∧zs.length=l then f (gD (x::ds) zs) S2 else .stuck else .stuck
def eMethK (cn:Nat) (f:FM) (gD:List D→List D→List D) (l:Nat) (mo:EM) (mk:AM):EM:=fun e S=>(mo e S).bind fun x S0=>if isCn cn S0 x=true then (mk e S0).bind fun zs S2=>if zs.length=l then f (gD [x] zs) S2 else .stuck else .stuck
def eMeth0 (cn:Nat) (f:FM) (gD:List D→List D→List D) (mo:EM):EM:=fun e S=>(mo e S).bind fun x S0=>if isCn cn S0 x=true then f (gD [x] []) S0 else .stuck
end
end G
namespace G
open PySem L2 PySem.Spec PyProof.Rows
def keyD:D→Option Key
  | .int i=>some (.inl i)
  | .str x=>some (.inr x)
  | _=>none
def putKD (kvs:List (Key×D)) (k:Key) (v:D):List (Key×D):=
  if (kvs.any fun kv=>decide (kv.1=k))=true then kvs.map (fun kv=>if kv.1=k then (kv.1,v) else kv) else kvs++[(k,v)]
def dkD (S:Store):D→Option (Nat×List (Key×D))
  | .loc n=>match S[n]? with
    | some (.dk l)=>some (n,l)
    | _=>none
  | _=>none
section
variable {K:PySem.W.Frag}{mg:Str→Option Value}{w:Wo}
theorem RepD.key {d:D}{v:V}{k:Key}(h:RepD K mg w d v) (e:keyD d=some k):v=kV k:=by
  cases h with
  | int i=>cases e;rfl
  | str x=>cases e;rfl
  | _=>cases e
theorem RepK.klen {κ:Type}{kvs:List (κ×D)}{us:List (κ×V)}:RepK κ K mg w kvs us→kvs.length=us.length
  | .nil=>rfl
  | .cons _ t=>congrArg Nat.succ (RepK.klen t)
theorem RepK.any {k:Key}{kvs:List (Key×D)}{us:List (Key×V)}:RepK Key K mg w kvs us→(kvs.any fun kv=>decide (kv.1=k))=(us.any fun kv=>decide (kv.1=k))
  | .nil=>rfl
  | .cons _ t=>by rw [List.any_cons,List.any_cons,RepK.any t]
theorem RepK.app {κ:Type}{kvs ls:List (κ×D)}{us zs:List (κ×V)}:RepK κ K mg w kvs us→RepK κ K mg w ls zs→RepK κ K mg w (kvs++ls) (us++zs)
  | .nil,h=>h
  | .cons r t,h => .cons r (RepK.app t h)
theorem RepK.upd {k:Key}{d:D}{v:V}(q:RepD K mg w d v) {kvs:List (Key×D)}{us:List (Key×V)}:RepK Key K mg w kvs us→RepK Key K mg w (kvs.map fun kv=>if kv.1=k then (kv.1,d) else kv) (us.map fun kv=>if kv.1=k then (kv.1,v) else kv)
  | .nil => .nil
  | @RepK.cons _ _ _ _ f d' v' l vs r t=>by
    rw [List.map_cons,List.map_cons]
    by_cases e:f=k
    · rw [if_pos (by exact e),if_pos (by exact e)];exact .cons q (RepK.upd q t)
    · rw [if_neg (by exact e),if_neg (by exact e)];exact .cons r (RepK.upd q t)
theorem RepK.put {k:Key}{d:D}{v:V}(q:RepD K mg w d v) {kvs:List (Key×D)}{us:List (Key×V)}(h:RepK Key K mg w kvs us):RepK Key K mg w (putKD kvs k d) (putK us k v):=by
  unfold putKD putK
  rw [h.any]
  split
  · exact h.upd q
  · exact h.app (.cons q .nil)
theorem aLJ {S:Store}{x:D}{n:Nat}{kvs:List (Key×D)}(e:dkD S x=some (n,kvs)):x = .loc n∧S[n]? = some (.dk kvs):=by
  unfold dkD at e
  split at e
  · split at e
    · cases e;exact ⟨rfl,by assumption⟩
    · cases e
  · cases e
theorem RepD.dkV {d:D}{v:V}{n:Nat}{kvs:List (Key×D)}(R:Rep K mg w) (h:RepD K mg w d v) (e:dkD w.st d=some (n,kvs)):∃ a us,v = .ref a∧w.al[n]? = some a∧w.hp a=some (.dK us)∧RepK Key K mg w kvs us:=by
  obtain ⟨rfl,hl⟩:=aLJ e
  cases h with
  | @loc _ a hn=>
    obtain ⟨us,p,r⟩:=R.cell _ _ _ hn hl
    exact ⟨a,us,rfl,hn,p,r⟩
end
section
variable {X:Cx}{W:WX}{a b c e o f:Expr}{es:List Expr}{ma mb mc me:EM}{ta tb:TM}{pos apos cpos:Pos}
def eNewD:EM:=fun _ S => .ok (.loc S.length) (S++[.dk []])
def ixE (S:Store) (x y:D):Option D:=match dkD S x with
  | some (_,kvs)=>(keyD y).bind (valD kvs)
  | none=>ixD S x y
theorem aRU (hu:X.A.units+1<cLine):IxR X (fun x y H Q=>∃ a v,x = .ref a∧DGet H a y (some v)∧Q v H):=by
  intro value slice pins s σ H x y v u Q I rx ry h hs
  obtain ⟨a,z,rfl,g,q⟩:=h
  obtain rfl:v=Value.ref a:=rx
  have hT:=dict_typeIs I g
  unfold subscriptTail
  refine wpAny_bind ?_
  rw [getitemInPython_of_ne hT.not_modules]
  refine wpAny_bind (wpAny_specialOf hT PySem.F.slot_dict_getitem.lookup ?_)
  have fin:wpAny (model X.prog X.w) X.A (subscripted slice false (.ref a) u) (fun r s₃=>wpAny (model X.prog X.w) X.A (letTemporaryGo value (.ref a) r >>= fun _=>pure r) (EP X pins σ Q) X.xe s₃) X.xe s:=by
    rw [hs]
    exact wpAny_operating (d_getItem hu I g ry fun w' s3 I3 rw'=>wpAny_bind (wpAny_letTemporaryGo (wpAny_pure ⟨z,H,I3,rw',q⟩)))
  first
    | exact wpAny_pure (wpAny_bind fin)
    | exact wpAny_bind (wpAny_pure (wpAny_bind fin))
    | exact wpAny_bind fin
theorem aVI (hu:X.A.units+64<cLine):IxR X (OpMS X ixE):=by
  intro va sl pins s σ H x y v u Q I rx ry h hs
  obtain ⟨w,dx,dy,E,rfl,R,qx,qy,P⟩:=h
  unfold ixE at P
  split at P
  · rename_i n kvs hd
    obtain ⟨a,us,rfl,hn,hp,rk⟩:=qx.dkV R hd
    cases hk:keyD dy with
    | none=>rw [hk] at P;exact False.elim P
    | some k=>
      rw [hk] at P
      have ek:=qy.key hk
      subst ek
      replace P:Post (RepD X.K X.mg) X.K X.mg w (lf (valD kvs k) w.st) Q E:=P
      cases hv:valD kvs k with
      | none=>rw [hv] at P;exact False.elim P
      | some d=>
        rw [hv] at P
        obtain ⟨z,e1,rz⟩:=rk.val hv
        exact aRU (by omega) va sl pins s σ w.hp _ _ v u Q I rx ry ⟨a,z,rfl,e1 ▸ DGet.k hp,Post.now P R rz⟩ hs
  · exact aVA va sl pins s σ w.hp x y v u Q I rx ry ⟨w,dx,dy,E,rfl,R,qx,qy,P⟩ hs
theorem aVJ (hu:X.A.units+64<cLine) (ha:RE X W a ma) (hb:RE X W b mb) (hs:PlainIx b:=by intro _ _;rfl):RE X W (.Subscript a b pos) (eBinS ixE ma mb):=aAV (pe_ix (aVI hu) ha hb hs) aJW
def setE (S:Store) (o i d:D):Option Store:=match dkD S o with
  | some (n,kvs)=>match keyD i with
    | some k=>if kvs.length<sizeLine then some (S.set n (.dk (putKD kvs k d))) else none
    | none=>none
  | none=>setD S o i d
def gSbE (o i:EM):GM:=fun d e S=>(noX (o e S)).bind fun x S1=>(noX (i e S1)).bind fun y S2=>match setE S2 x y d with
  | some S3 => .ok e S3
  | none => .stuck
theorem aT7 (hu:X.A.units+1<cLine):PSet X (fun o i v H Q=>rSetL o i v H Q∨rSetD o i v H Q):=by
  intro pins s σ H o i v ov iv u Q I ro ri rv h
  rcases h with h | h
  · exact set_list pins s σ H o i v ov iv u Q I ro ri rv h
  · exact set_dict hu pins s σ H o i v ov iv u Q I ro ri rv h
theorem aT8 (hu:X.A.units+64<cLine) (ho:RE X W o ma) (hi:RE X W b mb)
    (ha:∀ v,assign (.Subscript o b pos) X.env v=(do
      let ov ← holding [v] (eval o X.env)
      let iv ← holding [v,ov] (eval b X.env)
      standAt pos
      holding [v,ov,iv] (setItem ov iv v)
      release [v,ov,iv] []):=by intro _;rfl):RG X W (.Subscript o b pos) (gSbE ma mb):=by
  refine aJZ (pg_sub ho hi (aT7 (by omega)) ha) ?_
  rintro v s H Q ⟨w,en,d,rfl,R,E,rd,P⟩
  refine ⟨w,en,rfl,R,E,Post.noX (E:=fun cls dd H'=>W cls dd s H') ((Post.bind P).imp ?_)⟩
  rintro ov H1 ⟨w1,x,rfl,X1,R1,rx,P1⟩
  refine ⟨w1,en,rfl,R1,E.ext X1.toEx0,Post.noX (E:=fun cls dd H'=>W cls dd s H') ((Post.bind P1).imp ?_)⟩
  rintro iv H2 ⟨w2,y,rfl,X2,R2,ry,P2⟩
  have rx':=rx.ext X2.toEx0
  have rd':=(rd.ext X1.toEx0).ext X2.toEx0
  dsimp only at P2
  cases q:setE w2.st x y d with
  | none=>rw [q] at P2;exact False.elim P2
  | some S3=>
    rw [q] at P2
    unfold setE at q
    split at q
    · rename_i m kvs hd
      split at q
      · rename_i k hk
        split at q
        · rename_i hz
          cases q
          obtain ⟨ad,us,rfl,hn,hp,rk⟩:=rx'.dkV R2 hd
          have hl:=(aLJ hd).2
          cases ry.key hk
          have Xw:Ext w2 (w2.wr m ad (.dK (putK us k v)) (.dk (putKD kvs k d))):=aJS R2 hn hl (by intro z;cases z)
          refine .inr ⟨ad,_,rfl, .inl ⟨us,k,hp,rfl,by rw [← rk.klen];exact hz,rfl⟩,?_⟩
          exact P2 (w2.wr m ad (.dK (putK us k v)) (.dk (putKD kvs k d))) s Xw (R2.wr hn hl (by intro z;cases z) ⟨_,upd_same,(rk.put rd').ext Xw.toEx0⟩) rfl (((E.ext X1.toEx0).ext X2.toEx0).ext Xw.toEx0)
        · cases q
      · cases q
    · refine .inl ?_
      unfold setD at q
      split at q
      · rename_i m k _
        cases ry
        cases rx' with
        | @loc _ ad hn=>
          split at q
          · rename_i l hl
            obtain ⟨j,e1,rfl⟩:=Option.map_eq_some_iff.mp q
            obtain ⟨vs,p,r⟩:=R2.cell _ _ _ hn hl
            have Xw:Ext w2 (w2.wr m ad (.lst (vs.set j v)) (.lst (l.set j d))):=aJS R2 hn hl (by intro z;cases z)
            refine ⟨_,vs,k,j,rfl,rfl,p,by rw [← r.length];exact e1,?_⟩
            exact P2 (w2.wr m ad (.lst (vs.set j v)) (.lst (l.set j d))) s Xw (R2.wr hn hl (by intro z;cases z) ⟨_,upd_same,(r.set rd' j).ext Xw.toEx0⟩) rfl (((E.ext X1.toEx0).ext X2.toEx0).ext Xw.toEx0)
          · cases q
      · cases q
def dgR (S:Store) (x y z:D):Res D:=match dkD S x,keyD y with
  | some (_,kvs),some k => .ok ((valD kvs k).getD z) S
  | _,_ => .stuck
def eDGet2 (mo my mx:EM):EM:=fun e S=>(mo e S).bind fun x S1=>if (dkD S1 x).isSome=true then (my e S1).bind fun y S2=>(mx e S2).bind fun z S3=>dgR S3 x y z else .stuck
def eDGet1 (mo my:EM):EM:=fun e S=>(mo e S).bind fun x S1=>if (dkD S1 x).isSome=true then (my e S1).bind fun y S2=>dgR S2 x y .non else .stuck
def dpR (S:Store) (x y:D) (z:Option D):Res D:=match dkD S x,keyD y with
  | some (n,kvs),some k=>match valD kvs k,z with
    | some d,_ => .ok d (S.set n (.dk (dropKD kvs k)))
    | none,some z => .ok z S
    | none,none => .stuck
  | _,_ => .stuck
def eDPop2 (mo my mx:EM):EM:=fun e S=>(mo e S).bind fun x S1=>if (dkD S1 x).isSome=true then (my e S1).bind fun y S2=>(mx e S2).bind fun z S3=>dpR S3 x y (some z) else .stuck
def eDPop1 (mo my:EM):EM:=fun e S=>(mo e S).bind fun x S1=>if (dkD S1 x).isSome=true then (my e S1).bind fun y S2=>dpR S2 x y none else .stuck
end
end G
namespace G
open PySem L2 PySem.Spec PyProof.Rows
def insI (i:Int):List Int→List Int
  | []=>[i]
  | j::l=>if i<j then i::j::l else if i=j then j::l else j::insI i l
def srtI:List Int→List Int
  | []=>[]
  | i::l=>insI i (srtI l)
def intL:List D→Option (List Int)
  | []=>some []
  | .int i::l=>(intL l).map (i :: ·)
  | _::_=>none
def lstD (S:Store):D→Option (List D)
  | .lst l=>some l
  | .scr l=>some l
  | .loc n=>match S[n]? with
    | some (.lst l)=>some l
    | _=>none
  | _=>none
section
variable {X:Cx}{W:WX}{a:Expr}{ma:EM}{pos pos2 p p2:Pos}
def ssD (S:Store) (x:D):Option D:=((lstD S x).bind intL).bind fun ns=>if ns.length<64 then some (.lst ((srtI ns).map .int)) else none
def eSortSet (m:EM):EM:=fun e S=>(m e S).bind fun x S1=>lf (ssD S1 x) S1
end
end G
namespace G
open PySem L2 PySem.Spec
abbrev CM:=En→Store→Res (List D×Option Nat)
def okC (p:List D×Option Nat) (S:Store):Prop:=match p.2 with
  | none=>True
  | some n=>S[n]? = some (.lst p.1)
open Classical in
noncomputable def fiC (ck:Store→Prop) (g:GM) (m:SM):List D→SM
  | []=>fun e S=>if ck S then .nxt e S else .stuck
  | d::ds=>fun e S=>if ck S then sE (g d e S) e fun e1 S1=>match m e1 S1 with
    | .nxt e2 S2=>fiC ck g m ds e2 S2
    | .cnt e2 S2=>fiC ck g m ds e2 S2
    | .brk e2 S2 => .nxt e2 S2
    | r=>r else .stuck
noncomputable def sForC (i:CM) (g:GM) (m:SM):SM:=fun e S=>sE (i e S) e fun p S1=>fiC (okC p) g m p.1 e S1
open Classical in
noncomputable def lcC (ck:Store→Prop) (g:Tg) (t:TM) (m:EM) (e:En):List D→List D→Store→Res (List D)
  | [],acc,S=>if ck S then .ok acc S else .stuck
  | d::ds,acc,S=>if ck S then match g.m d e with
    | some e1=>(noX (t e1 S)).bind fun b S2=>if b then (noX (m e1 S2)).bind fun y S3=>if acc.length<sizeLine then lcC ck g t m e ds (acc++[y]) S3 else .stuck else lcC ck g t m e ds acc S2
    | none => .stuck else .stuck
noncomputable def eLcC (i:CM) (g:Tg) (t:TM) (m:EM) (vs:List Nat):EM:=fun e S=>(i e S).bind fun p S1=>(lcC (okC p) g t m (wipeE e vs) p.1 [] S1).bind fun acc S2 => .ok (.lst acc) S2
noncomputable def eLcCN (i:CM) (g:Tg) (t:TM) (m:EM) (vs:List Nat):EM:=fun e S=>(i e S).bind fun p S1=>(lcC (okC p) g t m (wipeE e vs) p.1 [] S1).bind fun acc S2 => .ok (.loc S2.length) (S2++[.lst acc])
def iCel (m:EM):CM:=fun e S=>(m e S).bind fun d S1=>match d with
  | .tup l => .ok (l,none) S1
  | .lst l => .ok (l,none) S1
  | .scr l => .ok (l,none) S1
  | .loc n=>match S1[n]? with
    | some (.lst l) => .ok (l,some n) S1
    | _ => .stuck
  | _ => .stuck
section
variable {X:Cx}{W:WX}{a b c e o:Expr}{es:List Expr}{ma mb mc me:EM}{ta tb:TM}{pos:Pos}{m:SM}
def addN (S:Store) (x y:D):Res D:=match rsv S x,rsv S y with
  | .lst l, .lst m=>if l.length+m.length≤sizeLine then .ok (.loc S.length) (S++[.lst (l++m)]) else .stuck
  | _,_ => .stuck
def eAddN (a b:EM):EM:=fun e S=>(a e S).bind fun x S1=>(b e S1).bind fun y S2=>addN S2 x y
end
end G
namespace G
open PySem L2 PySem.Spec PyProof.Rows
section
variable {X:Cx}{W:WX}{a b e o:Expr}{es:List Expr}{ma mb mc me:EM}{pos apos:Pos}{x:Str}{p:Pos}{j k cn n:Nat}{ps ks:List Str}{f:FM}{gD:List D→List D→List D}
def fmtD:D→Option D
  | .str y=>if y.length≤sizeLine then some (.str y) else none
  | .int i=>if i.natAbs.log2<1920 then some (.str (toString i)) else none
  | _=>none
def eFmt (m:EM):EM:=fun e S=>(m e S).bind fun x S1=>lf (fmtD x) S1
theorem aSO (ha:RE X W a ma):RE X W (.FormattedValue a (-1) none pos) (eFmt ma):=by
  refine aAV (pe_fmt ha) ?_
  rintro s H Q ⟨w,en,rfl,R,E,P⟩
  refine ⟨w,en,rfl,R,E,(Post.bind P).imp ?_⟩
  rintro v H1 ⟨w1,x,rfl,X1,R1,rx,P1⟩
  dsimp only at P1
  unfold fmtD at P1
  split at P1
  · cases rx
    split at P1
    · rename_i hz
      exact .inl ⟨_,rfl,hz,Post.now P1 R1 (.str _)⟩
    · exact False.elim P1
  · cases rx
    split at P1
    · rename_i hz
      exact .inr ⟨_,rfl,hz,Post.now P1 R1 (.str _)⟩
    · exact False.elim P1
  · exact False.elim P1
def jsM:List EM→Str→EM
  | [],acc=>fun _ S => .ok (.str acc) S
  | m::ms,acc=>fun e S=>(m e S).bind fun x S1=>match x with
    | .str y=>if (acc++y).length≤sizeLine then jsM ms (acc++y) e S1 else .stuck
    | _ => .stuck
def eJs (ms:List EM):EM:=jsM ms Str.empty
inductive RJ (X:Cx) (W:WX):List Expr→List EM→Prop where
  | nil:RJ X W [] []
  | cons {e:Expr}{m:EM}{es:List Expr}{ms:List EM}:RE X W e m→RJ X W es ms→RJ X W (e::es) (m::ms)
theorem RJ.pj {es:List Expr}{ms:List EM}(h:RJ X W es ms):PJ X es (ms.map fun m=>tG (RepD X.K X.mg) X W m):=by
  induction h with
  | nil=>exact .nil
  | cons r _ ih=>exact .cons r ih
theorem t_js:∀ (ms:List EM) (acc:Str) (s:L2.St) (H:Hp) (Q:VK),tG (RepD X.K X.mg) X W (jsM ms acc) s H Q→tJs (ms.map fun m=>tG (RepD X.K X.mg) X W m) acc s H fun out H1=>Q (.str out) H1
  | [],acc,s,H,Q,h=>by
    obtain ⟨w,en,rfl,R,E,P⟩:=h
    exact Post.now P R (.str _)
  | m::ms,acc,s,H,Q,h=>by
    obtain ⟨w,en,rfl,R,E,P⟩:=h
    refine ⟨w,en,rfl,R,E,(Post.bind P).imp ?_⟩
    rintro v H1 ⟨w1,x,rfl,X1,R1,rx,P1⟩
    dsimp only at P1
    split at P1
    · cases rx
      split at P1
      · rename_i hz
        exact ⟨_,rfl,hz,t_js ms _ s w1.hp Q ⟨w1,en,rfl,R1,E.ext X1.toEx0,P1⟩⟩
      · exact False.elim P1
    · exact False.elim P1
theorem aXE {v1 v2:Expr}{rest:List Expr}{ms:List EM}(h:RJ X W (v1::v2::rest) ms):RE X W (.JoinedStr (v1::v2::rest) pos) (eJs ms):=
  aAV (pe_joined h.pj) fun s H Q q=>t_js ms Str.empty s H Q q
def fStr:Store→List D→Option D
  | _,[.int i]=>if i.natAbs.log2<1920 then some (.str (toString i)) else none
  | _,[.str a]=>some (.str a)
  | _,_=>none
theorem aHb:CallR X (.type "str") (CaM X fStr):=by
  intro pins s σ H xs us Q I r h
  obtain ⟨w,ds,E,rfl,R,q,P⟩:=h
  unfold fStr at P
  split at P
  · obtain ⟨v,rfl,rv⟩:=q.one_inv
    cases rv
    split at P
    · rename_i hz
      exact call_str_int pins s σ w.hp _ us Q I r ⟨_,rfl,hz,Post.now P R (.str _)⟩
    · exact False.elim P
  · obtain ⟨v,rfl,rv⟩:=q.one_inv
    cases rv
    exact SkE.call_str_str pins s σ w.hp _ us Q I r ⟨_,rfl,Post.now P R (.str _)⟩
  · exact False.elim P
theorem RoomG.in1 {k:Nat}{A:Around}(h:RoomG (k+1) A):RoomG k A.in1:=⟨h.r.in1,h.gd⟩
def strOf (r:Res D):Res D:=r.bind fun y S1=>match y with
  | .str t => .ok (.str t) S1
  | _ => .stuck
def eStrO (cn:Nat) (f:FM) (gD:List D→List D→List D) (m:EM):EM:=fun e S=>(aCons m aNil e S).bind fun ds S0=>match ds with
  | [x]=>if isCn cn S0 x=true then strOf (f (gD [x] []) S0) else .stuck
  | _ => .stuck
theorem aLK (l b:Addr) (items items2:Array Value) (n n2:Nat) (dd dd2:Option Addr) (sl sl2:Array (Option Value)) (hc0:items.isEmpty=true) :
    Meets (Builtin.«tuple.__add__» ⟨[.ref l, .ref b],[]⟩) (fun _ R s=>s.heap.get? l=some { cls:=.type "tuple",dict:=dd,data:=.seq items n,slots:=sl }∧s.heap.get? b=some { cls:=.type "tuple",dict:=dd2,data:=.seq items2 n2,slots:=sl2 }∧R (.ok (.ret (Value.ref b))) { s with heap:=s.heap,toks:=s.toks }):=
  .of_wp fun prog w A R s h=>by obtain ⟨hp,g,d,tk,os⟩:=s;obtain ⟨hl,hb,h⟩:=h;have f1:=AutoSeq1.idx_int;have f2:=AutoSeq1.sub_tuple_tuple;have f3:=AutoSeq1.sub_list_list;have f4:=AutoSeq1.sub_tuple_list;have f5:=AutoSeq1.sub_list_tuple;wp_walk using wpAny_loadPart' hl,wpAny_loadPart' hb;exact ⟨_,rfl,h⟩
theorem aRV:OpR X (binaryOp .Add) (fun x y H Q=>∃ a b ys,x = .ref a∧y = .ref b∧SqT X.K H a []∧SqT X.K H b ys∧Q (.ref b) H):=by
  intro pins s σ H x y v u Q I rx ry h
  obtain ⟨a,b,ys,rfl,rfl,ha,hb,q⟩:=h
  cases rx
  cases ry
  obtain ⟨its,r1,p1,_⟩:=I.tuple ha
  obtain ⟨its2,r2,p2,_⟩:=I.tuple hb
  cases r1
  obtain ⟨⟨cls,dd,data,sl⟩,ho,hc,n,hd⟩:=id p1
  obtain ⟨⟨cls2,dd2,data2,sl2⟩,ho2,hc2,n2,hd2⟩:=id p2
  simp only at hc hd hc2 hd2
  subst hc hd hc2 hd2
  exact concat_meets ⟨_,ho,rfl⟩ ⟨_,ho2,rfl⟩ noFill_tuple_add seq_tuple_add PySem.F.slot_tuple_add PySem.F.entry_tuple_add (PySem.F.args_tuple_add_2 _ _)
      (aLK a b _ _ n n2 dd dd2 sl sl2 (by simp)) ⟨ho,ho2,⟨.ref b,H,I,rfl,q⟩⟩
def dAddE (S:Store) (x y:D):Option D:=match x,y with
  | .tup [], .tup m=>some (.tup m)
  | _,_=>dAddS S x y
theorem aDR:OpR X (binaryOp .Add) (OpMS X dAddE):=by
  intro pins s σ H x y v u Q I rx ry h
  obtain ⟨w,dx,dy,E,rfl,R,qx,qy,P⟩:=h
  unfold dAddE at P
  split at P
  · cases qx with
    | tup s1 r1=>
      cases r1
      cases qy with
      | tup s2 r2=>exact aRV pins s σ w.hp _ _ v u Q I rx ry ⟨_,_,_,rfl,rfl,s1.sq,s2.sq,Post.now P R (.tup s2 r2)⟩
  · exact aBo pins s σ w.hp _ _ v u Q I rx ry ⟨w,dx,dy,E,rfl,R,qx,qy,P⟩
end
def tbR (rs:List Nat) (c:Nat):Nat→Option Bool:=fun n=>if rs.contains n=true then some (subC n c) else none
theorem aPD {rs:List Nat}{c cn:Nat}{q:Bool}(e:tbR rs c cn=some q):cn∈rs∧q=subC cn c:=by
  unfold tbR at e
  split at e
  · rename_i h
    exact ⟨by simpa using h,(Option.some.inj e).symm⟩
  · cases e
section
variable {K:PySem.W.Frag}{h:Heap}{mg:Str→Option Value}
theorem aT9 (X:K.In h) (Y:h.Ns mainGlobals mg) {ns:List Nat}{c:Nat}{y:Str}(c0:exsB ns K=true) (ck:exmB y (ns.map fun n=>(n,subC n c)) K=true) :
    ∀ (cn:Nat) (C:Addr) (q:Bool),tbR ns c cn=some q→mg (cname cn)=some (.ref C)→PySem.W.exmOne K (.ref C) (.ref (He.ga K y))=some q:=fun cn C q h1 h2=>by
  obtain ⟨hl,rfl⟩:=aPD h1
  obtain ⟨g1,g2⟩:=He.ba (List.all_eq_true.mp c0 cn hl)
  cases (aLI X Y g1).symm.trans h2
  have z:exmO K y (cn,subC cn c)=true:=List.all_eq_true.mp ck (cn,subC cn c) (List.mem_map.mpr ⟨cn,hl,rfl⟩)
  exact of_decide_eq_true z
end
end G
namespace G
open PySem L2 PySem.Spec
open Classical in
noncomputable def eCallV (i f nN:Nat) (cp:List (Option D)) (fk:FM) (m:AM):EM:=fun en S=>if en[i]? = some (some (.fa f))∧en.drop nN=cp then (m en S).bind fk else .stuck
structure Act (Z:Cx) (a:Str) (i f nN:Nat) (cp:List (Option D)) (fk:FM) (k:Nat):Prop where
  one:∀ {pn:List (Addr×Obj)}{xe:Value→Shared→Prop}{W:WX}{j:Nat},Cg (Z.tr pn xe) W j→k≤j→∀ {e:Expr}{m:AM}{p1 p2:Pos},RA (Z.tr pn xe) W [e] m→starEach [e] Z.env=(false,eval e Z.env)::starEach [] Z.env →
    RE (Z.tr pn xe) W (.Call (.Name a p1) [e] [] p2) (eCallV i f nN cp fk m)
  zero:∀ {pn:List (Addr×Obj)}{xe:Value→Shared→Prop}{W:WX}{j:Nat},Cg (Z.tr pn xe) W j→k≤j→∀ {p1 p2:Pos},RE (Z.tr pn xe) W (.Call (.Name a p1) [] [] p2) (eCallV i f nN cp fk aNil)
section
variable {P:Program}{w0:World}{K:PySem.W.Frag}{mg:Str→Option Value}{base:Heap}
theorem RepE.join {w:Wo}{e1 e2:En}{s1 s2:L2.St}(h1:RepE K mg w e1 s1) (h2:RepE K mg w e2 s2):RepE K mg w (e1++e2) (s1++s2):=by
  refine ⟨by rw [List.length_append,List.length_append,h1.len,h2.len],fun i d g => ?_⟩
  by_cases hi:i<e1.length
  · rw [List.getElem?_append_left hi] at g
    obtain ⟨v,q,r⟩:=h1.get i d g
    exact ⟨v,by rw [List.getElem?_append_left (by rw [← h1.len];exact hi)];exact q,r⟩
  · rw [List.getElem?_append_right (by omega)] at g
    obtain ⟨v,q,r⟩:=h2.get _ d g
    exact ⟨v,by rw [List.getElem?_append_right (by rw [← h1.len];omega),← h1.len];exact q,r⟩
end
end G
namespace G
open PySem L2 PySem.Spec
noncomputable def uniR {α:Type} [Inhabited α] (F:α→Res D):Res D:=by
  classical exact if ∀ a b,F a=F b then F default else .stuck
def oj (o:Option (Option D)):Option D:=match o with
  | some (some d)=>some d
  | _=>none
def cpOf (js:List Nat) (en:En) (vs:List V):List (Option D):=((js.zip vs).map fun q=>(oj en[q.1]?).map (D.pin q.2))++List.replicate (4 - js.length) none
section
variable {X:Cx}{W:WX}{a b c e l:Expr}{es:List Expr}{ma mb mc me:EM}{pos:Pos}{x:Str}{p:Pos}{j k:Nat}{ps ks:List Str}{f:FM}
noncomputable def eCallH (g:Nat→List (Option D)→FM→FM) (js:List Nat) (fkM:En→FM) (tb:Store→Bool) (n:Nat) (m:AM):EM:=fun en S=>(m en S).bind fun ds S1=>if tb S1=true∧ds.length=n then uniR (fun q:Nat × { vs:List V // vs.length=js.length }=>g q.1 (cpOf js en q.2.1) (fkM en) (ds++[.fa q.1]) S1) else .stuck
theorem Act.mono {Z:Cx}{a:Str}{i fv nN k k':Nat}{cp:List (Option D)}{fk:FM}(h:Act Z a i fv nN cp fk k) (l:k≤k'):Act Z a i fv nN cp fk k':=
  ⟨fun c hj=>h.one c (Nat.le_trans l hj),fun c hj=>h.zero c (Nat.le_trans l hj)⟩
end
end G
namespace G
open PySem L2 PySem.Spec PyProof.Rows
end G
namespace G
open PySem L2 PySem.Spec PyProof.Rows
section
variable {X:Cx}{pins:List (Addr×Obj)} {σ:L2.St}{H HZ:Hp}{s s1:Shared}
def lamF (js:List Nat) (np:Nat) (mb:EM):En→FM:=fun en ds S=>if ds.length=np then mb (ds.map some++js.map fun j=>oj en[j]?) S else .stuck
end
end G
namespace G
open PySem L2 PySem.Spec PyProof.Rows
end G
namespace G
open PySem L2 PySem.Spec PyProof.Rows
def st0 (ts:List Mk2):Store:=ts.map fun t=>Cell.tbl t.1 t.2
def TBs (K:PySem.W.Frag) (mg:Str→Option Value) (base:Heap) (ts:List Mk2):Prop:=∀ t∈ts,LamX.TabB base mg (He.cT K t.1).1 (He.cT K t.1).2
def spLawT (K:PySem.W.Frag) (ts:List Mk2):Sp:=fun vs H Q _=>∃ (a:Addr) (ns:List Int),vs = [.ref a]∧SqL K H a (ns.map V.int)∧ns.length≤63∧(∀ b∈al0 K ts,H b=some (.tbl #[])∧K.lookup b=none)∧∀ H',Q (.bl true) H'
section
variable {P:Program}{w0:World}{K:PySem.W.Frag}{mg:Str→Option Value}{base:Heap}
theorem aTA {k:Nat}{f:Addr}{fd:FuncData}{x:Str}{m:Nat→FM}{ts:List Mk2}(hnd:(al0 K ts).Nodup) (F:∀ N,FnG P w0 K mg base k f fd [x] (spM K mg 1 (m N)))
    (h:∀ ns:List Int,ns.length≤63→∃ N S,m N [.scr (ns.map .int)] (st0 ts) = .ok (.bl true) S):FnG P w0 K mg base k f fd [x] (spLawT K ts):=by
  refine ⟨fun vs H Q E ⟨a,ns,e,_⟩=>by rw [e];rfl,fun A outer s H args us vs Q E hr he hb hv hs => ?_⟩
  obtain ⟨a,ns,rfl,hq,hl,hT,hQ⟩:=hs
  obtain ⟨N,S,e⟩:=h ns hl
  have R0:Rep K mg ⟨al0 K ts,st0 ts,H,[]⟩:=by
    refine ⟨by unfold al0 st0;simp,hnd,fun b hb=>⟨_,(hT b hb).1⟩,fun n b c h1 h2 => ?_,(fun _ h=>by cases h)⟩
    have h1:(al0 K ts)[n]? = some b:=h1
    have h2:(st0 ts)[n]? = some c:=h2
    unfold al0 at h1
    unfold st0 at h2
    rw [List.getElem?_map] at h1 h2
    cases q:ts[n]? with
    | none=>rw [q] at h1;cases h1
    | some t=>
      rw [q] at h1 h2
      cases h1
      cases h2
      refine ⟨rfl,#[],(hT _ (List.mem_map.mpr ⟨t,List.mem_of_getElem? q,rfl⟩)).1,True.intro,fun pos cv hc => ?_⟩
      have z:codeAmong pos []=some cv:=hc
      simp [codeAmong] at z
  have hz:¬ Zl ⟨al0 K ts,st0 ts,H,[]⟩ a∨∃ o its n,K.lookup a=some o∧o.cls = .type "list"∧o.dict=none∧o.data = .seq its n∧its.size≤sizeLine∧Vals (ns.map V.int) its.toList:=by
    rcases hq with hq | hq
    · left
      rintro (⟨n,c,h1,_,_⟩ | z)
      · have hm:a∈al0 K ts:=List.mem_of_getElem? h1
        have z:=(hT a hm).1
        rcases hq with hq | ⟨o,hq⟩
        · rw [z] at hq;cases hq
        · rw [z] at hq;cases hq
      · cases z
    · obtain ⟨o,its,n,r⟩:=hq
      exact .inr ⟨o,its,n,r⟩
  refine (F N).run A outer s H args us _ Q E hr he hb hv ⟨rfl,⟨al0 K ts,st0 ts,H,[]⟩,[.scr (ns.map .int)],rfl,R0, .cons (.scr ?_ (aNH ns)) .nil,?_⟩
  · rcases hz with hz | hz
    · rcases hq with hq | hq
      · exact .inl ⟨hq,hz⟩
      · exact .inr hq
    · exact .inr hz
  · rw [e]
    intro w' v _ _ _ r
    cases r
    exact hQ _
end
section
variable {K:PySem.W.Frag}{mg:Str→Option Value}
theorem aPE {P:Program}{w:World}{mb:Str→Option Value}{k:Nat}{fa a:Addr}{fd:FuncData}{x:Str}{t:Shared}{us:List Value}{ns:List Int}{H:Hp}{ts:List Mk2}
    (KX:K.In t.heap) (hns:t.heap.Ns mainGlobals mg) (hb:t.heap.Ns builtinsNs mb) (hbb:∀ x:Str,x≠"__name__"→mb x=bootBuiltins x) (hlim:t.heap.NoLimit) (hg:t.gens = #[])
    (hbm:∃ (bm:Addr) (ob:Obj),mg "__builtins__"=some (.ref bm)∧bm≠builtinsNs∧t.heap.get? bm=some ob∧ob.cls = .type "module"∧ob.dict=some builtinsNs∧ob.data = .plain)
    (hhd:∀ q∈ts,PySem.W.codeHdIn K (He.cT K q.1).1 (He.cT K q.1).2=true) (hout:∀ b∈al0 K ts,K.lookup b=none) (hemp:∀ b∈al0 K ts,t.heap.get? b=some { cls:=.none,data:=.fields #[] })
    (ha:t.heap.get? a=some { cls:=.type "list",data:=.seq us.toArray }) (hi:IntsAre us ns) (h63:ns.length≤63) (hr:Room k callerA)
    (F:∀ base:Heap,K.In base→base.Ns mainGlobals mg→TBs K mg base ts→FnG P w K mg base k fa fd [x] (spLawT K ts)) (bind:∀ (s:Shared) (u:Value),BindsTo s fd ⟨[u],[]⟩ [(x,u)])
    (hH:∀ b u,H b=some u→(b=a∧K.lookup a=none∧u = .frz { cls:=.type "list",data:=.seq us.toArray } (.lst (ns.map V.int)))∨(b∈al0 K ts∧u = .tbl #[])) (hHt:∀ b∈al0 K ts,H b=some (.tbl #[])) (hS:SqL K H a (ns.map V.int)) :
    codeAny (model P w) callerA (.call (.ref fa) ⟨[.ref a],[]⟩) (fun r s'=>r = .ok (.ret (.bool true))∧OldK t.heap s'.heap∧s'.os=t.os∧AllBare s'.gens) t:=by
  have ok:HOk P w H t.heap:=by
    intro b u z
    rcases hH b u z with ⟨rfl,_,rfl⟩ | ⟨hm,rfl⟩
    · exact ⟨ha,by rw [List.length_map];exact Nat.le_trans h63 (by decide),us,_,vals_ints hi,ha⟩
    · exact hemp b hm
  have free:∀ {b:Addr}{o:Obj},t.heap.get? b=some o→(∀ its n,o.data ≠ .seq its n)→o.data ≠ .fields #[]→H b=none:=by
    intro b o e d1 d2
    cases q:H b with
    | none=>rfl
    | some u=>
      rcases hH b u q with ⟨rfl,_,_⟩ | ⟨hm,_⟩
      · rw [ha] at e
        cases e
        exact absurd rfl (d1 _ _)
      · rw [hemp b hm] at e
        cases e
        exact absurd rfl d2
  have keep:∀ {b:Addr}{m:Str→Option Value},t.heap.Ns b m→(hidT t.heap H).Ns b m:=by
    rintro b m ⟨o,es,ep,e,d,r⟩
    exact ⟨o,es,ep,hidT_get e (free e (fun its n z=>by rw [d] at z;cases z) fun z=>by rw [d] at z;cases z),d,r⟩
  have kin:K.In (hidT t.heap H):=by
    intro b o e
    refine hidT_get (KX b o e) ?_
    cases q:H b with
    | none=>rfl
    | some u=>
      rcases hH b u q with ⟨rfl,n,_⟩ | ⟨hm,_⟩
      · rw [n] at e;cases e
      · rw [hout b hm] at e;cases e
  have mem2:∀ q∈ts,(He.cT K q.1).2∈al0 K ts:=fun q hq=>List.mem_map.mpr ⟨q,hq,rfl⟩
  have tbs:TBs K mg (hidT t.heap H) ts:=by
    intro q hq
    have hP:=hemp _ (mem2 q hq)
    refine ⟨PySem.W.codeHd_of_K kin (hhd q hq),?_,fun z => ?_⟩
    · obtain ⟨bm,ob,b1,b2,b3,b4,b5,b6⟩:=hbm
      refine ⟨bm,ob,b1,b2,fun z => ?_,fun z => ?_,hidT_get b3 (free b3 (fun its n z=>by rw [b6] at z;cases z) fun z=>by rw [b6] at z;cases z),b4,b5,b6⟩
      · obtain ⟨o,es,ep,e,d,_⟩:=hns
        rw [z,e] at b3;cases b3
        rw [d] at b6;cases b6
      · rw [z,hP] at b3;cases b3;cases b6
    · obtain ⟨o,es,ep,e,d,_⟩:=hns
      rw [z,hP] at e;cases e;cases d
  obtain ⟨mc,l1,l2⟩:=hlim
  have md:Mod K mg (hidT t.heap H):=⟨kin,keep hns,⟨mb,keep hb,hbb⟩,⟨mc,keep l1,l2⟩⟩
  have env:Env0 P w K mg (hidT t.heap H) callerA [] t H:=⟨rfl,md,fun b o e=>of_hidT e,Nat.le_of_eq (hidT_size _ _),trivial,(fun b hb=>by cases hb),ok, .of_eq hg⟩
  refine codeAny_mono ((F _ kin (keep hns) tbs).run callerA [] t H ⟨[.ref a],[]⟩ [.ref a] [.ref a] (fun v _=>v = .bl true) (fun _ _ _=>False) ⟨hr,rfl⟩ env (bind t (.ref a)) (.cons rfl .nil) ⟨a,ns,rfl,hS,h63,fun b hm=>⟨hHt b hm,hout b hm⟩,fun _=>rfl⟩) ?_
  intro res s' z
  cases res with
  | error y=>
    obtain ⟨_,_,_,_,_,_,_,_,_,_,_,_,z⟩:=z
    exact False.elim z
  | ok fl=>
    cases fl with
    | ret u=>
      obtain ⟨v,H',hos,hbare,un,ok',rv,rfl⟩:=z
      cases rv
      have big:∀ b∈al0 K ts,∃ more:Array Value,s'.heap.get? b=some { cls:=.none,data:=.fields more }:=by
        intro b hm
        obtain ⟨more,q⟩:=un.tbls b #[] (hHt b hm)
        exact ⟨_,ok' b _ q⟩
      have kept:∀ b o,b∉al0 K ts→t.heap.get? b=some o→s'.heap.get? b=some o:=by
        intro b o hm e
        cases q:H b with
        | none=>exact un.keep b o e q (fun z=>nomatch z) (by simp)
        | some u=>
          rcases hH b u q with ⟨_,_,rfl⟩ | ⟨h,_⟩
          · have c1:=(ok b _ q).1
            have c2:=(ok' b _ (un.frzs b _ _ q)).1
            rw [e] at c1
            cases c1
            exact c2
          · exact absurd h hm
      refine ⟨rfl,⟨fun b o e => ?_,fun b o e => ?_⟩,hos,hbare⟩
      · by_cases hm:b∈al0 K ts
        · obtain ⟨q,hq,rfl⟩:=List.mem_map.mp hm
          obtain ⟨more,hmo⟩:=big _ hm
          rw [hemp _ hm] at e
          cases e
          exact .inr (.inl ⟨((PySem.W.codeHd_of_K KX (hhd q hq)).tab (hemp _ hm)).isCodeTable,rfl,#[],more,rfl,by rw [Array.empty_append];exact hmo⟩)
        · exact .inl (kept b o hm e)
      · by_cases hm:b∈al0 K ts
        · obtain ⟨more,hmo⟩:=big b hm
          exact ⟨_,hmo⟩
        · exact ⟨o,kept b o hm e⟩
    | _=>exact False.elim z
theorem aPF {P:Program}{w:World}{mb:Str→Option Value}{k:Nat}{fa a:Addr}{fd:FuncData}{x:Str}{t:Shared}{us:List Value}{ns:List Int}{ts:List Mk2}
    (KX:K.In t.heap) (hns:t.heap.Ns mainGlobals mg) (hb:t.heap.Ns builtinsNs mb) (hbb:∀ x:Str,x≠"__name__"→mb x=bootBuiltins x) (hlim:t.heap.NoLimit) (hg:t.gens = #[])
    (hbm:∃ (bm:Addr) (ob:Obj),mg "__builtins__"=some (.ref bm)∧bm≠builtinsNs∧t.heap.get? bm=some ob∧ob.cls = .type "module"∧ob.dict=some builtinsNs∧ob.data = .plain)
    (hhd:∀ q∈ts,PySem.W.codeHdIn K (He.cT K q.1).1 (He.cT K q.1).2=true) (hout:∀ b∈al0 K ts,K.lookup b=none) (hemp:∀ b∈al0 K ts,t.heap.get? b=some { cls:=.none,data:=.fields #[] })
    (ha:t.heap.get? a=some { cls:=.type "list",data:=.seq us.toArray }) (hi:IntsAre us ns) (h63:ns.length≤63) (hr:Room k callerA)
    (F:∀ base:Heap,K.In base→base.Ns mainGlobals mg→TBs K mg base ts→FnG P w K mg base k fa fd [x] (spLawT K ts)) (bind:∀ (s:Shared) (u:Value),BindsTo s fd ⟨[u],[]⟩ [(x,u)]) :
    codeAny (model P w) callerA (.call (.ref fa) ⟨[.ref a],[]⟩) (fun r s'=>r = .ok (.ret (.bool true))∧OldK t.heap s'.heap∧s'.os=t.os∧AllBare s'.gens) t:=by
  have rv:=vals_ints hi
  have aT:a∉al0 K ts:=fun z=>by
    have q:=hemp a z
    rw [ha] at q
    cases q
  cases hk:K.lookup a with
  | some o=>
    have e:=KX a o hk
    rw [ha] at e
    cases e
    refine aPE (H:=fun b=>if b∈al0 K ts then some (.tbl #[]) else none) KX hns hb hbb hlim hg hbm hhd hout hemp ha hi h63 hr F bind (fun b u z => ?_) (fun b hm=>if_pos hm) (.inr ⟨_,us.toArray,_,hk,rfl,rfl,rfl,?_,by simpa using rv⟩)
    · split at z
      · cases z
        exact .inr ⟨by assumption,rfl⟩
      · cases z
    · rw [List.size_toArray,hi.length]
      exact Nat.le_trans h63 (by decide)
  | none=>
    refine aPE (H:=fun b=>if b=a then some (.frz { cls:=.type "list",data:=.seq us.toArray } (.lst (ns.map V.int))) else if b∈al0 K ts then some (.tbl #[]) else none) KX hns hb hbb hlim hg hbm hhd hout hemp ha hi h63 hr F bind (fun b u z => ?_) (fun b hm => ?_) (.inl (.inr ⟨_,if_pos rfl⟩))
    · split at z
      · rename_i e
        cases z
        exact .inl ⟨e,hk,rfl⟩
      · split at z
        · cases z
          exact .inr ⟨by assumption,rfl⟩
        · cases z
    · show (if b=a then _ else _)=_
      rw [if_neg (fun z=>aT (by rw [← z];exact hm)),if_pos hm]
end
end G
namespace G
open PySem L2 PySem.Spec PyProof.Rows
theorem aLL (l:Addr) (items:Array Value) (n:Nat) (dct:Option Addr) (sl:Array (Option Value)) :
    Meets (Builtin.«enumerate.__new__» ⟨[.type "enumerate", .ref l],[]⟩) (fun _ R s=>s.heap.get? l=some { cls:=.type "tuple",dict:=dct,data:=.seq items n,slots:=sl } ∧
      R (.ok (.ret (.ref (s.heap.push { cls:=.type "tuple_iterator",data:=.fields #[.ref l, .int 0 0] }).objs.size)))
        { s with heap:=(s.heap.push { cls:=.type "tuple_iterator",data:=.fields #[.ref l, .int 0 0] }).push { cls:=.type "enumerate",data:=.fields #[.none, .bool false, .ref s.heap.objs.size,rawInt 0, .none, .none] } }):=by
  refine .of_wp fun prog w A R s h => ?_
  obtain ⟨hp,g,d,tk,os⟩:=s
  obtain ⟨hl,h⟩:=h
  have hsub:=sub_enumerate
  have hL:Heap.IsTuple (Shared.heap ⟨hp,g,d,tk,os⟩) l items:=⟨_,hl,rfl,n,rfl⟩
  have q1:∀ {A':Around}{E:Value→Shared→Prop}{Q:Value→Shared→Prop},Q (.ref hp.objs.size) ⟨hp.push { cls:=.type "tuple_iterator",data:=.fields #[.ref l, .int 0 0] },g,d,tk,os⟩→wpAny (model prog w) A' (pyIter (.ref l)) Q E ⟨hp,g,d,tk,os⟩:=
    fun q=>(begins_tuple l items).iter prog w _ _ ⟨hp,g,d,tk,os⟩ _ hL q
  wp_walk using AutoSeq1.wpAny_loadPart' hl,q1
  refine wpAny_stack_any fun st=>wpAny_pure ?_
  split
  · rename_i c _ _ _ _ _
    cases (c == Value.type "enumerate")<;>(wp_walk using AutoSeq1.wpAny_loadPart' hl,q1;exact ⟨_,rfl,h⟩)
  · wp_walk using AutoSeq1.wpAny_loadPart' hl,q1
    exact ⟨_,rfl,h⟩
theorem aO2 {prog:Program}{w:World}{A:Around}{E:Value→Shared→Prop}{s:Shared}{l:Addr}{items:Array Value}{Q:Value→Shared→Prop}(hL:s.heap.IsTuple l items)
    (h:∀ h',IsEnum h' (s.heap.objs.size+1) s.heap.objs.size 0 .none→h'.IsTupleIter s.heap.objs.size l 0→(∀ b o,s.heap.get? b=some o→h'.get? b=some o)→Q (.ref (s.heap.objs.size+1)) { s with heap:=h' }) :
    wpAny (model prog w) A (call (.type "enumerate") [.ref l]) Q E s:=by
  obtain ⟨⟨c,dct,dt,sl⟩,hl,hc,n,hd⟩:=hL
  have hc:c = .type "tuple":=hc
  have hd:dt = .seq items n:=hd
  subst hc hd
  have hz:(s.heap.push { cls:=.type "tuple_iterator",data:=.fields #[.ref l, .int 0 0] }).objs.size=s.heap.objs.size+1:=Heap.size_push ..
  refine callType_new F.called_enumerate (by decide) (F.typeCall_enumerate_1 _) (F.newCall_enumerate_1 _) (fun obj=>F.args_object_init_2 obj _) F.entry_enumerate_new (aLL l items n dct sl) ⟨hl,?_⟩
  show _∧_
  rw [hz]
  have he:IsEnum ((s.heap.push { cls:=.type "tuple_iterator",data:=.fields #[.ref l, .int 0 0] }).push { cls:=.type "enumerate",data:=.fields #[.none, .bool false, .ref s.heap.objs.size,rawInt 0, .none, .none] }) (s.heap.objs.size+1) s.heap.objs.size 0 .none:=by
    have z:=Heap.get?_push_size (s.heap.push { cls:=.type "tuple_iterator",data:=.fields #[.ref l, .int 0 0] }) (o:={ cls:=.type "enumerate",data:=.fields #[.none, .bool false, .ref s.heap.objs.size,rawInt 0, .none, .none] }) rfl
    rw [hz] at z
    exact z
  exact ⟨⟨_,he,rfl⟩,h _ he ⟨_,Heap.get?_push_of_some _ (Heap.get?_push_size _ rfl),rfl,rfl⟩ fun b o z=>Heap.get?_push_of_some _ (Heap.get?_push_of_some _ z)⟩
def IteT (K:PySem.W.Frag) (a:Addr):It where
  go:=fun i H=>∃ (xs:List V) (x:V),SqT K H a xs∧xs[i]? = some x
  yld:=fun i H v H'=>∃ T x,v = .ref T∧H T=none∧H'=upd H T (.tup [.int (i:Nat),x])∧∀ xs,SqT K H a xs→xs[i]? = some x
  stop:=fun i H=>∃ xs:List V,SqT K H a xs∧xs.length=i
theorem aO3 {P:Program}{w:World}{K:PySem.W.Frag}{elts:List Expr}{kk:Nat}{tpos:Pos}(a e it:Addr) (items:Array Value) (hae:a≠e) (hai:a≠it) :
    Turn P w K (.Tuple elts kk tpos) (IteT K a) [e,it] e (fun i h=>(∃ old,IsEnum h e it ((i:Nat):Int) old)∧h.IsTupleIter it a i∧e≠it) where
  mem:=by simp
  obj:=by
    rintro i h ⟨⟨old,he⟩,⟨o,ho,hc,hd⟩,_⟩ b hb
    have hb:b=e∨b=it:=by simpa using hb
    rcases hb with rfl | rfl
    · exact ⟨_,he,fun v q=>nomatch q⟩
    · exact ⟨o,ho,fun v q=>by rw [hd] at q;cases q⟩
  keep:=by
    rintro i h h' ⟨⟨old,he⟩,hi,hne⟩ k
    exact ⟨⟨old,k e (by simp) _ he⟩,hi.at fun o q=>k it (by simp) o q,hne⟩
  item:=by
    intro X hP hw hK hc i pins s σ H E I hf st hg
    subst hP hw hK
    obtain ⟨⟨old,he⟩,hit,hne⟩:=st
    obtain ⟨xs,x,hq,hx⟩:=hg
    obtain ⟨its,rv,p,hz⟩:=I.tuple hq
    obtain ⟨u,hu,ru⟩:=rv.get hx
    have hel:e<s.heap.objs.size:=Heap.lt_size he
    have hil:it<s.heap.objs.size:=by obtain ⟨_,q,_⟩:=hit;exact Heap.lt_size q
    have hlt:i<its.toArray.size:=by
      have:=(List.getElem?_eq_some_iff.mp hu).1
      simpa using this
    refine wpAny_pyNext_enum_itemC (c:=(i:Int)) (Draws.tuple (A:=X.A.in1) (I.ok.hd hc) it a hai its.toArray) he ⟨hit,p⟩ hlt hne (by simp [hne,Ne.symm hae]) ?_
    intro x' h' tk hx' ho hst' hT hsz hk
    have ex:x'=u:=by
      have z:its.toArray[i]? = some u:=by simpa using hu
      rw [z] at hx'
      exact (Option.some.inj hx').symm
    subst ex
    refine ⟨_,rfl,wpAny_letOwnedTupleGo_enum (s:={ s with heap:=h',toks:=tk+1 }) ho fun h'' he' sb => ?_⟩
    have hT2:h''.get? s.heap.objs.size=some { cls:=.type "tuple",data:=.seq #[.int i tk,x'] }:=(sb.2 _ (Nat.ne_of_gt hel)).trans hT
    have new:ObjOk X.prog X.w (upd H s.heap.objs.size (.tup [.int (i:Nat),x])) h'' s.heap.objs.size (.tup [.int (i:Nat),x]):=⟨by show 2≤sizeLine;decide,[.int i tk,x'], .cons ⟨_,rfl⟩ (.cons ru .nil),⟨_,hT2,rfl,_,rfl⟩⟩
    have I1:=I.turnedNew (t':=tk+1) (h':=h'') (ch:=[e,it]) (fun b ob hb q=>(sb.2 b (fun z=>hb (by simp [z]))).trans (hk b ob (fun z=>hb (by simp [z])) (fun z=>hb (by simp [z])) q)) hf (Nat.le_refl _) new
    refine ⟨.ref s.heap.objs.size,_,I1,rfl,⟨_,x,rfl,I.hok.fresh (Nat.le_refl _),rfl,fun ys hy=>by rw [I.tuple_inj hy hq];exact hx⟩,⟨⟨x',?_⟩,hst'.1.at fun o q=>(sb.2 it (Ne.symm hne)).trans q,hne⟩,fun b hb => ?_⟩
    · have e1:((i+1:Nat):Int)=(i:Int)+1:=by omega
      rw [e1];exact he'
    · have hb2:b<s.heap.objs.size:=by
        have hb:b=e∨b=it:=by simpa using hb
        rcases hb with rfl | rfl
        · exact hel
        · exact hil
      rw [upd_ne (Nat.ne_of_lt hb2)]
      exact (hf b hb).1
  done:=by
    intro X hP hw hK hc i pins s σ H E I hf st hg
    subst hP hw hK
    obtain ⟨⟨old,he⟩,hit,hne⟩:=st
    obtain ⟨xs,hq,hx⟩:=hg
    obtain ⟨its,rv,p,hz⟩:=I.tuple hq
    obtain ⟨f0,f1,f2,f3,f4,f5⟩:=hf it (by simp)
    have hn:its.toArray.size=i:=by rw [List.size_toArray,← rv.length];exact hx
    subst hn
    exact wpAny_pyNext_enum_endD (Draws.tuple (A:=X.A.in1) (I.ok.hd hc) it a hai its.toArray) he ⟨hit,p⟩ fun h' eb=>⟨rfl,I.turned (t':=s.toks) (fun b o hb q=>eb b o hb q) f0 f1 f3 f4 f5⟩
  self:=by
    rintro A i s Q E ⟨⟨_,he⟩,_⟩ h
    exact wpAny_pyIter_enum he h
section
variable {X:Cx}{W:WX}{a b c e o:Expr}{ma:EM}{pos:Pos}{p:Pos}
def iEnA (K:PySem.W.Frag) (ta:TA):TI:=fun σ H R=>ta σ H fun vs H1=>∃ a xs,vs = [.ref a]∧((SqL K H1 a xs∧R (Ite K a) H1)∨(SqT K H1 a xs∧R (IteT K a) H1))
theorem aRW {ta:TA}{tpos:Pos}{elts:List Expr}{kk:Nat}(hg:Gl X "enumerate") (hm:X.mg "enumerate"=none) (ha:PA X [e] ta) (hs:starEach [e] X.env=(false,eval e X.env)::starEach [] X.env:=by rfl) :
    PI X (.Tuple elts kk tpos) (.Call (.Name "enumerate" p) [e] [] pos) (iEnA X.K ta):=by
  refine ⟨fun pins s σ H R I h => ?_⟩
  refine Call_ (ld_blt I hg hm boot_enumerate (PyProof.Rows.callWith_type1 (thn (ha.run pos pins s σ H _ I h) fun us s1 hu => ?_) hs rfl))
  obtain ⟨vs,H1,I1,r1,a,xs,rfl,q⟩:=hu
  obtain ⟨u,rfl,ru⟩:=vals1 r1
  obtain rfl:u=Value.ref a:=ru
  have out:∀ b,b=s1.heap.objs.size+1∨b=s1.heap.objs.size→s1.heap.objs.size≤b:=by
    rintro b (rfl | rfl)
    · exact Nat.le_succ _
    · exact Nat.le_refl _
  rcases q with ⟨hq,q⟩ | ⟨hq,q⟩
  · obtain ⟨its,rv,p',hz⟩:=I1.list hq
    refine call_enumerate_list p'.isList fun h' he hit hsz hk=>wpAny_pyIter_enum he ?_
    refine ⟨s1.heap.objs.size+1,[s1.heap.objs.size+1,s1.heap.objs.size],_,_,H1,rfl,I1.kept (t':=s1.toks) hk,turn_enum a (s1.heap.objs.size+1) s1.heap.objs.size,⟨⟨.none,he⟩,hit,Nat.succ_ne_self _⟩,fun b hb => ?_,q⟩
    have hle:=out b (by simpa using hb)
    exact I1.fpOk hle (I1.hok.fresh hle)
  · obtain ⟨its,rv,p',hz⟩:=I1.tuple hq
    have hlt:a<s1.heap.objs.size:=by obtain ⟨_,z,_⟩:=p';exact Heap.lt_size z
    refine aO2 p' fun h' he hit hk=>wpAny_pyIter_enum he ?_
    refine ⟨s1.heap.objs.size+1,[s1.heap.objs.size+1,s1.heap.objs.size],_,_,H1,rfl,I1.kept (t':=s1.toks) hk,aO3 a (s1.heap.objs.size+1) s1.heap.objs.size its.toArray (Nat.ne_of_lt (Nat.lt_succ_of_lt hlt)) (Nat.ne_of_lt hlt),⟨⟨.none,he⟩,hit,Nat.succ_ne_self _⟩,fun b hb => ?_,q⟩
    have hle:=out b (by simpa using hb)
    exact I1.fpOk hle (I1.hok.fresh hle)
def enumD (l:List D):List D:=l.zipIdx.map fun q => .tup [.int (q.2:Nat),q.1]
theorem aFK {l:List D}{i:Nat}{d:D}(h:l[i]? = some d):(enumD l)[i]? = some (.tup [.int (i:Nat),d]):=by
  unfold enumD
  rw [List.getElem?_map,List.getElem?_zipIdx,h]
  simp
theorem aCS (l:List D):(enumD l).length=l.length:=by unfold enumD;simp
theorem aPG {w:Wo}{l:List D}{a:Addr}{vs:List V}(s1:∀ w2,Ex0 w w2→SqT X.K w2.hp a vs) (r1:RepL X.K X.mg w l vs):ItsR X w (enumD l) (IteT X.K a):=by
  intro w2 x2 _ R2
  have q1:=s1 w2 x2
  have e1:=r1.length
  refine ⟨fun i hi=>⟨?_,fun x H' y => ?_⟩,⟨vs,q1,by rw [aCS];omega⟩⟩
  · rw [aCS] at hi
    exact ⟨vs,vs[i]'(by omega),q1,by simp⟩
  · obtain ⟨T,x1,rfl,hT,rfl,g1⟩:=y
    obtain ⟨d1,k1,rd1⟩:=r1.getV (g1 vs q1)
    have xp:=aBk (o:=.tup [.int (i:Nat),x1]) R2 hT
    exact ⟨w2.put T (.tup [.int (i:Nat),x1]), .tup [.int (i:Nat),d1],rfl,xp,R2.put hT,rfl,rfl,aFK k1, .tup (.inl (aBO R2 hT).o) (.cons (.int _) (.cons ((rd1.ext x2).ext xp.toEx0) .nil))⟩
theorem aPH {w:Wo}{l:List D}{a:Addr}{vs:List V}(s1:∀ w2,Ex0 w w2→SqL X.K w2.hp a vs) (r1:RepL X.K X.mg w l vs):ItsR X w (enumD l) (Ite X.K a):=by
  intro w2 x2 _ R2
  have q1:=s1 w2 x2
  have e1:=r1.length
  refine ⟨fun i hi=>⟨?_,fun x H' y => ?_⟩,⟨vs,q1,by rw [aCS];omega⟩⟩
  · rw [aCS] at hi
    exact ⟨vs,vs[i]'(by omega),q1,by simp⟩
  · obtain ⟨T,x1,rfl,hT,rfl,g1⟩:=y
    obtain ⟨d1,k1,rd1⟩:=r1.getV (g1 vs q1)
    have xp:=aBk (o:=.tup [.int (i:Nat),x1]) R2 hT
    exact ⟨w2.put T (.tup [.int (i:Nat),x1]), .tup [.int (i:Nat),d1],rfl,xp,R2.put hT,rfl,rfl,aFK k1, .tup (.inl (aBO R2 hT).o) (.cons (.int _) (.cons ((rd1.ext x2).ext xp.toEx0) .nil))⟩
def enR (ds:List D) (S:Store):Res (List D):=match ds with
  | [.tup l] => .ok (enumD l) S
  | [.lst l] => .ok (enumD l) S
  | _ => .stuck
def iEnum (m:AM):AM:=fun e S=>(m e S).bind enR
theorem aPI {m:AM}{elts:List Expr}{kk:Nat}{tpos:Pos}(hm:X.mg "enumerate"=none) (ha:RA X W [a] m) (hg:Gl X "enumerate":=by rfl) (hs:starEach [a] X.env=(false,eval a X.env)::starEach [] X.env:=by rfl) :
    RI X W (.Tuple elts kk tpos) (.Call (.Name "enumerate" p) [a] [] pos) (iEnum m):=by
  refine ⟨fun pins s σ H R' I h=>(aRW hg hm ha hs).run pins s σ H R' I ?_⟩
  obtain ⟨w,en,rfl,R,E,P⟩:=h
  refine ⟨w,en,rfl,R,E,(Post.bind P).imp ?_⟩
  rintro vs H1 ⟨w1,ds,rfl,X1,R1,rx,P1⟩
  unfold enR at P1
  split at P1
  · obtain ⟨v,rfl,rv⟩:=rx.one_inv
    cases rv with
    | tup s1 r1=>exact ⟨_,_,rfl, .inr ⟨s1.sq,Post.now P1 R1 (aPG (fun w2 x2=>(s1.ext x2).sq) r1)⟩⟩
  · obtain ⟨v,rfl,rv⟩:=rx.one_inv
    cases rv with
    | lst s1 r1=>exact ⟨_,_,rfl, .inl ⟨SqL.of s1.1,Post.now P1 R1 (aPH (fun w2 x2=>SqL.of (s1.ext x2).1) r1)⟩⟩
  · exact False.elim P1
end
end G
namespace G
open PySem L2 PySem.Spec
section
variable {X:Cx}{W:WX}{a b c e o:Expr}{es:List Expr}{ma mb mc me:EM}{ta tb:TM}{pos apos:Pos}{x:Str}{p:Pos}{j k:Nat}
variable {K:PySem.W.Frag}{mg:Str→Option Value}{w:Wo}
def lrOk (i:Int):Prop:=i≤16777216 ∧ -(2 ^ 62)≤i
open Classical in
noncomputable def lrR (d:D) (S:Store):Res (List D):=match d with
  | .int i=>if lrOk i then .ok (rangeD 0 i.toNat) S else .stuck
  | _ => .stuck
noncomputable def eLr (m:EM):EM:=fun e S=>(m e S).bind fun d S1=>(lrR d S1).bind fun l S2 => .ok (.lst l) S2
noncomputable def eLrN (m:EM):EM:=fun e S=>(m e S).bind fun d S1=>(lrR d S1).bind fun l S2 => .ok (.loc S2.length) (S2++[.lst l])
def seqT (S:Store) (y:D):Option (List D):=match y with
  | .tup l=>some l
  | _=>seqD S y
theorem RepD.seqT {d:D}{v:V}{l:List D}(R:Rep K mg w) (h:RepD K mg w d v) (e:G.seqT w.st d=some l):∃ a vs,v = .ref a∧(SqL K w.hp a vs∨SqT K w.hp a vs)∧RepL K mg w l vs:=by
  unfold G.seqT at e
  split at e
  · cases e
    cases h with
    | tup s r=>exact ⟨_,_,rfl, .inr s.sq,r⟩
  · obtain ⟨a,vs,rfl,q,r⟩:=h.seq R e
    exact ⟨a,vs,rfl, .inl q,r⟩
def dInL (neg:Bool) (S:Store) (x y:D):Option D:=match seqT S y,flatD x with
  | some l,some v=>(flatL l).map fun vs => .bl (if neg then !inV v vs else inV v vs)
  | _,_=>none
theorem aPJ {neg:Bool}{dx dy:D}{x y:V}{Q:VK}{E:XK}(R:Rep X.K X.mg w) (qx:RepD X.K X.mg w dx x) (qy:RepD X.K X.mg w dy y) (P:Post (RepD X.K X.mg) X.K X.mg w (lf (dInL neg w.st dx dy) w.st) Q E):rIn X.K neg x y w.hp Q:=by
  unfold dInL at P
  split at P
  · rename_i l v e1 e2
    obtain ⟨a,vs,rfl,q,r⟩:=qy.seqT R e1
    obtain ⟨rfl,fx⟩:=qx.flat e2
    cases e3:flatL l with
    | none=>rw [e3] at P;exact False.elim P
    | some us=>
      rw [e3] at P
      obtain ⟨rfl,fl⟩:=r.flat e3
      exact ⟨a,vs,rfl,q,fx,fl,Post.now P R (.bl _)⟩
  · exact False.elim P
theorem aPK:OpR X (compareOp .In) (OpMS X (dInL false)):=by
  intro pins s σ H x y v u Q I rx ry h
  obtain ⟨w,dx,dy,E,rfl,R,qx,qy,P⟩:=h
  exact op_in_seq pins s σ w.hp _ _ v u Q I rx ry (aPJ R qx qy P)
theorem aPL:OpR X (compareOp .NotIn) (OpMS X (dInL true)):=by
  intro pins s σ H x y v u Q I rx ry h
  obtain ⟨w,dx,dy,E,rfl,R,qx,qy,P⟩:=h
  exact op_notIn_seq pins s σ w.hp _ _ v u Q I rx ry (aPJ R qx qy P)
def popR (x:D) (xs:List D) (S:Store):Res D:=match x,xs with
  | .loc n,[.int i]=>match S[n]? with
    | some (.lst l)=>match seqIndex? i l.length with
      | some k=>match l[k]? with
        | some y=>if -(2 ^ 63)≤i∧i<2 ^ 63 then .ok y (S.set n (.lst (l.eraseIdx k))) else .stuck
        | none => .stuck
      | none => .stuck
    | _ => .stuck
  | _,_ => .stuck
def ePop (a:EM) (m:AM):EM:=fun e S=>(a e S).bind fun x S1=>if isLst S1 x then (m e S1).bind fun xs S2=>popR x xs S2 else .stuck
theorem RepL.eraseIdx {l:List D}{vs:List V}(h:RepL K mg w l vs):∀ k,RepL K mg w (l.eraseIdx k) (vs.eraseIdx k):=by
  induction h using RepL.rec (motive_1:=fun _ _ _=>True) (motive_3:=fun _ _ _=>True) with
  | nil=>exact fun k => .nil
  | cons r t _ ih=>
    intro k
    cases k with
    | zero=>exact t
    | succ k=>exact .cons r (ih k)
  | _=>trivial
def augR (i:Nat) (e:En) (x y:D) (S:Store):SRes:=match x with
  | .int m=>match y with
    | .int n => .nxt (e.set i (some (.int (m+n)))) S
    | _ => .stuck
  | .loc n=>match S[n]?,lstOf S y with
    | some (.lst l),some zs=>if l.length+zs.length≤sizeLine then .nxt (e.set i (some (.loc n))) (S.set n (.lst (l++zs))) else .stuck
    | _,_ => .stuck
  | _ => .stuck
def sAug (i:Nat) (m:EM):SM:=fun e S=>match e[i]? with
  | some (some x)=>sE (m e S) e fun y S1=>augR i e x y S1
  | _ => .stuck
theorem RepD.dpS {d:D}{v:V}{p:PyData}(R:Rep K mg w) (h:RepD K mg w d v) (e:(rsv w.st d).toP=some p):Dp K w.hp v p:=by
  cases h with
  | @loc n a hn=>
    have e:((match w.st[n]? with | some (.lst l)=>D.lst l | _ => .loc n):D).toP=some p:=e
    split at e
    · rename_i l hl
      obtain ⟨vs,p1,r1⟩:=R.cell _ _ _ hn hl
      rw [D.toP] at e
      obtain ⟨ps,e1,rfl⟩:=Option.map_eq_some_iff.mp e
      exact .lst (SqL.of p1) (r1.dp e1)
    · rw [D.toP] at e;cases e
  | non=>exact RepD.dp (mg:=mg) .non e
  | bl b=>exact RepD.dp (mg:=mg) (.bl b) e
  | int i=>exact RepD.dp (mg:=mg) (.int i) e
  | str x=>exact RepD.dp (mg:=mg) (.str x) e
  | tup s r=>exact RepD.dp (.tup s r) e
  | lst s r=>exact RepD.dp (.lst s r) e
  | scr s r=>exact RepD.dp (.scr s r) e
  | dic s z r=>exact RepD.dp (.dic s z r) e
  | ins g s r=>exact RepD.dp (.ins g s r) e
  | exc g s x r=>exact RepD.dp (.exc g s x r) e
  | fa a=>exact RepD.dp (mg:=mg) (.fa a) e
  | pin r=>exact RepD.dp (.pin r) e
def eqS (S:Store) (x y:D):Option Bool:=eqP (rsv S x) (rsv S y)
theorem aTB {dx dy:D}{x y:V}{r:Bool}(R:Rep X.K X.mg w) (qx:RepD X.K X.mg w dx x) (qy:RepD X.K X.mg w dy y) (h:eqS w.st dx dy=some r):∃ p q,Dp X.K w.hp x p∧Dp X.K w.hp y q∧SeqAt.shaped p=true∧SeqAt.shaped q=true∧PyData.eqv p q=r:=by
  unfold eqS eqP at h
  split at h
  · rename_i p q e1 e2
    split at h
    · rename_i hs
      rw [Bool.and_eq_true] at hs
      exact ⟨p,q,qx.dpS R e1,qy.dpS R e2,hs.1,hs.2,Option.some.inj h⟩
    · cases h
  · cases h
def dNeS (S:Store) (x y:D):Option D:=(eqS S x y).map fun b => .bl (!b)
theorem aVK (hu:X.A.units+64<cLine):OpR X (compareOp .NotEq) (OpMS X dNeS):=by
  intro pins s σ H x y v u Q I rx ry h
  obtain ⟨w,dx,dy,E,rfl,R,qx,qy,P⟩:=h
  unfold dNeS at P
  cases e:eqS w.st dx dy with
  | none=>rw [e] at P;exact False.elim P
  | some r=>
    rw [e] at P
    obtain ⟨p,q,h1,h2,h3,h4,rfl⟩:=aTB R qx qy e
    exact op_neD hu pins s σ w.hp _ _ v u Q I rx ry ⟨p,q,h1,h2,h3,h4,Post.now P R (.bl _)⟩
end
end G
namespace G
open PySem L2 PySem.Spec
end G
namespace G
open PySem L2 PySem.Spec PyProof.Rows
section
variable {X:Cx}{W:WX}{pos:Pos}
def gSq (n:Nat) (r:GMs):GM:=fun d e S=>match d with
  | .tup ds=>if ds.length=n then r ds e S else .stuck
  | .lst ds=>if ds.length=n then r ds e S else .stuck
  | .loc j=>match S[j]? with
    | some (.lst ds)=>if ds.length=n then r ds e S else .stuck
    | _ => .stuck
  | _ => .stuck
end
end G
namespace G
open PySem L2 PySem.Spec
section
variable {X:Cx}{W:WX}{a b c e o:Expr}{es:List Expr}{ma mb mc me:EM}{ta tb:TM}{pos apos:Pos}{x:Str}{p:Pos}{j k:Nat}
variable {K:PySem.W.Frag}{mg:Str→Option Value}{w:Wo}
def eListN (m:EM):EM:=fun e S=>(m e S).bind fun d S1=>(lf (seqT S1 d) S1).bind fun l S2 => .ok (.loc S2.length) (S2++[.lst l])
def eRev (m:EM):EM:=fun e S=>(m e S).bind fun d S1=>(lf (seqD S1 d) S1).bind fun l S2 => .ok (.lst l.reverse) S2
end
end G
namespace G
open PySem L2 PySem.Spec
structure Fam (B nw ini:String) (tl:List Value):Prop where
  f:ExcBaseFacts B nw ini tl
  p:∀ self:Value,refuseLoop self "__setattr__" tl=pure ()
  o:tl.contains (.type "object")=true
  e:tl.isEmpty=false
theorem aAv:Fam "ValueError" "ValueError.__new__" "ValueError.__init__" bmValueError:=⟨PySem.F.excBase_ValueError,PySem.F.store_ValueError.passes,by decide +kernel,rfl⟩
structure XoC (K:PySem.W.Frag) (C:Addr) (nw:String) (tl:List Value):Prop where
  cls:∃ nm q N bs bm sn sub ab col dd k0 k1 k2 k3 k5,K.lookup C=some (excClassObj nm q C N bs bm true sn sub ab col dd k0 k1 k2 k3 k5 nw)∧PySem.W.excTail tl bm=true
  sa:PySem.W.findIn K (.ref C) "__setattr__"=some (some (.builtin "object.__setattr__"))
  exC:PySem.W.subIn K (.ref C) (.type "BaseException")=some true
  tyC:PySem.W.typeIn K (.ref C)=some (.type "type")
  kC:PySem.W.keepIn K (.ref C)=true
section
open Builtin Builtin.ObjectAttr
variable {prog:Program}{w:World}{A:Around}{R:Result→Shared→Prop}{hp:Heap}{g:Array GenState}{d:Drawn}{t:Nat}{os:OsState}{tl:List Value}
theorem aPM {K:W.Frag}{n:Str}{tk:Tok}{u:Value}{x C:Addr}{fv:Array Value}{cd:ClassData}(KX:K.In hp) (hx:hp.get? x=some { cls:=.ref C,data:=.fields fv }) (hcd:W.clsIn K C=some cd)
    (hm:W.excTail tl cd.mro=true) (hne:tl.isEmpty=false) (hto:tl.contains (.type "object")=true) (htp:∀ self:Value,refuseLoop self "__setattr__" tl=pure ()) (hh:cd.hasDict=true) (hno:W.findIn K (.ref C) n=some none)
    (hq:∀ h' tk' dx,(∀ b o,b≠x→hp.get? b=some o→h'.get? b=some o)→hp.objs.size≤dx→dx≠x→h'.get? x=some { cls:=.ref C,dict:=some dx,data:=.fields fv }→h'.Ns1 dx (fun y=>if y=n then some u else none)→R (.ok (.ret .none)) ⟨h',g,d,tk',os⟩) :
    codeAny (model prog w) A (.call (.builtin "object.__setattr__") ⟨[.ref x, .str n tk,u],[]⟩) R ⟨hp,g,d,t,os⟩:=by
  have J:W.InstAt hp x { cls:=.ref C,data:=.fields fv } C none:=⟨hx,rfl,rfl,trivial⟩
  have G0:=F.store_object
  have ne:cd.mro.isEmpty=false:=by
    cases q:cd.mro with
    | nil=>
      rw [q] at hm
      have:[]=tl:=beq_iff_eq.mp hm
      rw [← this] at hne;cases hne
    | cons _ _=>rfl
  have hob:cd.mro.contains (.type "object")=true:=(W.excTail_contains "object" _ hm).trans hto
  have hxs:x≠hp.objs.size:=Nat.ne_of_lt (Heap.lt_size hx)
  have sb:W.Looks (model prog w) hp (isInstance (.ref x) (.type "object")) true:=J.type.andThen (W.looks_mroIn KX (by unfold W.mroIn;rw [hcd,Option.bind_some,if_neg (by rw [ne];decide),hob]))
  refine codeAny_call_builtin G0.slot.plain G0.entry (@W.check_slot (model prog w) _ _ ⟨hp,g,d,t,os⟩ "object.__setattr__" "object" "__setattr__" (.ref x) [.str n tk,u] [] _ G0.kind G0.split sb (G0.args (.ref x) (.str n tk) u) ?_)
  have lm:W.Looks (model prog w) hp (mroOf (.ref C)) cd.mro:=(W.looks_clsIn KX hcd).andThen .now
  have l3:W.Looks (model prog w) hp (storeTaker? none) none:=.now
  have lc:W.Looks (model prog w) hp (classData C) cd:=W.looks_clsIn KX hcd
  rw [W.osa_eq,refuse_eq]
  refine wpAny_bind (wpAny_bind (J.type.at (wpAny_bind (lm.at ?_))))
  rw [W.excTail_pass _ (htp _) _ hm]
  refine wpAny_pure (wpAny_bind (J.type.at (wpAny_bind ((W.looks_findIn KX hno).at (wpAny_bind (l3.at ?_))))))
  show wpAny _ _ (storeInOwnDict (.ref x) (.ref C) (.str n tk) n u false) _ _ _
  obtain ⟨c1,c2,c3,c4,c5,c6,c7,c8,c9,c10,c11⟩:=cd
  dsimp only at hh
  subst hh
  unfold storeInOwnDict ownDictForStores
  repeat (first | with_reducible refine HandSPX.store_in_new ?_ ?_ | with_reducible refine wpAny_loadPart_at hx ?_ | with_reducible refine lc.at ?_ | wp_step)
  · exact ⟨_,#[],_,(Heap.get?_update_ne _ _ _ _ hxs.symm).trans (Heap.get?_push_at rfl rfl),rfl,(fun e he=>absurd he (by simp)),fun _=>rfl⟩
  · intro h' tk' hn' hs
    have hx1:(hp.push { cls:=.type "dict",data:=.dict #[] }).get? x=some { cls:=.ref C,data:=.fields fv }:=Heap.get?_push_of_some _ hx
    refine hq h' tk' hp.objs.size (fun b o hb ho => ?_) (Nat.le_refl _) hxs.symm ?_ hn'
    · exact (hs.2 b (Nat.ne_of_lt (Heap.lt_size ho))).trans ((Heap.get?_update_ne _ _ _ _ hb).trans (Heap.get?_push_of_some _ ho))
    · exact (hs.2 x hxs).trans (Heap.get?_update_self _ hx1 rfl)
end
section
variable {X:Cx}{pins:List (Addr×Obj)} {σ:L2.St}{H:Hp}{s:Shared}{a C:Addr}{f:Str}{y:V}{u:Value}{E:Value→Shared→Prop}{A:Around}{B nw ini:String}{tl:List Value}
theorem aPN {Q:Unit→Shared→Prop}(T:XoC X.K C nw tl) (Y:Fam B nw ini tl) (I:L2.Inv X pins σ H s) (e:H a=some (exo a C none)) (hno:PySem.W.findIn X.K (.ref C) f=some none) (ry:RelV y u)
    (h:∀ dx s',H dx=none→dx≠a→L2.Inv X pins σ (upd (upd H dx (exd dx [(f,y)])) a (exo a C (some dx))) s'→Q () s'):wpAny (model X.prog X.w) A (setAttr (.ref a) f u) Q E s:=by
  obtain ⟨nm,q,N,bs,bm,sn,sub,ab,col,dd,k0,k1,k2,k3,k5,hC,hbm⟩:=T.cls
  have hcl:PySem.W.clsIn X.K C=some { name:=nm,bases:=bs,mro:=.ref C::bm,ns:=N,qualname:=q,hasDict:=true,slotNames:=sn,subclasses:=sub,abstract:=ab,collection:=col,hasDel:=false }:=by unfold PySem.W.clsIn;rw [hC]<;>rfl
  obtain ⟨t1,ho⟩:=exo_at I.hok e
  obtain ⟨hp,g,d,t,os⟩:=s
  refine PySem.W.set_plain I.kIn (od:=none) (ox:={ cls:=.ref C,dict:=none,data:=.fields #[.ref t1, .none, .none, .none, .bool false, .none] }) ⟨ho,rfl,rfl,trivial⟩ T.sa ?_
  refine aPM I.kIn ho hcl (tl:=tl) (show PySem.W.excTail tl (.ref C::bm)=true from hbm) Y.e Y.o Y.p rfl hno (fun h' tk' dx k dn dne hx hn => ?_)
  have fd:H dx=none:=I.hok.fresh dn
  have nd:∀ {b:Addr}{o:Obj},hp.get? b=some o→b≠dx:=fun {b o} z=>Nat.ne_of_lt (Nat.lt_of_lt_of_le (Heap.lt_size z) dn)
  have na:∀ {b:Addr},H b=none→b≠a:=fun {b} n z=>by rw [z,e] at n;cases n
  have U:Un X.fs [] H (upd (upd H dx (exd dx [(f,y)])) a (exo a C (some dx))) hp h':={
    keep:=fun b o z n _ _=>k b o (na n) z
    slot:=fun b o z n _ _=>⟨o.slots,k b o (na n) z⟩
    free:=fun b o z n _=>by rw [upd_ne (na n),upd_ne (nd z)];exact n
    there:=fun b o z _=>by
      by_cases hb:b=a
      · subst hb;exact ⟨_,hx⟩
      · exact ⟨o,k b o hb z⟩
    tups:=fun b xs z=>by rw [upd_ne (at_ne e z exo_tup),upd_ne (ne_of_none z fd)];exact z
    frzs:=fun b o v z=>by rw [upd_ne (at_ne e z exo_frz),upd_ne (ne_of_none z fd)];exact z
    tbls:=fun b ps z=>⟨#[],by rw [upd_ne (at_ne e z exo_tbl),upd_ne (ne_of_none z fd),z];simp⟩ }
  refine h dx _ fd dne (I.un (t':=tk') U fun b o z => ?_)
  by_cases hb:b=a
  · subst hb
    rw [upd_same] at z;cases z
    exact exo_ok hx
  · rw [upd_ne hb] at z
    by_cases hd:b=dx
    · subst hd
      rw [upd_same] at z;cases z
      exact exd_ok hn (relO_put (fs:=[]) ry fun _=>True.intro)
    · rw [upd_ne hd] at z
      refine (I.hok b o z).stay (fun c v hc q=>k c v ?_ q) (fun c hc => ?_) (fun c xs hc => ?_)
      · rcases hc with hc | hc
        · rw [hc];exact hb
        · exact at_ne e hc exo_own
      · rw [upd_ne (at_ne e hc exo_own),upd_ne (ne_of_none hc fd)];exact hc
      · rw [upd_ne (at_ne e hc exo_tup),upd_ne (ne_of_none hc fd)];exact hc
theorem aPO {us:List Value}{Q:Value→Shared→Prop}(T:XoC X.K C nw tl) (Y:Fam B nw ini tl) (I:L2.Inv X pins σ H s) (e:H a=some (exo a C none)) (hl:us.length≤sizeLine) (h:∀ s',L2.Inv X pins σ H s'→Q .none s') :
    wpAny (model X.prog X.w) A (call (.builtin ini) (.ref a::us)) Q E s:=by
  obtain ⟨nm,q,N,bs,bm,sn,sub,ab,col,dd,k0,k1,k2,k3,k5,hC,hbm⟩:=T.cls
  obtain ⟨t1,ho⟩:=exo_at I.hok e
  obtain ⟨hp,g,d,t,os⟩:=s
  refine wpAny_call (PySem.HandSPX.init_base Y.f (fun z=>PySem.W.excTail_contains z bm hbm) (I.kIn _ _ hC) ho hl fun h' t2 k hx => ?_)
  have J:=I.write (t':=t) (x:=a) (e:=a) (o:=exo a C none) (by rw [e];exact True.intro) (.inl rfl) k ⟨_,hx⟩ (exo_ok hx)
  have eu:upd H a (exo a C none)=H:=funext fun b=>if hb:b=a then by rw [hb,upd_same,e] else by rw [upd_ne hb]
  exact h _ (eu ▸ J)
end
def tBi (K:PySem.W.Frag) (nw:String) (tl:List Value) (ta:TA):TE:=fun σ H Q=>ta σ H fun vs H1=>∃ (a C:Addr) (ws:List V),vs = .ref a::ws∧ws.length≤1000∧XoC K C nw tl∧H1 a=some (exo a C none)∧Q .non H1
def tFs (K:PySem.W.Frag) (nw:String) (tl:List Value) (f:Str) (to te:TE):TS:=fun D σ H=>te σ H fun y H1=>to σ H1 fun x H2=>∃ a C:Addr,x = .ref a∧XoC K C nw tl∧PySem.W.findIn K (.ref C) f=some none∧H2 a=some (exo a C none) ∧
  ∀ dx,H2 dx=none→dx≠a→D.nx σ (upd (upd H2 dx (exd dx [(f,y)])) a (exo a C (some dx)))
structure HdC (K:PySem.W.Frag) (C:Addr) (ini:String):Prop where
  ga:PySem.W.specialIn K (.ref C) "__getattribute__"=some (some (.builtin "type.__getattribute__"))
  rd:PySem.W.readsIn K C (.type "type")=true
  fi:PySem.W.findCls K (.ref C) (.type "type") "__init__"=some (.val (.builtin ini))
  hi:PySem.W.handedIn (.builtin ini)=true
section
variable {X:Cx}{o e:Expr}{es:List Expr}{to te:TE}{ta:TA}{f:Str}{p p' p1 p2 pos:Pos}{B nw ini:String}{tl:List Value}{x:Str}{Bc:Addr}
theorem aTC {pl:Sem Bool}(Y:Fam B nw ini tl) (hg:Gl X x) (hm:X.mg x=some (.ref Bc)) (hB:HdC X.K Bc ini) (ha:PA X (e::es) ta) (hdb:(x == ("__debug__":Str))=false:=by decide)
    (hc:eval (.Call (.Attribute (.Name x p1) "__init__" p2) (e::es) [] pos) X.env=(do
      let ov ← eval (.Name x p1) X.env
      standAt p2.atName
      let (fv,first) ← holding [ov] (getMethod ov "__init__" pl)
      callWith pos fv first (backTo pos (starEach (e::es) X.env)) (backToKw pos (keywordEach [] X.env))):=by rfl)
    (he:starEach (e::es) X.env=(false,eval e X.env)::starEach es X.env:=by rfl) (hpl:(backTo pos (starEach es X.env)).any (·.1)=false:=by rfl) :
    PE X (.Call (.Attribute (.Name x p1) "__init__" p2) (e::es) [] pos) (tBi X.K nw tl ta):=by
  refine ⟨fun pins s σ H Q I h => ?_⟩
  refine PySem.W.methodCall_KW (ld_glob I hg hm ?_ hdb) hc
  refine PySem.W.method_cls I.kIn hB.ga (PySem.W.cls_value I.kIn hB.rd hB.fi hB.hi ?_)
  show wpAny _ _ (callWith pos (Value.builtin ini) [] (backTo pos (starEach (e::es) X.env)) []) _ _ _
  refine PyProof.Rows.callWith_method1 (thn (ha.run pos pins _ σ H _ (I.tok _) h) fun us s1 hu => ?_) he hpl
  obtain ⟨vs,H1,I1,r1,a,C,ws,rfl,hl,T,ea,q⟩:=hu
  cases r1 with
  | @cons _ u0 _ ur ra rr=>
    obtain rfl:u0=Value.ref a:=ra
    exact aPO T Y I1 ea (by rw [← Paired.length rr,sizeLine_eq];omega) fun s' J=>⟨.non,H1,J,rfl,q⟩
theorem aVL (Y:Fam B nw ini tl) (ho:PE X o to) (he:PE X e te) (hs:swapsWith e (some (.Attribute o f p')) pos.line X.env=pure false:=by rfl):PS X (.Assign [.Attribute o f p'] e pos) (tFs X.K nw tl f to te):=by
  refine ⟨fun pins s σ H D I h => ?_⟩
  refine plainObj_wpAny_Assign_Attribute (thn (he.run pins s σ H _ I h) fun v s1 hv => ?_) hs
  obtain ⟨y,H1,I1,r1,q1⟩:=hv
  refine thn (ho.run pins s1 σ H1 _ I1 q1) fun u s2 hu => ?_
  obtain ⟨z,H2,I2,r2,a,C,rfl,T,hno,ea,q⟩:=hu
  obtain rfl:u=Value.ref a:=r2
  exact aPN T Y I2 ea hno r1 fun dx s' n ne J=>⟨σ,_,J,q dx n ne⟩
end
end G
namespace G
open PySem L2 PySem.Spec
def tIni (K:PySem.W.Frag) (nw:String) (tl:List Value) (f:Str):TS:=fun D σ H=>∃ (a C:Addr) (v:V),σ[0]? = some (some (.ref a))∧σ[1]? = some (some v)∧XoC K C nw tl∧PySem.W.findIn K (.ref C) f=some none∧H a=some (exo a C none) ∧
  ∀ dx,H dx=none→dx≠a→D.nx σ (upd (upd H dx (exd dx [(f,v)])) a (exo a C (some dx)))
section
variable {X:Cx}{B nw ini:String}{tl:List Value}{b sf y f m:Str}{Bc:Addr}{p1 p2 p3 p4 p5 p6 p7 p8 p9 p10:Pos}{j:Nat}{pl:Sem Bool}
theorem aPP (Y:Fam B nw ini tl) (hm:X.mg b=some (.ref Bc)) (hB:HdC X.K Bc ini) (h0:PE X (.Name sf p3) (tVar 0)) (h0':PE X (.Name sf p7) (tVar 0)) (h1:PE X (.Name y p9) (tVar 1)) (hg:Gl X b:=by rfl) (hdb:(b == ("__debug__":Str))=false:=by decide)
    (hc:eval (.Call (.Attribute (.Name b p1) "__init__" p2) [.Name sf p3, .Constant (.str m) j p4] [] p5) X.env=(do
      let ov ← eval (.Name b p1) X.env
      standAt p2.atName
      let (fv,first) ← holding [ov] (getMethod ov "__init__" pl)
      callWith p5 fv first (backTo p5 (starEach [.Name sf p3, .Constant (.str m) j p4] X.env)) (backToKw p5 (keywordEach [] X.env))):=by rfl)
    (he:starEach [.Name sf p3, .Constant (.str m) j p4] X.env=(false,eval (.Name sf p3) X.env)::starEach [.Constant (.str m) j p4] X.env:=by rfl)
    (he2:starEach [.Constant (.str m) j p4] X.env=(false,eval (.Constant (.str m) j p4) X.env)::starEach [] X.env:=by rfl)
    (hpl:(backTo p5 (starEach [.Constant (.str m) j p4] X.env)).any (·.1)=false:=by rfl)
    (hs1:swapsWith (.Call (.Attribute (.Name b p1) "__init__" p2) [.Name sf p3, .Constant (.str m) j p4] [] p5) none p6.line X.env=pure false:=by rfl)
    (hs2:swapsWith (.Name y p9) (some (.Attribute (.Name sf p7) f p8)) p10.line X.env=pure false:=by rfl) :
    PSs X [.Expr (.Call (.Attribute (.Name b p1) "__init__" p2) [.Name sf p3, .Constant (.str m) j p4] [] p5) p6, .Assign [.Attribute (.Name sf p7) f p8] (.Name y p9) p10] (tIni X.K nw tl f):=by
  refine aJb (pss_cons (ps_expr (aTC Y hg hm hB (pa_cons h0 (pa_cons pe_str pa_nil he2) he) hdb hc he hpl) hs1) (pss_one (aVL Y h0' h1 hs2))) ?_
  rintro D s H ⟨a,C,v,e0,e1,T,hno,ea,q⟩
  exact ⟨.ref a,e0,a,C,_,rfl,(by simp),T,ea,v,e1, .ref a,e0,a,C,rfl,T,hno,ea,q⟩
end
def spIni (K:PySem.W.Frag) (nw:String) (tl:List Value) (f:Str):Sp:=fun vs H Q _=>∃ (a C:Addr) (v:V),vs = [.ref a,v]∧XoC K C nw tl∧PySem.W.findIn K (.ref C) f=some none∧H a=some (exo a C none) ∧
  ∀ dx,H dx=none→dx≠a→Q .non (upd (upd H dx (exd dx [(f,v)])) a (exo a C (some dx)))
section
variable {P:Program}{w0:World}{K:PySem.W.Frag}{mg:Str→Option Value}{base:Heap}
theorem aSP {x qual:Str}{st:Stmt}{fI:Addr}{fd:FuncData}{sf y f:Str}{nw:String}{tl:List Value}(F:FunD K x qual (defArgs st) (defBody st) (defScope st) [] [] fI fd) (S:FnScope [sf,y] [sf,y] (defScope st))
    (hb:∀ (cdv:Value) (A:Around) (outer:List Env) (s:Shared) (H:Hp) (E:XK),PSs (cxOf (L2.CX P w0) P w0 K mg base [sf,y] qual (defScope st) fI cdv A outer s H E) (defBody st) (tIni K nw tl f)) :
    FnOk P w0 K mg base (L2.CX P w0) 1 fI fd [sf,y] (spIni K nw tl f):=by
  obtain ⟨oc,od,dV,kV,doc,pm,an,cdv,ct,osl,rfl,lk,hcd,_,_⟩:=F.ex
  refine fn_of lk hcd S (fun vs H Q E h => ?_) (fun A outer s H vs Q E hr h => ?_)
  · obtain ⟨a,C,v,rfl,_⟩:=h;rfl
  · obtain ⟨a,C,v,rfl,T,hno,ea,q⟩:=h
    exact ⟨_,hb cdv A outer s H E,a,C,v,rfl,rfl,T,hno,ea,q⟩
end
section
variable {X:Cx}{W:WX}{e:Expr}{me:EM}{ta:TA}{p pos pos2:Pos}{B nw ini:String}{tl:List Value}{x:Str}{C fI:Addr}{fd:FuncData}{ps:List Str}{f:Str}{k:Nat}
theorem aTD (T:XoC X.K C nw tl) (Y:Fam B nw ini tl) (iC:PySem.W.findIn X.K (.ref C) "__init__"=some (some (.ref fI))) (tI:PySem.W.typeIn X.K (.ref fI)=some (.type "function")) (F1:FnOk X.prog X.w X.K X.mg X.base (L2.CX X.prog X.w) 1 fI fd ps (spIni X.K nw tl f))
    (hr:Room 2 X.A) (hb:Binds X.K fd ps []) (hno:PySem.W.findIn X.K (.ref C) f=some none) (hg:Gl X x) (hm:X.mg x=some (.ref C)) (ha:PA X [e] ta) (hdb:(x == ("__debug__":Str))=false:=by decide) (he:starEach [e] X.env=(false,eval e X.env)::starEach [] X.env:=by rfl) (hpl:(backTo pos (starEach [] X.env)).any (·.1)=false:=by rfl) :
    PMk X (.Call (.Name x p) [e] [] pos) (fun σ H Q=>ta σ H fun vs H1=>∃ v,vs = [v]∧∀ d,H1 d=none→Q (.ref C) (some d) (upd H1 d (.xd [(f,v)]))):=by
  intro pins s σ H Q I h
  obtain ⟨nm,q,N,bs,bm,sn,sub,ab,col,dd,k0,k1,k2,k3,k5,hC,hbm⟩:=T.cls
  refine wpAny_Call_Name_kw (ld_glob I hg hm ?_ hdb)
  refine PySem.W.callWith_K (h₀:=X.base) I.ok.mod.kin T.kC (thn (ha.run pos pins s σ H _ I h) fun us s1 hu => ?_) he hpl
  obtain ⟨vs,H1,I1,r1,v,rfl,q1⟩:=hu
  refine ⟨I1.kIn,?_⟩
  show wpAny _ _ (call (.ref C) us) _ _ _
  obtain ⟨hp,g,dr,tk,os⟩:=s1
  have hsz:hp.objs.size≤hp.objs.size+1:=Nat.le_succ _
  have hn:H1 (hp.objs.size+1)=none:=I1.hok.fresh hsz
  have kk:∀ b o,hp.get? b=some o→((hp.push (PySem.W.kdv_tup us)).push (PySem.HandSPX.excO C hp.objs.size)).get? b=some o:=fun b o z=>Heap.get?_push_of_some _ (Heap.get?_push_of_some _ z)
  have hget:((hp.push (PySem.W.kdv_tup us)).push (PySem.HandSPX.excO C hp.objs.size)).get? (hp.objs.size+1)=some (PySem.HandSPX.excO C hp.objs.size):=by heap_get
  have I2:L2.Inv X pins σ (upd H1 (hp.objs.size+1) (exo (hp.objs.size+1) C none)) ⟨(hp.push (PySem.W.kdv_tup us)).push (PySem.HandSPX.excO C hp.objs.size),g,dr,tk,os⟩:=
    I1.laid (t':=tk) (a:=hp.objs.size+1) (o:=exo (hp.objs.size+1) C none) (h':=(hp.push (PySem.W.kdv_tup us)).push (PySem.HandSPX.excO C hp.objs.size)) kk hsz (exo_ok hget)
  have hq:spIni X.K nw tl f [.ref (hp.objs.size+1),v] (upd H1 (hp.objs.size+1) (exo (hp.objs.size+1) C none))
      (fun z H2=>z = .non∧∃ (d:Addr) (fs:List (Str×V)),H2 (hp.objs.size+1)=some (exo (hp.objs.size+1) C (some d))∧H2 d=some (exd d fs)∧H1 d=none∧Q (.ref C) (some d) (upd (del H2 (hp.objs.size+1)) d (.xd fs))) (fun _ _ _=>False):=by
    refine ⟨_,C,v,rfl,T,hno,upd_same,fun dx hd hne=>⟨rfl,dx,[(f,v)],upd_same,?_,?_,?_⟩⟩
    · rw [upd_ne hne,upd_same]
    · rw [upd_ne hne] at hd;exact hd
    · have hd1:H1 dx=none:=by rw [upd_ne hne] at hd;exact hd
      have eu:upd (del (upd (upd (upd H1 (hp.objs.size+1) (exo (hp.objs.size+1) C none)) dx (exd dx [(f,v)])) (hp.objs.size+1) (exo (hp.objs.size+1) C (some dx))) (hp.objs.size+1)) dx (.xd [(f,v)])=upd H1 dx (.xd [(f,v)]):=by
        funext b
        by_cases h1:b=dx
        · rw [h1,upd_same,upd_same]
        · rw [upd_ne h1,upd_ne h1]
          by_cases h2:b=hp.objs.size+1
          · rw [h2,del_same,hn]
          · rw [del_ne h2,upd_ne h2,upd_ne h1,upd_ne h2]
      rw [eu]
      exact q1 dx hd1
  have r2:Vals (V.ref (hp.objs.size+1)::[v]) (Value.ref (hp.objs.size+1)::us):=.cons rfl r1
  have hl:(Value.ref (hp.objs.size+1)::us).length=ps.length:=by rw [← r2.length];exact F1.len _ _ _ _ hq
  have hus:us.length≤sizeLine:=by rw [← Paired.length r1,sizeLine_eq];simp
  have hbb:=hb ⟨(hp.push (PySem.W.kdv_tup us)).push (PySem.HandSPX.excO C hp.objs.size),g,dr,tk,os⟩ (Value.ref (hp.objs.size+1)::us) I2.kIn (by simpa using hl)
  rw [List.append_nil] at hbb
  refine wpAny_call (PySem.HandSPX.call_own Y.f (fun z=>PySem.W.excTail_contains z bm hbm) (I1.kIn _ _ hC) (PySem.W.looks_findIn I1.kIn iC) (fun self=>PySem.W.bind_fn I1.kIn self tI) hus
    (codeAny_mono (F1.run _ X.stack _ _ ⟨Value.ref (hp.objs.size+1)::us,[]⟩ (Value.ref (hp.objs.size+1)::us) _ _ (fun _ _ _=>False) (hr.make C us []) (I2.env0.make C us []) hbb r2 hq) fun r s' hq' => ?_))
  cases r with
  | error er=>
    obtain ⟨_,_,_,_,_,_,_,_,_,_,_,_,z⟩:=hq'
    exact False.elim z
  | ok fl=>
    cases fl with
    | ret u=>
      obtain ⟨z,H2,os2,bare2,un2,hok2,rv,rfl,d,fs,ea,ed,hd1,q2⟩:=hq'
      obtain ⟨h2,g2,d2,t2,os'⟩:=s'
      exact ⟨rv,mk_end (raises_own T.exC T.tyC) I1 hsz kk un2 hok2 os2 bare2 ea ed hd1 q2⟩
    | next=>exact False.elim hq'
    | brk=>exact False.elim hq'
    | cont=>exact False.elim hq'
structure XfI (P:Program) (w0:World) (K:PySem.W.Frag) (mg:Str→Option Value) (base:Heap) (x:Str) (ini:String) (nw:String) (tl:List Value) (f:Str):Prop where
  ex:∃ C fI fd sf y,mg x=some (.ref C)∧XoC K C nw tl∧PySem.W.findIn K (.ref C) "__init__"=some (some (.ref fI))∧PySem.W.typeIn K (.ref fI)=some (.type "function")∧PySem.W.findIn K (.ref C) f=some none∧Binds K fd [sf,y] []∧FnOk P w0 K mg base (L2.CX P w0) 1 fI fd [sf,y] (spIni K nw tl f)
def sRaiseF (cn f:Nat) (m:EM):SM:=fun e S=>sE (m e S) e fun d S1 => .exc (.exc cn [(f,d)]) e S1
theorem aBP (cn fn:Nat) (c:Cg X W k) (Y:Fam B nw ini tl) (hF:XfI X.prog X.w X.K X.mg X.base x ini nw tl (fname fn)) (he:RE X W e me) (hk:2≤k:=by decide) (hcn:cname cn=x:=by rfl) (hg:Gl X x:=by rfl) (hdb:(x == ("__debug__":Str))=false:=by decide) (hst:starEach [e] X.env=(false,eval e X.env)::starEach [] X.env:=by rfl)
    (hpl:(backTo pos (starEach [] X.env)).any (·.1)=false:=by rfl):RS X W (.Raise (some (.Call (.Name x p) [e] [] pos)) none pos2) (sRaiseF cn fn me):=by
  obtain ⟨C,fI,fd,sf,y,hm,T,iC,tI,hno,hb,F1⟩:=hF.ex
  refine aE8 (ps_raise c.calm c.tk (aTD T Y iC tI F1 (c.rm.mono hk).r hb hno hg hm (aAa he aAc (hs:=hst)) hdb hst hpl)) ?_
  rintro D s H ⟨w,en,rfl,R,E,P⟩
  refine ⟨w,en,rfl,R,E,?_⟩
  unfold aCons aNil
  unfold sRaiseF at P
  cases q:me en w.st with
  | stuck=>rw [q] at P;exact P
  | exc z S=>rw [q] at P;exact fun w1 cls dd x1 R1 st1 rx=>P w1 s cls dd x1 R1 st1 (E.ext x1.toEx0) rx
  | ok d S=>
    rw [q] at P
    intro w1 vs x1 R1 st1 rl
    obtain ⟨v,rfl,rv⟩:=rl.one_inv
    refine ⟨v,rfl,fun dx hd => ?_⟩
    have xp:=aBk (o:=.xd [(fname fn,v)]) R1 hd
    exact P (w1.put dx (.xd [(fname fn,v)])) s (.ref C) (some dx) (x1.trans xp) (R1.put hd) st1 ((E.ext x1.toEx0).ext xp.toEx0) ⟨cn,C,[(fn,d)],[(fname fn,v)],rfl,by rw [hcn];exact hm,rfl, .inr ⟨by simp,dx,rfl,aBO R1 hd⟩, .cons (rv.ext xp.toEx0) .nil⟩
end
end G
namespace G
open PySem L2 PySem.Spec PyProof.Rows
theorem aKd {B h h':Heap}{l:List Env}{e:Addr}{Z:Obj→Prop}(k:∀ b o,h.get? b=some o→h'.get? b=some o) (fl:HandSPX.FlyingZ B l e Z h):HandSPX.FlyingZ B l e Z h':=by
  obtain ⟨f1,f2,f3,oe,vs,T,oT,ts,g1,g2,g3,g4,g5,g6,g7,g8,g9⟩:=fl
  exact ⟨fun b o z=>k b o (f1 b o z),f2,Heap.FunFrames.of_keeps (fun b o z _=>⟨o,k b o z,rfl⟩) f3,oe,vs,T,oT,ts,k _ _ g1,g2,g3,g4,g5,g6,k _ _ g7,g8,g9⟩
def TestOk (X:Cx) (te:Expr) (cs:List Value):Prop:=∀ (pn:List (Addr×Obj)) (σ:L2.St) (H:Hp) (sh:Shared) (ad:Addr) (cls:Value) (b:Bool) (Q:Value→Shared→Prop) (E:Value→Shared→Prop),
  L2.Inv (X.suite ad pn) [] σ H sh→PySem.W.Looks (model X.prog X.w) sh.heap (typeOf (.ref ad)) cls→PySem.W.exmAny X.K cls cs=some b →
  (∀ c h4,(∀ q o,sh.heap.get? q=some o→h4.get? q=some o)→PySem.W.Looks (model X.prog X.w) h4 (excMatches (.ref ad) c) b→Q c { sh with heap:=h4 }) →
  wpAny (model X.prog X.w) (X.A.mark (some (.ref ad))) (eval te X.env) Q E sh
section
variable {X:Cx}{x x1 x2 x3 x4:Str}{c c1 c2 c3 c4:Value}{np p1 p2 p3 p4 pos:Pos}{k:Nat}
theorem aTE {pn:List (Addr×Obj)} {σ:L2.St}{H:Hp}{sh:Shared}{ad:Addr}{Q:Value→Shared→Prop}{E:Value→Shared→Prop}(hc:Names X x c) (I:L2.Inv (X.suite ad pn) [] σ H sh) (q:Q c sh):wpAny (model X.prog X.w) (X.A.mark (some (.ref ad))) (eval (.Name x np) X.env) Q E sh:=by
  obtain ⟨hg,hdb,hm | ⟨hm,hv,hnn⟩⟩:=hc
  · exact ld_glob (X:=X.suite ad pn) I hg hm q hdb
  · exact ld_blt (X:=X.suite ad pn) I hg hm hv q hnn hdb
theorem aRX (hc:Names X x c):TestOk X (.Name x np) [c]:=by
  intro pn σ H sh ad cls b Q E I LT hx h
  obtain ⟨b1,d1,y1,y2,rfl⟩:=PySem.W.exmAny_cons hx
  cases (show some false=some d1 from y2)
  rw [Bool.or_false] at h
  exact aTE hc I (h c sh.heap (fun _ _ z=>z) (PySem.W.exm_one I.kIn LT y1))
end
abbrev Hd:=List Value×Option Nat×TS
inductive HdsG (X:Cx):List ExceptHandler→List Hd→Prop
  | nil:HdsG X [] []
  | as {te:Expr}{cs:List Value}{n:Str}{i:Nat}{b0:Stmt}{suite:List Stmt}{p:Pos}{ts:TS}{hs:List ExceptHandler}{l:List Hd}(ht:TestOk X te cs) (hi:X.N[i]? = some n) (hln:X.env.kindOf n=some .local)
      (hsu:∀ (ad:Addr) (pn:List (Addr×Obj)),PSs (X.suite ad pn) (b0::suite) ts) (r:HdsG X hs l):HdsG X (.ExceptHandler (some te) (some n) (b0::suite) p::hs) ((cs,some i,ts)::l)
  | bare {te:Expr}{cs:List Value}{b0:Stmt}{suite:List Stmt}{p:Pos}{ts:TS}{hs:List ExceptHandler}{l:List Hd}(ht:TestOk X te cs)
      (hsu:∀ (ad:Addr) (pn:List (Addr×Obj)),PSs (X.suite ad pn) (b0::suite) ts) (r:HdsG X hs l):HdsG X (.ExceptHandler (some te) none (b0::suite) p::hs) ((cs,none,ts)::l)
def wHds (K:PySem.W.Frag) (Wo:WX) (D:Ends):List Hd→WX
  | []=>Wo
  | (cs,some i,ts)::r=>fun cls d s H=>∃ b,PySem.W.exmAny K cls cs=some b∧(b=true→∀ ad,H ad=none→ts ⟨fun s' H'=>D.nx (s'.set i none) H',D.rt,fun s' H'=>D.bk (s'.set i none) H',fun s' H'=>D.ct (s'.set i none) H'⟩ (s.set i (some (.ref ad))) (upd H ad (ExcO ad cls d)))∧(b=false→wHds K Wo D r cls d s H)
  | (cs,none,ts)::r=>fun cls d s H=>∃ b,PySem.W.exmAny K cls cs=some b∧(b=true→ts D s H)∧(b=false→wHds K Wo D r cls d s H)
section
variable {X:Cx}{body:List Stmt}{h0:ExceptHandler}{hds:List ExceptHandler}{l:List Hd}{pos:Pos}{tb:WX→TS}{Wt:WX}
theorem aTF (hs:X.stack=X.env::X.outer) (hf:X.env.frame=some X.env.locals) (hex:X.ex = []) (hN:X.N.Nodup) (tk:Takes X Wt)
    (hb:∀ (W':WX) (pn:List (Addr×Obj)) (xe:Value→Shared→Prop),Takes (X.tr pn xe) W'→PassesOwn (model X.prog X.w) X.A X.env xe→PSs (X.tr pn xe) body (tb W'))
    (hh:HdsG X (h0::hds) l):PS X (.Try body (h0::hds) [] [] pos) (fun D s H=>tb (wHds X.K Wt D l) D s H):=by
  refine ⟨fun pins sh s H D I h => ?_⟩
  have ok:=I.ok
  have frames:X.A.frames=some (X.env::X.outer):=ok.frames.trans (congrArg some hs)
  refine wpAny_Try_except ?_
  refine wpAny_mono ((hb (wHds X.K Wt D l) (X.pn++pins)
    (fun y s1=>wpAny (model X.prog X.w) X.A (noteFrame y X.env) (fun _ s2=>wpAny (model X.prog X.w) X.A (setFlight y none) (fun _ s3=>
      wpAny (model X.prog X.w) X.A (handleBy y X.env (h0::hds)) (SP X pins D) X.xe s3) X.xe s2) X.xe s1)
    (fun u s' xx => ?_) PassesOwn.looking).run [] sh s H D (I.toTry _) h) (fun fl s1 hsp => ?_) (fun _ _ q=>q)
  · obtain ⟨ad,B,sI,pins',s5,H5,cls,d,rfl,J5,nb,up,sky,na,os,ag,w⟩:=xx
    have J:L2.Inv X pins s5 H5 sI:=J5.ofTry ok
    have sky1:Sky B (X.env::X.outer) ad (Zc cls d) X.env.locals s'.heap:=hs ▸ sky
    show wpAny (model X.prog X.w) X.A (noteFrame (.ref ad) X.env) _ _ _
    refine Sky.land Zc.steady frames hf sky1 fun h3 fl3 up3 => ?_
    have go:∀ (hds':List ExceptHandler) (l':List Hd),HdsG X hds' l'→∀ h3,HandSPX.FlyingZ B (X.env::X.outer) ad (Zc cls d) h3→s'.heap.UpToSlots h3→wHds X.K Wt D l' cls d s5 H5 →
        wpAny (model X.prog X.w) X.A (handleBy (.ref ad) X.env hds') (SP X pins D) X.xe { s' with heap:=h3 }:=by
      intro hds' l' hk
      induction hk with
      | nil=>
        intro h3 fl3 up3 w
        refine wpAny_handleBy_nil ?_
        obtain ⟨k1,k2,k3,oe,vs,T,oT,ts',he,hz,hd,h1,hr⟩:=id fl3
        unfold PySem.passOn
        refine wpAny_bind (wpAny_field he hd h1 ?_)
        rw [if_neg (show ¬ ((Value.ref T == Value.none)=true) from by simp)]
        have fin:wpAny (model X.prog X.w) X.A (setFlight (.ref ad) X.env.frame) (fun _ s4=>wpAny (model X.prog X.w) X.A (throw (.ref ad):Sem Flow) (SP X pins D) X.xe s4) X.xe { s' with heap:=h3 }:=by
          rw [hf]
          refine HandSPX.setFlight_upZ fl3 fun h4 hh4 up4=>wpAny_throw (tk _ _ ?_)
          exact ⟨ad,B,sI,pins,s5,H5,cls,d,rfl,J,nb,(up.trans up3).trans up4, .inr (.inr (by rw [hs];exact hh4)),na,os,ag,w⟩
        first
          | exact wpAny_bind (wpAny_pure (wpAny_bind fin))
          | exact wpAny_bind fin
      | @as te cs n i b0 suite p ts hs' l2 ht hi hln hsu r ih=>
        intro h3 fl3 up3 w
        obtain ⟨b,hb1,hyes,hno⟩:=w
        have J3:L2.Inv X pins s5 H5 { s' with heap:=h3 }:=J.landed nb fl3.1 (up.trans up3) os ag
        obtain ⟨oe3,vs3,he3,hz3,hd3⟩:=fl3.there
        refine wpAny_handleBy_cons (codeAny_handlers_test ?_) (by intro q;cases q)
        refine ht (X.pn++pins) s5 H5 _ ad cls b _ _ (aDI J3 ad) (fun A Q E s k q=>wpAny_typeOf_ref (k _ _ he3) (hz3.1 ▸ q)) hb1 fun c h4 k4 LM=>LM.here ?_
        have fl4:=aKd k4 fl3
        have up4:s'.heap.UpToSlots h4:=up3.trans (Heap.UpToSlots.of_keeps k4)
        cases b with
        | true=>
          refine codeAny_handlers_suite_as (HandSPX.lands_againZ fl4 fun h5 fl5 up5 => ?_)
          have J5:L2.Inv X pins s5 H5 { s' with heap:=h5 }:=J.landed nb fl5.1 ((up.trans up4).trans up5) os ag
          obtain ⟨oe5,vs5,he5,hz5,hd5⟩:=fl5.there
          have nfr:ad∉frs (X.env::X.outer):=fun hm=>by
            obtain ⟨_,o',e',hnf⟩:=fl5.2.2.1.mem hm
            rw [he5] at e';cases e'
            exact hnf _ hd5
          have nL:ad≠X.env.locals:=fun z=>nfr (List.mem_filterMap.mpr ⟨X.env,List.mem_cons_self,by rw [hf,z]⟩)
          have noI:sI.heap.get? ad=none:=by
            cases q:sI.heap.get? ad with
            | none=>rfl
            | some o=>
              have z:=nb ad o q (by rw [hs];exact nfr)
              rw [fl5.2.1] at z;cases z
          have no0:X.s_0.heap.get? ad=none:=by
            cases q:X.s_0.heap.get? ad with
            | none=>rfl
            | some o=>
              obtain ⟨o',z⟩:=J.base.there ad o q (by rw [hex];simp)
              rw [noI] at z;cases z
          have noC:∀ y c',X.env.cells.lookup y=some c'→c'≠ad:=fun y c' e z=>by
            obtain ⟨v,o,ho,_⟩:=J.cell y c' e
            rw [z,noI] at ho;cases ho
          have noP:∀ q,q∈X.pn++pins→q.1≠ad:=fun q hq z=>by
            have e:=(J.pin q hq).1
            rw [z,noI] at e;cases e
          have J6:L2.Inv X pins s5 (upd H5 ad (ExcO ad cls d)) { s' with heap:=h5 }:=aKa J5 na no0 nL noC noP
            ⟨⟨oe5,vs5,he5,hz5.1,hz5.2,hd5⟩,⟨oe5,he5⟩,fun h1 h2 ⟨o,v,e,r⟩ k=>⟨o,v,k o e,r⟩⟩
          refine store_ok (X:=X.suite ad (X.pn++pins)) (v:=.ref ad) (aDI J6 ad) hN hi (.inl hln) rfl (fun s6 S6 => ?_) (.inr hln)
          refine wpAny_mono ((hsu ad (X.pn++pins)).run [] s6 _ _ _ S6 (hyes rfl ad na)) (fun fl s7 hsp => ?_) (fun _ _ z=>False.elim z)
          have fin:∀ {t:L2.St}{H7:Hp}{Q:Shared→Prop},L2.Inv (X.suite ad (X.pn++pins)) [] t H7 s7→(∀ s8,L2.Inv X pins (t.set i none) H7 s8→Q s8) →
              wpAny (model X.prog X.w) X.A (do bindName X.env n .none;unbindBehindTheSuite X.env n p) (fun _ s8=>Q s8) X.xe s7:=fun {t H7 Q} S7 hq=>gone_ok (aGh ok S7) hN hi hln hq
          cases fl with
          | next=>obtain ⟨t,H7,S7,q7⟩:=hsp;exact fin S7 fun s8 J8=>⟨_,_,J8,q7⟩
          | brk=>obtain ⟨t,H7,S7,q7⟩:=hsp;exact fin S7 fun s8 J8=>⟨_,_,J8,q7⟩
          | cont=>obtain ⟨t,H7,S7,q7⟩:=hsp;exact fin S7 fun s8 J8=>⟨_,_,J8,q7⟩
          | ret u=>obtain ⟨v7,t,H7,S7,r7,q7⟩:=hsp;exact fin S7 fun s8 J8=>⟨_,_,_,J8,r7,q7⟩
        | false=>
          show wpAny _ X.A (handleBy (.ref ad) X.env hs') _ _ _
          exact ih h4 fl4 up4 (hno rfl)
      | @bare te cs b0 suite p ts hs' l2 ht hsu r ih=>
        intro h3 fl3 up3 w
        obtain ⟨b,hb1,hyes,hno⟩:=w
        have J3:L2.Inv X pins s5 H5 { s' with heap:=h3 }:=J.landed nb fl3.1 (up.trans up3) os ag
        obtain ⟨oe3,vs3,he3,hz3,hd3⟩:=fl3.there
        refine wpAny_handleBy_cons (codeAny_handlers_test ?_) (by intro q;cases q)
        refine ht (X.pn++pins) s5 H5 _ ad cls b _ _ (aDI J3 ad) (fun A Q E s k q=>wpAny_typeOf_ref (k _ _ he3) (hz3.1 ▸ q)) hb1 fun c h4 k4 LM=>LM.here ?_
        have fl4:=aKd k4 fl3
        have up4:s'.heap.UpToSlots h4:=up3.trans (Heap.UpToSlots.of_keeps k4)
        cases b with
        | true=>
          refine codeAny_handlers_suite (HandSPX.lands_againZ fl4 fun h5 fl5 up5 => ?_)
          have J5:L2.Inv X pins s5 H5 { s' with heap:=h5 }:=J.landed nb fl5.1 ((up.trans up4).trans up5) os ag
          refine wpAny_mono ((hsu ad (X.pn++pins)).run [] _ _ _ _ (aDI J5 ad) (hyes rfl)) (fun fl s7 hsp => ?_) (fun _ _ z=>False.elim z)
          cases fl with
          | next=>obtain ⟨t,H7,S7,q7⟩:=hsp;exact ⟨_,_,aGh ok S7,q7⟩
          | brk=>obtain ⟨t,H7,S7,q7⟩:=hsp;exact ⟨_,_,aGh ok S7,q7⟩
          | cont=>obtain ⟨t,H7,S7,q7⟩:=hsp;exact ⟨_,_,aGh ok S7,q7⟩
          | ret u=>obtain ⟨v7,t,H7,S7,r7,q7⟩:=hsp;exact ⟨_,_,_,aGh ok S7,r7,q7⟩
        | false=>
          show wpAny _ X.A (handleBy (.ref ad) X.env hs') _ _ _
          exact ih h4 fl4 up4 (hno rfl)
    exact go _ _ hh h3 fl3 up3 w
  · cases fl with
    | next=>obtain ⟨t,H1,J1,q⟩:=hsp;exact wpAny_execs_nil ⟨t,H1,J1.ofTry ok,q⟩
    | brk=>obtain ⟨t,H1,J1,q⟩:=hsp;exact ⟨t,H1,J1.ofTry ok,q⟩
    | cont=>obtain ⟨t,H1,J1,q⟩:=hsp;exact ⟨t,H1,J1.ofTry ok,q⟩
    | ret u=>obtain ⟨v,t,H1,J1,r,q⟩:=hsp;exact ⟨v,t,H1,J1.ofTry ok,r,q⟩
end
def sSuO (oi:Option Nat) (r:SRes):SRes:=match oi with
  | some i=>sSu i r
  | none=>match r with
    | .exc _ _ _ => .stuck
    | r=>r
abbrev HdM:=List (Nat→Option Bool)×Option Nat×SM
def setO (e:En) (oi:Option Nat) (d:D):En:=match oi with
  | some i=>e.set i (some d)
  | none=>e
def hdR:List HdM→Nat→List (Nat×D)→SM
  | [],cn,fs,e,S => .exc (.exc cn fs) e S
  | (ts,oi,n)::r,cn,fs,e,S=>match tbAny ts cn with
    | some true=>sSuO oi (n (setO e oi (.exc cn fs)) S)
    | some false=>hdR r cn fs e S
    | none => .stuck
def sTryG (hs:List HdM) (m:SM):SM:=fun e S=>match m e S with
  | .exc (.exc cn fs) e1 S1=>hdR hs cn fs e1 S1
  | .exc _ _ _ => .stuck
  | r=>r
def TbOk (K:PySem.W.Frag) (mg:Str→Option Value) (t:Nat→Option Bool) (c:Value):Prop:=∀ cn C q,t cn=some q→mg (cname cn)=some (.ref C)→PySem.W.exmOne K (.ref C) c=some q
inductive TbsOk (K:PySem.W.Frag) (mg:Str→Option Value):List (Nat→Option Bool)→List Value→Prop
  | nil:TbsOk K mg [] []
  | cons {t:Nat→Option Bool}{c:Value}{ts:List (Nat→Option Bool)}{cs:List Value}(h:TbOk K mg t c) (r:TbsOk K mg ts cs):TbsOk K mg (t::ts) (c::cs)
theorem TbsOk.any {K:PySem.W.Frag}{mg:Str→Option Value}{ts:List (Nat→Option Bool)}{cs:List Value}(h:TbsOk K mg ts cs) {cn:Nat}{C:Addr}{q:Bool}(e:tbAny ts cn=some q) (hC:mg (cname cn)=some (.ref C)):PySem.W.exmAny K (.ref C) cs=some q:=by
  induction h generalizing q with
  | nil=>exact e
  | @cons t c ts cs h r ih=>
    unfold tbAny at e
    split at e
    · rename_i a b e1 e2
      cases e
      unfold PySem.W.exmAny
      rw [h cn C a e1 hC,ih e2]
    · cases e
inductive RHs (X:Cx):List ExceptHandler→List HdM→Prop
  | nil:RHs X [] []
  | as {te:Expr}{cs:List Value}{ts:List (Nat→Option Bool)}{n:Str}{i:Nat}{b0:Stmt}{suite:List Stmt}{p:Pos}{m:SM}{hs:List ExceptHandler}{l:List HdM}(ht:TestOk X te cs) (hts:TbsOk X.K X.mg ts cs) (hi:X.N[i]? = some n) (hln:X.env.kindOf n=some .local)
      (hsu:∀ (ad:Addr) (pn:List (Addr×Obj)),RSs (X.suite ad pn) W0 (b0::suite) m) (r:RHs X hs l):RHs X (.ExceptHandler (some te) (some n) (b0::suite) p::hs) ((ts,some i,m)::l)
  | bare {te:Expr}{cs:List Value}{ts:List (Nat→Option Bool)}{b0:Stmt}{suite:List Stmt}{p:Pos}{m:SM}{hs:List ExceptHandler}{l:List HdM}(ht:TestOk X te cs) (hts:TbsOk X.K X.mg ts cs)
      (hsu:∀ (ad:Addr) (pn:List (Addr×Obj)),RSs (X.suite ad pn) W0 (b0::suite) m) (r:RHs X hs l):RHs X (.ExceptHandler (some te) none (b0::suite) p::hs) ((ts,none,m)::l)
section
variable {X:Cx}{W:WX}{body:List Stmt}{h0:ExceptHandler}{hds:List ExceptHandler}{l:List HdM}{pos:Pos}{mt:SM}{k:Nat}
theorem RHs.clauses {hs:List ExceptHandler}{l:List HdM}(h:RHs X hs l):∃ l2:List Hd,HdsG X hs l2∧∀ (D0:Ends) (w1:Wo) (e1:En) (s1:L2.St) (cn:Nat) (C:Addr) (fs:List (Nat×D)) (gs:List (Str×V)) (dd:Option Addr),Rep X.K X.mg w1→RepE X.K X.mg w1 e1 s1→X.mg (cname cn)=some (.ref C)→XfO w1 dd gs→RepF X.K X.mg w1 fs gs→PostS X W w1 (hdR l cn fs e1 w1.st) D0→wHds X.K W D0 l2 (.ref C) dd s1 w1.hp:=by
  induction h with
  | nil=>
    refine ⟨[], .nil,fun D w1 e1 s1 cn C fs gs dd R1 E1 hC hx rf P => ?_⟩
    exact P w1 s1 (.ref C) dd (Ext.refl w1) R1 rfl E1 ⟨cn,C,fs,gs,rfl,hC,rfl,hx,rf⟩
  | @as te cs ts n i b0 suite p m hs l ht hts hi hln hsu r ih=>
    obtain ⟨l2,g,ihw⟩:=ih
    refine ⟨(cs,some i,tS X W0 m)::l2, .as ht hi hln hsu g,fun D w1 e1 s1 cn C fs gs dd R1 E1 hC hx rf P => ?_⟩
    rw [hdR] at P
    cases et:tbAny ts cn with
    | none=>rw [et] at P;exact False.elim P
    | some q=>
      rw [et] at P
      refine ⟨q,hts.any et hC,?_,?_⟩
      · rintro rfl ad na
        have xp:=aBk (o:=ExcO ad (.ref C) dd) R1 na
        refine ⟨w1.put ad (ExcO ad (.ref C) dd),e1.set i (some (.exc cn fs)),rfl,R1.put na,(E1.ext xp.toEx0).set i (.exc hC (aBO R1 na) (hx.ext xp.toEx0) (rf.ext xp.toEx0)),?_⟩
        show PostS X W0 _ (m _ w1.st) _
        have P2:PostS X W (w1.put ad (ExcO ad (.ref C) dd)) (sSu i (m (e1.set i (some (.exc cn fs))) w1.st)) D:=PostS.ext P xp
        cases q2:m (e1.set i (some (.exc cn fs))) w1.st with
        | nxt e S=>rw [q2] at P2;exact fun w3 s3 x3 R3 st3 E3=>P2 w3 _ x3 R3 st3 (E3.gone i)
        | brk e S=>rw [q2] at P2;exact fun w3 s3 x3 R3 st3 E3=>P2 w3 _ x3 R3 st3 (E3.gone i)
        | cnt e S=>rw [q2] at P2;exact fun w3 s3 x3 R3 st3 E3=>P2 w3 _ x3 R3 st3 (E3.gone i)
        | ret e S=>rw [q2] at P2;exact P2
        | exc y e S=>rw [q2] at P2;exact False.elim P2
        | stuck=>rw [q2] at P2;exact False.elim P2
      · rintro rfl
        exact ihw D w1 e1 s1 cn C fs gs dd R1 E1 hC hx rf P
  | @bare te cs ts b0 suite p m hs l ht hts hsu r ih=>
    obtain ⟨l2,g,ihw⟩:=ih
    refine ⟨(cs,none,tS X W0 m)::l2, .bare ht hsu g,fun D w1 e1 s1 cn C fs gs dd R1 E1 hC hx rf P => ?_⟩
    rw [hdR] at P
    cases et:tbAny ts cn with
    | none=>rw [et] at P;exact False.elim P
    | some q=>
      rw [et] at P
      refine ⟨q,hts.any et hC,?_,?_⟩
      · rintro rfl
        refine ⟨w1,e1,rfl,R1,E1,?_⟩
        have P2:PostS X W w1 (sSuO none (m e1 w1.st)) D:=P
        show PostS X W0 _ (m e1 w1.st) _
        cases q2:m e1 w1.st with
        | nxt e S=>rw [q2] at P2;exact P2
        | brk e S=>rw [q2] at P2;exact P2
        | cnt e S=>rw [q2] at P2;exact P2
        | ret e S=>rw [q2] at P2;exact P2
        | exc y e S=>rw [q2] at P2;exact False.elim P2
        | stuck=>rw [q2] at P2;exact False.elim P2
      · rintro rfl
        exact ihw D w1 e1 s1 cn C fs gs dd R1 E1 hC hx rf P
theorem aTG (c:Cg X W k) (hb:∀ (W':WX) (pn:List (Addr×Obj)) (xe:Value→Shared→Prop),Cg (X.tr pn xe) W' k→RSs (X.tr pn xe) W' body mt) (hh:RHs X (h0::hds) l):RS X W (.Try body (h0::hds) [] [] pos) (sTryG l mt):=by
  obtain ⟨l2,g,hw⟩:=RHs.clauses (W:=W) hh
  refine aE8 (aTF (tb:=fun W'=>tS X W' mt) c.hs c.hf c.em c.nd c.tk (fun W' pn xe t po=>hb W' pn xe (c.tr t po)) g) ?_
  rintro D s H ⟨w,en,rfl,R,E,P⟩
  refine ⟨w,en,rfl,R,E,?_⟩
  unfold sTryG at P
  cases q:mt en w.st with
  | nxt e S=>rw [q] at P;exact P
  | ret e S=>rw [q] at P;exact P
  | brk e S=>rw [q] at P;exact P
  | cnt e S=>rw [q] at P;exact P
  | stuck=>rw [q] at P;exact P
  | exc y e1 S1=>
    rw [q] at P
    intro w1 s1 cls dd x1 R1 st1 E1 rx
    subst st1
    obtain ⟨cn,C,fs,gs,rfl,hC,rfl,hx,rf⟩:=rx
    exact hw D w1 e1 s1 cn C fs gs dd R1 E1 hC hx rf (PostS.ext P x1)
end
end G
namespace G
open PySem L2 PySem.Spec
section
variable {X:Cx}{pins:List (Addr×Obj)} {σ:L2.St}{H:Hp}{s:Shared}
theorem aRY {ad C:Addr}{dd:Option Addr}{gs:List (Str×V)}(I:L2.Inv X pins σ H s) (hH:H ad=some (ExcO ad (.ref C) dd)) (hx:(gs = []∧dd=none)∨(gs≠[]∧∃ x,dd=some x∧H x=some (.xd gs))) :
    ∃ o od,PySem.W.InstAt s.heap ad o C od∧∀ n v,gs.lookup n=some v→∃ u od',od=some od'∧RelV v u∧PySem.W.lookIn n od'=some (some u):=by
  obtain ⟨⟨o,vs,ho,hc1,hd1,hdt⟩,_⟩:=(show ObjOk X.prog X.w H s.heap ad (ExcO ad (.ref C) dd) from I.hok ad _ hH)
  obtain ⟨oc,od,oda,osl⟩:=o
  dsimp only at hc1 hd1 hdt
  subst hc1 hd1 hdt
  rcases hx with ⟨rfl,rfl⟩ | ⟨_,x,rfl,hd⟩
  · exact ⟨_,none,⟨ho,rfl,rfl,trivial⟩,fun n v z=>by cases z⟩
  · obtain ⟨mA,hns,hr⟩:=(show ObjOk X.prog X.w H s.heap x (.xd gs) from I.hok x _ hd)
    obtain ⟨od,hod,hl⟩:=lookIn_ns hns
    refine ⟨_,some od,⟨ho,rfl,rfl,hod⟩,fun n v z => ?_⟩
    obtain ⟨u,hu,ru⟩:=RelO.some_of (v:=v) (o:=mA n) (by rw [← z];exact hr n)
    exact ⟨u,od,rfl,ru,by rw [hl,hu]⟩
end
theorem XfO.plain {w:Wo}{dd:Option Addr}{gs:List (Str×V)}(h:XfO w dd gs):(gs = []∧dd=none)∨(gs≠[]∧∃ x,dd=some x∧w.hp x=some (.xd gs)):=h.imp id fun ⟨z,x,q,s⟩=>⟨z,x,q,s.1⟩
section
variable {X:Cx}{W:WX}{a b c e o:Expr}{es:List Expr}{ma mb mc me:EM}{ta tb:TM}{pos:Pos}{x:Str}{p:Pos}{j k:Nat}
def isY (tb:Nat→Option Bool):D→Option Bool
  | .exc cn _=>tb cn
  | _=>none
def eIsY (tb:Nat→Option Bool) (m:EM):EM:=fun e S=>(m e S).bind fun x S1=>lf ((isY tb x).map .bl) S1
theorem KtsOk.any {K:PySem.W.Frag}{mg:Str→Option Value}{ts:List (Nat→Option Bool)}{cs:List Value}(h:KtsOk K mg ts cs) {cn:Nat}{C:Addr}{q:Bool}(e:tbAny ts cn=some q) (hC:mg (cname cn)=some (.ref C)):PySem.W.kitAny K (.ref C) cs=some q:=by
  induction h generalizing q with
  | nil=>exact e
  | @cons t c ts cs h r ih=>
    unfold tbAny at e
    split at e
    · rename_i b1 b2 e1 e2
      cases e
      unfold PySem.W.kitAny
      rw [(h cn C b1 e1 hC).2]
      cases b1 with
      | true=>rfl
      | false=>exact ih e2
    · cases e
def fldY (cs:List Nat) (f:Nat):D→Option D
  | .exc cn fs=>if cs.contains cn then fs.lookup f else none
  | _=>none
def eFldY (cs:List Nat) (f:Nat) (m:EM):EM:=fun e S=>(m e S).bind fun x S1=>lf (fldY cs f x) S1
def XcF (K:PySem.W.Frag) (mg:Str→Option Value) (cs:List Nat) (f:Nat):Prop:=∀ cn C,cs.contains cn=true→mg (cname cn)=some (.ref C)→ExcC K C∧PySem.W.findIn K (.ref C) (fname f)=some none
def tXg (K:PySem.W.Frag) (n:Str) (te:TE):TE:=fun σ H Q=>te σ H fun x H1=>∃ (ad C:Addr) (dd:Option Addr) (gs:List (Str×V)) (v:V),x = .ref ad∧H1 ad=some (ExcO ad (.ref C) dd)∧((gs = []∧dd=none)∨(gs≠[]∧∃ x,dd=some x∧H1 x=some (.xd gs)))∧ExcC K C∧PySem.W.findIn K (.ref C) n=some none∧gs.lookup n=some v∧Q v H1
theorem aXF {e:Expr}{te:TE}{n:Str}(he:PE X e te) (hb:attributeBase e n X.env (eval e X.env)=eval e X.env:=by rfl):PE X (.Attribute e n pos) (tXg X.K n te):=by
  refine ⟨fun pins s σ H Q I h => ?_⟩
  refine attr_of hb (thn (he.run pins s σ H _ I h) fun u s1 hh => ?_)
  obtain ⟨z,H1,I1,rx,ad,C,dd,gs,v,rfl,hH,hx,hC,hno,hl,q⟩:=hh
  obtain rfl:u=Value.ref ad:=rx
  obtain ⟨o,od,J,hf⟩:=aRY I1 hH hx
  obtain ⟨u,od',rfl,ru,hlk⟩:=hf n v hl
  exact HandSPX.exc_get I1.kIn J hC.hg hC.hk hC.hs (PySem.W.findObj_own hC.hd hno rfl hlk) (handed_of ru) ⟨v,H1,I1.tok _,ru,q⟩
theorem aTH {cs:List Nat}(f:Nat) (hcl:XcF X.K X.mg cs f) (ha:RE X W a ma) (hf:f<48:=by decide) (hx:fname f=x:=by rfl) (hb:attributeBase a x X.env (eval a X.env)=eval a X.env:=by rfl):RE X W (.Attribute a x pos) (eFldY cs f ma):=by
  refine aAV (aXF ha hb) ?_
  rintro s H Q ⟨w,en,rfl,R,E,P⟩
  refine ⟨w,en,rfl,R,E,(Post.bind P).imp ?_⟩
  rintro v H1 ⟨w1,d,rfl,X1,R1,rd,P1⟩
  dsimp only at P1
  unfold fldY at P1
  split at P1
  · rename_i cn fs
    split at P1
    · rename_i hc
      cases ql:fs.lookup f with
      | none=>rw [ql] at P1;exact False.elim P1
      | some d'=>
        rw [ql] at P1
        cases rd with
        | @exc _ C ad dd _ gs hC st hx' rf=>
          obtain ⟨v',h1,h2⟩:=rf.get hf ql
          obtain ⟨k1,k2⟩:=hcl cn C hc hC
          rw [hx] at h1 k2
          exact ⟨ad,C,dd,gs,v',rfl,st.1,hx'.plain,k1,k2,h1,Post.now P1 R1 h2⟩
    · exact False.elim P1
  · exact False.elim P1
end
end G
namespace G
open PySem L2 PySem.Spec
section
variable {K:PySem.W.Frag}
theorem aVM {C:Addr}{tl:List Value}{nw:String}(h:xoL K C tl nw=true):∃ nm q N bs bm sn sub ab col dd k0 k1 k2 k3 k5,K.lookup C=some (excClassObj nm q C N bs bm true sn sub ab col dd k0 k1 k2 k3 k5 nw)∧PySem.W.excTail tl bm=true:=by
  unfold xoL at h
  split at h
  · rename_i c dd cd sl ho
    obtain ⟨h1,h2⟩:=He.ba h
    have h1:=of_decide_eq_true h1
    subst h1
    unfold xoC at h2
    split at h2
    · rename_i C' bm k0 k1 k2 k3 n k5 hm hs
      obtain ⟨e1,h2⟩:=He.ba h2
      obtain ⟨e2,h2⟩:=He.ba h2
      obtain ⟨e3,h2⟩:=He.ba h2
      obtain ⟨e4,e5⟩:=He.ba h2
      have e1:=of_decide_eq_true e1
      have e2:=of_decide_eq_true e2
      obtain ⟨nm,bs,mro,N,qn,hd,sn,sub,ab,col,del⟩:=cd
      dsimp only at hm e3 e4
      obtain ⟨l⟩:=sl
      dsimp only at hs
      subst e1 e2 e4 hm hs
      have e3:del=false:=by simpa using e3
      subst e3
      exact ⟨nm,qn,N,bs,bm,sn,sub,ab,col,dd,k0,k1,k2,k3,k5,ho,e5⟩
    · cases h2
  · cases h
theorem aSQ {x:Str}{tl:List Value}{nw:String}(h:xoB x tl nw K=true):XoC K (He.ga K x) nw tl:=by
  obtain ⟨c1,c⟩:=He.ba h
  obtain ⟨c2,c⟩:=He.ba c
  obtain ⟨c3,c⟩:=He.ba c
  obtain ⟨c4,c5⟩:=He.ba c
  exact ⟨aVM c1,He.eqO_ok c2,of_decide_eq_true c3,of_decide_eq_true c4,c5⟩
theorem aGi {x f:Str}(h:iniB x f K=true):PySem.W.findIn K (.ref (He.ga K x)) "__init__"=some (some (.ref (He.fAd K (x,some "__init__"))))∧PySem.W.typeIn K (.ref (He.fAd K (x,some "__init__")))=some (.type "function")∧PySem.W.findIn K (.ref (He.ga K x)) f=some none:=by
  obtain ⟨c1,c⟩:=He.ba h
  obtain ⟨c2,c3⟩:=He.ba c
  exact ⟨He.eqO_ok c1,of_decide_eq_true c2,He.eqO_ok c3⟩
theorem aVN {C:Addr}{ini:String}(h:fcB K C ini=true):PySem.W.findCls K (.ref C) (.type "type") "__init__"=some (.val (.builtin ini)):=by
  unfold fcB at h
  split at h
  · rename_i n e
    rw [e,of_decide_eq_true h]
  · cases h
theorem aSR {x:Str}{ini:String}(h:hdB x ini K=true):HdC K (He.ga K x) ini:=by
  obtain ⟨c1,c⟩:=He.ba h
  obtain ⟨c2,c⟩:=He.ba c
  obtain ⟨c3,c4⟩:=He.ba c
  exact ⟨He.eqO_ok c1,c2,aVN c3,c4⟩
theorem aVO {h:Heap}{mg:Str→Option Value}(X:K.In h) (Y:h.Ns mainGlobals mg) {f:Nat}{cs:List Nat}(c:xcfB f cs K=true):XcF K mg cs f:=by
  intro cn C hc hC
  have m:cn∈cs:=by simpa using hc
  obtain ⟨g1,g2⟩:=He.ba (List.all_eq_true.mp c cn m)
  obtain ⟨g3,g4⟩:=He.ba g2
  have g:=aLI X Y g1
  rw [g] at hC
  cases hC
  exact ⟨aT3 g3,He.eqO_ok g4⟩
end
end G
namespace G
open PySem L2 PySem.Spec
def isTyO (S:Store) (y:Ty) (d:D):Option Bool:=match tyD S d with
  | some t=>some (t.is y)
  | none=>match insD S d with
    | some (c,_)=>if ownCs.contains c then some false else none
    | none=>none
section
variable {X:Cx}{W:WX}{a b c e o:Expr}{es:List Expr}{ma mb mc me:EM}{pos:Pos}{x:Str}{p:Pos}{j k:Nat}
def eIsTyO (y:Ty) (m:EM):EM:=fun e S=>(m e S).bind fun x S1=>lf ((isTyO S1 y x).map .bl) S1
end
end G
namespace G
open PySem L2
variable {X:Cx}{W:WX}{a b c o e:Expr}{es:List Expr}{pos:Pos}{ma mb:EM}
def rangeN (lo:Int) (n:Nat):List D:=(List.range n).map fun k => .int (lo - (k:Nat))
open Classical in
noncomputable def iRgN (m:AM):AM:=fun e S=>(m e S).bind fun ds S1=>match ds with
  | [.int i, .int j, .int (.negSucc 0)]=>if -(2 ^ 62)≤i∧i<2 ^ 62 ∧ -(2 ^ 62)≤j∧j<2 ^ 62 then .ok (rangeN i (i - j).toNat) S1 else .stuck
  | _ => .stuck
def eTm (f:Store→D→List D→Option D) (a:EM) (m:AM):EM:=fun e S=>(a e S).bind fun x S1=>match x with
  | .str z=>(m e S1).bind fun xs S2=>lf (f S2 (.str z) xs) S2
  | _ => .stuck
theorem aJj {name:Str}{id:String}{f:Store→D→List D→Option D}{m:AM}{apos:Pos}(hm:MtR X id (MtX X f)) (slot:Slot "str" name id) (hty:typeOf (.builtin id)=pure (.type "method_descriptor")) (ho:RE X W o ma) (ha:RA X W (e::es) m)
    (hbase:attributeBase o name X.env (eval o X.env)=eval o X.env:=by rfl)
    (hfew:((backTo pos (starEach (e::es) X.env)).all (fun x => !x.1) && (backToKw pos (keywordEach [] X.env)).all (fun x=>x.1.isSome) && decide ((e::es).length+([]:List Keyword).length+(if ([]:List Keyword).isEmpty then 0 else 1)<30))=true:=by rfl)
    (hline:(apos.endLine == pos.line)=true:=by rfl) (hs:starEach (e::es) X.env=(false,eval e X.env)::starEach es X.env:=by rfl) (hpl:(backTo pos (starEach es X.env)).any (·.1)=false:=by rfl) :
    RE X W (.Call (.Attribute o name apos) (e::es) [] pos) (eTm f ma m):=by
  refine aAV (pe_bm PySem.F.plainAttrs_str slot hty hm ho ha hbase hfew hline hs hpl) ?_
  rintro s H Q ⟨w,en,rfl,R,E,P⟩
  refine ⟨w,en,rfl,R,E,(Post.bind P).imp ?_⟩
  rintro v H1 ⟨w1,d,rfl,X1,R1,rd,P1⟩
  dsimp only at P1
  split at P1
  · cases rd
    refine ⟨rfl,w1,en,rfl,R1,E.ext X1.toEx0,(Post.bind P1).imp ?_⟩
    rintro us H2 ⟨w2,xs,rfl,X2,R2,rl,P2⟩
    exact ⟨w2,_,xs,_,rfl,R2, .str _,rl,P2⟩
  · exact False.elim P1
def fJoin (S:Store) (x:D) (xs:List D):Option D:=match x,xs with
  | .str a,[d]=>(seqD S d).bind fun l=>(strsD l).bind fun ys=>if (ys.map (·.length)).sum+ys.length*a.length≤16777216 then some (.str (Str.join a ys)) else none
  | _,_=>none
theorem aGj:MtR X "str.join" (MtX X fJoin):=by
  intro pins s σ H x xs v us Q I rx rxs h
  obtain ⟨w,d,ds,E,rfl,R,rd,rl,P⟩:=h
  unfold fJoin at P
  split at P
  · rename_i a d2
    cases rd
    obtain ⟨u,rfl,ru⟩:=rl.one_inv
    cases e1:seqD w.st d2 with
    | none=>rw [e1] at P;exact False.elim P
    | some l=>
      rw [e1] at P
      cases e2:strsD l with
      | none=>rw [Option.bind_some,e2] at P;exact False.elim P
      | some ys=>
        rw [Option.bind_some,e2,Option.bind_some] at P
        split at P
        · rename_i hz
          obtain ⟨ad,vs,rfl,hs,hl⟩:=ru.seq R e1
          rw [hl.strs e2] at hs
          refine mt_join pins s σ w.hp _ _ v us Q I rx rxs ⟨a,ad,ys,rfl,rfl, .inl hs,hz,?_⟩
          have e3:Txt.join a ys=Str.join a ys:=TL.join_eq a ys
          rw [e3]
          exact Post.now P R (.str _)
        · exact False.elim P
  · exact False.elim P
end G
namespace G
open PySem L2 PySem.Spec
end G
namespace G
open PySem L2 PySem.Spec
section
variable {X:Cx}{W:WX}{k:Nat}
theorem RepL.ofStrs {K:PySem.W.Frag}{mg:Str→Option Value}{w:Wo}:∀ ys:List Str,RepL K mg w (ys.map D.str) (ys.map V.str)
  | [] => .nil
  | y::ys => .cons (.str y) (RepL.ofStrs ys)
def fSplit (S:Store) (x:D) (xs:List D):Option D:=match x,xs with
  | .str a,[.str b]=>if (b.length == 0)=false∧a.length≤1000000 then some (.lst ((Txt.split a b).map D.str)) else none
  | _,_=>none
theorem aNK:MtR X "str.split" (MtX X fSplit):=by
  intro pins s σ H x xs v us Q I rx rxs h
  obtain ⟨w,d,ds,E,rfl,R,rd,rl,P⟩:=h
  unfold fSplit at P
  split at P
  · rename_i a b
    cases rd
    obtain ⟨u,rfl,ru⟩:=rl.one_inv
    cases ru
    split at P
    · rename_i hz
      exact mt_split pins s σ w.hp _ _ v us Q I rx rxs ⟨a,b,rfl,rfl,hz.1,by rw [sizeLine_eq];omega,fun p hp=>Post.put P R hp (.lst (aBO R hp) (RepL.ofStrs _))⟩
    · exact False.elim P
  · exact False.elim P
def fPart (S:Store) (x:D) (xs:List D):Option D:=match x,xs with
  | .str a,[.str b]=>if (b.length == 0)=false∧a.length≤1000000 then some (.tup [.str (Txt.partition a b).1, .str (Txt.partition a b).2.1, .str (Txt.partition a b).2.2]) else none
  | _,_=>none
theorem aKe:MtR X "str.partition" (MtX X fPart):=by
  intro pins s σ H x xs v us Q I rx rxs h
  obtain ⟨w,d,ds,E,rfl,R,rd,rl,P⟩:=h
  unfold fPart at P
  split at P
  · rename_i a b
    cases rd
    obtain ⟨u,rfl,ru⟩:=rl.one_inv
    cases ru
    split at P
    · rename_i hz
      exact mt_partition pins s σ w.hp _ _ v us Q I rx rxs ⟨a,b,rfl,rfl,hz.1,by rw [sizeLine_eq];omega,fun p hp=>Post.put P R hp (.tup (.inl (aBO R hp).o) (.cons (.str _) (.cons (.str _) (.cons (.str _) .nil))))⟩
    · exact False.elim P
  · exact False.elim P
def fIntS (S:Store) (ds:List D):Option D:=match ds with
  | [.str x]=>if x.length≤640 then (PySem.intText? x).map .int else none
  | _=>fInt S ds
theorem aGk:CallR X (.type "int") (CaM X fIntS):=by
  intro pins s σ H xs us Q I r h
  obtain ⟨w,ds,E,rfl,R,q,P⟩:=h
  unfold fIntS at P
  split at P
  · rename_i x
    obtain ⟨v,rfl,rv⟩:=q.one_inv
    cases rv
    split at P
    · rename_i hz
      cases e:PySem.intText? x with
      | none=>rw [e] at P;exact False.elim P
      | some n=>
        rw [e] at P
        exact call_int_str pins s σ w.hp _ us Q I r ⟨x,n,rfl,e,hz,Post.now P R (.int _)⟩
    · exact False.elim P
  · exact aP2 pins s σ w.hp _ us Q I r ⟨w,ds,E,rfl,R,q,P⟩
end
end G
namespace G
open PySem L2 PySem.Spec
end G
namespace G
open PySem L2 PySem.Spec PyProof.Rows
end G
namespace G
open PySem L2 PySem.Spec PyProof.Rows
def keyOf:Key→D
  | .inl i => .int i
  | .inr x => .str x
def fkD (S:Store):D→Option (List (Key×D))
  | .loc n=>match S[n]? with
    | some (.fk l)=>some l
    | _=>none
  | _=>none
def fsD (S:Store):D→Option (List (List Int))
  | .loc n=>match S[n]? with
    | some (.fs l)=>some l
    | _=>none
  | _=>none
def iDv (m:EM):AM:=fun e S=>(m e S).bind fun d S1=>match fkD S1 d with
  | some l => .ok (l.map fun kv=>kv.2) S1
  | none => .stuck
def iDi (m:EM):AM:=fun e S=>(m e S).bind fun d S1=>match fkD S1 d with
  | some l => .ok (l.map fun kv => .tup [keyOf kv.1,kv.2]) S1
  | none => .stuck
def iDk (m:EM):AM:=fun e S=>(m e S).bind fun d S1=>match fkD S1 d with
  | some l => .ok (l.map fun kv=>keyOf kv.1) S1
  | none => .stuck
def intsD (k:List Int):D:=.tup (k.map D.int)
def iTk (m:EM):AM:=fun e S=>(m e S).bind fun d S1=>match fsD S1 d with
  | some l => .ok (l.map intsD) S1
  | none => .stuck
section
variable {K:PySem.W.Frag}{mg:Str→Option Value}{w:Wo}
theorem RepD.keyOf (k:Key):RepD K mg w (G.keyOf k) (kV k):=by
  cases k with
  | inl i=>exact .int i
  | inr x=>exact .str x
theorem RepK.getV {κ:Type}{kvs:List (κ×D)}{us:List (κ×V)}{i:Nat}{k:κ}{v:V}:RepK κ K mg w kvs us→us[i]? = some (k,v)→∃ d,kvs[i]? = some (k,d)∧RepD K mg w d v
  | .nil,h=>by simp at h
  | .cons r t,h=>by
    cases i with
    | zero=>simp at h;obtain ⟨rfl,rfl⟩:=h;exact ⟨_,by simp,r⟩
    | succ i=>
      obtain ⟨d,e,q⟩:=RepK.getV (i:=i) t (by simpa using h)
      exact ⟨d,by simpa using e,q⟩
end
end G
namespace G
open PySem L2 PySem.Spec
end G
namespace G
open PySem L2 PySem.Spec
def addK (ks:List (List Int)) (k:List Int):List (List Int):=if k∈ks then ks else ks++[k]
def intsL:List D→Option (List Int)
  | []=>some []
  | .int i::r=>(intsL r).map (i :: ·)
  | _=>none
def intsK:D→Option (List Int)
  | .tup l=>intsL l
  | _=>none
open Classical in
noncomputable def dcR (ck:Store→Prop) (g:Tg) (t:TM) (m:EM) (e:En):List D→List (List Int)→Store→Res (List (List Int))
  | [],acc,S=>if ck S then .ok acc S else .stuck
  | d::ds,acc,S=>if ck S then match g.m d e with
    | some e1=>(noX (t e1 S)).bind fun b S2=>if b then (noX (m e1 S2)).bind fun y S3=>match intsK y with
      | some k=>if acc.length<sizeLine then dcR ck g t m e ds (addK acc k) S3 else .stuck
      | none => .stuck
      else dcR ck g t m e ds acc S2
    | none => .stuck else .stuck
def finT:List (List Int)→Store→Res D:=fun acc S => .ok (.loc S.length) (S++[.ts acc])
noncomputable def eDcT (i:CM) (g:Tg) (t:TM) (m:EM) (vs:List Nat):EM:=fun e S=>(i e S).bind fun p S1=>(dcR (okC p) g t m (wipeE e vs) p.1 [] S1).bind finT
section
variable {K:PySem.W.Frag}{mg:Str→Option Value}{w w1:Wo}
theorem shown (R1:Rep K mg w1) {p:Addr}(hp:w1.hp p=none) (R:Rep K mg w) (x1:Ex0 w1 w) (hh:w.hid=p::w1.hid) (hk:Kp w1 w) {o:HO}(hu:w.hp p=some o) {c:Cell}
    (hc:∀ w2,Ex0 w w2→w2.hp=w.hp→CellR K mg w2 p c):∃ w2:Wo,w2.hp=w.hp∧w2.st=w.st++[c]∧Ext w1 w2∧Rep K mg w2∧w2.al[w.st.length]? = some p:=by
  have hpa:p∉w.al:=(R.hid p (by rw [hh];exact List.mem_cons_self)).1
  have hph:p∉w1.hid:=R1.not_hid hp
  have xn:Ex0 w ⟨w.al++[p],w.st++[c],w.hp,w1.hid⟩:=by
    refine ⟨⟨[p],rfl⟩,fun a h => ?_,fun a u h _=>h,fun a u h=>⟨u,h⟩⟩
    rcases h with ⟨n,c',h1,h2,h3⟩ | h
    · by_cases hl:n<w.al.length
      · rw [List.getElem?_append_left hl] at h1
        rw [List.getElem?_append_left (by rw [← R.len];exact hl)] at h2
        exact .inl (.inl ⟨n,c',h1,h2,h3⟩)
      · have e:n=w.al.length:=by
          have:=(List.getElem?_eq_some_iff.mp h1).1
          simp at this;omega
        subst e
        simp at h1
        subst h1
        exact .inl (.inr (by rw [hh];exact List.mem_cons_self))
    · exact .inl (.inr (by rw [hh];exact List.mem_cons_of_mem _ h))
  refine ⟨⟨w.al++[p],w.st++[c],w.hp,w1.hid⟩,rfl,rfl,⟨x1.trans xn,rfl,hk.kh,hk.fz.trans x1.al fun n a c' h1 h2 _=>⟨?_,rfl⟩⟩,⟨?_,?_,fun a h => ?_,fun n a c' h1 h2 => ?_,fun a h => ?_⟩,?_⟩
  · show (w.st++[c])[n]? = _
    rw [List.getElem?_append_left (List.getElem?_eq_some_iff.mp h2).1];exact h2
  · show (w.al++[p]).length=(w.st++[_]).length
    rw [List.length_append,List.length_append,R.len];rfl
  · show (w.al++[p]).Nodup
    refine List.nodup_append.mpr ⟨R.nd,by simp,fun a ha b hb => ?_⟩
    rw [List.mem_singleton.mp hb]
    exact fun z=>hpa (z ▸ ha)
  · rcases List.mem_append.mp h with h | h
    · exact R.tr a h
    · rw [List.mem_singleton.mp h];exact ⟨_,hu⟩
  · by_cases hl:n<w.al.length
    · have h1:(w.al++[p])[n]? = some a:=h1
      have h2:(w.st++[c])[n]? = some c':=h2
      rw [List.getElem?_append_left hl] at h1
      rw [List.getElem?_append_left (by rw [← R.len];exact hl)] at h2
      exact (R.cell n a c' h1 h2).ext xn rfl
    · have h1:(w.al++[p])[n]? = some a:=h1
      have h2:(w.st++[c])[n]? = some c':=h2
      have e:n=w.al.length:=by
        have:=(List.getElem?_eq_some_iff.mp h1).1
        simp at this;omega
      subst e
      simp at h1
      subst h1
      rw [R.len] at h2
      simp at h2
      subst h2
      exact hc _ xn rfl
  · obtain ⟨q1,q2⟩:=R.hid a (by rw [hh];exact List.mem_cons_of_mem _ h)
    refine ⟨fun z => ?_,q2⟩
    rcases List.mem_append.mp z with z | z
    · exact q1 z
    · rw [List.mem_singleton.mp z] at h;exact hph h
  · show (w.al++[p])[w.st.length]? = some p
    rw [← R.len];simp
end
end G
namespace G
open PySem L2 PySem.Spec
def unK (l m:List (List Int)):List (List Int):=m.foldl addK l
section
variable {X:Cx}{W:WX}{a b c e o f kx:Expr}{ma mb mc mk:EM}{pos apos cpos pb:Pos}{jb:Nat}{td ty tk:TE}
def eTs1 (mk:EM):EM:=fun e S=>(mk e S).bind fun d S1=>match intsK d with
  | some k => .ok (.loc S1.length) (S1++[.ts [k]])
  | none => .stuck
def tsD (S:Store):D→Option (Nat×List (List Int))
  | .loc n=>match S[n]? with
    | some (.ts l)=>some (n,l)
    | _=>none
  | _=>none
def uR (S:Store) (x y:D):Res D:=match tsD S x,tsD S y with
  | some (n,l),some (k,m)=>if n≠k∧l≠[]∧l.length+m.length≤1000 then .ok .non (S.set n (.ts (unK l m))) else .stuck
  | _,_ => .stuck
def eTsU (mo ma:EM):EM:=fun e S=>(mo e S).bind fun x S1=>if (tsD S1 x).isSome=true then (ma e S1).bind fun y S2=>uR S2 x y else .stuck
end
end G
namespace G
open PySem L2 PySem.Spec PyProof.Rows SrtO
section
variable {X:Cx}{W:WX}
inductive Rep3 (K:PySem.W.Frag) (mg:Str→Option Value) (w:Wo):List (D×V×Value)→Prop where
  | nil:Rep3 K mg w []
  | cons {d:D}{v:V}{u:Value}{l:List (D×V×Value)}:RepD K mg w d v→RelV v u→Rep3 K mg w l→Rep3 K mg w ((d,v,u)::l)
theorem Rep3.mem {K:PySem.W.Frag}{mg:Str→Option Value}{w:Wo}{L:List (D×V×Value)}(h:Rep3 K mg w L):∀ x,x∈L→RepD K mg w x.1 x.2.1∧RelV x.2.1 x.2.2:=by
  induction h with
  | nil=>exact fun x h=>nomatch h
  | cons r q t ih=>
    intro x hx
    rcases List.mem_cons.mp hx with rfl | hx
    · exact ⟨r,q⟩
    · exact ih x hx
end
end G
namespace G
open PySem L2 PySem.Spec
section
variable {X:Cx}{W:WX}{a b c e o f:Expr}{es:List Expr}{ma mb mc me:EM}{pos apos cpos tpos:Pos}{x:Str}
def gFl (cs:List Nat) (f:Nat) (o:EM):GM:=fun d e S=>(noX (o e S)).bind fun x S1=>match stF cs f S1 x d with
  | some S2 => .ok e S2
  | none => .stuck
def sAsg2 (m:EM) (g1 g2:GM):SM:=fun e S=>sE (m e S) e fun d S1=>sE (g1 d e S1) e fun e1 S2=>sE (g2 d e1 S2) e1 fun e2 S3 => .nxt e2 S3
def sAsg3 (m:EM) (g1 g2 g3:GM):SM:=fun e S=>sE (m e S) e fun d S1=>sE (g1 d e S1) e fun e1 S2=>sE (g2 d e1 S2) e1 fun e2 S3=>sE (g3 d e2 S3) e2 fun e3 S4 => .nxt e3 S4
def augI (j:Int) (S:Store) (x y:D) (cs:List Nat) (f:Nat):Option Store:=match y with
  | .int i=>stF cs f S x (.int (i+j))
  | _=>none
def sFldA (j:Int) (cs:List Nat) (f:Nat) (o:EM):SM:=fun e S=>sE (o e S) e fun x S1=>match fldD cs f S1 x with
  | some y=>stR (augI j S1 x y cs f) e
  | none => .stuck
def dsR (S:Store) (x y z:D):Res D:=match dkD S x,keyD y with
  | some (n,kvs),some k=>match valD kvs k with
    | some d=>if kvs.length<sizeLine then .ok d S else .stuck
    | none=>if kvs.length<sizeLine then .ok z (S.set n (.dk (putKD kvs k z))) else .stuck
  | _,_ => .stuck
def eDSetd (mo my mx:EM):EM:=fun e S=>(mo e S).bind fun x S1=>if (dkD S1 x).isSome=true then (my e S1).bind fun y S2=>(mx e S2).bind fun z S3=>dsR S3 x y z else .stuck
end
end G
namespace G
open PySem L2 PySem.Spec
section
variable {X:Cx}{W:WX}{a b c e o f:Expr}{es:List Expr}{ma mb mc me:EM}{pos apos cpos tpos:Pos}{x:Str}
inductive DispR (X:Cx):List (Option Expr)→List Expr→List Str→AM→Prop where
  | nil:DispR X [] [] [] aNil
  | cons {k:Str} {j}{p:Pos}{v:Expr}{mv:EM}{ks:List (Option Expr)}{vs:List Expr}{xs:List Str}{m:AM}:RE X W0 v mv→DispR X ks vs xs m→DispR X (some (.Constant (.str k) j p)::ks) (v::vs) (k::xs) (aCons mv m)
theorem DispR.lens {ks:List (Option Expr)}{vs:List Expr}{xs:List Str}{m:AM}(h:DispR X ks vs xs m):ks.all (·.isSome)=true∧ks.length=vs.length∧ks.length=xs.length:=by
  induction h with
  | nil=>exact ⟨rfl,rfl,rfl⟩
  | cons _ _ ih=>exact ⟨by simp [ih.1],by simp [ih.2.1],by simp [ih.2.2]⟩
theorem aRZ {ks:List (Option Expr)}{vs:List Expr}{xs:List Str}{m:AM}(h:DispR X ks vs xs m):∃ trs,PPs X pos ks vs trs ∧
    ∀ (s:L2.St) (w:Wo) (en:En) (Q:List (V×V)→Hp→Prop),Rep X.K X.mg w→RepE X.K X.mg w en s→Post (RepL X.K X.mg) X.K X.mg w (m en w.st) (fun us H'=>Q ((xs.map V.str).zip us) H') (fun _ _ _=>False)→tPairs trs s w.hp Q:=by
  induction h with
  | nil=>
    refine ⟨[],pps_nil,fun s w en Q R E P => ?_⟩
    exact Post.now (Rl:=RepL X.K X.mg) (Q:=fun us H'=>Q ((List.map V.str []).zip us) H') P R RepL.nil
  | @cons k j p v mv ks vs xs m hv _ ih=>
    obtain ⟨trs,hp,hr⟩:=ih
    refine ⟨(tC (.str k),tG (RepD X.K X.mg) X W0 mv)::trs,pps_cons pe_str hv hp,fun s w en Q R E P => ?_⟩
    refine ⟨w,en,rfl,R,E,(Post.bind P).imp ?_⟩
    rintro y H1 ⟨w1,d,rfl,X1,R1,rd,P1⟩
    refine hr s w1 en _ R1 (E.ext X1.toEx0) ((Post.bind P1).imp ?_)
    rintro us H2 ⟨w2,ds,rfl,X2,R2,rds,P2⟩
    exact Post.now (Rl:=RepL X.K X.mg) (Q:=fun us H'=>Q ((List.map V.str (k::xs)).zip us) H') P2 R2 (RepL.cons (rd.ext X2.toEx0) rds)
theorem aR_ {kvs:List (Key×V)}{k:Key}{v:V}(h:k∉kvs.map (·.1)):putK kvs k v=kvs++[(k,v)]:=by
  unfold putK
  rw [if_neg]
  intro z
  obtain ⟨p,hp,e⟩:=List.any_eq_true.mp z
  exact h (List.mem_map.mpr ⟨p,hp,by simpa using e⟩)
theorem aII:∀ (more kvs:List (Key×V)),(kvs.map (·.1)++more.map (·.1)).Nodup→mergeK kvs more=kvs++more
  | [],kvs,_=>by show kvs=kvs++[];rw [List.append_nil]
  | p::r,kvs,h=>by
    show mergeK (putK kvs p.1 p.2) r=_
    have hn:p.1∉kvs.map (·.1):=fun z=>(List.nodup_append.mp h).2.2 _ z _ List.mem_cons_self rfl
    rw [aR_ hn,aII r _ (by rw [List.map_append,List.append_assoc];exact h),List.append_assoc];rfl
def strK (xs:List Str):List Key:=xs.map .inr
def eDisp (xs:List Str) (m:AM):EM:=fun e S=>(noX (m e S)).bind fun ds S1 => .ok (.loc S1.length) (S1++[.dk ((strK xs).zip ds)])
theorem aSS:∀ (xs:List Str) (us:List V),(xs.map V.str).zip us=((strK xs).zip us).map fun kv=>(kV kv.1,kv.2)
  | [],us=>rfl
  | _::_,[]=>rfl
  | x::xs,u::us=>by
    show (V.str x,u)::(xs.map V.str).zip us=_::((strK xs).zip us).map _
    rw [aSS xs us];rfl
theorem aPQ {α β:Type}:∀ (l:List α) (m:List β),((l.zip m).map (·.1)).Sublist l
  | [],_ => .slnil
  | a::l,[]=>List.nil_sublist _
  | a::l,b::m=>(aPQ l m).cons₂ a
theorem aPR {ks:List (Option Expr)}{vs:List Expr}{xs:List Str}{m:AM}(h:DispR X ks vs xs m) (h0:ks≠[]) (h15:ks.length≤15) (hnd:(strK xs).Nodup):RE X W (.Dict ks vs pos) (eDisp xs m):=by
  obtain ⟨l1,l2,l3⟩:=h.lens
  obtain ⟨trs,hp,hr⟩:=aRZ (pos:=pos) h
  refine aAV (pe_disp hp l1 l2 h0 h15) ?_
  rintro s H Q ⟨w,en,rfl,R,E,P⟩
  intro p hpn
  refine hr s (w.hide p (.dK [])) en _ (R.hide hpn) (E.ext (aJd R hpn)) ?_
  show Post _ _ _ _ (m en w.st) _ _
  unfold eDisp at P
  cases hm:m en w.st with
  | exc d S=>rw [hm] at P;exact False.elim P
  | stuck=>rw [hm] at P;exact False.elim P
  | ok ds S=>
    rw [hm] at P
    intro w2 us x2 R2 st2 rds
    have hh:w2.hid=p::w.hid:=x2.hid
    have hup:w2.hp p=some (.dK []):=(x2.kh p (by show p∈p::w.hid;exact List.mem_cons_self)).trans upd_same
    have pm:p∈w2.hid:=by rw [hh];exact List.mem_cons_self
    have xh:=aJd (o:=.dK []) R hpn
    have xg:=aP6 (o:=.dK ((strK xs).zip us)) pm
    have kp:Kp w (w2.gro p (.dK ((strK xs).zip us))):=by
      refine ⟨fun a ha => ?_,((aP7 R hpn).trans xh.al x2.fz).trans (xh.trans x2.toEx0).al (aSL R2 pm)⟩
      have na:a≠p:=fun z=>by
        subst z
        obtain ⟨_,o,ho⟩:=R.hid a ha
        rw [hpn] at ho;cases ho
      refine Eq.trans (show upd w2.hp p _ a=w2.hp a from upd_ne na) ((x2.kh a (List.mem_cons_of_mem _ ha)).trans ?_)
      exact upd_ne na
    have aux:∀ us':List V,RepL X.K X.mg w2 ds us'→((strK xs).zip us').length≤15:=fun us' _=>by
      rw [List.length_zip]
      have:(strK xs).length=xs.length:=by unfold strK;rw [List.length_map]
      omega
    have em:mergeK [] ((strK xs).zip us)=(strK xs).zip us:=aII _ _ (by
      rw [List.map_nil,List.nil_append]
      exact List.Nodup.sublist (aPQ _ _) hnd)
    refine ⟨hup,(strK xs).zip us,aSS xs us,aux us rds,?_⟩
    rw [em]
    obtain ⟨w3,e1,e2,X3,R3,hal⟩:=shown (c:=.dk ((strK xs).zip ds)) R hpn (R2.gro pm) ((xh.trans x2.toEx0).trans xg) hh kp upd_same fun w3 x3 e3=>⟨_,by rw [e3];exact upd_same,RepK.zip ((rds.ext xg).ext x3)⟩
    have st2':w2.st=S:=st2
    replace hal:w3.al[w2.st.length]? = some p:=hal
    replace e2:w3.st=w2.st++[.dk ((strK xs).zip ds)]:=e2
    rw [st2'] at hal e2
    have:=P w3 (.ref p) X3 R3 e2 (.loc hal)
    rw [e1] at this
    exact this
end
end G
namespace G
open PySem L2 PySem.Spec PyProof.Rows PySem.SeqAt
end G
namespace G
open PySem L2 PySem.Spec PyProof.Rows PySem.SeqAt PySem.W
def hitD (S:Store) (kvs':List (Key×D)):List (Key×D)→Option Bool
  | []=>some true
  | (k,d)::r=>match valD kvs' k with
    | none=>some false
    | some d'=>match eqS S d d',hitD S kvs' r with
      | some e,some b=>some (e && b)
      | _,_=>none
def eqRm (co:Option Nat) (S:Store):D→D→Option Bool
  | .loc n, .loc m=>if n=m then some true else match S[n]?,S[m]? with
    | some (.obj c _),some (.obj c' _)=>if co=some c∧c'=c then some false else none
    | some (.dk a),some (.dk b)=>(hitD S b a).map fun r=>a.length == b.length && r
    | _,_=>none
  | _,_=>none
def rmI (co:Option Nat) (S:Store) (x:D):List D→Option Nat
  | []=>none
  | d::l=>match eqRm co S d x with
    | some true=>some 0
    | some false=>(rmI co S x l).map (· + 1)
    | none=>none
def rmR (co:Option Nat) (x:D) (xs:List D) (S:Store):Res D:=match x,xs with
  | .loc n,[y]=>match S[n]? with
    | some (.lst l)=>match rmI co S y l with
      | some j => .ok .non (S.set n (.lst (l.eraseIdx j)))
      | none => .stuck
    | _ => .stuck
  | _,_ => .stuck
def eRem (co:Option Nat) (a:EM) (m:AM):EM:=fun e S=>(a e S).bind fun x S1=>if isLst S1 x then (m e S1).bind fun xs S2=>rmR co x xs S2 else .stuck
end G
namespace G
open PySem L2 PySem.Spec PyProof.Rows
end G
namespace G
open PySem L2 PySem.Spec PyProof.Rows
section
variable {X:Cx}{W:WX}{a b c e o:Expr}{es:List Expr}{ma mb mc me:EM}{ta tb:TM}{pos:Pos}{x:Str}{p:Pos}{j k:Nat}{ps ks:List Str}{f:FM}
def sPar3 (i j l:Nat) (m:AM):SM:=fun e S=>sE (m e S) e fun ds S1=>match ds with
  | [x,y,z] => .nxt (((e.set i (some x)).set j (some y)).set l (some z)) S1
  | _ => .stuck
end
end G
namespace G
open PySem L2 PySem.Spec PyProof.Rows PySem.SeqAt
end G
namespace G
open PySem L2 PySem.Spec
end G
namespace G
open PySem PySem.W
end G
namespace G
open PySem L2 PySem.Spec PyProof.Rows
end G
namespace G
open PySem PySem.W HandSHeadRun
end G
namespace G
open PySem L2 PySem.Spec PyProof.Rows
def eEqO (neg:Bool) (cn:Nat) (f:FM) (gD:List D→List D→List D) (a b:EM):EM:=fun e S=>(a e S).bind fun x S1=>(b e S1).bind fun y S2=>eqO neg cn f gD x y S2
end G
namespace G
open PySem L2 PySem.Spec PyProof.Rows
def insR (x:D) (xs:List D) (S:Store):Res D:=match x,xs with
  | .loc n,[.int i,y]=>match S[n]? with
    | some (.lst l)=>if l.length<sizeLine∧0≤i∧i<2 ^ 62 then .ok .non (S.set n (.lst (l.take i.toNat++[y]++l.drop i.toNat))) else .stuck
    | _ => .stuck
  | _,_ => .stuck
def eIns (a:EM) (m:AM):EM:=fun e S=>(a e S).bind fun x S1=>if isLst S1 x then (m e S1).bind fun xs S2=>insR x xs S2 else .stuck
end G
namespace G
open PySem L2 PySem.Spec PyProof.Rows
end G
namespace G
open PySem L2 PySem.Spec PyProof.Rows
structure TabK (K:PySem.W.Frag) (w0:World) (mg:Str→Option Value) (x:Str) (kvs:List (Str×D)):Prop where
  ex:∃ a es n,mg x=some (.ref a)∧L2.KDict K w0 a es n∧(∀ z d,kvs.lookup z=some d→∃ u v,PySem.W.nsIn K a z=some (some u)∧RelV v u∧∀ wo,RepD K mg wo d v)∧∀ z,kvs.lookup z=none→PySem.W.nsIn K a z=some none
structure TabG (K:PySem.W.Frag) (w0:World) (mg:Str→Option Value) (x:Str) (ks:List (Str×Str)):Prop where
  ex:∃ a es n,mg x=some (.ref a)∧L2.KDict K w0 a es n∧∀ z g,ks.lookup z=some g→∃ f,PySem.W.nsIn K a z=some (some (.ref f))∧mg g=some (.ref f)
def eTabIx (kvs:List (Str×D)) (mb:EM):EM:=fun e S=>(mb e S).bind fun x S1=>match x with
  | .str z=>lf (kvs.lookup z) S1
  | _ => .stuck
def eTabIn (neg:Bool) (kvs:List (Str×D)) (mb:EM):EM:=fun e S=>(mb e S).bind fun x S1=>match x with
  | .str z => .ok (.bl (if neg=true then !(kvs.lookup z).isSome else (kvs.lookup z).isSome)) S1
  | _ => .stuck
def sTabCall (i:Nat) (fs:List (Str×Nat×FM)) (mb:EM) (mp:AM):SM:=fun e S=>sE (mb e S) e fun x S1=>match x with
  | .str z=>match fs.lookup z with
    | some q=>if i<e.length then sE (mp e S1) (e.set i none) fun ds S2=>if ds.length=q.1 then sE (q.2 ds S2) (e.set i none) fun d S3 => .ret d S3 else .stuck else .stuck
    | none => .stuck
  | _ => .stuck
section
variable {X:Cx}{W:WX}{a b c e o:Expr}{es:List Expr}{ma mb mc me:EM}{ta tb:TM}{pos:Pos}{x:Str}{p:Pos}{j k:Nat}{ps ks:List Str}{f:FM}{kvs:List (Str×D)}
theorem aJk (T:TabK X.K X.w X.mg x kvs) (hb:RE X W b mb) (hg:Gl X x:=by rfl) (hs:PlainIx b:=by intro _ _;rfl) (hd:(x == ("__debug__":Str))=false:=by decide):RE X W (.Subscript (.Name x p) b pos) (eTabIx kvs mb):=by
  obtain ⟨a,es,n,hm,D,h1,_⟩:=T.ex
  refine aAV (pe_ix ix_kdict (pe_glob (v:=.ref a) hg hm rfl hd) hb hs) ?_
  rintro s H Q ⟨w,en,rfl,R,E,P⟩
  refine ⟨w,en,rfl,R,E,(Post.bind P).imp ?_⟩
  rintro v H1 ⟨w1,d,rfl,X1,R1,rx,P1⟩
  cases d with
  | str z=>
    cases rx
    dsimp only at P1
    cases q:kvs.lookup z with
    | none=>rw [q] at P1;exact False.elim P1
    | some d=>
      rw [q] at P1
      obtain ⟨u,v,e1,rv,rd⟩:=h1 z d q
      exact ⟨a,z,v,rfl,rfl,⟨es,n,u,D.at_,D.lit,e1,rv⟩,Post.now P1 R1 (rd w1)⟩
  | _=>exact False.elim P1
theorem aTI {neg:Bool}{a:Addr}{es:Array DictEntry}{n:Nat}(D:L2.KDict X.K X.w a es n) (h1:∀ z d,kvs.lookup z=some d→∃ u v,PySem.W.nsIn X.K a z=some (some u)∧RelV v u∧∀ wo,RepD X.K X.mg wo d v) (h2:∀ z,kvs.lookup z=none→PySem.W.nsIn X.K a z=some none) :
    ∀ s H Q,tG (RepD X.K X.mg) X W (eTabIn neg kvs mb) s H Q→tOp (fun x y H Q=>∃ (z:Str) (r:Option Value),x = .str z∧y = .ref a∧PySem.W.nsIn X.K a z=some r∧Q (.bl (if neg=true then !r.isSome else r.isSome)) H) (tG (RepD X.K X.mg) X W mb) (tC (.ref a)) s H Q:=by
  rintro s H Q ⟨w,en,rfl,R,E,P⟩
  refine ⟨w,en,rfl,R,E,(Post.bind P).imp ?_⟩
  rintro v H1 ⟨w1,d,rfl,X1,R1,rx,P1⟩
  cases d with
  | str z=>
    cases rx
    dsimp only at P1
    cases q:kvs.lookup z with
    | none=>
      rw [q] at P1
      exact ⟨z,none,rfl,rfl,h2 z q,Post.now P1 R1 (.bl _)⟩
    | some d=>
      rw [q] at P1
      obtain ⟨u,v,e1,rv,rd⟩:=h1 z d q
      exact ⟨z,some u,rfl,rfl,e1,Post.now P1 R1 (.bl _)⟩
  | _=>exact False.elim P1
theorem aLM {neg:Bool}{op:CmpOp}{a:Addr}{es:Array DictEntry}{n:Nat}(D:L2.KDict X.K X.w a es n) (h1:∀ z d,kvs.lookup z=some d→∃ u v,PySem.W.nsIn X.K a z=some (some u)∧RelV v u∧∀ wo,RepD X.K X.mg wo d v) (h2:∀ z,kvs.lookup z=none→PySem.W.nsIn X.K a z=some none)
    (ho:OpR X (compareOp op) (fun x y H Q=>∃ (z:Str) (r:Option Value),x = .str z∧y = .ref a∧PySem.W.nsIn X.K a z=some r∧Q (.bl (if neg=true then !r.isSome else r.isSome)) H)) (hb:RE X W b mb) (hn:PE X c (tC (.ref a))) (hm:behindInMarks op c=false):RT X W (.Compare b [op] [c] pos) (tB (eTabIn neg kvs mb)):=by
  refine aIF (pt_cmpR ho hb hn hm) ?_
  rintro s H Q ⟨w,en,rfl,R,E,P⟩
  refine aTI (neg:=neg) D h1 h2 s w.hp _ ⟨w,en,rfl,R,E,(Post.bind P).imp ?_⟩
  rintro v H1 ⟨w1,x,rfl,X1,R1,rx,P1⟩
  cases x with
  | bl b=>cases rx;exact ⟨b,rfl,Post.now P1 R1 rfl⟩
  | _=>exact False.elim P1
theorem aHc (T:TabK X.K X.w X.mg x kvs) (hb:RE X W b mb) (hg:Gl X x:=by rfl) (hd:(x == ("__debug__":Str))=false:=by decide):RT X W (.Compare b [.NotIn] [.Name x p] pos) (tB (eTabIn true kvs mb)):=by
  obtain ⟨a,es,n,hm,D,h1,h2⟩:=T.ex
  exact aLM (neg:=true) D h1 h2 (op_notIn_kd D) hb (pe_glob (v:=.ref a) hg hm rfl hd) rfl
def tCallF (X:Cx) (W:WX) (k i:Nat) (mp:AM):TE:=fun σ H Q=>∃ (fa:Addr) (fd:FuncData) (ps:List Str) (j:Nat) (f:FM) (w:Wo) (en:En),σ[i]? = some (some (.ref fa))∧PySem.W.keepIn X.K (.ref fa)=true∧Binds X.K fd ps []∧FnG X.prog X.w X.K X.mg X.base j fa fd ps (spM X.K X.mg ps.length f)∧j≤k ∧
  w.hp=H∧Rep X.K X.mg w∧RepE X.K X.mg w en σ∧Post (RepD X.K X.mg) X.K X.mg w ((mp en w.st).bind fun ds S=>if ds.length=ps.length then f ds S else .stuck) Q (fun cls dd H'=>W cls dd σ H')
theorem aSa {i:Nat}{nm:Str}{mp:AM}{p1 p2:Pos}(c:Cg X W k) (hN:X.N[i]? = some nm) (ha:RA X W (e::es) mp) (hv:Vis X.env.scope nm:=by first | exact .inl rfl | exact .inr (.inl rfl) | exact .inr (.inr rfl)) (hd:(nm == ("__debug__":Str))=false:=by decide) (hcd:(nm == ("__classdict__":Str))=false:=by decide)
    (he:starEach (e::es) X.env=(false,eval e X.env)::starEach es X.env:=by rfl) (hpl:(backTo p2 (starEach es X.env)).any (·.1)=false:=by rfl):PE X (.Call (.Name nm p1) (e::es) [] p2) (tCallF X W k i mp):=by
  refine ⟨fun pins s σ H Q I h => ?_⟩
  obtain ⟨fa,fd,ps,j,f,w,en,hs,h2,h3,h4,hj,rfl,R,E,P⟩:=h
  refine wpAny_Call_Name_kw (thn ((pe_var (pos:=p1) (i:=i) hN hv hd hcd).run pins s σ w.hp (fun v H1=>v = .ref fa∧H1=w.hp) I ⟨.ref fa,hs,rfl,rfl⟩) ?_)
  rintro u s1 ⟨v,H1,I1,r1,rfl,rfl⟩
  obtain rfl:u=Value.ref fa:=r1
  refine PySem.W.callWith_K (h₀:=X.base) I1.ok.mod.kin h2 ?_ he hpl
  refine thn (ha.run p2 pins s1 σ w.hp _ I1 ⟨w,en,rfl,R,E,Post.bind P⟩) ?_
  rintro us s2 ⟨vs,H2,I2,r,w2,ds,rfl,X2,R2,rl,P2⟩
  dsimp only at P2
  split at P2
  · rename_i hl
    have hl2:vs.length=ps.length:=by rw [← rl.length,hl]
    have b:=h3 s2 us I2.kIn (by rw [List.append_nil,← r.length];exact hl2)
    rw [List.append_nil] at b
    refine ⟨I2.kIn,wpAny_call (codeAny_mono (aSM (E:=WE W) h4 (c.rm.mono hj) b (passAt c.tk σ) I2 r ⟨hl2,w2,ds,rfl,R2,rl,P2⟩) ?_)⟩
    intro res s' z
    cases res with
    | error y=>exact z
    | ok fl=>
      cases fl with
      | ret u=>exact z
      | _=>exact False.elim z
  · exact False.elim P2
def Off {β:Type}(i:Nat) (m:En→Store→Res β):Prop:=∀ (en:En) (d:Option D) (S:Store),m (en.set i d) S=m en S
theorem aSb {i j:Nat}(h:i≠j):Off i (eVar j):=fun en d S=>by
  unfold eVar
  rw [List.getElem?_set_ne h]
theorem aSc {i:Nat}:Off i aNil:=fun _ _ _=>rfl
theorem aPS {i:Nat}{a:EM}{as:AM}(h:Off i a) (h':Off i as):Off i (aCons a as):=fun en d S=>by
  unfold aCons
  rw [h en d S]
  congr
  funext x S1
  rw [h' en d S1]
theorem RepE.off {w:Wo}{en:En}{s:L2.St}(h:RepE X.K X.mg w en s) (i:Nat) (u:V):RepE X.K X.mg w (en.set i none) (s.set i (some u)):=by
  refine ⟨by rw [List.length_set,List.length_set];exact h.len,fun j d g => ?_⟩
  rw [List.getElem?_set] at g
  split at g
  · split at g<;>cases g
  · rename_i hj
    obtain ⟨v,h1,h2⟩:=h.get j d g
    exact ⟨v,by rw [List.getElem?_set_ne hj];exact h1,h2⟩
theorem aLN {i:Nat}{look:Str}{mp:AM}{p0 p1 p2 p3 p4 p5 p6:Pos}{ks':List (Str×Str)}{fs:List (Str×Nat×FM)}(c:Cg X W k) (T:TabG X.K X.w X.mg x ks') (F:FsOk X.prog X.w X.K X.mg X.base k ks' fs) (hi:X.N[i]? = some look) (hb:RE X W b mb) (ha:RA X W (e::es) mp)
    (hmp:∀ (en:En) (d:Option D) (S:Store),mp (en.set i d) S=mp en S)
    (hg:Gl X x:=by rfl) (hs:PlainIx b:=by intro _ _;rfl) (hdx:(x == ("__debug__":Str))=false:=by decide)
    (hx:Loc X.env.scope look:=by first | exact Or.inl rfl | exact Or.inr rfl) (hsw:swapsWith (.Subscript (.Name x p3) b p4) (some (.Name look p0)) p5.line X.env=pure false:=by rfl) (hf:X.fn look=true∨X.env.scope.names.lookup look=some .local:=by first | exact .inl rfl | exact .inr rfl | assumption)
    (hv:Vis X.env.scope look:=by first | exact .inl rfl | exact .inr (.inl rfl) | exact .inr (.inr rfl)) (hd:(look == ("__debug__":Str))=false:=by decide) (hcd:(look == ("__classdict__":Str))=false:=by decide)
    (he:starEach (e::es) X.env=(false,eval e X.env)::starEach es X.env:=by rfl) (hpl:(backTo p2 (starEach es X.env)).any (·.1)=false:=by rfl) :
    RSs X W [.Assign [.Name look p0] (.Subscript (.Name x p3) b p4) p5, .Return (some (.Call (.Name look p1) (e::es) [] p2)) p6] (sTabCall i fs mb mp):=by
  obtain ⟨a,ens,n,hm,D,h1⟩:=T.ex
  refine aJb (pss_cons (ps_set c.nd hi hx (pe_ix ix_kdict (pe_glob (v:=.ref a) hg hm rfl hdx) hb hs) hsw hf) (pss_one (ps_ret (aSa c hi ha hv hd hcd he hpl)))) ?_
  rintro D' s H ⟨w,en,rfl,R,E,P⟩
  refine ⟨w,en,rfl,R,E,(PostS.of P E).imp ?_⟩
  rintro v H1 ⟨w1,d,rfl,X1,R1,rx,P1⟩
  cases d with
  | str z=>
    cases rx
    dsimp only at P1
    cases q:fs.lookup z with
    | none=>rw [q] at P1;exact False.elim P1
    | some q'=>
      rw [q] at P1
      dsimp only at P1
      split at P1
      · rename_i hlen
        obtain ⟨g,ps,j,hz,hj,hl,hF⟩:=F.get q
        obtain ⟨f,e1,e2⟩:=h1 z g hz
        obtain ⟨fa,fd,m1,m2,m3,m4⟩:=hF.ex
        obtain rfl:fa=f:=by cases m1.symm.trans e2;rfl
        have E1:=E.ext X1.toEx0
        refine ⟨a,z, .ref fa,rfl,rfl,⟨ens,n,_,D.at_,D.lit,e1,rfl⟩,?_⟩
        have E2:=E1.off i (.ref fa)
        refine ⟨fa,fd,ps,j,q'.2,w1,en.set i none,by rw [List.getElem?_set_self (by rw [← E.len];exact hlen)],m2,m3,m4,hj,rfl,R1,E2,?_⟩
        rw [hmp]
        cases r:mp en w1.st with
        | stuck=>rw [r] at P1;exact False.elim P1
        | exc y S=>rw [r] at P1;exact fun w' cls dd x R st q=>P1 w' _ cls dd x R st (E2.ext x.toEx0) q
        | ok ds S=>
          rw [r] at P1
          have P2:PostS X W w1 (if ds.length=q'.1 then sE (q'.2 ds S) (en.set i none) fun d S3 => .ret d S3 else .stuck) D':=P1
          show Post _ _ _ _ (if ds.length=ps.length then q'.2 ds S else .stuck) _ _
          rw [hl]
          split at P2
          · rename_i hl2
            rw [if_pos hl2]
            cases r2:q'.2 ds S with
            | stuck=>rw [r2] at P2;exact False.elim P2
            | exc y S=>rw [r2] at P2;exact fun w' cls dd x R st q=>P2 w' _ cls dd x R st (E2.ext x.toEx0) q
            | ok d S3=>rw [r2] at P2;exact P2
          · exact False.elim P2
      · exact False.elim P1
  | _=>exact False.elim P1
end
end G
namespace G
open PySem L2 PySem.Spec PyProof.Rows
theorem aTJ (n:Nat) (fx:List Fx) (fn:List He.DefD) (tf:List He.Defn) (ts:List TabE) (s:PySem.W.SharedT):obUT n fx fn tf ts s=(hookU n fx fn tf ts).obs s.abs:=by
  have e:HandSHeadRun.getT s=s.abs.heap.get? := funext (HandSHeadRun.getT_eq s)
  unfold obUT
  rw [e]
  rfl
theorem aPT {l:PySem.W.OpenLaw}{k:Nat}{q:Program}{loose:List Str}{XP:(Str→Option Value)→Heap→Prop}{YP:World→Heap→Prop}{d:DefRec}{x:Str}{fx:List Fx}{fn:List He.DefD}{ts:List Mk2}{td:List TabE}
    (hn:l.most=some 63) (hdf:d.params.defaults = []) (hd:d.name="law") (hr:Room k callerA) (hY:∀ (w:World) (h:Heap),YP w h→∃ K:PySem.W.Frag,K.In h∧SaysT fx fn (ts.map (·.1)) h K∧SaysK td w K)
    (F:∀ (w:World) (mg:Str→Option Value) (fa:Addr) (h:Heap) (K:PySem.W.Frag),K.In h→SaysX fx fn K→SaysK td w K→h.Ns mainGlobals mg→mg "law"=some (.ref fa) →
      ∃ fd:FuncData,(∀ (s:Shared) (v:Value),BindsTo s fd ⟨[v],[]⟩ [(x,v)])∧∀ base:Heap,K.In base→base.Ns mainGlobals mg→TBs K mg base ts→FnG l.prog w K mg base k fa fd [x] (spLawT K ts)) :
    PySem.W.WalkO q loose XP YP l.row.toRowW d [] (fun f vs=>PySem.call f vs):=by
  refine Att.attach_call hn hdf fun w s₀ s₁ mg mb fa o pm cd doc a vs ns G Y ho hd' hcd hmg hobj hints hlen hg => ?_
  obtain ⟨K,KX,c,cd'⟩:=hY w _ Y
  rw [hd] at hmg
  obtain ⟨fd,hb,hF⟩:=F w mg fa _ K KX c.s cd' G.T.g hmg
  refine aPF KX G.T.g G.T.b G.T.builtins G.T.nolimit hg G.T.bmain (fun q hq=>c.hd _ (List.mem_map.mpr ⟨q,hq,rfl⟩)) (fun b hb => ?_) (fun b hb => ?_) hobj hints hlen hr hF hb
  · obtain ⟨q,hq,rfl⟩:=List.mem_map.mp hb
    exact c.out _ (List.mem_map.mpr ⟨q,hq,rfl⟩)
  · obtain ⟨q,hq,rfl⟩:=List.mem_map.mp hb
    exact c.empty _ (List.mem_map.mpr ⟨q,hq,rfl⟩)
theorem aNL {ts:List TabE}{w0:World}{K:PySem.W.Frag}(c:SaysK ts w0 K) (i:Nat) {t:TabE}(h:ts[i]? = some t:=by rfl):He.dicW K (He.ga K t.1)=some (He.keysIn w0.params t.2):=by
  have e2:(ts.map (fun t=>He.dicW K (He.ga K t.1)))[i]? = (ts.map fun t=>some (He.keysIn w0.params t.2))[i]? := by
    unfold SaysK at c
    rw [c]
  rw [List.getElem?_map,List.getElem?_map,h] at e2
  exact Option.some.inj e2
theorem aKf {P:Params}{z:Str}:∀ {l:List DictEntry}{ks:List Str},l.map He.keyOf=He.keysIn P ks→z∉ks→l.find? (fun e=>e.key.isStr z)=none∧l.any (·.refKey)=false
  | [],_,_,_=>⟨rfl,rfl⟩
  | e::r,[],h,_=>by cases h
  | e::r,k::ks,h,hz=>by
    have h1:He.keyOf e::r.map He.keyOf=some (k,PyData.keyHash P k)::He.keysIn P ks:=h
    injection h1 with h2 h3
    obtain ⟨i1,i2⟩:=aKf h3 fun q=>hz (List.mem_cons_of_mem _ q)
    unfold He.keyOf at h2
    split at h2
    · rename_i x t q
      have h4:=Option.some.inj h2
      obtain ⟨h5,h6⟩:=Prod.mk.inj h4
      have hne:(e.key.isStr z)=false:=by
        rw [q]
        show (x == z)=false
        rw [h5]
        exact beq_false_of_ne fun y=>hz (by rw [← y];exact List.mem_cons_self)
      have hrk:e.refKey=false:=by simp [DictEntry.refKey,q]
      refine ⟨by rw [List.find?_cons,hne];exact i1,by rw [List.any_cons,hrk,i2];rfl⟩
    · cases h2
theorem aPU {K:PySem.W.Frag}{w0:World}{a:Addr}{ks:List Str}(h:He.dicW K a=some (He.keysIn w0.params ks)) {z:Str}(hz:z∉ks):PySem.W.nsIn K a z=some none:=by
  obtain ⟨es,n,D⟩:=He.dicW_ok h
  have e:He.dicW K a=some (es.toList.map He.keyOf):=by
    unfold He.dicW
    rw [D.at_]
    have low:=D.low
    show (match decide ("dict"="dict") && ((#[]:Array (Option Value)).isEmpty && !(a == sysModules)) with
      | true=>some (es.toList.map He.keyOf)
      | false=>none)=_
    rw [low];rfl
  obtain ⟨m1,m2⟩:=aKf (Option.some.inj (e.symm.trans h)) hz
  unfold PySem.W.nsIn
  rw [D.at_]
  dsimp only
  rw [m1]
  dsimp only
  rw [m2];rfl
def TV.d:TV→D
  | .strs l => .tup (l.map .str)
  | .int i => .int i
theorem aNM {K:PySem.W.Frag}{mg:Str→Option Value}{wo:Wo}:∀ l:List Str,RepL K mg wo (l.map D.str) (l.map V.str)
  | [] => .nil
  | x::l => .cons (.str x) (aNM l)
theorem aVP {K:PySem.W.Frag}{mg:Str→Option Value}{u:Value}:∀ {t:TV},tvB K u t=true→∃ v,RelV v u∧∀ wo,RepD K mg wo t.d v
  | .int i,h=>⟨.int i,He.relB_ok h,fun _ => .int i⟩
  | .strs l,h=>by
    unfold tvB at h
    cases u with
    | ref t=>
      dsimp only at h
      cases q:K.lookup t with
      | none=>rw [q] at h;cases h
      | some o=>
        obtain ⟨oc,od,dt,osl⟩:=o
        rw [q] at h
        cases oc with
        | type c=>
          cases dt with
          | seq its n=>
            obtain ⟨h1,h2⟩:=He.ba (show (decide (c="tuple") && (decide (its.size≤sizeLine) && He.relAll (l.map V.str) its.toList))=true from h)
            obtain ⟨h3,h4⟩:=He.ba h2
            exact ⟨.ref t,rfl,fun wo => .tup (.inr ⟨_,its,n,q,congrArg Value.type (of_decide_eq_true h1),rfl,of_decide_eq_true h3,He.relAll_ok h4⟩) (aNM l)⟩
          | _=>cases h
        | _=>cases dt<;>cases h
    | _=>cases h
def tabD (kvs:List (Str×TV)):List (Str×D):=kvs.map fun q=>(q.1,q.2.d)
theorem aLO {kvs:List (Str×TV)}{z:Str}{d:D}(h:(tabD kvs).lookup z=some d):∃ t,(z,t)∈kvs∧d=t.d:=by
  unfold tabD at h
  induction kvs with
  | nil=>cases h
  | cons q kvs ih=>
    rw [List.map_cons,List.lookup_cons] at h
    cases c:z == q.1 with
    | true=>
      rw [c] at h
      cases h
      exact ⟨q.2,by rw [beq_iff_eq.mp c];exact List.mem_cons_self,rfl⟩
    | false=>
      rw [c] at h
      obtain ⟨t,h1,h2⟩:=ih h
      exact ⟨t,List.mem_cons_of_mem _ h1,h2⟩
theorem aHd {β:Type}:∀ {l:List (Str×β)}{z:Str},l.lookup z=none→z∉l.map (·.1)
  | [],_,_=>by simp
  | q::l,z,h=>by
    rw [List.lookup_cons] at h
    cases c:z == q.1 with
    | true=>rw [c] at h;cases h
    | false=>
      rw [c] at h
      rw [List.map_cons,List.mem_cons]
      rintro (e | e)
      · rw [e,beq_self_eq_true] at c;cases c
      · exact aHd h e
theorem aTK {K:PySem.W.Frag}{w0:World}{mg:Str→Option Value}{x:Str}{kvs:List (Str×TV)}(hm:mg x=some (.ref (He.ga K x))) (hk:He.dicW K (He.ga K x)=some (He.keysIn w0.params (kvs.map (·.1)))) (hv:tabVB x kvs K=true):TabK K w0 mg x (tabD kvs):=by
  obtain ⟨es,n,D⟩:=He.dicW_ok hk
  refine ⟨_,es,n,hm,D,fun z d h => ?_,fun z h=>aPU hk ?_⟩
  · obtain ⟨t,ht,rfl⟩:=aLO h
    have h2:=List.all_eq_true.mp hv _ ht
    dsimp only at h2
    cases e:PySem.W.nsIn K (He.ga K x) z with
    | none=>rw [e] at h2;cases h2
    | some r=>
      rw [e] at h2
      cases r with
      | none=>cases h2
      | some u=>
        obtain ⟨v,r1,r2⟩:=aVP (mg:=mg) h2
        exact ⟨u,v,rfl,r1,r2⟩
  · have:=aHd h
    unfold tabD at this
    rw [List.map_map] at this
    exact this
theorem aHe {β:Type}:∀ {l:List (Str×β)}{z:Str}{g:β},l.lookup z=some g→(z,g)∈l
  | [],_,_,h=>by cases h
  | q::l,z,g,h=>by
    rw [List.lookup_cons] at h
    cases c:z == q.1 with
    | true=>
      rw [c] at h
      cases h
      rw [beq_iff_eq.mp c];exact List.mem_cons_self
    | false=>
      rw [c] at h
      exact List.mem_cons_of_mem _ (aHe h)
theorem aTL {K:PySem.W.Frag}{w0:World}{mg:Str→Option Value}{x:Str}{ks:List (Str×Str)}(hm:mg x=some (.ref (He.ga K x))) (hk:He.dicW K (He.ga K x)=some (He.keysIn w0.params (ks.map (·.1)))) (hv:tabGB x ks K=true) (hg:∀ q,q∈ks→mg q.2=some (.ref (He.ga K q.2))):TabG K w0 mg x ks:=by
  obtain ⟨es,n,D⟩:=He.dicW_ok hk
  refine ⟨_,es,n,hm,D,fun z g h => ?_⟩
  have hq:=aHe h
  have h2:=List.all_eq_true.mp hv _ hq
  dsimp only at h2
  have h3:=hg _ hq
  split at h2
  · rename_i f e
    rw [of_decide_eq_true h2] at e
    exact ⟨_,e,h3⟩
  · cases h2
end G
namespace G
open PySem L2 PySem.Spec PyProof.Rows
section
variable {X:Cx}{W:WX}{a b c e o:Expr}{es:List Expr}{ma mb mc me:EM}{pos:Pos}
def slN (S:Store):D→Option Int→Option Int→Option (List D)
  | .lst l,lo,hi=>some (cutL l lo hi)
  | .loc n,lo,hi=>match S[n]? with
    | some (.lst l)=>some (cutL l lo hi)
    | _=>none
  | _,_,_=>none
def slR (S:Store) (x:D) (lo hi:Option Int):Res D:=(lf (slN S x lo hi) S).bind fun l S2 => .ok (.loc S2.length) (S2++[.lst l])
def eSlN (a:EM) (lo hi:OM):EM:=fun e S=>(a e S).bind fun x S1=>(lo e S1).bind fun l S2=>(hi e S2).bind fun h S3=>slR S3 x l h
end
end G
namespace G
open PySem L2 PySem.Spec PyProof.Rows RZ
structure Wk (prog:Program) (w:World) (it l:Addr) (At:Heap→Nat→Prop) (Has:Heap→Prop) (xs:Array Value):Prop where
  item:∀ {A:Around}{E:Value→Shared→Prop}{s:Shared}{k:Nat}{x:Value}{Q:Value→Shared→Prop},At s.heap k→Has s.heap→xs[k]? = some x →
    (∀ h',At h' (k+1)→Heap.SameBut it s.heap h'→Q x { s with heap:=h' })→wpAny (model prog w) A (Builtin.SmallTypes.nextOf (.ref it)) Q E s
  over:∀ {A:Around}{E:Value→Shared→Prop}{s:Shared}{k:Nat}{Q:Value→Shared→Prop},A.handled=none→At s.heap k→Has s.heap→xs[k]? = none →
    (∀ h' e,Heap.ExtBut it s.heap h'→(∃ o,h'.get? e=some o∧o.cls = .type "StopIteration")→E (.ref e) { s with heap:=h' })→wpAny (model prog w) A (Builtin.SmallTypes.nextOf (.ref it)) Q E s
  at_:∀ {h h':Heap}{k:Nat},At h k→(∀ o,h.get? it=some o→h'.get? it=some o)→At h' k
  has:∀ {h h':Heap},Has h→(∀ o,h.get? l=some o→h'.get? l=some o)→Has h'
  lt:∀ {h:Heap}{k:Nat},At h k→it<h.objs.size
section
variable {prog:Program}{w:World}
theorem aIJ (it l:Addr) (xs:Array Value):Wk prog w it l (fun h k=>h.IsTupleIter it l k) (fun h=>h.IsTuple l xs) xs where
  item:=fun a b c d=>nextOf_tuple_item a b c d
  over:=fun z a b c d=>nextOf_tuple_end z a b c d
  at_:=fun a k=>a.at k
  has:=fun ⟨o,e,r⟩ k=>⟨o,k o e,r⟩
  lt:=fun ⟨_,e,_⟩=>Heap.lt_size e
theorem aIK (it l:Addr) (xs:Array Value):Wk prog w it l (fun h k=>h.IsListIter it l k) (fun h=>h.IsList l xs) xs where
  item:=fun a b c d=>wpAny_nextOf_list_item a b c d
  over:=fun z a b c d=>wpAny_nextOf_list_end z a b c d
  at_:=fun a k=>a.at k
  has:=fun ⟨o,e,r⟩ k=>⟨o,k o e,r⟩
  lt:=fun ⟨_,e,_⟩=>Heap.lt_size e
variable {A:Around}{E:Value→Shared→Prop}{s:Shared}{z TI TO i1 i2 l1 l2:Addr}{k1 k2:Nat}{xs ys:Array Value}{a b:Value}{A1 A2:Heap→Nat→Prop}{H1 H2:Heap→Prop}
theorem aKg {x y:Value}{Q:Option Value→Shared→Prop}(W1:Wk prog w i1 l1 A1 H1 xs) (W2:Wk prog w i2 l2 A2 H2 ys) (D:ZipApart z TI TO i1 i2 l1 l2)
    (hz:IsZip s.heap z TI TO .none) (hTI:IsPair s.heap TI (.ref i1) (.ref i2)) (hTO:IsPair s.heap TO a b)
    (h1:A1 s.heap k1) (h2:A2 s.heap k2) (hl1:H1 s.heap) (hl2:H2 s.heap) (hx:xs[k1]? = some x) (hy:ys[k2]? = some y)
    (hQ:∀ h',IsZip h' z TI TO (rawInt s.heap.objs.size)→IsPair h' TO x y→A1 h' (k1+1)→A2 h' (k2+1)→IsPair h' s.heap.objs.size x y→h'.objs.size=s.heap.objs.size+1 →
      (∀ c o,c≠z→c≠TO→c≠i1→c≠i2→s.heap.get? c=some o→h'.get? c=some o)→Q (some (.ref s.heap.objs.size)) { s with heap:=h' }) :
    wpAny (model prog w) A (pyNext (.ref z)) Q E s:=by
  have hT:s.TypeIs (.ref z) "zip":=⟨_,hz,rfl⟩
  unfold pyNext
  refine wpAny_bind (wpAny_attempt (wpAny_callSpecial?_slot (name:=Str.ofString "__next__") hT F.slot_zip_next (wpAny_call_entry F.slot_zip_next hT F.entry_zip_next ?_ (F.args_zip_next_1 _))))
  show wpAny _ _ (field (.ref z) 2 >>= _) _ _ _
  refine wpAny_bind (wpAny_field hz rfl (x:=.bool false) rfl ?_)
  show wpAny _ _ (field (.ref z) 3 >>= _) _ _ _
  refine wpAny_bind (wpAny_field hz rfl (x:=.ref TI) rfl ?_)
  refine wpAny_bind (wpAny_seqItems hTI rfl ?_)
  show wpAny _ _ (Builtin.SmallTypes.ownedTupleIsFree (.ref z) >>= _) _ _ _
  refine wpAny_bind ?_
  unfold Builtin.SmallTypes.ownedTupleIsFree
  refine wpAny_bind (wpAny_field hz rfl (x:=.none) rfl (wpAny_pure ?_))
  simp only [if_true]
  refine wpAny_bind (wpAny_rule ?_)
  refine wpAny_bind (wpAny_field hz rfl (x:=.ref TO) rfl ?_)
  refine wpAny_bind (wpAny_setField_rec hz (by simp) fun ha za sa => ?_)
  replace za:IsZip ha z TI TO .ellipsis:=za
  have xa:=sa.extBut
  refine wpAny_bind ?_
  simp only [List.zipIdx_cons,List.zipIdx_nil,List.forIn_cons,List.forIn_nil]
  refine wpAny_bind (wpAny_bind (wpAny_onRaise ?_))
  show wpAny _ _ (Builtin.SmallTypes.nextOf (.ref i1) >>= _) _ _ _
  refine wpAny_bind (W1.item (W1.at_ h1 fun o=>xa _ o D.i1z) (W1.has hl1 fun o=>xa _ o D.l1z) hx fun hb n1 sb=>wpAny_pure ?_)
  have xb:=sb.extBut
  have t1:IsPair hb TO a b:=xb _ _ D.TOi1 (xa _ _ D.TOz hTO)
  refine wpAny_bind (wpAny_seqItems t1 rfl ?_)
  refine wpAny_bind (wpAny_updateSeq_pair t1 fun hc t2 sc => ?_)
  have xc:=sc.extBut
  replace t2:IsPair hc TO x b:=t2
  refine wpAny_bind (wpAny_letGo (wpAny_pure ?_))
  refine wpAny_bind (wpAny_bind (wpAny_onRaise ?_))
  show wpAny _ _ (Builtin.SmallTypes.nextOf (.ref i2) >>= _) _ _ _
  have on:∀ c o,c≠z→c≠i1→c≠TO→s.heap.get? c=some o→hc.get? c=some o:=fun c o q1 q2 q3 e=>xc _ _ q3 (xb _ _ q2 (xa _ _ q1 e))
  refine wpAny_bind (W2.item (W2.at_ h2 fun o=>on _ o D.i2z D.i12.symm D.TOi2.symm) (W2.has hl2 fun o=>on _ o D.l2z D.l2i1 D.l2TO) hy fun hd n2 sd=>wpAny_pure ?_)
  have xd:=sd.extBut
  have t3:IsPair hd TO x b:=xd _ _ D.TOi2 t2
  refine wpAny_bind (wpAny_seqItems t3 rfl ?_)
  refine wpAny_bind (wpAny_updateSeq_pair t3 fun he t4 se => ?_)
  have xe:=se.extBut
  replace t4:IsPair he TO x y:=t4
  refine wpAny_bind (wpAny_letGo (wpAny_pure (wpAny_pure ?_)))
  refine wpAny_bind (wpAny_seqItems t4 rfl ?_)
  refine wpAny_bind (wpAny_newTuple ?_)
  have hsz:he.objs.size=s.heap.objs.size:=by rw [se.1,sd.1,sc.1,sb.1,sa.1]
  have ze:IsZip he z TI TO .ellipsis:=xe _ _ D.TOz.symm (xd _ _ D.i2z.symm (xc _ _ D.TOz.symm (xb _ _ D.i1z.symm za)))
  have ke:∀ c o,c≠z→c≠TO→c≠i1→c≠i2→s.heap.get? c=some o→he.get? c=some o:=fun c o q1 q2 q3 q4 e=>xe _ _ q2 (xd _ _ q4 (on c o q1 q3 q2 e))
  have m1:A1 he (k1+1):=W1.at_ n1 fun o e=>xe _ _ D.TOi1.symm (xd _ _ D.i12 (xc _ _ D.TOi1.symm e))
  have m2:A2 he (k2+1):=W2.at_ n2 fun o e=>xe _ _ D.TOi2.symm e
  show wpAny _ _ (Builtin.SmallTypes.ownedTupleHandOut (.ref z) (.ref he.objs.size) >>= _) _ _ _
  refine wpAny_bind ?_
  unfold Builtin.SmallTypes.ownedTupleHandOut
  have zf:IsZip (he.push { cls:=.type "tuple",data:=.seq #[x,y] }) z TI TO .ellipsis:=Heap.get?_push_of_some _ ze
  refine wpAny_bind (wpAny_setField_rec zf (by simp) fun hg zg sg => ?_)
  replace zg:IsZip hg z TI TO (rawInt he.objs.size):=zg
  refine wpAny_setField_rec zg (by simp) fun hh zh sh => ?_
  replace zh:IsZip hh z TI TO (rawInt he.objs.size):=zh
  have up:∀ c o,c≠z→he.get? c=some o→hh.get? c=some o:=fun c o q e=>sh.extBut _ _ q (sg.extBut _ _ q (Heap.get?_push_of_some _ e))
  have hzlt:z<he.objs.size:=Heap.lt_size ze
  have hTn:IsPair hh he.objs.size x y:=sh.extBut _ _ (Nat.ne_of_gt hzlt) (sg.extBut _ _ (Nat.ne_of_gt hzlt) (Heap.get?_push_size _ rfl))
  have hn:hh.objs.size=he.objs.size+1:=by rw [sh.1,sg.1,Heap.size_push]
  rw [hsz] at zh hTn hn
  refine wpAny_pure ⟨_,rfl,?_⟩
  have fin:=hQ hh zh (up _ _ D.TOz t4) (W1.at_ m1 fun o e=>up _ o D.i1z e) (W2.at_ m2 fun o e=>up _ o D.i2z e) hTn hn fun c o q1 q2 q3 q4 e=>up c o q1 (ke c o q1 q2 q3 q4 e)
  rw [← hsz] at fin
  exact wpAny_pure fin
theorem aKh {Q:Option Value→Shared→Prop}(hh:A.handled=none) (W1:Wk prog w i1 l1 A1 H1 xs) (W2:Wk prog w i2 l2 A2 H2 ys) (D:ZipApart z TI TO i1 i2 l1 l2)
    (hz:IsZip s.heap z TI TO .none) (hTI:IsPair s.heap TI (.ref i1) (.ref i2)) (hTO:IsPair s.heap TO a b)
    (h1:A1 s.heap k1) (h2:A2 s.heap k2) (hl1:H1 s.heap) (hl2:H2 s.heap) (hend:xs[k1]? = none∨ys[k2]? = none)
    (hQ:∀ h',(∀ c o,c≠z→c≠TO→c≠i1→c≠i2→s.heap.get? c=some o→h'.get? c=some o)→Q none { s with heap:=h' }) :
    wpAny (model prog w) A (pyNext (.ref z)) Q E s:=by
  have hT:s.TypeIs (.ref z) "zip":=⟨_,hz,rfl⟩
  unfold pyNext
  refine wpAny_bind (wpAny_attempt (wpAny_callSpecial?_slot (name:=Str.ofString "__next__") hT F.slot_zip_next (wpAny_call_entry F.slot_zip_next hT F.entry_zip_next ?_ (F.args_zip_next_1 _))))
  show wpAny _ _ (field (.ref z) 2 >>= _) _ _ _
  refine wpAny_bind (wpAny_field hz rfl (x:=.bool false) rfl ?_)
  show wpAny _ _ (field (.ref z) 3 >>= _) _ _ _
  refine wpAny_bind (wpAny_field hz rfl (x:=.ref TI) rfl ?_)
  refine wpAny_bind (wpAny_seqItems hTI rfl ?_)
  show wpAny _ _ (Builtin.SmallTypes.ownedTupleIsFree (.ref z) >>= _) _ _ _
  refine wpAny_bind ?_
  unfold Builtin.SmallTypes.ownedTupleIsFree
  refine wpAny_bind (wpAny_field hz rfl (x:=.none) rfl (wpAny_pure ?_))
  simp only [if_true]
  refine wpAny_bind (wpAny_rule ?_)
  refine wpAny_bind (wpAny_field hz rfl (x:=.ref TO) rfl ?_)
  refine wpAny_bind (wpAny_setField_rec hz (by simp) fun ha za sa => ?_)
  replace za:IsZip ha z TI TO .ellipsis:=za
  have xa:=sa.extBut
  refine wpAny_bind ?_
  simp only [List.zipIdx_cons,List.zipIdx_nil,List.forIn_cons,List.forIn_nil]
  refine wpAny_bind (wpAny_bind (wpAny_onRaise ?_))
  show wpAny _ _ (Builtin.SmallTypes.nextOf (.ref i1) >>= _) _ _ _
  have raised:∀ (h':Heap) (e:Addr),IsZip h' z TI TO .ellipsis→(∀ c o,c≠z→c≠TO→c≠i1→c≠i2→s.heap.get? c=some o→h'.get? c=some o)→(∃ o,h'.get? e=some o∧o.cls = .type "StopIteration") →
      ∀ h'',Heap.SameBut z h' h''→wpAny (model prog w) A (isInstance (.ref e) (.type "StopIteration")) (fun r s'=>r=true∧Q none s') E { s with heap:=h'' }:=fun h' e z' hk he h'' sx=>by
    obtain ⟨oe,hoe,hce⟩:=he
    have hez:e≠z:=fun q=>by subst q;rw [z'] at hoe;cases hoe;simp at hce
    exact wpAny_isInstance (T:="StopIteration") (b:=true) ⟨oe,sx.extBut _ _ hez hoe,hce⟩ isSubtype_stop ⟨rfl,hQ h'' fun c o q1 q2 q3 q4 e=>sx.extBut _ _ q1 (hk c o q1 q2 q3 q4 e)⟩
  cases hx:xs[k1]? with
  | none=>
    refine wpAny_bind (W1.over hh (W1.at_ h1 fun o=>xa _ o D.i1z) (W1.has hl1 fun o=>xa _ o D.l1z) hx fun hb e xb he => ?_)
    have zb:IsZip hb z TI TO .ellipsis:=xb _ _ D.i1z.symm za
    refine wpAny_setField_rec zb (by simp) fun hc _ sc => ?_
    have r:=raised hb e zb (fun c o q1 _ q3 _ v=>xb _ _ q3 (xa _ _ q1 v)) he hc sc
    exact wpAny_bind (thn r fun v s' ⟨q,q'⟩=>by subst q;exact wpAny_pure q')
  | some x=>
    have hy:ys[k2]? = none:=by
      rcases hend with q | q
      · rw [hx] at q;cases q
      · exact q
    refine wpAny_bind (W1.item (W1.at_ h1 fun o=>xa _ o D.i1z) (W1.has hl1 fun o=>xa _ o D.l1z) hx fun hb n1 sb=>wpAny_pure ?_)
    have xb:=sb.extBut
    have t1:IsPair hb TO a b:=xb _ _ D.TOi1 (xa _ _ D.TOz hTO)
    refine wpAny_bind (wpAny_seqItems t1 rfl ?_)
    refine wpAny_bind (wpAny_updateSeq_pair t1 fun hc t2 sc => ?_)
    have xc:=sc.extBut
    refine wpAny_bind (wpAny_letGo (wpAny_pure ?_))
    refine wpAny_bind (wpAny_bind (wpAny_onRaise ?_))
    show wpAny _ _ (Builtin.SmallTypes.nextOf (.ref i2) >>= _) _ _ _
    have on:∀ c o,c≠z→c≠i1→c≠TO→s.heap.get? c=some o→hc.get? c=some o:=fun c o q1 q2 q3 e=>xc _ _ q3 (xb _ _ q2 (xa _ _ q1 e))
    refine wpAny_bind (W2.over hh (W2.at_ h2 fun o=>on _ o D.i2z D.i12.symm D.TOi2.symm) (W2.has hl2 fun o=>on _ o D.l2z D.l2i1 D.l2TO) hy fun hd e xd he => ?_)
    have zd:IsZip hd z TI TO .ellipsis:=xd _ _ D.i2z.symm (xc _ _ D.TOz.symm (xb _ _ D.i1z.symm za))
    refine wpAny_setField_rec zd (by simp) fun hf _ sf => ?_
    have r:=raised hd e zd (fun c o q1 q2 q3 q4 v=>xd _ _ q4 (on c o q1 q3 q2 v)) he hf sf
    exact wpAny_bind (thn r fun v s' ⟨q,q'⟩=>by subst q;exact wpAny_pure q')
end
abbrev zA (h:Heap) (l1:Addr):Heap:=h.push { cls:=.type "tuple_iterator",data:=.fields #[.ref l1, .int 0 0] }
abbrev zB (h:Heap) (l1 l2:Addr):Heap:=(zA h l1).push { cls:=.type "list_iterator",data:=.fields #[.ref l2, .int 0 0] }
abbrev zC (h:Heap) (l1 l2:Addr):Heap:=(zB h l1 l2).push { cls:=.type "tuple",data:=.seq #[.ref h.objs.size, .ref (zA h l1).objs.size] }
abbrev zD (h:Heap) (l1 l2:Addr):Heap:=(zC h l1 l2).push { cls:=.type "tuple",data:=.seq #[.none, .none] }
abbrev zE (h:Heap) (l1 l2:Addr):Heap:=(zD h l1 l2).push { cls:=.type "zip",data:=.fields #[.none, .bool false, .bool false, .ref (zB h l1 l2).objs.size, .ref (zC h l1 l2).objs.size] }
theorem aSd (l1 l2:Addr) (xs ys:Array Value) :
    Meets (Builtin.«zip.__new__» ⟨[.type "zip", .ref l1, .ref l2],[]⟩) (fun _ R s=>s.heap.IsTuple l1 xs∧s.heap.IsList l2 ys ∧
      R (.ok (.ret (.ref (zD s.heap l1 l2).objs.size))) { s with heap:=zE s.heap l1 l2 }):=
  .of_wp fun prog w A R s h=>by
    obtain ⟨hp,g,d,tk,os⟩:=s;obtain ⟨q1,q2,h⟩:=h
    have hsub:=sub_zip
    have e1:Heap.IsTuple (Shared.heap ⟨hp,g,d,tk,os⟩) l1 xs:=q1
    have e2:Heap.IsList (Shared.heap ⟨hp.push { cls:=.type "tuple_iterator",data:=.fields #[.ref l1, .int 0 0] },g,d,tk,os⟩) l2 ys:=Heap.IsList.push q2 _
    wp_walk using wpAny_pyIter_tuple e1,wpAny_pyIter_list e2
    exact ⟨_,rfl,h⟩
theorem aPV {prog:Program}{w:World}{A:Around}{E:Value→Shared→Prop}{s:Shared}{l1 l2:Addr}{xs ys:Array Value}{Q:Value→Shared→Prop}(q1:s.heap.IsTuple l1 xs) (q2:s.heap.IsList l2 ys)
    (h:∀ h',IsZip h' (s.heap.objs.size+4) (s.heap.objs.size+2) (s.heap.objs.size+3) .none→IsPair h' (s.heap.objs.size+2) (.ref s.heap.objs.size) (.ref (s.heap.objs.size+1)) →
      IsPair h' (s.heap.objs.size+3) .none .none→h'.IsTupleIter s.heap.objs.size l1 0→h'.IsListIter (s.heap.objs.size+1) l2 0 →
      (∀ c o,s.heap.get? c=some o→h'.get? c=some o)→Q (.ref (s.heap.objs.size+4)) { s with heap:=h' }) :
    wpAny (model prog w) A (call (.type "zip") [.ref l1, .ref l2]) Q E s:=by
  refine callType_new F.called_zip (by decide) (F.typeCall_zip_2 _ _) (F.newCall_zip_2 _ _) (fun obj=>F.args_object_init_3 obj _ _) F.entry_zip_new (aSd l1 l2 xs ys) ⟨q1,q2,?_⟩
  generalize hn:s.heap.objs.size=n at h ⊢
  have n1:(zA s.heap l1).objs.size=n+1:=by rw [Heap.size_push,hn]
  have n2:(zB s.heap l1 l2).objs.size=n+2:=by rw [Heap.size_push,n1]
  have n3:(zC s.heap l1 l2).objs.size=n+3:=by rw [Heap.size_push,n2]
  have n4:(zD s.heap l1 l2).objs.size=n+4:=by rw [Heap.size_push,n3]
  have g5:(zE s.heap l1 l2).get? (zD s.heap l1 l2).objs.size=some _:=Heap.get?_push_size _ rfl
  have g4:(zE s.heap l1 l2).get? (zC s.heap l1 l2).objs.size=some _:=Heap.get?_push_of_some _ (Heap.get?_push_size _ rfl)
  have g3:(zE s.heap l1 l2).get? (zB s.heap l1 l2).objs.size=some _:=Heap.get?_push_of_some _ (Heap.get?_push_of_some _ (Heap.get?_push_size _ rfl))
  have g2:(zE s.heap l1 l2).get? (zA s.heap l1).objs.size=some _:=Heap.get?_push_of_some _ (Heap.get?_push_of_some _ (Heap.get?_push_of_some _ (Heap.get?_push_size _ rfl)))
  have g1:(zE s.heap l1 l2).get? s.heap.objs.size=some _:=Heap.get?_push_of_some _ (Heap.get?_push_of_some _ (Heap.get?_push_of_some _ (Heap.get?_push_of_some _ (Heap.get?_push_size _ rfl))))
  show _∧_
  rw [n2,n3,n4] at g5
  rw [n1,n2,hn] at g3
  rw [n3] at g4
  rw [n1] at g2
  rw [hn] at g1
  rw [n4]
  exact ⟨⟨_,g5,rfl⟩,h _ g5 g3 g4 ⟨_,g1,rfl,rfl⟩ ⟨_,g2,rfl,rfl⟩ fun c o x=>
    Heap.get?_push_of_some _ (Heap.get?_push_of_some _ (Heap.get?_push_of_some _ (Heap.get?_push_of_some _ (Heap.get?_push_of_some _ x))))⟩
def ItM (K:PySem.W.Frag) (a b:Addr):It:=
  ⟨fun i H=>∃ (xs ys:List V) (x y:V),SqT K H a xs∧SqL K H b ys∧xs[i]? = some x∧ys[i]? = some y,
    fun i H v H'=>∃ T x y,v = .ref T∧H T=none∧H'=upd H T (.tup [x,y])∧(∀ xs,SqT K H a xs→xs[i]? = some x)∧∀ ys,SqL K H b ys→ys[i]? = some y,
    fun i H=>∃ xs ys:List V,SqT K H a xs∧SqL K H b ys∧(xs.length≤i∨ys.length≤i)⟩
theorem turnM {P:Program}{w:World}{K:PySem.W.Frag}{elts:List Expr}{kk:Nat}{tpos:Pos}{a b z TI TO i1 i2:Addr}(D:ZipApart z TI TO i1 i2 a b) :
    Turn P w K (.Tuple elts kk tpos) (ItM K a b) [z,TI,TO,i1,i2] z (fun i h=>IsZip h z TI TO .none∧IsPair h TI (.ref i1) (.ref i2)∧(∃ x y,IsPair h TO x y)∧h.IsTupleIter i1 a i∧h.IsListIter i2 b i) where
  mem:=by simp
  obj:=fun i h st c hc=>by
    obtain ⟨hz,hTI,⟨x,y,hTO⟩,⟨o1,e1,_,d1⟩,⟨o2,e2,_,d2⟩⟩:=st
    simp only [List.mem_cons,List.not_mem_nil,or_false] at hc
    rcases hc with rfl | rfl | rfl | rfl | rfl
    · exact ⟨_,hz,fun v q=>nomatch q⟩
    · exact ⟨_,hTI,fun v q=>nomatch q⟩
    · exact ⟨_,hTO,fun v q=>nomatch q⟩
    · exact ⟨o1,e1,fun v q=>by rw [d1] at q;cases q⟩
    · exact ⟨o2,e2,fun v q=>by rw [d2] at q;cases q⟩
  keep:=fun i h h' st k=>by
    obtain ⟨hz,hTI,⟨x,y,hTO⟩,h1,h2⟩:=st
    exact ⟨k z (by simp) _ hz,k TI (by simp) _ hTI,⟨x,y,k TO (by simp) _ hTO⟩,h1.at fun o q=>k i1 (by simp) o q,h2.at fun o q=>k i2 (by simp) o q⟩
  item:=by
    intro X hP hw hK hc i pins s σ H E I hf st hg
    subst hP hw hK
    obtain ⟨hz,hTI,⟨x0,y0,hTO⟩,h1,h2⟩:=st
    obtain ⟨xs,ys,x,y,hqx,hqy,hx,hy⟩:=hg
    obtain ⟨its,rv,p,_⟩:=I.tuple hqx
    obtain ⟨its2,rv2,p2,_⟩:=I.list hqy
    obtain ⟨u,hu,ru⟩:=rv.get hx
    obtain ⟨u2,hu2,ru2⟩:=rv2.get hy
    have zl:z<s.heap.objs.size:=Heap.lt_size hz
    refine aKg (aIJ i1 a its.toArray) (aIK i2 b its2.toArray) D hz hTI hTO h1 h2 p p2.isList (x:=u) (y:=u2) (by simpa using hu) (by simpa using hu2) fun h' z' TO' h1' h2' hT hsz hk => ?_
    refine ⟨_,rfl,wpAny_letOwnedTupleGo_zip (s:={ s with heap:=h' }) z' fun h'' z'' sb => ?_⟩
    have hT2:h''.get? s.heap.objs.size=some { cls:=.type "tuple",data:=.seq #[u,u2] }:=(sb.2 _ (Nat.ne_of_gt zl)).trans hT
    have new:ObjOk X.prog X.w (upd H s.heap.objs.size (.tup [x,y])) h'' s.heap.objs.size (.tup [x,y]):=⟨by show 2≤sizeLine;decide,[u,u2], .cons ru (.cons ru2 .nil),⟨_,hT2,rfl,_,rfl⟩⟩
    have out:∀ c o,c∉[z,TI,TO,i1,i2]→s.heap.get? c=some o→h''.get? c=some o:=fun c o hb q=>
      (sb.2 c fun q'=>hb (by simp [q'])).trans (hk c o (fun q'=>hb (by simp [q'])) (fun q'=>hb (by simp [q'])) (fun q'=>hb (by simp [q'])) (fun q'=>hb (by simp [q'])) q)
    have I1:Inv X pins σ (upd H s.heap.objs.size (.tup [x,y])) { s with heap:=h'' }:=I.turnedNew (t':=s.toks) (ch:=[z,TI,TO,i1,i2]) out hf (Nat.le_refl _) new
    refine ⟨.ref s.heap.objs.size,_,I1,rfl,⟨_,x,y,rfl,I.hok.fresh (Nat.le_refl _),rfl,fun l hl=>by rw [I.tuple_inj hl hqx];exact hx,fun l hl=>by rw [I.list_inj hl hqy];exact hy⟩,
      ⟨z'',(sb.2 _ D.TIz).trans (hk _ _ D.TIz D.TITO D.TIi1 D.TIi2 hTI),⟨u,u2,(sb.2 _ D.TOz).trans TO'⟩,h1'.at fun o q=>(sb.2 _ D.i1z).trans q,h2'.at fun o q=>(sb.2 _ D.i2z).trans q⟩,fun c hcm => ?_⟩
    have hlt:c<s.heap.objs.size:=by
      simp only [List.mem_cons,List.not_mem_nil,or_false] at hcm
      rcases hcm with rfl | rfl | rfl | rfl | rfl
      · exact zl
      · exact Heap.lt_size hTI
      · exact Heap.lt_size hTO
      · exact (aIJ (prog:=X.prog) (w:=X.w) _ a its.toArray).lt h1
      · exact (aIK (prog:=X.prog) (w:=X.w) _ b its2.toArray).lt h2
    rw [upd_ne (Nat.ne_of_lt hlt)]
    exact (hf c hcm).1
  done:=by
    intro X hP hw hK hc i pins s σ H E I hf st hg
    subst hP hw hK
    obtain ⟨hz,hTI,⟨x0,y0,hTO⟩,h1,h2⟩:=st
    obtain ⟨xs,ys,hqx,hqy,hend⟩:=hg
    obtain ⟨its,rv,p,_⟩:=I.tuple hqx
    obtain ⟨its2,rv2,p2,_⟩:=I.list hqy
    have n1:=rv.length
    have n2:=rv2.length
    have he:its.toArray[i]? = none∨its2.toArray[i]? = none:=by
      rcases hend with q | q
      · exact .inl (by simp;omega)
      · exact .inr (by simp;omega)
    exact aKh (I.ok.hd hc) (aIJ i1 a its.toArray) (aIK i2 b its2.toArray) D hz hTI hTO h1 h2 p p2.isList he fun h' hk=>⟨rfl,I.turnedL (t':=s.toks) (ch:=[z,TI,TO,i1,i2]) (fun c o hb q=>
      hk c o (fun q'=>hb (by simp [q'])) (fun q'=>hb (by simp [q'])) (fun q'=>hb (by simp [q'])) (fun q'=>hb (by simp [q'])) q) hf⟩
  self:=fun A i s Q E st h=>wpAny_pyIter_zip st.1 h
def iZipV (K:PySem.W.Frag) (ta:TA):TI:=fun σ H R=>ta σ H fun vs H1=>∃ a b xs ys,vs = [.ref a, .ref b]∧SqT K H1 a xs∧SqL K H1 b ys∧R (ItM K a b) H1
theorem aTM {X:Cx}{e e2:Expr}{ta:TA}{p pos tpos:Pos}{elts:List Expr}{kk:Nat}(hg:Gl X "zip") (hm:X.mg "zip"=none) (ha:PA X [e,e2] ta)
    (hs:starEach [e,e2] X.env=(false,eval e X.env)::starEach [e2] X.env) (hpl:(backTo pos (starEach [e2] X.env)).any (·.1)=false) :
    PI X (.Tuple elts kk tpos) (.Call (.Name "zip" p) [e,e2] [] pos) (iZipV X.K ta):=by
  refine ⟨fun pins s σ H R I h => ?_⟩
  refine Call_ (ld_blt I hg hm PyProof.Rows.boot_zip (PyProof.Rows.callWith_type1 (thn (ha.run pos pins s σ H _ I h) fun us s1 ⟨vs,H1,I1,r1,q1⟩ => ?_) hs hpl))
  obtain ⟨a,b,xs,ys,rfl,hqx,hqy,q⟩:=q1
  obtain ⟨v,v',rfl,rv,rv'⟩:=vals2 r1
  cases rv
  cases rv'
  obtain ⟨its,rx,p1,_⟩:=I1.tuple hqx
  obtain ⟨its2,ry,p2,_⟩:=I1.list hqy
  obtain ⟨o1,ho1,_⟩:=id p1
  refine aPV (show s1.heap.IsTuple a its.toArray from p1) p2.isList fun h' hz hTI hTO h1 h2 hk=>wpAny_pyIter_zip hz ?_
  have I2:Inv X pins σ H1 { s1 with heap:=h' }:=I1.kept (t':=s1.toks) hk
  refine ⟨s1.heap.objs.size+4,[s1.heap.objs.size+4,s1.heap.objs.size+2,s1.heap.objs.size+3,s1.heap.objs.size,s1.heap.objs.size+1],_,_,H1,rfl,I2,turnM (PySem.W.ktu_apart s1.heap.objs.size a b (Heap.lt_size ho1) p2.lt),⟨hz,hTI,⟨_,_,hTO⟩,h1,h2⟩,fun c hcm => ?_,q⟩
  have hle:s1.heap.objs.size≤c:=by
    simp only [List.mem_cons,List.not_mem_nil,or_false] at hcm
    rcases hcm with rfl | rfl | rfl | rfl | rfl
    · exact Nat.le_add_right _ _
    · exact Nat.le_add_right _ _
    · exact Nat.le_add_right _ _
    · exact Nat.le_refl _
    · exact Nat.le_add_right _ _
  exact I1.fpOk hle (I1.hok.fresh hle)
section
variable {X:Cx}{W:WX}{a b:Expr}{p pos:Pos}{w:Wo}
theorem aSe {l m:List D}{a b:Addr}{vs us:List V}(s1:∀ w2,Ex0 w w2→SqT X.K w2.hp a vs) (s2:∀ w2,Ex0 w w2→SqL X.K w2.hp b us) (r1:RepL X.K X.mg w l vs) (r2:RepL X.K X.mg w m us):ItsR X w (zipD l m) (ItM X.K a b):=by
  intro w2 x2 _ R2
  have q1:=s1 w2 x2
  have q2:=s2 w2 x2
  have e1:=r1.length
  have e2:=r2.length
  have hl:(zipD l m).length=min l.length m.length:=by unfold zipD;simp
  refine ⟨fun i hi=>⟨?_,fun x H' y => ?_⟩,⟨vs,us,q1,q2,by rw [hl];omega⟩⟩
  · rw [hl] at hi
    exact ⟨vs,us,vs[i]'(by omega),us[i]'(by omega),q1,q2,by simp,by simp⟩
  · obtain ⟨T,x1,y1,rfl,hT,rfl,g1,g2⟩:=y
    obtain ⟨d1,k1,rd1⟩:=r1.getV (g1 vs q1)
    obtain ⟨d2,k2,rd2⟩:=r2.getV (g2 us q2)
    have xp:=aBk (o:=.tup [x1,y1]) R2 hT
    refine ⟨w2.put T (.tup [x1,y1]), .tup [d1,d2],rfl,xp,R2.put hT,rfl,rfl,?_, .tup (.inl (aBO R2 hT).o) (.cons ((rd1.ext x2).ext xp.toEx0) (.cons ((rd2.ext x2).ext xp.toEx0) .nil))⟩
    unfold zipD
    rw [List.getElem?_zipWith,k1,k2]
def zipRM (ds:List D) (S:Store):Res (List D):=match ds with
  | [.tup l, .lst m] => .ok (zipD l m) S
  | _ => .stuck
def iZipM (m:AM):AM:=fun e S=>(m e S).bind zipRM
theorem aTN {m:AM}{elts:List Expr}{kk:Nat}{tpos:Pos}(hm:X.mg "zip"=none) (ha:RA X W [a,b] m) (hg:Gl X "zip":=by rfl) (hs:starEach [a,b] X.env=(false,eval a X.env)::starEach [b] X.env:=by rfl) (hpl:(backTo pos (starEach [b] X.env)).any (·.1)=false:=by rfl) :
    RI X W (.Tuple elts kk tpos) (.Call (.Name "zip" p) [a,b] [] pos) (iZipM m):=by
  refine ⟨fun pins s σ H R' I h=>(aTM hg hm ha hs hpl).run pins s σ H R' I ?_⟩
  obtain ⟨w,en,rfl,R,E,P⟩:=h
  refine ⟨w,en,rfl,R,E,(Post.bind P).imp ?_⟩
  rintro vs H1 ⟨w1,ds,rfl,X1,R1,rx,P1⟩
  unfold zipRM at P1
  split at P1
  · obtain ⟨v,v',rfl,rv,rv'⟩:=rx.two_inv
    cases rv with
    | tup s1 r1=>
      cases rv' with
      | lst s2 r2=>exact ⟨_,_,_,_,rfl,s1.sq,SqL.of s2.1,Post.now P1 R1 (aSe (fun w2 x2=>(s1.ext x2).sq) (fun w2 x2=>SqL.of (s2.ext x2).1) r1 r2)⟩
  · exact False.elim P1
end
end G
namespace G
open PySem L2 PySem.Spec
def eqX (neg:Bool) (cn:Nat) (f:FM) (gD:List D→List D→List D) (x y:D) (S:Store):Res D:=if isCn cn S x=true∧isCn cn S y=true then eqO neg cn f gD x y S else lf (if neg=true then dNe x y else dEq x y) S
def eEqX (neg:Bool) (cn:Nat) (f:FM) (gD:List D→List D→List D) (a b:EM):EM:=fun e S=>(a e S).bind fun x S1=>(b e S1).bind fun y S2=>eqX neg cn f gD x y S2
end G
namespace G
open PySem L2 PySem.Spec PyProof.Rows
section
variable {P:Program}{w0:World}{K:PySem.W.Frag}{mg:Str→Option Value}{base:Heap}
def noF (f:FM):FM:=fun ds S=>noX (f ds S)
end
section
variable {X:Cx}{W:WX}{a b c e o:Expr}{es:List Expr}{pos:Pos}{x:Str}{p:Pos}{j k:Nat}{ps ks:List Str}{f:FM}{ad:Addr}{pn:List (Addr×Obj)}
def eCallN (f:FM) (m:AM):EM:=fun e S=>(m e S).bind fun ds S1=>noF f ds S1
end
end G
namespace G
open PySem L2 PySem.Spec PyProof.Rows
def keyS (e:Int×Value):Str:=PyProof.Rows.strOf e.2
def GoodS (w:World) (e:Int×Value):Prop:=∃ k tk,e.2=Value.str k tk∧e.1=hashStr w k
def SetS (w:World) (h:Heap) (a:Addr) (S:Str→Bool) (n:Nat):Prop:=
  ∃ o es ep t,h.get? a=some o∧o.ExactSet∧o.data = .set es ep t∧(∀ e∈es.toList,GoodS w e)∧(es.toList.map keyS).Nodup∧(∀ k,S k=true↔k∈es.toList.map keyS) ∧
    es.size<scanBound∧t.fits es.size=true∧es.size=n∧Ris t.place.toList∧(w.params.followText "set-order"=true∨t.led=true)
section
variable {P:Program}{w:World}{h h':Heap}{a:Addr}{S:Str→Bool}{n:Nat}
theorem SetS.at (R:SetS w h a S n) (k:∀ o,h.get? a=some o→h'.get? a=some o):SetS w h' a S n:=by
  obtain ⟨o,es,ep,t,ho,r⟩:=R
  exact ⟨o,es,ep,t,k o ho,r⟩
theorem SetS.lt (R:SetS w h a S n):a<h.objs.size:=by
  obtain ⟨o,es,ep,t,ho,r⟩:=R
  exact Heap.lt_size ho
end
end G
namespace G
open PySem L2 PySem.Spec PyProof.Rows
end G
namespace G
open PySem L2 PySem.Spec PyProof.Rows
def mergeKD (kvs more:List (Key×D)):List (Key×D):=more.foldl (fun acc kv=>putKD acc kv.1 kv.2) kvs
theorem RepK.merge {K:PySem.W.Frag}{mg:Str→Option Value}{w:Wo}:∀ {more:List (Key×D)}{us:List (Key×V)},RepK Key K mg w more us→∀ {kvs:List (Key×D)}{vs:List (Key×V)},RepK Key K mg w kvs vs→RepK Key K mg w (mergeKD kvs more) (mergeK vs us)
  | _,_, .nil,_,_,h=>h
  | _,_,@RepK.cons _ _ _ _ f d v l us r t,kvs,vs,h=>RepK.merge t (h.put r)
def tDkU (td ty:TE):TE:=fun σ H Q=>td σ H fun x H1=>∃ (a:Addr) (l0:List (Key×V)),x = .ref a∧H1 a=some (.dK l0)∧ty σ H1 fun y H2=>∃ (b:Addr) (l m:List (Key×V)),y = .ref b∧a≠b∧H2 a=some (.dK l)∧H2 b=some (.dK m) ∧
  l.length+m.length≤sizeLine∧Q .non (upd H2 a (.dK (mergeK l m)))
section
variable {X:Cx}{W:WX}{o e:Expr}{td ty:TE}{ma mb:EM}{apos cpos:Pos}
theorem aVQ (ho:PE X o td) (he:PE X e ty) (m:M1 X o "update" apos e cpos):PE X (.Call (.Attribute o "update" apos) [e] [] cpos) (tDkU td ty):=by
  refine ⟨fun pins s σ H Q I h => ?_⟩
  refine wpAny_Call_method m.base m.few m.line PySem.F.plainAttrs_dict PySem.F.slot_dict_update PySem.F.type_dict_update (thn (ho.run pins s σ H _ I h) fun u s1 ⟨x,H1,I1,rx,a,l0,ex,ha,q1⟩ => ?_)
  subst ex
  obtain rfl:u=Value.ref a:=rx
  obtain ⟨t1,t2,_⟩:=isD_at I1 (show IsD H1 a from .inl ⟨l0, .inl ha⟩)
  refine ⟨t1,t2,?_⟩
  rw [m.trees]
  refine Calls.callWith_builtin rfl (Calls.evalArgs_plain (Calls.spliced_cons (thn (he.run pins s1 σ H1 _ I1 q1) fun iv s2 ⟨y,H2,I2,ry,b,l,mm,ey,hab,ea,eb,hz,q2⟩=>Calls.spliced_nil ?_)))
  subst ey
  obtain rfl:iv=Value.ref b:=ry
  obtain ⟨z1,h1,vs,r1,d1⟩:=dk_of I2.hok ea
  obtain ⟨z2,h2,us,r2,d2⟩:=dk_of I2.hok eb
  refine call_meetsIn PySem.F.slot_dict_update d1.typeIs PySem.F.entry_dict_update (PySem.F.args_dict_update_2 _ _) (meets_dict_update (mixKind X.prog X.w) a b hab h2) ⟨vs,us,d1,d2,by rw [← r1.length,← r2.length];exact hz,fun h' da db hs => ?_⟩
  have hex:∃ q,h'.get? a=some q:=let ⟨q,_,_,hq,_⟩:=da;⟨q,hq⟩
  exact ⟨.non,_,d_write I2 (by rw [ea];exact True.intro) hs hex (dk_new (Nat.le_trans (length_mergeK _ _) hz) h1 (r2.merge r1) da),rfl,q2⟩
def uK (S:Store) (x y:D):Res D:=match dkD S x,dkD S y with
  | some (n,l),some (k,m)=>if n≠k∧l.length+m.length≤1000 then .ok .non (S.set n (.dk (mergeKD l m))) else .stuck
  | _,_ => .stuck
def eDkU (mo ma:EM):EM:=fun e S=>(mo e S).bind fun x S1=>if (dkD S1 x).isSome=true then (ma e S1).bind fun y S2=>uK S2 x y else .stuck
theorem aVR (ho:RE X W o ma) (he:RE X W e mb) (m:M1 X o "update" apos e cpos:=by exact ⟨rfl,rfl,rfl,rfl⟩):RE X W (.Call (.Attribute o "update" apos) [e] [] cpos) (eDkU ma mb):=by
  refine aAV (aVQ ho he m) ?_
  rintro s H Q ⟨w,en,rfl,R,E,P⟩
  refine ⟨w,en,rfl,R,E,(Post.bind P).imp ?_⟩
  rintro v H1 ⟨w1,x,rfl,X1,R1,rx,P1⟩
  dsimp only at P1
  split at P1
  · rename_i hd
    obtain ⟨⟨n0,l0⟩,hd⟩:=Option.isSome_iff_exists.mp hd
    obtain ⟨a,us0,rfl,hn,hp,rk⟩:=rx.dkV R1 hd
    refine ⟨a,us0,rfl,hp,w1,en,rfl,R1,E.ext X1.toEx0,(Post.bind P1).imp ?_⟩
    rintro v2 H2 ⟨w2,y,rfl,X2,R2,ry,P2⟩
    dsimp only at P2
    unfold uK at P2
    split at P2
    · rename_i n l k m' h1 h2
      split at P2
      · rename_i hz
        obtain ⟨a',xs,e2,hn',hp',rk1⟩:=(rx.ext X2.toEx0).dkV R2 h1
        cases e2
        obtain ⟨b,ys,rfl,hnb,hpb,rk2⟩:=ry.dkV R2 h2
        have hc':=(aLJ h1).2
        have hab:a≠b:=fun z=>by
          subst z
          exact hz.1 (aPw R2.nd hn' hnb)
        have Xw:Ext w2 (w2.wr n a (.dK (mergeK xs ys)) (.dk (mergeKD l m'))):=aJS R2 hn' hc' (by intro z;cases z)
        refine ⟨b,xs,ys,rfl,hab,hp',hpb,by rw [← rk1.klen,← rk2.klen,sizeLine_eq];omega,?_⟩
        exact P2 (w2.wr n a (.dK (mergeK xs ys)) (.dk (mergeKD l m'))) .non Xw (R2.wr hn' hc' (by intro z;cases z) ⟨_,upd_same,(rk2.merge rk1).ext Xw.toEx0⟩) rfl .non
      · exact False.elim P2
    · exact False.elim P2
  · exact False.elim P1
def eNx (m:EM):EM:=fun e S=>noX (m e S)
theorem aPW {W':WX}{m:EM}(h:RE X W e m):RE X W' e (eNx m):=by
  refine aAV h ?_
  rintro s H Q ⟨w,en,rfl,R,E,P⟩
  exact ⟨w,en,rfl,R,E,Post.noX (E:=fun cls dd H'=>W' cls dd s H') P⟩
end
end G
namespace G
open PySem L2 PySem.Spec PyProof.Rows
open PySem.SeqAt
open AutoSeq1 (wpAny_loadPart')
theorem aEF (l b:Addr) (items:Array Value) (n:Nat) (dd:Option Addr) (sl:Array (Option Value)) :
    Meets (Builtin.«tuple.__eq__» ⟨[.ref l, .ref b],[]⟩) (fun _ R s=>s.heap.get? l=some { cls:=.type "tuple",dict:=dd,data:=.seq items n,slots:=sl }∧(∃ o,s.heap.get? b=some o∧o.cls = .type "dict")∧R (.ok (.ret .notImplemented)) s):=
  .of_wp fun prog w A R s h=>by
    obtain ⟨hp,g,d,tk,os⟩:=s;obtain ⟨hl,⟨⟨cls2,dd2,data2,sl2⟩,hb,hc⟩,h⟩:=h
    simp only at hc
    subst hc
    have f1:=F.sub_dict_tuple
    wp_walk using wpAny_loadPart' hl,wpAny_loadPart' hb
    exact ⟨_,rfl,h⟩
section
variable {prog:Program}{w:World}{K:Type} [DecidableEq K] {knd:KeyKind prog w K}{A:Around}{E:Value→Shared→Prop}{s:Shared}
theorem aGE {a b:Addr}{ka:List (K×Value)}{items:Array Value}{Q:Value→Shared→Prop}(da:s.heap.DictOf knd a ka) (hb:s.heap.IsTuple b items) (h:Q .notImplemented s) :
    wpAny (model prog w) A (call (.builtin "dict.__eq__") [.ref a, .ref b]) Q E s:=by
  have tb:s.TypeIs (.ref b) "tuple":=by obtain ⟨o,ho,hc,_⟩:=hb;exact ⟨o,ho,hc⟩
  refine wpAny_call_entry PySem.F.slot_dict_eq da.typeIs PySem.F.entry_dict_eq ?_ (PySem.F.args_dict_eq_2 _ _)
  show wpAny _ _ (Builtin.Dict.dictSlotArgs "__eq__" ⟨[.ref a, .ref b],[]⟩ >>= _) _ _ s
  refine wpAny_bind ?_
  unfold Builtin.Dict.dictSlotArgs
  refine wpAny_bind (wpAny_notOrdered_dict da.typeIs ?_)
  show wpAny _ _ (pure (Value.ref a,Value.ref b)) _ _ s
  refine wpAny_pure ?_
  refine wpAny_bind (wpAny_isInstance (T:="tuple") tb PySem.F.sub_tuple_dict ?_)
  simp only [Bool.not_false,if_true]
  refine wpAny_bind (wpAny_rule ?_)
  refine wpAny_pure ?_
  exact ⟨_,rfl,h⟩
theorem aJl {a b:Addr}{ka:List (K×Value)}{items:Array Value}{Q:Value→Shared→Prop}(da:s.heap.DictOf knd a ka) (hb:s.heap.IsTuple b items) (hu:A.units<cLine) (h:Q (.bool false) s) :
    wpAny (model prog w) A (richCompare .Eq (.ref a) (.ref b)) Q E s:=by
  obtain ⟨⟨cls2,dd2,data2,sl2⟩,ho2,hc2,n2,hd2⟩:=id hb
  obtain ⟨o,es,ep,ho,hc,_⟩:=id da
  simp only at hc2 hd2
  subst hc2 hd2
  have hcl:o.cls = .type "dict":=hc.1
  have hne:a≠b:=fun e=>by
    subst e
    rw [ho] at ho2
    cases ho2
    exact absurd hcl (by simp)
  exact (rc_eq_decline_or (k:=false) da.typeIs ⟨_,ho2,rfl⟩ (by decide) PySem.F.sub_tuple_dict PySem.F.slot_dict_eq PySem.F.slot_tuple_eq_refl
    (fun _ hq=>aGE da hb hq)
    (fun _ hq=>call_meets PySem.F.slot_tuple_eq_refl ⟨_,ho2,rfl⟩ PySem.F.entry_tuple_eq (PySem.F.args_tuple_eq_2 _ _) (aEF b a items n2 dd2 sl2) ⟨ho2,⟨o,ho,hcl⟩,hq⟩)
    (fun _ hq=>wpAny_isSame_ref_other hne ho ho2 (by rw [hcl];simp) hq) (.inr hu) h)
end
section
variable {X:Cx}{W:WX}{a b:Expr}{ma mb:EM}{pos:Pos}
def dEqU (x y:D):Option D:=match x,y with
  | .dic _ _, .tup _=>some (.bl false)
  | x,y=>dEq x y
theorem aST (hu:X.A.units+64<cLine):OpR X (compareOp .Eq) (OpM X dEqU):=by
  intro pins s σ H x y v u Q I rx ry h
  obtain ⟨w,dx,dy,E,rfl,R,qx,qy,P⟩:=h
  unfold dEqU at P
  split at P
  · cases qx with
    | dic st hz r=>
      rename_i ks l m a vs
      cases qy with
      | tup st2 r2=>
        cases (show v=Value.ref _ from rx)
        cases (show u=Value.ref _ from ry)
        obtain ⟨its,r1,p1,_⟩:=I.tuple st2.sq
        obtain ⟨_,_,ws,_,dd⟩:=dk_of I.hok st.1
        exact aJl dd p1 (by omega) ⟨.bl false,w.hp,I,rfl,Post.now P R (.bl _)⟩
  · exact aDa hu pins s σ w.hp x y v u Q I rx ry ⟨w,dx,dy,E,rfl,R,qx,qy,P⟩
def slDA (S:Store) (d:D) (lo hi:Option Int):Option D:=match d with
  | .tup l=>some (.tup (cutL l lo hi))
  | d=>slD S d lo hi
theorem aO4 {α:Type}{l:List α}{lo hi:Option Int}(h:HT.sIx l.length 0 lo=0∧HT.sIx l.length l.length hi=l.length):cutL l lo hi=l:=by
  unfold cutL
  rw [h.1,h.2]
  simp
def SlMA (X:Cx):V→Option Int→Option Int→Hp→VK→Prop:=fun v lo hi H Q=>∃ w x E,w.hp=H∧Rep X.K X.mg w∧RepD X.K X.mg w x v∧Post (RepD X.K X.mg) X.K X.mg w (lf (slDA w.st x lo hi) w.st) Q E
theorem aVS:SlR X (SlMA X):=by
  intro pins s σ H x v vl vu lo hi sl Q I rx hs pl pu h
  obtain ⟨w,dx,E,rfl,R,qx,P⟩:=h
  unfold slDA at P
  split at P
  · rename_i l
    cases qx with
    | tup st r=>
      refine sl_tupA pins s σ w.hp _ v vl vu _ _ sl Q I rx hs pl pu ⟨_,_,rfl,st.sq,fun hw => ?_,fun hn p hp => ?_⟩
      · rw [← r.length] at hw
        rw [aO4 hw] at P
        exact Post.now P R (.tup st r)
      · exact Post.put P R hp (.tup (.inl (aBO R hp).o) ((r.cut _ _).ext (aBk R hp).toEx0))
  · exact aVB pins s σ w.hp x v vl vu lo hi sl Q I rx hs pl pu ⟨w,dx,E,rfl,R,qx,P⟩
def eSlA (a:EM) (lo hi:OM):EM:=fun e S=>(a e S).bind fun x S1=>(lo e S1).bind fun l S2=>(hi e S2).bind fun h S3=>lf (slDA S3 x l h) S3
theorem aSU {lo hi:Option Expr}{ml mh:OM}{p2:Pos}(ha:RE X W a ma) (hl:RO X W lo ml) (hh:RO X W hi mh):RE X W (.Subscript a (.Slice lo hi none p2) pos) (eSlA ma ml mh):=by
  refine aAV (pe_slice aVS ha hl hh) ?_
  rintro s H Q ⟨w,en,rfl,R,E,P⟩
  refine ⟨w,en,rfl,R,E,(Post.bind P).imp ?_⟩
  rintro v H1 ⟨w1,x,rfl,X1,R1,rx,P1⟩
  refine ⟨w1,en,rfl,R1,E.ext X1.toEx0,(Post.bind P1).imp ?_⟩
  rintro l H2 ⟨w2,y,rfl,X2,R2,ry,P2⟩
  cases ry
  refine ⟨w2,en,rfl,R2,(E.ext X1.toEx0).ext X2.toEx0,(Post.bind P2).imp ?_⟩
  rintro h H3 ⟨w3,z,rfl,X3,R3,rz,P3⟩
  cases rz
  exact ⟨w3,x,_,rfl,R3,(rx.ext X2.toEx0).ext X3.toEx0,P3⟩
end
end G
namespace G
open PySem L2 PySem.Spec PyProof.Rows
open PySem.W (InstAt)
section
variable {X:Cx}{W:WX}{a:Expr}{ma:EM}{pos p:Pos}{k j cn:Nat}{ps ks:List Str}{f:FM}{gD:List D→List D→List D}
def lenOf (r:Res D):Res D:=r.bind fun y S1=>match y with
  | .int i=>if 0≤i∧i<2 ^ 63 then .ok (.int i) S1 else .stuck
  | _ => .stuck
def eLenO (cn:Nat) (f:FM) (gD:List D→List D→List D) (m:EM):EM:=fun e S=>(aCons m aNil e S).bind fun ds S0=>match ds with
  | [x]=>if isCn cn S0 x=true then lenOf (f (gD [x] []) S0) else .stuck
  | _ => .stuck
def strOfT (r:Res D):Res D:=r.bind fun y S1=>match y with
  | .str t => .ok (.str t) S1
  | _ => .stuck
def eReprO (cn:Nat) (f:FM) (gD:List D→List D→List D) (m:EM):EM:=fun e S=>(aCons m aNil e S).bind fun ds S0=>match ds with
  | [x]=>if isCn cn S0 x=true then strOfT (f (gD [x] []) S0) else .stuck
  | _ => .stuck
end
end G
namespace G
open PySem L2 PySem.Spec
section
variable {X:Cx}{W:WX}{a:Expr}{ma:EM}{pos:Pos}{p:Pos}
def dkV (S:Store) (d:D):Option (List (Key×D)):=(dkD S d).map (·.2)
def eDictN (m:EM):EM:=fun e S=>(m e S).bind fun d S1=>(lf (dkV S1 d) S1).bind fun l S2 => .ok (.loc S2.length) (S2++[.dk l])
end
end G
namespace G
open PySem L2 PySem.Spec PyProof.Rows
end G
namespace G
open PySem L2 PySem.Spec PyProof.Rows
open PySem.W (InstAt)
section
variable {X:Cx}{W:WX}{a:Expr}{ma:EM}{pos p:Pos}{k j cn:Nat}{ps ks:List Str}{f:FM}{gD:List D→List D→List D}
def bolOf (r:Res D):Res D:=r.bind fun y S1=>match y with
  | .int i=>if 0≤i∧i<2 ^ 63 then .ok (.bl (i != 0)) S1 else .stuck
  | _ => .stuck
def eBoolO (cn:Nat) (f:FM) (gD:List D→List D→List D) (m:EM):EM:=fun e S=>(aCons m aNil e S).bind fun ds S0=>match ds with
  | [x]=>if isCn cn S0 x=true then bolOf (f (gD [x] []) S0) else .stuck
  | _ => .stuck
end
end G
namespace G
open PySem L2 PySem.Spec PyProof.Rows
def okR (p:List D×Option Nat) (S:Store):Prop:=match p.2 with
  | none=>True
  | some n=>S[n]? = some (.lst p.1.reverse)
noncomputable def sForR (i:CM) (g:GM) (m:SM):SM:=fun e S=>sE (i e S) e fun p S1=>fiC (okR p) g m p.1 e S1
def iRev (m:EM):CM:=fun e S=>(m e S).bind fun d S1=>match d with
  | .loc n=>match S1[n]? with
    | some (.lst l) => .ok (l.reverse,some n) S1
    | _ => .stuck
  | _ => .stuck
end G
namespace G
open PySem L2 PySem.Spec PyProof.Rows
section
variable {X:Cx}{W:WX}{body:List Stmt}{f0:Stmt}{fs:List Stmt}{pos:Pos}{tb:WX→TS}{tf tfs:TS}{mt mf:SM}{k:Nat}
def sFin (m n:SM):SM:=fun e S=>match m e S with
  | .nxt e1 S1=>(match n e1 S1 with
    | .nxt e2 S2 => .nxt e2 S2
    | _ => .stuck)
  | .exc (.exc cn fs) e1 S1=>(match n e1 S1 with
    | .nxt e2 S2 => .exc (.exc cn fs) e2 S2
    | _ => .stuck)
  | _ => .stuck
end
open Classical in
noncomputable def dkR (ck:Store→Prop) (g:Tg) (t:TM) (mk mv:EM) (e:En):List D→List (Key×D)→Store→Res (List (Key×D))
  | [],acc,S=>if ck S then .ok acc S else .stuck
  | d::ds,acc,S=>if ck S then match g.m d e with
    | some e1=>(noX (t e1 S)).bind fun b S2=>if b then (noX (mk e1 S2)).bind fun y S3=>(noX (mv e1 S3)).bind fun z S4=>match keyD y with
      | some k=>if acc.length<sizeLine then dkR ck g t mk mv e ds (putKD acc k z) S4 else .stuck
      | none => .stuck
      else dkR ck g t mk mv e ds acc S2
    | none => .stuck else .stuck
def finD:List (Key×D)→Store→Res D:=fun acc S => .ok (.loc S.length) (S++[.dk acc])
noncomputable def eDcK (i:CM) (g:Tg) (t:TM) (mk mv:EM) (vs:List Nat):EM:=fun e S=>(i e S).bind fun p S1=>(dkR (okC p) g t mk mv (wipeE e vs) p.1 [] S1).bind finD
def iNo (i:AM):CM:=fun e S=>(i e S).bind fun ds S1 => .ok (ds,none) S1
end G
namespace G
open PySem L2 PySem.Spec PyProof.Rows
section
variable {X:Cx}{W:WX}{o:Expr}{ma:EM}{pos apos:Pos}{x:Str}{j k cn:Nat}{ps:List Str}{f:FM}{gD:List D→List D→List D}{ad:Addr}{pn:List (Addr×Obj)}
def eMeth0N (cn:Nat) (f:FM) (gD:List D→List D→List D) (mo:EM):EM:=fun e S=>(mo e S).bind fun x S0=>if isCn cn S0 x=true then noF f (gD [x] []) S0 else .stuck
end
end G
namespace G
open PySem L2 PySem.Spec PyProof.Rows
def itE (cn:Nat) (f:FM) (gD:List D→List D→List D) (S:Store) (x y:D):Prop:=eqP x y=some true∨(isCn cn S x=true∧isCn cn S y=true∧f (gD [x,y] []) S = .ok (.bl true) S)
def lsD:D→Option (List D)
  | .lst l=>some l
  | _=>none
def eqLP (cn:Nat) (f:FM) (gD:List D→List D→List D) (x y:D) (S:Store):Prop:=∃ (l l':List D),lsD x=some l∧lsD y=some l'∧l.length=l'.length∧∀ (i:Nat) (a b:D),l[i]? = some a→l'[i]? = some b→itE cn f gD S a b
open Classical in
noncomputable def eqL (neg:Bool) (cn:Nat) (f:FM) (gD:List D→List D→List D) (x y:D) (S:Store):Res D:=if eqLP cn f gD x y S then .ok (.bl (!neg)) S else .stuck
noncomputable def eEqL (neg:Bool) (cn:Nat) (f:FM) (gD:List D→List D→List D) (a b:EM):EM:=fun e S=>(a e S).bind fun x S1=>(b e S1).bind fun y S2=>eqL neg cn f gD x y S2
end G
namespace G
open PySem L2 PySem.Spec PyProof.Rows
end G
namespace G
open PySem L2 PySem.Spec PyProof.Rows
def plD (S:Store) (d:D):Bool:=match d with
  | .non=>true
  | .bl _=>true
  | .int _=>true
  | .str _=>true
  | .dic _ _=>true
  | d=>(seqT S d).isSome
def eqM (neg:Bool) (cn:Nat) (f:FM) (gD:List D→List D→List D) (x y:D) (S:Store):Res D:=
  if isCn cn S x=true∧(isCn cn S y=true∨plD S y=true) then eqOf neg (f (gD [x,y] []) S)
  else if neg=false∧plD S x=true∧isCn cn S y=true then eqOf false (f (gD [y,x] []) S) else .stuck
def eEqM (neg:Bool) (cn:Nat) (f:FM) (gD:List D→List D→List D) (a b:EM):EM:=fun e S=>(a e S).bind fun x S1=>(b e S1).bind fun y S2=>eqM neg cn f gD x y S2
def locD:D→Option Nat
  | .loc n=>some n
  | _=>none
def inM (cn:Nat) (f:FM) (gD:List D→List D→List D) (x:D):List D→Store→Res D
  | [],S => .ok (.bl false) S
  | y::r,S=>if (locD y).isSome=true∧locD y=locD x then .ok (.bl true) S
    else if (locD y).isSome=true∨plD S y=true then (eqM false cn f gD y x S).bind fun z S1=>match z with
      | .bl true => .ok (.bl true) S1
      | .bl false=>inM cn f gD x r S1
      | _ => .stuck
    else .stuck
def lstT:D→Option (List D)
  | .lst l=>some l
  | .tup l=>some l
  | _=>none
def inO (cn:Nat) (f:FM) (gD:List D→List D→List D) (x y:D) (S:Store):Res D:=match lstT y with
  | some l=>if isCn cn S x=true∧(locD x).isSome=true then inM cn f gD x l S else .stuck
  | none => .stuck
def eInO (cn:Nat) (f:FM) (gD:List D→List D→List D) (a b:EM):EM:=fun e S=>(a e S).bind fun x S1=>(b e S1).bind fun y S2=>inO cn f gD x y S2
end G
namespace G
open PySem L2 PySem.Spec PyProof.Rows
def extR (x:D) (xs:List D) (S:Store):Res D:=match x,xs with
  | .loc n,[y]=>match S[n]?,lstOf S y with
    | some (.lst l),some m=>if l.length+m.length≤sizeLine then .ok .non (S.set n (.lst (l++m))) else .stuck
    | _,_ => .stuck
  | _,_ => .stuck
def eExt (a:EM) (m:AM):EM:=fun e S=>(a e S).bind fun x S1=>if isLst S1 x then (m e S1).bind fun xs S2=>extR x xs S2 else .stuck
end G
namespace G
open PySem L2 PySem.Spec PyProof.Rows
open MeetsSeq MeetsSeq2 MeetsSeq3
end G
namespace G
open PySem L2 PySem.Spec PyProof.Rows RZ
abbrev yA (h:Heap) (l1:Addr):Heap:=h.push { cls:=.type "list_iterator",data:=.fields #[.ref l1, .int 0 0] }
abbrev yB (h:Heap) (l1 l2:Addr):Heap:=(yA h l1).push { cls:=.type "tuple_iterator",data:=.fields #[.ref l2, .int 0 0] }
abbrev yC (h:Heap) (l1 l2:Addr):Heap:=(yB h l1 l2).push { cls:=.type "tuple",data:=.seq #[.ref h.objs.size, .ref (yA h l1).objs.size] }
abbrev yD (h:Heap) (l1 l2:Addr):Heap:=(yC h l1 l2).push { cls:=.type "tuple",data:=.seq #[.none, .none] }
abbrev yE (h:Heap) (l1 l2:Addr):Heap:=(yD h l1 l2).push { cls:=.type "zip",data:=.fields #[.none, .bool false, .bool false, .ref (yB h l1 l2).objs.size, .ref (yC h l1 l2).objs.size] }
theorem aSf (l1 l2:Addr) (xs ys:Array Value) :
    Meets (Builtin.«zip.__new__» ⟨[.type "zip", .ref l1, .ref l2],[]⟩) (fun _ R s=>s.heap.IsList l1 xs∧s.heap.IsTuple l2 ys ∧
      R (.ok (.ret (.ref (yD s.heap l1 l2).objs.size))) { s with heap:=yE s.heap l1 l2 }):=
  .of_wp fun prog w A R s h=>by
    obtain ⟨hp,g,d,tk,os⟩:=s;obtain ⟨q1,q2,h⟩:=h
    have hsub:=sub_zip
    have e1:Heap.IsList (Shared.heap ⟨hp,g,d,tk,os⟩) l1 xs:=q1
    have e2:Heap.IsTuple (Shared.heap ⟨hp.push { cls:=.type "list_iterator",data:=.fields #[.ref l1, .int 0 0] },g,d,tk,os⟩) l2 ys:=Heap.IsTuple.push q2 _
    wp_walk using wpAny_pyIter_list e1,wpAny_pyIter_tuple e2
    exact ⟨_,rfl,h⟩
theorem aPX {prog:Program}{w:World}{A:Around}{E:Value→Shared→Prop}{s:Shared}{l1 l2:Addr}{xs ys:Array Value}{Q:Value→Shared→Prop}(q1:s.heap.IsList l1 xs) (q2:s.heap.IsTuple l2 ys)
    (h:∀ h',IsZip h' (s.heap.objs.size+4) (s.heap.objs.size+2) (s.heap.objs.size+3) .none→IsPair h' (s.heap.objs.size+2) (.ref s.heap.objs.size) (.ref (s.heap.objs.size+1)) →
      IsPair h' (s.heap.objs.size+3) .none .none→h'.IsListIter s.heap.objs.size l1 0→h'.IsTupleIter (s.heap.objs.size+1) l2 0 →
      (∀ c o,s.heap.get? c=some o→h'.get? c=some o)→Q (.ref (s.heap.objs.size+4)) { s with heap:=h' }) :
    wpAny (model prog w) A (call (.type "zip") [.ref l1, .ref l2]) Q E s:=by
  refine callType_new F.called_zip (by decide) (F.typeCall_zip_2 _ _) (F.newCall_zip_2 _ _) (fun obj=>F.args_object_init_3 obj _ _) F.entry_zip_new (aSf l1 l2 xs ys) ⟨q1,q2,?_⟩
  generalize hn:s.heap.objs.size=n at h ⊢
  have n1:(yA s.heap l1).objs.size=n+1:=by rw [Heap.size_push,hn]
  have n2:(yB s.heap l1 l2).objs.size=n+2:=by rw [Heap.size_push,n1]
  have n3:(yC s.heap l1 l2).objs.size=n+3:=by rw [Heap.size_push,n2]
  have n4:(yD s.heap l1 l2).objs.size=n+4:=by rw [Heap.size_push,n3]
  have g5:(yE s.heap l1 l2).get? (yD s.heap l1 l2).objs.size=some _:=Heap.get?_push_size _ rfl
  have g4:(yE s.heap l1 l2).get? (yC s.heap l1 l2).objs.size=some _:=Heap.get?_push_of_some _ (Heap.get?_push_size _ rfl)
  have g3:(yE s.heap l1 l2).get? (yB s.heap l1 l2).objs.size=some _:=Heap.get?_push_of_some _ (Heap.get?_push_of_some _ (Heap.get?_push_size _ rfl))
  have g2:(yE s.heap l1 l2).get? (yA s.heap l1).objs.size=some _:=Heap.get?_push_of_some _ (Heap.get?_push_of_some _ (Heap.get?_push_of_some _ (Heap.get?_push_size _ rfl)))
  have g1:(yE s.heap l1 l2).get? s.heap.objs.size=some _:=Heap.get?_push_of_some _ (Heap.get?_push_of_some _ (Heap.get?_push_of_some _ (Heap.get?_push_of_some _ (Heap.get?_push_size _ rfl))))
  show _∧_
  rw [n2,n3,n4] at g5
  rw [n1,n2,hn] at g3
  rw [n3] at g4
  rw [n1] at g2
  rw [hn] at g1
  rw [n4]
  exact ⟨⟨_,g5,rfl⟩,h _ g5 g3 g4 ⟨_,g1,rfl,rfl⟩ ⟨_,g2,rfl,rfl⟩ fun c o x=>
    Heap.get?_push_of_some _ (Heap.get?_push_of_some _ (Heap.get?_push_of_some _ (Heap.get?_push_of_some _ (Heap.get?_push_of_some _ x))))⟩
def ItLt (K:PySem.W.Frag) (a b:Addr):It:=
  ⟨fun i H=>∃ (xs ys:List V) (x y:V),SqL K H a xs∧SqT K H b ys∧xs[i]? = some x∧ys[i]? = some y,
    fun i H v H'=>∃ T x y,v = .ref T∧H T=none∧H'=upd H T (.tup [x,y])∧(∀ xs,SqL K H a xs→xs[i]? = some x)∧∀ ys,SqT K H b ys→ys[i]? = some y,
    fun i H=>∃ xs ys:List V,SqL K H a xs∧SqT K H b ys∧(xs.length≤i∨ys.length≤i)⟩
theorem turnLt {P:Program}{w:World}{K:PySem.W.Frag}{elts:List Expr}{kk:Nat}{tpos:Pos}{a b z TI TO i1 i2:Addr}(D:ZipApart z TI TO i1 i2 a b) :
    Turn P w K (.Tuple elts kk tpos) (ItLt K a b) [z,TI,TO,i1,i2] z (fun i h=>IsZip h z TI TO .none∧IsPair h TI (.ref i1) (.ref i2)∧(∃ x y,IsPair h TO x y)∧h.IsListIter i1 a i∧h.IsTupleIter i2 b i) where
  mem:=by simp
  obj:=fun i h st c hc=>by
    obtain ⟨hz,hTI,⟨x,y,hTO⟩,⟨o1,e1,_,d1⟩,⟨o2,e2,_,d2⟩⟩:=st
    simp only [List.mem_cons,List.not_mem_nil,or_false] at hc
    rcases hc with rfl | rfl | rfl | rfl | rfl
    · exact ⟨_,hz,fun v q=>nomatch q⟩
    · exact ⟨_,hTI,fun v q=>nomatch q⟩
    · exact ⟨_,hTO,fun v q=>nomatch q⟩
    · exact ⟨o1,e1,fun v q=>by rw [d1] at q;cases q⟩
    · exact ⟨o2,e2,fun v q=>by rw [d2] at q;cases q⟩
  keep:=fun i h h' st k=>by
    obtain ⟨hz,hTI,⟨x,y,hTO⟩,h1,h2⟩:=st
    exact ⟨k z (by simp) _ hz,k TI (by simp) _ hTI,⟨x,y,k TO (by simp) _ hTO⟩,h1.at fun o q=>k i1 (by simp) o q,h2.at fun o q=>k i2 (by simp) o q⟩
  item:=by
    intro X hP hw hK hc i pins s σ H E I hf st hg
    subst hP hw hK
    obtain ⟨hz,hTI,⟨x0,y0,hTO⟩,h1,h2⟩:=st
    obtain ⟨xs,ys,x,y,hqx,hqy,hx,hy⟩:=hg
    obtain ⟨its,rv,p,_⟩:=I.list hqx
    obtain ⟨its2,rv2,p2,_⟩:=I.tuple hqy
    obtain ⟨u,hu,ru⟩:=rv.get hx
    obtain ⟨u2,hu2,ru2⟩:=rv2.get hy
    have zl:z<s.heap.objs.size:=Heap.lt_size hz
    refine aKg (aIK i1 a its.toArray) (aIJ i2 b its2.toArray) D hz hTI hTO h1 h2 p.isList p2 (x:=u) (y:=u2) (by simpa using hu) (by simpa using hu2) fun h' z' TO' h1' h2' hT hsz hk => ?_
    refine ⟨_,rfl,wpAny_letOwnedTupleGo_zip (s:={ s with heap:=h' }) z' fun h'' z'' sb => ?_⟩
    have hT2:h''.get? s.heap.objs.size=some { cls:=.type "tuple",data:=.seq #[u,u2] }:=(sb.2 _ (Nat.ne_of_gt zl)).trans hT
    have new:ObjOk X.prog X.w (upd H s.heap.objs.size (.tup [x,y])) h'' s.heap.objs.size (.tup [x,y]):=⟨by show 2≤sizeLine;decide,[u,u2], .cons ru (.cons ru2 .nil),⟨_,hT2,rfl,_,rfl⟩⟩
    have out:∀ c o,c∉[z,TI,TO,i1,i2]→s.heap.get? c=some o→h''.get? c=some o:=fun c o hb q=>
      (sb.2 c fun q'=>hb (by simp [q'])).trans (hk c o (fun q'=>hb (by simp [q'])) (fun q'=>hb (by simp [q'])) (fun q'=>hb (by simp [q'])) (fun q'=>hb (by simp [q'])) q)
    have I1:Inv X pins σ (upd H s.heap.objs.size (.tup [x,y])) { s with heap:=h'' }:=I.turnedNew (t':=s.toks) (ch:=[z,TI,TO,i1,i2]) out hf (Nat.le_refl _) new
    refine ⟨.ref s.heap.objs.size,_,I1,rfl,⟨_,x,y,rfl,I.hok.fresh (Nat.le_refl _),rfl,fun l hl=>by rw [I.list_inj hl hqx];exact hx,fun l hl=>by rw [I.tuple_inj hl hqy];exact hy⟩,
      ⟨z'',(sb.2 _ D.TIz).trans (hk _ _ D.TIz D.TITO D.TIi1 D.TIi2 hTI),⟨u,u2,(sb.2 _ D.TOz).trans TO'⟩,h1'.at fun o q=>(sb.2 _ D.i1z).trans q,h2'.at fun o q=>(sb.2 _ D.i2z).trans q⟩,fun c hcm => ?_⟩
    have hlt:c<s.heap.objs.size:=by
      simp only [List.mem_cons,List.not_mem_nil,or_false] at hcm
      rcases hcm with rfl | rfl | rfl | rfl | rfl
      · exact zl
      · exact Heap.lt_size hTI
      · exact Heap.lt_size hTO
      · exact (aIK (prog:=X.prog) (w:=X.w) _ a its.toArray).lt h1
      · exact (aIJ (prog:=X.prog) (w:=X.w) _ b its2.toArray).lt h2
    rw [upd_ne (Nat.ne_of_lt hlt)]
    exact (hf c hcm).1
  done:=by
    intro X hP hw hK hc i pins s σ H E I hf st hg
    subst hP hw hK
    obtain ⟨hz,hTI,⟨x0,y0,hTO⟩,h1,h2⟩:=st
    obtain ⟨xs,ys,hqx,hqy,hend⟩:=hg
    obtain ⟨its,rv,p,_⟩:=I.list hqx
    obtain ⟨its2,rv2,p2,_⟩:=I.tuple hqy
    have n1:=rv.length
    have n2:=rv2.length
    have he:its.toArray[i]? = none∨its2.toArray[i]? = none:=by
      rcases hend with q | q
      · exact .inl (by simp;omega)
      · exact .inr (by simp;omega)
    exact aKh (I.ok.hd hc) (aIK i1 a its.toArray) (aIJ i2 b its2.toArray) D hz hTI hTO h1 h2 p.isList p2 he fun h' hk=>⟨rfl,I.turnedL (t':=s.toks) (ch:=[z,TI,TO,i1,i2]) (fun c o hb q=>
      hk c o (fun q'=>hb (by simp [q'])) (fun q'=>hb (by simp [q'])) (fun q'=>hb (by simp [q'])) (fun q'=>hb (by simp [q'])) q) hf⟩
  self:=fun A i s Q E st h=>wpAny_pyIter_zip st.1 h
def iZipVl (K:PySem.W.Frag) (ta:TA):TI:=fun σ H R=>ta σ H fun vs H1=>∃ a b xs ys,vs = [.ref a, .ref b]∧SqL K H1 a xs∧SqT K H1 b ys∧R (ItLt K a b) H1
theorem aTO {X:Cx}{e e2:Expr}{ta:TA}{p pos tpos:Pos}{elts:List Expr}{kk:Nat}(hg:Gl X "zip") (hm:X.mg "zip"=none) (ha:PA X [e,e2] ta)
    (hs:starEach [e,e2] X.env=(false,eval e X.env)::starEach [e2] X.env) (hpl:(backTo pos (starEach [e2] X.env)).any (·.1)=false) :
    PI X (.Tuple elts kk tpos) (.Call (.Name "zip" p) [e,e2] [] pos) (iZipVl X.K ta):=by
  refine ⟨fun pins s σ H R I h => ?_⟩
  refine Call_ (ld_blt I hg hm PyProof.Rows.boot_zip (PyProof.Rows.callWith_type1 (thn (ha.run pos pins s σ H _ I h) fun us s1 ⟨vs,H1,I1,r1,q1⟩ => ?_) hs hpl))
  obtain ⟨a,b,xs,ys,rfl,hqx,hqy,q⟩:=q1
  obtain ⟨v,v',rfl,rv,rv'⟩:=vals2 r1
  cases rv
  cases rv'
  obtain ⟨its,rx,p1,_⟩:=I1.list hqx
  obtain ⟨its2,ry,p2,_⟩:=I1.tuple hqy
  obtain ⟨o2,ho2,_⟩:=id p2
  refine aPX p1.isList (show s1.heap.IsTuple b its2.toArray from p2) fun h' hz hTI hTO h1 h2 hk=>wpAny_pyIter_zip hz ?_
  have I2:Inv X pins σ H1 { s1 with heap:=h' }:=I1.kept (t':=s1.toks) hk
  refine ⟨s1.heap.objs.size+4,[s1.heap.objs.size+4,s1.heap.objs.size+2,s1.heap.objs.size+3,s1.heap.objs.size,s1.heap.objs.size+1],_,_,H1,rfl,I2,turnLt (PySem.W.ktu_apart s1.heap.objs.size a b p1.lt (Heap.lt_size ho2)),⟨hz,hTI,⟨_,_,hTO⟩,h1,h2⟩,fun c hcm => ?_,q⟩
  have hle:s1.heap.objs.size≤c:=by
    simp only [List.mem_cons,List.not_mem_nil,or_false] at hcm
    rcases hcm with rfl | rfl | rfl | rfl | rfl
    · exact Nat.le_add_right _ _
    · exact Nat.le_add_right _ _
    · exact Nat.le_add_right _ _
    · exact Nat.le_refl _
    · exact Nat.le_add_right _ _
  exact I1.fpOk hle (I1.hok.fresh hle)
section
variable {X:Cx}{W:WX}{a b:Expr}{p pos:Pos}{w:Wo}
theorem aPY {l m:List D}{a b:Addr}{vs us:List V}(s1:∀ w2,Ex0 w w2→SqL X.K w2.hp a vs) (s2:∀ w2,Ex0 w w2→SqT X.K w2.hp b us) (r1:RepL X.K X.mg w l vs) (r2:RepL X.K X.mg w m us):ItsR X w (zipD l m) (ItLt X.K a b):=by
  intro w2 x2 _ R2
  have q1:=s1 w2 x2
  have q2:=s2 w2 x2
  have e1:=r1.length
  have e2:=r2.length
  have hl:(zipD l m).length=min l.length m.length:=by unfold zipD;simp
  refine ⟨fun i hi=>⟨?_,fun x H' y => ?_⟩,⟨vs,us,q1,q2,by rw [hl];omega⟩⟩
  · rw [hl] at hi
    exact ⟨vs,us,vs[i]'(by omega),us[i]'(by omega),q1,q2,by simp,by simp⟩
  · obtain ⟨T,x1,y1,rfl,hT,rfl,g1,g2⟩:=y
    obtain ⟨d1,k1,rd1⟩:=r1.getV (g1 vs q1)
    obtain ⟨d2,k2,rd2⟩:=r2.getV (g2 us q2)
    have xp:=aBk (o:=.tup [x1,y1]) R2 hT
    refine ⟨w2.put T (.tup [x1,y1]), .tup [d1,d2],rfl,xp,R2.put hT,rfl,rfl,?_, .tup (.inl (aBO R2 hT).o) (.cons ((rd1.ext x2).ext xp.toEx0) (.cons ((rd2.ext x2).ext xp.toEx0) .nil))⟩
    unfold zipD
    rw [List.getElem?_zipWith,k1,k2]
def zipRL (ds:List D) (S:Store):Res (List D):=match ds with
  | [.lst l, .tup m] => .ok (zipD l m) S
  | _ => .stuck
def iZipL (m:AM):AM:=fun e S=>(m e S).bind zipRL
theorem aTP {m:AM}{elts:List Expr}{kk:Nat}{tpos:Pos}(hm:X.mg "zip"=none) (ha:RA X W [a,b] m) (hg:Gl X "zip":=by rfl) (hs:starEach [a,b] X.env=(false,eval a X.env)::starEach [b] X.env:=by rfl) (hpl:(backTo pos (starEach [b] X.env)).any (·.1)=false:=by rfl) :
    RI X W (.Tuple elts kk tpos) (.Call (.Name "zip" p) [a,b] [] pos) (iZipL m):=by
  refine ⟨fun pins s σ H R' I h=>(aTO hg hm ha hs hpl).run pins s σ H R' I ?_⟩
  obtain ⟨w,en,rfl,R,E,P⟩:=h
  refine ⟨w,en,rfl,R,E,(Post.bind P).imp ?_⟩
  rintro vs H1 ⟨w1,ds,rfl,X1,R1,rx,P1⟩
  unfold zipRL at P1
  split at P1
  · obtain ⟨v,v',rfl,rv,rv'⟩:=rx.two_inv
    cases rv with
    | lst s1 r1=>
      cases rv' with
      | tup s2 r2=>exact ⟨_,_,_,_,rfl,SqL.of s1.1,s2.sq,Post.now P1 R1 (aPY (fun w2 x2=>SqL.of (s1.ext x2).1) (fun w2 x2=>(s2.ext x2).sq) r1 r2)⟩
  · exact False.elim P1
end
end G
namespace G
open PySem L2 PySem.Spec PyProof.Rows
def tpD:D→Option (List D)
  | .tup l=>some l
  | _=>none
def eqTP (cn:Nat) (f:FM) (gD:List D→List D→List D) (x y:D) (S:Store):Prop:=∃ (l l':List D),tpD x=some l∧tpD y=some l'∧l.length=l'.length∧∀ (i:Nat) (a b:D),l[i]? = some a→l'[i]? = some b→itE cn f gD S a b
open Classical in
noncomputable def eqT (neg:Bool) (cn:Nat) (f:FM) (gD:List D→List D→List D) (x y:D) (S:Store):Res D:=if eqTP cn f gD x y S then .ok (.bl (!neg)) S else lf (if neg=true then dNe x y else dEq x y) S
noncomputable def eEqT (neg:Bool) (cn:Nat) (f:FM) (gD:List D→List D→List D) (a b:EM):EM:=fun e S=>(a e S).bind fun x S1=>(b e S1).bind fun y S2=>eqT neg cn f gD x y S2
end G
namespace G
open PySem L2 PySem.Spec PyProof.Rows
end G
namespace G
open PySem L2 PySem.Spec PyProof.Rows SrtO
end G
namespace G
open PySem
def Wr {β:Type}(r:Res β) (Q:β→Store→Prop) (X:D→Store→Prop):Prop:=match r with
  | .ok b S=>Q b S
  | .exc e S=>X e S
  | .stuck=>False
structure KS where
  nx:En→Store→Prop
  rt:D→Store→Prop
  bk:En→Store→Prop
  ct:En→Store→Prop
  ex:D→En→Store→Prop
def Ws (r:SRes) (k:KS):Prop:=match r with
  | .nxt e S=>k.nx e S
  | .ret d S=>k.rt d S
  | .brk e S=>k.bk e S
  | .cnt e S=>k.ct e S
  | .exc x e S=>k.ex x e S
  | .stuck=>False
abbrev QP (β:Type):=β→Store→Prop
section
variable {β γ:Type}{Q:β→Store→Prop}{QD:D→Store→Prop}{QB:Bool→Store→Prop}{QL:List D→Store→Prop}{QO:Option Int→Store→Prop}{QE:En→Store→Prop}{X:D→Store→Prop}{k:KS}{e:En}{S S1:Store}{a b c:EM}{t u:TM}{m n:SM}{am:AM}{x y d:D}{z:Bool}{xs ds:List D}
theorem aBh (z:β):Wr (.ok z S) Q X=Q z S:=rfl
theorem aHf (z:D):Wr (.exc z S:Res β) Q X=X z S:=rfl
theorem aFL:Wr (.stuck:Res β) Q X=False:=rfl
theorem aAb {r:Res γ}{f:γ→Store→Res β}:Wr (r.bind f) Q X=Wr r (fun b S=>Wr (f b S) Q X) X:=by cases r<;>rfl
theorem aAj {p:Prop} [Decidable p] {r:Res β}:Wr (if p then r else .stuck) Q X=(p∧Wr r Q X):=by
  by_cases h:p
  · rw [if_pos h];simp [h]
  · rw [if_neg h];simp [h,aFL]
def nX:D→Store→Prop:=fun _ _=>False
theorem aJm (z:β):Wr (lf (some z) S) Q X=Q z S:=rfl
theorem aJn:Wr (eC d e S) QD X=QD d S:=rfl
def evQ (o:Option (Option D)) (S:Store) (Q:D→Store→Prop):Prop:=match o with
  | some (some d)=>Q d S
  | _=>False
theorem aCR:evQ (some (some d)) S QD=QD d S:=rfl
theorem aDB (i:Nat):Wr (eVar i e S) QD X=evQ e[i]? S QD:=by
  unfold eVar evQ
  cases e[i]? with
  | none=>rfl
  | some o=>cases o<;>rfl
def cB2 (f:D→D→Option D) (x:D) (Q X:QP D):QP D:=fun y S=>Wr (lf (f x y) S) Q X
def cB1 (f:D→D→Option D) (b:EM) (e:En) (Q X:QP D):QP D:=fun x S=>Wr (b e S) (cB2 f x Q X) X
theorem aJo (f:D→D→Option D):cB2 f x QD X y S=Wr (lf (f x y) S) QD X:=rfl
theorem aJp (f:D→D→Option D):cB1 f b e QD X x S=Wr (b e S) (cB2 f x QD X) X:=rfl
theorem aDS (f:D→D→Option D):Wr (eBin f a b e S) QD X=Wr (a e S) (cB1 f b e QD X) X:=by
  unfold eBin;simp only [aAb];rfl
def cS2 (f:Store→D→D→Option D) (x:D) (Q X:QP D):QP D:=fun y S=>Wr (lf (f S x y) S) Q X
def cS1 (f:Store→D→D→Option D) (b:EM) (e:En) (Q X:QP D):QP D:=fun x S=>Wr (b e S) (cS2 f x Q X) X
theorem aLP (f:Store→D→D→Option D):cS2 f x QD X y S=Wr (lf (f S x y) S) QD X:=rfl
theorem aLQ (f:Store→D→D→Option D):cS1 f b e QD X x S=Wr (b e S) (cS2 f x QD X) X:=rfl
theorem aDT (f:Store→D→D→Option D):Wr (eBinS f a b e S) QD X=Wr (a e S) (cS1 f b e QD X) X:=by
  unfold eBinS;simp only [aAb];rfl
def asQ (Q:Bool→Store→Prop):QP D:=fun x S=>match x with
  | .bl b=>Q b S
  | _=>False
theorem aFM:asQ QB (.bl z) S=QB z S:=rfl
theorem aJq:Wr (tB a e S) QB X=Wr (a e S) (asQ QB) X:=by
  unfold tB;rw [aAb];congr;funext x S1;cases x<;>rfl
def truQ (Q:QP Bool) (X:QP D):QP D:=fun x S=>Wr (lf (truD S x) S) Q X
theorem aFN:truQ QB X x S=Wr (lf (truD S x) S) QB X:=rfl
theorem aLR:Wr (tT a e S) QB X=Wr (a e S) (truQ QB X) X:=by unfold tT;rw [aAb];rfl
def notQ (Q:QP Bool):QP Bool:=fun b S=>Q (!b) S
theorem aHg:notQ QB z S=QB (!z) S:=rfl
theorem aHh:Wr (tNt t e S) QB X=Wr (t e S) (notQ QB) X:=by unfold tNt;rw [aAb];rfl
def anQ (u:TM) (e:En) (Q:QP Bool) (X:QP D):QP Bool:=fun b S=>match b with
  | true=>Wr (u e S) Q X
  | false=>Q false S
theorem aJr:anQ u e QB X true S=Wr (u e S) QB X:=rfl
theorem aJs:anQ u e QB X false S=QB false S:=rfl
theorem aFO:Wr (tAn t u e S) QB X=Wr (t e S) (anQ u e QB X) X:=by
  unfold tAn;rw [aAb];congr;funext b S1;cases b<;>rfl
def orQ (u:TM) (e:En) (Q:QP Bool) (X:QP D):QP Bool:=fun b S=>match b with
  | true=>Q true S
  | false=>Wr (u e S) Q X
theorem aLS:orQ u e QB X true S=QB true S:=rfl
theorem aLT:orQ u e QB X false S=Wr (u e S) QB X:=rfl
theorem aHi:Wr (tOr' t u e S) QB X=Wr (t e S) (orQ u e QB X) X:=by
  unfold tOr';rw [aAb];congr;funext b S1;cases b<;>rfl
def eaB (b:EM) (e:En) (x:D) (Q X:QP D):QP Bool:=fun z S=>match z with
  | true=>Wr (b e S) Q X
  | false=>Q x S
def eaQ (b:EM) (e:En) (Q X:QP D):QP D:=fun x S=>Wr (lf (truD S x) S) (eaB b e x Q X) X
theorem aLU:eaB b e x QD X true S=Wr (b e S) QD X:=rfl
theorem aLV:eaB b e x QD X false S=QD x S:=rfl
theorem aKi:eaQ b e QD X x S=Wr (lf (truD S x) S) (eaB b e x QD X) X:=rfl
theorem aHj:Wr (eAn a b e S) QD X=Wr (a e S) (eaQ b e QD X) X:=by
  unfold eAn;rw [aAb];congr;funext b S1;rw [aAb,aKi];congr;funext b S1;cases b<;>rfl
def eoB (b:EM) (e:En) (x:D) (Q X:QP D):QP Bool:=fun z S=>match z with
  | true=>Q x S
  | false=>Wr (b e S) Q X
def eoQ (b:EM) (e:En) (Q X:QP D):QP D:=fun x S=>Wr (lf (truD S x) S) (eoB b e x Q X) X
theorem aLW:eoB b e x QD X true S=QD x S:=rfl
theorem aLX:eoB b e x QD X false S=Wr (b e S) QD X:=rfl
theorem aKj:eoQ b e QD X x S=Wr (lf (truD S x) S) (eoB b e x QD X) X:=rfl
theorem aHk:Wr (eOr a b e S) QD X=Wr (a e S) (eoQ b e QD X) X:=by
  unfold eOr;rw [aAb];congr;funext b S1;rw [aAb,aKj];congr;funext b S1;cases b<;>rfl
def enB (Q:QP D):QP Bool:=fun z S=>Q (.bl (!z)) S
def enQ (Q X:QP D):QP D:=fun x S=>Wr (lf (truD S x) S) (enB Q) X
theorem aLY:enB QD z S=QD (.bl (!z)) S:=rfl
theorem aLZ:enQ QD X x S=Wr (lf (truD S x) S) (enB QD) X:=rfl
theorem aHl:Wr (eNt a e S) QD X=Wr (a e S) (enQ QD X) X:=by
  unfold eNt;rw [aAb];congr;funext b S1;rw [aAb];rfl
def eiQ (a b:EM) (e:En) (Q X:QP D):QP Bool:=fun z S=>match z with
  | true=>Wr (a e S) Q X
  | false=>Wr (b e S) Q X
theorem aL_:eiQ a b e QD X true S=Wr (a e S) QD X:=rfl
theorem aMa:eiQ a b e QD X false S=Wr (b e S) QD X:=rfl
theorem aHm:Wr (eIf t a b e S) QD X=Wr (t e S) (eiQ a b e QD X) X:=by
  unfold eIf;rw [aAb];congr;funext b S1;cases b<;>rfl
def negQ (Q:QP D):QP D:=fun x S=>match x with
  | .int i=>Q (.int (-i)) S
  | _=>False
theorem aDU (i:Int):negQ QD (.int i) S=QD (.int (-i)) S:=rfl
theorem aEZ:Wr (eNeg a e S) QD X=Wr (a e S) (negQ QD) X:=by
  unfold eNeg;rw [aAb];congr;funext x S1;cases x<;>rfl
theorem aDV:Wr (aNil e S) QL X=QL [] S:=rfl
def cC2 (x:D) (Q:QP (List D)):QP (List D):=fun xs S=>Q (x::xs) S
def cC1 (am:AM) (e:En) (Q:QP (List D)) (X:QP D):QP D:=fun x S=>Wr (am e S) (cC2 x Q) X
theorem aJt:cC2 x QL xs S=QL (x::xs) S:=rfl
theorem aJu:cC1 am e QL X x S=Wr (am e S) (cC2 x QL) X:=rfl
theorem aDb:Wr (aCons a am e S) QL X=Wr (a e S) (cC1 am e QL X) X:=by
  unfold aCons;rw [aAb];congr;funext x S1;rw [aAb];rfl
def tupQ (Q:QP D):QP (List D):=fun xs S=>xs.length≤sizeLine∧Q (.tup xs) S
def lstQ (Q:QP D):QP (List D):=fun xs S=>xs.length≤sizeLine∧Q (.lst xs) S
def newQ (Q:QP D):QP (List D):=fun xs S=>xs.length≤sizeLine∧Q (.loc S.length) (S++[.lst xs])
theorem aHn:tupQ QD xs S=(xs.length≤sizeLine∧QD (.tup xs) S):=rfl
theorem aHo:lstQ QD xs S=(xs.length≤sizeLine∧QD (.lst xs) S):=rfl
theorem aHp:newQ QD xs S=(xs.length≤sizeLine∧QD (.loc S.length) (S++[.lst xs])):=rfl
theorem aE_:Wr (eTup am e S) QD X=Wr (am e S) (tupQ QD) X:=by
  unfold eTup;rw [aAb];congr;funext xs S1;rw [aAj];rfl
theorem aFa:Wr (eLst am e S) QD X=Wr (am e S) (lstQ QD) X:=by
  unfold eLst;rw [aAb];congr;funext xs S1;rw [aAj];rfl
theorem aFb:Wr (eNew am e S) QD X=Wr (am e S) (newQ QD) X:=by
  unfold eNew;rw [aAb];congr;funext xs S1;rw [aAj];rfl
def caQ (f:Store→List D→Option D) (Q X:QP D):QP (List D):=fun xs S=>Wr (lf (f S xs) S) Q X
theorem aJv (f:Store→List D→Option D):caQ f QD X xs S=Wr (lf (f S xs) S) QD X:=rfl
theorem aFP (f:Store→List D→Option D):Wr (eCa f am e S) QD X=Wr (am e S) (caQ f QD X) X:=by unfold eCa;rw [aAb];rfl
def clQ (f:FM) (Q X:QP D):QP (List D):=fun xs S=>Wr (f xs S) Q X
theorem aKk (f:FM):clQ f QD X xs S=Wr (f xs S) QD X:=rfl
theorem aD5 (f:FM):Wr (eCall f am e S) QD X=Wr (am e S) (clQ f QD X) X:=by unfold eCall;rw [aAb];rfl
def nAQ (i:Nat) (Q:QP (List D)):QP (List D):=fun xs S=>xs.length=i∧Q xs S
theorem aKl (i:Nat):nAQ i QL xs S=(xs.length=i∧QL xs S):=rfl
theorem aKm (i:Nat):Wr (nA i am e S) QL X=Wr (am e S) (nAQ i QL) X:=by
  unfold nA;rw [aAb];congr;funext xs S1;rw [aAj];rfl
def tyQ (y:Ty) (Q X:QP D):QP D:=fun x S=>Wr (lf ((isTy S y x).map .bl) S) Q X
theorem aMb (y:Ty):tyQ y QD X x S=Wr (lf ((isTy S y x).map .bl) S) QD X:=rfl
theorem aDW (y:Ty):Wr (eIsTy y a e S) QD X=Wr (a e S) (tyQ y QD X) X:=by unfold eIsTy;rw [aAb];rfl
def icQ (tb:Nat→Option Bool) (Q X:QP D):QP D:=fun x S=>Wr (lf ((isC tb x).map .bl) S) Q X
theorem aMc (tb:Nat→Option Bool):icQ tb QD X x S=Wr (lf ((isC tb x).map .bl) S) QD X:=rfl
theorem aFc (tb:Nat→Option Bool):Wr (eIsC tb a e S) QD X=Wr (a e S) (icQ tb QD X) X:=by unfold eIsC;rw [aAb];rfl
def mt2 (f:Store→D→List D→Option D) (x:D) (Q X:QP D):QP (List D):=fun xs S=>Wr (lf (f S x xs) S) Q X
def mt1 (f:Store→D→List D→Option D) (am:AM) (e:En) (Q X:QP D):QP D:=fun x S=>(seqD S x).isSome=true∧Wr (am e S) (mt2 f x Q X) X
theorem aMd (f:Store→D→List D→Option D):mt2 f x QD X xs S=Wr (lf (f S x xs) S) QD X:=rfl
theorem aMe (f:Store→D→List D→Option D):mt1 f am e QD X x S=((seqD S x).isSome=true∧Wr (am e S) (mt2 f x QD X) X):=rfl
theorem aHq (f:Store→D→List D→Option D):Wr (eMt f a am e S) QD X=Wr (a e S) (mt1 f am e QD X) X:=by
  unfold eMt;rw [aAb];congr;funext x S1;rw [aAj,aAb];rfl
theorem aDX:Wr (oNone e S) QO X=QO none S:=rfl
def oQ (Q:Option Int→Store→Prop):QP D:=fun x S=>match x with
  | .int i=>Q (some i) S
  | _=>False
theorem aHr (i:Int):oQ QO (.int i) S=QO (some i) S:=rfl
theorem aDY:Wr (oSome a e S) QO X=Wr (a e S) (oQ QO) X:=by
  unfold oSome;rw [aAb];congr;funext x S1;cases x<;>rfl
def sl3 (x:D) (i:Option Int) (Q X:QP D):QP (Option Int):=fun j S=>Wr (lf (slD S x i j) S) Q X
def sl2 (x:D) (h:OM) (e:En) (Q X:QP D):QP (Option Int):=fun i S=>Wr (h e S) (sl3 x i Q X) X
def sl1 (l h:OM) (e:En) (Q X:QP D):QP D:=fun x S=>Wr (l e S) (sl2 x h e Q X) X
theorem aMf (i j:Option Int):sl3 x i QD X j S=Wr (lf (slD S x i j) S) QD X:=rfl
theorem aMg (h:OM) (i:Option Int):sl2 x h e QD X i S=Wr (h e S) (sl3 x i QD X) X:=rfl
theorem aMh (l h:OM):sl1 l h e QD X x S=Wr (l e S) (sl2 x h e QD X) X:=rfl
theorem aHs (l h:OM):Wr (eSl a l h e S) QD X=Wr (a e S) (sl1 l h e QD X) X:=by
  unfold eSl;simp only [aAb];rfl
def kk2 (f:FM) (g:List D→List D→List D) (i j:Nat) (ds:List D) (Q X:QP D):QP (List D):=fun zs S=>(ds.length=i∧zs.length=j)∧Wr (f (g ds zs) S) Q X
def kk1 (f:FM) (g:List D→List D→List D) (i j:Nat) (mk:AM) (e:En) (Q X:QP D):QP (List D):=fun ds S=>Wr (mk e S) (kk2 f g i j ds Q X) X
theorem aMi (f:FM) (g:List D→List D→List D) (i j:Nat):kk2 f g i j ds QD X xs S=((ds.length=i∧xs.length=j)∧Wr (f (g ds xs) S) QD X):=rfl
theorem aKn (f:FM) (g:List D→List D→List D) (i j:Nat) (mk:AM):kk1 f g i j mk e QD X ds S=Wr (mk e S) (kk2 f g i j ds QD X) X:=rfl
theorem aDi (f:FM) (g:List D→List D→List D) (i j:Nat) (mk:AM):Wr (eCallK f g i j am mk e S) QD X=Wr (am e S) (kk1 f g i j mk e QD X) X:=by
  unfold eCallK;rw [aAb];congr;funext ds S1;rw [aAb,aKn];congr;funext zs S2;rw [aAj];rfl
def kk0 (f:FM) (g:List D→List D→List D) (j:Nat) (Q X:QP D):QP (List D):=fun zs S=>zs.length=j∧Wr (f (g [] zs) S) Q X
theorem aMj (f:FM) (g:List D→List D→List D) (j:Nat):kk0 f g j QD X xs S=(xs.length=j∧Wr (f (g [] xs) S) QD X):=rfl
theorem aCE (f:FM) (g:List D→List D→List D) (j:Nat) (mk:AM):Wr (eCallK0 f g j mk e S) QD X=Wr (mk e S) (kk0 f g j QD X) X:=by
  unfold eCallK0;rw [aAb];congr;funext zs S2;rw [aAj];rfl
theorem aE9 {r:Res β}:Wr (noX r) Q X=Wr r Q nX:=by cases r<;>rfl
theorem aKo (i:Nat):Wr (gN i d e S) QE X=QE (e.set i (some d)) S:=rfl
def sb3 (e:En) (Q:QP En) (o:Option Store):Prop:=match o with
  | some S=>Q e S
  | none=>False
theorem aMk:sb3 e QE (some S)=QE e S:=rfl
def sb2 (d x:D) (e:En) (Q:QP En):QP D:=fun y S=>sb3 e Q (setD S x y d)
def sb1 (d:D) (i:EM) (e:En) (Q:QP En):QP D:=fun x S=>Wr (i e S) (sb2 d x e Q) nX
theorem aKp:sb2 d x e QE y S=sb3 e QE (setD S x y d):=rfl
theorem aKq (i:EM):sb1 d i e QE x S=Wr (i e S) (sb2 d x e QE) nX:=rfl
theorem aHt (o i:EM):Wr (gSb o i d e S) QE X=Wr (o e S) (sb1 d i e QE) nX:=by
  unfold gSb;rw [aAb,aE9];congr;funext x S1;rw [aAb,aE9,aKq];congr;funext y S2;rw [aKp];cases h:setD S2 x y d<;>rfl
theorem aD6:Wr (gsNil [] e S) QE X=QE e S:=rfl
def gs1 (r:GMs) (ds:List D) (Q:QP En):QP En:=fun e S=>Wr (r ds e S) Q nX
theorem aKr (r:GMs):gs1 r ds QE e S=Wr (r ds e S) QE nX:=rfl
theorem aCT (g:GM) (r:GMs) (ds:List D):Wr (gsCons' g r (d::ds) e S) QE X=Wr (g d e S) (gs1 r ds QE) nX:=by
  show Wr ((noX (g d e S)).bind fun e1 S1=>noX (r ds e1 S1)) QE X=_
  rw [aAb,aE9];congr;funext x S1;rw [aE9];rfl
theorem aFQ (i:Nat) (r:GMs) (ds:List D):Wr (gTp i r (.tup ds) e S) QE X=(ds.length=i∧Wr (r ds e S) QE X):=by
  show Wr (if ds.length=i then r ds e S else .stuck) QE X=_
  rw [aAj]
def KS.sq (k:KS) (n:SM):KS:=⟨fun e S=>Ws (n e S) k,k.rt,k.bk,k.ct,k.ex⟩
def KS.xe (k:KS) (e:En):QP D:=fun x S=>k.ex x e S
theorem xe_s:k.xe e x S=k.ex x e S:=rfl
theorem aJw:(k.sq n).nx e S=Ws (n e S) k:=rfl
theorem aMl:(k.sq n).rt=k.rt:=rfl
theorem aMm:(k.sq n).bk=k.bk:=rfl
theorem aMn:(k.sq n).ct=k.ct:=rfl
theorem aMo:(k.sq n).ex=k.ex:=rfl
theorem aMp:(k.sq n).xe e=k.xe e:=rfl
theorem ws_nxt:Ws (.nxt e S) k=k.nx e S:=rfl
theorem ws_sS {r:SRes}:Ws (sS r n) k=Ws r (k.sq n):=by cases r<;>rfl
theorem ws_sE {r:Res β}{f:β→Store→SRes}:Ws (sE r e f) k=Wr r (fun z S1=>Ws (f z S1) k) (k.xe e):=by cases r<;>rfl
theorem ws_sNop:Ws (sNop e S) k=k.nx e S:=rfl
theorem ws_sSeq:Ws (sSeq m n e S) k=Ws (m e S) (k.sq n):=ws_sS
theorem ws_sBrk:Ws (sBrk e S) k=k.bk e S:=rfl
theorem ws_sCnt:Ws (sCnt e S) k=k.ct e S:=rfl
def dropQ (k:KS) (e:En):QP D:=fun _ S=>k.nx e S
theorem aFd:dropQ k e x S=k.nx e S:=rfl
theorem ws_sDrop:Ws (sDrop a e S) k=Wr (a e S) (dropQ k e) (k.xe e):=ws_sE
theorem ws_sRet:Ws (sRet a e S) k=Wr (a e S) k.rt (k.xe e):=ws_sE
theorem ws_sRetN:Ws (sRetN e S) k=k.rt .non S:=rfl
def ifQ (m n:SM) (e:En) (k:KS):QP Bool:=fun z S=>match z with
  | true=>Ws (m e S) k
  | false=>Ws (n e S) k
theorem aMq:ifQ m n e k true S=Ws (m e S) k:=rfl
theorem aJx:ifQ m n e k false S=Ws (n e S) k:=rfl
theorem ws_sIf:Ws (sIf t m n e S) k=Wr (t e S) (ifQ m n e k) (k.xe e):=by
  unfold sIf;rw [ws_sE];congr;funext z S1;cases z<;>rfl
def asg1 (g:GM) (e:En) (k:KS):QP D:=fun d S=>Wr (g d e S) k.nx (k.xe e)
theorem aHu (g:GM):asg1 g e k d S=Wr (g d e S) k.nx (k.xe e):=rfl
theorem ws_sAsg (g:GM):Ws (sAsg a g e S) k=Wr (a e S) (asg1 g e k) (k.xe e):=by
  unfold sAsg;rw [ws_sE];congr;funext z S1;rw [ws_sE];rfl
def setQ (i:Nat) (e:En) (k:KS):QP D:=fun d S=>k.nx (e.set i (some d)) S
theorem aG4 (i:Nat):setQ i e k d S=k.nx (e.set i (some d)) S:=rfl
theorem ws_sSet (i:Nat):Ws (sSet i a e S) k=Wr (a e S) (setQ i e k) (k.xe e):=by
  unfold sSet;rw [ws_sE];rfl
def parQ (i j:Nat) (e:En) (k:KS) (ds:List D) (S:Store):Prop:=match ds with
  | [x,y]=>k.nx ((e.set i (some x)).set j (some y)) S
  | _=>False
theorem aHv (i j:Nat):parQ i j e k [x,y] S=k.nx ((e.set i (some x)).set j (some y)) S:=rfl
theorem ws_sPar (i j:Nat):Ws (sPar i j am e S) k=Wr (am e S) (parQ i j e k) (k.xe e):=by
  unfold sPar;rw [ws_sE];congr;funext ds S1
  match ds with
  | []=>rfl
  | [_]=>rfl
  | [_,_]=>rfl
  | _::_::_::_=>rfl
theorem ws_sRaise (i:Nat):Ws (sRaise i e S) k=k.ex (.exc i []) e S:=rfl
def KS.fn (Q:D→Store→Prop) (X:D→Store→Prop):KS:=⟨fun _ S=>Q .non S,Q,fun _ _=>False,fun _ _=>False,fun x _ S=>X x S⟩
theorem aMr:(KS.fn QD X).nx e S=QD .non S:=rfl
theorem aMs:(KS.fn QD X).rt=QD:=rfl
theorem aMt:(KS.fn QD X).ex x e S=X x S:=rfl
theorem aMu:(KS.fn QD X).xe e=X:=rfl
def KS.su (k:KS) (i:Nat):KS:=⟨fun e S=>k.nx (e.set i none) S,k.rt,fun e S=>k.bk (e.set i none) S,fun e S=>k.ct (e.set i none) S,fun _ _ _=>False⟩
theorem aMv (i:Nat):(k.su i).nx e S=k.nx (e.set i none) S:=rfl
theorem aMw (i:Nat):(k.su i).bk e S=k.bk (e.set i none) S:=rfl
theorem aMx (i:Nat):(k.su i).ct e S=k.ct (e.set i none) S:=rfl
theorem aMy (i:Nat):(k.su i).rt=k.rt:=rfl
def trQ (k:KS) (i:Nat) (n:SM) (x:D) (e:En) (S:Store) (o:Option Bool):Prop:=match o with
  | some true=>Ws (n (e.set i (some x)) S) (k.su i)
  | some false=>k.ex x e S
  | none=>False
theorem aMz (i:Nat):trQ k i n x e S (some true)=Ws (n (e.set i (some x)) S) (k.su i):=rfl
theorem aM0 (i:Nat):trQ k i n x e S (some false)=k.ex x e S:=rfl
def KS.tr (k:KS) (i:Nat) (tb:Nat→Option Bool) (n:SM):KS:=⟨k.nx,k.rt,k.bk,k.ct,fun x e S=>match x with
  | .exc cn _=>trQ k i n x e S (tb cn)
  | _=>False⟩
theorem aM1 (i:Nat) (tb:Nat→Option Bool):(k.tr i tb n).nx=k.nx:=rfl
theorem aM2 (i:Nat) (tb:Nat→Option Bool):(k.tr i tb n).rt=k.rt:=rfl
theorem aM3 (i:Nat) (tb:Nat→Option Bool):(k.tr i tb n).bk=k.bk:=rfl
theorem aM4 (i:Nat) (tb:Nat→Option Bool):(k.tr i tb n).ct=k.ct:=rfl
theorem aM5 (i:Nat) (tb:Nat→Option Bool) (cn:Nat) (fs:List (Nat×D)):(k.tr i tb n).ex (.exc cn fs) e S=trQ k i n (.exc cn fs) e S (tb cn):=rfl
theorem ws_sTry (i:Nat) (tb:Nat→Option Bool):Ws (sTry i tb m n e S) k=Ws (m e S) (k.tr i tb n):=by
  unfold sTry
  cases m e S with
  | exc x e1 S1=>
    cases x with
    | exc cn fs=>
      show Ws (match tb cn with
        | some true=>sSu i (n (e1.set i (some (.exc cn fs))) S1)
        | some false => .exc (.exc cn fs) e1 S1
        | none => .stuck) k=trQ k i n (.exc cn fs) e1 S1 (tb cn)
      cases tb cn with
      | none=>rfl
      | some z=>
        cases z with
        | true=>
          show Ws (sSu i (n (e1.set i (some (.exc cn fs))) S1)) k=Ws _ _
          cases n (e1.set i (some (.exc cn fs))) S1<;>rfl
        | false=>rfl
    | _=>rfl
  | _=>rfl
def forQ (g:GM) (m:SM) (e:En) (k:KS):QP (List D):=fun ds S=>Ws (fiR g m ds e S) k
theorem aHw (g:GM):forQ g m e k ds S=Ws (fiR g m ds e S) k:=rfl
theorem ws_sFor (i:AM) (g:GM):Ws (sFor i g m e S) k=Wr (i e S) (forQ g m e k) (k.xe e):=ws_sE
def KS.lp (k:KS) (I:En→Store→Prop):KS:=⟨I,k.rt,k.nx,I,k.ex⟩
theorem aM6 (I:En→Store→Prop):(k.lp I).nx=I:=rfl
theorem aM7 (I:En→Store→Prop):(k.lp I).rt=k.rt:=rfl
theorem aM8 (I:En→Store→Prop):(k.lp I).bk=k.nx:=rfl
theorem aM9 (I:En→Store→Prop):(k.lp I).ct=I:=rfl
theorem aMA (I:En→Store→Prop):(k.lp I).ex=k.ex:=rfl
theorem aMB (I:En→Store→Prop):(k.lp I).xe e=k.xe e:=rfl
theorem ws_fi_nil (g:GM):Ws (fiR g m [] e S) k=k.nx e S:=rfl
def bodyQ (m:SM) (k:KS):QP En:=fun e S=>Ws (m e S) k
theorem aDZ:bodyQ m k e S=Ws (m e S) k:=rfl
def KS.mid (k:KS) (M:En→Store→Prop):KS:=⟨M,k.rt,k.bk,k.ct,k.ex⟩
theorem aHx (M:En→Store→Prop):(k.mid M).nx=M:=rfl
theorem aHy (M:En→Store→Prop):(k.mid M).rt=k.rt:=rfl
theorem aHz (M:En→Store→Prop):(k.mid M).bk=k.bk:=rfl
theorem aH0 (M:En→Store→Prop):(k.mid M).ct=k.ct:=rfl
theorem aH1 (M:En→Store→Prop):(k.mid M).ex=k.ex:=rfl
theorem aH2 (M:En→Store→Prop):(k.mid M).xe e=k.xe e:=rfl
def lc2 (Q:QP D):QP (List D):=fun acc S=>Q (.lst acc) S
def lc1 (g:Tg) (t:TM) (a:EM) (e:En) (Q X:QP D):QP (List D):=fun ds S=>Wr (lcR g t a e ds [] S) (lc2 Q) X
theorem aMC:lc2 QD xs S=QD (.lst xs) S:=rfl
theorem aMD (g:Tg):lc1 g t a e QD X ds S=Wr (lcR g t a e ds [] S) (lc2 QD) X:=rfl
theorem aH3 (i:AM) (g:Tg) (vs:List Nat):Wr (eLc i g t a vs e S) QD X=Wr (i e S) (lc1 g t a (wipeE e vs) QD X) X:=by
  unfold eLc;rw [aAb];congr;funext ds S1;rw [aAb];rfl
def lcn2 (Q:QP D):QP (List D):=fun acc S=>Q (.loc S.length) (S++[.lst acc])
def lcn1 (g:Tg) (t:TM) (a:EM) (e:En) (Q X:QP D):QP (List D):=fun ds S=>Wr (lcR g t a e ds [] S) (lcn2 Q) X
theorem aH4:lcn2 QD xs S=QD (.loc S.length) (S++[.lst xs]):=rfl
theorem aH5 (g:Tg):lcn1 g t a e QD X ds S=Wr (lcR g t a e ds [] S) (lcn2 QD) X:=rfl
theorem aFe (i:AM) (g:Tg) (vs:List Nat):Wr (eLcN i g t a vs e S) QD X=Wr (i e S) (lcn1 g t a (wipeE e vs) QD X) X:=by
  unfold eLcN;rw [aAb];congr;funext ds S1;rw [aAb];rfl
theorem aD_:wipeE e []=e:=rfl
theorem aDj (v:Nat) (vs:List Nat):wipeE e (v::vs)=(wipeE e vs).set v none:=rfl
theorem aEa:Wr (tTrue e S) QB X=QB true S:=rfl
theorem aDk (g:Tg) (acc:List D):Wr (lcR g t a e [] acc S) QL X=QL acc S:=rfl
def tgQ (o:Option En) (f:En→Prop):Prop:=match o with
  | some e=>f e
  | none=>False
theorem aD7 (f:En→Prop):tgQ (some e) f=f e:=rfl
def ly (I:QP (List D)) (acc:List D):QP D:=fun y S=>acc.length<sizeLine∧I (acc++[y]) S
theorem ly_s (I:QP (List D)) (acc:List D):ly I acc y S=(acc.length<sizeLine∧I (acc++[y]) S):=rfl
def lt1 (a:EM) (e:En) (I:QP (List D)) (acc:List D):QP Bool:=fun b S=>match b with
  | true=>Wr (a e S) (ly I acc) nX
  | false=>I acc S
theorem aKs (I:QP (List D)) (acc:List D):lt1 a e I acc true S=Wr (a e S) (ly I acc) nX:=rfl
theorem aME (I:QP (List D)) (acc:List D):lt1 a e I acc false S=I acc S:=rfl
def lg (t:TM) (a:EM) (I:QP (List D)) (acc:List D) (S:Store):En→Prop:=fun e=>Wr (t e S) (lt1 a e I acc) nX
theorem lg_s (I:QP (List D)) (acc:List D):lg t a I acc S e=Wr (t e S) (lt1 a e I acc) nX:=rfl
def eqQ (y:D) (S:Store):QP D:=fun d S'=>d=y∧S'=S
theorem aMF:eqQ y S d S1=(d=y∧S1=S):=rfl
def seqQ (Q:List D→Store→Prop):QP D:=fun x S=>match x with
  | .tup l=>Q l S
  | .lst l=>Q l S
  | .scr l=>Q l S
  | _=>False
theorem aEb (l:List D):seqQ QL (.tup l) S=QL l S:=rfl
theorem aEc (l:List D):seqQ QL (.lst l) S=QL l S:=rfl
theorem aEd (l:List D):seqQ QL (.scr l) S=QL l S:=rfl
theorem aFf:Wr (iSeq a e S) QL X=Wr (a e S) (seqQ QL) X:=by
  unfold iSeq;rw [aAb];congr;funext x S1;cases x<;>rfl
def rgQ (Q:List D→Store→Prop):QP (List D):=fun ds S=>match ds with
  | [.int j]=>(-(2 ^ 62)≤j∧j<2 ^ 62)∧Q (rangeD 0 j.toNat) S
  | _=>False
theorem aFg (j:Int):rgQ QL [.int j] S=((-(2 ^ 62)≤j∧j<2 ^ 62)∧QL (rangeD 0 j.toNat) S):=rfl
theorem aFh:Wr (iRg1 am e S) QL X=Wr (am e S) (rgQ QL) X:=by
  unfold iRg1;rw [aAb];congr;funext ds S1
  match ds with
  | []=>rfl
  | [.int j]=>show Wr (if _ then _ else _) _ _=_;rw [aAj];rfl
  | [.non] | [.bl _] | [.str _] | [.tup _] | [.lst _] | [.scr _] | [.dic _ _] | [.loc _] | [.exc _ _] | [.ins _ _] | [.fa _] | [.pin _ _]=>rfl
  | _::_::_=>unfold rgQ;split<;>simp_all [aFL]
def rgQ2 (Q:List D→Store→Prop):QP (List D):=fun ds S=>match ds with
  | [.int i, .int j]=>(-(2 ^ 62)≤i∧i<2 ^ 62 ∧ -(2 ^ 62)≤j∧j<2 ^ 62)∧Q (rangeD i (j - i).toNat) S
  | _=>False
theorem aEe (i j:Int):rgQ2 QL [.int i, .int j] S=((-(2 ^ 62)≤i∧i<2 ^ 62 ∧ -(2 ^ 62)≤j∧j<2 ^ 62)∧QL (rangeD i (j - i).toNat) S):=rfl
theorem aFi:Wr (iRg2 am e S) QL X=Wr (am e S) (rgQ2 QL) X:=by
  unfold iRg2;rw [aAb];congr;funext ds S1
  by_cases h:∃ i j,ds = [.int i, .int j]
  · obtain ⟨i,j,rfl⟩:=h
    show Wr (if _ then _ else _) _ _=_
    rw [aAj];rfl
  · unfold rgQ2
    split<;>(try split)<;>simp_all [aFL]
def exQ (y:D) (S:Store):QP D:=fun d S'=>d=y∧S'=S
theorem aMG:exQ y S d S1=(d=y∧S1=S):=rfl
end
end G
namespace G
open PySem
def rD (q:Rat):D:=.tup [.int q.num, .int (q.den:Int)]
def Bt (q:Rat) (n:Nat):Prop:=q.num.natAbs<2 ^ n∧q.den<2 ^ n
theorem aH6 {a b:Nat}(h:a≤b):(2:Nat) ^ a≤2 ^ b:=Nat.pow_le_pow_right (by omega) h
theorem Bt.mono {q:Rat}{a b:Nat}(h:Bt q a) (l:a≤b):Bt q b:=⟨Nat.lt_of_lt_of_le h.1 (aH6 l),Nat.lt_of_lt_of_le h.2 (aH6 l)⟩
theorem aH7 {t:Int}{b:Int}{n m:Nat}(h1:t.natAbs<2 ^ n) (h2:b.natAbs<2 ^ n) (hn:0<n):Bt (Rat.divInt t b) n:=by
  have h2':1<2 ^ n:=Nat.one_lt_two_pow (by omega)
  constructor
  · rw [Rat.num_divInt]
    refine Nat.lt_of_le_of_lt (Int.natAbs_ediv_le_natAbs _ _) ?_
    rw [Int.natAbs_mul]
    have:b.sign.natAbs≤1:=by rcases Int.lt_trichotomy b 0 with h | h | h<;>simp [Int.sign_eq_neg_one_of_neg,Int.sign_eq_one_of_pos,h]
    have:=Nat.mul_le_mul_right t.natAbs this
    omega
  · rw [Rat.den_divInt]
    split
    · exact h2'
    · exact Nat.lt_of_le_of_lt (Nat.div_le_self _ _) h2
theorem aB1 {x y:Int}{a b:Nat}(hx:x.natAbs<2 ^ a) (hy:y.natAbs<2 ^ b):(x*y).natAbs<2 ^ (a+b):=by
  rw [Int.natAbs_mul,Nat.pow_add]
  exact Nat.mul_lt_mul'' hx hy
theorem aJy {x y:Int}{a:Nat}(hx:x.natAbs<2 ^ a) (hy:y.natAbs<2 ^ a):(x - y).natAbs<2 ^ (a+1):=by
  have:=Int.natAbs_sub_le x y
  rw [Nat.pow_succ];omega
theorem aTQ (p q:Rat):p - q=Rat.divInt (p.num*q.den - q.num*p.den) ((p.den:Int)*(q.den:Int)):=by
  rw [← Int.natCast_mul,Rat.divInt_ofNat,Rat.sub_def']
theorem Bt.sub {p q:Rat}{a b:Nat}(h1:Bt p a) (h2:Bt q b):Bt (p - q) (a+b+1):=by
  rw [aTQ]
  have e1:=aB1 (y:=(q.den:Int)) h1.1 (by simpa using h2.2)
  have e2:=aB1 (y:=(p.den:Int)) h2.1 (by simpa using h1.2)
  have e3:=aB1 (x:=(p.den:Int)) (y:=(q.den:Int)) (by simpa using h1.2) (by simpa using h2.2)
  rw [Nat.add_comm b a] at e2
  exact aH7 (m:=0) (aJy e1 e2) (Nat.lt_of_lt_of_le e3 (aH6 (by omega))) (by omega)
theorem Bt.pos {p:Rat}{a:Nat}(h:Bt p a):0<a:=by
  rcases Nat.eq_zero_or_pos a with rfl | h0
  · have:=h.2;have:=p.den_pos;simp at *;omega
  · exact h0
theorem Bt.int {i:Int}{n:Nat}(h:i.natAbs<2 ^ n) (hn:0<n):Bt (i:Rat) n:=⟨h,Nat.one_lt_two_pow (by omega)⟩
theorem bt_0:Bt 0 1:=by constructor<;>decide
theorem aFj (z:Ty) (q:Rat) (S:Store):isTy S z (rD q)=some (Tn.is .tuple z):=rfl
theorem aFk (q:Rat) (S:Store):fLen S [rD q]=some (.int 2):=rfl
theorem aH8 (q:Rat) (S:Store):ixD S (rD q) (.int 0)=some (.int q.num):=rfl
theorem aH9 (q:Rat) (S:Store):ixD S (rD q) (.int 1)=some (.int q.den):=rfl
theorem aTR (p q:Rat):(p.num == q.num && ((p.den:Int) == (q.den:Int) && true))=decide (p=q):=by
  by_cases h:p=q
  · subst h;simp
  · rw [decide_eq_false h]
    by_cases h1:p.num=q.num
    · have h2:¬ (p.den:Int)=(q.den:Int):=fun z=>h (Rat.ext h1 (by omega))
      simp [h2]
    · simp [h1]
theorem aSV (p q:Rat):eqD (rD p) (rD q)=some (decide (p=q)):=by
  rw [← aTR];rfl
theorem aEI (p q:Rat):dEq (rD p) (rD q)=some (.bl (decide (p=q))):=by unfold dEq;rw [aSV];rfl
theorem aHA (p q:Rat):dNe (rD p) (rD q)=some (.bl (!decide (p=q))):=by unfold dNe;rw [aSV];rfl
theorem aDl {QE:En→Store→Prop}{X:D→Store→Prop}{e:En}{S:Store}(q:Rat) (r:GMs):Wr (gTp 2 r (rD q) e S) QE X=Wr (r [.int q.num, .int q.den] e S) QE X:=by
  unfold rD;rw [aFQ];simp
theorem aFl {QL:List D→Store→Prop}{S:Store}(q:Rat):seqQ QL (rD q) S=QL [.int q.num, .int q.den] S:=rfl
theorem aHB (q:Rat):dIs (rD q) .non=some (.bl false):=rfl
theorem aDm (q:Rat):dIsNot (rD q) .non=some (.bl true):=rfl
end G
namespace G
open PySem
section
variable {β γ:Type}{e:En}{S S1:Store}{a b c:EM}{t u:TM}{m n:SM}{am:AM}{x y d:D}{k:β→Store→Res γ}
@[simp] theorem aXG (z:β):(Res.ok z S).bind k=k z S:=rfl
@[simp] theorem aX7 (z:D):(Res.exc z S:Res β).bind k = .exc z S:=rfl
@[simp] theorem aVu:(Res.stuck:Res β).bind k = .stuck:=rfl
@[simp] theorem aVT (z:β):lf (some z) S = .ok z S:=rfl
@[simp] theorem aVU:lf (none:Option β) S = .stuck:=rfl
@[simp] theorem eC_s:eC d e S = .ok d S:=rfl
def evR (o:Option (Option D)) (S:Store):Res D:=match o with
  | some (some d) => .ok d S
  | _ => .stuck
@[simp] theorem aYL (i:Nat):eVar i e S=evR e[i]? S:=rfl
@[simp] theorem aX8:evR (some (some d)) S = .ok d S:=rfl
@[simp] theorem aYM (f:D→D→Option D):eBin f a b e S=(a e S).bind fun x S1=>(b e S1).bind fun y S2=>lf (f x y) S2:=rfl
@[simp] theorem aXH (f:Store→D→D→Option D):eBinS f a b e S=(a e S).bind fun x S1=>(b e S1).bind fun y S2=>lf (f S2 x y) S2:=rfl
def asB (x:D) (S:Store):Res Bool:=match x with
  | .bl b => .ok b S
  | _ => .stuck
@[simp] theorem aYN (z:Bool):asB (.bl z) S = .ok z S:=rfl
@[simp] theorem tB_s:tB a e S=(a e S).bind asB:=rfl
@[simp] theorem tT_s:tT a e S=(a e S).bind fun x S1=>lf (truD S1 x) S1:=rfl
@[simp] theorem aZl:tNt t e S=(t e S).bind fun b S1 => .ok (!b) S1:=rfl
@[simp] theorem aZm:tAn t u e S=(t e S).bind fun b S1=>if b then u e S1 else .ok false S1:=rfl
@[simp] theorem aZn:tOr' t u e S=(t e S).bind fun b S1=>if b then .ok true S1 else u e S1:=rfl
@[simp] theorem aZo:eAn a b e S=(a e S).bind fun x S1=>(lf (truD S1 x) S1).bind fun k S2=>if k then b e S2 else .ok x S2:=rfl
@[simp] theorem aZp:eOr a b e S=(a e S).bind fun x S1=>(lf (truD S1 x) S1).bind fun k S2=>if k then .ok x S2 else b e S2:=rfl
@[simp] theorem aZq:eNt a e S=(a e S).bind fun x S1=>(lf (truD S1 x) S1).bind fun k S2 => .ok (.bl (!k)) S2:=rfl
@[simp] theorem aZr:eIf t a b e S=(t e S).bind fun k S1=>if k then a e S1 else b e S1:=rfl
def negR (x:D) (S:Store):Res D:=match x with
  | .int i => .ok (.int (-i)) S
  | _ => .stuck
@[simp] theorem aX9 (i:Int):negR (.int i) S = .ok (.int (-i)) S:=rfl
@[simp] theorem aYO:eNeg a e S=(a e S).bind negR:=rfl
@[simp] theorem aYP:aNil e S = .ok [] S:=rfl
@[simp] theorem aXI:aCons a am e S=(a e S).bind fun x S1=>(am e S1).bind fun xs S2 => .ok (x::xs) S2:=rfl
@[simp] theorem aYQ:eTup am e S=(am e S).bind fun xs S1=>if xs.length≤sizeLine then .ok (.tup xs) S1 else .stuck:=rfl
@[simp] theorem aYR:eLst am e S=(am e S).bind fun xs S1=>if xs.length≤sizeLine then .ok (.lst xs) S1 else .stuck:=rfl
@[simp] theorem aYS:eNew am e S=(am e S).bind fun xs S1=>if xs.length≤sizeLine then .ok (.loc S1.length) (S1++[.lst xs]) else .stuck:=rfl
@[simp] theorem aZs (f:Store→List D→Option D):eCa f am e S=(am e S).bind fun xs S1=>lf (f S1 xs) S1:=rfl
@[simp] theorem aXJ (f:FM):eCall f am e S=(am e S).bind f:=rfl
@[simp] theorem nA_s (i:Nat):nA i am e S=(am e S).bind fun ds S1=>if ds.length=i then .ok ds S1 else .stuck:=rfl
@[simp] theorem aXK (z:Ty):eIsTy z a e S=(a e S).bind fun x S1=>lf ((isTy S1 z x).map .bl) S1:=rfl
@[simp] theorem aYT (tb:Nat→Option Bool):eIsC tb a e S=(a e S).bind fun x S1=>lf ((isC tb x).map .bl) S1:=rfl
@[simp] theorem aZt (f:Store→D→List D→Option D):eMt f a am e S=(a e S).bind fun x S1=>if (seqD S1 x).isSome then (am e S1).bind fun xs S2=>lf (f S2 x xs) S2 else .stuck:=rfl
@[simp] theorem aXL:oNone e S = .ok none S:=rfl
def oR (x:D) (S:Store):Res (Option Int):=match x with
  | .int i => .ok (some i) S
  | _ => .stuck
@[simp] theorem aYU (i:Int):oR (.int i) S = .ok (some i) S:=rfl
@[simp] theorem aXM:oSome a e S=(a e S).bind oR:=rfl
@[simp] theorem aZu (l h:OM):eSl a l h e S=(a e S).bind fun x S1=>(l e S1).bind fun i S2=>(h e S2).bind fun j S3=>lf (slD S3 x i j) S3:=rfl
@[simp] theorem aXA (f:FM) (g:List D→List D→List D) (i j:Nat) (mk:AM):eCallK f g i j am mk e S=(am e S).bind fun ds S1=>(mk e S1).bind fun zs S2=>if ds.length=i∧zs.length=j then f (g ds zs) S2 else .stuck:=rfl
@[simp] theorem aVV (f:FM) (g:List D→List D→List D) (j:Nat) (mk:AM):eCallK0 f g j mk e S=(mk e S).bind fun zs S2=>if zs.length=j then f (g [] zs) S2 else .stuck:=rfl
@[simp] theorem aZv (z:β) (q:β→Store→SRes):sE (.ok z S) e q=q z S:=rfl
@[simp] theorem aYV (z:D) (q:β→Store→SRes):sE (.exc z S) e q = .exc z e S:=rfl
@[simp] theorem aXB (q:β→Store→SRes):sE .stuck e q = .stuck:=rfl
@[simp] theorem aYW:sS (.nxt e S) m=m e S:=rfl
@[simp] theorem aYX:sS (.ret d S) m = .ret d S:=rfl
@[simp] theorem aYY:sS (.brk e S) m = .brk e S:=rfl
@[simp] theorem aYZ:sS (.cnt e S) m = .cnt e S:=rfl
@[simp] theorem aY_:sS (.exc d e S) m = .exc d e S:=rfl
@[simp] theorem aZa:sNop e S = .nxt e S:=rfl
@[simp] theorem aZb:sSeq m n e S=sS (m e S) n:=rfl
@[simp] theorem aZc:sBrk e S = .brk e S:=rfl
@[simp] theorem aZd:sCnt e S = .cnt e S:=rfl
@[simp] theorem aXN:sDrop a e S=sE (a e S) e fun _ S1 => .nxt e S1:=rfl
@[simp] theorem aZe:sRet a e S=sE (a e S) e fun d S1 => .ret d S1:=rfl
@[simp] theorem aXO:sRetN e S = .ret .non S:=rfl
@[simp] theorem aZw:sIf t m n e S=sE (t e S) e fun k S1=>if k then m e S1 else n e S1:=rfl
@[simp] theorem gN_s (i:Nat):gN i d e S = .ok (e.set i (some d)) S:=rfl
@[simp] theorem aZf (g:GM):sAsg a g e S=sE (a e S) e fun d S1=>sE (g d e S1) e fun e1 S2 => .nxt e1 S2:=rfl
@[simp] theorem aZg (i:Nat):sSet i a e S=sE (a e S) e fun d S1 => .nxt (e.set i (some d)) S1:=rfl
def parR (i j:Nat) (e:En) (ds:List D) (S:Store):SRes:=match ds with
  | [x,y] => .nxt ((e.set i (some x)).set j (some y)) S
  | _ => .stuck
@[simp] theorem aZh (i j:Nat):parR i j e [x,y] S = .nxt ((e.set i (some x)).set j (some y)) S:=rfl
@[simp] theorem aZi (i j:Nat):sPar i j am e S=sE (am e S) e (parR i j e):=rfl
@[simp] theorem aXC (i:Nat):sRaise i e S = .exc (.exc i []) e S:=rfl
def fnEnd:SRes→Res D
  | .nxt _ S' => .ok .non S'
  | .ret d S' => .ok d S'
  | .exc x _ S' => .exc x S'
  | _ => .stuck
@[simp] theorem aVW:fnEnd (.nxt e S) = .ok .non S:=rfl
@[simp] theorem aVX:fnEnd (.ret d S) = .ok d S:=rfl
@[simp] theorem aVY:fnEnd (.exc d e S) = .exc d S:=rfl
@[simp] theorem aZj (i:Nat) (ds:List D):enOf i ds=ds.map some++List.replicate (i - ds.length) none:=rfl
@[simp] theorem aG5 (f:Int→Int→Bool) (i j:Int):cmpI f (.int i) (.int j)=some (.bl (f i j)):=rfl
@[simp] theorem aEf (i j:Int):dAdd (.int i) (.int j)=some (.int (i+j)):=rfl
@[simp] theorem aEg (i j:Int):dSub (.int i) (.int j)=some (.int (i - j)):=rfl
theorem aDC (i j:Int):dEq (.int i) (.int j)=some (.bl (decide (i=j))):=rfl
theorem aCY (i j:Int):dNe (.int i) (.int j)=some (.bl (!decide (i=j))):=rfl
theorem aHC (i j:Bool):dEq (.bl i) (.bl j)=some (.bl (decide (i=j))):=by cases i<;>cases j<;>rfl
theorem aHD (i j:Bool):dNe (.bl i) (.bl j)=some (.bl (!decide (i=j))):=by cases i<;>cases j<;>rfl
@[simp] theorem aFm (z:Bool):truD S (.bl z)=some z:=rfl
@[simp] theorem aEh (z:Ty) (i:Int):isTy S z (.int i)=some (Tn.is .int z):=rfl
@[simp] theorem aFn (z:Ty) (i:Bool):isTy S z (.bl i)=some (Tn.is .bool z):=rfl
@[simp] theorem aEi (z:Ty) (l:List D):isTy S z (.tup l)=some (Tn.is .tuple z):=rfl
@[simp] theorem aEj (l:List D):fLen S [.tup l]=some (.int l.length):=rfl
@[simp] theorem aEk (l:List D):fLen S [.scr l]=some (.int l.length):=rfl
@[simp] theorem aEl (l:List D):fLen S [.lst l]=some (.int l.length):=rfl
@[simp] theorem aEm (i:Int):fAbs S [.int i]=some (.int (if i<0 then -i else i)):=rfl
@[simp] theorem aEn (i j:Int):fMax S [.int i, .int j]=some (.int (if j > i then j else i)):=rfl
@[simp] theorem aEo (i j:Int):fMin S [.int i, .int j]=some (.int (if j<i then j else i)):=rfl
@[simp] theorem aBQ (l:List D) (i:Int):ixD S (.tup l) (.int i)=L2.atI l i:=rfl
@[simp] theorem aEJ (l:List D) (i:Int):ixD S (.lst l) (.int i)=L2.atI l i:=rfl
@[simp] theorem aFo (l:List D) (i:Int):ixD S (.scr l) (.int i)=L2.atI l i:=rfl
end
@[simp] theorem aZk {β:Type}(z:β) (S:Store):noX (.ok z S) = .ok z S:=rfl
def setR (o:Option Store) (e:En):Res En:=match o with
  | some S3 => .ok e S3
  | none => .stuck
@[simp] theorem aVZ (S:Store) (e:En):setR (some S) e = .ok e S:=rfl
@[simp] theorem aZx (o i:EM) (d:D) (e:En) (S:Store):gSb o i d e S=(noX (o e S)).bind fun x S1=>(noX (i e S1)).bind fun y S2=>setR (setD S2 x y d) e:=by
  unfold gSb setR
  congr 1
@[simp] theorem aXP (e:En) (S:Store):gsNil [] e S = .ok e S:=rfl
@[simp] theorem aXD (g:GM) (r:GMs) (d:D) (ds:List D) (e:En) (S:Store):gsCons' g r (d::ds) e S=(noX (g d e S)).bind fun e1 S1=>noX (r ds e1 S1):=rfl
@[simp] theorem aZy (n:Nat) (r:GMs) (ds:List D) (e:En) (S:Store):gTp n r (.tup ds) e S=if ds.length=n then r ds e S else .stuck:=rfl
@[simp] theorem aV_ {α:Type}(x y z:α):L2.atI [x,y,z] (0:Int)=some x:=rfl
@[simp] theorem aWa {α:Type}(x y z:α):L2.atI [x,y,z] (1:Int)=some y:=rfl
@[simp] theorem aWb {α:Type}(x y z:α):L2.atI [x,y,z] (2:Int)=some z:=rfl
end G
namespace G
open PySem
section
variable {Q X:QP D}{QB:QP Bool}{QL:QP (List D)}{k:KS}{e:En}{S S1:Store}{a b c o:EM}{t u:TM}{m n:SM}{am mk:AM}{x y d:D}{z:Bool}{xs ds zs:List D}
def ch3 (g:D→D→Option D) (y:D) (c:EM) (e:En) (Q X:QP D):QP D:=fun z S=>match z with
  | .bl true=>Wr (c e S) (cB2 g y Q X) X
  | .bl false=>Q (.bl false) S
  | _=>False
def ch2 (f g:D→D→Option D) (x:D) (c:EM) (e:En) (Q X:QP D):QP D:=fun y S=>Wr (lf (f x y) S) (ch3 g y c e Q X) X
def ch1 (f g:D→D→Option D) (b c:EM) (e:En) (Q X:QP D):QP D:=fun x S=>Wr (b e S) (ch2 f g x c e Q X) X
theorem aMH (g:D→D→Option D):ch3 g y c e Q X (.bl true) S=Wr (c e S) (cB2 g y Q X) X:=rfl
theorem aMI (g:D→D→Option D):ch3 g y c e Q X (.bl false) S=Q (.bl false) S:=rfl
theorem aKt (f g:D→D→Option D):ch2 f g x c e Q X y S=Wr (lf (f x y) S) (ch3 g y c e Q X) X:=rfl
theorem aKu (f g:D→D→Option D):ch1 f g b c e Q X x S=Wr (b e S) (ch2 f g x c e Q X) X:=rfl
theorem aDn (f g:D→D→Option D):Wr (eChain f g a b c e S) Q X=Wr (a e S) (ch1 f g b c e Q X) X:=by
  unfold eChain;rw [aAb];congr;funext x S1;rw [aAb,aKu];congr;funext y S2;rw [aAb,aKt];congr;funext z S3
  cases z with
  | bl w=>cases w with
    | true=>show Wr ((c e S3).bind _) Q X=Wr (c e S3) _ _;rw [aAb];rfl
    | false=>rfl
  | _=>rfl
def flQ (cs:List Nat) (f:Nat) (Q X:QP D):QP D:=fun x S=>Wr (lf (fldD cs f S x) S) Q X
theorem aMJ (cs:List Nat) (f:Nat):flQ cs f Q X x S=Wr (lf (fldD cs f S x) S) Q X:=rfl
theorem aFp (cs:List Nat) (f:Nat):Wr (eFld cs f a e S) Q X=Wr (a e S) (flQ cs f Q X) X:=by unfold eFld;rw [aAb];rfl
theorem aEp (cs:List Nat) (f cn:Nat) (fs:List (Nat×D)):fldD cs f S (.ins cn fs)=if cs.contains cn then fs.lookup f else none:=rfl
def stQ (e:En) (k:KS) (o:Option Store):Prop:=match o with
  | some S=>k.nx e S
  | none=>False
theorem aMK:stQ e k (some S)=k.nx e S:=rfl
def sf2 (cs:List Nat) (f:Nat) (y:D) (e:En) (k:KS):QP D:=fun x S=>stQ e k (stF cs f S x y)
def sf1 (cs:List Nat) (f:Nat) (o:EM) (e:En) (k:KS):QP D:=fun y S=>Wr (o e S) (sf2 cs f y e k) (k.xe e)
theorem aKv (cs:List Nat) (f:Nat):sf2 cs f y e k x S=stQ e k (stF cs f S x y):=rfl
theorem aKw (cs:List Nat) (f:Nat):sf1 cs f o e k y S=Wr (o e S) (sf2 cs f y e k) (k.xe e):=rfl
theorem ws_sFldM (cs:List Nat) (f:Nat):Ws (sFldM cs f o a e S) k=Wr (a e S) (sf1 cs f o e k) (k.xe e):=by
  unfold sFldM;rw [ws_sE];congr;funext y S1;rw [ws_sE,aKw];congr;funext x S2
  rw [aKv];cases stF cs f S2 x y<;>rfl
def mkQ2 (mk':List D→List D→Store→Res D) (n l:Nat) (ds:List D) (Q X:QP D):QP (List D):=fun zs S=>(ds.length=n∧zs.length=l)∧Wr (mk' ds zs S) Q X
def mkQ1 (mk':List D→List D→Store→Res D) (n l:Nat) (mk:AM) (e:En) (Q X:QP D):QP (List D):=fun ds S=>Wr (mk e S) (mkQ2 mk' n l ds Q X) X
theorem aHE (mk':List D→List D→Store→Res D) (n l:Nat):mkQ2 mk' n l ds Q X zs S=((ds.length=n∧zs.length=l)∧Wr (mk' ds zs S) Q X):=rfl
theorem aG6 (mk':List D→List D→Store→Res D) (n l:Nat):mkQ1 mk' n l mk e Q X ds S=Wr (mk e S) (mkQ2 mk' n l ds Q X) X:=rfl
theorem aHF (mk':List D→List D→Store→Res D) (n l:Nat):Wr (eMk mk' n l am mk e S) Q X=Wr (am e S) (mkQ1 mk' n l mk e Q X) X:=by
  unfold eMk;rw [aAb];congr;funext ds S1;rw [aAb,aG6];congr;funext zs S2;rw [aAj];rfl
theorem aFq (mk':List D→List D→Store→Res D):Wr (eMk0 mk' e S) Q X=Wr (mk' [] [] S) Q X:=rfl
def ap2 (x:D) (Q X:QP D):QP (List D):=fun xs S=>Wr (appR x xs S) Q X
def ap1 (am:AM) (e:En) (Q X:QP D):QP D:=fun x S=>isLst S x=true∧Wr (am e S) (ap2 x Q X) X
theorem aML:ap2 x Q X xs S=Wr (appR x xs S) Q X:=rfl
theorem aMM:ap1 am e Q X x S=(isLst S x=true∧Wr (am e S) (ap2 x Q X) X):=rfl
theorem aFr:Wr (eApp a am e S) Q X=Wr (a e S) (ap1 am e Q X) X:=by
  unfold eApp;rw [aAb];congr;funext x S1;rw [aAj,aAb];rfl
def zpQ (Q:QP (List D)) (X:QP D):QP (List D):=fun ds S=>Wr (zipR ds S) Q X
theorem aMN:zpQ QL X ds S=Wr (zipR ds S) QL X:=rfl
theorem aFs:Wr (iZip am e S) QL X=Wr (am e S) (zpQ QL X) X:=by unfold iZip;rw [aAb];rfl
theorem aEq (l m:List D):zipR [.tup l, .tup m] S = .ok (zipD l m) S:=rfl
theorem aEr (l m:List D):zipR [.lst l, .lst m] S = .ok (zipD l m) S:=rfl
def srQ (Q:QP (List D)) (X:QP D):QP D:=fun d S=>Wr (strR d S) Q X
theorem aMO:srQ QL X d S=Wr (strR d S) QL X:=rfl
theorem aEs:Wr (iStrM a e S) QL X=Wr (a e S) (srQ QL X) X:=by unfold iStrM;rw [aAb];rfl
theorem aHG (x:Str):strR (.str x) S = .ok (signs x) S:=rfl
def ioQ (cn:Nat) (Q X:QP D):QP D:=fun x S=>Wr (lf ((isO cn S x).map .bl) S) Q X
theorem aMP (cn:Nat):ioQ cn Q X x S=Wr (lf ((isO cn S x).map .bl) S) Q X:=rfl
theorem aFt (cn:Nat):Wr (eIsO cn a e S) Q X=Wr (a e S) (ioQ cn Q X) X:=by unfold eIsO;rw [aAb];rfl
variable {QE:QP En}
theorem aBR (i:Nat) (r:GMs) (l:List D):Wr (gStr i r (.tup l) e S) QE X=(i≤l.length∧Wr (r (l.take i++[.lst (l.drop i)]) e S) QE X):=by
  show Wr (if i≤l.length then _ else _) QE X=_
  rw [aAj]
theorem aB2 (i:Nat) (r:GMs) (l:List D):Wr (gStr i r (.lst l) e S) QE X=(i≤l.length∧Wr (r (l.take i++[.lst (l.drop i)]) e S) QE X):=by
  show Wr (if i≤l.length then _ else _) QE X=_
  rw [aAj]
theorem aCF (l:List D):fTuple S [.lst l]=some (.tup l):=rfl
theorem aCG (l:List D):fTuple S [.tup l]=some (.tup l):=rfl
theorem aDo (i j:Int):dAddS S (.int i) (.int j)=some (.int (i+j)):=rfl
end
end G
namespace C
open PySem G
local macro_rules | `(tactic| wp_walk using $ts,*) => `(tactic| try simp only [aBh, aHf, aJm, aJn, aCR, aDB, aJo, aJp, aDS, aLP, aLQ, aDT, aFM, aJq, aFN, aLR, aHg, aHh, aJr, aJs, aFO, aLS, aLT, aHi, aLU, aLV, aKi, aHj, aLW, aLX, aKj, aHk, aLY, aLZ, aHl, aL_, aMa, aHm, aDU, aEZ, aDV, aJt, aJu, aDb, aHn, aHo, aHp, aE_, aFa, aFb, aJv, aFP, aKk, aD5, aKl, aKm, aMb, aDW, aMc, aFc, aMd, aMe, aHq, aDX, aHr, aDY, aMf, aMg, aMh, aHs, aMi, aKn, aDi, aMj, aCE, aKo, aMk, aKp, aKq, aHt, aD6, aKr, aCT, aFQ, aDl, xe_s, aJw, aMl, aMm, aMn, aMo, aMp, ws_nxt, ws_sNop, ws_sSeq, ws_sBrk, ws_sCnt, aFd, ws_sDrop, ws_sRet, ws_sRetN, aMq, aJx, ws_sIf, aHu, ws_sAsg, aG4, ws_sSet, aHv, ws_sPar, ws_sRaise, aMr, aMs, aMt, aMu, aMv, aMw, aMx, aMy, aMz, aM0, aM1, aM2, aM3, aM4, aM5, ws_sTry, aHw, ws_sFor, aM6, aM7, aM8, aM9, aMA, aMB, ws_fi_nil, aDZ, aHx, aHy, aHz, aH0, aH1, aH2, aMC, aMD, aH3, aH4, aH5, aFe, aD_, aDj, aEa, aDk, aD7, ly_s, aKs, aME, lg_s, aMF, aMG, aEb, aEc, aEd, aFl, aFf, aFg, aFh, aEe, aFi, aMH, aMI, aKt, aKu, aDn, aMJ, aFp, aEp, aMK, aKv, aKw, ws_sFldM, aHE, aG6, aHF, aFq, aML, aMM, aFr, aMN, aFs, aEq, aEr, aMO, aEs, aHG, aMP, aFt, aDo, aBR, aB2, aCF, aCG, List.take_succ_cons, List.take_zero, List.drop_succ_cons, List.drop_zero, List.getElem?_cons_zero, List.getElem?_cons_succ, List.set_cons_zero, List.set_cons_succ, List.map_cons, List.map_nil, List.length_cons, List.length_nil, List.cons_append, List.nil_append, List.replicate_succ, List.replicate_zero, List.append_nil, true_and, and_true, and_self, if_true, ite_true, if_false, ite_false, Bool.false_eq_true, Bool.not_true, Bool.not_false, Bool.not_not, decide_true, decide_false, decide_eq_true_eq, not_false_eq_true, not_true_eq_false, reduceCtorEq, sizeLine_eq, Option.map_some, Option.some.injEq, Nat.reduceSub, Nat.reduceAdd, Nat.reduceLeDiff, Nat.reduceEqDiff, Nat.zero_add, Nat.reduceBEq, List.contains_cons, List.contains_nil, beq_self_eq_true, Bool.true_or, Bool.or_true, Bool.false_or, Bool.or_false, List.lookup_cons, List.lookup_nil, Int.reduceEq, Int.reduceNe, Int.reduceLT, Int.reduceLE, Int.reduceNeg, Int.reduceAdd, Int.reduceSub, Int.cast_ofNat_Int, ne_eq, aG5, dGt, dGe, dLt, dLe, aEf, aEg, aDC, aCY, aHC, aHD, aFm, aEh, aFn, aEi, aEj, aEk, aEl, aEm, aEn, aEo, aBQ, aEJ, aFo, aFj, aFk, aH8, aH9, aEI, aHA, aHB, aDm, Tn.is, $[$ts:term],*])
noncomputable section
def aIL (N:Nat):SM:=(sRet (eAn (eIsTy .int (eVar 0)) (eNt (eIsTy .bool (eVar 0)))))
def aDJ (N:Nat):FM:=fnM 1 (aIL N)
def aJz (N:Nat):SM:=(sSeq (wlR (tB (eBin dGt (eVar 1) (eC (.int 0)))) (sPar 0 1 (aCons (eVar 1) (aCons (eBin dMod (eVar 0) (eVar 1)) aNil))) N)
    (sRet (eVar 0)))
def aEQ (N:Nat):FM:=fnM 2 (aJz N)
def aDK (N:Nat):SM:=(sSeq (sIf (tOr' (tNt (tT (eIsTy .tuple (eVar 0)))) (tOr' (tB (eBin dNe (eCa fLen (aCons (eVar 0) aNil)) (eC (.int 2)))) (tNt (tT (eCa fAll (aCons (eLc (iSeq (eVar 0)) (.nm 3) tTrue (eCall (aDJ N) (nA 1 (aCons (eVar 3) aNil))) [3]) aNil)))))) (sRet (eC (.bl false))) sNop)
    (sSeq (sAsg (eVar 0) (gTp 2 (gsCons' (gN 1) (gsCons' (gN 2) gsNil))))
    (sRet (eAn (eBin dGt (eVar 2) (eC (.int 0))) (eBin dEq (eCall (aEQ N) (nA 2 (aCons (eCa fAbs (aCons (eVar 1) aNil)) (aCons (eVar 2) aNil)))) (eC (.int 1)))))))
def aBz (N:Nat):FM:=fnM 4 (aDK N)
def aEt (N:Nat):SM:=(sIf (tNt (tT (eCall (aBz N) (nA 1 (aCons (eVar 0) aNil))))) (sRaise 3) sNop)
def aB3 (N:Nat):FM:=fnM 1 (aEt N)
def aFu (N:Nat):SM:=(sSeq (sDrop (eCall (aB3 N) (nA 1 (aCons (eVar 0) aNil))))
    (sDrop (eCall (aB3 N) (nA 1 (aCons (eVar 1) aNil)))))
def aDp (N:Nat):FM:=fnM 2 (aFu N)
def aJ0 (N:Nat):SM:=(sSeq (sSet 2 (eCall (aEQ N) (nA 2 (aCons (eCa fAbs (aCons (eVar 0) aNil)) (aCons (eVar 1) aNil)))))
    (sRet (eTup (aCons (eBin dDiv (eVar 0) (eVar 2)) (aCons (eBin dDiv (eVar 1) (eVar 2)) aNil)))))
def aFR (N:Nat):FM:=fnM 3 (aJ0 N)
def aFv (N:Nat):SM:=(sSeq (sDrop (eCall (aDp N) (nA 2 (aCons (eVar 0) (aCons (eVar 1) aNil)))))
    (sRet (eBin dLt (eBin dMul (eBinS ixD (eVar 0) (eC (.int 0))) (eBinS ixD (eVar 1) (eC (.int 1)))) (eBin dMul (eBinS ixD (eVar 1) (eC (.int 0))) (eBinS ixD (eVar 0) (eC (.int 1)))))))
def aCH (N:Nat):FM:=fnM 2 (aFv N)
def aFS (N:Nat):SM:=(sRet (eAn (eCall (aBz N) (nA 1 (aCons (eVar 0) aNil))) (eBin dGe (eBinS ixD (eVar 0) (eC (.int 0))) (eC (.int 0)))))
def aBE (N:Nat):FM:=fnM 1 (aFS N)
def aFT (N:Nat):SM:=(sRet (eAn (eCall (aBz N) (nA 1 (aCons (eVar 0) aNil))) (eChain dLt dLe (eC (.int 0)) (eBinS ixD (eVar 0) (eC (.int 0))) (eBinS ixD (eVar 0) (eC (.int 1))))))
def aCi (N:Nat):FM:=fnM 1 (aFT N)
def aFw (N:Nat):SM:=(sSeq (sIf (tB (eBin dLt (eVar 1) (eCa fLen (aCons (eVar 0) aNil)))) (sRet (eBinS ixD (eVar 0) (eVar 1))) sNop)
    (sSeq (sSet 2 (eBin dMod (eBin dMul (eC (.int 60013)) (eBinS dAddS (eBinS dAddS (eBin dMul (eVar 1) (eVar 1)) (eBin dMul (eC (.int 5)) (eVar 1))) (eC (.int 11)))) (eC (.int 2147483477))))
    (sSeq (sFor (iSeq (eSl (eVar 0) oNone (oSome (eC (.int 3))))) (gN 3) (sSet 2 (eBin dMod (eBinS dAddS (eBin dMul (eVar 2) (eC (.int 48017))) (eVar 3)) (eC (.int 2147483477)))))
    (sRet (eVar 2)))))
def aDq (N:Nat):FM:=fnM 4 (aFw N)
def aFx (N:Nat):SM:=(sSeq (sSet 1 (eC (.int 0)))
    (sSeq (sIf (tOr' (tB (eBin dLt (eVar 0) (eC (.int 0)))) (tB (eBin dGe (eVar 0) (eBin dPow (eC (.int 10)) (eC (.int 18)))))) (sSet 1 (eCa fAbs (aCons (eVar 0) aNil))) sNop)
    (sRet (eNew (aCons (eBin dMod (eVar 0) (eC (.int 2147483477))) (aCons (eVar 1) (aCons (eC (.int 0)) aNil)))))))
def aDr (N:Nat):FM:=fnM 2 (aFx N)
def aFy (N:Nat):SM:=(sSeq (sAsg (eBinS dAddS (eBinS ixD (eVar 0) (eC (.int 2))) (eC (.int 1))) (gSb (eVar 0) (eC (.int 2))))
    (sSeq (sSet 2 (eBinS ixD (eVar 0) (eC (.int 0))))
    (sSeq (sAsg (eBin dMod (eBinS dAddS (eBin dMul (eVar 2) (eBinS dAddS (eBin dMod (eVar 2) (eC (.int 44017))) (eC (.int 30029)))) (eBin dMul (eC (.int 80021)) (eBinS ixD (eVar 0) (eC (.int 2))))) (eC (.int 2147483477))) (gSb (eVar 0) (eC (.int 0))))
    (sSeq (sIf (tB (eBin dGt (eBinS ixD (eVar 0) (eC (.int 1))) (eC (.int 0)))) (sSeq (sAsg (eCa fDivmodW (aCons (eBinS ixD (eVar 0) (eC (.int 1))) (aCons (eVar 1) aNil))) (gTp 2 (gsCons' (gSb (eVar 0) (eC (.int 1))) (gsCons' (gN 3) gsNil))))
    (sRet (eVar 3))) sNop)
    (sRet (eBin dMod (eBin dDiv (eBinS ixD (eVar 0) (eC (.int 0))) (eC (.int 64))) (eVar 1)))))))
def aAo (N:Nat):FM:=fnM 4 (aFy N)
def aGI (N:Nat):SM:=(sSeq (sPar 2 3 (aCons (eCa fAbs (aCons (eVar 0) aNil)) (aCons (eCa fAbs (aCons (eVar 1) aNil)) aNil)))
    (sSeq (wlR (tB (eBin dGt (eVar 3) (eC (.int 0)))) (sPar 2 3 (aCons (eVar 3) (aCons (eBin dMod (eVar 2) (eVar 3)) aNil))) N)
    (sSeq (sIf (tB (eBin dLt (eVar 1) (eC (.int 0)))) (sSet 2 (eBin dSub (eC (.int 0)) (eVar 2))) sNop)
    (sRet (eTup (aCons (eBin dDiv (eVar 0) (eVar 2)) (aCons (eBin dDiv (eVar 1) (eVar 2)) aNil)))))))
def aDc (N:Nat):FM:=fnM 4 (aGI N)
def aGl (N:Nat):SM:=(sRet (eCall (aDc N) (nA 2 (aCons (eBinS dAddS (eBin dMul (eBinS ixD (eVar 0) (eC (.int 0))) (eBinS ixD (eVar 1) (eC (.int 1)))) (eBin dMul (eBinS ixD (eVar 1) (eC (.int 0))) (eBinS ixD (eVar 0) (eC (.int 1))))) (aCons (eBin dMul (eBinS ixD (eVar 0) (eC (.int 1))) (eBinS ixD (eVar 1) (eC (.int 1)))) aNil)))))
def aDL (N:Nat):FM:=fnM 2 (aGl N)
def big (N:Nat):Prop:=2 ^ 9000≤N
def Pool (S:Store) (n:Nat):Prop:=∃ a b c:Int,S[n]? = some (.lst [.int a, .int b, .int c])∧0≤a∧a<2147483477∧0≤b
def Fr (n:Nat) (S S':Store):Prop:=S.length≤S'.length∧∀ m,m<S.length→m≠n→S'[m]? = S[m]?
theorem Fr.refl (n:Nat) (S:Store):Fr n S S:=⟨Nat.le_refl _,fun _ _ _=>rfl⟩
theorem Fr.trans {n:Nat}{S S1 S2:Store}(a:Fr n S S1) (b:Fr n S1 S2):Fr n S S2:=⟨Nat.le_trans a.1 b.1,fun m h h'=>(b.2 m (Nat.lt_of_lt_of_le h a.1) h').trans (a.2 m h h')⟩
theorem Fr.set {n:Nat}{S:Store}(c:Cell):Fr n S (S.set n c):=⟨by rw [List.length_set];exact Nat.le_refl _,fun m _ h=>List.getElem?_set_ne (Ne.symm h)⟩
theorem Fr.app {n:Nat}{S:Store}(c:List Cell):Fr n S (S++c):=⟨by rw [List.length_append];omega,fun m h _=>List.getElem?_append_left h⟩
theorem Pool.app {S:Store}{n:Nat}(P:Pool S n) (c:List Cell):Pool (S++c) n:=by
  obtain ⟨x,y,z,h,r⟩:=P
  exact ⟨x,y,z,by rw [List.getElem?_append_left (List.getElem?_eq_some_iff.mp h).1];exact h,r⟩
theorem Pool.lt {S:Store}{n:Nat}(P:Pool S n):n<S.length:=by
  obtain ⟨x,y,z,h,r⟩:=P
  exact (List.getElem?_eq_some_iff.mp h).1
theorem Pool.set {S:Store}{n i:Nat}(P:Pool S n) (c:Cell) (h:i≠n):Pool (S.set i c) n:=by
  obtain ⟨x,y,z,hs,r⟩:=P
  exact ⟨x,y,z,by rw [List.getElem?_set_ne h];exact hs,r⟩
theorem Fr.get {n:Nat}{S S':Store}{i:Nat}{c:Cell}(F:Fr n S S') (h:S[i]? = some c) (hn:i≠n):S'[i]? = some c:=by
  rw [F.2 i (List.getElem?_eq_some_iff.mp h).1 hn];exact h
theorem cells {l n:Int}(h0:0≤l) (hn:0≤n) (hn2:n≤64):∃ j:Int,(if (if n<l then n else l) > 1 then (if n<l then n else l) else 1)=j∧1≤j∧j≤64:=by
  refine ⟨_,rfl,?_,?_⟩
  · split<;>omega
  · split<;>(try split)<;>omega
end
end C
namespace C
open PySem G
local macro_rules | `(tactic| wp_walk using $ts,*) => `(tactic| try simp only [aBh, aHf, aJm, aJn, aCR, aDB, aJo, aJp, aDS, aLP, aLQ, aDT, aFM, aJq, aFN, aLR, aHg, aHh, aJr, aJs, aFO, aLS, aLT, aHi, aLU, aLV, aKi, aHj, aLW, aLX, aKj, aHk, aLY, aLZ, aHl, aL_, aMa, aHm, aDU, aEZ, aDV, aJt, aJu, aDb, aHn, aHo, aHp, aE_, aFa, aFb, aJv, aFP, aKk, aD5, aKl, aKm, aMb, aDW, aMc, aFc, aMd, aMe, aHq, aDX, aHr, aDY, aMf, aMg, aMh, aHs, aMi, aKn, aDi, aMj, aCE, aKo, aMk, aKp, aKq, aHt, aD6, aKr, aCT, aFQ, aDl, xe_s, aJw, aMl, aMm, aMn, aMo, aMp, ws_nxt, ws_sNop, ws_sSeq, ws_sBrk, ws_sCnt, aFd, ws_sDrop, ws_sRet, ws_sRetN, aMq, aJx, ws_sIf, aHu, ws_sAsg, aG4, ws_sSet, aHv, ws_sPar, ws_sRaise, aMr, aMs, aMt, aMu, aMv, aMw, aMx, aMy, aMz, aM0, aM1, aM2, aM3, aM4, aM5, ws_sTry, aHw, ws_sFor, aM6, aM7, aM8, aM9, aMA, aMB, ws_fi_nil, aDZ, aHx, aHy, aHz, aH0, aH1, aH2, aMC, aMD, aH3, aH4, aH5, aFe, aD_, aDj, aEa, aDk, aD7, ly_s, aKs, aME, lg_s, aMF, aMG, aEb, aEc, aEd, aFl, aFf, aFg, aFh, aEe, aFi, aMH, aMI, aKt, aKu, aDn, aMJ, aFp, aEp, aMK, aKv, aKw, ws_sFldM, aHE, aG6, aHF, aFq, aML, aMM, aFr, aMN, aFs, aEq, aEr, aMO, aEs, aHG, aMP, aFt, aDo, aBR, aB2, aCF, aCG, List.take_succ_cons, List.take_zero, List.drop_succ_cons, List.drop_zero, List.getElem?_cons_zero, List.getElem?_cons_succ, List.set_cons_zero, List.set_cons_succ, List.map_cons, List.map_nil, List.length_cons, List.length_nil, List.cons_append, List.nil_append, List.replicate_succ, List.replicate_zero, List.append_nil, true_and, and_true, and_self, if_true, ite_true, if_false, ite_false, Bool.false_eq_true, Bool.not_true, Bool.not_false, Bool.not_not, decide_true, decide_false, decide_eq_true_eq, not_false_eq_true, not_true_eq_false, reduceCtorEq, sizeLine_eq, Option.map_some, Option.some.injEq, Nat.reduceSub, Nat.reduceAdd, Nat.reduceLeDiff, Nat.reduceEqDiff, Nat.zero_add, Nat.reduceBEq, List.contains_cons, List.contains_nil, beq_self_eq_true, Bool.true_or, Bool.or_true, Bool.false_or, Bool.or_false, List.lookup_cons, List.lookup_nil, Int.reduceEq, Int.reduceNe, Int.reduceLT, Int.reduceLE, Int.reduceNeg, Int.reduceAdd, Int.reduceSub, Int.cast_ofNat_Int, ne_eq, aG5, dGt, dGe, dLt, dLe, aEf, aEg, aDC, aCY, aHC, aHD, aFm, aEh, aFn, aEi, aEj, aEk, aEl, aEm, aEn, aEo, aBQ, aEJ, aFo, aFj, aFk, aH8, aH9, aEI, aHA, aHB, aDm, Tn.is, $[$ts:term],*])
noncomputable section
def aPZ (N:Nat):SM:=(sRet (eAn (eCa fAll (aCons (eLc (iSeq (eVar 0)) (.nm 1) tTrue (eCall (aDJ N) (nA 1 (aCons (eVar 1) aNil))) [1]) aNil)) (eBin dEq (eVar 0) (eC (.tup [.int 0, .int 1])))))
def aP_ (N:Nat):FM:=fnM 2 (aPZ N)
def aCI (N:Nat):SM:=(sRet (eOr (eCall (aCi N) (nA 1 (aCons (eVar 0) aNil))) (eAn (eIsTy .tuple (eVar 0)) (eAn (eBin dEq (eCa fLen (aCons (eVar 0) aNil)) (eC (.int 2))) (eCall (aP_ N) (nA 1 (aCons (eVar 0) aNil)))))))
def aB0 (N:Nat):FM:=fnM 1 (aCI N)
def aDM (N:Nat):SM:=(sSeq (sIf (tOr' (tNt (tT (eIsTy .str (eVar 0)))) (tNt (tB (eChain dLe dLe (eC (.int 1)) (eCa fLen (aCons (eVar 0) aNil)) (eC (.int 8)))))) (sRet (eC (.bl false))) sNop)
    (sRet (eCa fAll (aCons (eLc (iStrM (eVar 0)) (.nm 1) tTrue (eBinS (dIn false) (eVar 1) (eC (.str "abcdefghijklmnopqrstuvwxyz"))) [1]) aNil))))
def aBn (N:Nat):FM:=fnM 2 (aDM N)
def oD:Option Rat→D
  | none => .non
  | some q=>rD q
def cD (nm:Str) (l:Rat) (o:Option Rat) (h:Int):D:=.ins 33 [(0, .str nm),(1,rD l),(2,oD o),(3, .int h)]
def tD (c g t:Rat):D:=.tup [rD c,rD g,rD t]
structure CliOk (l:Rat) (o:Option Rat) (h:Int):Prop where
  l0:0≤l
  l1:l≤1
  o1:∀ q,o=some q→0<q∧q≤1∧l≤q
  h1:1≤h
  h9:h≤99
def rsd (tag b:Rat) (z:Int) (r:Rat):Rat:=max tag b+(z:Rat) / r
def gateB (o:Option Rat) (g:Rat) (z:Int) (b:Rat):Rat:=match o with
  | none=>g
  | some r=>rsd g b z r
end
end C
namespace C
open PySem G
local macro_rules | `(tactic| wp_walk using $ts,*) => `(tactic| try simp only [aBh, aHf, aJm, aJn, aCR, aDB, aJo, aJp, aDS, aLP, aLQ, aDT, aFM, aJq, aFN, aLR, aHg, aHh, aJr, aJs, aFO, aLS, aLT, aHi, aLU, aLV, aKi, aHj, aLW, aLX, aKj, aHk, aLY, aLZ, aHl, aL_, aMa, aHm, aDU, aEZ, aDV, aJt, aJu, aDb, aHn, aHo, aHp, aE_, aFa, aFb, aJv, aFP, aKk, aD5, aKl, aKm, aMb, aDW, aMc, aFc, aMd, aMe, aHq, aDX, aHr, aDY, aMf, aMg, aMh, aHs, aMi, aKn, aDi, aMj, aCE, aKo, aMk, aKp, aKq, aHt, aD6, aKr, aCT, aFQ, aDl, xe_s, aJw, aMl, aMm, aMn, aMo, aMp, ws_nxt, ws_sNop, ws_sSeq, ws_sBrk, ws_sCnt, aFd, ws_sDrop, ws_sRet, ws_sRetN, aMq, aJx, ws_sIf, aHu, ws_sAsg, aG4, ws_sSet, aHv, ws_sPar, ws_sRaise, aMr, aMs, aMt, aMu, aMv, aMw, aMx, aMy, aMz, aM0, aM1, aM2, aM3, aM4, aM5, ws_sTry, aHw, ws_sFor, aM6, aM7, aM8, aM9, aMA, aMB, ws_fi_nil, aDZ, aHx, aHy, aHz, aH0, aH1, aH2, aMC, aMD, aH3, aH4, aH5, aFe, aD_, aDj, aEa, aDk, aD7, ly_s, aKs, aME, lg_s, aMF, aMG, aEb, aEc, aEd, aFl, aFf, aFg, aFh, aEe, aFi, aMH, aMI, aKt, aKu, aDn, aMJ, aFp, aEp, aMK, aKv, aKw, ws_sFldM, aHE, aG6, aHF, aFq, aML, aMM, aFr, aMN, aFs, aEq, aEr, aMO, aEs, aHG, aMP, aFt, aDo, aBR, aB2, aCF, aCG, List.take_succ_cons, List.take_zero, List.drop_succ_cons, List.drop_zero, List.getElem?_cons_zero, List.getElem?_cons_succ, List.set_cons_zero, List.set_cons_succ, List.map_cons, List.map_nil, List.length_cons, List.length_nil, List.cons_append, List.nil_append, List.replicate_succ, List.replicate_zero, List.append_nil, true_and, and_true, and_self, if_true, ite_true, if_false, ite_false, Bool.false_eq_true, Bool.not_true, Bool.not_false, Bool.not_not, decide_true, decide_false, decide_eq_true_eq, not_false_eq_true, not_true_eq_false, reduceCtorEq, sizeLine_eq, Option.map_some, Option.some.injEq, Nat.reduceSub, Nat.reduceAdd, Nat.reduceLeDiff, Nat.reduceEqDiff, Nat.zero_add, Nat.reduceBEq, List.contains_cons, List.contains_nil, beq_self_eq_true, Bool.true_or, Bool.or_true, Bool.false_or, Bool.or_false, List.lookup_cons, List.lookup_nil, Int.reduceEq, Int.reduceNe, Int.reduceLT, Int.reduceLE, Int.reduceNeg, Int.reduceAdd, Int.reduceSub, Int.cast_ofNat_Int, ne_eq, aG5, dGt, dGe, dLt, dLe, aEf, aEg, aDC, aCY, aHC, aHD, aFm, aEh, aFn, aEi, aEj, aEk, aEl, aEm, aEn, aEo, aBQ, aEJ, aFo, aFj, aFk, aH8, aH9, aEI, aHA, aHB, aDm, Tn.is, $[$ts:term],*])
noncomputable section
def aDs (N:Nat):SM:=(sSeq (sIf (tOr' (tNt (tT (eIsTy .tuple (eVar 0)))) (tB (eBin dNe (eCa fLen (aCons (eVar 0) aNil)) (eCa fLen (aCons (eVar 1) aNil))))) (sRet (eC (.bl false))) sNop)
    (sSeq (sFor (iZip (aCons (eVar 0) (aCons (eVar 1) aNil))) (gTp 2 (gsCons' (gN 2) (gsCons' (gN 3) gsNil))) (sSeq (sIf (tOr' (tNt (tT (eIsTy .tuple (eVar 2)))) (tOr' (tB (eBin dNe (eCa fLen (aCons (eVar 2) aNil)) (eC (.int 2)))) (tB (eBin dNe (eVar 2) (eVar 3))))) (sRet (eC (.bl false))) sNop)
    (sIf (tOr' (tT (eIsTy .bool (eBinS ixD (eVar 2) (eC (.int 0))))) (tT (eIsTy .bool (eBinS ixD (eVar 2) (eC (.int 1)))))) (sRet (eC (.bl false))) sNop)))
    (sRet (eC (.bl true)))))
def aBS (N:Nat):FM:=fnM 4 (aDs N)
def dueB (c:Rat) (z:Int) (l:Rat):Rat:=c+(z:Rat) / l
end
end C
namespace G
open PySem
section
variable {Q X:QP D}{QB:QP Bool}{QL:QP (List D)}{QE:QP En}{k:KS}{e:En}{S S1:Store}{a b c o:EM}{t u:TM}{m n:SM}{am mk:AM}{x y d:D}{z:Bool}{xs ds zs:List D}
def me3 (f:FM) (gD:List D→List D→List D) (n l:Nat) (x:D) (ds:List D) (Q X:QP D):QP (List D):=fun zs S=>(ds.length=n∧zs.length=l)∧Wr (f (gD (x::ds) zs) S) Q X
def me2 (f:FM) (gD:List D→List D→List D) (n l:Nat) (x:D) (mk:AM) (e:En) (Q X:QP D):QP (List D):=fun ds S=>Wr (mk e S) (me3 f gD n l x ds Q X) X
def me1 (cn:Nat) (f:FM) (gD:List D→List D→List D) (n l:Nat) (am mk:AM) (e:En) (Q X:QP D):QP D:=fun x S=>isCn cn S x=true∧Wr (am e S) (me2 f gD n l x mk e Q X) X
theorem aWc (f:FM) (gD:List D→List D→List D) (n l:Nat):me3 f gD n l x ds Q X zs S=((ds.length=n∧zs.length=l)∧Wr (f (gD (x::ds) zs) S) Q X):=rfl
theorem aTS (f:FM) (gD:List D→List D→List D) (n l:Nat):me2 f gD n l x mk e Q X ds S=Wr (mk e S) (me3 f gD n l x ds Q X) X:=rfl
theorem aTT (cn:Nat) (f:FM) (gD:List D→List D→List D) (n l:Nat):me1 cn f gD n l am mk e Q X x S=(isCn cn S x=true∧Wr (am e S) (me2 f gD n l x mk e Q X) X):=rfl
theorem aNN (cn:Nat) (f:FM) (gD:List D→List D→List D) (n l:Nat):Wr (eMeth cn f gD n l o am mk e S) Q X=Wr (o e S) (me1 cn f gD n l am mk e Q X) X:=by
  unfold eMeth;rw [aAb];congr;funext x S1;rw [aAj,aTT,aAb];congr;funext ds S2;rw [aAb,aTS];congr;funext zs S3;rw [aAj];rfl
def mk2 (f:FM) (gD:List D→List D→List D) (l:Nat) (x:D) (Q X:QP D):QP (List D):=fun zs S=>zs.length=l∧Wr (f (gD [x] zs) S) Q X
def mk1 (cn:Nat) (f:FM) (gD:List D→List D→List D) (l:Nat) (mk:AM) (e:En) (Q X:QP D):QP D:=fun x S=>isCn cn S x=true∧Wr (mk e S) (mk2 f gD l x Q X) X
theorem aWd (f:FM) (gD:List D→List D→List D) (l:Nat):mk2 f gD l x Q X zs S=(zs.length=l∧Wr (f (gD [x] zs) S) Q X):=rfl
theorem aTU (cn:Nat) (f:FM) (gD:List D→List D→List D) (l:Nat):mk1 cn f gD l mk e Q X x S=(isCn cn S x=true∧Wr (mk e S) (mk2 f gD l x Q X) X):=rfl
theorem aKx (cn:Nat) (f:FM) (gD:List D→List D→List D) (l:Nat):Wr (eMethK cn f gD l o mk e S) Q X=Wr (o e S) (mk1 cn f gD l mk e Q X) X:=by
  unfold eMethK;rw [aAb];congr;funext x S1;rw [aAj,aTU,aAb];congr;funext zs S3;rw [aAj];rfl
def m01 (cn:Nat) (f:FM) (gD:List D→List D→List D) (Q X:QP D):QP D:=fun x S=>isCn cn S x=true∧Wr (f (gD [x] []) S) Q X
theorem aWe (cn:Nat) (f:FM) (gD:List D→List D→List D):m01 cn f gD Q X x S=(isCn cn S x=true∧Wr (f (gD [x] []) S) Q X):=rfl
theorem aKy (cn:Nat) (f:FM) (gD:List D→List D→List D):Wr (eMeth0 cn f gD o e S) Q X=Wr (o e S) (m01 cn f gD Q X) X:=by
  unfold eMeth0;rw [aAb];congr;funext x S1;rw [aAj];rfl
theorem aNO:Wr (eNewD e S) Q X=Q (.loc S.length) (S++[.dk []]):=rfl
def dg3 (x y:D) (Q X:QP D):QP D:=fun z S=>Wr (dgR S x y z) Q X
def dg2 (c:EM) (e:En) (x:D) (Q X:QP D):QP D:=fun y S=>Wr (c e S) (dg3 x y Q X) X
def dg1 (b c:EM) (e:En) (Q X:QP D):QP D:=fun x S=>(dkD S x).isSome=true∧Wr (b e S) (dg2 c e x Q X) X
theorem aWf (z:D):dg3 x y Q X z S=Wr (dgR S x y z) Q X:=rfl
theorem aWg:dg2 c e x Q X y S=Wr (c e S) (dg3 x y Q X) X:=rfl
theorem aTV:dg1 b c e Q X x S=((dkD S x).isSome=true∧Wr (b e S) (dg2 c e x Q X) X):=rfl
theorem aKz:Wr (eDGet2 a b c e S) Q X=Wr (a e S) (dg1 b c e Q X) X:=by
  unfold eDGet2;rw [aAb];congr;funext x S1;rw [aAj,aTV,aAb];congr;funext y S2;rw [aAb];rfl
def dh2 (x:D) (Q X:QP D):QP D:=fun y S=>Wr (dgR S x y .non) Q X
def dh1 (b:EM) (e:En) (Q X:QP D):QP D:=fun x S=>(dkD S x).isSome=true∧Wr (b e S) (dh2 x Q X) X
theorem aWh:dh2 x Q X y S=Wr (dgR S x y .non) Q X:=rfl
theorem aTW:dh1 b e Q X x S=((dkD S x).isSome=true∧Wr (b e S) (dh2 x Q X) X):=rfl
theorem aK0:Wr (eDGet1 a b e S) Q X=Wr (a e S) (dh1 b e Q X) X:=by
  unfold eDGet1;rw [aAb];congr;funext x S1;rw [aAj,aTW,aAb];rfl
def dp3 (x y:D) (Q X:QP D):QP D:=fun z S=>Wr (dpR S x y (some z)) Q X
def dp2 (c:EM) (e:En) (x:D) (Q X:QP D):QP D:=fun y S=>Wr (c e S) (dp3 x y Q X) X
def dp1 (b c:EM) (e:En) (Q X:QP D):QP D:=fun x S=>(dkD S x).isSome=true∧Wr (b e S) (dp2 c e x Q X) X
theorem aWi (z:D):dp3 x y Q X z S=Wr (dpR S x y (some z)) Q X:=rfl
theorem aWj:dp2 c e x Q X y S=Wr (c e S) (dp3 x y Q X) X:=rfl
theorem aTX:dp1 b c e Q X x S=((dkD S x).isSome=true∧Wr (b e S) (dp2 c e x Q X) X):=rfl
theorem aK1:Wr (eDPop2 a b c e S) Q X=Wr (a e S) (dp1 b c e Q X) X:=by
  unfold eDPop2;rw [aAb];congr;funext x S1;rw [aAj,aTX,aAb];congr;funext y S2;rw [aAb];rfl
def dq2 (x:D) (Q X:QP D):QP D:=fun y S=>Wr (dpR S x y none) Q X
def dq1 (b:EM) (e:En) (Q X:QP D):QP D:=fun x S=>(dkD S x).isSome=true∧Wr (b e S) (dq2 x Q X) X
theorem aWk:dq2 x Q X y S=Wr (dpR S x y none) Q X:=rfl
theorem aTY:dq1 b e Q X x S=((dkD S x).isSome=true∧Wr (b e S) (dq2 x Q X) X):=rfl
theorem aK2:Wr (eDPop1 a b e S) Q X=Wr (a e S) (dq1 b e Q X) X:=by
  unfold eDPop1;rw [aAb];congr;funext x S1;rw [aAj,aTY,aAb];rfl
def se2 (d x:D) (e:En) (Q:QP En):QP D:=fun y S=>sb3 e Q (setE S x y d)
def se1 (d:D) (i:EM) (e:En) (Q:QP En):QP D:=fun x S=>Wr (i e S) (se2 d x e Q) nX
theorem aTZ:se2 d x e QE y S=sb3 e QE (setE S x y d):=rfl
theorem aT_ (i:EM):se1 d i e QE x S=Wr (i e S) (se2 d x e QE) nX:=rfl
theorem aQa (o i:EM):Wr (gSbE o i d e S) QE X=Wr (o e S) (se1 d i e QE) nX:=by
  unfold gSbE;rw [aAb,aE9];congr;funext x S1;rw [aAb,aE9,aT_];congr;funext y S2;rw [aTZ];cases h:setE S2 x y d<;>rfl
theorem aNP (i:Int):keyD (.int i)=some (.inl i):=rfl
theorem aNQ (s:Str):keyD (.str s)=some (.inr s):=rfl
def ssQ (Q X:QP D):QP D:=fun x S=>Wr (lf (ssD S x) S) Q X
theorem aWl:ssQ Q X x S=Wr (lf (ssD S x) S) Q X:=rfl
theorem aHH:Wr (eSortSet a e S) Q X=Wr (a e S) (ssQ Q X) X:=by unfold eSortSet;rw [aAb];rfl
def an2 (x:D) (Q X:QP D):QP D:=fun y S=>Wr (addN S x y) Q X
def an1 (b:EM) (e:En) (Q X:QP D):QP D:=fun x S=>Wr (b e S) (an2 x Q X) X
theorem aWm:an2 x Q X y S=Wr (addN S x y) Q X:=rfl
theorem aWn:an1 b e Q X x S=Wr (b e S) (an2 x Q X) X:=rfl
theorem aNR:Wr (eAddN a b e S) Q X=Wr (a e S) (an1 b e Q X) X:=by unfold eAddN;rw [aAb];congr;funext x S1;rw [aAb];rfl
abbrev QC:=List D×Option Nat→Store→Prop
variable {QQ:QC}
def celQ (Q:QC):QP D:=fun x S=>match x with
  | .tup l=>Q (l,none) S
  | .lst l=>Q (l,none) S
  | .scr l=>Q (l,none) S
  | .loc n=>match S[n]? with
    | some (.lst l)=>Q (l,some n) S
    | _=>False
  | _=>False
theorem aNS (l:List D):celQ QQ (.tup l) S=QQ (l,none) S:=rfl
theorem aNT (l:List D):celQ QQ (.lst l) S=QQ (l,none) S:=rfl
theorem aNU (l:List D):celQ QQ (.scr l) S=QQ (l,none) S:=rfl
theorem aQb:Wr (iCel a e S) QQ X=Wr (a e S) (celQ QQ) X:=by
  unfold iCel;rw [aAb];congr;funext x S1
  cases x with
  | loc n=>
    show Wr (match S1[n]? with
      | some (.lst l) => .ok (l,some n) S1
      | _ => .stuck) _ _=celQ QQ (.loc n) S1
    unfold celQ
    dsimp only
    cases S1[n]? with
    | none=>rfl
    | some q=>cases q<;>rfl
  | _=>rfl
def forcQ (g:GM) (m:SM) (e:En) (k:KS):QC:=fun p S=>Ws (fiC (okC p) g m p.1 e S) k
theorem aQc (g:GM) (p:List D×Option Nat):forcQ g m e k p S=Ws (fiC (okC p) g m p.1 e S) k:=rfl
theorem ws_sForC (i:CM) (g:GM):Ws (sForC i g m e S) k=Wr (i e S) (forcQ g m e k) (k.xe e):=ws_sE
def lcc1 (g:Tg) (t:TM) (a:EM) (e:En) (Q X:QP D):QC:=fun p S=>Wr (lcC (okC p) g t a e p.1 [] S) (lc2 Q) X
theorem aSW (g:Tg) (p:List D×Option Nat):lcc1 g t a e Q X p S=Wr (lcC (okC p) g t a e p.1 [] S) (lc2 Q) X:=rfl
theorem aQd (i:CM) (g:Tg) (vs:List Nat):Wr (eLcC i g t a vs e S) Q X=Wr (i e S) (lcc1 g t a (wipeE e vs) Q X) X:=by
  unfold eLcC;rw [aAb];congr;funext p S1;rw [aAb];rfl
def lcd1 (g:Tg) (t:TM) (a:EM) (e:En) (Q X:QP D):QC:=fun p S=>Wr (lcC (okC p) g t a e p.1 [] S) (lcn2 Q) X
theorem aSX (g:Tg) (p:List D×Option Nat):lcd1 g t a e Q X p S=Wr (lcC (okC p) g t a e p.1 [] S) (lcn2 Q) X:=rfl
theorem aNV (i:CM) (g:Tg) (vs:List Nat):Wr (eLcCN i g t a vs e S) Q X=Wr (i e S) (lcd1 g t a (wipeE e vs) Q X) X:=by
  unfold eLcCN;rw [aAb];congr;funext p S1;rw [aAb];rfl
end
end G
namespace C
open PySem G
local macro_rules | `(tactic| wp_walk using $ts,*) => `(tactic| try simp only [aBh, aHf, aJm, aJn, aCR, aDB, aJo, aJp, aDS, aLP, aLQ, aDT, aFM, aJq, aFN, aLR, aHg, aHh, aJr, aJs, aFO, aLS, aLT, aHi, aLU, aLV, aKi, aHj, aLW, aLX, aKj, aHk, aLY, aLZ, aHl, aL_, aMa, aHm, aDU, aEZ, aDV, aJt, aJu, aDb, aHn, aHo, aHp, aE_, aFa, aFb, aJv, aFP, aKk, aD5, aKl, aKm, aMb, aDW, aMc, aFc, aMd, aMe, aHq, aDX, aHr, aDY, aMf, aMg, aMh, aHs, aMi, aKn, aDi, aMj, aCE, aKo, aMk, aKp, aKq, aHt, aD6, aKr, aCT, aFQ, aDl, xe_s, aJw, aMl, aMm, aMn, aMo, aMp, ws_nxt, ws_sNop, ws_sSeq, ws_sBrk, ws_sCnt, aFd, ws_sDrop, ws_sRet, ws_sRetN, aMq, aJx, ws_sIf, aHu, ws_sAsg, aG4, ws_sSet, aHv, ws_sPar, ws_sRaise, aMr, aMs, aMt, aMu, aMv, aMw, aMx, aMy, aMz, aM0, aM1, aM2, aM3, aM4, aM5, ws_sTry, aHw, ws_sFor, aM6, aM7, aM8, aM9, aMA, aMB, ws_fi_nil, aDZ, aHx, aHy, aHz, aH0, aH1, aH2, aMC, aMD, aH3, aH4, aH5, aFe, aD_, aDj, aEa, aDk, aD7, ly_s, aKs, aME, lg_s, aMF, aMG, aEb, aEc, aEd, aFl, aFf, aFg, aFh, aEe, aFi, aMH, aMI, aKt, aKu, aDn, aMJ, aFp, aEp, aMK, aKv, aKw, ws_sFldM, aHE, aG6, aHF, aFq, aML, aMM, aFr, aMN, aFs, aEq, aEr, aMO, aEs, aHG, aMP, aFt, aDo, aBR, aB2, aCF, aCG, List.take_succ_cons, List.take_zero, List.drop_succ_cons, List.drop_zero, List.getElem?_cons_zero, List.getElem?_cons_succ, List.set_cons_zero, List.set_cons_succ, List.map_cons, List.map_nil, List.length_cons, List.length_nil, List.cons_append, List.nil_append, List.replicate_succ, List.replicate_zero, List.append_nil, true_and, and_true, and_self, if_true, ite_true, if_false, ite_false, Bool.false_eq_true, Bool.not_true, Bool.not_false, Bool.not_not, decide_true, decide_false, decide_eq_true_eq, not_false_eq_true, not_true_eq_false, reduceCtorEq, sizeLine_eq, Option.map_some, Option.some.injEq, Nat.reduceSub, Nat.reduceAdd, Nat.reduceLeDiff, Nat.reduceEqDiff, Nat.zero_add, Nat.reduceBEq, List.contains_cons, List.contains_nil, beq_self_eq_true, Bool.true_or, Bool.or_true, Bool.false_or, Bool.or_false, List.lookup_cons, List.lookup_nil, Int.reduceEq, Int.reduceNe, Int.reduceLT, Int.reduceLE, Int.reduceNeg, Int.reduceAdd, Int.reduceSub, Int.cast_ofNat_Int, ne_eq, aG5, dGt, dGe, dLt, dLe, aEf, aEg, aDC, aCY, aHC, aHD, aFm, aEh, aFn, aEi, aEj, aEk, aEl, aEm, aEn, aEo, aBQ, aEJ, aFo, aFj, aFk, aH8, aH9, aEI, aHA, aHB, aDm, Tn.is, aWc, aTS, aTT, aNN, aWd, aTU, aKx, aWe, aKy, aNO, aWf, aWg, aTV, aKz, aWh, aTW, aK0, aWi, aWj, aTX, aK1, aWk, aTY, aK2, aTZ, aT_, aQa, aWl, aHH, aWm, aWn, aNR, aNS, aNT, aNU, aQb, aQc, ws_sForC, aSW, aQd, aSX, aNV, aNP, aNQ, Option.isSome_some, $[$ts:term],*])
noncomputable section
def rowD (p:Rat×Rat):D:=.tup [rD p.1,rD p.2]
def atT (l:List (Rat×Rat)) (t:Rat):Rat:=l.foldl (fun f p=>if t<p.1 then f else p.2) 0
def lastR (l:List (Rat×Rat)):Rat:=match l.getLast? with
  | some p=>p.2
  | none=>0
def lowL (l:List (Rat×Rat)) (s:Rat):List (Rat×Rat):=l.filter fun p=>decide (p.1<s)
def bookL (l:List (Rat×Rat)) (s r:Rat):List (Rat×Rat):=if lastR (lowL l s)=r then lowL l s else lowL l s++[(s,r)]
structure Bk (S:Store) (n:Nat) (f:Int→List (Rat×Rat)) (c:Nat):Prop where
  ex:∃ n1 kvs,S[n]? = some (.obj 34 [(9, .loc n1)])∧S[n1]? = some (.dk kvs)∧kvs.length≤c∧∀ i:Int,(valD kvs (.inl i)=none∧f i = [])∨∃ j,valD kvs (.inl i)=some (.loc j)∧S[j]? = some (.lst ((f i).map rowD))
  bt:∀ i p,p∈f i→Bt p.1 64∧Bt p.2 64
  len:∀ i,(f i).length≤c
theorem Bk.app {S:Store}{n c:Nat}{f:Int→List (Rat×Rat)}(h:Bk S n f c) (d:List Cell):Bk (S++d) n f c:=by
  obtain ⟨⟨n1,kvs,h1,h2,h3,h4⟩,h5,h6⟩:=h
  have get:∀ {i:Nat}{c:Cell},S[i]? = some c→(S++d)[i]? = some c:=fun {i c} hi=>by
    rw [List.getElem?_append_left (List.getElem?_eq_some_iff.mp hi).1];exact hi
  exact ⟨⟨n1,kvs,get h1,get h2,h3,fun i=>(h4 i).imp id fun ⟨j,a,b⟩=>⟨j,a,get b⟩⟩,h5,h6⟩
abbrev Rw:=Int×Rat×Rat
def lawT (l:List Rw) (i:Int) (t:Rat):Rat:=l.foldl (fun f p=>if p.1=i∧¬ t<p.2.1 then p.2.2 else f) 0
theorem aHI (l:List Rw) (p:Rw) (i:Int) (t:Rat):lawT (l++[p]) i t=if p.1=i∧¬ t<p.2.1 then p.2.2 else lawT l i t:=by
  unfold lawT;rw [List.foldl_append];rfl
end
end C
namespace G
open PySem
section
variable {Q X:QP D}{e:En}{S S1:Store}{a b c o:EM}{ms:List EM}{x y d:D}
def fmQ (Q X:QP D):QP D:=fun x S=>Wr (lf (fmtD x) S) Q X
theorem aXQ:fmQ Q X x S=Wr (lf (fmtD x) S) Q X:=rfl
theorem aUa:Wr (eFmt a e S) Q X=Wr (a e S) (fmQ Q X) X:=by
  unfold eFmt;rw [aAb];rfl
def jsQ (ms:List EM) (acc:Str) (e:En) (Q X:QP D):QP D:=fun x S=>match x with
  | .str y=>(acc++y).length≤sizeLine∧Wr (jsM ms (acc++y) e S) Q X
  | _=>False
theorem aUb (acc y:Str):jsQ ms acc e Q X (.str y) S=((acc++y).length≤sizeLine∧Wr (jsM ms (acc++y) e S) Q X):=rfl
theorem aQe (acc:Str):Wr (jsM [] acc e S) Q X=Q (.str acc) S:=rfl
theorem aO5 (acc:Str):Wr (jsM (a::ms) acc e S) Q X=Wr (a e S) (jsQ ms acc e Q X) X:=by
  unfold jsM;rw [aAb];congr;funext x S1
  cases x with
  | str y=>show Wr (if _ then _ else _) _ _=_;rw [aAj];rfl
  | _=>rfl
theorem aWo:Wr (eJs ms e S) Q X=Wr (jsM ms Str.empty e S) Q X:=rfl
def s4Q (Q:QP D):QP D:=fun y S=>match y with
  | .str t=>Q (.str t) S
  | _=>False
theorem aUc (t:Str):s4Q Q (.str t) S=Q (.str t) S:=rfl
theorem aSg {r:Res D}:Wr (strOf r) Q X=Wr r (s4Q Q) X:=by
  unfold strOf;rw [aAb];congr;funext y S1;cases y<;>rfl
def soQ (cn:Nat) (f:FM) (gD:List D→List D→List D) (Q X:QP D):QP D:=fun x S=>isCn cn S x=true∧Wr (f (gD [x] []) S) (s4Q Q) X
theorem aXR (cn:Nat) (f:FM) (gD:List D→List D→List D):soQ cn f gD Q X x S=(isCn cn S x=true∧Wr (f (gD [x] []) S) (s4Q Q) X):=rfl
theorem aSh (cn:Nat) (f:FM) (gD:List D→List D→List D):Wr (eStrO cn f gD a e S) Q X=Wr (a e S) (soQ cn f gD Q X) X:=by
  unfold eStrO aCons aNil
  rw [aAb,aAb]
  congr;funext x S1
  show Wr (if isCn cn S1 x=true then strOf (f (gD [x] []) S1) else .stuck) Q X=_
  rw [aAj,aSg];rfl
theorem aUd (m:List D):dAddE S (.tup []) (.tup m)=some (.tup m):=rfl
end
end G
namespace G
open PySem
section
variable {Q X:QP D}{QB:QP Bool}{QL:QP (List D)}{QE:QP En}{k:KS}{e:En}{S S1:Store}{a b c o:EM}{t u:TM}{m n:SM}{am mk:AM}{x y d:D}{z:Bool}{xs ds zs:List D}
theorem aQf (i f nN:Nat) (cp:List (Option D)) (fk:FM):Wr (eCallV i f nN cp fk am e S) Q X=((e[i]? = some (some (.fa f))∧e.drop nN=cp)∧Wr (am e S) (clQ fk Q X) X):=by
  unfold eCallV;split
  · rename_i h;simp only [h,aAb,and_self,true_and];rfl
  · rename_i h;simp only [h,false_and];rfl
def chQ (g:Nat→List (Option D)→FM→FM) (js:List Nat) (fkM:En→FM) (tb:Store→Bool) (i:Nat) (e:En) (Q X:QP D):QP (List D):=fun ds S=>(tb S=true∧ds.length=i)∧Wr (uniR (fun q:Nat × { vs:List L2.V // vs.length=js.length }=>g q.1 (cpOf js e q.2.1) (fkM e) (ds++[.fa q.1]) S)) Q X
theorem aXS (g:Nat→List (Option D)→FM→FM) (js:List Nat) (fkM:En→FM) (tb:Store→Bool) (i:Nat):chQ g js fkM tb i e Q X ds S=((tb S=true∧ds.length=i)∧Wr (uniR (fun q:Nat × { vs:List L2.V // vs.length=js.length }=>g q.1 (cpOf js e q.2.1) (fkM e) (ds++[.fa q.1]) S)) Q X):=rfl
theorem aQg (g:Nat→List (Option D)→FM→FM) (js:List Nat) (fkM:En→FM) (tb:Store→Bool) (i:Nat):Wr (eCallH g js fkM tb i am e S) Q X=Wr (am e S) (chQ g js fkM tb i e Q X) X:=by
  unfold eCallH;rw [aAb];congr;funext ds S1;rw [aAj];rfl
theorem aUe (js:List Nat) (np:Nat) (e':En):Wr (lamF js np a e' ds S) Q X=(ds.length=np∧Wr (a (ds.map some++js.map fun j=>oj e'[j]?) S) Q X):=by
  unfold lamF;rw [aAj]
theorem oj_s:oj (some (some d))=some d:=rfl
def enuQ (Q:QP (List D)) (X:QP D):QP (List D):=fun ds S=>Wr (enR ds S) Q X
theorem aWp:enuQ QL X ds S=Wr (enR ds S) QL X:=rfl
theorem aSi:Wr (iEnum am e S) QL X=Wr (am e S) (enuQ QL X) X:=by unfold iEnum;rw [aAb];rfl
theorem aUf (l:List D):enR [.tup l] S = .ok (enumD l) S:=rfl
theorem aUg (l:List D):enR [.lst l] S = .ok (enumD l) S:=rfl
def lrQ (Q:QP D):QP D:=fun d S=>match d with
  | .int i=>lrOk i∧Q (.lst (rangeD 0 i.toNat)) S
  | _=>False
theorem aMQ (i:Int):lrQ Q (.int i) S=(lrOk i∧Q (.lst (rangeD 0 i.toNat)) S):=propext Iff.rfl
theorem aWq:Wr (eLr a e S) Q X=Wr (a e S) (lrQ Q) X:=by
  unfold eLr;rw [aAb];congr;funext d S1;rw [aAb]
  cases d with
  | int i=>
    unfold lrR
    dsimp only
    split
    · rename_i h;rw [aMQ];simp only [h,true_and];rfl
    · rename_i h;rw [aMQ];simp only [h,false_and];rfl
  | _=>rfl
def lrnQ (Q:QP D):QP D:=fun d S=>match d with
  | .int i=>lrOk i∧Q (.loc S.length) (S++[.lst (rangeD 0 i.toNat)])
  | _=>False
theorem aJ1 (i:Int):lrnQ Q (.int i) S=(lrOk i∧Q (.loc S.length) (S++[.lst (rangeD 0 i.toNat)])):=propext Iff.rfl
theorem aUh:Wr (eLrN a e S) Q X=Wr (a e S) (lrnQ Q) X:=by
  unfold eLrN;rw [aAb];congr;funext d S1;rw [aAb]
  cases d with
  | int i=>
    unfold lrR
    dsimp only
    split
    · rename_i h;rw [aJ1];simp only [h,true_and];rfl
    · rename_i h;rw [aJ1];simp only [h,false_and];rfl
  | _=>rfl
def agQ (i:Nat) (x:D) (e:En) (k:KS):QP D:=fun y S=>Ws (augR i e x y S) k
theorem aXT (i:Nat):agQ i x e k y S=Ws (augR i e x y S) k:=rfl
def auP (o:Option (Option D)) (i:Nat) (a:EM) (e:En) (S:Store) (k:KS):Prop:=match o with
  | some (some x)=>Wr (a e S) (agQ i x e k) (k.xe e)
  | _=>False
theorem aXU (i:Nat):auP (some (some x)) i a e S k=Wr (a e S) (agQ i x e k) (k.xe e):=rfl
theorem ws_sAug (i:Nat):Ws (sAug i a e S) k=auP e[i]? i a e S k:=by
  unfold sAug auP
  cases e[i]? with
  | none=>rfl
  | some q=>cases q with
    | none=>rfl
    | some x=>dsimp only;rw [ws_sE];rfl
theorem aSj (i:Nat) (p q:Int):augR i e (.int p) (.int q) S = .nxt (e.set i (some (.int (p+q)))) S:=rfl
def pp2 (x:D) (Q X:QP D):QP (List D):=fun xs S=>Wr (popR x xs S) Q X
def pp1 (am:AM) (e:En) (Q X:QP D):QP D:=fun x S=>isLst S x=true∧Wr (am e S) (pp2 x Q X) X
theorem aXV:pp2 x Q X xs S=Wr (popR x xs S) Q X:=rfl
theorem aXW:pp1 am e Q X x S=(isLst S x=true∧Wr (am e S) (pp2 x Q X) X):=rfl
theorem aUi:Wr (ePop a am e S) Q X=Wr (a e S) (pp1 am e Q X) X:=by
  unfold ePop;rw [aAb];congr;funext x S1;rw [aAj,aAb];rfl
def Cmp (d:D):Prop:=∃ p,d.toP=some p∧p.canLay0=true∧p.depth≤60
theorem aO6 (i:Nat) (r:GMs) (l:List D):Wr (gSq i r (.tup l) e S) QE X=(l.length=i∧Wr (r l e S) QE X):=by
  show Wr (if l.length=i then _ else _) QE X=_
  rw [aAj]
theorem aO7 (i:Nat) (r:GMs) (l:List D):Wr (gSq i r (.lst l) e S) QE X=(l.length=i∧Wr (r l e S) QE X):=by
  show Wr (if l.length=i then _ else _) QE X=_
  rw [aAj]
end
end G
namespace G
open PySem
section
variable {Q:D→Store→Prop}{QE:En→Store→Prop}{X:D→Store→Prop}{k:KS}{e:En}{S S1:Store}{a b c:EM}{x y d:D}{z:Bool}{xs ds:List D}
def lnP (Q:QP D) (S:Store) (o:Option (List D)):Prop:=match o with
  | some l=>Q (.loc S.length) (S++[.lst l])
  | none=>False
def lnQ (Q:QP D):QP D:=fun d S=>lnP Q S (seqT S d)
theorem aUj (l:List D):lnQ Q (.lst l) S=Q (.loc S.length) (S++[.lst l]):=rfl
theorem aUk (l:List D):lnQ Q (.tup l) S=Q (.loc S.length) (S++[.lst l]):=rfl
theorem aQh:Wr (eListN a e S) Q X=Wr (a e S) (lnQ Q) X:=by
  unfold eListN
  rw [aAb]
  congr;funext d S1
  unfold lnQ
  rw [aAb]
  cases seqT S1 d<;>rfl
def rvP (Q:QP D) (S:Store) (o:Option (List D)):Prop:=match o with
  | some l=>Q (.lst l.reverse) S
  | none=>False
def rvQ (Q:QP D):QP D:=fun d S=>rvP Q S (seqD S d)
theorem aUl (l:List D):rvQ Q (.lst l) S=Q (.lst l.reverse) S:=rfl
theorem aUm:Wr (eRev a e S) Q X=Wr (a e S) (rvQ Q) X:=by
  unfold eRev
  rw [aAb]
  congr;funext d S1
  unfold rvQ
  rw [aAb]
  cases seqD S1 d<;>rfl
def rfQ (cn f:Nat) (e:En) (k:KS):QP D:=fun d S=>k.ex (.exc cn [(f,d)]) e S
theorem aO8 (cn f:Nat):rfQ cn f e k d S=k.ex (.exc cn [(f,d)]) e S:=rfl
theorem ws_sRaiseF (cn f:Nat):Ws (sRaiseF cn f a e S) k=Wr (a e S) (rfQ cn f e k) (k.xe e):=by
  unfold sRaiseF;rw [ws_sE];rfl
end
end G
namespace G
open PySem
section
variable {Q:D→Store→Prop}{QE:En→Store→Prop}{X:D→Store→Prop}{k:KS}{e:En}{S S1:Store}{a b c:EM}{m n:SM}{x y d:D}{z:Bool}{xs ds:List D}
def KS.trG (k:KS) (hs:List HdM):KS:=⟨k.nx,k.rt,k.bk,k.ct,fun x e S=>match x with
  | .exc cn fs=>Ws (hdR hs cn fs e S) k
  | _=>False⟩
theorem aIM (hs:List HdM):(k.trG hs).nx=k.nx:=rfl
theorem aWr (hs:List HdM):(k.trG hs).rt=k.rt:=rfl
theorem aWs (hs:List HdM):(k.trG hs).bk=k.bk:=rfl
theorem aWt (hs:List HdM):(k.trG hs).ct=k.ct:=rfl
theorem aSY (hs:List HdM) (cn:Nat) (fs:List (Nat×D)):(k.trG hs).ex (.exc cn fs) e S=Ws (hdR hs cn fs e S) k:=rfl
theorem ws_sTryG (hs:List HdM):Ws (sTryG hs m e S) k=Ws (m e S) (k.trG hs):=by
  unfold sTryG
  cases m e S with
  | exc x e1 S1=>cases x<;>rfl
  | _=>rfl
theorem ws_hd_nil (cn:Nat) (fs:List (Nat×D)):Ws (hdR [] cn fs e S) k=k.ex (.exc cn fs) e S:=rfl
def hdP (o:Option Bool) (a b:Prop):Prop:=match o with
  | some true=>a
  | some false=>b
  | none=>False
theorem aWu (a b:Prop):hdP (some true) a b=a:=rfl
theorem aXX (a b:Prop):hdP (some false) a b=b:=rfl
theorem ws_hd_cons (ts:List (Nat→Option Bool)) (oi:Option Nat) (r:List HdM) (cn:Nat) (fs:List (Nat×D)):Ws (hdR ((ts,oi,n)::r) cn fs e S) k=hdP (tbAny ts cn) (Ws (sSuO oi (n (setO e oi (.exc cn fs)) S)) k) (Ws (hdR r cn fs e S) k):=by
  rw [hdR]
  cases tbAny ts cn with
  | none=>rfl
  | some b=>cases b<;>rfl
theorem aQi (i:Nat):setO e (some i) d=e.set i (some d):=rfl
theorem aK3:setO e none d=e:=rfl
theorem ws_suS (i:Nat) {r:SRes}:Ws (sSuO (some i) r) k=Ws r (k.su i):=by cases r<;>rfl
def KS.suN (k:KS):KS:=⟨k.nx,k.rt,k.bk,k.ct,fun _ _ _=>False⟩
theorem aSZ:k.suN.nx=k.nx:=rfl
theorem aWv:k.suN.rt=k.rt:=rfl
theorem aWw:k.suN.bk=k.bk:=rfl
theorem aWx:k.suN.ct=k.ct:=rfl
theorem ws_suN {r:SRes}:Ws (sSuO none r) k=Ws r k.suN:=by cases r<;>rfl
def iyQ (tb:Nat→Option Bool) (Q X:QP D):QP D:=fun x S=>Wr (lf ((isY tb x).map .bl) S) Q X
theorem aXY (tb:Nat→Option Bool):iyQ tb Q X x S=Wr (lf ((isY tb x).map .bl) S) Q X:=rfl
theorem aUn (tb:Nat→Option Bool):Wr (eIsY tb a e S) Q X=Wr (a e S) (iyQ tb Q X) X:=by unfold eIsY;rw [aAb];rfl
theorem aUo (tb:Nat→Option Bool) (cn:Nat) (fs:List (Nat×D)):isY tb (.exc cn fs)=tb cn:=rfl
def fyQ (cs:List Nat) (f:Nat) (Q X:QP D):QP D:=fun x S=>Wr (lf (fldY cs f x) S) Q X
theorem aWy (cs:List Nat) (f:Nat):fyQ cs f Q X x S=Wr (lf (fldY cs f x) S) Q X:=rfl
theorem aNW (cs:List Nat) (f:Nat):Wr (eFldY cs f a e S) Q X=Wr (a e S) (fyQ cs f Q X) X:=by unfold eFldY;rw [aAb];rfl
theorem aSk (cs:List Nat) (f cn:Nat) (fs:List (Nat×D)):fldY cs f (.exc cn fs)=if cs.contains cn then fs.lookup f else none:=rfl
def toQ (y:Ty) (Q X:QP D):QP D:=fun x S=>Wr (lf ((isTyO S y x).map .bl) S) Q X
theorem aXZ (t:Ty):toQ t Q X x S=Wr (lf ((isTyO S t x).map .bl) S) Q X:=rfl
theorem aQj (t:Ty):Wr (eIsTyO t a e S) Q X=Wr (a e S) (toQ t Q X) X:=by unfold eIsTyO;rw [aAb];rfl
theorem aQk (t:Ty) (l:List D):isTyO S t (.tup l)=some (Tn.tuple.is t):=rfl
theorem aQl (t:Ty) (l:List D):isTyO S t (.lst l)=some (Tn.list.is t):=rfl
theorem aQm (t:Ty) (i:Int):isTyO S t (.int i)=some (Tn.int.is t):=rfl
end
end G
namespace G
open PySem
section
variable {QD:D→Store→Prop}{QL:List D→Store→Prop}{X:D→Store→Prop}{e:En}{S S1:Store}{a b c:EM}{am:AM}{x y d:D}{xs ds:List D}
def tm2 (f:Store→D→List D→Option D) (z:Str) (Q:QP D) (X:QP D):QP (List D):=fun xs S=>Wr (lf (f S (.str z) xs) S) Q X
theorem aX_ (f:Store→D→List D→Option D) (z:Str):tm2 f z QD X xs S=Wr (lf (f S (.str z) xs) S) QD X:=rfl
def tm1 (f:Store→D→List D→Option D) (m:AM) (e:En) (Q X:QP D):QP D:=fun x S=>match x with
  | .str z=>Wr (m e S) (tm2 f z Q X) X
  | _=>False
theorem aYa (f:Store→D→List D→Option D) (z:Str):tm1 f am e QD X (.str z) S=Wr (am e S) (tm2 f z QD X) X:=rfl
theorem aWz (f:Store→D→List D→Option D):Wr (eTm f a am e S) QD X=Wr (a e S) (tm1 f am e QD X) X:=by
  unfold eTm;rw [aAb];congr;funext x S1
  cases x<;>first | rfl | (rw [aAb];rfl) | (rw [aFL];rfl)
def rgQN (Q:List D→Store→Prop):QP (List D):=fun ds S=>match ds with
  | [.int i, .int j, .int (.negSucc 0)]=>(-(2 ^ 62)≤i∧i<2 ^ 62 ∧ -(2 ^ 62)≤j∧j<2 ^ 62)∧Q (rangeN i (i - j).toNat) S
  | _=>False
theorem aSl (i j:Int):rgQN QL [.int i, .int j, .int (-1)] S=((-(2 ^ 62)≤i∧i<2 ^ 62 ∧ -(2 ^ 62)≤j∧j<2 ^ 62)∧QL (rangeN i (i - j).toNat) S):=rfl
theorem aUp:Wr (iRgN am e S) QL X=Wr (am e S) (rgQN QL) X:=by
  unfold iRgN;rw [aAb];congr;funext ds S1
  by_cases h:∃ i j,ds = [.int i, .int j, .int (-1)]
  · obtain ⟨i,j,rfl⟩:=h
    show Wr (if _ then _ else _) _ _=_
    rw [aAj];rfl
  · unfold rgQN
    split
    · exact absurd ⟨_,_,rfl⟩ h
    · rw [aFL]
      try (split<;>first | exact absurd ⟨_,_,rfl⟩ h | rfl)
end
end G
namespace G
open PySem
section
variable {Q X:QP D}{QB:QP Bool}{QL:QP (List D)}{QE:QP En}{k:KS}{e:En}{S S1 S2:Store}{a b c o:EM}{t u:TM}{m n:SM}{am mk:AM}{x y d:D}{z:Bool}{xs ds zs:List D}{g g1 g2 g3:GM}
def gf1 (cs:List Nat) (f:Nat) (d:D) (e:En) (Q:QP En):QP D:=fun x S=>sb3 e Q (stF cs f S x d)
theorem aW0 (cs:List Nat) (f:Nat):gf1 cs f d e QE x S=sb3 e QE (stF cs f S x d):=rfl
theorem aW1 (cs:List Nat) (f:Nat):Wr (gFl cs f o d e S) QE X=Wr (o e S) (gf1 cs f d e QE) nX:=by
  unfold gFl;rw [aAb,aE9];congr;funext x S1;rw [aW0];cases h:stF cs f S1 x d<;>rfl
def as3 (g3:GM) (d:D) (k:KS):QP En:=fun e S=>Wr (g3 d e S) k.nx (k.xe e)
def as2 (g2 g3:GM) (d:D) (k:KS):QP En:=fun e S=>Wr (g2 d e S) (as3 g3 d k) (k.xe e)
def as1 (g1 g2 g3:GM) (e:En) (k:KS):QP D:=fun d S=>Wr (g1 d e S) (as2 g2 g3 d k) (k.xe e)
theorem aYb:as3 g3 d k e S=Wr (g3 d e S) k.nx (k.xe e):=rfl
theorem aW2:as2 g2 g3 d k e S=Wr (g2 d e S) (as3 g3 d k) (k.xe e):=rfl
theorem aW3:as1 g1 g2 g3 e k d S=Wr (g1 d e S) (as2 g2 g3 d k) (k.xe e):=rfl
theorem ws_sAsg3:Ws (sAsg3 a g1 g2 g3 e S) k=Wr (a e S) (as1 g1 g2 g3 e k) (k.xe e):=by
  unfold sAsg3;rw [ws_sE];congr;funext z S1;rw [ws_sE,aW3];congr;funext z S1;rw [ws_sE,aW2];congr;funext z S1;rw [ws_sE];rfl
def at1 (g1 g2:GM) (e:En) (k:KS):QP D:=fun d S=>Wr (g1 d e S) (as3 g2 d k) (k.xe e)
theorem aW4:at1 g1 g2 e k d S=Wr (g1 d e S) (as3 g2 d k) (k.xe e):=rfl
theorem ws_sAsg2:Ws (sAsg2 a g1 g2 e S) k=Wr (a e S) (at1 g1 g2 e k) (k.xe e):=by
  unfold sAsg2;rw [ws_sE];congr;funext z S1;rw [ws_sE,aW4];congr;funext z S1;rw [ws_sE];rfl
def faQ (j:Int) (cs:List Nat) (f:Nat) (e:En) (k:KS):QP D:=fun x S=>match fldD cs f S x with
  | some y=>Ws (stR (augI j S x y cs f) e) k
  | none=>False
theorem ws_sFldA (j:Int) (cs:List Nat) (f:Nat):Ws (sFldA j cs f o e S) k=Wr (o e S) (faQ j cs f e k) (k.xe e):=by
  unfold sFldA;rw [ws_sE];congr;funext x S1;unfold faQ;cases fldD cs f S1 x<;>rfl
def ds3 (x y:D) (Q X:QP D):QP D:=fun z S=>Wr (dsR S x y z) Q X
def ds2 (c:EM) (e:En) (x:D) (Q X:QP D):QP D:=fun y S=>Wr (c e S) (ds3 x y Q X) X
def ds1 (b c:EM) (e:En) (Q X:QP D):QP D:=fun x S=>(dkD S x).isSome=true∧Wr (b e S) (ds2 c e x Q X) X
theorem aYc (z:D):ds3 x y Q X z S=Wr (dsR S x y z) Q X:=rfl
theorem aYd:ds2 c e x Q X y S=Wr (c e S) (ds3 x y Q X) X:=rfl
theorem aW5:ds1 b c e Q X x S=((dkD S x).isSome=true∧Wr (b e S) (ds2 c e x Q X) X):=rfl
theorem aQn:Wr (eDSetd a b c e S) Q X=Wr (a e S) (ds1 b c e Q X) X:=by
  unfold eDSetd;rw [aAb];congr;funext x S1;rw [aAj,aW5,aAb];congr;funext y S2;rw [aAb];rfl
def dispQ (ks:List Str) (Q:QP D):QP (List D):=fun ds S=>Q (.loc S.length) (S++[.dk ((strK ks).zip ds)])
theorem aUq (ks:List Str):dispQ ks Q ds S=Q (.loc S.length) (S++[.dk ((strK ks).zip ds)]):=rfl
theorem aSm (ks:List Str):Wr (eDisp ks am e S) Q X=Wr (am e S) (dispQ ks Q) nX:=by
  unfold eDisp;rw [aAb,aE9];rfl
def rm2 (co:Option Nat) (x:D) (Q X:QP D):QP (List D):=fun xs S=>Wr (rmR co x xs S) Q X
def rm1 (co:Option Nat) (am:AM) (e:En) (Q X:QP D):QP D:=fun x S=>isLst S x=true∧Wr (am e S) (rm2 co x Q X) X
theorem aYe (co:Option Nat):rm2 co x Q X xs S=Wr (rmR co x xs S) Q X:=rfl
theorem aW6 (co:Option Nat):rm1 co am e Q X x S=(isLst S x=true∧Wr (am e S) (rm2 co x Q X) X):=rfl
theorem aUr (co:Option Nat):Wr (eRem co a am e S) Q X=Wr (a e S) (rm1 co am e Q X) X:=by
  unfold eRem;rw [aAb];congr;funext x S1;rw [aAj,aW6,aAb];rfl
def parQ3 (i j l:Nat) (e:En) (k:KS) (ds:List D) (S:Store):Prop:=match ds with
  | [x,y,z]=>k.nx (((e.set i (some x)).set j (some y)).set l (some z)) S
  | _=>False
theorem aUs {w:D}(i j l:Nat):parQ3 i j l e k [x,y,w] S=k.nx (((e.set i (some x)).set j (some y)).set l (some w)) S:=rfl
theorem ws_sPar3 (i j l:Nat):Ws (sPar3 i j l am e S) k=Wr (am e S) (parQ3 i j l e k) (k.xe e):=by
  unfold sPar3;rw [ws_sE];congr;funext ds S1
  match ds with
  | []=>rfl
  | [_]=>rfl
  | [_,_]=>rfl
  | [_,_,_]=>rfl
  | _::_::_::_::_=>rfl
def KS.th (k:KS) (n:Nat) (c:Cell):KS:=⟨fun e S=>k.nx e (S.set n c),fun d S=>k.rt d (S.set n c),fun e S=>k.bk e (S.set n c),fun e S=>k.ct e (S.set n c),fun _ _ _=>False⟩
theorem aYf (i:Nat) (c:Cell):(k.th i c).nx e S=k.nx e (S.set i c):=rfl
theorem aYg (i:Nat) (c:Cell):(k.th i c).rt d S=k.rt d (S.set i c):=rfl
theorem aYh (i:Nat) (c:Cell):(k.th i c).xe e=nX:=rfl
def dvQ (Q:QP (List D)):QP D:=fun d S=>match fkD S d with
  | some l=>Q (l.map fun kv=>kv.2) S
  | none=>False
def diQ (Q:QP (List D)):QP D:=fun d S=>match fkD S d with
  | some l=>Q (l.map fun kv => .tup [keyOf kv.1,kv.2]) S
  | none=>False
def dkQ (Q:QP (List D)):QP D:=fun d S=>match fkD S d with
  | some l=>Q (l.map fun kv=>keyOf kv.1) S
  | none=>False
def tkQ (Q:QP (List D)):QP D:=fun d S=>match fsD S d with
  | some l=>Q (l.map intsD) S
  | none=>False
theorem aW7:Wr (iDv a e S) QL X=Wr (a e S) (dvQ QL) X:=by
  unfold iDv;rw [aAb];congr;funext d S1;unfold dvQ;cases fkD S1 d<;>rfl
theorem aW8:Wr (iDi a e S) QL X=Wr (a e S) (diQ QL) X:=by
  unfold iDi;rw [aAb];congr;funext d S1;unfold diQ;cases fkD S1 d<;>rfl
theorem aW9:Wr (iDk a e S) QL X=Wr (a e S) (dkQ QL) X:=by
  unfold iDk;rw [aAb];congr;funext d S1;unfold dkQ;cases fkD S1 d<;>rfl
theorem aWA:Wr (iTk a e S) QL X=Wr (a e S) (tkQ QL) X:=by
  unfold iTk;rw [aAb];congr;funext d S1;unfold tkQ;cases fsD S1 d<;>rfl
def t1Q (Q:QP D):QP D:=fun d S=>match intsK d with
  | some k=>Q (.loc S.length) (S++[.ts [k]])
  | none=>False
theorem aUt:Wr (eTs1 a e S) Q X=Wr (a e S) (t1Q Q) X:=by
  unfold eTs1;rw [aAb];congr;funext d S1;unfold t1Q;cases intsK d<;>rfl
def tu2 (x:D) (Q X:QP D):QP D:=fun y S=>Wr (uR S x y) Q X
def tu1 (b:EM) (e:En) (Q X:QP D):QP D:=fun x S=>(tsD S x).isSome=true∧Wr (b e S) (tu2 x Q X) X
theorem aYi:tu2 x Q X y S=Wr (uR S x y) Q X:=rfl
theorem aWB:tu1 b e Q X x S=((tsD S x).isSome=true∧Wr (b e S) (tu2 x Q X) X):=rfl
theorem aUu:Wr (eTsU a b e S) Q X=Wr (a e S) (tu1 b e Q X) X:=by
  unfold eTsU;rw [aAb];congr;funext x S1;rw [aAj,aWB,aAb];rfl
def dcQ (Q:QP D):QP (List (List Int)):=fun acc S=>Q (.loc S.length) (S++[.ts acc])
def dct1 (g:Tg) (t:TM) (a:EM) (e:En) (Q X:QP D):QC:=fun p S=>Wr (dcR (okC p) g t a e p.1 [] S) (dcQ Q) X
theorem aWC (g:Tg) (p:List D×Option Nat):dct1 g t a e Q X p S=Wr (dcR (okC p) g t a e p.1 [] S) (dcQ Q) X:=rfl
theorem aYj (acc:List (List Int)):dcQ Q acc S=Q (.loc S.length) (S++[.ts acc]):=rfl
theorem aUv (i:CM) (g:Tg) (vs:List Nat):Wr (eDcT i g t a vs e S) Q X=Wr (i e S) (dct1 g t a (wipeE e vs) Q X) X:=by
  unfold eDcT;rw [aAb];congr;funext p S1;rw [aAb];rfl
def dy (I:QP (List (List Int))) (acc:List (List Int)):QP D:=fun y S=>match intsK y with
  | some l=>acc.length<sizeLine∧I (addK acc l) S
  | none=>False
def dt1 (a:EM) (e:En) (I:QP (List (List Int))) (acc:List (List Int)):QP Bool:=fun b S=>match b with
  | true=>Wr (a e S) (dy I acc) nX
  | false=>I acc S
theorem aYk (I:QP (List (List Int))) (acc:List (List Int)):dt1 a e I acc true S=Wr (a e S) (dy I acc) nX:=rfl
theorem aYl (I:QP (List (List Int))) (acc:List (List Int)):dt1 a e I acc false S=I acc S:=rfl
def dgg (t:TM) (a:EM) (I:QP (List (List Int))) (acc:List (List Int)) (S:Store):En→Prop:=fun e=>Wr (t e S) (dt1 a e I acc) nX
theorem aYm (I:QP (List (List Int))) (acc:List (List Int)):dgg t a I acc S e=Wr (t e S) (dt1 a e I acc) nX:=rfl
end
end G
namespace G
open PySem
section
variable {QD:QP D}{X:QP D}{e:En}{S:Store}{a b:EM}{x y:D}{f:FM}{gD:List D→List D→List D}
def eqOb (neg:Bool) (Q:QP D):QP D:=fun y S1=>match y with
  | .bl b=>Q (.bl (if neg=true then !b else b)) S1
  | _=>False
theorem aWD (z:Bool):eqOb true QD (.bl z) S=QD (.bl (!z)) S:=rfl
theorem aWE (z:Bool):eqOb false QD (.bl z) S=QD (.bl z) S:=rfl
def eqO2 (neg:Bool) (cn:Nat) (f:FM) (gD:List D→List D→List D) (x:D) (Q X:QP D):QP D:=fun y S=>(isCn cn S x=true∧isCn cn S y=true)∧Wr (f (gD [x,y] []) S) (eqOb neg Q) X
theorem aS_ (neg:Bool) (cn:Nat):eqO2 neg cn f gD x QD X y S=((isCn cn S x=true∧isCn cn S y=true)∧Wr (f (gD [x,y] []) S) (eqOb neg QD) X):=rfl
def eqO1 (neg:Bool) (cn:Nat) (f:FM) (gD:List D→List D→List D) (b:EM) (e:En) (Q X:QP D):QP D:=fun x S=>Wr (b e S) (eqO2 neg cn f gD x Q X) X
theorem aTa (neg:Bool) (cn:Nat):eqO1 neg cn f gD b e QD X x S=Wr (b e S) (eqO2 neg cn f gD x QD X) X:=rfl
theorem aUw (neg:Bool) (cn:Nat):Wr (eEqO neg cn f gD a b e S) QD X=Wr (a e S) (eqO1 neg cn f gD b e QD X) X:=by
  unfold eEqO
  rw [aAb]
  congr;funext x S1
  rw [aAb,aTa]
  congr;funext y S2
  rw [aS_]
  unfold eqO
  rw [aAj]
  congr 1
  unfold eqOf
  rw [aAb]
  congr;funext z S3
  cases z<;>rfl
def in2 (x:D) (Q X:QP D):QP (List D):=fun xs S=>Wr (insR x xs S) Q X
def in1 (am:AM) (e:En) (Q X:QP D):QP D:=fun x S=>isLst S x=true∧Wr (am e S) (in2 x Q X) X
theorem aYn {xs:List D}:in2 x QD X xs S=Wr (insR x xs S) QD X:=rfl
theorem aWF {am:AM}:in1 am e QD X x S=(isLst S x=true∧Wr (am e S) (in2 x QD X) X):=rfl
theorem aUx {am:AM}:Wr (eIns a am e S) QD X=Wr (a e S) (in1 am e QD X) X:=by
  unfold eIns;rw [aAb];congr;funext x S1;rw [aAj,aWF,aAb];rfl
end
end G
namespace G
open PySem
section
variable {QD:QP D}{X:QP D}{e:En}{S:Store}{a b:EM}{mp:AM}{k:KS}
def txQ (kvs:List (Str×D)) (Q X:QP D):QP D:=fun x S1=>match x with
  | .str z=>Wr (lf (kvs.lookup z) S1) Q X
  | _=>False
theorem aUy (kvs:List (Str×D)) (z:Str):txQ kvs QD X (.str z) S=Wr (lf (kvs.lookup z) S) QD X:=rfl
theorem aQo (kvs:List (Str×D)):Wr (eTabIx kvs a e S) QD X=Wr (a e S) (txQ kvs QD X) X:=by
  unfold eTabIx
  rw [aAb]
  congr;funext x S1
  cases x<;>rfl
def tiQ (neg:Bool) (kvs:List (Str×D)) (Q:QP D):QP D:=fun x S1=>match x with
  | .str z=>Q (.bl (if neg=true then !(kvs.lookup z).isSome else (kvs.lookup z).isSome)) S1
  | _=>False
theorem aYo (kvs:List (Str×D)) (z:Str):tiQ true kvs QD (.str z) S=QD (.bl (!(kvs.lookup z).isSome)) S:=rfl
theorem aYp (kvs:List (Str×D)) (z:Str):tiQ false kvs QD (.str z) S=QD (.bl (kvs.lookup z).isSome) S:=rfl
theorem aQp (neg:Bool) (kvs:List (Str×D)):Wr (eTabIn neg kvs a e S) QD X=Wr (a e S) (tiQ neg kvs QD) X:=by
  unfold eTabIn
  rw [aAb]
  congr;funext x S1
  cases x<;>rfl
def tc2 (i:Nat) (q:Nat×FM) (e:En) (k:KS):QP (List D):=fun ds S2=>ds.length=q.1∧Wr (q.2 ds S2) k.rt (k.xe (e.set i none))
theorem aYq (i n:Nat) (f:FM) (ds:List D):tc2 i (n,f) e k ds S=(ds.length=n∧Wr (f ds S) k.rt (k.xe (e.set i none))):=rfl
def tc1 (i:Nat) (o:Option (Nat×FM)) (mp:AM) (e:En) (k:KS) (S1:Store):Prop:=match o with
  | some q=>i<e.length∧Wr (mp e S1) (tc2 i q e k) (k.xe (e.set i none))
  | none=>False
theorem aUz (i:Nat) (q:Nat×FM):tc1 i (some q) mp e k S=(i<e.length∧Wr (mp e S) (tc2 i q e k) (k.xe (e.set i none))):=rfl
def tcQ (i:Nat) (fs:List (Str×Nat×FM)) (mp:AM) (e:En) (k:KS):QP D:=fun x S1=>match x with
  | .str z=>tc1 i (fs.lookup z) mp e k S1
  | _=>False
theorem aMR (i:Nat) (fs:List (Str×Nat×FM)) (z:Str):tcQ i fs mp e k (.str z) S=tc1 i (fs.lookup z) mp e k S:=rfl
theorem ws_guard {p:Prop} [Decidable p] {r:SRes}:Ws (if p then r else .stuck) k=(p∧Ws r k):=by
  by_cases h:p
  · rw [if_pos h];simp [h]
  · rw [if_neg h];exact (eq_false fun z=>h z.1).symm
theorem ws_sTabCall (i:Nat) (fs:List (Str×Nat×FM)):Ws (sTabCall i fs b mp e S) k=Wr (b e S) (tcQ i fs mp e k) (k.xe e):=by
  unfold sTabCall
  rw [ws_sE]
  congr;funext x S1
  cases x with
  | str z=>
    rw [aMR]
    dsimp only
    cases fs.lookup z with
    | none=>rfl
    | some q=>
      rw [aUz]
      dsimp only
      rw [ws_guard,ws_sE]
      congr;funext ds S2
      rw [ws_guard,ws_sE]
      rfl
  | _=>rfl
def sn3 (x:D) (i:Option Int) (Q X:QP D):QP (Option Int):=fun j S=>Wr (slR S x i j) Q X
def sn2 (x:D) (h:OM) (e:En) (Q X:QP D):QP (Option Int):=fun i S=>Wr (h e S) (sn3 x i Q X) X
def sn1 (l h:OM) (e:En) (Q X:QP D):QP D:=fun x S=>Wr (l e S) (sn2 x h e Q X) X
theorem aYr (x:D) (i j:Option Int):sn3 x i QD X j S=Wr (slR S x i j) QD X:=rfl
theorem aYs (x:D) (h:OM) (i:Option Int):sn2 x h e QD X i S=Wr (h e S) (sn3 x i QD X) X:=rfl
theorem aYt (x:D) (l h:OM):sn1 l h e QD X x S=Wr (l e S) (sn2 x h e QD X) X:=rfl
theorem aU0 (l h:OM):Wr (eSlN a l h e S) QD X=Wr (a e S) (sn1 l h e QD X) X:=by
  unfold eSlN;simp only [aAb];rfl
end
end G
namespace G
open PySem
section
variable {QD:QP D}{QL:QP (List D)}{X:QP D}{e:En}{S:Store}{a b:EM}{am:AM}{ds:List D}{x y:D}{f:FM}{gD:List D→List D→List D}
def zmQ (Q:QP (List D)) (X:QP D):QP (List D):=fun ds S=>Wr (zipRM ds S) Q X
theorem aYu:zmQ QL X ds S=Wr (zipRM ds S) QL X:=rfl
theorem aSn:Wr (iZipM am e S) QL X=Wr (am e S) (zmQ QL X) X:=by unfold iZipM;rw [aAb];rfl
theorem aQq (l m:List D):zipRM [.tup l, .lst m] S = .ok (zipD l m) S:=rfl
def ex2 (neg:Bool) (cn:Nat) (f:FM) (gD:List D→List D→List D) (x:D) (Q X:QP D):QP D:=fun y S=>Wr (eqX neg cn f gD x y S) Q X
theorem aYv (neg:Bool) (cn:Nat):ex2 neg cn f gD x QD X y S=Wr (eqX neg cn f gD x y S) QD X:=rfl
def ex1 (neg:Bool) (cn:Nat) (f:FM) (gD:List D→List D→List D) (b:EM) (e:En) (Q X:QP D):QP D:=fun x S=>Wr (b e S) (ex2 neg cn f gD x Q X) X
theorem aYw (neg:Bool) (cn:Nat):ex1 neg cn f gD b e QD X x S=Wr (b e S) (ex2 neg cn f gD x QD X) X:=rfl
theorem aU1 (neg:Bool) (cn:Nat):Wr (eEqX neg cn f gD a b e S) QD X=Wr (a e S) (ex1 neg cn f gD b e QD X) X:=by
  unfold eEqX
  rw [aAb]
  congr;funext x S1
  rw [aAb];rfl
end
end G
namespace G
open PySem
section
variable {QD:QP D}{X Y:QP D}{e:En}{S S':Store}{am:AM}{f:FM}{xs:List D}{d:D}
def cnQ (f:FM) (Q X:QP D):QP (List D):=fun xs S=>Wr (noF f xs S) Q X
theorem aYx (f:FM):cnQ f QD X xs S=Wr (noF f xs S) QD X:=rfl
theorem aQr (f:FM):Wr (eCallN f am e S) QD X=Wr (am e S) (cnQ f QD X) X:=by unfold eCallN;rw [aAb];rfl
end
end G
namespace G
open PySem
section
variable {QD:QP D}{X Y Q:QP D}{a b:EM}{e:En}{S S':Store}{x y:D}
def ku2 (x:D) (Q X:QP D):QP D:=fun y S=>Wr (uK S x y) Q X
def ku1 (b:EM) (e:En) (Q X:QP D):QP D:=fun x S=>(dkD S x).isSome=true∧Wr (b e S) (ku2 x Q X) X
theorem aYy:ku2 x Q X y S=Wr (uK S x y) Q X:=rfl
theorem aWG:ku1 b e Q X x S=((dkD S x).isSome=true∧Wr (b e S) (ku2 x Q X) X):=rfl
theorem aU2:Wr (eDkU a b e S) Q X=Wr (a e S) (ku1 b e Q X) X:=by
  unfold eDkU;rw [aAb];congr;funext x S1;rw [aAj,aWG,aAb];rfl
theorem aWH:Wr (eNx a e S) Q X=Wr (a e S) Q nX:=by unfold eNx;rw [aE9]
def sa3 (x:D) (l:Option Int) (Q X:QP D):QP (Option Int):=fun h S=>Wr (lf (slDA S x l h) S) Q X
def sa2 (x:D) (h:OM) (e:En) (Q X:QP D):QP (Option Int):=fun i S=>Wr (h e S) (sa3 x i Q X) X
def sa1 (l h:OM) (e:En) (Q X:QP D):QP D:=fun x S=>Wr (l e S) (sa2 x h e Q X) X
theorem aYz (l:Option Int) (z:Option Int):sa3 x l QD X z S=Wr (lf (slDA S x l z) S) QD X:=rfl
theorem aY0 (h:OM) (i:Option Int):sa2 x h e QD X i S=Wr (h e S) (sa3 x i QD X) X:=rfl
theorem aY1 (l h:OM):sa1 l h e QD X x S=Wr (l e S) (sa2 x h e QD X) X:=rfl
theorem aU3 (l h:OM):Wr (eSlA a l h e S) QD X=Wr (a e S) (sa1 l h e QD X) X:=by
  unfold eSlA;simp only [aAb];rfl
end
end G
namespace G
open PySem
section
variable {X Q:QP D}{a:EM}{e:En}{S:Store}{x:D}
def s5Q (Q:QP D):QP D:=fun y S=>match y with
  | .int i=>(0≤i∧i<2 ^ 63)∧Q (.int i) S
  | _=>False
theorem aU4 (i:Int):s5Q Q (.int i) S=((0≤i∧i<2 ^ 63)∧Q (.int i) S):=rfl
theorem aSo {r:Res D}:Wr (lenOf r) Q X=Wr r (s5Q Q) X:=by
  unfold lenOf;rw [aAb];congr;funext y S1
  cases y with
  | int i=>show Wr (if _ then _ else _) _ _=_;rw [aAj];rfl
  | _=>rfl
def lnoQ (cn:Nat) (f:FM) (gD:List D→List D→List D) (Q X:QP D):QP D:=fun x S=>isCn cn S x=true∧Wr (f (gD [x] []) S) (s5Q Q) X
theorem aWI (cn:Nat) (f:FM) (gD:List D→List D→List D):lnoQ cn f gD Q X x S=(isCn cn S x=true∧Wr (f (gD [x] []) S) (s5Q Q) X):=rfl
theorem aSp (cn:Nat) (f:FM) (gD:List D→List D→List D):Wr (eLenO cn f gD a e S) Q X=Wr (a e S) (lnoQ cn f gD Q X) X:=by
  unfold eLenO aCons aNil
  rw [aAb,aAb]
  congr;funext x S1
  show Wr (if isCn cn S1 x=true then lenOf (f (gD [x] []) S1) else .stuck) Q X=_
  rw [aAj,aSo];rfl
theorem aQs {r:Res D}:Wr (strOfT r) Q X=Wr r (s4Q Q) X:=by
  unfold strOfT;rw [aAb];congr;funext y S1;cases y<;>rfl
theorem aQt (cn:Nat) (f:FM) (gD:List D→List D→List D):Wr (eReprO cn f gD a e S) Q X=Wr (a e S) (soQ cn f gD Q X) X:=by
  unfold eReprO aCons aNil
  rw [aAb,aAb]
  congr;funext x S1
  show Wr (if isCn cn S1 x=true then strOfT (f (gD [x] []) S1) else .stuck) Q X=_
  rw [aAj,aQs];rfl
def dnP (Q:QP D) (S:Store) (o:Option (List (L2.Key×D))):Prop:=match o with
  | some l=>Q (.loc S.length) (S++[.dk l])
  | none=>False
def dnQ (Q:QP D):QP D:=fun d S=>dnP Q S (dkV S d)
theorem aQu:Wr (eDictN a e S) Q X=Wr (a e S) (dnQ Q) X:=by
  unfold eDictN
  rw [aAb]
  congr;funext d S1
  unfold dnQ
  rw [aAb]
  cases dkV S1 d<;>rfl
end
end G
namespace G
open PySem L2 PySem.Spec
section
variable {e:En}{S:Store}{a:EM}{m:SM}{k:KS}{QQ:List D×Option Nat→Store→Prop}{X:QP D}
def rvcQ (Q:List D×Option Nat→Store→Prop):QP D:=fun d S1=>match d with
  | .loc n=>match S1[n]? with
    | some (.lst l)=>Q (l.reverse,some n) S1
    | _=>False
  | _=>False
theorem aU5:Wr (iRev a e S) QQ X=Wr (a e S) (rvcQ QQ) X:=by
  unfold iRev;rw [aAb];congr;funext x S1
  cases x with
  | loc n=>
    show Wr (match S1[n]? with
      | some (.lst l) => .ok (l.reverse,some n) S1
      | _ => .stuck) _ _=rvcQ QQ (.loc n) S1
    unfold rvcQ
    dsimp only
    cases S1[n]? with
    | none=>rfl
    | some q=>cases q<;>rfl
  | _=>rfl
def forrQ (g:GM) (m:SM) (e:En) (k:KS):QC:=fun p S=>Ws (fiC (okR p) g m p.1 e S) k
theorem aU6 (g:GM) (p:List D×Option Nat):forrQ g m e k p S=Ws (fiC (okR p) g m p.1 e S) k:=rfl
theorem ws_sForR (i:CM) (g:GM):Ws (sForR i g m e S) k=Wr (i e S) (forrQ g m e k) (k.xe e):=ws_sE
end
end G
namespace G
open PySem L2 PySem.Spec
section
variable {e:En}{S:Store}{a mk mv:EM}{m n:SM}{k:KS}{t:TM}{x y z:D}{Q X:QP D}
def onNx (q:En→Store→Prop):KS:=⟨q,fun _ _=>False,fun _ _=>False,fun _ _=>False,fun _ _ _=>False⟩
def KS.fin (k:KS) (n:SM):KS:=⟨fun e S=>Ws (n e S) (onNx k.nx),fun _ _=>False,fun _ _=>False,fun _ _=>False,fun x e S=>match x with
  | .exc cn fs=>Ws (n e S) (onNx fun e2 S2=>k.ex (.exc cn fs) e2 S2)
  | _=>False⟩
theorem aU7:(k.fin n).nx e S=Ws (n e S) (onNx k.nx):=rfl
theorem aU8 (cn:Nat) (fs:List (Nat×D)):(k.fin n).ex (.exc cn fs) e S=Ws (n e S) (onNx fun e2 S2=>k.ex (.exc cn fs) e2 S2):=rfl
theorem aU9 (q:En→Store→Prop):(onNx q).nx e S=q e S:=rfl
theorem ws_sFin:Ws (sFin m n e S) k=Ws (m e S) (k.fin n):=by
  unfold sFin
  cases m e S with
  | nxt e1 S1=>
    show Ws (match n e1 S1 with
      | .nxt e2 S2 => .nxt e2 S2
      | _ => .stuck) k=Ws (n e1 S1) (onNx k.nx)
    cases n e1 S1<;>rfl
  | ret d S1=>rfl
  | brk e1 S1=>rfl
  | cnt e1 S1=>rfl
  | stuck=>rfl
  | exc y e1 S1=>
    cases y with
    | exc cn fs=>
      show Ws (match n e1 S1 with
        | .nxt e2 S2 => .exc (.exc cn fs) e2 S2
        | _ => .stuck) k=Ws (n e1 S1) (onNx fun e2 S2=>k.ex (.exc cn fs) e2 S2)
      cases n e1 S1<;>rfl
    | _=>rfl
def noQ (QQ:List D×Option Nat→Store→Prop):QP (List D):=fun ds S=>QQ (ds,none) S
theorem aY2 {QQ:List D×Option Nat→Store→Prop}(ds:List D):noQ QQ ds S=QQ (ds,none) S:=rfl
theorem aWJ {QQ:List D×Option Nat→Store→Prop}(i:AM):Wr (iNo i e S) QQ X=Wr (i e S) (noQ QQ) X:=by
  unfold iNo;rw [aAb];rfl
def dckQ (Q:QP D):QP (List (Key×D)):=fun acc S=>Q (.loc S.length) (S++[.dk acc])
def dck1 (g:Tg) (t:TM) (mk mv:EM) (e:En) (Q X:QP D):QC:=fun p S=>Wr (dkR (okC p) g t mk mv e p.1 [] S) (dckQ Q) X
theorem aWK (g:Tg) (p:List D×Option Nat):dck1 g t mk mv e Q X p S=Wr (dkR (okC p) g t mk mv e p.1 [] S) (dckQ Q) X:=rfl
theorem aWL (acc:List (Key×D)):dckQ Q acc S=Q (.loc S.length) (S++[.dk acc]):=rfl
theorem aUA (i:CM) (g:Tg) (vs:List Nat):Wr (eDcK i g t mk mv vs e S) Q X=Wr (i e S) (dck1 g t mk mv (wipeE e vs) Q X) X:=by
  unfold eDcK;rw [aAb];congr;funext p S1;rw [aAb];rfl
def dky (y:D) (I:QP (List (Key×D))) (acc:List (Key×D)):QP D:=fun z S=>match keyD y with
  | some l=>acc.length<sizeLine∧I (putKD acc l z) S
  | none=>False
def dkk (mv:EM) (e:En) (I:QP (List (Key×D))) (acc:List (Key×D)):QP D:=fun y S=>Wr (mv e S) (dky y I acc) nX
theorem aY3 (I:QP (List (Key×D))) (acc:List (Key×D)):dkk mv e I acc y S=Wr (mv e S) (dky y I acc) nX:=rfl
def dkt1 (mk mv:EM) (e:En) (I:QP (List (Key×D))) (acc:List (Key×D)):QP Bool:=fun b S=>match b with
  | true=>Wr (mk e S) (dkk mv e I acc) nX
  | false=>I acc S
theorem aWM (I:QP (List (Key×D))) (acc:List (Key×D)):dkt1 mk mv e I acc true S=Wr (mk e S) (dkk mv e I acc) nX:=rfl
theorem aWN (I:QP (List (Key×D))) (acc:List (Key×D)):dkt1 mk mv e I acc false S=I acc S:=rfl
def dkgg (t:TM) (mk mv:EM) (I:QP (List (Key×D))) (acc:List (Key×D)) (S:Store):En→Prop:=fun e=>Wr (t e S) (dkt1 mk mv e I acc) nX
theorem aWO (I:QP (List (Key×D))) (acc:List (Key×D)):dkgg t mk mv I acc S e=Wr (t e S) (dkt1 mk mv e I acc) nX:=rfl
def m0N1 (cn:Nat) (f:FM) (gD:List D→List D→List D) (Q:QP D):QP D:=fun x S0=>isCn cn S0 x=true∧Wr (f (gD [x] []) S0) Q nX
theorem aWP (cn:Nat) (f:FM) (gD:List D→List D→List D) (x:D):m0N1 cn f gD Q x S=(isCn cn S x=true∧Wr (f (gD [x] []) S) Q nX):=rfl
theorem aO9 (cn:Nat) (f:FM) (gD:List D→List D→List D):Wr (eMeth0N cn f gD a e S) Q X=Wr (a e S) (m0N1 cn f gD Q) X:=by
  unfold eMeth0N;rw [aAb];congr;funext x S1
  unfold m0N1
  rw [aAj]
  unfold noF
  rw [aE9]
end
end G
namespace G
open PySem L2 PySem.Spec
section
variable {e:En}{S:Store}{a b:EM}{f:FM}{gD:List D→List D→List D}{x y:D}{QD X:QP D}
def eqLQ2 (neg:Bool) (cn:Nat) (f:FM) (gD:List D→List D→List D) (x:D) (Q:QP D):QP D:=fun y S=>eqLP cn f gD x y S∧Q (.bl (!neg)) S
def eqLQ1 (neg:Bool) (cn:Nat) (f:FM) (gD:List D→List D→List D) (b:EM) (e:En) (Q X:QP D):QP D:=fun x S=>Wr (b e S) (eqLQ2 neg cn f gD x Q) X
theorem aQv (neg:Bool) (cn:Nat):eqLQ1 neg cn f gD b e QD X x S=Wr (b e S) (eqLQ2 neg cn f gD x QD) X:=rfl
theorem aQw (neg:Bool) (cn:Nat):eqLQ2 neg cn f gD x QD y S=(eqLP cn f gD x y S∧QD (.bl (!neg)) S):=rfl
theorem aUB (neg:Bool) (cn:Nat):Wr (eEqL neg cn f gD a b e S) QD X=Wr (a e S) (eqLQ1 neg cn f gD b e QD X) X:=by
  unfold eEqL
  rw [aAb]
  congr;funext x S1
  rw [aAb,aQv]
  congr;funext y S2
  rw [aQw]
  unfold eqL
  by_cases h:eqLP cn f gD x y S2
  · rw [if_pos h]
    exact propext ⟨fun q=>⟨h,q⟩,fun q=>q.2⟩
  · rw [if_neg h]
    exact propext ⟨fun q=>q.elim,fun q=>absurd q.1 h⟩
end
end G
namespace G
open PySem L2 PySem.Spec
section
variable {e:En}{S:Store}{a b:EM}{f:FM}{gD:List D→List D→List D}{x y:D}{QD X:QP D}
def eqMQ2 (neg:Bool) (cn:Nat) (f:FM) (gD:List D→List D→List D) (x:D) (Q X:QP D):QP D:=fun y S=>Wr (eqM neg cn f gD x y S) Q X
def eqMQ1 (neg:Bool) (cn:Nat) (f:FM) (gD:List D→List D→List D) (b:EM) (e:En) (Q X:QP D):QP D:=fun x S=>Wr (b e S) (eqMQ2 neg cn f gD x Q X) X
theorem aQx (neg:Bool) (cn:Nat):eqMQ1 neg cn f gD b e QD X x S=Wr (b e S) (eqMQ2 neg cn f gD x QD X) X:=rfl
theorem aUC (neg:Bool) (cn:Nat):eqMQ2 neg cn f gD x QD X y S=Wr (eqM neg cn f gD x y S) QD X:=rfl
theorem aUD (neg:Bool) (cn:Nat):Wr (eEqM neg cn f gD a b e S) QD X=Wr (a e S) (eqMQ1 neg cn f gD b e QD X) X:=by
  unfold eEqM
  rw [aAb]
  congr;funext x S1
  rw [aAb,aQx]
  congr
def inOQ2 (cn:Nat) (f:FM) (gD:List D→List D→List D) (x:D) (Q X:QP D):QP D:=fun y S=>Wr (inO cn f gD x y S) Q X
def inOQ1 (cn:Nat) (f:FM) (gD:List D→List D→List D) (b:EM) (e:En) (Q X:QP D):QP D:=fun x S=>Wr (b e S) (inOQ2 cn f gD x Q X) X
theorem aQy (cn:Nat):inOQ1 cn f gD b e QD X x S=Wr (b e S) (inOQ2 cn f gD x QD X) X:=rfl
theorem aUE (cn:Nat):inOQ2 cn f gD x QD X y S=Wr (inO cn f gD x y S) QD X:=rfl
theorem aUF (cn:Nat):Wr (eInO cn f gD a b e S) QD X=Wr (a e S) (inOQ1 cn f gD b e QD X) X:=by
  unfold eInO
  rw [aAb]
  congr;funext x S1
  rw [aAb,aQy]
  congr
def s6Q (Q:QP D):QP D:=fun y S=>match y with
  | .int i=>(0≤i∧i<2 ^ 63)∧Q (.bl (i != 0)) S
  | _=>False
theorem aUG {Q:QP D}(i:Int):s6Q Q (.int i) S=((0≤i∧i<2 ^ 63)∧Q (.bl (i != 0)) S):=rfl
theorem aSq {Q:QP D}{r:Res D}:Wr (bolOf r) Q X=Wr r (s6Q Q) X:=by
  unfold bolOf;rw [aAb];congr;funext y S1
  cases y with
  | int i=>show Wr (if _ then _ else _) _ _=_;rw [aAj];rfl
  | _=>rfl
def bnoQ (cn:Nat) (f:FM) (gD:List D→List D→List D) (Q X:QP D):QP D:=fun x S=>isCn cn S x=true∧Wr (f (gD [x] []) S) (s6Q Q) X
theorem aWQ {Q:QP D}(cn:Nat) (f:FM) (gD:List D→List D→List D):bnoQ cn f gD Q X x S=(isCn cn S x=true∧Wr (f (gD [x] []) S) (s6Q Q) X):=rfl
theorem aQz {Q:QP D}(cn:Nat) (f:FM) (gD:List D→List D→List D):Wr (eBoolO cn f gD a e S) Q X=Wr (a e S) (bnoQ cn f gD Q X) X:=by
  unfold eBoolO aCons aNil
  rw [aAb,aAb]
  congr;funext x S1
  show Wr (if isCn cn S1 x=true then bolOf (f (gD [x] []) S1) else .stuck) Q X=_
  rw [aAj,aSq];rfl
end
end G
namespace G
open PySem L2 PySem.Spec
section
variable {e:En}{S:Store}{a:EM}{am:AM}{x y:D}{QD X:QP D}
def xt2 (x:D) (Q X:QP D):QP (List D):=fun xs S=>Wr (extR x xs S) Q X
def xt1 (am:AM) (e:En) (Q X:QP D):QP D:=fun x S=>isLst S x=true∧Wr (am e S) (xt2 x Q X) X
theorem aY4 {xs:List D}:xt2 x QD X xs S=Wr (extR x xs S) QD X:=rfl
theorem aY5:xt1 am e QD X x S=(isLst S x=true∧Wr (am e S) (xt2 x QD X) X):=rfl
theorem aUH:Wr (eExt a am e S) QD X=Wr (a e S) (xt1 am e QD X) X:=by
  unfold eExt;rw [aAb];congr;funext x S1;rw [aAj,aAb];rfl
def zlQ (Q:QP (List D)) (X:QP D):QP (List D):=fun ds S=>Wr (zipRL ds S) Q X
theorem aY6 {QL:QP (List D)}{ds:List D}:zlQ QL X ds S=Wr (zipRL ds S) QL X:=rfl
theorem aSr {QL:QP (List D)}:Wr (iZipL am e S) QL X=Wr (am e S) (zlQ QL X) X:=by unfold iZipL;rw [aAb];rfl
theorem aUI (l m:List D):zipRL [.lst l, .tup m] S = .ok (zipD l m) S:=rfl
end
end G
namespace G
open PySem L2 PySem.Spec
section
variable {e:En}{S:Store}{a b:EM}{f:FM}{gD:List D→List D→List D}{x y:D}{QD X:QP D}
def eqTQ2 (neg:Bool) (cn:Nat) (f:FM) (gD:List D→List D→List D) (x:D) (Q X:QP D):QP D:=fun y S=>Wr (eqT neg cn f gD x y S) Q X
def eqTQ1 (neg:Bool) (cn:Nat) (f:FM) (gD:List D→List D→List D) (b:EM) (e:En) (Q X:QP D):QP D:=fun x S=>Wr (b e S) (eqTQ2 neg cn f gD x Q X) X
theorem aQ0 (neg:Bool) (cn:Nat):eqTQ1 neg cn f gD b e QD X x S=Wr (b e S) (eqTQ2 neg cn f gD x QD X) X:=rfl
theorem aUJ (neg:Bool) (cn:Nat):eqTQ2 neg cn f gD x QD X y S=Wr (eqT neg cn f gD x y S) QD X:=rfl
theorem aUK (neg:Bool) (cn:Nat):Wr (eEqT neg cn f gD a b e S) QD X=Wr (a e S) (eqTQ1 neg cn f gD b e QD X) X:=by
  unfold eEqT
  rw [aAb]
  congr;funext x S1
  rw [aAb,aQ0]
  congr
end
end G
namespace G
open PySem
abbrev HL:=List (Nat×Cell)
def Sep (S:Store) (L:HL):Prop:=(∀ p,p∈L→S[p.1]? = some p.2)∧(L.map (·.1)).Nodup
section
variable {S:Store}{L L1 L2 L3:HL}{n m:Nat}{c c':Cell}
theorem Sep.get (h:Sep S L) (q:(n,c)∈L):S[n]? = some c:=h.1 _ q
theorem Sep.lt (h:Sep S L) (q:n∈L.map (·.1)):n<S.length:=by
  obtain ⟨p,hp,rfl⟩:=List.mem_map.mp q
  exact (List.getElem?_eq_some_iff.mp (h.1 p hp)).1
theorem Sep.nil:Sep S []:=⟨fun _ h=>(by cases h),by simp⟩
theorem Sep.perm (h:Sep S L) (p:L.Perm L1):Sep S L1:=⟨fun q hq=>h.1 q (p.mem_iff.mpr hq),(p.map _).nodup_iff.mp h.2⟩
theorem Sep.sub (h:Sep S L) (p:L1.Sublist L):Sep S L1:=⟨fun q hq=>h.1 q (p.subset hq),List.Nodup.sublist (p.map _) h.2⟩
theorem Sep.swap (h:Sep S (L1++(L2++L3))):Sep S (L2++(L1++L3)):=h.perm (by
  rw [← List.append_assoc,← List.append_assoc]
  exact (List.perm_append_comm).append_right _)
theorem Sep.left (h:Sep S (L1++L2)):Sep S L1:=h.sub (List.sublist_append_left _ _)
theorem Sep.right (h:Sep S (L1++L2)):Sep S L2:=h.sub (List.sublist_append_right _ _)
theorem Sep.hd (h:Sep S ((n,c)::L2)):S[n]? = some c:=h.get (by simp)
theorem Sep.newM (h:Sep S (L1++L2)) (c:Cell):Sep (S++[c]) (L1++(S.length,c)::L2):=by
  have lt:∀ i,i∈(L1++L2).map (·.1)→i<S.length:=fun i hi=>h.lt hi
  refine ⟨fun p hp => ?_,?_⟩
  · have old:p∈L1++L2→(S++[c])[p.1]? = some p.2:=fun q=>by
      rw [List.getElem?_append_left (lt p.1 (List.mem_map_of_mem q))];exact h.1 p q
    rcases List.mem_append.mp hp with hp | hp
    · exact old (List.mem_append_left _ hp)
    · rcases List.mem_cons.mp hp with rfl | hp
      · simp
      · exact old (List.mem_append_right _ hp)
  · have nd:=h.2
    rw [List.map_append] at nd ⊢
    rw [List.map_cons]
    obtain ⟨n1,n2,n3⟩:=List.nodup_append.mp nd
    refine List.nodup_append.mpr ⟨n1,List.nodup_cons.mpr ⟨fun z=>Nat.lt_irrefl _ (lt _ (by rw [List.map_append];exact List.mem_append_right _ z)),n2⟩,fun a ha b hb e => ?_⟩
    rcases List.mem_cons.mp hb with rfl | hb
    · exact Nat.lt_irrefl _ (e ▸ lt a (by rw [List.map_append];exact List.mem_append_left _ ha))
    · exact n3 a ha b hb e
theorem Sep.new0 (h:Sep S L) (c:Cell):Sep (S++[c]) ((S.length,c)::L):=Sep.newM (L1:=[]) h c
theorem Sep.app (h:Sep S L) (cs:List Cell):Sep (S++cs) L:=⟨fun p hp=>by
  rw [List.getElem?_append_left (h.lt (List.mem_map_of_mem hp))];exact h.1 p hp,h.2⟩
theorem Sep.cons (h:Sep S L) (hc:S[n]? = some c) (hn:n∉L.map (·.1)):Sep S ((n,c)::L):=⟨fun p hp=>by
  rcases List.mem_cons.mp hp with rfl | hp
  · exact hc
  · exact h.1 p hp,by rw [List.map_cons];exact List.nodup_cons.mpr ⟨hn,h.2⟩⟩
theorem Sep.keep {S':Store}(h:Sep S L) (k:∀ p,p∈L→S'[p.1]? = S[p.1]?):Sep S' L:=⟨fun p hp=>by rw [k p hp];exact h.1 p hp,h.2⟩
end
end G
local macro_rules | `(tactic| wp_walk using $ts,*) => (let es := ts.getElems; let k := (es[0]!).raw.getId; let all : Array Lean.Name := #[`G.aBh, `G.aHf, `G.aJm, `G.aJn, `G.aCR, `G.aDB, `G.aJo, `G.aJp, `G.aDS, `G.aLP, `G.aLQ, `G.aDT, `G.aFM, `G.aJq, `G.aFN, `G.aLR, `G.aHg, `G.aHh, `G.aJr, `G.aJs, `G.aFO, `G.aLS, `G.aLT, `G.aHi, `G.aLU, `G.aLV, `G.aKi, `G.aHj, `G.aLW, `G.aLX, `G.aKj, `G.aHk, `G.aLY, `G.aLZ, `G.aHl, `G.aL_, `G.aMa, `G.aHm, `G.aDU, `G.aEZ, `G.aDV, `G.aJt, `G.aJu, `G.aDb, `G.aHn, `G.aHo, `G.aHp, `G.aE_, `G.aFa, `G.aFb, `G.aJv, `G.aFP, `G.aKk, `G.aD5, `G.aKl, `G.aKm, `G.aMb, `G.aDW, `G.aMc, `G.aFc, `G.aMd, `G.aMe, `G.aHq, `G.aDX, `G.aHr, `G.aDY, `G.aMf, `G.aMg, `G.aMh, `G.aHs, `G.aMi, `G.aKn, `G.aDi, `G.aMj, `G.aCE, `G.aKo, `G.aMk, `G.aKp, `G.aKq, `G.aHt, `G.aD6, `G.aKr, `G.aCT, `G.aFQ, `G.aDl, `G.xe_s, `G.aJw, `G.aMl, `G.aMm, `G.aMn, `G.aMo, `G.aMp, `G.ws_nxt, `G.ws_sNop, `G.ws_sSeq, `G.ws_sBrk, `G.ws_sCnt, `G.aFd, `G.ws_sDrop, `G.ws_sRet, `G.ws_sRetN, `G.aMq, `G.aJx, `G.ws_sIf, `G.aHu, `G.ws_sAsg, `G.aG4, `G.ws_sSet, `G.aHv, `G.ws_sPar, `G.ws_sRaise, `G.aMr, `G.aMs, `G.aMt, `G.aMu, `G.aMv, `G.aMw, `G.aMx, `G.aMy, `G.aMz, `G.aM0, `G.aM1, `G.aM2, `G.aM3, `G.aM4, `G.aM5, `G.ws_sTry, `G.aHw, `G.ws_sFor, `G.aM6, `G.aM7, `G.aM8, `G.aM9, `G.aMA, `G.aMB, `G.ws_fi_nil, `G.aDZ, `G.aHx, `G.aHy, `G.aHz, `G.aH0, `G.aH1, `G.aH2, `G.aMC, `G.aMD, `G.aH3, `G.aH4, `G.aH5, `G.aFe, `G.aD_, `G.aDj, `G.aEa, `G.aDk, `G.aD7, `G.ly_s, `G.aKs, `G.aME, `G.lg_s, `G.aMF, `G.aMG, `G.aEb, `G.aEc, `G.aEd, `G.aFl, `G.aFf, `G.aFg, `G.aFh, `G.aEe, `G.aFi, `G.aMH, `G.aMI, `G.aKt, `G.aKu, `G.aDn, `G.aMJ, `G.aFp, `G.aEp, `G.aMK, `G.aKv, `G.aKw, `G.ws_sFldM, `G.aHE, `G.aG6, `G.aHF, `G.aFq, `G.aML, `G.aMM, `G.aFr, `G.aMN, `G.aFs, `G.aEq, `G.aEr, `G.aMO, `G.aEs, `G.aHG, `G.aMP, `G.aFt, `G.aDo, `G.aBR, `G.aB2, `G.aCF, `G.aCG, `List.take_succ_cons, `List.take_zero, `List.drop_succ_cons, `List.drop_zero, `List.getElem?_cons_zero, `List.getElem?_cons_succ, `List.set_cons_zero, `List.set_cons_succ, `List.map_cons, `List.map_nil, `List.length_cons, `List.length_nil, `List.cons_append, `List.nil_append, `List.replicate_succ, `List.replicate_zero, `List.append_nil, `true_and, `and_true, `and_self, `if_true, `ite_true, `if_false, `ite_false, `Bool.false_eq_true, `Bool.not_true, `Bool.not_false, `Bool.not_not, `decide_true, `decide_false, `decide_eq_true_eq, `not_false_eq_true, `not_true_eq_false, `reduceCtorEq, `PySem.sizeLine_eq, `Option.map_some, `Option.some.injEq, `Nat.reduceSub, `Nat.reduceAdd, `Nat.reduceLeDiff, `Nat.reduceEqDiff, `Nat.zero_add, `Nat.reduceBEq, `List.contains_cons, `List.contains_nil, `beq_self_eq_true, `Bool.true_or, `Bool.or_true, `Bool.false_or, `Bool.or_false, `List.lookup_cons, `List.lookup_nil, `Int.reduceEq, `Int.reduceNe, `Int.reduceLT, `Int.reduceLE, `Int.reduceNeg, `Int.reduceAdd, `Int.reduceSub, `Int.cast_ofNat_Int, `ne_eq, `G.aG5, `G.dGt, `G.dGe, `G.dLt, `G.dLe, `G.aEf, `G.aEg, `G.aDC, `G.aCY, `G.aHC, `G.aHD, `G.aFm, `G.aEh, `G.aFn, `G.aEi, `G.aEj, `G.aEk, `G.aEl, `G.aEm, `G.aEn, `G.aEo, `G.aBQ, `G.aEJ, `G.aFo, `G.aFj, `G.aFk, `G.aH8, `G.aH9, `G.aEI, `G.aHA, `G.aHB, `G.aDm, `G.Tn.is, `G.aWc, `G.aTS, `G.aTT, `G.aNN, `G.aWd, `G.aTU, `G.aKx, `G.aWe, `G.aKy, `G.aNO, `G.aWf, `G.aWg, `G.aTV, `G.aKz, `G.aWh, `G.aTW, `G.aK0, `G.aWi, `G.aWj, `G.aTX, `G.aK1, `G.aWk, `G.aTY, `G.aK2, `G.aTZ, `G.aT_, `G.aQa, `G.aWl, `G.aHH, `G.aWm, `G.aWn, `G.aNR, `G.aNS, `G.aNT, `G.aNU, `G.aQb, `G.aQc, `G.ws_sForC, `G.aSW, `G.aQd, `G.aSX, `G.aNV, `G.aNP, `G.aNQ, `Option.isSome_some, `G.aXQ, `G.aUa, `G.aUb, `G.aQe, `G.aO5, `G.aWo, `G.aUc, `G.aXR, `G.aSh, `G.aUd, `G.aQf, `G.aXS, `G.aQg, `G.aUe, `G.oj_s, `G.aWp, `G.aSi, `G.aUf, `G.aUg, `G.aMQ, `G.aWq, `G.aJ1, `G.aUh, `G.aXT, `G.aXU, `G.ws_sAug, `G.aSj, `G.aXV, `G.aXW, `G.aUi, `G.aO6, `G.aO7, `G.aUj, `G.aUk, `G.aQh, `G.aUl, `G.aUm, `G.aO8, `G.ws_sRaiseF, `G.aIM, `G.aWr, `G.aWs, `G.aWt, `G.aSY, `G.ws_sTryG, `G.ws_hd_nil, `G.aWu, `G.aXX, `G.ws_hd_cons, `G.aQi, `G.aK3, `G.ws_suS, `G.aSZ, `G.aWv, `G.aWw, `G.aWx, `G.ws_suN, `G.aXY, `G.aUn, `G.aUo, `G.aWy, `G.aNW, `G.aSk, `G.aXZ, `G.aQj, `G.aQk, `G.aQl, `G.aQm, `G.aX_, `G.aYa, `G.aWz, `G.aSl, `G.aUp, `G.aW0, `G.aW1, `G.aYb, `G.aW2, `G.aW3, `G.ws_sAsg3, `G.aW4, `G.ws_sAsg2, `G.ws_sFldA, `G.aYc, `G.aYd, `G.aW5, `G.aQn, `G.aUq, `G.aSm, `G.aYe, `G.aW6, `G.aUr, `G.aUs, `G.ws_sPar3, `G.aYf, `G.aYg, `G.aYh, `G.aW7, `G.aW8, `G.aW9, `G.aWA, `G.aUt, `G.aYi, `G.aWB, `G.aUu, `G.aWC, `G.aYj, `G.aUv, `G.aYk, `G.aYl, `G.aYm, `G.aWD, `G.aWE, `G.aS_, `G.aTa, `G.aUw, `G.aYn, `G.aWF, `G.aUx, `G.aQo, `G.aUy, `G.aQp, `G.aYo, `G.aYp, `G.ws_sTabCall, `G.aMR, `G.aUz, `G.aYq, `G.aYr, `G.aYs, `G.aYt, `G.aU0, `G.aYu, `G.aSn, `G.aQq, `G.aYv, `G.aYw, `G.aU1, `G.aYx, `G.aQr, `G.aYy, `G.aWG, `G.aU2, `G.aWH, `G.aYz, `G.aY0, `G.aY1, `G.aU3, `G.aU4, `G.aWI, `G.aSp, `G.aQt, `G.aQu, `G.aU5, `G.aU6, `G.ws_sForR, `G.aWP, `G.aO9, `G.aY2, `G.aWJ, `G.ws_sFin, `G.aU7, `G.aU8, `G.aU9, `G.aUA, `G.aWK, `G.aWL, `G.aWO, `G.aWM, `G.aWN, `G.aY3, `G.aQv, `G.aQw, `G.aUB, `G.aQx, `G.aUC, `G.aUD, `G.aQy, `G.aUE, `G.aUF, `G.aUG, `G.aWQ, `G.aQz, `G.aY4, `G.aY5, `G.aUH, `G.aY6, `G.aSr, `G.aUI, `G.aQ0, `G.aUJ, `G.aUK]; let cut : Nat := if k == `zstop || k == `zust then 1 else if k == `zstf || k == `zxtf then 2 else if k == `zstq then 3 else 0; let sel := all.filter fun n => !((cut == 1 && n == `G.ws_sIf) || (cut == 2 && (n == `G.ws_sIf || n == `G.ws_sFor || n == `G.ws_sForC || n == `G.ws_sForR)) || (cut == 3 && n.getString!.startsWith "ws_")); let ids : Lean.TSyntaxArray `term := sel.map fun n => ⟨(Lean.mkIdent n).raw⟩; let r1 : Lean.TSyntaxArray `term := ids ++ es.extract 1 es.size; let r2 : Lean.TSyntaxArray `term := ids ++ es.extract 2 es.size; let r0 : Lean.TSyntaxArray `term := ids ++ es; if k == `zust || k == `zuse then `(tactic| (have hq0 := $(es[1]!); simp only [$[$r2:term],*] at hq0; exact hq0)) else if k == `zxtf then `(tactic| try simp -implicitDefEqProofs only [$[$r1:term],*]) else if cut == 0 then `(tactic| try simp only [$[$r0:term],*]) else `(tactic| try simp only [$[$r1:term],*]))
namespace C
open PySem G
noncomputable section
abbrev Ls:=List (Int×Nat×List (Rat×Rat))
def lnD (ls:Ls):List (L2.Key×D):=ls.map fun x=>(.inl x.1, .loc x.2.1)
def lnH (ls:Ls):HL:=ls.map fun x=>(x.2.1, .lst (x.2.2.map rowD))
def bkH (n n1:Nat) (ls:Ls):HL:=(n, .obj 34 [(9, .loc n1)])::(n1, .dk (lnD ls))::lnH ls
def lineOf (ls:Ls) (i:Int):List (Rat×Rat):=match ls.find? fun x=>decide (x.1=i) with
  | some x=>x.2.2
  | none=>[]
structure LsOk (ls:Ls) (c m:Nat):Prop where
  nd:(ls.map (·.1)).Nodup
  len:ls.length≤c
  tot:(ls.map fun x=>x.2.2.length).sum≤c
  each:∀ x,x∈ls→0≤x.1∧∀ p,p∈x.2.2→Bt p.1 m∧0≤p.1∧Bt p.2 31∧0≤p.2∧p.2≤1
theorem LsOk.mono {ls:Ls}{c c' m m':Nat}(h:LsOk ls c m) (hc:c≤c') (hm:m≤m'):LsOk ls c' m':=
  ⟨h.nd,Nat.le_trans h.len hc,Nat.le_trans h.tot hc,fun x hx=>⟨(h.each x hx).1,fun p hp=>⟨((h.each x hx).2 p hp).1.mono hm,((h.each x hx).2 p hp).2⟩⟩⟩
theorem aUL {l:List Nat}{k:Nat}(h:k∈l):k≤l.sum:=by
  induction l with
  | nil=>cases h
  | cons a l ih=>
    rw [List.sum_cons]
    rcases List.mem_cons.mp h with rfl | h
    · omega
    · have:=ih h;omega
theorem LsOk.line {ls:Ls}{c m:Nat}(h:LsOk ls c m) {x:Int×Nat×List (Rat×Rat)}(hx:x∈ls):x.2.2.length≤c:=Nat.le_trans (aUL (List.mem_map.mpr ⟨x,hx,rfl⟩)) h.tot
def bookA (ls:Ls) (i:Int) (s r:Rat) (a:Nat):Ls:=(ls.filter fun x=>decide (x.1≠i))++(if bookL (lineOf ls i) s r = [] then [] else [(i,a,bookL (lineOf ls i) s r)])
def sumA (ls:Ls) (t:Rat) (but:Option Int):Rat:=ls.foldl (fun acc x=>if but=some x.1 then acc else acc+atT x.2.2 t) 0
def rI (q:Rat):List Int:=[q.num,(q.den:Int)]
def addQ (K:List Rat) (q:Rat):List Rat:=if q∈K then K else K++[q]
def unQ (K M:List Rat):List Rat:=M.foldl addQ K
def rkQ (K:List Rat) (t:Rat):Nat:=(K.filter fun u=>decide (u<t)).length
def sortQ (K:List Rat):List Rat:=K.mergeSort fun a b=>decide ((rkQ K a:Int)≤rkQ K b)
def behL (l:List (Rat×Rat)) (s:Rat):List Rat:=((l.filter fun p=>decide (s<p.1)).map (·.1)).foldl addQ []
def knQ (ls:Ls) (s:Rat):List Rat:=ls.foldl (fun K x=>unQ K (behL x.2.2 s)) [s]
def mostA (ls:Ls) (s:Rat) (but:Option Int):Rat:=(sortQ (knQ ls s)).foldl (fun f t=>max f (sumA ls t but)) 0
structure IsMost (f:Rat→Rat) (s M:Rat):Prop where
  nn:0≤M
  le:∀ t,s≤t→f t≤M
  at_:M=0∨∃ t,s≤t∧f t=M
theorem foldmax (f:Rat→Rat) (R:List Rat) (z:Rat):z≤R.foldl (fun g t=>max g (f t)) z∧(∀ t,t∈R→f t≤R.foldl (fun g t=>max g (f t)) z)∧(R.foldl (fun g t=>max g (f t)) z=z∨∃ t,t∈R∧f t=R.foldl (fun g t=>max g (f t)) z):=by
  induction R generalizing z with
  | nil=>exact ⟨(by show z≤z;grind),fun t ht=>(by cases ht), .inl rfl⟩
  | cons u R ih=>
    obtain ⟨h1,h2,h3⟩:=ih (max z (f u))
    rw [List.foldl_cons]
    have m1:z≤max z (f u)∧f u≤max z (f u)∧(max z (f u)=z∨max z (f u)=f u):=by
      rw [Rat.max_def];split<;>grind
    refine ⟨by grind,fun t ht => ?_,?_⟩
    · rcases List.mem_cons.mp ht with rfl | ht
      · grind
      · exact h2 t ht
    · rcases h3 with h3 | ⟨t,ht,e⟩
      · rcases m1.2.2 with e | e
        · exact .inl (h3.trans e)
        · exact .inr ⟨u,List.mem_cons_self,(h3.trans e).symm⟩
      · exact .inr ⟨t,List.mem_cons_of_mem _ ht,e⟩
theorem aOA {f:Rat→Rat}{s:Rat}{R:List Rat}(hs:s∈R) (hR:∀ t,t∈R→s≤t) (hf:∀ u t,u∈R→u≤t→(∀ v,v∈R→v≤t→v≤u)→f t=f u):IsMost f s (R.foldl (fun g t=>max g (f t)) 0):=by
  obtain ⟨h1,h2,h3⟩:=foldmax f R 0
  have top:∀ t,s≤t→∃ u,u∈R∧u≤t∧∀ v,v∈R→v≤t→v≤u:=fun t ht=>by
    have aux:∀ (l:List Rat) (z:Rat),z≤t→∃ u,(u=z∨u∈l)∧u≤t∧z≤u∧∀ v,v∈l→v≤t→v≤u:=by
      intro l
      induction l with
      | nil=>exact fun z hz=>⟨z, .inl rfl,hz,by grind,fun v hv=>by cases hv⟩
      | cons w l ih=>
        intro z hz
        by_cases c:w≤t∧z<w
        · obtain ⟨u,q1,q2,q3,q4⟩:=ih w c.1
          refine ⟨u,?_,q2,by grind,fun v hv hvt => ?_⟩
          · rcases q1 with rfl | q1
            · exact .inr List.mem_cons_self
            · exact .inr (List.mem_cons_of_mem _ q1)
          · rcases List.mem_cons.mp hv with rfl | hv
            · exact q3
            · exact q4 v hv hvt
        · obtain ⟨u,q1,q2,q3,q4⟩:=ih z hz
          refine ⟨u,?_,q2,q3,fun v hv hvt => ?_⟩
          · exact q1.imp id fun q=>List.mem_cons_of_mem _ q
          · rcases List.mem_cons.mp hv with rfl | hv
            · have:¬ z<v:=fun z=>c ⟨hvt,z⟩
              grind
            · exact q4 v hv hvt
    obtain ⟨u,q1,q2,q3,q4⟩:=aux R s ht
    exact ⟨u,q1.elim (fun e=>e ▸ hs) id,q2,q4⟩
  refine ⟨h1,fun t ht => ?_,?_⟩
  · obtain ⟨u,q1,q2,q3⟩:=top t ht
    rw [hf u t q1 q2 q3];exact h2 u q1
  · rcases h3 with h3 | ⟨t,ht,e⟩
    · exact .inl h3
    · exact .inr ⟨t,hR t ht,e⟩
end
end C
namespace C
open PySem G
noncomputable section
abbrev aBa:Mk2:=(("picked_of",none),"picked_of.<locals>.<lambda>")
structure Rv where
  z:Int
  l:Rat
  o:Option Rat
  h:Int
  c:Rat
  g:Rat
  t:Rat
structure RvB (b:Nat) (r:Rv):Prop where
  k:CliOk r.l r.o r.h
  z1:1≤r.z
  z9:r.z≤999
  bl:Bt r.l 60
  bo:∀ q,r.o=some q→Bt q 60
  bc:Bt r.c b
  bg:Bt r.g b
  bt:Bt r.t b
  c0:0≤r.c
  g0:0≤r.g
  t0:0≤r.t
theorem RvB.mono {a b:Nat}{r:Rv}(h:RvB a r) (l:a≤b):RvB b r:=⟨h.k,h.z1,h.z9,h.bl,h.bo,h.bc.mono l,h.bg.mono l,h.bt.mono l,h.c0,h.g0,h.t0⟩
def clk (now:Rat) (r:Rv):Bool:=!decide (r.l=0) && !decide (now<r.c)
def gat (now:Rat) (r:Rv):Bool:=r.o.isNone || !decide (now<r.g)
def ixs (P:Rv→Bool) (l:List Rv) (n:Nat):List Nat:=(List.range n).filter fun j=>(l[j]?).any P
def dueR (r:Rv):Rat:=dueB r.c r.z r.l
def stp (key:Nat→Rat) (b q:Nat):Nat:=if key q<key b then q else b
def fstI (key:Nat→Rat):List Nat→Nat
  | []=>0
  | p::ps=>ps.foldl (stp key) p
def low (b x:Rat):Rat:=if x<b then x else b
def spotsV (rows:List Rv):List Rat:=rows.map (·.g)++(rows.filter fun r => !decide (r.l=0)).map (·.c)
def nextD:List Rat→D
  | [] => .non
  | q::qs=>rD (qs.foldl low q)
inductive Pk where
  | least (i:Nat)
  | share (i:Nat)
  | nobody (d:D)
def Pk.d:Pk→D
  | .least i => .tup [.str "least", .int (i:Nat)]
  | .share i => .tup [.str "share", .int (i:Nat)]
  | .nobody d => .tup [.str "none",d]
def keyL (rows:List Rv) (i:Nat):Rat:=match rows[i]? with
  | some r=>dueR r
  | none=>0
def keyT (pace:Rat) (rows:List Rv) (i:Nat):Rat:=match rows[i]? with
  | some r=>max r.t pace
  | none=>0
def pickK (rows:List Rv) (now pace:Rat):Pk:=
  if ixs (clk now) rows rows.length≠[] then .least (fstI (keyL rows) (ixs (clk now) rows rows.length))
  else if ixs (gat now) rows rows.length≠[] then .share (fstI (keyT pace rows) (ixs (gat now) rows rows.length))
  else .nobody (nextD (spotsV rows))
end
end C
namespace C
open PySem G
noncomputable section
structure Se where
  num:Nat
  name:Str
  l:Rat
  o:Option Rat
  h:Int
  c:Rat
  g:Rat
  t:Rat
  line:List (Nat×Int)
structure Sv where
  r:Nat
  q:Nat
  z:Nat
  f:Nat
  w:Nat
  b:Nat
  b1:Nat
  at_:Rat
  till:Rat
  pace:Rat
  seats:List (Nat×Nat×Se)
  came:Nat
  sizes:List Int
  fates:List D
  rows:List D
  ls:Ls
def cliD (x:Se):D:=cD x.name x.l x.o x.h
def seatC (la:Nat) (x:Se):Cell:=.obj 35 [(34, .int x.num),(25,cliD x),(32,tD x.c x.g x.t),(31, .loc la)]
def seatH (p:Nat×Nat×Se):HL:=[(p.1,seatC p.2.1 p.2.2),(p.2.1, .lst (p.2.2.line.map fun q => .int q.1))]
def seatsH (l:List (Nat×Nat×Se)):HL:=l.flatMap seatH
def Sv.roomC (v:Sv):Cell:=.obj 36 [(10,rD v.at_),(45,rD v.till),(41,rD v.pace),(38, .loc v.q),(19, .int v.came),(40, .loc v.z),(21, .loc v.f),(37, .loc v.w),(13, .loc v.b)]
def Sv.H (v:Sv):HL:=(v.r,v.roomC)::(v.q, .lst (v.seats.map fun p => .loc p.1))::(v.z, .lst (v.sizes.map .int))::(v.f, .lst v.fates)::(v.w, .lst v.rows)::(seatsH v.seats++bkH v.b v.b1 v.ls)
def NameOk (nm:Str):Prop:=∀ (N:Nat) (S:Store),aBn N [.str nm] S = .ok (.bl true) S
structure SeOk (B:Nat) (x:Se):Prop where
  k:CliOk x.l x.o x.h
  nm:NameOk x.name
  bl:Bt x.l 31
  bo:∀ q,x.o=some q→Bt q 31
  bc:Bt x.c B
  bg:Bt x.g B
  bt:Bt x.t B
  c0:0≤x.c
  g0:0≤x.g
  t0:0≤x.t
  line:∀ q,q∈x.line→1≤q.2∧q.2≤999
  len:x.line.length≤40
theorem SeOk.mono {B B':Nat}{x:Se}(h:SeOk B x) (l:B≤B'):SeOk B' x:=⟨h.k,h.nm,h.bl,h.bo,h.bc.mono l,h.bg.mono l,h.bt.mono l,h.c0,h.g0,h.t0,h.line,h.len⟩
structure SvOk (B c n:Nat) (v:Sv):Prop where
  ba:Bt v.at_ B
  bu:Bt v.till B
  bp:Bt v.pace B
  a0:0≤v.at_
  u0:0≤v.till
  p0:0≤v.pace
  seats:∀ p,p∈v.seats→SeOk B p.2.2
  few:v.seats.length≤12
  nums:(v.seats.map (·.2.2.num)).Nodup
  numl:∀ p,p∈v.seats→p.2.2.num<v.came
  names:(v.seats.map (·.2.2.name)).Nodup
  sz:∀ p,p∈v.seats→∀ q,q∈p.2.2.line→v.sizes[q.1]? = some q.2
  fl:v.fates.length=v.sizes.length
  szn:v.sizes.length≤n
  rwn:v.rows.length≤n
  ls:LsOk v.ls c B
theorem SvOk.mono {B B' c c' n n':Nat}{v:Sv}(h:SvOk B c n v) (l:B≤B') (lc:c≤c') (ln:n≤n'):SvOk B' c' n' v:=
  ⟨h.ba.mono l,h.bu.mono l,h.bp.mono l,h.a0,h.u0,h.p0,fun p hp=>(h.seats p hp).mono l,h.few,h.nums,h.numl,h.names,h.sz,h.fl,Nat.le_trans h.szn ln,Nat.le_trans h.rwn ln,h.ls.mono lc l⟩
def updN (n:Nat) (f:Nat×Nat×Se→Nat×Nat×Se) (l:List (Nat×Nat×Se)):List (Nat×Nat×Se):=l.map fun p=>if p.2.2.num=n then f p else p
def askS (now:Rat) (k:Nat) (z:Int) (x:Se):Se:={ x with c:=if x.line = [] then max x.c now else x.c,line:=x.line++[(k,z)] }
def Sv.ask (v:Sv) (p:Nat×Nat×Se) (z:Int):Sv:={ v with
  seats:=updN p.2.2.num (fun q=>(q.1,q.2.1,askS v.at_ v.sizes.length z q.2.2)) v.seats
  sizes:=v.sizes++[z]
  fates:=v.fates++[.tup [.str "waits"]]
  rows:=v.rows++[.tup [.str "ask",rD v.at_, .str p.2.2.name, .int z]] }
end
end C
namespace C
open PySem G
noncomputable section
structure MostOk (l:Rat) (o:Option Rat) (h:Int):Prop where
  l0:0≤l
  l1:l≤1
  o1:∀ q,o=some q→0<q∧q≤1
  h1:1≤h
  h9:h≤99
theorem CliOk.most {l:Rat}{o:Option Rat}{h:Int}(k:CliOk l o h):MostOk l o h:=⟨k.l0,k.l1,fun q hq=>⟨(k.o1 q hq).1,(k.o1 q hq).2.1⟩,k.h1,k.h9⟩
def setS (l:Rat) (o:Option Rat) (h:Int) (x:Se):Se:={ x with l:=l,o:=o,h:=h }
def Sv.put (v:Sv) (p:Nat×Nat×Se) (l:Rat) (o:Option Rat) (h:Int):Sv:={ v with seats:=updN p.2.2.num (fun q=>(q.1,q.2.1,setS l o h q.2.2)) v.seats }
def Sv.row (v:Sv) (d:D):Sv:={ v with rows:=v.rows++[d] }
end
end C
namespace C
open PySem G
noncomputable section
def Sv.top (v:Sv):HL:=(v.r,v.roomC)::(v.q, .lst (v.seats.map fun p => .loc p.1))::(v.z, .lst (v.sizes.map .int))::(v.f, .lst v.fates)::(v.w, .lst v.rows)::seatsH v.seats
theorem Sv.H_top (v:Sv):v.H=v.top++bkH v.b v.b1 v.ls:=rfl
theorem Sv.bk {S:Store}{v:Sv}{F:HL}(hs:Sep S (v.H++F)):Sep S (bkH v.b v.b1 v.ls++(v.top++F)):=by
  rw [Sv.H_top,List.append_assoc] at hs
  exact hs.swap
def Sv.left (v:Sv) (s:Rat) (but:Option Int):Rat:=1 - mostA v.ls s but
def leastS (clock:Rat) (l:Rat) (x:Se):Se:={ x with c:=clock,l:=l }
def Had (spare:Bool) (left rate had:Rat):Prop:=(had=rate∧¬ left<rate)∨(had=left∧left<rate∧spare=true)
theorem Had.le {spare:Bool}{left rate had:Rat}(h:Had spare left rate had):had≤rate:=by
  rcases h with ⟨rfl,_⟩ | ⟨rfl,z,_⟩<;>grind
end
end C
namespace C
open PySem G
noncomputable section
def dropF (now:Rat) (line:List (Nat×Int)) (f:List D):List D:=line.foldl (fun f q=>f.set q.1 (.tup [.str "dropped",rD now])) f
def Sv.leave (v:Sv) (p:Nat×Nat×Se) (a:Nat):Sv:={ v with
  ls:=bookA v.ls p.2.2.num (max p.2.2.c v.at_) 0 a
  seats:=v.seats.filter fun q=>decide (q.2.2.num≠p.2.2.num)
  fates:=dropF v.at_ p.2.2.line v.fates
  rows:=v.rows++[.tup [.str "leave",rD v.at_, .str p.2.2.name]] }
end
end C
namespace C
open PySem G
end C
namespace C
open PySem G
noncomputable section
def headZ (x:Se):Int:=match x.line with
  | q::_=>q.2
  | []=>0
def rvS (x:Se):Rv:=⟨headZ x,x.l,x.o,x.h,x.c,x.g,x.t⟩
def wts (x:Se):Bool:=!x.line.isEmpty
def Sv.wait (v:Sv):List (Nat×Nat×Se):=v.seats.filter fun p=>wts p.2.2
def Sv.next (v:Sv) (when_:Rat):Pk:=pickK (v.wait.map fun p=>rvS p.2.2) when_ v.pace
end
end C
namespace C
open PySem G
noncomputable section
def beginS (lst:Bool) (when_ pace:Rat) (x:Se):Se:=match x.line with
  | []=>x
  | q::r => { x with line:=r,c:=if lst then dueB x.c q.2 x.l else x.c,g:=gateB x.o x.g q.2 when_,t:=if lst then x.t else rsd x.t pace q.2 (x.h:Rat) }
def wordOf (lst:Bool):Str:=if lst then "least" else "share"
def Sv.begin (v:Sv) (p:Nat×Nat×Se) (lst:Bool) (when_:Rat) (k:Nat) (z:Int) (a:Nat):Sv:={ v with
  till:=when_+(z:Rat)
  pace:=if lst then v.pace else max p.2.2.t v.pace
  seats:=updN p.2.2.num (fun q=>(q.1,a,beginS lst when_ v.pace q.2.2)) v.seats
  fates:=v.fates.set k (.tup [.str "begun",rD when_,rD (when_+(z:Rat)), .str (wordOf lst)])
  rows:=v.rows++[.tup [.str "serve",rD when_, .str p.2.2.name, .int z, .str (wordOf lst)]] }
def toldB (k:Nat) (nm:Str) (z:Int) (lst:Bool) (when_:Rat):D:=.tup [.int k, .str nm, .int z, .str (wordOf lst),rD when_]
end
end C
namespace C
open PySem G
noncomputable section
structure Ab where
  till:Rat
  pace:Rat
  seats:List Se
  rows:List D
def Ab.wait (b:Ab):List Se:=b.seats.filter wts
def Ab.next (b:Ab) (when_:Rat):Pk:=pickK (b.wait.map rvS) when_ b.pace
def updA (n:Nat) (f:Se→Se) (l:List Se):List Se:=l.map fun x=>if x.num=n then f x else x
def Ab.begin (b:Ab) (x:Se) (lst:Bool) (when_:Rat) (z:Int):Ab where
  till:=when_+(z:Rat)
  pace:=if lst then b.pace else max x.t b.pace
  seats:=updA x.num (beginS lst when_ b.pace) b.seats
  rows:=b.rows++[.tup [.str "serve",rD when_, .str x.name, .int z, .str (wordOf lst)]]
def nxtQ:List Rat→Option Rat
  | []=>none
  | q::qs=>some (qs.foldl low q)
inductive Ch where
  | serve (lst:Bool) (x:Se) (k:Nat) (z:Int)
  | wait (q:Rat)
  | none
def chOf (lst:Bool):Option Se→Ch
  | some x=>match x.line with
    | q::_ => .serve lst x q.1 q.2
    | [] => .none
  | none => .none
def Ab.ch (b:Ab) (when_:Rat):Ch:=match b.next when_ with
  | .least i=>chOf true b.wait[i]?
  | .share i=>chOf false b.wait[i]?
  | .nobody _=>match nxtQ (spotsV (b.wait.map rvS)) with
    | some q => .wait q
    | none => .none
def Ab.go (time:Rat):Nat→Ab→Rat→Option (List D×Ab)
  | 0,_,_=>none
  | n+1,b,when_=>if when_<time then match b.ch when_ with
    | .serve lst x k z=>(Ab.go time n (b.begin x lst when_ z) (when_+(z:Rat))).map fun r=>(toldB k x.name z lst when_::r.1,r.2)
    | .wait q=>Ab.go time n b q
    | .none=>some ([],b)
    else some ([],b)
def Ab.W (b:Ab):Nat:=(b.seats.map fun x=>x.line.length).sum
def Ch.w:Ch→Nat
  | .wait _=>1
  | _=>0
end
end C
namespace C
open PySem G
noncomputable section
def Sv.abs (v:Sv):Ab:=⟨v.till,v.pace,v.seats.map (·.2.2),v.rows⟩
def Sml (rs:Nat) (v:Sv):Prop:=∀ p,p∈v.seats→Bt p.2.2.l rs∧∀ q,p.2.2.o=some q→Bt q rs
end
end C
namespace C
open PySem G
noncomputable section
structure SameSv (v v':Sv):Prop where
  r:v'.r=v.r
  q:v'.q=v.q
  z:v'.z=v.z
  f:v'.f=v.f
  w:v'.w=v.w
  b:v'.b=v.b
  b1:v'.b1=v.b1
  at_:v'.at_=v.at_
  came:v'.came=v.came
  sizes:v'.sizes=v.sizes
  ls:v'.ls=v.ls
theorem SameSv.refl (v:Sv):SameSv v v:=⟨rfl,rfl,rfl,rfl,rfl,rfl,rfl,rfl,rfl,rfl,rfl⟩
theorem SameSv.trans {v v1 v2:Sv}(a:SameSv v v1) (b:SameSv v1 v2):SameSv v v2:=⟨b.r.trans a.r,b.q.trans a.q,b.z.trans a.z,b.f.trans a.f,b.w.trans a.w,b.b.trans a.b,b.b1.trans a.b1,b.at_.trans a.at_,b.came.trans a.came,b.sizes.trans a.sizes,b.ls.trans a.ls⟩
end
end C
namespace C
open PySem G
noncomputable section
def Ab.run (b:Ab) (now time:Rat):Option (List D×Ab):=Ab.go time (2*b.W+2) b (max now b.till)
end
end C
namespace C
open PySem G
end C
namespace C
open PySem G
noncomputable section
def srvC (v:Sv):Cell:=.obj 37 [(36, .loc v.r)]
def Sv.new (n:Nat):Sv:=⟨n,n+1,n+2,n+3,n+4,n+5,n+6,0,0,0,[],0,[],[],[],[]⟩
end
end C
namespace C
open PySem G
noncomputable section
structure Ow where
  d:Nat
  f:Nat
  w:Nat
  bk:Nat
  now:Rat
  till:Rat
  pace:Rat
  folk:List (Nat×Nat×Se)
  rows:List D
  came:Nat
  books:List (Int×Rat×Rat)
  ak:Option (Nat×Option Rat)
def akK:Option (Nat×Option Rat)→List (L2.Key×D)
  | none=>[]
  | some (k,none)=>[(.inr "asks", .int k)]
  | some (k,some b)=>[(.inr "asks", .int k),(.inr "begun",rD b)]
def Ow.asks (o:Ow):Option Nat:=o.ak.map (·.1)
def Ow.bg (o:Ow):Option Rat:=o.ak.bind (·.2)
def Ow.sa (o:Ow) (t:Nat):Option (Nat×Option Rat):=some (t,o.bg)
def Ow.K (o:Ow):List (L2.Key×D):=[(.inr "now",rD o.now),(.inr "till",rD o.till),(.inr "pace",rD o.pace),(.inr "folk", .loc o.f),(.inr "rows", .loc o.w),(.inr "came", .int o.came),(.inr "books", .loc o.bk)]++akK o.ak
def seK (la:Nat) (x:Se):List (L2.Key×D):=[(.inr "name", .str x.name),(.inr "id", .int x.num),(.inr "rate",rD x.l),(.inr "limit",oD x.o),(.inr "heft", .int x.h),(.inr "clock",rD x.c),(.inr "gate",rD x.g),(.inr "turn",rD x.t),(.inr "line", .loc la)]
def rowB (p:Int×Rat×Rat):D:=.tup [.int p.1,rD p.2.1,rD p.2.2]
def folkH (p:Nat×Nat×Se):HL:=[(p.1, .dk (seK p.2.1 p.2.2)),(p.2.1, .lst (p.2.2.line.map fun q => .tup [.int q.1, .int q.2]))]
def folksH (l:List (Nat×Nat×Se)):HL:=l.flatMap folkH
def Ow.H (o:Ow):HL:=(o.d, .dk o.K)::(o.f, .lst (o.folk.map fun p => .loc p.1))::(o.w, .lst o.rows)::(o.bk, .lst (o.books.map rowB))::folksH o.folk
structure OwOk (B c n:Nat) (o:Ow):Prop where
  ba:Bt o.now B
  bu:Bt o.till B
  bp:Bt o.pace B
  a0:0≤o.now
  u0:0≤o.till
  p0:0≤o.pace
  folk:∀ p,p∈o.folk→SeOk B p.2.2
  few:o.folk.length≤12
  nums:(o.folk.map (·.2.2.num)).Nodup
  names:(o.folk.map (·.2.2.name)).Nodup
  rwn:o.rows.length≤n
  bkn:o.books.length≤c
  bks:∀ b,b∈o.books→0≤b.1∧b.1<o.came∧Bt b.2.1 B∧0≤b.2.1∧Bt b.2.2 31∧0≤b.2.2∧b.2.2≤1
end
end C
namespace C
open PySem G
noncomputable section
def Ow.wait (o:Ow):List (Nat×Nat×Se):=o.folk.filter fun p=>wts p.2.2
def Ow.abs (o:Ow):Ab:=⟨o.till,o.pace,o.folk.map (·.2.2),o.rows⟩
end
end C
namespace C
open PySem G
end C
namespace C
open PySem G
end C
namespace C
open PySem G
noncomputable section
def Ow.begin (o:Ow) (p:Nat×Nat×Se) (lst:Bool) (z:Int):Ow:={ o with
  till:=o.now+(z:Rat)
  pace:=if lst then o.pace else max p.2.2.t o.pace
  folk:=updN p.2.2.num (fun q=>(q.1,q.2.1,beginS lst o.now o.pace q.2.2)) o.folk
  rows:=o.rows++[.tup [.str "serve",rD o.now, .str p.2.2.name, .int z, .str (wordOf lst)]] }
end
end C
namespace C
open PySem G
noncomputable section
structure SameO (o o':Ow):Prop where
  d:o'.d=o.d
  f:o'.f=o.f
  w:o'.w=o.w
  bk:o'.bk=o.bk
  came:o'.came=o.came
  books:o'.books=o.books
  ak:o'.ak=o.ak
theorem SameO.asks {o o':Ow}(h:SameO o o'):o'.asks=o.asks:=by unfold Ow.asks;rw [h.ak]
theorem SameO.refl (o:Ow):SameO o o:=⟨rfl,rfl,rfl,rfl,rfl,rfl,rfl⟩
theorem SameO.trans {o o1 o2:Ow}(a:SameO o o1) (b:SameO o1 o2):SameO o o2:=⟨b.d.trans a.d,b.f.trans a.f,b.w.trans a.w,b.bk.trans a.bk,b.came.trans a.came,b.books.trans a.books,b.ak.trans a.ak⟩
theorem SameO.begin (o:Ow) (p:Nat×Nat×Se) (lst:Bool) (z:Int):SameO o (o.begin p lst z):=⟨rfl,rfl,rfl,rfl,rfl,rfl,rfl⟩
end
end C
namespace C
open PySem G
noncomputable section
def sF (g:Int→Rat) (A:List Int):Rat:=A.foldr (fun i a=>g i+a) 0
theorem aJ2 (g:Int→Rat) (i:Int) (A:List Int):sF g (i::A)=g i+sF g A:=rfl
def gB (but:Option Int) (f:Int→Rat) (i:Int):Rat:=if but=some i then 0 else f i
theorem aQ1 {α:Type}(k:α→Int) (r:α→Rat) (but:Option Int) (f:Int→Rat):∀ (K:List α) (z:Rat),(∀ p,p∈K→r p=f (k p))→K.foldl (fun a p=>if but=some (k p) then a else a+r p) z=z+sF (gB but f) (K.map k)
  | [],z,_=>by show z=z+0;grind
  | p::K,z,h=>by
    rw [List.foldl_cons,aQ1 k r but f K _ fun y hy=>h y (List.mem_cons_of_mem _ hy),List.map_cons,aJ2,h p List.mem_cons_self]
    unfold gB
    split<;>grind
def RB (ls:Ls) (bs:List Rw):Prop:=∀ i t,atT (lineOf ls i) t=lawT bs i t
def bookO (bs:List Rw) (i:Int) (s r:Rat):List Rw:=(bs.filter fun b=>decide (b.1≠i∨b.2.1<s))++[(i,s,r)]
theorem RB.nil:RB [] []:=fun _ _=>rfl
def putI (K:List (Int×Rat)) (i:Int) (r:Rat):List (Int×Rat):=if (K.any fun p=>decide (p.1=i))=true then K.map (fun p=>if p.1=i then (p.1,r) else p) else K++[(i,r)]
theorem aQ2 (K:List (Int×Rat)) (i:Int) (r:Rat):(putI K i r).map (·.1)=if i∈K.map (·.1) then K.map (·.1) else K.map (·.1)++[i]:=by
  have e:(K.any fun p=>decide (p.1=i))=decide (i∈K.map (·.1)):=by
    induction K with
    | nil=>rfl
    | cons p K ih=>
      rw [List.any_cons,ih]
      by_cases c:p.1=i
      · simp [c]
      · have c':¬ i=p.1:=fun z=>c z.symm
        simp [c,c']
  unfold putI
  rw [e]
  by_cases c:i∈K.map (·.1)
  · rw [if_pos (decide_eq_true c),if_pos c,List.map_map]
    refine List.map_congr_left fun p _ => ?_
    dsimp only [Function.comp]
    split<;>rfl
  · rw [if_neg (by simpa using c),if_neg c,List.map_append];rfl
theorem aSs {K:List (Int×Rat)}{i:Int}{r:Rat}{p:Int×Rat}(h:p∈putI K i r):p=(i,r)∨(p∈K∧p.1≠i):=by
  unfold putI at h
  split at h
  · obtain ⟨q,hq,rfl⟩:=List.mem_map.mp h
    by_cases c:q.1=i
    · rw [if_pos c,c];exact .inl rfl
    · rw [if_neg c];exact .inr ⟨hq,c⟩
  · rename_i hn
    rcases List.mem_append.mp h with h | h
    · refine .inr ⟨h,fun c=>hn ?_⟩
      exact List.any_eq_true.mpr ⟨p,h,decide_eq_true c⟩
    · exact .inl (List.mem_singleton.mp h)
def knB (bs:List Rw) (t:Rat):List (Int×Rat):=bs.foldl (fun K b=>if t<b.2.1 then K else putI K b.1 b.2.2) []
theorem aSt (bs:List Rw) (b:Rw) (t:Rat):knB (bs++[b]) t=if t<b.2.1 then knB bs t else putI (knB bs t) b.1 b.2.2:=by
  unfold knB;rw [List.foldl_append];rfl
theorem aWR (bs:List Rw) (t:Rat):((knB bs t).map (·.1)).Nodup∧(∀ p,p∈knB bs t→p.2=lawT bs p.1 t)∧(∀ i,i∉(knB bs t).map (·.1)→lawT bs i t=0)∧(knB bs t).length≤bs.length:=by
  generalize hn:bs.length=n
  induction n generalizing bs with
  | zero=>
    have:bs = []:=List.length_eq_zero_iff.mp hn
    subst this
    exact ⟨by simp [knB],fun p hp=>(by simp [knB] at hp),fun i _=>rfl,Nat.le_refl _⟩
  | succ n ih=>
    rcases List.eq_nil_or_concat bs with rfl | ⟨bs',b,rfl⟩
    · simp at hn
    · rw [List.concat_eq_append] at hn ⊢
      obtain ⟨i1,i2,i3,i4⟩:=ih bs' (by simp at hn;exact hn)
      rw [aSt]
      by_cases c:t<b.2.1
      · rw [if_pos c]
        have e:∀ i,lawT (bs'++[b]) i t=lawT bs' i t:=fun i=>by rw [aHI,if_neg fun q=>q.2 c]
        exact ⟨i1,fun p hp=>by rw [e];exact i2 p hp,fun i hi=>by rw [e];exact i3 i hi,by omega⟩
      · rw [if_neg c]
        have hk:=aQ2 (knB bs' t) b.1 b.2.2
        refine ⟨?_,fun p hp => ?_,fun i hi => ?_,?_⟩
        · rw [hk]
          split
          · exact i1
          · rename_i hb
            exact List.nodup_append.mpr ⟨i1,by simp,fun x hx y hy e=>by
              rw [List.mem_singleton.mp hy] at e
              exact hb (e ▸ hx)⟩
        · rw [aHI]
          rcases aSs hp with rfl | ⟨hp,hne⟩
          · rw [if_pos ⟨rfl,c⟩]
          · rw [if_neg fun q=>hne q.1.symm];exact i2 p hp
        · rw [hk] at hi
          have h1:i∉(knB bs' t).map (·.1)∧i≠b.1:=by
            split at hi
            · rename_i hb
              exact ⟨hi,fun e=>hi (e ▸ hb)⟩
            · exact ⟨fun z=>hi (List.mem_append_left _ z),fun e=>hi (by rw [e];simp)⟩
          rw [aHI,if_neg fun q=>h1.2 q.1.symm]
          exact i3 i h1.1
        · have:((putI (knB bs' t) b.1 b.2.2).map (·.1)).length≤((knB bs' t).map (·.1)).length+1:=by
            rw [hk]
            split
            · omega
            · rw [List.length_append];exact Nat.le_refl _
          rw [List.length_map,List.length_map] at this
          omega
def sumB (bs:List Rw) (t:Rat) (but:Option Int):Rat:=(knB bs t).foldl (fun a p=>if but=some p.1 then a else a+p.2) 0
def spB (bs:List Rw) (s:Rat):List Rat:=s::(bs.filter fun b=>decide (s<b.2.1)).map (·.2.1)
def mostB (bs:List Rw) (s:Rat) (but:Option Int):Rat:=(spB bs s).foldl (fun f t=>max f (sumB bs t but)) 0
theorem aSu {bs:List Rw}{t u:Rat}(h:∀ p,p∈bs→(t<p.2.1↔u<p.2.1)):knB bs t=knB bs u:=by
  unfold knB
  generalize ([]:List (Int×Rat))=z
  induction bs generalizing z with
  | nil=>rfl
  | cons p l ih=>
    rw [List.foldl_cons,List.foldl_cons]
    have e:(if t<p.2.1 then z else putI z p.1 p.2.2)=if u<p.2.1 then z else putI z p.1 p.2.2:=by
      by_cases c:t<p.2.1
      · rw [if_pos c,if_pos ((h p List.mem_cons_self).mp c)]
      · rw [if_neg c,if_neg fun q=>c ((h p List.mem_cons_self).mpr q)]
    rw [e]
    exact ih (fun q hq=>h q (List.mem_cons_of_mem _ hq)) _
theorem aJ3 (bs:List Rw) (s:Rat) (but:Option Int):IsMost (fun t=>sumB bs t but) s (mostB bs s but):=by
  have hm:∀ t,t∈spB bs s→t=s∨s<t:=fun t ht=>by
    rcases List.mem_cons.mp ht with rfl | ht
    · exact .inl rfl
    · obtain ⟨b,hb,rfl⟩:=List.mem_map.mp ht
      exact .inr (by simpa using (List.mem_filter.mp hb).2)
  refine aOA List.mem_cons_self (fun t ht => ?_) fun u t hu hut hmx => ?_
  · rcases hm t ht with rfl | h<;>grind
  · have hsu:s≤u:=by rcases hm u hu with rfl | h<;>grind
    show sumB bs t but=sumB bs u but
    unfold sumB
    suffices ek:knB bs t=knB bs u by rw [ek]
    refine aSu fun p hp => ?_
    constructor
    · intro h;grind
    · intro h
      by_cases c:t<p.2.1
      · exact c
      · have:=hmx p.2.1 (List.mem_cons_of_mem _ (List.mem_map.mpr ⟨p,List.mem_filter.mpr ⟨hp,decide_eq_true (by grind)⟩,rfl⟩)) (by grind)
        grind
end
end C
namespace C
open PySem G
noncomputable section
def BkOk (B c:Nat) (bs:List Rw):Prop:=bs.length≤c∧∀ b,b∈bs→Bt b.2.1 B∧0≤b.2.1∧Bt b.2.2 31
theorem OwOk.bk {B c n:Nat}{o:Ow}(ok:OwOk B c n o):BkOk B c o.books:=⟨ok.bkn,fun b hb=>⟨(ok.bks b hb).2.2.1,(ok.bks b hb).2.2.2.1,(ok.bks b hb).2.2.2.2.1⟩⟩
end
end C
namespace C
open PySem G
noncomputable section
def Ow.row (o:Ow) (d:D):Ow:={ o with rows:=o.rows++[d] }
def Ow.nk (o:Ow):Nat:=o.asks.getD 0
def Ow.ask (o:Ow) (p:Nat×Nat×Se) (z:Int):Ow:={ o with
  folk:=updN p.2.2.num (fun q=>(q.1,q.2.1,askS o.now o.nk z q.2.2)) o.folk
  rows:=o.rows++[.tup [.str "ask",rD o.now, .str p.2.2.name, .int z]]
  ak:=o.sa (o.nk+1) }
end
end C
namespace C
open PySem G
noncomputable section
def Ow.put (o:Ow) (p:Nat×Nat×Se) (l:Rat) (m:Option Rat) (h:Int):Ow:={ o with folk:=updN p.2.2.num (fun q=>(q.1,q.2.1,setS l m h q.2.2)) o.folk }
def Ow.least (o:Ow) (p:Nat×Nat×Se) (r:Rat) (a:Nat):Ow:={ o with
  bk:=a
  books:=bookO o.books p.2.2.num (max p.2.2.c o.now) r
  folk:=updN p.2.2.num (fun q=>(q.1,q.2.1,leastS (max p.2.2.c o.now) r q.2.2)) o.folk
  rows:=o.rows++[.tup [.str "least",rD o.now, .str p.2.2.name,rD r]] }
end
end C
namespace C
open PySem G
noncomputable section
def Ow.leave (o:Ow) (p:Nat×Nat×Se) (a:Nat):Ow:={ o with
  bk:=a
  books:=bookO o.books p.2.2.num (max p.2.2.c o.now) 0
  folk:=o.folk.filter fun q=>decide (q.2.2.num≠p.2.2.num)
  rows:=o.rows++[.tup [.str "leave",rD o.now, .str p.2.2.name]] }
end
end C
namespace C
open PySem G
noncomputable section
def joinSe (o:Ow) (nm:Str) (l:Rat) (m:Option Rat) (h:Int):Se:=⟨o.came,nm,l,m,h,o.now,o.now,o.pace,[]⟩
def Ow.join (o:Ow) (nm:Str) (l:Rat) (m:Option Rat) (h:Int) (a a1 a2:Nat):Ow:={ o with
  bk:=a
  books:=bookO o.books o.came o.now l
  folk:=o.folk++[(a1,a2,joinSe o nm l m h)]
  came:=o.came+1
  rows:=o.rows++[.tup [.str "join",rD o.now, .str nm,rD l,oD m, .int h]] }
def Ow.new (n:Nat):Ow:=⟨n+3,n,n+1,n+2,0,0,0,[],[],0,[],none⟩
end
end C
namespace C
open PySem G
noncomputable section
inductive Dd where
  | ask (nm:Str) (z:Int)
  | leave (nm:Str)
  | weight (nm:Str) (h:Int)
  | most (nm:Str) (m:Option Rat)
  | least (nm:Str) (r:Rat)
  | join (nm:Str) (l:Rat) (m:Option Rat) (h:Int)
  | go (t:Rat)
def Dd.D:Dd→D
  | .ask nm z => .tup [.str "ask", .str nm, .int z]
  | .leave nm => .tup [.str "leave", .str nm]
  | .weight nm h => .tup [.str "weight", .str nm, .int h]
  | .most nm m => .tup [.str "most", .str nm,oD m]
  | .least nm r => .tup [.str "least", .str nm,rD r]
  | .join nm l m h => .tup [.str "join", .str nm,rD l,oD m, .int h]
  | .go t => .tup [.str "go",rD t]
def NmOk (nm:Str):Prop:=NameOk nm∧(PyData.str nm).canLay0=true
def Dd.ok (rs bt:Nat):Dd→Prop
  | .ask nm z=>NmOk nm∧1≤z∧z≤999
  | .leave nm=>NmOk nm
  | .weight nm h=>NmOk nm∧1≤h∧h≤99
  | .most nm m=>NmOk nm∧∀ q,m=some q→Bt q rs∧0<q∧q≤1
  | .least nm r=>NmOk nm∧Bt r rs∧0≤r∧r≤1
  | .join nm l m h=>NmOk nm∧Bt l rs∧0≤l∧l≤1∧(∀ q,m=some q→Bt q rs∧0<q∧q≤1)∧1≤h∧h≤99
  | .go t=>Bt t bt∧0≤t
structure Al (v:Sv) (o:Ow):Prop where
  ab:o.abs=v.abs
  now:o.now=v.at_
  came:o.came=v.came
  nk:o.nk=v.sizes.length
  rb:RB v.ls o.books
structure BO (B c:Nat) (o:Ow):Prop where
  len:o.books.length≤c
  each:∀ b,b∈o.books→0≤b.1∧b.1<o.came∧Bt b.2.1 B∧0≤b.2.1∧Bt b.2.2 31∧0≤b.2.2∧b.2.2≤1
theorem BO.mono {B B' c c':Nat}{o:Ow}(h:BO B c o) (l:B≤B') (lc:c≤c'):BO B' c' o:=⟨Nat.le_trans h.len lc,fun b hb=>by
  obtain ⟨h1,h2,h3,h4⟩:=h.each b hb
  exact ⟨h1,h2,h3.mono l,h4⟩⟩
section
variable {v:Sv}{o:Ow}{B c c' n:Nat}
theorem Al.till (a:Al v o):o.till=v.till:=congrArg Ab.till a.ab
theorem Al.pace (a:Al v o):o.pace=v.pace:=congrArg Ab.pace a.ab
theorem Al.seats (a:Al v o):o.folk.map (·.2.2)=v.seats.map (·.2.2):=congrArg Ab.seats a.ab
theorem Al.rows (a:Al v o):o.rows=v.rows:=congrArg Ab.rows a.ab
theorem Al.mem (a:Al v o) {p:Nat×Nat×Se}(hp:p∈o.folk):∃ q,q∈v.seats∧q.2.2=p.2.2:=by
  have:p.2.2∈v.seats.map (·.2.2):=by rw [← a.seats];exact List.mem_map_of_mem hp
  obtain ⟨q,h1,h2⟩:=List.mem_map.mp this
  exact ⟨q,h1,h2⟩
theorem Al.len (a:Al v o):o.folk.length=v.seats.length:=by
  have:=congrArg List.length a.seats
  rwa [List.length_map,List.length_map] at this
end
end
end C
namespace C
open PySem G
end C
namespace C
open PySem G
noncomputable section
def aEu (N:Nat):SM:=(sRet (eCall (aDL N) (nA 2 (aCons (eVar 1) (aCons (eCall (aDc N) (nA 2 (aCons (eCall (aAo N) (nA 2 (aCons (eVar 0) (aCons (eC (.int 13)) aNil)))) (aCons (eBinS ixD (eLst (aCons (eC (.int 1)) (aCons (eC (.int 1)) (aCons (eC (.int 2)) (aCons (eC (.int 3)) (aCons (eC (.int 4)) aNil)))))) (eCall (aAo N) (nA 2 (aCons (eVar 0) (aCons (eC (.int 5)) aNil))))) aNil)))) aNil)))))
def aCc (N:Nat):FM:=fnM 2 (aEu N)
def aFz (N:Nat):SM:=(sSeq (sSet 2 (eLst (aCons (eC (.str "join")) (aCons (eC (.str "ask")) (aCons (eC (.str "leave")) (aCons (eC (.str "least")) (aCons (eC (.str "most")) (aCons (eC (.str "weight")) (aCons (eC (.str "go")) (aCons (eC (.str "serve")) (aCons (eC (.str "now")) (aCons (eC (.str "share")) (aCons (eC (.str "at")) (aCons (eC (.str "none")) aNil))))))))))))))
    (sSeq (sSet 3 (eBinS ixD (eVar 2) (eCall (aAo N) (nA 2 (aCons (eVar 0) (aCons (eC (.int 12)) aNil))))))
    (sSeq (sIf (tB (eBin dGt (eCall (aAo N) (nA 2 (aCons (eVar 0) (aCons (eC (.int 3)) aNil)))) (eC (.int 0)))) (sSet 3 (eTm fJoin (eC (.str "")) (aCons (eLc (iRg1 (aCons (eBinS dAddS (eC (.int 1)) (eCall (aAo N) (nA 2 (aCons (eVar 0) (aCons (eC (.int 8)) aNil))))) aNil)) (.nm 7) tTrue (eBinS ixD (eC (.str "abcdefghijklmnopqrstuvwxyz")) (eCall (aAo N) (nA 2 (aCons (eVar 0) (aCons (eC (.int 26)) aNil))))) [7]) aNil))) sNop)
    (sSeq (sSet 4 (eBinS dAddS (eLst (aCons (eVar 3) aNil)) (eLc (iStrM (eC (.str "abcdefghijklmnopqrstuvwxyz"))) (.nm 5) tTrue (eBinS dAddS (eSl (eVar 3) oNone (oSome (eC (.int 7)))) (eVar 5)) [5])))
    (sRet (eBinS ixD (eLc (iSeq (eVar 4)) (.nm 6) (tB (eBinS (dInL true) (eVar 6) (eVar 1))) (eVar 6) [6]) (eC (.int 0))))))))
def aDt (N:Nat):FM:=fnM 8 (aFz N)
def aEK (N:Nat):SM:=(sSeq (sSet 1 (eBinS dAddS (eC (.int 1)) (eCall (aAo N) (nA 2 (aCons (eVar 0) (aCons (eC (.int 12)) aNil))))))
    (sRet (eCall (aDc N) (nA 2 (aCons (eBinS dAddS (eC (.int 1)) (eCall (aAo N) (nA 2 (aCons (eVar 0) (aCons (eCa fMin (aCons (eC (.int 6)) (aCons (eVar 1) aNil))) aNil))))) (aCons (eVar 1) aNil))))))
def aBT (N:Nat):FM:=fnM 2 (aEK N)
def D27 (q:Rat):Prop:=∃ k:Int,q*27720=(k:Rat)
theorem aY7:D27 0:=⟨0,by grind⟩
theorem aY8:D27 1:=⟨27720,by grind⟩
theorem D27.add {p q:Rat}(a:D27 p) (b:D27 q):D27 (p+q):=by
  obtain ⟨k,hk⟩:=a
  obtain ⟨l,hl⟩:=b
  exact ⟨k+l,by push_cast;grind⟩
theorem D27.sub {p q:Rat}(a:D27 p) (b:D27 q):D27 (p - q):=by
  obtain ⟨k,hk⟩:=a
  obtain ⟨l,hl⟩:=b
  exact ⟨k - l,by push_cast;grind⟩
theorem aQ3 (q:Rat):q*(q.den:Rat)=(q.num:Rat):=by
  have h:=Rat.num_divInt_den q
  have hd:(q.den:Rat)≠0:=by
    have:=q.den_nz
    exact_mod_cast this
  have h2:q=(q.num:Rat) / ((q.den:Int):Rat):=by rw [← Rat.divInt_eq_div];exact h.symm
  have e:((q.den:Int):Rat)=(q.den:Rat):=by norm_cast
  rw [e] at h2
  generalize hn:(q.num:Rat)=a at *
  generalize (q.den:Rat)=b at *
  rw [h2]
  rw [Rat.div_def,Rat.mul_assoc,Rat.inv_mul_cancel _ hd,Rat.mul_one]
theorem D27.bt {q:Rat}(h:D27 q) (q0:0≤q) (q1:q≤1):Bt q 15:=by
  obtain ⟨k,hk⟩:=h
  have e:q.num*27720=k*(q.den:Int):=by
    have h1:(q.num:Rat)=q*(q.den:Rat):=(aQ3 q).symm
    have:(((q.num*27720:Int)):Rat)=((k*(q.den:Int):Int):Rat):=by
      push_cast
      rw [h1,← hk]
      grind
    exact_mod_cast this
  have d1:(q.den:Int)∣q.num*27720:=⟨k,by rw [e];exact Int.mul_comm _ _⟩
  have d2:q.den∣q.num.natAbs*27720:=by
    have:=Int.natAbs_dvd_natAbs.mpr d1
    rw [Int.natAbs_mul] at this
    simpa using this
  have d3:q.den∣27720:=Nat.Coprime.dvd_of_dvd_mul_left q.reduced.symm d2
  have hd:q.den≤27720:=Nat.le_of_dvd (by omega) d3
  have hn0:0≤q.num:=Rat.num_nonneg.mpr q0
  have hn1:q.num≤(q.den:Int):=by
    have h1:(q.num:Rat)=q*(q.den:Rat):=(aQ3 q).symm
    have h2:(0:Rat)≤(q.den:Rat):=by exact_mod_cast Nat.zero_le _
    have h3:q*(q.den:Rat)≤1*(q.den:Rat):=Rat.mul_le_mul_of_nonneg_right q1 h2
    rw [← h1,Rat.one_mul] at h3
    exact_mod_cast h3
  refine ⟨?_,?_⟩
  · have:q.num.natAbs≤27720:=by omega
    exact Nat.lt_of_le_of_lt this (by decide)
  · exact Nat.lt_of_le_of_lt hd (by decide)
end
end C
namespace C
open PySem G
noncomputable section
structure Nx (B c n W rs bt:Nat) (v1:Sv):Prop where
  ok:∃ B' n',SvOk B' (c+1) n' v1∧B≤B'∧B'+26*v1.abs.W≤max B bt+26*W+26∧n'+v1.abs.W≤n+W+2
  sm:Sml rs v1
end
end C
namespace C
open PySem G
noncomputable section
def RowOk (d:D):Prop:=∃ (w:Str) (t:Rat) (rest:List D),d = .tup (.str w::rD t::rest)∧Cmp d∧(w="join"→∃ nm r',rest = .str nm::r'∧NmOk nm)
structure Iv (v:Sv):Prop where
  nms:∀ p,p∈v.seats→NmOk p.2.2.name
  rows:∀ d,d∈v.rows→RowOk d
end
end C
namespace C
open PySem G
end C
namespace C
open PySem G
end C
namespace C
open PySem G
end C
namespace C
open PySem G
noncomputable section
structure J (m:Nat) (v:Sv) (o:Ow):Prop where
  al:Al v o
  iv:Iv v
  sm:Sml 5 v
  ex:∃ B n,SvOk B m n v∧BO B m o∧31≤B∧B+26*v.abs.W≤31+34*m∧n+v.abs.W≤2*m
theorem J.mono {m m':Nat}{v:Sv}{o:Ow}(j:J m v o) (h:m≤m'):J m' v o:=by
  obtain ⟨B,n,k1,k2,k3,k4,k5⟩:=j.ex
  exact ⟨j.al,j.iv,j.sm,B,n,k1.mono (Nat.le_refl _) h (Nat.le_refl _),k2.mono (Nat.le_refl _) h,k3,by omega,by omega⟩
end
end C
namespace C
open PySem G
end C
namespace C
open PySem G
structure PS (S:Store) (n:Nat) (L:HL):Prop where
  P:Pool S n
  s:Sep S L
  a:n∉L.map (·.1)
theorem PS.ex {S:Store}{n:Nat}{L:HL}(h:PS S n L):∃ c,Sep S (L++[(n,c)])∧∀ S' L',Sep S' (L'++[(n,c)])→PS S' n L':=by
  obtain ⟨x,y,z,hS,r⟩:=h.P
  refine ⟨_,(h.s.cons hS h.a).perm (List.perm_append_comm (l₁:=[_])),fun S' L' h'=>⟨⟨x,y,z,h'.get (by simp),r⟩,h'.left,fun z => ?_⟩⟩
  have nd:=h'.2
  rw [List.map_append] at nd
  exact (List.nodup_append.mp nd).2.2 n z n (by simp) rfl
def F0 (s r:Nat):HL:=[(s, .obj 37 [(36, .loc r)]),(0, .tbl aBa.1 aBa.2)]
theorem PS.new {S:Store}{n:Nat}{L:HL}(h:PS S n L) (c:Cell):PS (S++[c]) n ((S.length,c)::L):=by
  obtain ⟨x,y,z,hS,r⟩:=h.P
  have hl:=(List.getElem?_eq_some_iff.mp hS).1
  refine ⟨⟨x,y,z,by rw [List.getElem?_append_left hl];exact hS,r⟩,h.s.new0 c,fun q => ?_⟩
  rw [List.map_cons] at q
  rcases List.mem_cons.mp q with q | q
  · omega
  · exact h.a q
theorem PS.perm {S:Store}{n:Nat}{L L':HL}(h:PS S n L) (p:L.Perm L'):PS S n L':=⟨h.P,h.s.perm p,fun q=>h.a ((p.map _).mem_iff.mpr q)⟩
theorem PS.sub {S:Store}{n:Nat}{L L':HL}(h:PS S n L) (p:L'.Sublist L):PS S n L':=⟨h.P,h.s.sub p,fun q=>h.a ((p.map _).subset q)⟩
theorem aQ4 (T:Store) (hT:T[0]? = some (.tbl aBa.1 aBa.2)) {S2:Store}(h2:S2=(T++[srvC (Sv.new (T.length+1)),(Sv.new (T.length+1)).roomC, .lst [], .lst [], .lst [], .lst [], .obj 34 [(9, .loc (T.length+7))], .dk []])++[.lst [], .lst [], .lst [], .dk (Ow.new (T.length+8)).K]) :
    Sep S2 ((Ow.new (T.length+8)).H++((Sv.new (T.length+1)).H++F0 T.length (T.length+1))):=by
  have hl:0<T.length:=(List.getElem?_eq_some_iff.mp hT).1
  have g:∀ i,i<12→S2[T.length+i]? = [srvC (Sv.new (T.length+1)),(Sv.new (T.length+1)).roomC, .lst [], .lst [], .lst [], .lst [], .obj 34 [(9, .loc (T.length+7))], .dk [], .lst [], .lst [], .lst [], .dk (Ow.new (T.length+8)).K][i]? := fun i hi=>by
    rw [h2,List.append_assoc,List.getElem?_append_right (by omega)]
    rw [Nat.add_sub_cancel_left];rfl
  refine ⟨fun p hp => ?_,?_⟩
  · have hp':p∈[((T.length+8+3,Cell.dk (Ow.new (T.length+8)).K):Nat×Cell),(T.length+8, .lst []),(T.length+8+1, .lst []),(T.length+8+2, .lst []),(T.length+1,(Sv.new (T.length+1)).roomC),(T.length+1+1, .lst []),(T.length+1+2, .lst []),(T.length+1+3, .lst []),(T.length+1+4, .lst []),(T.length+1+5, .obj 34 [(9, .loc (T.length+1+6))]),(T.length+1+6, .dk []),(T.length, .obj 37 [(36, .loc (T.length+1))]),(0, .tbl aBa.1 aBa.2)]:=hp
    simp only [List.mem_cons,List.not_mem_nil,or_false] at hp'
    rcases hp' with rfl | rfl | rfl | rfl | rfl | rfl | rfl | rfl | rfl | rfl | rfl | rfl | rfl
    · exact g 11 (by omega)
    · exact g 8 (by omega)
    · exact g 9 (by omega)
    · exact g 10 (by omega)
    · exact g 1 (by omega)
    · exact g 2 (by omega)
    · exact g 3 (by omega)
    · exact g 4 (by omega)
    · exact g 5 (by omega)
    · exact g 6 (by omega)
    · exact g 7 (by omega)
    · exact g 0 (by omega)
    · rw [h2,List.append_assoc,List.getElem?_append_left hl];exact hT
  · show ([T.length+8+3,T.length+8,T.length+8+1,T.length+8+2,T.length+1,T.length+1+1,T.length+1+2,T.length+1+3,T.length+1+4,T.length+1+5,T.length+1+6,T.length,0]:List Nat).Nodup
    simp only [List.nodup_cons,List.mem_cons,List.not_mem_nil,or_false,not_false_eq_true,List.nodup_nil,and_true]
    omega
theorem j0 (t a:Nat):J 0 (Sv.new t) (Ow.new a):=by
  refine ⟨⟨rfl,rfl,rfl,rfl,RB.nil⟩,⟨fun p hp=>(by cases hp),fun d hd=>(by cases hd)⟩,fun p hp=>(by cases hp),31,0,⟨bt_0.mono (by omega),bt_0.mono (by omega),bt_0.mono (by omega),by show (0:Rat)≤0;decide,by show (0:Rat)≤0;decide,by show (0:Rat)≤0;decide,fun p hp=>(by cases hp),Nat.zero_le _,List.nodup_nil,fun p hp=>(by cases hp),List.nodup_nil,fun p hp=>(by cases hp),rfl,Nat.le_refl _,Nat.le_refl _,⟨List.nodup_nil,Nat.le_refl _,Nat.le_refl _,fun x hx=>(by cases hx)⟩⟩,⟨Nat.le_refl _,fun b hb=>(by cases hb)⟩,Nat.le_refl _,Nat.le_refl _,Nat.le_refl _⟩
end C
namespace C
open PySem G
noncomputable section
def aEL (N:Nat):SM:=(sSeq (sDrop (eCall (aB3 N) (nA 1 (aCons (eVar 0) aNil))))
    (sSeq (sAsg (eVar 0) (gTp 2 (gsCons' (gN 1) (gsCons' (gN 2) gsNil))))
    (sSeq (sIf (tB (eBin dEq (eVar 2) (eC (.int 1)))) (sRet (eCa fStr (aCons (eVar 1) aNil))) sNop)
    (sRet (eJs [(eFmt (eVar 1)),(eC (.str "/")),(eFmt (eVar 2))])))))
def aBU (N:Nat):FM:=fnM 3 (aEL N)
end
end C
namespace C
open PySem G
end C
namespace C
open PySem G
end C
namespace C
open PySem G
structure J2 (b c nn:Nat) (v:Sv) (o:Ow):Prop where
  al:Al v o
  iv:Iv v
  sm:Sml 5 v
  ex:∃ B n,SvOk B c n v∧BO B c o∧31≤B∧B+26*v.abs.W≤b∧n+v.abs.W≤nn
theorem J2.mono {b b' c c' nn nn':Nat}{v:Sv}{o:Ow}(j:J2 b c nn v o) (hb:b≤b') (hc:c≤c') (hn:nn≤nn'):J2 b' c' nn' v o:=by
  obtain ⟨B,n,k1,k2,k3,k4,k5⟩:=j.ex
  exact ⟨j.al,j.iv,j.sm,B,n,k1.mono (Nat.le_refl _) hc (Nat.le_refl _),k2.mono (Nat.le_refl _) hc,k3,by omega,by omega⟩
end C
namespace C
open PySem G
end C
namespace C
open PySem G
end C
namespace C
open PySem G
noncomputable section
structure SpB (bs:List Rw) (s:Rat) (R:List Rat):Prop where
  lt:R.Pairwise (· < ·)
  mem:∀ t,t∈R↔t=s∨(s<t∧∃ b,b∈bs∧b.2.1=t)
  len:R.length≤bs.length+1
theorem insB {R:List Rat}(lt:R.Pairwise (· < ·)) {q:Rat}(hq:q∉R):(R.take (R.filter fun u=>decide (u<q)).length++[q]++R.drop (R.filter fun u=>decide (u<q)).length).Pairwise (· < ·):=by
  induction R with
  | nil=>simp
  | cons a R ih=>
    obtain ⟨p1,p2⟩:=List.pairwise_cons.mp lt
    have hqR:q∉R:=fun z=>hq (List.mem_cons_of_mem _ z)
    have hqa:q≠a:=fun z=>hq (by rw [z];exact List.mem_cons_self)
    by_cases c:a<q
    · rw [List.filter_cons,if_pos (by simpa using c),List.length_cons,List.take_succ_cons,List.drop_succ_cons]
      have h:=ih p2 hqR
      rw [List.cons_append,List.cons_append]
      refine List.pairwise_cons.mpr ⟨fun y hy => ?_,h⟩
      rcases List.mem_append.mp hy with hy | hy
      · rcases List.mem_append.mp hy with hy | hy
        · exact p1 y (List.mem_of_mem_take hy)
        · rw [List.mem_singleton.mp hy];exact c
      · exact p1 y (List.mem_of_mem_drop hy)
    · have e:((a::R).filter fun u=>decide (u<q)) = []:=List.filter_eq_nil_iff.mpr fun u hu=>by
        rcases List.mem_cons.mp hu with rfl | hu
        · simpa using c
        · have:=p1 u hu
          simp;grind
      rw [e]
      show ([]++[q]++(a::R)).Pairwise (· < ·)
      rw [List.nil_append]
      refine List.pairwise_cons.mpr ⟨fun y hy => ?_,lt⟩
      rcases List.mem_cons.mp hy with rfl | hy
      · grind
      · have:=p1 y hy;grind
theorem aUM {R:List Rat}{q t:Rat}(k:Nat):t∈R.take k++[q]++R.drop k↔t=q∨t∈R:=by
  have h:t∈R↔t∈R.take k∨t∈R.drop k:=by
    rw [← List.mem_append,List.take_append_drop]
  rw [h]
  simp only [List.mem_append,List.mem_singleton]
  constructor
  · rintro ((h | h) | h)
    · exact .inr (.inl h)
    · exact .inl h
    · exact .inr (.inr h)
  · rintro (h | h | h)
    · exact .inl (.inr h)
    · exact .inl (.inl h)
    · exact .inr h
end
end C
namespace C
open PySem G
noncomputable section
theorem SpB.nil (s:Rat):SpB [] s [s]:=⟨by simp,fun t=>by simp,Nat.le_refl _⟩
theorem SpB.ins {bs:List Rw}{s:Rat}{R:List Rat}(h:SpB bs s R) {b:Rw}(hb:s<b.2.1) (hn:b.2.1∉R):SpB (bs++[b]) s (R.take (R.filter fun u=>decide (u<b.2.1)).length++[b.2.1]++R.drop (R.filter fun u=>decide (u<b.2.1)).length):=by
  refine ⟨insB h.lt hn,fun t => ?_,?_⟩
  · rw [aUM,h.mem]
    constructor
    · rintro (e | e | ⟨e,x,hx,ex⟩)
      · subst e;exact .inr ⟨hb,b,by simp,rfl⟩
      · exact .inl e
      · exact .inr ⟨e,x,List.mem_append_left _ hx,ex⟩
    · rintro (e | ⟨e,x,hx,ex⟩)
      · exact .inr (.inl e)
      · rcases List.mem_append.mp hx with hx | hx
        · exact .inr (.inr ⟨e,x,hx,ex⟩)
        · rw [List.mem_singleton.mp hx] at ex
          exact .inl ex.symm
  · have:=h.len
    rw [List.length_append,List.length_append,List.length_take,List.length_drop,List.length_append,List.length_singleton,List.length_singleton]
    omega
end
end C
namespace C
open PySem G
noncomputable section
theorem aMS (bs:List Rw) (t:Rat) (but:Option Int):sumB bs t but=sF (gB but fun i=>lawT bs i t) ((knB bs t).map (·.1)):=by
  unfold sumB
  rw [aQ1 (fun p:Int×Rat=>p.1) (fun p=>p.2) but (fun i=>lawT bs i t) (knB bs t) 0 (aWR bs t).2.1]
  grind
theorem aQ5 {g h:Int→Rat}:∀ {A:List Int},(∀ i,i∈A→g i≤h i)→sF g A≤sF h A
  | [],_=>Rat.le_refl
  | i::A,e=>by
    rw [aJ2,aJ2]
    have a:=e i List.mem_cons_self
    have b:=aQ5 (A:=A) fun j hj=>e j (List.mem_cons_of_mem _ hj)
    grind
theorem aNX {P:Rat→Prop}(h0:P 0) {bs:List Rw}(h:∀ b,b∈bs→P b.2.2) (i:Int) (t:Rat):P (lawT bs i t):=by
  unfold lawT
  generalize (0:Rat)=z at h0
  induction bs generalizing z with
  | nil=>exact h0
  | cons b bs ih=>
    rw [List.foldl_cons]
    refine ih (fun x hx=>h x (List.mem_cons_of_mem _ hx)) _ ?_
    split
    · exact h b List.mem_cons_self
    · exact h0
theorem aTb {P:Rat→Prop}(h0:P 0) (ha:∀ p q,P p→P q→P (p+q)) {g:Int→Rat}(h:∀ i,P (g i)):∀ A:List Int,P (sF g A)
  | []=>h0
  | i::A=>by rw [aJ2];exact ha _ _ (h i) (aTb h0 ha h A)
theorem aSv {P:Rat→Prop}(h0:P 0) (ha:∀ p q,P p→P q→P (p+q)) {bs:List Rw}(h:∀ b,b∈bs→P b.2.2) (t:Rat) (but:Option Int):P (sumB bs t but):=by
  rw [aMS]
  refine aTb h0 ha (fun i => ?_) _
  unfold gB
  split
  · exact h0
  · exact aNX h0 h i t
theorem aSw {bs:List Rw}(h:∀ b,b∈bs→0≤b.2.2) (t:Rat) (but:Option Int):sumB bs t but≤sumB bs t none:=by
  rw [aMS,aMS]
  refine aQ5 fun i _ => ?_
  have:=aNX (P:=fun q=>0≤q) (by decide) h i t
  unfold gB
  rw [if_neg (show ¬ (none=some i) by simp)]
  split
  · exact this
  · exact Rat.le_refl
theorem aQ6 {P:Rat→Prop}(h0:P 0) (ha:∀ p q,P p→P q→P (p+q)) {bs:List Rw}(h:∀ b,b∈bs→P b.2.2) (s:Rat) (but:Option Int):P (mostB bs s but):=by
  rcases (aJ3 bs s but).at_ with e | ⟨t,_,e⟩
  · rw [e];exact h0
  · rw [← e];exact aSv h0 ha h t but
structure WI (o:Ow):Prop where
  wh:∀ t,o.now≤t→sumB o.books t none≤1
  bn:∀ b,b∈o.books→0≤b.2.2
  bd:∀ b,b∈o.books→D27 b.2.2
  fd:∀ p,p∈o.folk→D27 p.2.2.l
theorem WI.most {o:Ow}(w:WI o) {s:Rat}(hs:o.now≤s) (but:Option Int):mostB o.books s but≤1:=by
  rcases (aJ3 o.books s but).at_ with e | ⟨t,ht,e⟩
  · rw [e];decide
  · rw [← e]
    have h1:=aSw w.bn t but
    have h2:=w.wh t (by grind)
    show sumB o.books t but≤1
    grind
theorem WI.left {o:Ow}(w:WI o) {s:Rat}(hs:o.now≤s) (but:Option Int):0≤1 - mostB o.books s but∧1 - mostB o.books s but≤1∧D27 (1 - mostB o.books s but)∧Bt (1 - mostB o.books s but) 15:=by
  have h1:=w.most hs but
  have h2:=(aJ3 o.books s but).nn
  have h3:D27 (1 - mostB o.books s but):=aY8.sub (aQ6 aY7 (fun _ _=>D27.add) w.bd s but)
  have a:0≤1 - mostB o.books s but:=by grind
  have b:1 - mostB o.books s but≤1:=by grind
  exact ⟨a,b,h3,h3.bt a b⟩
theorem WI.keep {o o1:Ow}(w:WI o) (e1:o1.books=o.books) (e2:o.now≤o1.now) (e3:∀ p,p∈o1.folk→∃ q,q∈o.folk∧q.2.2.l=p.2.2.l):WI o1:=by
  refine ⟨fun t ht => ?_,by rw [e1];exact w.bn,by rw [e1];exact w.bd,fun p hp => ?_⟩
  · rw [e1];exact w.wh t (by grind)
  · obtain ⟨q,hq,e⟩:=e3 p hp
    rw [← e];exact w.fd q hq
theorem WI.new (a:Nat):WI (Ow.new a):=⟨fun t _=>by show (0:Rat)≤1;decide,fun b hb=>(by cases hb),fun b hb=>(by cases hb),fun p hp=>(by cases hp)⟩
structure J3 (b c nn:Nat) (v:Sv) (o:Ow):Prop where
  al:Al v o
  iv:Iv v
  sm:Sml 15 v
  wi:WI o
  ex:∃ B n,SvOk B c n v∧BO B c o∧31≤B∧B+26*v.abs.W≤b∧n+v.abs.W≤nn
theorem J3.mono {b b' c c' nn nn':Nat}{v:Sv}{o:Ow}(j:J3 b c nn v o) (hb:b≤b') (hc:c≤c') (hn:nn≤nn'):J3 b' c' nn' v o:=by
  obtain ⟨B,n,k1,k2,k3,k4,k5⟩:=j.ex
  exact ⟨j.al,j.iv,j.sm,j.wi,B,n,k1.mono (Nat.le_refl _) hc (Nat.le_refl _),k2.mono (Nat.le_refl _) hc,k3,by omega,by omega⟩
end
end C
namespace C
open PySem G
noncomputable section
def Dpt (k:Nat) (d:D):Prop:=∃ p,d.toP=some p∧p.canLay0=true∧p.depth≤k
theorem Dpt.mono {k l:Nat}{d:D}(h:Dpt k d) (e:k≤l):Dpt l d:=by
  obtain ⟨p,a,b,c⟩:=h
  exact ⟨p,a,b,Nat.le_trans c e⟩
structure Nx0 (B c n W:Nat) (v1:Sv):Prop where
  ok:SvOk B (c+1) (n+1) v1
  sm:Sml 15 v1
  w:v1.abs.W≤W
theorem Nx0.nx {B c n W bt:Nat}{v1:Sv}(h:Nx0 B c n W v1):Nx B c n W 15 bt v1:=⟨⟨B,n+1,h.ok,Nat.le_refl _,by have:=h.w;omega,by have:=h.w;omega⟩,h.sm⟩
theorem PS.app {S:Store}{n:Nat}{L:HL}(h:PS S n L) (c:List Cell):PS (S++c) n L:=⟨h.P.app _,h.s.app _,h.a⟩
end
end C
namespace C
open PySem G
noncomputable section
structure RpOk (m k:Nat) (d:D):Prop where
  ex:∃ p,d.toP=some p∧p.showable=true∧p.leavesShort 1921=true∧p.hasDict=false∧p.depth≤k∧p.bulk≤m
theorem RpOk.mono {m m' k k':Nat}{d:D}(h:RpOk m k d) (l:m≤m') (l':k≤k'):RpOk m' k' d:=by
  obtain ⟨p,a,b,c,e,f,g⟩:=h
  exact ⟨p,a,b,c,e,Nat.le_trans f l',Nat.le_trans g l⟩
end
end C
namespace C
open PySem G
noncomputable section
structure FOk (F:HL) (s r:Nat):Prop where
  s:(s,Cell.obj 37 [(36, .loc r)])∈F
  t:((0,Cell.tbl aBa.1 aBa.2):Nat×Cell)∈F
theorem FOk.srv {F:HL}{s r:Nat}(h:FOk F s r) {v:Sv}(hr:v.r=r):(s,srvC v)∈F:=by unfold srvC;rw [hr];exact h.s
theorem FOk.app {F:HL}{s r:Nat}(h:FOk F s r) (L:HL):FOk (F++L) s r:=⟨List.mem_append_left _ h.s,List.mem_append_left _ h.t⟩
theorem FOk.cons {F:HL}{s r:Nat}(h:FOk F s r) (x:Nat×Cell):FOk (x::F) s r:=⟨List.mem_cons_of_mem _ h.s,List.mem_cons_of_mem _ h.t⟩
theorem FOk.left {F:HL}{s r:Nat}(h:FOk F s r) (L:HL):FOk (L++F) s r:=⟨List.mem_append_right _ h.s,List.mem_append_right _ h.t⟩
theorem FOk.get {F:HL}{s r:Nat}(h:FOk F s r) {S:Store}{v:Sv}{L:HL}(hr:v.r=r) (hs:Sep S (L++F)):S[s]? = some (srvC v):=hs.get (List.mem_append_right _ (h.srv hr))
theorem aY9 {v:Sv}{o:Ow}(j:J 0 v o) (w:WI o):J3 31 0 0 v o:=by
  obtain ⟨B,n,k1,k2,k3,k4,k5⟩:=j.ex
  exact ⟨j.al,j.iv,fun p hp=>⟨(j.sm p hp).1.mono (by omega),fun q hq=>((j.sm p hp).2 q hq).mono (by omega)⟩,w,B,n,k1,k2,k3,by omega,by omega⟩
end
end C
namespace C
open PySem G
noncomputable section
structure BL (o:Ow):Prop where
  lt:∀ p,p∈o.folk→∀ t,o.now≤t→p.2.2.c≤t→lawT o.books p.2.2.num t=p.2.2.l
  ex:∀ p,p∈o.folk→∃ b,b∈o.books∧b.1=(p.2.2.num:Int)∧¬ o.now<b.2.1
theorem BL.keep {o o1:Ow}(w:BL o) (e1:o1.books=o.books) (e2:o.now≤o1.now) (e3:∀ p,p∈o1.folk→∃ q,q∈o.folk∧q.2.2.num=p.2.2.num∧q.2.2.l=p.2.2.l∧q.2.2.c≤p.2.2.c):BL o1:=by
  refine ⟨fun p hp t h1 h2 => ?_,fun p hp => ?_⟩
  · obtain ⟨q,hq,g1,g2,g3⟩:=e3 p hp
    rw [e1,← g1,← g2]
    exact w.lt q hq t (by grind) (by grind)
  · obtain ⟨q,hq,g1,g2,g3⟩:=e3 p hp
    obtain ⟨b,hb,h1,h2⟩:=w.ex q hq
    exact ⟨b,by rw [e1];exact hb,by rw [h1,g1],by grind⟩
theorem BL.new (a:Nat):BL (Ow.new a):=⟨fun p hp=>(by cases hp),fun p hp=>(by cases hp)⟩
end
end C
namespace C
open PySem G
noncomputable section
def Gh (v:Sv):Prop:=∃ S s r,Sep S (v.H++F0 s r)∧v.r=r
theorem aWS:Gh (Sv.new 2):=by
  have h:=aQ4 [.tbl aBa.1 aBa.2] rfl rfl
  exact ⟨_,_,_,h.right,rfl⟩
structure JG (b c nn:Nat) (o:Ow):Prop where
  ex:∃ v,J3 b c nn v o∧Gh v
theorem JG.new (a:Nat):JG 31 0 0 (Ow.new a):=⟨Sv.new 2,aY9 (j0 2 a) (WI.new a),aWS⟩
theorem JG.mono {b b' c c' nn nn':Nat}{o:Ow}(j:JG b c nn o) (hb:b≤b') (hc:c≤c') (hn:nn≤nn'):JG b' c' nn' o:=by
  obtain ⟨v,h,g⟩:=j.ex
  exact ⟨v,h.mono hb hc hn,g⟩
end
end C
namespace C
open PySem G
noncomputable section
inductive LR where
  | join (t:Rat) (nm:Str) (l:Rat) (o:Option Rat) (h:Int)
  | ask (t:Rat) (nm:Str) (z:Int)
  | leave (t:Rat) (nm:Str)
  | least (t:Rat) (nm:Str) (r:Rat)
  | most (t:Rat) (nm:Str) (m:Option Rat)
  | weight (t:Rat) (nm:Str) (h:Int)
  | serve (t:Rat) (nm:Str) (z:Int) (b:Bool)
def LR.D:LR→D
  | .join t nm l o h => .tup [.str "join",rD t, .str nm,rD l,oD o, .int h]
  | .ask t nm z => .tup [.str "ask",rD t, .str nm, .int z]
  | .leave t nm => .tup [.str "leave",rD t, .str nm]
  | .least t nm r => .tup [.str "least",rD t, .str nm,rD r]
  | .most t nm m => .tup [.str "most",rD t, .str nm,oD m]
  | .weight t nm h => .tup [.str "weight",rD t, .str nm, .int h]
  | .serve t nm z b => .tup [.str "serve",rD t, .str nm, .int z, .str (wordOf b)]
def LR.t:LR→Rat
  | .join t .. | .ask t .. | .leave t .. | .least t .. | .most t .. | .weight t .. | .serve t .. => t
def LR.nm:LR→Str
  | .join _ n .. | .ask _ n .. | .leave _ n .. | .least _ n .. | .most _ n .. | .weight _ n .. | .serve _ n .. => n
structure Rse where
  name:Str
  l:Rat
  o:Option Rat
  h:Int
  c:Rat
  g:Rat
  t:Rat
  sz:List Int
def rse (x:Se):Rse:=⟨x.name,x.l,x.o,x.h,x.c,x.g,x.t,x.line.map (·.2)⟩
structure RSZc where
  seats:List Rse
  pace:Rat
def RSZc.names (s:RSZc):List Str:=s.seats.map (·.name)
def updR (nm:Str) (f:Rse→Rse) (l:List Rse):List Rse:=l.map fun x=>if x.name=nm then f x else x
def serveR (t:Rat) (z:Int) (b:Bool) (pace:Rat) (x:Rse):Rse:={ x with sz:=x.sz.tail,c:=if b then dueB x.c z x.l else x.c,g:=gateB x.o x.g z t,t:=if b then x.t else rsd x.t pace z (x.h:Rat) }
def askR (t:Rat) (z:Int) (x:Rse):Rse:={ x with c:=if x.sz = [] then max x.c t else x.c,sz:=x.sz++[z] }
def RSZc.step (s:RSZc):LR→RSZc
  | .join t nm l o h=>⟨s.seats++[⟨nm,l,o,h,t,t,s.pace,[]⟩],s.pace⟩
  | .ask t nm z=>⟨updR nm (askR t z) s.seats,s.pace⟩
  | .leave _ nm=>⟨s.seats.filter fun x=>decide (x.name≠nm),s.pace⟩
  | .least t nm r=>⟨updR nm (fun x => { x with c:=max x.c t,l:=r }) s.seats,s.pace⟩
  | .most _ nm m=>⟨updR nm (fun x => { x with o:=m }) s.seats,s.pace⟩
  | .weight _ nm h=>⟨updR nm (fun x => { x with h:=h }) s.seats,s.pace⟩
  | .serve t nm z b=>⟨updR nm (serveR t z b s.pace) s.seats,if b then s.pace else max (((s.seats.find? fun x=>decide (x.name=nm)).map (·.t)).getD s.pace) s.pace⟩
def RSZc.okR (s:RSZc):LR→Prop
  | .join _ nm l o h=>nm∉s.names∧Bt l 15∧(∀ q,o=some q→Bt q 15)∧CliOk l o h
  | .ask _ nm z=>nm∈s.names∧1≤z∧z≤999
  | .leave _ nm=>nm∈s.names
  | .least _ nm r=>nm∈s.names∧Bt r 15∧0≤r∧r≤1
  | .most _ nm m=>nm∈s.names∧∀ q,m=some q→Bt q 15∧0<q∧q≤1
  | .weight _ nm h=>nm∈s.names∧1≤h∧h≤99
  | .serve _ nm z b=>1≤z∧z≤999∧∃ x,x∈s.seats∧x.name=nm∧(b=true→x.l≠0)∧∃ r,x.sz=z::r
def RSZc.run (s:RSZc) (l:List LR):RSZc:=l.foldl RSZc.step s
def RSZc.Ok:RSZc→List LR→Prop
  | _,[]=>True
  | s,r::l=>s.okR r∧RSZc.Ok (s.step r) l
theorem RSZc.Ok.left:∀ {l m:List LR}{s:RSZc},RSZc.Ok s (l++m)→RSZc.Ok s l
  | [],_,_,_=>trivial
  | _::_,_,_,h=>⟨h.1,RSZc.Ok.left h.2⟩
def Ab.rs (b:Ab):RSZc:=⟨b.seats.map rse,b.pace⟩
def rs0:RSZc:=⟨[],0⟩
structure LgA (B:Nat) (lr:List LR) (b:Ab) (now:Rat):Prop where
  rows:b.rows=lr.map LR.D
  st:rs0.run lr=b.rs
  ok:RSZc.Ok rs0 lr
  srt:(lr.map LR.t).Pairwise (· ≤ ·)
  le:∀ r,r∈lr→r.t≤now
  bt:∀ r,r∈lr→Bt r.t B∧0≤r.t∧NmOk r.nm
theorem LgA.mono {B B':Nat}{lr:List LR}{b:Ab}{now:Rat}(h:LgA B lr b now) (l:B≤B'):LgA B' lr b now:=⟨h.rows,h.st,h.ok,h.srt,h.le,fun r hr=>⟨(h.bt r hr).1.mono l,(h.bt r hr).2⟩⟩
structure AO (B:Nat) (b:Ab):Prop where
  seats:∀ x,x∈b.seats→SeOk B x∧Bt x.l 15∧(∀ q,x.o=some q→Bt q 15)∧NmOk x.name
  nums:(b.seats.map (·.num)).Nodup
  names:(b.seats.map (·.name)).Nodup
  bp:Bt b.pace B
theorem AO.mono {B B':Nat}{b:Ab}(h:AO B b) (l:B≤B'):AO B' b:=⟨fun x hx=>⟨(h.seats x hx).1.mono l,(h.seats x hx).2⟩,h.nums,h.names,h.bp.mono l⟩
end
end C
namespace C
open PySem G
end C
namespace C
open PySem G
noncomputable section
def GhO (o:Ow):Prop:=∃ S F,Sep S (o.H++F)
structure SJ (b c nn:Nat) (v:Sv):Prop where
  ex:∃ o,J3 b c nn v o∧GhO o
structure Tw (b c nn:Nat) (v u:Sv):Prop where
  ex:∃ o,J3 b c nn v o∧J3 b c nn u o∧GhO o
  ft:v.fates=u.fates
theorem Tw.l {b c nn:Nat}{v u:Sv}(t:Tw b c nn v u):SJ b c nn v:=by
  obtain ⟨o,h,_,g⟩:=t.ex
  exact ⟨o,h,g⟩
theorem Tw.rt {b c nn:Nat}{v u:Sv}(t:Tw b c nn v u):SJ b c nn u:=by
  obtain ⟨o,_,h,g⟩:=t.ex
  exact ⟨o,h,g⟩
theorem Tw.mono {b b' c c' nn nn':Nat}{v u:Sv}(j:Tw b c nn v u) (hb:b≤b') (hc:c≤c') (hn:nn≤nn'):Tw b' c' nn' v u:=by
  obtain ⟨o,h,h',g⟩:=j.ex
  exact ⟨⟨o,h.mono hb hc hn,h'.mono hb hc hn,g⟩,j.ft⟩
theorem SJ.mono {b b' c c' nn nn':Nat}{v:Sv}(j:SJ b c nn v) (hb:b≤b') (hc:c≤c') (hn:nn≤nn'):SJ b' c' nn' v:=by
  obtain ⟨o,h,g⟩:=j.ex
  exact ⟨o,h.mono hb hc hn,g⟩
theorem Tw.ab {b c nn:Nat}{v u:Sv}(t:Tw b c nn v u):v.abs=u.abs:=by
  obtain ⟨o,h,h',_⟩:=t.ex
  rw [← h.al.ab,← h'.al.ab]
theorem Tw.at_ {b c nn:Nat}{v u:Sv}(t:Tw b c nn v u):v.at_=u.at_:=by
  obtain ⟨o,h,h',_⟩:=t.ex
  rw [← h.al.now,← h'.al.now]
theorem Tw.rows {b c nn:Nat}{v u:Sv}(t:Tw b c nn v u):v.rows=u.rows:=congrArg Ab.rows t.ab
structure Bd (B b c nn:Nat) (v:Sv):Prop where
  ex:∃ n,SvOk B c n v∧n+v.abs.W≤nn
  b31:31≤B
  w:B+26*v.abs.W≤b
theorem SJ.bd {b c nn:Nat}{v:Sv}(j:SJ b c nn v):∃ B,Bd B b c nn v:=by
  obtain ⟨o,h,_⟩:=j.ex
  obtain ⟨B,n,k1,k2,k3,k4,k5⟩:=h.ex
  exact ⟨B,⟨n,k1,k5⟩,k3,k4⟩
theorem Tw.bd {b c nn:Nat}{v u:Sv}(j:Tw b c nn v u):∃ B,Bd B b c nn v∧Bd B b c nn u:=by
  have ea:=j.ab
  obtain ⟨B,⟨n,k1,k2⟩,k3,k4⟩:=j.l.bd
  obtain ⟨B',⟨n',k1',k2'⟩,k3',k4'⟩:=j.rt.bd
  rw [← ea] at k4'
  rw [← ea] at k2'
  refine ⟨max B B',⟨⟨n,k1.mono (by omega) (Nat.le_refl _) (Nat.le_refl _),k2⟩,by omega,by omega⟩,⟨⟨n',k1'.mono (by omega) (Nat.le_refl _) (Nat.le_refl _),by rw [← ea];exact k2'⟩,by omega,by rw [← ea];omega⟩⟩
end
end C
namespace C
open PySem G
noncomputable section
def lnN (l:List Se):List Nat:=l.flatMap fun x=>x.line.map (·.1)
def wtD:D:=.tup [.str "waits"]
def bgD (b:Rat) (z:Int) (lst:Bool):D:=.tup [.str "begun",rD b,rD (b+(z:Rat)), .str (wordOf lst)]
def dpD (t:Rat):D:=.tup [.str "dropped",rD t]
structure Wt (l:List Se) (f:List D):Prop where
  nd:(lnN l).Nodup
  at_:∀ k,k∈lnN l→f[k]? = some wtD
def FtK (d:D):Prop:=d=wtD∨(∃ b z lst,Bt b 4000∧1≤z∧z≤(999:Int)∧d=bgD b z lst)∨∃ t,d=dpD t
structure FtP (m:Rat) (f0 f:List D):Prop where
  new:∀ (k:Nat) b z lst,f[k]? = some (bgD b z lst)→b<m→f0[k]? = some (bgD b z lst)
  old:∀ (k:Nat) b z lst,f0[k]? = some (bgD b z lst)→f[k]? = some (bgD b z lst)
theorem FtP.rf (m:Rat) (f:List D):FtP m f f:=⟨fun _ _ _ _ h _=>h,fun _ _ _ _ h=>h⟩
def RowT (m:Rat) (d:D):Prop:=∃ (w:Str) (t:Rat) (rest:List D),d = .tup (.str w::rD t::rest)∧m≤t∧Bt t 4000
structure Past (m:Rat) (R:List D) (f0:List D) (v:Sv):Prop where
  now:m≤v.at_
  rows:∃ ext,v.rows=R++ext∧∀ d,d∈ext→RowT m d
  wt:Wt v.abs.seats v.fates
  ft:FtP m f0 v.fates
  k:∀ d,d∈v.fates→FtK d
  len:f0.length≤v.fates.length
theorem Past.start {m:Rat}{R f0:List D}{v:Sv}(h:Past m R f0 v):Past v.at_ v.rows v.fates v:=⟨Rat.le_refl,⟨[],by simp,fun d hd=>by cases hd⟩,h.wt,FtP.rf _ _,h.k,Nat.le_refl _⟩
end
end C
namespace C
open PySem G
end C
namespace C
open PySem G
noncomputable section
theorem SJ.sm {b c nn:Nat}{v:Sv}(j:SJ b c nn v):Sml 15 v:=by
  obtain ⟨o,h,_⟩:=j.ex
  exact h.sm
theorem SJ.iv {b c nn:Nat}{v:Sv}(j:SJ b c nn v):Iv v:=by
  obtain ⟨o,h,_⟩:=j.ex
  exact h.iv
end
end C
namespace C
open PySem G
noncomputable section
def aBM:List (Str×D):=[("join", .tup [.str "name", .str "least", .str "most", .str "weight"]),("ask", .tup [.str "name", .str "size"]),("leave", .tup [.str "name"]),("least", .tup [.str "name", .str "least"]),("most", .tup [.str "name", .str "most"]),("weight", .tup [.str "name", .str "weight"]),("serve", .tup [.str "name", .str "size", .str "way"]),("now", .tup [])]
def aHJ (N:Nat):SM:=(sRet (eOr (eAn (eBin dEq (eVar 0) (eC (.tup [.int 0, .int 1]))) (eCall (aBE N) (nA 1 (aCons (eVar 0) aNil)))) (eCall (aCi N) (nA 1 (aCons (eVar 0) aNil)))))
def aHK (N:Nat):FM:=fnM 1 (aHJ N)
def aHL (N:Nat):SM:=(sRet (eOr (eBin dIs (eVar 0) (eC .non)) (eCall (aCi N) (nA 1 (aCons (eVar 0) aNil)))))
def aC6 (N:Nat):FM:=fnM 1 (aHL N)
def aF0 (N:Nat):SM:=(sRet (eAn (eIsTy .int (eVar 0)) (eAn (eNt (eIsTy .bool (eVar 0))) (eChain dLe dLe (eC (.int 1)) (eVar 0) (eVar 1)))))
def aCJ (N:Nat):FM:=fnM 2 (aF0 N)
def aCZ (N:Nat):SM:=(sRet (eCall (aCJ N) (nA 2 (aCons (eVar 0) (aCons (eC (.int 99)) aNil)))))
def aAC (N:Nat):FM:=fnM 1 (aCZ N)
def aHM (N:Nat):SM:=(sRet (eCall (aCJ N) (nA 2 (aCons (eVar 0) (aCons (eC (.int 999)) aNil)))))
def aCU (N:Nat):FM:=fnM 1 (aHM N)
def aJ4 (N:Nat):SM:=(sRet (eAn (eIsTy .str (eVar 0)) (eBinS (dInL false) (eVar 0) (eTup (aCons (eC (.str "least")) (aCons (eC (.str "share")) aNil))))))
def aDd (N:Nat):FM:=fnM 1 (aJ4 N)
def aEM (N:Nat):SM:=(sTabCall 2 [("name",1,aBn N),("least",1,aHK N),("most",1,aC6 N),("weight",1,aAC N),("size",1,aCU N),("way",1,aDd N)] (eVar 0) (aCons (eVar 1) aNil))
def aC7 (N:Nat):FM:=fnM 3 (aEM N)
def aEv (N:Nat):SM:=(sSeq (sIf (tOr' (tNt (tT (eIsTy .tuple (eVar 0)))) (tOr' (tB (eBin dLt (eCa fLen (aCons (eVar 0) aNil)) (eC (.int 2)))) (tOr' (tNt (tT (eIsTy .str (eBinS ixD (eVar 0) (eC (.int 0)))))) (tB (eTabIn true aBM (eBinS ixD (eVar 0) (eC (.int 0)))))))) (sRet (eC (.bl false))) sNop)
    (sSeq (sAsg (eVar 0) (gStr 2 (gsCons' (gN 2) (gsCons' (gN 3) (gsCons' (gN 4) gsNil)))))
    (sSeq (sSet 5 (eTabIx aBM (eVar 2)))
    (sSeq (sIf (tOr' (tNt (tT (eCall (aBE N) (nA 1 (aCons (eVar 3) aNil))))) (tB (eBin dNe (eCa fLen (aCons (eVar 4) aNil)) (eCa fLen (aCons (eVar 5) aNil))))) (sRet (eC (.bl false))) sNop)
    (sSeq (sIf (tAn (tB (eBin dIsNot (eVar 1) (eC .non))) (tOr' (tB (eBin dEq (eBinS ixD (eVar 1) (eC (.int 0))) (eC (.str "now")))) (tT (eCall (aCH N) (nA 2 (aCons (eVar 3) (aCons (eBinS ixD (eVar 1) (eC (.int 1))) aNil))))))) (sRet (eC (.bl false))) sNop)
    (sRet (eCa fAll (aCons (eLc (iZipM (aCons (eVar 5) (aCons (eVar 4) aNil))) (.tp [6,7]) tTrue (eCall (aC7 N) (nA 2 (aCons (eVar 6) (aCons (eVar 7) aNil)))) [6,7]) aNil))))))))
def aC8 (N:Nat):FM:=fnM 8 (aEv N)
def LR.w:LR→Str
  | .join .. => "join" | .ask .. => "ask" | .leave .. => "leave" | .least .. => "least" | .most .. => "most" | .weight .. => "weight" | .serve .. => "serve"
end
end C
namespace C
open PySem G
noncomputable section
def aDu (N:Nat):SM:=(sSeq (sIf (tNt (tT (eIsTy .tuple (eVar 0)))) (sRaiseF 17 4 (eC .non)) sNop)
    (sSeq (sSet 1 (eC .non))
    (sSeq (sFor (iEnum (aCons (eVar 0) aNil)) (gTp 2 (gsCons' (gN 2) (gsCons' (gN 3) gsNil))) (sSeq (sIf (tNt (tT (eCall (aC8 N) (nA 2 (aCons (eVar 3) (aCons (eVar 1) aNil)))))) (sRet (eVar 2)) sNop)
    (sSet 1 (eVar 3))))
    (sRet (eIf (tOr' (tB (eBin dIs (eVar 1) (eC .non))) (tB (eBin dNe (eBinS ixD (eVar 1) (eC (.int 0))) (eC (.str "now"))))) (eCa fLen (aCons (eVar 0) aNil)) (eC .non))))))
def aCl (N:Nat):FM:=fnM 4 (aDu N)
def aC9 (N:Nat):SM:=(sSeq (sSet 1 (eCall (aCl N) (nA 1 (aCons (eVar 0) aNil))))
    (sIf (tB (eBin dIsNot (eVar 1) (eC .non))) (sRaiseF 17 4 (eVar 1)) sNop))
def aCd (N:Nat):FM:=fnM 2 (aC9 N)
end
end C
namespace Wk33
open PySem L2 G
noncomputable section
abbrev aHN:List Str:=["_law_script","_law_k","_law_state","_law_cell_here"]
abbrev aCm:List Str:=["_law_script","_law_k"]
theorem aK4:FnScope aHN aCm (defScope aAD):=⟨rfl,rfl,rfl,by decide +kernel,rfl,by decide +kernel,by decide +kernel⟩
abbrev aNY:List Str:=["_law_top","_law_bottom","_law_one","_law_rest"]
abbrev aEw:List Str:=["_law_top","_law_bottom"]
theorem aQ7:FnScope aNY aEw (defScope aBZ):=⟨rfl,rfl,rfl,by decide +kernel,rfl,by decide +kernel,by decide +kernel⟩
abbrev aIN:List Str:=["_law_one","_law_other"]
abbrev aCK:List Str:=["_law_one","_law_other"]
theorem aMT:FnScope aIN aCK (defScope aBc):=⟨rfl,rfl,rfl,by decide +kernel,rfl,by decide +kernel,by decide +kernel⟩
abbrev aHO:List Str:=["_law_pool_here","_law_many","_law_state","_law_digit"]
abbrev aCn:List Str:=["_law_pool_here","_law_many"]
theorem aK5:FnScope aHO aCn (defScope aAE):=⟨rfl,rfl,rfl,by decide +kernel,rfl,by decide +kernel,by decide +kernel⟩
abbrev aFU:List Str:=["_law_pool_here","_law_now"]
abbrev aB4:List Str:=["_law_pool_here","_law_now"]
theorem aIm:FnScope aFU aB4 (defScope aAz):=⟨rfl,rfl,rfl,by decide +kernel,rfl,by decide +kernel,by decide +kernel⟩
abbrev aDv:List Str:=["_law_pool_here","_law_used","_law_own","_law_name_here","_law_others","_law_letter","_law_one","_law_k"]
abbrev aCo:List Str:=["_law_pool_here","_law_used"]
theorem aK6:FnScope aDv aCo (defScope aA2):=⟨rfl,rfl,rfl,by decide +kernel,rfl,by decide +kernel,by decide +kernel⟩
abbrev aHP:List Str:=["_law_pool_here","_law_bottom"]
abbrev aCp:List Str:=["_law_pool_here"]
theorem aK7:FnScope aHP aCp (defScope aAF):=⟨rfl,rfl,rfl,by decide +kernel,rfl,by decide +kernel,by decide +kernel⟩
abbrev aEA:List Str:=["_law_pool_here","_law_rows","_law_now","_law_turn","_law_word_here","_law_name_here","_law_rate_here","_law_limit","_law_parts"]
abbrev aAY:List Str:=["_law_pool_here"]
theorem aGm:FnScope aEA aAY (defScope aAq):=⟨rfl,rfl,rfl,by decide +kernel,rfl,by decide +kernel,by decide +kernel⟩
abbrev aEx:List Str:=["_law_found","_law_due","_law_k"]
abbrev aB5:List Str:=["_law_found","_law_due"]
theorem aIn:FnScope aEx aB5 (defScope aAw):=⟨rfl,rfl,rfl,by decide +kernel,rfl,by decide +kernel,by decide +kernel⟩
abbrev aEy:List Str:=["_law_found","_law_due","_law_k"]
abbrev aB6:List Str:=["_law_found","_law_due"]
theorem aIo:FnScope aEy aB6 (defScope aAx):=⟨rfl,rfl,rfl,by decide +kernel,rfl,by decide +kernel,by decide +kernel⟩
abbrev aEz:List Str:=["_law_found","_law_due","_law_k"]
abbrev aB7:List Str:=["_law_found","_law_due"]
theorem aIp:FnScope aEz aB7 (defScope aAy):=⟨rfl,rfl,rfl,by decide +kernel,rfl,by decide +kernel,by decide +kernel⟩
abbrev aHQ:List Str:=["_law_found","_law_due","_law_k"]
abbrev aDw:List Str:=["_law_found","_law_due"]
theorem aOB:FnScope aHQ aDw (defScope aBl):=⟨rfl,rfl,rfl,by decide +kernel,rfl,by decide +kernel,by decide +kernel⟩
abbrev aHR:List Str:=["_law_part"]
abbrev aCq:List Str:=["_law_part"]
theorem aK8:FnScope aHR aCq (defScope aAG):=⟨rfl,rfl,rfl,by decide +kernel,rfl,by decide +kernel,by decide +kernel⟩
abbrev aF1:List Str:=["_law_row","_law_moment_here","_law_part"]
abbrev aCr:List Str:=["_law_row"]
theorem aK9:FnScope aF1 aCr (defScope aA7):=⟨rfl,rfl,rfl,by decide +kernel,rfl,by decide +kernel,by decide +kernel⟩
abbrev aHS:List Str:=["_law_cell_here","_law_digits"]
abbrev aCs:List Str:=["_law_cell_here"]
theorem aKA:FnScope aHS aCs (defScope aAH):=⟨rfl,rfl,rfl,by decide +kernel,rfl,by decide +kernel,by decide +kernel⟩
abbrev aIO:List Str:=["thing"]
abbrev aCL:List Str:=["thing"]
theorem aMU:FnScope aIO aCL (defScope aBd):=⟨rfl,rfl,rfl,by decide +kernel,rfl,by decide +kernel,by decide +kernel⟩
abbrev aNZ:List Str:=["one","other"]
abbrev aE0:List Str:=["one","other"]
theorem aQ8:FnScope aNZ aE0 (defScope aB_):=⟨rfl,rfl,rfl,by decide +kernel,rfl,by decide +kernel,by decide +kernel⟩
abbrev aGn:List Str:=["thing","top","bottom","part"]
abbrev aCM:List Str:=["thing"]
theorem aMV:FnScope aGn aCM (defScope aAS):=⟨rfl,rfl,rfl,by decide +kernel,rfl,by decide +kernel,by decide +kernel⟩
abbrev aFV:List Str:=["thing"]
abbrev aB8:List Str:=["thing"]
theorem aIq:FnScope aFV aB8 (defScope aA0):=⟨rfl,rfl,rfl,by decide +kernel,rfl,by decide +kernel,by decide +kernel⟩
abbrev aHT:List Str:=["one","other"]
abbrev aCt:List Str:=["one","other"]
theorem aKB:FnScope aHT aCt (defScope aAI):=⟨rfl,rfl,rfl,by decide +kernel,rfl,by decide +kernel,by decide +kernel⟩
abbrev aHU:List Str:=["one","other"]
abbrev aCu:List Str:=["one","other"]
theorem aKC:FnScope aHU aCu (defScope aAJ):=⟨rfl,rfl,rfl,by decide +kernel,rfl,by decide +kernel,by decide +kernel⟩
abbrev aKD:List Str:=["thing"]
abbrev aDx:List Str:=["thing"]
theorem aOC:FnScope aKD aDx (defScope aBt):=⟨rfl,rfl,rfl,by decide +kernel,rfl,by decide +kernel,by decide +kernel⟩
abbrev aKE:List Str:=["thing"]
abbrev aDy:List Str:=["thing"]
theorem aOD:FnScope aKE aDy (defScope aBu):=⟨rfl,rfl,rfl,by decide +kernel,rfl,by decide +kernel,by decide +kernel⟩
abbrev aIP:List Str:=["thing"]
abbrev aC2:List Str:=["thing"]
theorem aMW:FnScope aIP aC2 (defScope aBe):=⟨rfl,rfl,rfl,by decide +kernel,rfl,by decide +kernel,by decide +kernel⟩
abbrev aKF:List Str:=["thing"]
abbrev aCV:List Str:=["thing"]
theorem aOE:FnScope aKF aCV (defScope aBv):=⟨rfl,rfl,rfl,by decide +kernel,rfl,by decide +kernel,by decide +kernel⟩
abbrev aHV:List Str:=["thing","sign"]
abbrev aCW:List Str:=["thing"]
theorem aOF:FnScope aHV aCW (defScope aBm):=⟨rfl,rfl,rfl,by decide +kernel,rfl,by decide +kernel,by decide +kernel⟩
abbrev aHW:List Str:=["thing","most"]
abbrev aCv:List Str:=["thing","most"]
theorem aKG:FnScope aHW aCv (defScope aAK):=⟨rfl,rfl,rfl,by decide +kernel,rfl,by decide +kernel,by decide +kernel⟩
abbrev aKH:List Str:=["thing"]
abbrev aCX:List Str:=["thing"]
theorem aOG:FnScope aKH aCX (defScope aBw):=⟨rfl,rfl,rfl,by decide +kernel,rfl,by decide +kernel,by decide +kernel⟩
abbrev aN_:List Str:=["thing"]
abbrev aD8:List Str:=["thing"]
theorem aQ9:FnScope aN_ aD8 (defScope aCa):=⟨rfl,rfl,rfl,by decide +kernel,rfl,by decide +kernel,by decide +kernel⟩
abbrev aHX:List Str:=["thing"]
abbrev aBV:List Str:=["thing"]
theorem aKI:FnScope aHX aBV (defScope aAL):=⟨rfl,rfl,rfl,by decide +kernel,rfl,by decide +kernel,by decide +kernel⟩
abbrev aKJ:List Str:=["sort","thing","look"]
abbrev aDz:List Str:=["sort","thing"]
theorem aOH:FnScope aKJ aDz (defScope aBx):=⟨rfl,rfl,rfl,by decide +kernel,rfl,by decide +kernel,by decide +kernel⟩
abbrev aJ5:List Str:=["thing","ahead","word","time","parts","sorts","sort","part"]
abbrev aE1:List Str:=["thing","ahead"]
theorem aQA:FnScope aJ5 aE1 (defScope aBI):=⟨rfl,rfl,rfl,by decide +kernel,rfl,by decide +kernel,by decide +kernel⟩
abbrev aF2:List Str:=["word","sign"]
abbrev aCw:List Str:=["word"]
theorem aKK:FnScope aF2 aCw (defScope aA8):=⟨rfl,rfl,rfl,by decide +kernel,rfl,by decide +kernel,by decide +kernel⟩
abbrev aF3:List Str:=["word","sign"]
abbrev aCx:List Str:=["word"]
theorem aKL:FnScope aF3 aCx (defScope aA9):=⟨rfl,rfl,rfl,by decide +kernel,rfl,by decide +kernel,by decide +kernel⟩
abbrev aOa:List Str:=["top","bottom","part"]
abbrev aE2:List Str:=["top","bottom"]
theorem aQB:FnScope aOa aE2 (defScope aCb):=⟨rfl,rfl,rfl,by decide +kernel,rfl,by decide +kernel,by decide +kernel⟩
abbrev aG7:List Str:=["one","top","bottom"]
abbrev aBW:List Str:=["one"]
theorem aJ6:FnScope aG7 aBW (defScope aA4):=⟨rfl,rfl,rfl,by decide +kernel,rfl,by decide +kernel,by decide +kernel⟩
abbrev aG8:List Str:=["text","under","top","stroke","bottom","found"]
abbrev aBX:List Str:=["text"]
theorem aJ7:FnScope aG8 aBX (defScope aA5):=⟨rfl,rfl,rfl,by decide +kernel,rfl,by decide +kernel,by decide +kernel⟩
abbrev aKM:List Str:=["word","sort","found"]
abbrev aD0:List Str:=["word","sort"]
theorem aOI:FnScope aKM aD0 (defScope aBy):=⟨rfl,rfl,rfl,by decide +kernel,rfl,by decide +kernel,by decide +kernel⟩
abbrev aJ8:List Str:=["line","word","words","time","parts","part","sort"]
abbrev aE3:List Str:=["line"]
theorem aQC:FnScope aJ8 aE3 (defScope aBJ):=⟨rfl,rfl,rfl,by decide +kernel,rfl,by decide +kernel,by decide +kernel⟩
abbrev aIQ:List Str:=["text","rows","number","line","row"]
abbrev aCN:List Str:=["text"]
theorem aMX:FnScope aIQ aCN (defScope aBf):=⟨rfl,rfl,rfl,by decide +kernel,rfl,by decide +kernel,by decide +kernel⟩
abbrev aEW:List Str:=["_law_text","e"]
abbrev aBp:List Str:=["_law_text"]
theorem aHY:FnScope aEW aBp (defScope aAu):=⟨rfl,rfl,rfl,by decide +kernel,rfl,by decide +kernel,by decide +kernel⟩
abbrev aHZ:List Str:=["log","ahead","number","row"]
abbrev aCy:List Str:=["log"]
theorem aKN:FnScope aHZ aCy (defScope aAM):=⟨rfl,rfl,rfl,by decide +kernel,rfl,by decide +kernel,by decide +kernel⟩
abbrev aFW:List Str:=["log","odd"]
abbrev aB9:List Str:=["log"]
theorem aIr:FnScope aFW aB9 (defScope aA1):=⟨rfl,rfl,rfl,by decide +kernel,rfl,by decide +kernel,by decide +kernel⟩
abbrev aH_:List Str:=["part"]
abbrev aCz:List Str:=["part"]
theorem aKO:FnScope aH_ aCz (defScope aAN):=⟨rfl,rfl,rfl,by decide +kernel,rfl,by decide +kernel,by decide +kernel⟩
abbrev aGo:List Str:=["row","word","time","parts","part"]
abbrev aCO:List Str:=["row"]
theorem aMY:FnScope aGo aCO (defScope aAT):=⟨rfl,rfl,rfl,by decide +kernel,rfl,by decide +kernel,by decide +kernel⟩
abbrev aGp:List Str:=["log","row"]
abbrev aCP:List Str:=["log"]
theorem aMZ:FnScope aGp aCP (defScope aAU):=⟨rfl,rfl,rfl,by decide +kernel,rfl,by decide +kernel,by decide +kernel⟩
abbrev aSx:List Str:=["_law_script","_law_last","_law_k","_law_log","_law_text","_law_row"]
abbrev aQD:List Str:=["_law_script"]
theorem aWT:FnScope aSx aQD (defScope aEY):=⟨rfl,rfl,rfl,by decide +kernel,rfl,by decide +kernel,by decide +kernel⟩
abbrev rsL:List Nat:=[3,4,17]
theorem aFX:FnScope ["self","row"] ["self","row"] (defScope aAO):=⟨rfl,rfl,rfl,by decide +kernel,rfl,by decide +kernel,by decide +kernel⟩
theorem aGq:FnScope ["self","row"] ["self","row"] (defScope aAW):=⟨rfl,rfl,rfl,by decide +kernel,rfl,by decide +kernel,by decide +kernel⟩
def aC_ (N:Nat):SM:=(sSeq (sPar 1 2 (aCons (eNew aNil) (aCons (eTup (aCons (eC (.int 0)) (aCons (eC (.int 1)) aNil))) aNil)))
    (sSeq (sFor (iRg1 (aCons (eCall (C.aAo N) (nA 2 (aCons (eVar 0) (aCons (eC (.int 14)) aNil)))) aNil)) (gN 3) (sSeq (sSet 2 (eCall (C.aCc N) (nA 2 (aCons (eVar 0) (aCons (eVar 2) aNil)))))
    (sSeq (sSet 4 (eBinS ixD (eLst (aCons (eC (.str "join")) (aCons (eC (.str "ask")) (aCons (eC (.str "leave")) (aCons (eC (.str "least")) (aCons (eC (.str "most")) (aCons (eC (.str "weight")) (aCons (eC (.str "serve")) aNil)))))))) (eCall (C.aAo N) (nA 2 (aCons (eVar 0) (aCons (eC (.int 7)) aNil))))))
    (sSeq (sSet 5 (eCall (C.aDt N) (nA 2 (aCons (eVar 0) (aCons (eLst aNil) aNil)))))
    (sSeq (sSet 6 (eBinS ixD (eLst (aCons (eTup (aCons (eC (.int 0)) (aCons (eC (.int 1)) aNil))) (aCons (eTup (aCons (eC (.int 1)) (aCons (eC (.int 1)) aNil))) (aCons (eCall (C.aBT N) (nA 1 (aCons (eVar 0) aNil))) (aCons (eTup (aCons (eBinS dAddE (eC (.int 1)) (eCall (C.aAo N) (nA 2 (aCons (eVar 0) (aCons (eBin dPow (eC (.int 10)) (eC (.int 9))) aNil))))) (aCons (eBin dMul (eC (.int 2)) (eBin dPow (eC (.int 10)) (eC (.int 9)))) aNil))) aNil))))) (eCall (C.aAo N) (nA 2 (aCons (eVar 0) (aCons (eC (.int 4)) aNil))))))
    (sSeq (sSet 6 (eCall (C.aDc N) (nA 2 (aCons (eBinS ixD (eVar 6) (eC (.int 0))) (aCons (eBinS ixD (eVar 6) (eC (.int 1))) aNil)))))
    (sSeq (sSet 7 (eBinS ixD (eLst (aCons (eC .non) (aCons (eTup (aCons (eC (.int 1)) (aCons (eC (.int 1)) aNil))) (aCons (eCall (C.aBT N) (nA 1 (aCons (eVar 0) aNil))) aNil)))) (eCall (C.aAo N) (nA 2 (aCons (eVar 0) (aCons (eC (.int 3)) aNil))))))
    (sSeq (sSet 8 (eDisp ["join","ask","leave"] (aCons (eNx (eTup (aCons (eVar 6) (aCons (eVar 7) (aCons (eBinS dAddE (eC (.int 1)) (eCall (C.aAo N) (nA 2 (aCons (eVar 0) (aCons (eC (.int 99)) aNil))))) aNil))))) (aCons (eNx (eTup (aCons (eBinS dAddE (eC (.int 1)) (eCall (C.aAo N) (nA 2 (aCons (eVar 0) (aCons (eC (.int 999)) aNil))))) aNil))) (aCons (eTup aNil) aNil)))))
    (sSeq (sDrop (eDkU (eVar 8) (eDisp ["least","most","weight"] (aCons (eTup (aCons (eVar 6) aNil)) (aCons (eTup (aCons (eVar 7) aNil)) (aCons (eNx (eTup (aCons (eBinS dAddE (eC (.int 1)) (eCall (C.aAo N) (nA 2 (aCons (eVar 0) (aCons (eC (.int 99)) aNil))))) aNil))) aNil))))))
    (sSeq (sAsg (eTup (aCons (eBinS dAddE (eC (.int 1)) (eCall (C.aAo N) (nA 2 (aCons (eVar 0) (aCons (eC (.int 999)) aNil))))) (aCons (eBinS ixD (eLst (aCons (eC (.str "least")) (aCons (eC (.str "share")) aNil))) (eCall (C.aAo N) (nA 2 (aCons (eVar 0) (aCons (eC (.int 2)) aNil))))) aNil))) (gSbE (eVar 8) (eC (.str "serve"))))
    (sDrop (eApp (eVar 1) (aCons (eBinS dAddE (eTup (aCons (eVar 4) (aCons (eVar 2) (aCons (eVar 5) aNil)))) (eBinS ixE (eVar 8) (eVar 4))) aNil)))))))))))))
    (sRet (eBinS dAddE (eCa fTuple (aCons (eVar 1) aNil)) (eTup (aCons (eTup (aCons (eC (.str "now")) (aCons (eCall (C.aCc N) (nA 2 (aCons (eVar 0) (aCons (eVar 2) aNil)))) aNil))) aNil))))))
def aBF (N:Nat):FM:=fnM 9 (aC_ N)
def aDe (N:Nat):SM:=(sSeq (sIf (tT (eIsTy .tuple (eVar 1))) (sSeq (sIf (tOr' (tNt (tT (eIsTy .tuple (eVar 0)))) (tB (eBin dNe (eCa fLen (aCons (eVar 0) aNil)) (eCa fLen (aCons (eVar 1) aNil))))) (sRet (eC (.bl false))) sNop)
    (sRet (eCa fAll (aCons (eLc (iRg1 (aCons (eCa fLen (aCons (eVar 1) aNil)) aNil)) (.nm 2) tTrue eStk [2]) aNil)))) sNop)
    (sSeq (sIf (tOr' (tB (eBin dIs (eVar 1) (eC .non))) (tT (eIsTy .str (eVar 1)))) (sRet (eIf (tB (eBin dIs (eVar 1) (eC .non))) (eBin dIs (eVar 0) (eC .non)) (eAn (eIsTy .str (eVar 0)) (eBin dEq (eVar 0) (eVar 1))))) sNop)
    (sRet (eAn (eIsTy .int (eVar 0)) (eAn (eNt (eIsTy .bool (eVar 0))) (eBin dEq (eVar 0) (eVar 1)))))))
def aBA (N:Nat):FM:=fnM 3 (aDe N)
def aCA (N:Nat):SM:=(sSeq (sIf (tT (eIsTy .tuple (eVar 1))) (sSeq (sIf (tOr' (tNt (tT (eIsTy .tuple (eVar 0)))) (tB (eBin dNe (eCa fLen (aCons (eVar 0) aNil)) (eCa fLen (aCons (eVar 1) aNil))))) (sRet (eC (.bl false))) sNop)
    (sRet (eCa fAll (aCons (eLc (iRg1 (aCons (eCa fLen (aCons (eVar 1) aNil)) aNil)) (.nm 2) tTrue (eCall (aBA N) (nA 2 (aCons (eBinS ixD (eVar 0) (eVar 2)) (aCons (eBinS ixD (eVar 1) (eVar 2)) aNil)))) [2]) aNil)))) sNop)
    (sSeq (sIf (tOr' (tB (eBin dIs (eVar 1) (eC .non))) (tT (eIsTy .str (eVar 1)))) (sRet (eIf (tB (eBin dIs (eVar 1) (eC .non))) (eBin dIs (eVar 0) (eC .non)) (eAn (eIsTy .str (eVar 0)) (eBin dEq (eVar 0) (eVar 1))))) sNop)
    (sRet (eAn (eIsTy .int (eVar 0)) (eAn (eNt (eIsTy .bool (eVar 0))) (eBin dEq (eVar 0) (eVar 1)))))))
def aAP (N:Nat):FM:=fnM 3 (aCA N)
def aCB (N:Nat):SM:=(sSeq (sIf (tT (eIsTy .tuple (eVar 1))) (sSeq (sIf (tOr' (tNt (tT (eIsTy .tuple (eVar 0)))) (tB (eBin dNe (eCa fLen (aCons (eVar 0) aNil)) (eCa fLen (aCons (eVar 1) aNil))))) (sRet (eC (.bl false))) sNop)
    (sRet (eCa fAll (aCons (eLc (iRg1 (aCons (eCa fLen (aCons (eVar 1) aNil)) aNil)) (.nm 2) tTrue (eCall (aAP N) (nA 2 (aCons (eBinS ixD (eVar 0) (eVar 2)) (aCons (eBinS ixD (eVar 1) (eVar 2)) aNil)))) [2]) aNil)))) sNop)
    (sSeq (sIf (tOr' (tB (eBin dIs (eVar 1) (eC .non))) (tT (eIsTy .str (eVar 1)))) (sRet (eIf (tB (eBin dIs (eVar 1) (eC .non))) (eBin dIs (eVar 0) (eC .non)) (eAn (eIsTy .str (eVar 0)) (eBin dEq (eVar 0) (eVar 1))))) sNop)
    (sRet (eAn (eIsTy .int (eVar 0)) (eAn (eNt (eIsTy .bool (eVar 0))) (eBin dEq (eVar 0) (eVar 1)))))))
def aAQ (N:Nat):FM:=fnM 3 (aCB N)
def aDs (N:Nat):SM:=(sSeq (sIf (tT (eIsTy .tuple (eVar 1))) (sSeq (sIf (tOr' (tNt (tT (eIsTy .tuple (eVar 0)))) (tB (eBin dNe (eCa fLen (aCons (eVar 0) aNil)) (eCa fLen (aCons (eVar 1) aNil))))) (sRet (eC (.bl false))) sNop)
    (sRet (eCa fAll (aCons (eLc (iRg1 (aCons (eCa fLen (aCons (eVar 1) aNil)) aNil)) (.nm 2) tTrue (eCall (aAQ N) (nA 2 (aCons (eBinS ixD (eVar 0) (eVar 2)) (aCons (eBinS ixD (eVar 1) (eVar 2)) aNil)))) [2]) aNil)))) sNop)
    (sSeq (sIf (tOr' (tB (eBin dIs (eVar 1) (eC .non))) (tT (eIsTy .str (eVar 1)))) (sRet (eIf (tB (eBin dIs (eVar 1) (eC .non))) (eBin dIs (eVar 0) (eC .non)) (eAn (eIsTy .str (eVar 0)) (eBin dEq (eVar 0) (eVar 1))))) sNop)
    (sRet (eAn (eIsTy .int (eVar 0)) (eAn (eNt (eIsTy .bool (eVar 0))) (eBin dEq (eVar 0) (eVar 1)))))))
def aBS (N:Nat):FM:=fnM 3 (aDs N)
def aBY (N:Nat):SM:=(sSeq (sIf (tOr' (tB (eBin dIs (eVar 0) (eC .non))) (tB (eBin dEqU (eVar 0) (eTup (aCons (eC (.int 0)) (aCons (eC (.int 1)) aNil)))))) (sRet (eC (.str "-"))) sNop)
    (sSeq (sIf (tT (eIsTy .tuple (eVar 0))) (sRet (eBinS dAddS (eCa fStr (aCons (eBinS ixD (eVar 0) (eC (.int 0))) aNil)) (eBinS ixD (eLst (aCons (eBinS dAddS (eC (.str "/")) (eCa fStr (aCons (eBinS ixD (eVar 0) (eC (.int 1))) aNil))) (aCons (eC (.str "")) aNil))) (eCa fInt (aCons (eBin dEq (eBinS ixD (eVar 0) (eC (.int 1))) (eC (.int 1))) aNil))))) sNop)
    (sRet (eCa fStr (aCons (eVar 0) aNil)))))
def aAZ (N:Nat):FM:=fnM 1 (aBY N)
def aF4 (N:Nat):SM:=(sSeq (sSet 1 (eBinS dAddS (eCa fStr (aCons (eBinS ixD (eBinS ixD (eVar 0) (eC (.int 1))) (eC (.int 0))) aNil)) (eBinS ixD (eLst (aCons (eBinS dAddS (eC (.str "/")) (eCa fStr (aCons (eBinS ixD (eBinS ixD (eVar 0) (eC (.int 1))) (eC (.int 1))) aNil))) (aCons (eC (.str "")) aNil))) (eCa fInt (aCons (eBin dEq (eBinS ixD (eBinS ixD (eVar 0) (eC (.int 1))) (eC (.int 1))) (eC (.int 1))) aNil)))))
    (sRet (eTm fJoin (eC (.str " ")) (aCons (eBinS dAddS (eLst (aCons (eBinS ixD (eVar 0) (eC (.int 0))) (aCons (eVar 1) aNil))) (eLc (iSeq (eSlA (eVar 0) (oSome (eC (.int 2))) oNone)) (.nm 2) tTrue (eCall (aAZ N) (nA 1 (aCons (eVar 2) aNil))) [2])) aNil))))
def aBB (N:Nat):FM:=fnM 3 (aF4 N)
def aCI (N:Nat):SM:=(sRet (eOr (eAn (eBin dEqU (eVar 0) (eC (.tup [.int 0, .int 1]))) (eCall (C.aBE N) (nA 1 (aCons (eVar 0) aNil)))) (eCall (C.aCi N) (nA 1 (aCons (eVar 0) aNil)))))
def aB0 (N:Nat):FM:=fnM 1 (aCI N)
def aEM (N:Nat):SM:=(sTabCall 2 [("name",1,C.aBn N),("least",1,aB0 N),("most",1,C.aC6 N),("weight",1,C.aAC N),("size",1,C.aCU N),("way",1,C.aDd N)] (eVar 0) (aCons (eVar 1) aNil))
def aC7 (N:Nat):FM:=fnM 3 (aEM N)
def aEv (N:Nat):SM:=(sSeq (sIf (tOr' (tNt (tT (eIsTy .tuple (eVar 0)))) (tOr' (tB (eBin dLt (eCa fLen (aCons (eVar 0) aNil)) (eC (.int 2)))) (tOr' (tNt (tT (eIsTy .str (eBinS ixD (eVar 0) (eC (.int 0)))))) (tB (eTabIn true C.aBM (eBinS ixD (eVar 0) (eC (.int 0)))))))) (sRet (eC (.bl false))) sNop)
    (sSeq (sAsg (eVar 0) (gStr 2 (gsCons' (gN 2) (gsCons' (gN 3) (gsCons' (gN 4) gsNil)))))
    (sSeq (sSet 5 (eTabIx C.aBM (eVar 2)))
    (sSeq (sIf (tOr' (tNt (tT (eCall (C.aBE N) (nA 1 (aCons (eVar 3) aNil))))) (tB (eBin dNe (eCa fLen (aCons (eVar 4) aNil)) (eCa fLen (aCons (eVar 5) aNil))))) (sRet (eC (.bl false))) sNop)
    (sSeq (sIf (tAn (tB (eBin dIsNot (eVar 1) (eC .non))) (tOr' (tB (eBin dEq (eBinS ixD (eVar 1) (eC (.int 0))) (eC (.str "now")))) (tT (eCall (C.aCH N) (nA 2 (aCons (eVar 3) (aCons (eBinS ixD (eVar 1) (eC (.int 1))) aNil))))))) (sRet (eC (.bl false))) sNop)
    (sRet (eCa fAll (aCons (eLc (iZipM (aCons (eVar 5) (aCons (eVar 4) aNil))) (.tp [6,7]) tTrue (eCall (aC7 N) (nA 2 (aCons (eVar 6) (aCons (eVar 7) aNil)))) [6,7]) aNil))))))))
def aC8 (N:Nat):FM:=fnM 8 (aEv N)
def aF5 (N:Nat):SM:=(sSeq (sIf (tOr' (tB (eBin dEq (eVar 0) (eC (.str "")))) (tOr' (tNt (tT (eCa fAll (aCons (eLc (iStrM (eVar 0)) (.nm 1) tTrue (eBinS (dIn false) (eVar 1) (eC (.str "0123456789"))) [1]) aNil)))) (tOr' (tB (eBin dEq (eBinS ixD (eVar 0) (eC (.int 0))) (eC (.str "0")))) (tB (eBin dGt (eCa fLen (aCons (eVar 0) aNil)) (eC (.int 3))))))) (sRaiseF 4 4 (eC (.int 0))) sNop)
    (sRet (eCa fIntS (aCons (eVar 0) aNil))))
def aD1 (N:Nat):FM:=fnM 2 (aF5 N)
def aF6 (N:Nat):SM:=(sRet (eAn (eBin dNe (eVar 0) (eC (.str ""))) (eCa fAll (aCons (eLc (iStrM (eVar 0)) (.nm 1) tTrue (eBinS (dIn false) (eVar 1) (eC (.str "0123456789"))) [1]) aNil))))
def aCQ (N:Nat):FM:=fnM 2 (aF6 N)
def aBb (N:Nat):SM:=(sSeq (sIf (tNt (tT (eIsTy .str (eVar 0)))) (sRaiseF 4 4 (eC (.int 0))) sNop)
    (sSeq (sSet 1 (eBin dEq (eSl (eVar 0) oNone (oSome (eC (.int 1)))) (eC (.str "-"))))
    (sSeq (sAsg (eTm fPart (eSl (eVar 0) (oSome (eCa fIntS (aCons (eVar 1) aNil))) oNone) (aCons (eC (.str "/")) aNil)) (gTp 3 (gsCons' (gN 2) (gsCons' (gN 3) (gsCons' (gN 4) gsNil)))))
    (sSeq (sIf (tOr' (tNt (tT (eCall (aCQ N) (nA 1 (aCons (eVar 2) aNil))))) (tAn (tB (eBin dNe (eVar 3) (eC (.str "")))) (tOr' (tNt (tT (eCall (aCQ N) (nA 1 (aCons (eVar 4) aNil))))) (tB (eBin dEq (eCa fIntS (aCons (eVar 4) aNil)) (eC (.int 0))))))) (sRaiseF 4 4 (eC (.int 0))) sNop)
    (sSeq (sSet 5 (eCall (C.aFR N) (nA 2 (aCons (eBin dMul (eCa fIntS (aCons (eVar 2) aNil)) (eBinS ixD (eLst (aCons (eC (.int 1)) (aCons (eNeg (eC (.int 1))) aNil))) (eCa fIntS (aCons (eVar 1) aNil)))) (aCons (eCa fIntS (aCons (eOr (eVar 4) (eC (.str "1"))) aNil)) aNil)))))
    (sSeq (sIf (tB (eBin dNe (eCall (C.aBU N) (nA 1 (aCons (eVar 5) aNil))) (eVar 0))) (sRaiseF 4 4 (eC (.int 0))) sNop)
    (sRet (eVar 5))))))))
def aA3 (N:Nat):FM:=fnM 6 (aBb N)
def aCj (N:Nat):SM:=(sSeq (sIf (tB (eBinS (dInL false) (eVar 1) (eTup (aCons (eC (.str "least")) (aCons (eC (.str "most")) aNil))))) (sSeq (sIf (tB (eBin dEq (eVar 0) (eC (.str "-")))) (sRet (eIf (tB (eBin dEq (eVar 1) (eC (.str "least")))) (eC (.tup [.int 0, .int 1])) (eC .non))) sNop)
    (sSeq (sSet 2 (eCall (aA3 N) (nA 1 (aCons (eVar 0) aNil))))
    (sSeq (sIf (tB (eBin dEq (eVar 2) (eC (.tup [.int 0, .int 1])))) (sRaiseF 4 4 (eC (.int 0))) sNop)
    (sRet (eVar 2))))) sNop)
    (sRet (eIf (tB (eBinS (dInL false) (eVar 1) (eTup (aCons (eC (.str "size")) (aCons (eC (.str "weight")) aNil))))) (eCall (aD1 N) (nA 1 (aCons (eVar 0) aNil))) (eVar 0))))
def aBG (N:Nat):FM:=fnM 3 (aCj N)
def aGJ (N:Nat):SM:=(sSeq (sAsg (eTm fSplit (eVar 0) (aCons (eC (.str " ")) aNil)) (gStr 1 (gsCons' (gN 1) (gsCons' (gN 2) gsNil))))
    (sSeq (sIf (tOr' (tB (eTabIn true C.aBM (eVar 1))) (tB (eBin dNe (eCa fLen (aCons (eVar 2) aNil)) (eBinS dAddE (eC (.int 1)) (eCa fLen (aCons (eTabIx C.aBM (eVar 1)) aNil)))))) (sRaiseF 4 4 (eC (.int 0))) sNop)
    (sSeq (sAsg (eVar 2) (gStr 1 (gsCons' (gN 3) (gsCons' (gN 4) gsNil))))
    (sRet (eBinS dAddE (eTup (aCons (eVar 1) (aCons (eCall (aA3 N) (nA 1 (aCons (eVar 3) aNil))) aNil))) (eCa fTuple (aCons (eLc (iZipL (aCons (eVar 4) (aCons (eTabIx C.aBM (eVar 1)) aNil))) (.tp [5,6]) tTrue (eCall (aBG N) (nA 2 (aCons (eVar 5) (aCons (eVar 6) aNil)))) [5,6]) aNil)))))))
def aBN (N:Nat):FM:=fnM 7 (aGJ N)
def aGr (N:Nat):SM:=(sSeq (sIf (tNt (tT (eIsTy .str (eVar 0)))) (sRaiseF 4 4 (eC (.int 0))) sNop)
    (sSeq (sSet 1 (eNew aNil))
    (sSeq (sFor (iEnum (aCons (eTm fSplit (eVar 0) (aCons (eC (.str "\n")) aNil)) aNil)) (gTp 2 (gsCons' (gN 2) (gsCons' (gN 3) gsNil))) (sSeq (sSet 4 (eC .non))
    (sSeq (sTryG [([tbR rsL 4],none,(sSet 4 (eC .non)))] (sSet 4 (eCall (aBN N) (nA 1 (aCons (eVar 3) aNil)))))
    (sSeq (sIf (tOr' (tB (eBin dIs (eVar 4) (eC .non))) (tNt (tT (eCall (aC8 N) (nA 2 (aCons (eVar 4) (aCons (eIf (tB (eBinS dNeS (eVar 1) (eLst aNil))) (eBinS ixD (eVar 1) (eNeg (eC (.int 1)))) (eC .non)) aNil))))))) (sRaiseF 4 4 (eVar 2)) sNop)
    (sDrop (eApp (eVar 1) (aCons (eVar 4) aNil)))))))
    (sSeq (sIf (tB (eBin dNe (eBinS ixD (eBinS ixD (eVar 1) (eNeg (eC (.int 1)))) (eC (.int 0))) (eC (.str "now")))) (sRaiseF 4 4 (eCa fLen (aCons (eVar 1) aNil))) sNop)
    (sRet (eCa fTuple (aCons (eVar 1) aNil)))))))
def aBH (N:Nat):FM:=fnM 5 (aGr N)
def aDD (N:Nat):SM:=(sSeq (sTry 1 (tbR rsL 4) (sDrop (eCall (aBH N) (nA 1 (aCons (eVar 0) aNil)))) (sRet (eFldY [4,17] 4 (eVar 1))))
    (sRet (eC .non)))
def aA6 (N:Nat):FM:=fnM 2 (aDD N)
def aDu (N:Nat):SM:=(sSeq (sIf (tNt (tT (eIsTy .tuple (eVar 0)))) (sRaiseF 17 4 (eC .non)) sNop)
    (sSeq (sSet 1 (eC .non))
    (sSeq (sFor (iEnum (aCons (eVar 0) aNil)) (gTp 2 (gsCons' (gN 2) (gsCons' (gN 3) gsNil))) (sSeq (sIf (tNt (tT (eCall (aC8 N) (nA 2 (aCons (eVar 3) (aCons (eVar 1) aNil)))))) (sRet (eVar 2)) sNop)
    (sSet 1 (eVar 3))))
    (sRet (eIf (tOr' (tB (eBin dIs (eVar 1) (eC .non))) (tB (eBin dNe (eBinS ixD (eVar 1) (eC (.int 0))) (eC (.str "now"))))) (eCa fLen (aCons (eVar 0) aNil)) (eC .non))))))
def aCl (N:Nat):FM:=fnM 4 (aDu N)
def aC9 (N:Nat):SM:=(sSeq (sSet 1 (eCall (aCl N) (nA 1 (aCons (eVar 0) aNil))))
    (sIf (tB (eBin dIsNot (eVar 1) (eC .non))) (sRaiseF 17 4 (eVar 1)) sNop))
def aCd (N:Nat):FM:=fnM 2 (aC9 N)
def aC0 (N:Nat):SM:=(sSeq (sIf (tOr' (tB (eBin dIs (eVar 0) (eC .non))) (tB (eBin dEq (eVar 0) (eC (.tup [.int 0, .int 1]))))) (sRet (eC (.str "-"))) sNop)
    (sSeq (sIf (tT (eIsTy .tuple (eVar 0))) (sRet (eCall (C.aBU N) (nA 1 (aCons (eVar 0) aNil)))) sNop)
    (sRet (eCa fStr (aCons (eVar 0) aNil)))))
def aBC (N:Nat):FM:=fnM 1 (aC0 N)
def aGs (N:Nat):SM:=(sSeq (sAsg (eVar 0) (gStr 2 (gsCons' (gN 1) (gsCons' (gN 2) (gsCons' (gN 3) gsNil)))))
    (sRet (eTm fJoin (eC (.str " ")) (aCons (eBinS dAddS (eLst (aCons (eVar 1) (aCons (eCall (C.aBU N) (nA 1 (aCons (eVar 2) aNil))) aNil))) (eLc (iSeq (eVar 3)) (.nm 4) tTrue (eCall (aBC N) (nA 1 (aCons (eVar 4) aNil))) [4])) aNil))))
def aDg (N:Nat):FM:=fnM 5 (aGs N)
def aGt (N:Nat):SM:=(sSeq (sDrop (eCall (aCd N) (nA 1 (aCons (eVar 0) aNil))))
    (sRet (eTm fJoin (eC (.str "\n")) (aCons (eLc (iSeq (eVar 0)) (.nm 1) tTrue (eCall (aDg N) (nA 1 (aCons (eVar 1) aNil))) [1]) aNil))))
def aCe (N:Nat):FM:=fnM 2 (aGt N)
def aUN (N:Nat):SM:=(sSeq (sSet 1 (eC .non))
    (sSeq (sFor (iRg1 (aCons (eCa fMax (aCons (eC (.int 1)) (aCons (eCa fMin (aCons (eC (.int 5)) (aCons (eCa fLen (aCons (eVar 0) aNil)) aNil))) aNil))) aNil)) (gN 2) (sSeq (sSet 3 (eCall (aBF N) (nA 1 (aCons (eCall (C.aDr N) (nA 1 (aCons (eCall (C.aDq N) (nA 2 (aCons (eVar 0) (aCons (eVar 2) aNil)))) aNil))) aNil))))
    (sSeq (sSet 4 (eTm fJoin (eC (.str "\n")) (aCons (eLc (iSeq (eVar 3)) (.nm 5) tTrue (eCall (aBB N) (nA 1 (aCons (eVar 5) aNil))) [5]) aNil)))
    (sSeq (sIf (tOr' (tB (eBin dNe (eCall (aCe N) (nA 1 (aCons (eVar 3) aNil))) (eVar 4))) (tOr' (tNt (tT (eCall (aBS N) (nA 2 (aCons (eCall (aBH N) (nA 1 (aCons (eVar 4) aNil))) (aCons (eVar 3) aNil)))))) (tB (eBin dNe (eCall (aCe N) (nA 1 (aCons (eCall (aBH N) (nA 1 (aCons (eVar 4) aNil))) aNil))) (eVar 4))))) (sRet (eC (.bl false))) sNop)
    (sSeq (sIf (tOr' (tB (eBin dNe (eCall (aA6 N) (nA 1 (aCons (eBinS dAddS (eVar 4) (eC (.str "\nnow 99999"))) aNil))) (eCa fLen (aCons (eVar 3) aNil)))) (tB (eBin dNe (eCall (aA6 N) (nA 1 (aCons (eBinS dAddS (eVar 4) (eC (.str "\n"))) aNil))) (eCa fLen (aCons (eVar 3) aNil))))) (sRet (eC (.bl false))) sNop)
    (sSeq (sIf (tAn (tB (eBin dGt (eCa fLen (aCons (eVar 3) aNil)) (eC (.int 1)))) (tB (eBin dNe (eCall (aA6 N) (nA 1 (aCons (eTm fJoin (eC (.str "\n")) (aCons (eLc (iSeq (eSlA (eVar 3) oNone (oSome (eNeg (eC (.int 1)))))) (.nm 5) tTrue (eCall (aBB N) (nA 1 (aCons (eVar 5) aNil))) [5]) aNil)) aNil))) (eBin dSub (eCa fLen (aCons (eVar 3) aNil)) (eC (.int 1)))))) (sRet (eC (.bl false))) sNop)
    (sSeq (sIf (tAn (tB (eBin dIsNot (eVar 1) (eC .non))) (tB (eBin dNe (eBin dEq (eCall (aCe N) (nA 1 (aCons (eVar 1) aNil))) (eVar 4)) (eBin dEq (eVar 1) (eVar 3))))) (sRet (eC (.bl false))) sNop)
    (sSet 1 (eVar 3)))))))))
    (sRet (eC (.bl true)))))
def aOJ (N:Nat):FM:=fnM 6 (aUN N)
structure Txt (K:PySem.W.Frag) (mg:Str→Option Value) (base:Heap) (w:World):Prop where
  tb:TBs K mg base tsL
  d_LOOKS:TabG K w mg "LOOKS" aGF
  d_PARTS:TabK K w mg "PARTS" C.aBM
  b_abs:mg "abs"=none
  b_all:mg "all"=none
  b_bool:mg "bool"=none
  b_divmod:mg "divmod"=none
  b_enumerate:mg "enumerate"=none
  b_int:mg "int"=none
  b_isinstance:mg "isinstance"=none
  b_len:mg "len"=none
  b_max:mg "max"=none
  b_min:mg "min"=none
  b_range:mg "range"=none
  b_str:mg "str"=none
  b_tuple:mg "tuple"=none
  b_zip:mg "zip"=none
  f__law_cell:∃ f fd,mg "_law_cell"=some (.ref f)∧FunD K "_law_cell" "_law_cell" (defArgs aAD) (defBody aAD) (defScope aAD) [] [] f fd
  f__law_r:∃ f fd,mg "_law_r"=some (.ref f)∧FunD K "_law_r" "_law_r" (defArgs aBZ) (defBody aBZ) (defScope aBZ) [] [] f fd
  f__law_add:∃ f fd,mg "_law_add"=some (.ref f)∧FunD K "_law_add" "_law_add" (defArgs aBc) (defBody aBc) (defScope aBc) [] [] f fd
  f__law_take:∃ f fd,mg "_law_take"=some (.ref f)∧FunD K "_law_take" "_law_take" (defArgs aAE) (defBody aAE) (defScope aAE) [] [] f fd
  f__law_moment:∃ f fd,mg "_law_moment"=some (.ref f)∧FunD K "_law_moment" "_law_moment" (defArgs aAz) (defBody aAz) (defScope aAz) [] [] f fd
  f__law_name:∃ f fd,mg "_law_name"=some (.ref f)∧FunD K "_law_name" "_law_name" (defArgs aA2) (defBody aA2) (defScope aA2) [] [] f fd
  f__law_rate:∃ f fd,mg "_law_rate"=some (.ref f)∧FunD K "_law_rate" "_law_rate" (defArgs aAF) (defBody aAF) (defScope aAF) [] [] f fd
  f__law_drawn_log:∃ f fd,mg "_law_drawn_log"=some (.ref f)∧FunD K "_law_drawn_log" "_law_drawn_log" (defArgs aAq) (defBody aAq) (defScope aAq) [] [] f fd
  f__law_is__r3:∃ f fd,mg "_law_is"=some (.ref f)∧FunD K "_law_is" "_law_is" (defArgs aAw) (defBody aAw) (defScope aAw) [] [] f fd
  f__law_is__r2:∃ f fd,mg "_law_is"=some (.ref f)∧FunD K "_law_is" "_law_is" (defArgs aAx) (defBody aAx) (defScope aAx) [] [] f fd
  f__law_is__r1:∃ f fd,mg "_law_is"=some (.ref f)∧FunD K "_law_is" "_law_is" (defArgs aAy) (defBody aAy) (defScope aAy) [] [] f fd
  f__law_is:∃ f fd,mg "_law_is"=some (.ref f)∧FunD K "_law_is" "_law_is" (defArgs aBl) (defBody aBl) (defScope aBl) [] [] f fd
  f__law_word:∃ f fd,mg "_law_word"=some (.ref f)∧FunD K "_law_word" "_law_word" (defArgs aAG) (defBody aAG) (defScope aAG) [] [] f fd
  f__law_line:∃ f fd,mg "_law_line"=some (.ref f)∧FunD K "_law_line" "_law_line" (defArgs aA7) (defBody aA7) (defScope aA7) [] [] f fd
  f__law_pool:∃ f fd,mg "_law_pool"=some (.ref f)∧FunD K "_law_pool" "_law_pool" (defArgs aAH) (defBody aAH) (defScope aAH) [] [] f fd
  f_is_whole:∃ f fd,mg "is_whole"=some (.ref f)∧FunD K "is_whole" "is_whole" (defArgs aBd) (defBody aBd) (defScope aBd) [] [] f fd
  f_shared:∃ f fd,mg "shared"=some (.ref f)∧FunD K "shared" "shared" (defArgs aB_) (defBody aB_) (defScope aB_) [] [] f fd
  f_is_ratio:∃ f fd,mg "is_ratio"=some (.ref f)∧FunD K "is_ratio" "is_ratio" (defArgs aAS) (defBody aAS) (defScope aAS) [] [] f fd
  f_check_ratio:∃ f fd,mg "check_ratio"=some (.ref f)∧FunD K "check_ratio" "check_ratio" (defArgs aA0) (defBody aA0) (defScope aA0) [] [] f fd
  f_check_two:∃ f fd,mg "check_two"=some (.ref f)∧FunD K "check_two" "check_two" (defArgs aAI) (defBody aAI) (defScope aAI) [] [] f fd
  f_is_before:∃ f fd,mg "is_before"=some (.ref f)∧FunD K "is_before" "is_before" (defArgs aAJ) (defBody aAJ) (defScope aAJ) [] [] f fd
  f_is_rate:∃ f fd,mg "is_rate"=some (.ref f)∧FunD K "is_rate" "is_rate" (defArgs aBt) (defBody aBt) (defScope aBt) [] [] f fd
  f_is_time:∃ f fd,mg "is_time"=some (.ref f)∧FunD K "is_time" "is_time" (defArgs aBu) (defBody aBu) (defScope aBu) [] [] f fd
  f_is_least:∃ f fd,mg "is_least"=some (.ref f)∧FunD K "is_least" "is_least" (defArgs aBe) (defBody aBe) (defScope aBe) [] [] f fd
  f_is_most:∃ f fd,mg "is_most"=some (.ref f)∧FunD K "is_most" "is_most" (defArgs aBv) (defBody aBv) (defScope aBv) [] [] f fd
  f_is_name:∃ f fd,mg "is_name"=some (.ref f)∧FunD K "is_name" "is_name" (defArgs aBm) (defBody aBm) (defScope aBm) [] [] f fd
  f_is_within:∃ f fd,mg "is_within"=some (.ref f)∧FunD K "is_within" "is_within" (defArgs aAK) (defBody aAK) (defScope aAK) [] [] f fd
  f_is_size:∃ f fd,mg "is_size"=some (.ref f)∧FunD K "is_size" "is_size" (defArgs aBw) (defBody aBw) (defScope aBw) [] [] f fd
  f_is_way:∃ f fd,mg "is_way"=some (.ref f)∧FunD K "is_way" "is_way" (defArgs aCa) (defBody aCa) (defScope aCa) [] [] f fd
  f_is_weight:∃ f fd,mg "is_weight"=some (.ref f)∧FunD K "is_weight" "is_weight" (defArgs aAL) (defBody aAL) (defScope aAL) [] [] f fd
  f_is_part:∃ f fd,mg "is_part"=some (.ref f)∧FunD K "is_part" "is_part" (defArgs aBx) (defBody aBx) (defScope aBx) [] [] f fd
  f_is_row:∃ f fd,mg "is_row"=some (.ref f)∧FunD K "is_row" "is_row" (defArgs aBI) (defBody aBI) (defScope aBI) [] [] f fd
  f_number_of:∃ f fd,mg "number_of"=some (.ref f)∧FunD K "number_of" "number_of" (defArgs aA8) (defBody aA8) (defScope aA8) [] [] f fd
  f_is_number:∃ f fd,mg "is_number"=some (.ref f)∧FunD K "is_number" "is_number" (defArgs aA9) (defBody aA9) (defScope aA9) [] [] f fd
  f_lowest:∃ f fd,mg "lowest"=some (.ref f)∧FunD K "lowest" "lowest" (defArgs aCb) (defBody aCb) (defScope aCb) [] [] f fd
  f_show_ratio:∃ f fd,mg "show_ratio"=some (.ref f)∧FunD K "show_ratio" "show_ratio" (defArgs aA4) (defBody aA4) (defScope aA4) [] [] f fd
  f_read_ratio:∃ f fd,mg "read_ratio"=some (.ref f)∧FunD K "read_ratio" "read_ratio" (defArgs aA5) (defBody aA5) (defScope aA5) [] [] f fd
  f_part_of:∃ f fd,mg "part_of"=some (.ref f)∧FunD K "part_of" "part_of" (defArgs aBy) (defBody aBy) (defScope aBy) [] [] f fd
  f_row_of:∃ f fd,mg "row_of"=some (.ref f)∧FunD K "row_of" "row_of" (defArgs aBJ) (defBody aBJ) (defScope aBJ) [] [] f fd
  f_read_log:∃ f fd,mg "read_log"=some (.ref f)∧FunD K "read_log" "read_log" (defArgs aBf) (defBody aBf) (defScope aBf) [] [] f fd
  f__law_refused:∃ f fd,mg "_law_refused"=some (.ref f)∧FunD K "_law_refused" "_law_refused" (defArgs aAu) (defBody aAu) (defScope aAu) [] [] f fd
  f_first_odd:∃ f fd,mg "first_odd"=some (.ref f)∧FunD K "first_odd" "first_odd" (defArgs aAM) (defBody aAM) (defScope aAM) [] [] f fd
  f_check_forms:∃ f fd,mg "check_forms"=some (.ref f)∧FunD K "check_forms" "check_forms" (defArgs aA1) (defBody aA1) (defScope aA1) [] [] f fd
  f_show_part:∃ f fd,mg "show_part"=some (.ref f)∧FunD K "show_part" "show_part" (defArgs aAN) (defBody aAN) (defScope aAN) [] [] f fd
  f_show_row:∃ f fd,mg "show_row"=some (.ref f)∧FunD K "show_row" "show_row" (defArgs aAT) (defBody aAT) (defScope aAT) [] [] f fd
  f_show_log:∃ f fd,mg "show_log"=some (.ref f)∧FunD K "show_log" "show_log" (defArgs aAU) (defBody aAU) (defScope aAU) [] [] f fd
  f_law:∃ f fd,mg "law"=some (.ref f)∧FunD K "law" "law" (defArgs aEY) (defBody aEY) (defScope aEY) [] [] f fd
  c_FIGURES_logtexts:∃ t,mg "FIGURES_logtexts"=some (.str "0123456789" t)
  c_FIGURES_ratios:∃ t,mg "FIGURES_ratios"=some (.str "0123456789" t)
  c_LETTERS:∃ t,mg "LETTERS"=some (.str "abcdefghijklmnopqrstuvwxyz" t)
  c_MOST_LETTERS:∃ t,mg "MOST_LETTERS"=some (.int 8 t)
  c_MOST_SIZE:∃ t,mg "MOST_SIZE"=some (.int 999 t)
  c_MOST_WEIGHT:∃ t,mg "MOST_WEIGHT"=some (.int 99 t)
  c_NONE:∃ a,mg "NONE"=some (.ref a)∧KtT K a [.int 0, .int 1]
  x_NoRatio:∃ C,mg "NoRatio"=some (.ref C)∧XcO K C bmValueError "ValueError.__new__"
  y_NoText:∃ C fI fd Bc,mg "NoText"=some (.ref C)∧XoC K C "ValueError.__new__" bmValueError∧PySem.W.findIn K (.ref C) "__init__"=some (some (.ref fI))∧PySem.W.typeIn K (.ref fI)=some (.type "function")∧PySem.W.findIn K (.ref C) "row"=some none∧mg "TagError"=some (.ref Bc)∧HdC K Bc "ValueError.__init__"∧FunD K "__init__" "NoText.__init__" (defArgs aAO) (defBody aAO) (defScope aAO) [] [] fI fd
  y_NoLog:∃ C fI fd Bc,mg "NoLog"=some (.ref C)∧XoC K C "ValueError.__new__" bmValueError∧PySem.W.findIn K (.ref C) "__init__"=some (some (.ref fI))∧PySem.W.typeIn K (.ref fI)=some (.type "function")∧PySem.W.findIn K (.ref C) "row"=some none∧mg "TagError"=some (.ref Bc)∧HdC K Bc "ValueError.__init__"∧FunD K "__init__" "NoLog.__init__" (defArgs aAW) (defBody aAW) (defScope aAW) [] [] fI fd
  z_row:XcF K mg [4,17] 4
  x_NoText:∃ C,mg "NoText"=some (.ref C)
  tx_NoText:∀ D,mg "NoText"=some (.ref D)→∀ cn C q,tbR rsL 4 cn=some q→mg (cname cn)=some (.ref C)→PySem.W.exmOne K (.ref C) (.ref D)=some q
section
variable {P:Program}{w:World}{K:PySem.W.Frag}{mg:Str→Option Value}{base:Heap}
theorem aCC (T:Txt K mg base w):XfI P w K mg base "NoText" "ValueError.__init__" "ValueError.__new__" bmValueError (fname 4):=by
  obtain ⟨C,fI,fd,Bc,h1,h2,h3,h4,h5,h6,h7,F⟩:=T.y_NoText
  refine ⟨C,fI,fd,"self","row",h1,h2,h3,h4,h5,F.bindsN (ps:=["self","row"]) fun _ _ _ _ _ _ us hl=>match us,hl with | [_,_],_=>rfl,aSP F aFX fun cdv A outer s H E => ?_⟩
  exact aPP aAv h6 h7 (pe_var rfl (Or.inl rfl) (by decide) (by decide)) (pe_var rfl (Or.inl rfl) (by decide) (by decide)) (pe_var rfl (Or.inl rfl) (by decide) (by decide))
theorem aOb (T:Txt K mg base w):XfI P w K mg base "NoLog" "ValueError.__init__" "ValueError.__new__" bmValueError (fname 4):=by
  obtain ⟨C,fI,fd,Bc,h1,h2,h3,h4,h5,h6,h7,F⟩:=T.y_NoLog
  refine ⟨C,fI,fd,"self","row",h1,h2,h3,h4,h5,F.bindsN (ps:=["self","row"]) fun _ _ _ _ _ _ us hl=>match us,hl with | [_,_],_=>rfl,aSP F aGq fun cdv A outer s H E => ?_⟩
  exact aPP aAv h6 h7 (pe_var rfl (Or.inl rfl) (by decide) (by decide)) (pe_var rfl (Or.inl rfl) (by decide) (by decide)) (pe_var rfl (Or.inl rfl) (by decide) (by decide))
theorem aKP (N:Nat) (T:Txt K mg base w) {fa:Addr}{fd:FuncData}(F:FunD K "_law_cell" "_law_cell" (defArgs aAD) (defBody aAD) (defScope aAD) [] [] fa fd):FnG P w K mg base (0+1) fa fd aCm (spM K mg aCm.length (fnM aHN.length (C.aFw N))):=by
  apply aAm F aK4
  intro cdv A outer s H E c
  exact (aAd (aBi (aAs aO0 (rv 1) (re_b aBq rfl T.b_len aBr (aAa (rv 0) aAc)) (nomark _)) (aAf (aAk (aAB (rv 0) (rv 1)))) aAn)
      (aAd (aAR (i:=2) c.nd rfl (aBg aG3 (aBg aDH aAe (aAA aBo (aAA aBo (aBg aDH (rv 1) (rv 1)) (aBg aDH aAe (rv 1))) aAe)) aAe))
      (aAd (aJ_ c.po c.calm (ri_e (aRK (rv 0) aGe (aGf aAe))) (aAX (i:=3) c.nd rfl) (aAf (aAR (i:=2) c.nd rfl (aBg aG3 (aAA aBo (aBg aDH (rv 2) aAe) (rv 3)) aAe))))
      (aAf (aAk (rv 2))))))
theorem aKQ (N:Nat) (T:Txt K mg base w) {fa:Addr}{fd:FuncData}(F:FunD K "_law_cell" "_law_cell" (defArgs aAD) (defBody aAD) (defScope aAD) [] [] fa fd):FnG P w K mg base 1 fa fd aCm (spM K mg aCm.length (C.aDq N)):=aKP N T F
theorem aKR (N:Nat) (T:Txt K mg base w):Df P w K mg base "_law_cell" aCm 1 (C.aDq N):=by
  obtain ⟨fa,fd,g1,F⟩:=T.f__law_cell
  exact ⟨fa,fd,g1,F.kp,F.bindsN (ps:=aCm) fun _ _ _ _ _ _ us hl=>match us,hl with | [_,_],_=>rfl,aKQ N T F⟩
theorem aQE (N:Nat) (T:Txt K mg base w) {fa:Addr}{fd:FuncData}(F:FunD K "_law_r" "_law_r" (defArgs aBZ) (defBody aBZ) (defScope aBZ) [] [] fa fd):FnG P w K mg base (0+1) fa fd aEw (spM K mg aEw.length (fnM aNY.length (C.aGI N))):=by
  apply aAm F aQ7
  intro cdv A outer s H E c
  exact (aAd (aND (i:=2) (j:=3) c.calm c.nd rfl rfl (by decide) (aAa (re_b aJX rfl T.b_abs aJY (aAa (rv 0) aAc)) (aAa (re_b aJX rfl T.b_abs aJY (aAa (rv 1) aAc)) aAc)))
      (aAd (aNE N c.po (aAs aLG (rv 3) aAe (nomark _)) (aAf (aND (i:=2) (j:=3) c.calm c.nd rfl rfl (by decide) (aAa (rv 3) (aAa (aBg aG3 (rv 2) (rv 3)) aAc)))))
      (aAd (aBi (aAs aO0 (rv 1) aAe (nomark _)) (aAf (aAR (i:=2) c.nd rfl (aBg aSG aAe (rv 2)))) aAn)
      (aAf (aAk (aCf (aAa (aBg aJT (rv 0) (rv 2)) (aAa (aBg aJT (rv 1) (rv 2)) aAc))))))))
theorem aQF (N:Nat) (T:Txt K mg base w) {fa:Addr}{fd:FuncData}(F:FunD K "_law_r" "_law_r" (defArgs aBZ) (defBody aBZ) (defScope aBZ) [] [] fa fd):FnG P w K mg base 1 fa fd aEw (spM K mg aEw.length (C.aDc N)):=aQE N T F
theorem aFY (N:Nat) (T:Txt K mg base w):Df P w K mg base "_law_r" aEw 1 (C.aDc N):=by
  obtain ⟨fa,fd,g1,F⟩:=T.f__law_r
  exact ⟨fa,fd,g1,F.kp,F.bindsN (ps:=aEw) fun _ _ _ _ _ _ us hl=>match us,hl with | [_,_],_=>rfl,aQF N T F⟩
theorem aM_ (N:Nat) (T:Txt K mg base w) {fa:Addr}{fd:FuncData}(F:FunD K "_law_add" "_law_add" (defArgs aBc) (defBody aBc) (defScope aBc) [] [] fa fd):FnG P w K mg base (1+1) fa fd aCK (spM K mg aCK.length (fnM aIN.length (C.aGl N))):=by
  apply aAm F aMT
  intro cdv A outer s H E c
  exact (aAf (aAk (aAg c (aFY N T) (by decide) (aAa (aAA aBo (aBg aDH (aAB (rv 0) aAe) (aAB (rv 1) aAe)) (aBg aDH (aAB (rv 1) aAe) (aAB (rv 0) aAe))) (aAa (aBg aDH (aAB (rv 0) aAe) (aAB (rv 1) aAe)) aAc)))))
theorem aNa (N:Nat) (T:Txt K mg base w) {fa:Addr}{fd:FuncData}(F:FunD K "_law_add" "_law_add" (defArgs aBc) (defBody aBc) (defScope aBc) [] [] fa fd):FnG P w K mg base 2 fa fd aCK (spM K mg aCK.length (C.aDL N)):=aM_ N T F
theorem aNb (N:Nat) (T:Txt K mg base w):Df P w K mg base "_law_add" aCK 2 (C.aDL N):=by
  obtain ⟨fa,fd,g1,F⟩:=T.f__law_add
  exact ⟨fa,fd,g1,F.kp,F.bindsN (ps:=aCK) fun _ _ _ _ _ _ us hl=>match us,hl with | [_,_],_=>rfl,aNa N T F⟩
theorem aKS (N:Nat) (T:Txt K mg base w) {fa:Addr}{fd:FuncData}(F:FunD K "_law_take" "_law_take" (defArgs aAE) (defBody aAE) (defScope aAE) [] [] fa fd):FnG P w K mg base (0+1) fa fd aCn (spM K mg aCn.length (fnM aHO.length (C.aFy N))):=by
  apply aAm F aK5
  intro cdv A outer s H E c
  exact (aAd (aEH (aAA aBo (aAB (rv 0) aAe) aAe) (aP4 (rv 0) aAe))
      (aAd (aAR (i:=2) c.nd rfl (aAB (rv 0) aAe))
      (aAd (aEH (aBg aG3 (aAA aBo (aBg aDH (rv 2) (aAA aBo (aBg aG3 (rv 2) aAe) aAe)) (aBg aDH aAe (aAB (rv 0) aAe))) aAe) (aP4 (rv 0) aAe))
      (aAd (aBi (aAs aLG (aAB (rv 0) aAe) aAe (nomark _)) (aAd (aEH (re_b aO1 rfl T.b_divmod aP3 (aAa (aAB (rv 0) aAe) (aAa (rv 1) aAc))) (aIH c.calm (aA_ (aP4 (rv 0) aAe) (aA_ (aAX (i:=3) c.nd rfl) aDA))))
      (aAf (aAk (rv 3)))) aAn)
      (aAf (aAk (aBg aG3 (aBg aJT (aAB (rv 0) aAe) aAe) (rv 1))))))))
theorem aKT (N:Nat) (T:Txt K mg base w) {fa:Addr}{fd:FuncData}(F:FunD K "_law_take" "_law_take" (defArgs aAE) (defBody aAE) (defScope aAE) [] [] fa fd):FnG P w K mg base 1 fa fd aCn (spM K mg aCn.length (C.aAo N)):=aKS N T F
theorem aAr (N:Nat) (T:Txt K mg base w):Df P w K mg base "_law_take" aCn 1 (C.aAo N):=by
  obtain ⟨fa,fd,g1,F⟩:=T.f__law_take
  exact ⟨fa,fd,g1,F.kp,F.bindsN (ps:=aCn) fun _ _ _ _ _ _ us hl=>match us,hl with | [_,_],_=>rfl,aKT N T F⟩
theorem aIs (N:Nat) (T:Txt K mg base w) {fa:Addr}{fd:FuncData}(F:FunD K "_law_moment" "_law_moment" (defArgs aAz) (defBody aAz) (defScope aAz) [] [] fa fd):FnG P w K mg base (2+1) fa fd aB4 (spM K mg aB4.length (fnM aFU.length (C.aEu N))):=by
  apply aAm F aIm
  intro cdv A outer s H E c
  exact (aAf (aAk (aAg c (aNb N T) (by decide) (aAa (rv 1) (aAa (aAg c (aFY N T) (by decide) (aAa (aAg c (aAr N T) (by decide) (aAa (rv 0) (aAa aAe aAc))) (aAa (aAB (aD3 (aAa aAe (aAa aAe (aAa aAe (aAa aAe (aAa aAe aAc)))))) (aAg c (aAr N T) (by decide) (aAa (rv 0) (aAa aAe aAc)))) aAc))) aAc)))))
theorem aIt (N:Nat) (T:Txt K mg base w) {fa:Addr}{fd:FuncData}(F:FunD K "_law_moment" "_law_moment" (defArgs aAz) (defBody aAz) (defScope aAz) [] [] fa fd):FnG P w K mg base 3 fa fd aB4 (spM K mg aB4.length (C.aCc N)):=aIs N T F
theorem aEX (N:Nat) (T:Txt K mg base w):Df P w K mg base "_law_moment" aB4 3 (C.aCc N):=by
  obtain ⟨fa,fd,g1,F⟩:=T.f__law_moment
  exact ⟨fa,fd,g1,F.kp,F.bindsN (ps:=aB4) fun _ _ _ _ _ _ us hl=>match us,hl with | [_,_],_=>rfl,aIt N T F⟩
theorem aKU (N:Nat) (T:Txt K mg base w) {fa:Addr}{fd:FuncData}(F:FunD K "_law_name" "_law_name" (defArgs aA2) (defBody aA2) (defScope aA2) [] [] fa fd):FnG P w K mg base (1+1) fa fd aCo (spM K mg aCo.length (fnM aDv.length (C.aFz N))):=by
  apply aAm F aK6
  intro cdv A outer s H E c
  exact (aAd (aAR (i:=2) c.nd rfl (aD3 (aAa aAp (aAa aAp (aAa aAp (aAa aAp (aAa aAp (aAa aAp (aAa aAp (aAa aAp (aAa aAp (aAa aAp (aAa aAp (aAa aAp aAc))))))))))))))
      (aAd (aAR (i:=3) c.nd rfl (aAB (rv 2) (aAg c (aAr N T) (by decide) (aAa (rv 0) (aAa aAe aAc)))))
      (aAd (aBi (aAs aLG (aAg c (aAr N T) (by decide) (aAa (rv 0) (aAa aAe aAc))) aAe (nomark _)) (aAf (aAR (i:=3) c.nd rfl (aJj aGj PySem.F.slot_str_join PySem.F.type_str_join aAp (aAa (aEE [("_law_k",7)] c.calm c.nd (aDh T.b_range (aAa (aAA aBo aAe (aAg c (aAr N T) (by decide) (aAa (rv 0) (aAa aAe aAc)))) aAc)) (blkOk_by (own:=[("_law_k",7)]) (N:=aDv) (sc:=defScope aA2) (by decide +kernel)) (by decide) (fun _ _ _ _ _=>(pg_name (i:=7) c.nd rfl (by first | exact Or.inl rfl | exact Or.inr rfl))) (fun _ _ _ _ _=>pts0) (fun _ _ _ _ _=>(aAB aAp (aCk c.blk (aAr N T) (by decide) (aAa (rv 0) (aAa aAe aAc)))))) aAc)))) aAn)
      (aAd (aAR (i:=4) c.nd rfl (aAA aBo (aD3 (aAa (rv 3) aAc)) (aEE [("_law_letter",5)] c.calm c.nd (aNI aAp) (blkOk_by (own:=[("_law_letter",5)]) (N:=aDv) (sc:=defScope aA2) (by decide +kernel)) (by decide) (fun _ _ _ _ _=>(pg_name (i:=5) c.nd rfl (by first | exact Or.inl rfl | exact Or.inr rfl))) (fun _ _ _ _ _=>pts0) (fun _ _ _ _ _=>(aAA aBo (aRK (rv 3) aGe (aGf aAe)) (rv 5))))))
      (aAf (aAk (aAB (aEE [("_law_one",6)] c.calm c.nd (ri_e (rv 4)) (blkOk_by (own:=[("_law_one",6)]) (N:=aDv) (sc:=defScope aA2) (by decide +kernel)) (by decide) (fun _ _ _ _ _=>(pg_name (i:=6) c.nd rfl (by first | exact Or.inl rfl | exact Or.inr rfl))) (fun _ _ _ _ _=>pts_one (aJf aPL (rv 6) (rv 1))) (fun _ _ _ _ _=>(rv 6))) aAe)))))))
theorem aKV (N:Nat) (T:Txt K mg base w) {fa:Addr}{fd:FuncData}(F:FunD K "_law_name" "_law_name" (defArgs aA2) (defBody aA2) (defScope aA2) [] [] fa fd):FnG P w K mg base 2 fa fd aCo (spM K mg aCo.length (C.aDt N)):=aKU N T F
theorem aKW (N:Nat) (T:Txt K mg base w):Df P w K mg base "_law_name" aCo 2 (C.aDt N):=by
  obtain ⟨fa,fd,g1,F⟩:=T.f__law_name
  exact ⟨fa,fd,g1,F.kp,F.bindsN (ps:=aCo) fun _ _ _ _ _ _ us hl=>match us,hl with | [_,_],_=>rfl,aKV N T F⟩
theorem aKX (N:Nat) (T:Txt K mg base w) {fa:Addr}{fd:FuncData}(F:FunD K "_law_rate" "_law_rate" (defArgs aAF) (defBody aAF) (defScope aAF) [] [] fa fd):FnG P w K mg base (1+1) fa fd aCp (spM K mg aCp.length (fnM aHP.length (C.aEK N))):=by
  apply aAm F aK7
  intro cdv A outer s H E c
  exact (aAd (aAR (i:=1) c.nd rfl (aAA aBo aAe (aAg c (aAr N T) (by decide) (aAa (rv 0) (aAa aAe aAc)))))
      (aAf (aAk (aAg c (aFY N T) (by decide) (aAa (aAA aBo aAe (aAg c (aAr N T) (by decide) (aAa (rv 0) (aAa (re_b (aSI c.calm) rfl T.b_min aSJ (aAa aAe (aAa (rv 1) aAc))) aAc)))) (aAa (rv 1) aAc))))))
theorem aKY (N:Nat) (T:Txt K mg base w) {fa:Addr}{fd:FuncData}(F:FunD K "_law_rate" "_law_rate" (defArgs aAF) (defBody aAF) (defScope aAF) [] [] fa fd):FnG P w K mg base 2 fa fd aCp (spM K mg aCp.length (C.aBT N)):=aKX N T F
theorem aG9 (N:Nat) (T:Txt K mg base w):Df P w K mg base "_law_rate" aCp 2 (C.aBT N):=by
  obtain ⟨fa,fd,g1,F⟩:=T.f__law_rate
  exact ⟨fa,fd,g1,F.kp,F.bindsN (ps:=aCp) fun _ _ _ _ _ _ us hl=>match us,hl with | [_],_=>rfl,aKY N T F⟩
theorem aGu (N:Nat) (T:Txt K mg base w) {fa:Addr}{fd:FuncData}(F:FunD K "_law_drawn_log" "_law_drawn_log" (defArgs aAq) (defBody aAq) (defScope aAq) [] [] fa fd):FnG P w K mg base (3+1) fa fd aAY (spM K mg aAY.length (fnM aEA.length (aC_ N))):=by
  apply aAm F aGm
  intro cdv A outer s H E c
  exact (aAd (aND (i:=1) (j:=2) c.calm c.nd rfl rfl (by decide) (aAa (aP1 aAc) (aAa (aCf (aAa aAe (aAa aAe aAc))) aAc)))
      (aAd (aJ_ c.po c.calm (aDh T.b_range (aAa (aAg c (aAr N T) (by decide) (aAa (rv 0) (aAa aAe aAc))) aAc)) (aAX (i:=3) c.nd rfl) (aAd (aAR (i:=2) c.nd rfl (aAg c (aEX N T) (by decide) (aAa (rv 0) (aAa (rv 2) aAc))))
      (aAd (aAR (i:=4) c.nd rfl (aAB (aD3 (aAa aAp (aAa aAp (aAa aAp (aAa aAp (aAa aAp (aAa aAp (aAa aAp aAc)))))))) (aAg c (aAr N T) (by decide) (aAa (rv 0) (aAa aAe aAc)))))
      (aAd (aAR (i:=5) c.nd rfl (aAg c (aKW N T) (by decide) (aAa (rv 0) (aAa (aD3 aAc) aAc))))
      (aAd (aAR (i:=6) c.nd rfl (aAB (aD3 (aAa (aCf (aAa aAe (aAa aAe aAc))) (aAa (aCf (aAa aAe (aAa aAe aAc))) (aAa (aAg c (aG9 N T) (by decide) (aAa (rv 0) aAc)) (aAa (aCf (aAa (aAA aDR aAe (aAg c (aAr N T) (by decide) (aAa (rv 0) (aAa (aBg aPy aAe aAe) aAc)))) (aAa (aBg aDH aAe (aBg aPy aAe aAe)) aAc))) aAc))))) (aAg c (aAr N T) (by decide) (aAa (rv 0) (aAa aAe aAc)))))
      (aAd (aAR (i:=6) c.nd rfl (aAg c (aFY N T) (by decide) (aAa (aAB (rv 6) aAe) (aAa (aAB (rv 6) aAe) aAc))))
      (aAd (aAR (i:=7) c.nd rfl (aAB (aD3 (aAa aBj (aAa (aCf (aAa aAe (aAa aAe aAc))) (aAa (aAg c (aG9 N T) (by decide) (aAa (rv 0) aAc)) aAc)))) (aAg c (aAr N T) (by decide) (aAa (rv 0) (aAa aAe aAc)))))
      (aAd (aAR (i:=8) c.nd rfl (aPR (.cons (aPW (aCf (aAa (rv 6) (aAa (rv 7) (aAa (aAA aDR aAe (aAg c (aAr N T) (by decide) (aAa (rv 0) (aAa aAe aAc)))) aAc))))) (.cons (aPW (aCf (aAa (aAA aDR aAe (aAg c (aAr N T) (by decide) (aAa (rv 0) (aAa aAe aAc)))) aAc))) (.cons (aCf aAc) .nil))) (by decide) (by decide) (by decide +kernel)))
      (aAd (aDQ (aVR (rv 8) (aPR (.cons (aCf (aAa (rv 6) aAc)) (.cons (aCf (aAa (rv 7) aAc)) (.cons (aPW (aCf (aAa (aAA aDR aAe (aAg c (aAr N T) (by decide) (aAa (rv 0) (aAa aAe aAc)))) aAc))) .nil))) (by decide) (by decide) (by decide +kernel))))
      (aAd (aEH (aCf (aAa (aAA aDR aAe (aAg c (aAr N T) (by decide) (aAa (rv 0) (aAa aAe aAc)))) (aAa (aAB (aD3 (aAa aAp (aAa aAp aAc))) (aAg c (aAr N T) (by decide) (aAa (rv 0) (aAa aAe aAc)))) aAc))) (aT8 c.u (rv 8) aAp))
      (aAf (aDQ (aSN (rv 1) (aAa (aAA aDR (aCf (aAa (rv 4) (aAa (rv 2) (aAa (rv 5) aAc)))) (aVJ c.u (rv 8) (rv 4))) aAc))))))))))))))
      (aAf (aAk (aAA aDR (aED aI_ rfl T.b_tuple aBs (aAa (rv 1) aAc)) (aCf (aAa (aCf (aAa aAp (aAa (aAg c (aEX N T) (by decide) (aAa (rv 0) (aAa (rv 2) aAc))) aAc))) aAc)))))))
theorem aGv (N:Nat) (T:Txt K mg base w) {fa:Addr}{fd:FuncData}(F:FunD K "_law_drawn_log" "_law_drawn_log" (defArgs aAq) (defBody aAq) (defScope aAq) [] [] fa fd):FnG P w K mg base 4 fa fd aAY (spM K mg aAY.length (aBF N)):=aGu N T F
theorem aGw (N:Nat) (T:Txt K mg base w):Df P w K mg base "_law_drawn_log" aAY 4 (aBF N):=by
  obtain ⟨fa,fd,g1,F⟩:=T.f__law_drawn_log
  exact ⟨fa,fd,g1,F.kp,F.bindsN (ps:=aAY) fun _ _ _ _ _ _ us hl=>match us,hl with | [_],_=>rfl,aGv N T F⟩
theorem aIu (N:Nat) (T:Txt K mg base w) {fa:Addr}{fd:FuncData}(F:FunD K "_law_is" "_law_is" (defArgs aAw) (defBody aAw) (defScope aAw) [] [] fa fd):FnG P w K mg base (0+1) fa fd aB5 (spM K mg aB5.length (fnM aEx.length (aDe N))):=by
  apply aAm F aIn
  intro cdv A outer s H E c
  exact (aAd (aBi (rt_e (aAt .tuple T.b_isinstance T.b_tuple aBs (rv 1))) (aAd (aBi (rt_w (aC3 (aCg (rt_e (aAt .tuple T.b_isinstance T.b_tuple aBs (rv 0)))) (aBL (aAs (aEC c.u) (re_b aBq rfl T.b_len aBr (aAa (rv 0) aAc)) (re_b aBq rfl T.b_len aBr (aAa (rv 1) aAc)) (nomark _))))) (aAf (aAk aFG)) aAn)
      (aAf (aAk (re_b (aFH c.calm) rfl T.b_all aFI (aAa (aEE [("_law_k",2)] c.calm c.nd (aDh T.b_range (aAa (re_b aBq rfl T.b_len aBr (aAa (rv 1) aAc)) aAc)) (blkOk_by (own:=[("_law_k",2)]) (N:=aEx) (sc:=defScope aAw) (by decide +kernel)) (by decide) (fun _ _ _ _ _=>(pg_name (i:=2) c.nd rfl (by first | exact Or.inl rfl | exact Or.inr rfl))) (fun _ _ _ _ _=>pts0) (fun _ _ _ _ _=>aVH)) aAc))))) aAn)
      (aAd (aBi (rt_w (aC3 (aAs aEG (rv 1) aBj (nomark _)) (aBL (rt_e (aAt .str T.b_isinstance T.b_str aC1 (rv 1)))))) (aAf (aAk (aJV (aAs aEG (rv 1) aBj (nomark _)) (aBK aEG (rv 0) aBj (nomark _)) (aCh (aAt .str T.b_isinstance T.b_str aC1 (rv 0)) (aC4 (aBK (aDa c.u) (rv 0) (rv 1) (nomark _))))))) aAn)
      (aAf (aAk (aCh (aAt .int T.b_isinstance T.b_int aD4 (rv 0)) (aCh (aIG (aAt .bool T.b_isinstance T.b_bool aGg (rv 0))) (aC4 (aBK (aDa c.u) (rv 0) (rv 1) (nomark _)))))))))
theorem aIv (N:Nat) (T:Txt K mg base w) {fa:Addr}{fd:FuncData}(F:FunD K "_law_is" "_law_is" (defArgs aAw) (defBody aAw) (defScope aAw) [] [] fa fd):FnG P w K mg base 1 fa fd aB5 (spM K mg aB5.length (aBA N)):=aIu N T F
theorem aIw (N:Nat) (T:Txt K mg base w):Df P w K mg base "_law_is" aB5 1 (aBA N):=by
  obtain ⟨fa,fd,g1,F⟩:=T.f__law_is__r3
  exact ⟨fa,fd,g1,F.kp,F.bindsN (ps:=aB5) fun _ _ _ _ _ _ us hl=>match us,hl with | [_,_],_=>rfl,aIv N T F⟩
theorem aIx (N:Nat) (T:Txt K mg base w) {fa:Addr}{fd:FuncData}(F:FunD K "_law_is" "_law_is" (defArgs aAx) (defBody aAx) (defScope aAx) [] [] fa fd):FnG P w K mg base (1+1) fa fd aB6 (spM K mg aB6.length (fnM aEy.length (aCA N))):=by
  apply aAm F aIo
  intro cdv A outer s H E c
  exact (aAd (aBi (rt_e (aAt .tuple T.b_isinstance T.b_tuple aBs (rv 1))) (aAd (aBi (rt_w (aC3 (aCg (rt_e (aAt .tuple T.b_isinstance T.b_tuple aBs (rv 0)))) (aBL (aAs (aEC c.u) (re_b aBq rfl T.b_len aBr (aAa (rv 0) aAc)) (re_b aBq rfl T.b_len aBr (aAa (rv 1) aAc)) (nomark _))))) (aAf (aAk aFG)) aAn)
      (aAf (aAk (re_b (aFH c.calm) rfl T.b_all aFI (aAa (aEE [("_law_k",2)] c.calm c.nd (aDh T.b_range (aAa (re_b aBq rfl T.b_len aBr (aAa (rv 1) aAc)) aAc)) (blkOk_by (own:=[("_law_k",2)]) (N:=aEy) (sc:=defScope aAx) (by decide +kernel)) (by decide) (fun _ _ _ _ _=>(pg_name (i:=2) c.nd rfl (by first | exact Or.inl rfl | exact Or.inr rfl))) (fun _ _ _ _ _=>pts0) (fun _ _ _ _ _=>(aCk c.blk (aIw N T) (by decide) (aAa (aAB (rv 0) (rv 2)) (aAa (aAB (rv 1) (rv 2)) aAc))))) aAc))))) aAn)
      (aAd (aBi (rt_w (aC3 (aAs aEG (rv 1) aBj (nomark _)) (aBL (rt_e (aAt .str T.b_isinstance T.b_str aC1 (rv 1)))))) (aAf (aAk (aJV (aAs aEG (rv 1) aBj (nomark _)) (aBK aEG (rv 0) aBj (nomark _)) (aCh (aAt .str T.b_isinstance T.b_str aC1 (rv 0)) (aC4 (aBK (aDa c.u) (rv 0) (rv 1) (nomark _))))))) aAn)
      (aAf (aAk (aCh (aAt .int T.b_isinstance T.b_int aD4 (rv 0)) (aCh (aIG (aAt .bool T.b_isinstance T.b_bool aGg (rv 0))) (aC4 (aBK (aDa c.u) (rv 0) (rv 1) (nomark _)))))))))
theorem aIy (N:Nat) (T:Txt K mg base w) {fa:Addr}{fd:FuncData}(F:FunD K "_law_is" "_law_is" (defArgs aAx) (defBody aAx) (defScope aAx) [] [] fa fd):FnG P w K mg base 2 fa fd aB6 (spM K mg aB6.length (aAP N)):=aIx N T F
theorem aIz (N:Nat) (T:Txt K mg base w):Df P w K mg base "_law_is" aB6 2 (aAP N):=by
  obtain ⟨fa,fd,g1,F⟩:=T.f__law_is__r2
  exact ⟨fa,fd,g1,F.kp,F.bindsN (ps:=aB6) fun _ _ _ _ _ _ us hl=>match us,hl with | [_,_],_=>rfl,aIy N T F⟩
theorem aI0 (N:Nat) (T:Txt K mg base w) {fa:Addr}{fd:FuncData}(F:FunD K "_law_is" "_law_is" (defArgs aAy) (defBody aAy) (defScope aAy) [] [] fa fd):FnG P w K mg base (2+1) fa fd aB7 (spM K mg aB7.length (fnM aEz.length (aCB N))):=by
  apply aAm F aIp
  intro cdv A outer s H E c
  exact (aAd (aBi (rt_e (aAt .tuple T.b_isinstance T.b_tuple aBs (rv 1))) (aAd (aBi (rt_w (aC3 (aCg (rt_e (aAt .tuple T.b_isinstance T.b_tuple aBs (rv 0)))) (aBL (aAs (aEC c.u) (re_b aBq rfl T.b_len aBr (aAa (rv 0) aAc)) (re_b aBq rfl T.b_len aBr (aAa (rv 1) aAc)) (nomark _))))) (aAf (aAk aFG)) aAn)
      (aAf (aAk (re_b (aFH c.calm) rfl T.b_all aFI (aAa (aEE [("_law_k",2)] c.calm c.nd (aDh T.b_range (aAa (re_b aBq rfl T.b_len aBr (aAa (rv 1) aAc)) aAc)) (blkOk_by (own:=[("_law_k",2)]) (N:=aEz) (sc:=defScope aAy) (by decide +kernel)) (by decide) (fun _ _ _ _ _=>(pg_name (i:=2) c.nd rfl (by first | exact Or.inl rfl | exact Or.inr rfl))) (fun _ _ _ _ _=>pts0) (fun _ _ _ _ _=>(aCk c.blk (aIz N T) (by decide) (aAa (aAB (rv 0) (rv 2)) (aAa (aAB (rv 1) (rv 2)) aAc))))) aAc))))) aAn)
      (aAd (aBi (rt_w (aC3 (aAs aEG (rv 1) aBj (nomark _)) (aBL (rt_e (aAt .str T.b_isinstance T.b_str aC1 (rv 1)))))) (aAf (aAk (aJV (aAs aEG (rv 1) aBj (nomark _)) (aBK aEG (rv 0) aBj (nomark _)) (aCh (aAt .str T.b_isinstance T.b_str aC1 (rv 0)) (aC4 (aBK (aDa c.u) (rv 0) (rv 1) (nomark _))))))) aAn)
      (aAf (aAk (aCh (aAt .int T.b_isinstance T.b_int aD4 (rv 0)) (aCh (aIG (aAt .bool T.b_isinstance T.b_bool aGg (rv 0))) (aC4 (aBK (aDa c.u) (rv 0) (rv 1) (nomark _)))))))))
theorem aI1 (N:Nat) (T:Txt K mg base w) {fa:Addr}{fd:FuncData}(F:FunD K "_law_is" "_law_is" (defArgs aAy) (defBody aAy) (defScope aAy) [] [] fa fd):FnG P w K mg base 3 fa fd aB7 (spM K mg aB7.length (aAQ N)):=aI0 N T F
theorem aI2 (N:Nat) (T:Txt K mg base w):Df P w K mg base "_law_is" aB7 3 (aAQ N):=by
  obtain ⟨fa,fd,g1,F⟩:=T.f__law_is__r1
  exact ⟨fa,fd,g1,F.kp,F.bindsN (ps:=aB7) fun _ _ _ _ _ _ us hl=>match us,hl with | [_,_],_=>rfl,aI1 N T F⟩
theorem aOK (N:Nat) (T:Txt K mg base w) {fa:Addr}{fd:FuncData}(F:FunD K "_law_is" "_law_is" (defArgs aBl) (defBody aBl) (defScope aBl) [] [] fa fd):FnG P w K mg base (3+1) fa fd aDw (spM K mg aDw.length (fnM aHQ.length (aDs N))):=by
  apply aAm F aOB
  intro cdv A outer s H E c
  exact (aAd (aBi (rt_e (aAt .tuple T.b_isinstance T.b_tuple aBs (rv 1))) (aAd (aBi (rt_w (aC3 (aCg (rt_e (aAt .tuple T.b_isinstance T.b_tuple aBs (rv 0)))) (aBL (aAs (aEC c.u) (re_b aBq rfl T.b_len aBr (aAa (rv 0) aAc)) (re_b aBq rfl T.b_len aBr (aAa (rv 1) aAc)) (nomark _))))) (aAf (aAk aFG)) aAn)
      (aAf (aAk (re_b (aFH c.calm) rfl T.b_all aFI (aAa (aEE [("_law_k",2)] c.calm c.nd (aDh T.b_range (aAa (re_b aBq rfl T.b_len aBr (aAa (rv 1) aAc)) aAc)) (blkOk_by (own:=[("_law_k",2)]) (N:=aHQ) (sc:=defScope aBl) (by decide +kernel)) (by decide) (fun _ _ _ _ _=>(pg_name (i:=2) c.nd rfl (by first | exact Or.inl rfl | exact Or.inr rfl))) (fun _ _ _ _ _=>pts0) (fun _ _ _ _ _=>(aCk c.blk (aI2 N T) (by decide) (aAa (aAB (rv 0) (rv 2)) (aAa (aAB (rv 1) (rv 2)) aAc))))) aAc))))) aAn)
      (aAd (aBi (rt_w (aC3 (aAs aEG (rv 1) aBj (nomark _)) (aBL (rt_e (aAt .str T.b_isinstance T.b_str aC1 (rv 1)))))) (aAf (aAk (aJV (aAs aEG (rv 1) aBj (nomark _)) (aBK aEG (rv 0) aBj (nomark _)) (aCh (aAt .str T.b_isinstance T.b_str aC1 (rv 0)) (aC4 (aBK (aDa c.u) (rv 0) (rv 1) (nomark _))))))) aAn)
      (aAf (aAk (aCh (aAt .int T.b_isinstance T.b_int aD4 (rv 0)) (aCh (aIG (aAt .bool T.b_isinstance T.b_bool aGg (rv 0))) (aC4 (aBK (aDa c.u) (rv 0) (rv 1) (nomark _)))))))))
theorem aOL (N:Nat) (T:Txt K mg base w) {fa:Addr}{fd:FuncData}(F:FunD K "_law_is" "_law_is" (defArgs aBl) (defBody aBl) (defScope aBl) [] [] fa fd):FnG P w K mg base 4 fa fd aDw (spM K mg aDw.length (aBS N)):=aOK N T F
theorem aOM (N:Nat) (T:Txt K mg base w):Df P w K mg base "_law_is" aDw 4 (aBS N):=by
  obtain ⟨fa,fd,g1,F⟩:=T.f__law_is
  exact ⟨fa,fd,g1,F.kp,F.bindsN (ps:=aDw) fun _ _ _ _ _ _ us hl=>match us,hl with | [_,_],_=>rfl,aOL N T F⟩
theorem aKZ (N:Nat) (T:Txt K mg base w) {fa:Addr}{fd:FuncData}(F:FunD K "_law_word" "_law_word" (defArgs aAG) (defBody aAG) (defScope aAG) [] [] fa fd):FnG P w K mg base (0+1) fa fd aCq (spM K mg aCq.length (fnM aHR.length (aBY N))):=by
  apply aAm F aK8
  intro cdv A outer s H E c
  exact (aAd (aBi (rt_w (aC3 (aAs aEG (rv 0) aBj (nomark _)) (aBL (aAs (aST c.u) (rv 0) (aCf (aAa aAe (aAa aAe aAc))) (nomark _))))) (aAf (aAk aAp)) aAn)
      (aAd (aBi (rt_e (aAt .tuple T.b_isinstance T.b_tuple aBs (rv 0))) (aAf (aAk (aAA aBo (aED aHb rfl T.b_str aC1 (aAa (aAB (rv 0) aAe) aAc)) (aAB (aD3 (aAa (aAA aBo aAp (aED aHb rfl T.b_str aC1 (aAa (aAB (rv 0) aAe) aAc))) (aAa aAp aAc))) (aED aP2 rfl T.b_int aD4 (aAa (aBK (aDa c.u) (aAB (rv 0) aAe) aAe (nomark _)) aAc)))))) aAn)
      (aAf (aAk (aED aHb rfl T.b_str aC1 (aAa (rv 0) aAc))))))
theorem aK_ (N:Nat) (T:Txt K mg base w) {fa:Addr}{fd:FuncData}(F:FunD K "_law_word" "_law_word" (defArgs aAG) (defBody aAG) (defScope aAG) [] [] fa fd):FnG P w K mg base 1 fa fd aCq (spM K mg aCq.length (aAZ N)):=aKZ N T F
theorem aLa (N:Nat) (T:Txt K mg base w):Df P w K mg base "_law_word" aCq 1 (aAZ N):=by
  obtain ⟨fa,fd,g1,F⟩:=T.f__law_word
  exact ⟨fa,fd,g1,F.kp,F.bindsN (ps:=aCq) fun _ _ _ _ _ _ us hl=>match us,hl with | [_],_=>rfl,aK_ N T F⟩
theorem aLb (N:Nat) (T:Txt K mg base w) {fa:Addr}{fd:FuncData}(F:FunD K "_law_line" "_law_line" (defArgs aA7) (defBody aA7) (defScope aA7) [] [] fa fd):FnG P w K mg base (1+1) fa fd aCr (spM K mg aCr.length (fnM aF1.length (aF4 N))):=by
  apply aAm F aK9
  intro cdv A outer s H E c
  exact (aAd (aAR (i:=1) c.nd rfl (aAA aBo (aED aHb rfl T.b_str aC1 (aAa (aAB (aAB (rv 0) aAe) aAe) aAc)) (aAB (aD3 (aAa (aAA aBo aAp (aED aHb rfl T.b_str aC1 (aAa (aAB (aAB (rv 0) aAe) aAe) aAc))) (aAa aAp aAc))) (aED aP2 rfl T.b_int aD4 (aAa (aBK (aDa c.u) (aAB (aAB (rv 0) aAe) aAe) aAe (nomark _)) aAc)))))
      (aAf (aAk (aJj aGj PySem.F.slot_str_join PySem.F.type_str_join aAp (aAa (aAA aBo (aD3 (aAa (aAB (rv 0) aAe) (aAa (rv 1) aAc))) (aEE [("_law_part",2)] c.calm c.nd (ri_e (aSU (rv 0) (aGf aAe) aGe)) (blkOk_by (own:=[("_law_part",2)]) (N:=aF1) (sc:=defScope aA7) (by decide +kernel)) (by decide) (fun _ _ _ _ _=>(pg_name (i:=2) c.nd rfl (by first | exact Or.inl rfl | exact Or.inr rfl))) (fun _ _ _ _ _=>pts0) (fun _ _ _ _ _=>(aCk c.blk (aLa N T) (by decide) (aAa (rv 2) aAc))))) aAc)))))
theorem aLc (N:Nat) (T:Txt K mg base w) {fa:Addr}{fd:FuncData}(F:FunD K "_law_line" "_law_line" (defArgs aA7) (defBody aA7) (defScope aA7) [] [] fa fd):FnG P w K mg base 2 fa fd aCr (spM K mg aCr.length (aBB N)):=aLb N T F
theorem aGA (N:Nat) (T:Txt K mg base w):Df P w K mg base "_law_line" aCr 2 (aBB N):=by
  obtain ⟨fa,fd,g1,F⟩:=T.f__law_line
  exact ⟨fa,fd,g1,F.kp,F.bindsN (ps:=aCr) fun _ _ _ _ _ _ us hl=>match us,hl with | [_],_=>rfl,aLc N T F⟩
theorem aLd (N:Nat) (T:Txt K mg base w) {fa:Addr}{fd:FuncData}(F:FunD K "_law_pool" "_law_pool" (defArgs aAH) (defBody aAH) (defScope aAH) [] [] fa fd):FnG P w K mg base (0+1) fa fd aCs (spM K mg aCs.length (fnM aHS.length (C.aFx N))):=by
  apply aAm F aKA
  intro cdv A outer s H E c
  exact (aAd (aAR (i:=1) c.nd rfl aAe)
      (aAd (aBi (rt_w (aC3 (aAs aO0 (rv 0) aAe (nomark _)) (aBL (aAs aV9 (rv 0) (aBg aPy aAe aAe) (nomark _))))) (aAf (aAR (i:=1) c.nd rfl (re_b aJX rfl T.b_abs aJY (aAa (rv 0) aAc)))) aAn)
      (aAf (aAk (aP1 (aAa (aBg aG3 (rv 0) aAe) (aAa (rv 1) (aAa aAe aAc))))))))
theorem aLe (N:Nat) (T:Txt K mg base w) {fa:Addr}{fd:FuncData}(F:FunD K "_law_pool" "_law_pool" (defArgs aAH) (defBody aAH) (defScope aAH) [] [] fa fd):FnG P w K mg base 1 fa fd aCs (spM K mg aCs.length (C.aDr N)):=aLd N T F
theorem aLf (N:Nat) (T:Txt K mg base w):Df P w K mg base "_law_pool" aCs 1 (C.aDr N):=by
  obtain ⟨fa,fd,g1,F⟩:=T.f__law_pool
  exact ⟨fa,fd,g1,F.kp,F.bindsN (ps:=aCs) fun _ _ _ _ _ _ us hl=>match us,hl with | [_],_=>rfl,aLe N T F⟩
theorem aNc (N:Nat) (T:Txt K mg base w) {fa:Addr}{fd:FuncData}(F:FunD K "is_whole" "is_whole" (defArgs aBd) (defBody aBd) (defScope aBd) [] [] fa fd):FnG P w K mg base (0+1) fa fd aCL (spM K mg aCL.length (fnM aIO.length (C.aIL N))):=by
  apply aAm F aMU
  intro cdv A outer s H E c
  exact (aAf (aAk (aCh (aAt .int T.b_isinstance T.b_int aD4 (rv 0)) (aC4 (aIG (aAt .bool T.b_isinstance T.b_bool aGg (rv 0)))))))
theorem aNd (N:Nat) (T:Txt K mg base w) {fa:Addr}{fd:FuncData}(F:FunD K "is_whole" "is_whole" (defArgs aBd) (defBody aBd) (defScope aBd) [] [] fa fd):FnG P w K mg base 1 fa fd aCL (spM K mg aCL.length (C.aDJ N)):=aNc N T F
theorem aNe (N:Nat) (T:Txt K mg base w):Df P w K mg base "is_whole" aCL 1 (C.aDJ N):=by
  obtain ⟨fa,fd,g1,F⟩:=T.f_is_whole
  exact ⟨fa,fd,g1,F.kp,F.bindsN (ps:=aCL) fun _ _ _ _ _ _ us hl=>match us,hl with | [_],_=>rfl,aNd N T F⟩
theorem aQG (N:Nat) (T:Txt K mg base w) {fa:Addr}{fd:FuncData}(F:FunD K "shared" "shared" (defArgs aB_) (defBody aB_) (defScope aB_) [] [] fa fd):FnG P w K mg base (0+1) fa fd aE0 (spM K mg aE0.length (fnM aNZ.length (C.aJz N))):=by
  apply aAm F aQ8
  intro cdv A outer s H E c
  exact (aAd (aNE N c.po (aAs aLG (rv 1) aAe (nomark _)) (aAf (aND (i:=0) (j:=1) c.calm c.nd rfl rfl (by decide) (aAa (rv 1) (aAa (aBg aG3 (rv 0) (rv 1)) aAc)))))
      (aAf (aAk (rv 0))))
theorem aQH (N:Nat) (T:Txt K mg base w) {fa:Addr}{fd:FuncData}(F:FunD K "shared" "shared" (defArgs aB_) (defBody aB_) (defScope aB_) [] [] fa fd):FnG P w K mg base 1 fa fd aE0 (spM K mg aE0.length (C.aEQ N)):=aQG N T F
theorem aLg (N:Nat) (T:Txt K mg base w):Df P w K mg base "shared" aE0 1 (C.aEQ N):=by
  obtain ⟨fa,fd,g1,F⟩:=T.f_shared
  exact ⟨fa,fd,g1,F.kp,F.bindsN (ps:=aE0) fun _ _ _ _ _ _ us hl=>match us,hl with | [_,_],_=>rfl,aQH N T F⟩
theorem aNf (N:Nat) (T:Txt K mg base w) {fa:Addr}{fd:FuncData}(F:FunD K "is_ratio" "is_ratio" (defArgs aAS) (defBody aAS) (defScope aAS) [] [] fa fd):FnG P w K mg base (1+1) fa fd aCM (spM K mg aCM.length (fnM aGn.length (C.aDK N))):=by
  apply aAm F aMV
  intro cdv A outer s H E c
  exact (aAd (aBi (rt_w (aC3 (aCg (rt_e (aAt .tuple T.b_isinstance T.b_tuple aBs (rv 0)))) (aC3 (aAs (aEC c.u) (re_b aBq rfl T.b_len aBr (aAa (rv 0) aAc)) aAe (nomark _)) (aBL (aCg (rt_e (re_b (aFH c.calm) rfl T.b_all aFI (aAa (aEE [("part",3)] c.calm c.nd (ri_e (rv 0)) (blkOk_by (own:=[("part",3)]) (N:=aGn) (sc:=defScope aAS) (by decide +kernel)) (by decide) (fun _ _ _ _ _=>(pg_name (i:=3) c.nd rfl (by first | exact Or.inl rfl | exact Or.inr rfl))) (fun _ _ _ _ _=>pts0) (fun _ _ _ _ _=>(aCk c.blk (aNe N T) (by decide) (aAa (rv 3) aAc)))) aAc)))))))) (aAf (aAk aFG)) aAn)
      (aAd (aEH (rv 0) (aIH c.calm (aA_ (aAX (i:=1) c.nd rfl) (aA_ (aAX (i:=2) c.nd rfl) aDA))))
      (aAf (aAk (aCh (aBK aLG (rv 2) aAe (nomark _)) (aC4 (aBK (aDa c.u) (aAg c (aLg N T) (by decide) (aAa (re_b aJX rfl T.b_abs aJY (aAa (rv 1) aAc)) (aAa (rv 2) aAc))) aAe (nomark _))))))))
theorem aNg (N:Nat) (T:Txt K mg base w) {fa:Addr}{fd:FuncData}(F:FunD K "is_ratio" "is_ratio" (defArgs aAS) (defBody aAS) (defScope aAS) [] [] fa fd):FnG P w K mg base 2 fa fd aCM (spM K mg aCM.length (C.aBz N)):=aNf N T F
theorem aF7 (N:Nat) (T:Txt K mg base w):Df P w K mg base "is_ratio" aCM 2 (C.aBz N):=by
  obtain ⟨fa,fd,g1,F⟩:=T.f_is_ratio
  exact ⟨fa,fd,g1,F.kp,F.bindsN (ps:=aCM) fun _ _ _ _ _ _ us hl=>match us,hl with | [_],_=>rfl,aNg N T F⟩
theorem aI3 (N:Nat) (T:Txt K mg base w) {fa:Addr}{fd:FuncData}(F:FunD K "check_ratio" "check_ratio" (defArgs aA0) (defBody aA0) (defScope aA0) [] [] fa fd):FnG P w K mg base (2+1) fa fd aB8 (spM K mg aB8.length (fnM aFV.length (C.aEt N))):=by
  obtain ⟨C_NoRatio,g_NoRatio,x_NoRatio⟩:=T.x_NoRatio
  apply aAm F aIq
  intro cdv A outer s H E c
  exact (aAf (aBi (aCg (rt_e (aAg c (aF7 N T) (by decide) (aAa (rv 0) aAc)))) (aAf (aRN 3 rfl c PySem.F.excBase_ValueError x_NoRatio.x g_NoRatio x_NoRatio.k (raises_own x_NoRatio.b x_NoRatio.t))) aAn))
theorem aI4 (N:Nat) (T:Txt K mg base w) {fa:Addr}{fd:FuncData}(F:FunD K "check_ratio" "check_ratio" (defArgs aA0) (defBody aA0) (defScope aA0) [] [] fa fd):FnG P w K mg base 3 fa fd aB8 (spM K mg aB8.length (C.aB3 N)):=aI3 N T F
theorem aDE (N:Nat) (T:Txt K mg base w):Df P w K mg base "check_ratio" aB8 3 (C.aB3 N):=by
  obtain ⟨fa,fd,g1,F⟩:=T.f_check_ratio
  exact ⟨fa,fd,g1,F.kp,F.bindsN (ps:=aB8) fun _ _ _ _ _ _ us hl=>match us,hl with | [_],_=>rfl,aI4 N T F⟩
theorem aLh (N:Nat) (T:Txt K mg base w) {fa:Addr}{fd:FuncData}(F:FunD K "check_two" "check_two" (defArgs aAI) (defBody aAI) (defScope aAI) [] [] fa fd):FnG P w K mg base (3+1) fa fd aCt (spM K mg aCt.length (fnM aHT.length (C.aFu N))):=by
  apply aAm F aKB
  intro cdv A outer s H E c
  exact (aAd (aDQ (aAg c (aDE N T) (by decide) (aAa (rv 0) aAc)))
      (aAf (aDQ (aAg c (aDE N T) (by decide) (aAa (rv 1) aAc)))))
theorem aLi (N:Nat) (T:Txt K mg base w) {fa:Addr}{fd:FuncData}(F:FunD K "check_two" "check_two" (defArgs aAI) (defBody aAI) (defScope aAI) [] [] fa fd):FnG P w K mg base 4 fa fd aCt (spM K mg aCt.length (C.aDp N)):=aLh N T F
theorem aLj (N:Nat) (T:Txt K mg base w):Df P w K mg base "check_two" aCt 4 (C.aDp N):=by
  obtain ⟨fa,fd,g1,F⟩:=T.f_check_two
  exact ⟨fa,fd,g1,F.kp,F.bindsN (ps:=aCt) fun _ _ _ _ _ _ us hl=>match us,hl with | [_,_],_=>rfl,aLi N T F⟩
theorem aLk (N:Nat) (T:Txt K mg base w) {fa:Addr}{fd:FuncData}(F:FunD K "is_before" "is_before" (defArgs aAJ) (defBody aAJ) (defScope aAJ) [] [] fa fd):FnG P w K mg base (4+1) fa fd aCu (spM K mg aCu.length (fnM aHU.length (C.aFv N))):=by
  apply aAm F aKC
  intro cdv A outer s H E c
  exact (aAd (aDQ (aAg c (aLj N T) (by decide) (aAa (rv 0) (aAa (rv 1) aAc))))
      (aAf (aAk (aBK aO0 (aBg aDH (aAB (rv 0) aAe) (aAB (rv 1) aAe)) (aBg aDH (aAB (rv 1) aAe) (aAB (rv 0) aAe)) (nomark _)))))
theorem aLl (N:Nat) (T:Txt K mg base w) {fa:Addr}{fd:FuncData}(F:FunD K "is_before" "is_before" (defArgs aAJ) (defBody aAJ) (defScope aAJ) [] [] fa fd):FnG P w K mg base 5 fa fd aCu (spM K mg aCu.length (C.aCH N)):=aLk N T F
theorem aLm (N:Nat) (T:Txt K mg base w):Df P w K mg base "is_before" aCu 5 (C.aCH N):=by
  obtain ⟨fa,fd,g1,F⟩:=T.f_is_before
  exact ⟨fa,fd,g1,F.kp,F.bindsN (ps:=aCu) fun _ _ _ _ _ _ us hl=>match us,hl with | [_,_],_=>rfl,aLl N T F⟩
theorem aON (N:Nat) (T:Txt K mg base w) {fa:Addr}{fd:FuncData}(F:FunD K "is_rate" "is_rate" (defArgs aBt) (defBody aBt) (defScope aBt) [] [] fa fd):FnG P w K mg base (2+1) fa fd aDx (spM K mg aDx.length (fnM aKD.length (C.aFT N))):=by
  apply aAm F aOC
  intro cdv A outer s H E c
  exact (aAf (aAk (aCh (aAg c (aF7 N T) (by decide) (aAa (rv 0) aAc)) (aC4 (aNA aO0 aPz aAe (aAB (rv 0) aAe) (aAB (rv 0) aAe))))))
theorem aOO (N:Nat) (T:Txt K mg base w) {fa:Addr}{fd:FuncData}(F:FunD K "is_rate" "is_rate" (defArgs aBt) (defBody aBt) (defScope aBt) [] [] fa fd):FnG P w K mg base 3 fa fd aDx (spM K mg aDx.length (C.aCi N)):=aON N T F
theorem aIR (N:Nat) (T:Txt K mg base w):Df P w K mg base "is_rate" aDx 3 (C.aCi N):=by
  obtain ⟨fa,fd,g1,F⟩:=T.f_is_rate
  exact ⟨fa,fd,g1,F.kp,F.bindsN (ps:=aDx) fun _ _ _ _ _ _ us hl=>match us,hl with | [_],_=>rfl,aOO N T F⟩
theorem aOP (N:Nat) (T:Txt K mg base w) {fa:Addr}{fd:FuncData}(F:FunD K "is_time" "is_time" (defArgs aBu) (defBody aBu) (defScope aBu) [] [] fa fd):FnG P w K mg base (2+1) fa fd aDy (spM K mg aDy.length (fnM aKE.length (C.aFS N))):=by
  apply aAm F aOD
  intro cdv A outer s H E c
  exact (aAf (aAk (aCh (aAg c (aF7 N T) (by decide) (aAa (rv 0) aAc)) (aC4 (aBK aV9 (aAB (rv 0) aAe) aAe (nomark _))))))
theorem aOQ (N:Nat) (T:Txt K mg base w) {fa:Addr}{fd:FuncData}(F:FunD K "is_time" "is_time" (defArgs aBu) (defBody aBu) (defScope aBu) [] [] fa fd):FnG P w K mg base 3 fa fd aDy (spM K mg aDy.length (C.aBE N)):=aOP N T F
theorem aIS (N:Nat) (T:Txt K mg base w):Df P w K mg base "is_time" aDy 3 (C.aBE N):=by
  obtain ⟨fa,fd,g1,F⟩:=T.f_is_time
  exact ⟨fa,fd,g1,F.kp,F.bindsN (ps:=aDy) fun _ _ _ _ _ _ us hl=>match us,hl with | [_],_=>rfl,aOQ N T F⟩
theorem aNh (N:Nat) (T:Txt K mg base w) {fa:Addr}{fd:FuncData}(F:FunD K "is_least" "is_least" (defArgs aBe) (defBody aBe) (defScope aBe) [] [] fa fd):FnG P w K mg base (3+1) fa fd aC2 (spM K mg aC2.length (fnM aIP.length (aCI N))):=by
  obtain ⟨k0_NONE,g_NONE,k_NONE⟩:=T.c_NONE
  apply aAm F aMW
  intro cdv A outer s H E c
  exact (aAf (aAk (aTw (aCh (aBK (aST c.u) (rv 0) (aD9 (v:=.ref k0_NONE) rfl g_NONE rfl (fun _ => .tup (.inr k_NONE) (.cons (.int _) (.cons (.int _) .nil)))) (nomark _)) (aC4 (aAg c (aIS N T) (by decide) (aAa (rv 0) aAc)))) (aC4 (aAg c (aIR N T) (by decide) (aAa (rv 0) aAc))))))
theorem aNi (N:Nat) (T:Txt K mg base w) {fa:Addr}{fd:FuncData}(F:FunD K "is_least" "is_least" (defArgs aBe) (defBody aBe) (defScope aBe) [] [] fa fd):FnG P w K mg base 4 fa fd aC2 (spM K mg aC2.length (aB0 N)):=aNh N T F
theorem aNj (N:Nat) (T:Txt K mg base w):Df P w K mg base "is_least" aC2 4 (aB0 N):=by
  obtain ⟨fa,fd,g1,F⟩:=T.f_is_least
  exact ⟨fa,fd,g1,F.kp,F.bindsN (ps:=aC2) fun _ _ _ _ _ _ us hl=>match us,hl with | [_],_=>rfl,aNi N T F⟩
theorem aOR (N:Nat) (T:Txt K mg base w) {fa:Addr}{fd:FuncData}(F:FunD K "is_most" "is_most" (defArgs aBv) (defBody aBv) (defScope aBv) [] [] fa fd):FnG P w K mg base (3+1) fa fd aCV (spM K mg aCV.length (fnM aKF.length (C.aHL N))):=by
  apply aAm F aOE
  intro cdv A outer s H E c
  exact (aAf (aAk (aTw (aBK aEG (rv 0) aBj (nomark _)) (aC4 (aAg c (aIR N T) (by decide) (aAa (rv 0) aAc))))))
theorem aOS (N:Nat) (T:Txt K mg base w) {fa:Addr}{fd:FuncData}(F:FunD K "is_most" "is_most" (defArgs aBv) (defBody aBv) (defScope aBv) [] [] fa fd):FnG P w K mg base 4 fa fd aCV (spM K mg aCV.length (C.aC6 N)):=aOR N T F
theorem aOT (N:Nat) (T:Txt K mg base w):Df P w K mg base "is_most" aCV 4 (C.aC6 N):=by
  obtain ⟨fa,fd,g1,F⟩:=T.f_is_most
  exact ⟨fa,fd,g1,F.kp,F.bindsN (ps:=aCV) fun _ _ _ _ _ _ us hl=>match us,hl with | [_],_=>rfl,aOS N T F⟩
theorem aOU (N:Nat) (T:Txt K mg base w) {fa:Addr}{fd:FuncData}(F:FunD K "is_name" "is_name" (defArgs aBm) (defBody aBm) (defScope aBm) [] [] fa fd):FnG P w K mg base (0+1) fa fd aCW (spM K mg aCW.length (fnM aHV.length (C.aDM N))):=by
  obtain ⟨k0_LETTERS,g_LETTERS⟩:=T.c_LETTERS
  obtain ⟨k0_MOST_LETTERS,g_MOST_LETTERS⟩:=T.c_MOST_LETTERS
  apply aAm F aOF
  intro cdv A outer s H E c
  exact (aAd (aBi (rt_w (aC3 (aCg (rt_e (aAt .str T.b_isinstance T.b_str aC1 (rv 0)))) (aBL (aCg (aRJ aPz aPz aAe (re_b aBq rfl T.b_len aBr (aAa (rv 0) aAc)) (aD9 (v:=.int 8) rfl g_MOST_LETTERS ⟨_,rfl⟩ (fun _ => .int _))))))) (aAf (aAk aFG)) aAn)
      (aAf (aAk (re_b (aFH c.calm) rfl T.b_all aFI (aAa (aEE [("sign",1)] c.calm c.nd (aNI (rv 0)) (blkOk_by (own:=[("sign",1)]) (N:=aHV) (sc:=defScope aBm) (by decide +kernel)) (by decide) (fun _ _ _ _ _=>(pg_name (i:=1) c.nd rfl (by first | exact Or.inl rfl | exact Or.inr rfl))) (fun _ _ _ _ _=>pts0) (fun _ _ _ _ _=>(aJe aT5 (rv 1) (aD9 (v:=.str "abcdefghijklmnopqrstuvwxyz") rfl g_LETTERS ⟨_,rfl⟩ (fun _ => .str _))))) aAc)))))
theorem aOV (N:Nat) (T:Txt K mg base w) {fa:Addr}{fd:FuncData}(F:FunD K "is_name" "is_name" (defArgs aBm) (defBody aBm) (defScope aBm) [] [] fa fd):FnG P w K mg base 1 fa fd aCW (spM K mg aCW.length (C.aBn N)):=aOU N T F
theorem aOW (N:Nat) (T:Txt K mg base w):Df P w K mg base "is_name" aCW 1 (C.aBn N):=by
  obtain ⟨fa,fd,g1,F⟩:=T.f_is_name
  exact ⟨fa,fd,g1,F.kp,F.bindsN (ps:=aCW) fun _ _ _ _ _ _ us hl=>match us,hl with | [_],_=>rfl,aOV N T F⟩
theorem aLn (N:Nat) (T:Txt K mg base w) {fa:Addr}{fd:FuncData}(F:FunD K "is_within" "is_within" (defArgs aAK) (defBody aAK) (defScope aAK) [] [] fa fd):FnG P w K mg base (0+1) fa fd aCv (spM K mg aCv.length (fnM aHW.length (C.aF0 N))):=by
  apply aAm F aKG
  intro cdv A outer s H E c
  exact (aAf (aAk (aCh (aAt .int T.b_isinstance T.b_int aD4 (rv 0)) (aCh (aIG (aAt .bool T.b_isinstance T.b_bool aGg (rv 0))) (aC4 (aNA aPz aPz aAe (rv 0) (rv 1)))))))
theorem aLo (N:Nat) (T:Txt K mg base w) {fa:Addr}{fd:FuncData}(F:FunD K "is_within" "is_within" (defArgs aAK) (defBody aAK) (defScope aAK) [] [] fa fd):FnG P w K mg base 1 fa fd aCv (spM K mg aCv.length (C.aCJ N)):=aLn N T F
theorem aGB (N:Nat) (T:Txt K mg base w):Df P w K mg base "is_within" aCv 1 (C.aCJ N):=by
  obtain ⟨fa,fd,g1,F⟩:=T.f_is_within
  exact ⟨fa,fd,g1,F.kp,F.bindsN (ps:=aCv) fun _ _ _ _ _ _ us hl=>match us,hl with | [_,_],_=>rfl,aLo N T F⟩
theorem aOX (N:Nat) (T:Txt K mg base w) {fa:Addr}{fd:FuncData}(F:FunD K "is_size" "is_size" (defArgs aBw) (defBody aBw) (defScope aBw) [] [] fa fd):FnG P w K mg base (1+1) fa fd aCX (spM K mg aCX.length (fnM aKH.length (C.aHM N))):=by
  obtain ⟨k0_MOST_SIZE,g_MOST_SIZE⟩:=T.c_MOST_SIZE
  apply aAm F aOG
  intro cdv A outer s H E c
  exact (aAf (aAk (aAg c (aGB N T) (by decide) (aAa (rv 0) (aAa (aD9 (v:=.int 999) rfl g_MOST_SIZE ⟨_,rfl⟩ (fun _ => .int _)) aAc)))))
theorem aOY (N:Nat) (T:Txt K mg base w) {fa:Addr}{fd:FuncData}(F:FunD K "is_size" "is_size" (defArgs aBw) (defBody aBw) (defScope aBw) [] [] fa fd):FnG P w K mg base 2 fa fd aCX (spM K mg aCX.length (C.aCU N)):=aOX N T F
theorem aOZ (N:Nat) (T:Txt K mg base w):Df P w K mg base "is_size" aCX 2 (C.aCU N):=by
  obtain ⟨fa,fd,g1,F⟩:=T.f_is_size
  exact ⟨fa,fd,g1,F.kp,F.bindsN (ps:=aCX) fun _ _ _ _ _ _ us hl=>match us,hl with | [_],_=>rfl,aOY N T F⟩
theorem aQI (N:Nat) (T:Txt K mg base w) {fa:Addr}{fd:FuncData}(F:FunD K "is_way" "is_way" (defArgs aCa) (defBody aCa) (defScope aCa) [] [] fa fd):FnG P w K mg base (0+1) fa fd aD8 (spM K mg aD8.length (fnM aN_.length (C.aJ4 N))):=by
  apply aAm F aQ9
  intro cdv A outer s H E c
  exact (aAf (aAk (aCh (aAt .str T.b_isinstance T.b_str aC1 (rv 0)) (aC4 (aJe aPK (rv 0) (aCf (aAa aAp (aAa aAp aAc))))))))
theorem aQJ (N:Nat) (T:Txt K mg base w) {fa:Addr}{fd:FuncData}(F:FunD K "is_way" "is_way" (defArgs aCa) (defBody aCa) (defScope aCa) [] [] fa fd):FnG P w K mg base 1 fa fd aD8 (spM K mg aD8.length (C.aDd N)):=aQI N T F
theorem aQK (N:Nat) (T:Txt K mg base w):Df P w K mg base "is_way" aD8 1 (C.aDd N):=by
  obtain ⟨fa,fd,g1,F⟩:=T.f_is_way
  exact ⟨fa,fd,g1,F.kp,F.bindsN (ps:=aD8) fun _ _ _ _ _ _ us hl=>match us,hl with | [_],_=>rfl,aQJ N T F⟩
theorem aLp (N:Nat) (T:Txt K mg base w) {fa:Addr}{fd:FuncData}(F:FunD K "is_weight" "is_weight" (defArgs aAL) (defBody aAL) (defScope aAL) [] [] fa fd):FnG P w K mg base (1+1) fa fd aBV (spM K mg aBV.length (fnM aHX.length (C.aCZ N))):=by
  obtain ⟨k0_MOST_WEIGHT,g_MOST_WEIGHT⟩:=T.c_MOST_WEIGHT
  apply aAm F aKI
  intro cdv A outer s H E c
  exact (aAf (aAk (aAg c (aGB N T) (by decide) (aAa (rv 0) (aAa (aD9 (v:=.int 99) rfl g_MOST_WEIGHT ⟨_,rfl⟩ (fun _ => .int _)) aAc)))))
theorem aLq (N:Nat) (T:Txt K mg base w) {fa:Addr}{fd:FuncData}(F:FunD K "is_weight" "is_weight" (defArgs aAL) (defBody aAL) (defScope aAL) [] [] fa fd):FnG P w K mg base 2 fa fd aBV (spM K mg aBV.length (C.aAC N)):=aLp N T F
theorem aLr (N:Nat) (T:Txt K mg base w):Df P w K mg base "is_weight" aBV 2 (C.aAC N):=by
  obtain ⟨fa,fd,g1,F⟩:=T.f_is_weight
  exact ⟨fa,fd,g1,F.kp,F.bindsN (ps:=aBV) fun _ _ _ _ _ _ us hl=>match us,hl with | [_],_=>rfl,aLq N T F⟩
theorem aO_ (N:Nat) (T:Txt K mg base w) {fa:Addr}{fd:FuncData}(F:FunD K "is_part" "is_part" (defArgs aBx) (defBody aBx) (defScope aBx) [] [] fa fd):FnG P w K mg base (4+1) fa fd aDz (spM K mg aDz.length (fnM aKJ.length (aEM N))):=by
  apply aAm F aOH
  intro cdv A outer s H E c
  exact (aLN (i:=2) c T.d_LOOKS (.cons (ps:=aCW) (aOW N T) (by decide) (.cons (ps:=aC2) (aNj N T) (by decide) (.cons (ps:=aCV) (aOT N T) (by decide) (.cons (ps:=aBV) (aLr N T) (by decide) (.cons (ps:=aCX) (aOZ N T) (by decide) (.cons (ps:=aD8) (aQK N T) (by decide) .nil)))))) rfl (rv 0) (aAa (rv 1) aAc) (aPS (aSb (by decide)) aSc))
theorem aPa (N:Nat) (T:Txt K mg base w) {fa:Addr}{fd:FuncData}(F:FunD K "is_part" "is_part" (defArgs aBx) (defBody aBx) (defScope aBx) [] [] fa fd):FnG P w K mg base 5 fa fd aDz (spM K mg aDz.length (aC7 N)):=aO_ N T F
theorem aPb (N:Nat) (T:Txt K mg base w):Df P w K mg base "is_part" aDz 5 (aC7 N):=by
  obtain ⟨fa,fd,g1,F⟩:=T.f_is_part
  exact ⟨fa,fd,g1,F.kp,F.bindsN (ps:=aDz) fun _ _ _ _ _ _ us hl=>match us,hl with | [_,_],_=>rfl,aPa N T F⟩
theorem aQL (N:Nat) (T:Txt K mg base w) {fa:Addr}{fd:FuncData}(F:FunD K "is_row" "is_row" (defArgs aBI) (defBody aBI) (defScope aBI) [] [] fa fd):FnG P w K mg base (5+1) fa fd aE1 (spM K mg aE1.length (fnM aJ5.length (aEv N))):=by
  apply aAm F aQA
  intro cdv A outer s H E c
  exact (aAd (aBi (rt_w (aC3 (aCg (rt_e (aAt .tuple T.b_isinstance T.b_tuple aBs (rv 0)))) (aC3 (aAs aO0 (re_b aBq rfl T.b_len aBr (aAa (rv 0) aAc)) aAe (nomark _)) (aC3 (aCg (rt_e (aAt .str T.b_isinstance T.b_str aC1 (aAB (rv 0) aAe)))) (aBL (aHc T.d_PARTS (aAB (rv 0) aAe))))))) (aAf (aAk aFG)) aAn)
      (aAd (aEH (rv 0) (aJi (i:=2) c.calm (aA_ (aAX (i:=2) c.nd rfl) (aA_ (aAX (i:=3) c.nd rfl) (aGH (aAX (i:=4) c.nd rfl) aDA)))))
      (aAd (aAR (i:=5) c.nd rfl (aJk T.d_PARTS (rv 2)))
      (aAd (aBi (rt_w (aC3 (aCg (rt_e (aAg c (aIS N T) (by decide) (aAa (rv 3) aAc)))) (aBL (aAs (aEC c.u) (re_b aBq rfl T.b_len aBr (aAa (rv 4) aAc)) (re_b aBq rfl T.b_len aBr (aAa (rv 5) aAc)) (nomark _))))) (aAf (aAk aFG)) aAn)
      (aAd (aBi (rt_w (aNB (aAs aIY (rv 1) aBj (nomark _)) (aIZ (rt_w (aC3 (aAs (aDa c.u) (aAB (rv 1) aAe) aAp (nomark _)) (aBL (rt_e (aAg c (aLm N T) (by decide) (aAa (rv 3) (aAa (aAB (rv 1) aAe) aAc)))))))))) (aAf (aAk aFG)) aAn)
      (aAf (aAk (re_b (aFH c.calm) rfl T.b_all aFI (aAa (aEE [("sort",6),("part",7)] c.calm c.nd (aTN T.b_zip (aAa (rv 5) (aAa (rv 4) aAc))) (blkOk_by (own:=[("sort",6),("part",7)]) (N:=aJ5) (sc:=defScope aBI) (by decide +kernel)) (by decide) (fun _ _ _ _ _=>pg_tup c.calm (pgs_cons (pg_name (i:=6) c.nd rfl (by first | exact Or.inl rfl | exact Or.inr rfl)) (pgs_cons (pg_name (i:=7) c.nd rfl (by first | exact Or.inl rfl | exact Or.inr rfl)) pgs_nil))) (fun _ _ _ _ _=>pts0) (fun _ _ _ _ _=>(aCk c.blk (aPb N T) (by decide) (aAa (rv 6) (aAa (rv 7) aAc))))) aAc)))))))))
theorem aQM (N:Nat) (T:Txt K mg base w) {fa:Addr}{fd:FuncData}(F:FunD K "is_row" "is_row" (defArgs aBI) (defBody aBI) (defScope aBI) [] [] fa fd):FnG P w K mg base 6 fa fd aE1 (spM K mg aE1.length (aC8 N)):=aQL N T F
theorem aLs (N:Nat) (T:Txt K mg base w):Df P w K mg base "is_row" aE1 6 (aC8 N):=by
  obtain ⟨fa,fd,g1,F⟩:=T.f_is_row
  exact ⟨fa,fd,g1,F.kp,F.bindsN (ps:=aE1) fun _ _ _ _ _ _ us hl=>match us,hl with | [_,_],_=>rfl,aQM N T F⟩
theorem aLt (N:Nat) (T:Txt K mg base w) {fa:Addr}{fd:FuncData}(F:FunD K "number_of" "number_of" (defArgs aA8) (defBody aA8) (defScope aA8) [] [] fa fd):FnG P w K mg base (2+1) fa fd aCw (spM K mg aCw.length (fnM aF2.length (aF5 N))):=by
  obtain ⟨k0_FIGURES_logtexts,g_FIGURES_logtexts⟩:=T.c_FIGURES_logtexts
  apply aAm F aKK
  intro cdv A outer s H E c
  exact (aAd (aBi (rt_w (aC3 (aAs (aDa c.u) (rv 0) aAp (nomark _)) (aC3 (aCg (rt_e (re_b (aFH c.calm) rfl T.b_all aFI (aAa (aEE [("sign",1)] c.calm c.nd (aNI (rv 0)) (blkOk_by (own:=[("sign",1)]) (N:=aF2) (sc:=defScope aA8) (by decide +kernel)) (by decide) (fun _ _ _ _ _=>(pg_name (i:=1) c.nd rfl (by first | exact Or.inl rfl | exact Or.inr rfl))) (fun _ _ _ _ _=>pts0) (fun _ _ _ _ _=>(aJe aT5 (rv 1) (aD9 (v:=.str "0123456789") rfl g_FIGURES_logtexts ⟨_,rfl⟩ (fun _ => .str _))))) aAc)))) (aC3 (aAs (aDa c.u) (aAB (rv 0) aAe) aAp (nomark _)) (aBL (aAs aLG (re_b aBq rfl T.b_len aBr (aAa (rv 0) aAc)) aAe (nomark _))))))) (aAf (aBP 4 4 c aAv (aCC T) aAe)) aAn)
      (aAf (aAk (aED aGk rfl T.b_int aD4 (aAa (rv 0) aAc)))))
theorem aLu (N:Nat) (T:Txt K mg base w) {fa:Addr}{fd:FuncData}(F:FunD K "number_of" "number_of" (defArgs aA8) (defBody aA8) (defScope aA8) [] [] fa fd):FnG P w K mg base 3 fa fd aCw (spM K mg aCw.length (aD1 N)):=aLt N T F
theorem aLv (N:Nat) (T:Txt K mg base w):Df P w K mg base "number_of" aCw 3 (aD1 N):=by
  obtain ⟨fa,fd,g1,F⟩:=T.f_number_of
  exact ⟨fa,fd,g1,F.kp,F.bindsN (ps:=aCw) fun _ _ _ _ _ _ us hl=>match us,hl with | [_],_=>rfl,aLu N T F⟩
theorem aLw (N:Nat) (T:Txt K mg base w) {fa:Addr}{fd:FuncData}(F:FunD K "is_number" "is_number" (defArgs aA9) (defBody aA9) (defScope aA9) [] [] fa fd):FnG P w K mg base (0+1) fa fd aCx (spM K mg aCx.length (fnM aF3.length (aF6 N))):=by
  obtain ⟨k0_FIGURES_ratios,g_FIGURES_ratios⟩:=T.c_FIGURES_ratios
  apply aAm F aKL
  intro cdv A outer s H E c
  exact (aAf (aAk (aCh (aBK (aEC c.u) (rv 0) aAp (nomark _)) (aC4 (re_b (aFH c.calm) rfl T.b_all aFI (aAa (aEE [("sign",1)] c.calm c.nd (aNI (rv 0)) (blkOk_by (own:=[("sign",1)]) (N:=aF3) (sc:=defScope aA9) (by decide +kernel)) (by decide) (fun _ _ _ _ _=>(pg_name (i:=1) c.nd rfl (by first | exact Or.inl rfl | exact Or.inr rfl))) (fun _ _ _ _ _=>pts0) (fun _ _ _ _ _=>(aJe aT5 (rv 1) (aD9 (v:=.str "0123456789") rfl g_FIGURES_ratios ⟨_,rfl⟩ (fun _ => .str _))))) aAc))))))
theorem aLx (N:Nat) (T:Txt K mg base w) {fa:Addr}{fd:FuncData}(F:FunD K "is_number" "is_number" (defArgs aA9) (defBody aA9) (defScope aA9) [] [] fa fd):FnG P w K mg base 1 fa fd aCx (spM K mg aCx.length (aCQ N)):=aLw N T F
theorem aGC (N:Nat) (T:Txt K mg base w):Df P w K mg base "is_number" aCx 1 (aCQ N):=by
  obtain ⟨fa,fd,g1,F⟩:=T.f_is_number
  exact ⟨fa,fd,g1,F.kp,F.bindsN (ps:=aCx) fun _ _ _ _ _ _ us hl=>match us,hl with | [_],_=>rfl,aLx N T F⟩
theorem aQN (N:Nat) (T:Txt K mg base w) {fa:Addr}{fd:FuncData}(F:FunD K "lowest" "lowest" (defArgs aCb) (defBody aCb) (defScope aCb) [] [] fa fd):FnG P w K mg base (1+1) fa fd aE2 (spM K mg aE2.length (fnM aOa.length (C.aJ0 N))):=by
  apply aAm F aQB
  intro cdv A outer s H E c
  exact (aAd (aAR (i:=2) c.nd rfl (aAg c (aLg N T) (by decide) (aAa (re_b aJX rfl T.b_abs aJY (aAa (rv 0) aAc)) (aAa (rv 1) aAc))))
      (aAf (aAk (aCf (aAa (aBg aJT (rv 0) (rv 2)) (aAa (aBg aJT (rv 1) (rv 2)) aAc))))))
theorem aQO (N:Nat) (T:Txt K mg base w) {fa:Addr}{fd:FuncData}(F:FunD K "lowest" "lowest" (defArgs aCb) (defBody aCb) (defScope aCb) [] [] fa fd):FnG P w K mg base 2 fa fd aE2 (spM K mg aE2.length (C.aFR N)):=aQN N T F
theorem aQP (N:Nat) (T:Txt K mg base w):Df P w K mg base "lowest" aE2 2 (C.aFR N):=by
  obtain ⟨fa,fd,g1,F⟩:=T.f_lowest
  exact ⟨fa,fd,g1,F.kp,F.bindsN (ps:=aE2) fun _ _ _ _ _ _ us hl=>match us,hl with | [_,_],_=>rfl,aQO N T F⟩
theorem aJ9 (N:Nat) (T:Txt K mg base w) {fa:Addr}{fd:FuncData}(F:FunD K "show_ratio" "show_ratio" (defArgs aA4) (defBody aA4) (defScope aA4) [] [] fa fd):FnG P w K mg base (3+1) fa fd aBW (spM K mg aBW.length (fnM aG7.length (C.aEL N))):=by
  apply aAm F aJ6
  intro cdv A outer s H E c
  exact (aAd (aDQ (aAg c (aDE N T) (by decide) (aAa (rv 0) aAc)))
      (aAd (aEH (rv 0) (aIH c.calm (aA_ (aAX (i:=1) c.nd rfl) (aA_ (aAX (i:=2) c.nd rfl) aDA))))
      (aAd (aBi (aAs (aDa c.u) (rv 2) aAe (nomark _)) (aAf (aAk (aED aHb rfl T.b_str aC1 (aAa (rv 1) aAc)))) aAn)
      (aAf (aAk (aXE (.cons (aSO (rv 1)) (.cons aAp (.cons (aSO (rv 2)) .nil)))))))))
theorem aJA (N:Nat) (T:Txt K mg base w) {fa:Addr}{fd:FuncData}(F:FunD K "show_ratio" "show_ratio" (defArgs aA4) (defBody aA4) (defScope aA4) [] [] fa fd):FnG P w K mg base 4 fa fd aBW (spM K mg aBW.length (C.aBU N)):=aJ9 N T F
theorem aE4 (N:Nat) (T:Txt K mg base w):Df P w K mg base "show_ratio" aBW 4 (C.aBU N):=by
  obtain ⟨fa,fd,g1,F⟩:=T.f_show_ratio
  exact ⟨fa,fd,g1,F.kp,F.bindsN (ps:=aBW) fun _ _ _ _ _ _ us hl=>match us,hl with | [_],_=>rfl,aJA N T F⟩
theorem aJB (N:Nat) (T:Txt K mg base w) {fa:Addr}{fd:FuncData}(F:FunD K "read_ratio" "read_ratio" (defArgs aA5) (defBody aA5) (defScope aA5) [] [] fa fd):FnG P w K mg base (4+1) fa fd aBX (spM K mg aBX.length (fnM aG8.length (aBb N))):=by
  apply aAm F aJ7
  intro cdv A outer s H E c
  exact (aAd (aBi (aCg (rt_e (aAt .str T.b_isinstance T.b_str aC1 (rv 0)))) (aAf (aBP 4 4 c aAv (aCC T) aAe)) aAn)
      (aAd (aAR (i:=1) c.nd rfl (aBK (aDa c.u) (aRK (rv 0) aGe (aGf aAe)) aAp (nomark _)))
      (aAd (aEH (aJj aKe PySem.F.slot_str_partition PySem.F.type_str_partition (aRK (rv 0) (aGf (aED aGk rfl T.b_int aD4 (aAa (rv 1) aAc))) aGe) (aAa aAp aAc)) (aIH c.calm (aA_ (aAX (i:=2) c.nd rfl) (aA_ (aAX (i:=3) c.nd rfl) (aA_ (aAX (i:=4) c.nd rfl) aDA)))))
      (aAd (aBi (rt_w (aC3 (aCg (rt_e (aAg c (aGC N T) (by decide) (aAa (rv 2) aAc)))) (aBL (rt_w (aNB (aAs (aEC c.u) (rv 3) aAp (nomark _)) (aIZ (rt_w (aC3 (aCg (rt_e (aAg c (aGC N T) (by decide) (aAa (rv 4) aAc)))) (aBL (aAs (aDa c.u) (aED aGk rfl T.b_int aD4 (aAa (rv 4) aAc)) aAe (nomark _))))))))))) (aAf (aBP 4 4 c aAv (aCC T) aAe)) aAn)
      (aAd (aAR (i:=5) c.nd rfl (aAg c (aQP N T) (by decide) (aAa (aBg aDH (aED aGk rfl T.b_int aD4 (aAa (rv 2) aAc)) (aAB (aD3 (aAa aAe (aAa (aNC aAe) aAc))) (aED aGk rfl T.b_int aD4 (aAa (rv 1) aAc)))) (aAa (aED aGk rfl T.b_int aD4 (aAa (aTw (rv 4) (aC4 aAp)) aAc)) aAc))))
      (aAd (aBi (aAs (aEC c.u) (aAg c (aE4 N T) (by decide) (aAa (rv 5) aAc)) (rv 0) (nomark _)) (aAf (aBP 4 4 c aAv (aCC T) aAe)) aAn)
      (aAf (aAk (rv 5)))))))))
theorem aJC (N:Nat) (T:Txt K mg base w) {fa:Addr}{fd:FuncData}(F:FunD K "read_ratio" "read_ratio" (defArgs aA5) (defBody aA5) (defScope aA5) [] [] fa fd):FnG P w K mg base 5 fa fd aBX (spM K mg aBX.length (aA3 N)):=aJB N T F
theorem aFZ (N:Nat) (T:Txt K mg base w):Df P w K mg base "read_ratio" aBX 5 (aA3 N):=by
  obtain ⟨fa,fd,g1,F⟩:=T.f_read_ratio
  exact ⟨fa,fd,g1,F.kp,F.bindsN (ps:=aBX) fun _ _ _ _ _ _ us hl=>match us,hl with | [_],_=>rfl,aJC N T F⟩
theorem aPc (N:Nat) (T:Txt K mg base w) {fa:Addr}{fd:FuncData}(F:FunD K "part_of" "part_of" (defArgs aBy) (defBody aBy) (defScope aBy) [] [] fa fd):FnG P w K mg base (5+1) fa fd aD0 (spM K mg aD0.length (fnM aKM.length (aCj N))):=by
  obtain ⟨k0_NONE,g_NONE,k_NONE⟩:=T.c_NONE
  apply aAm F aOI
  intro cdv A outer s H E c
  exact (aAd (aBi (aJf aPK (rv 1) (aCf (aAa aAp (aAa aAp aAc)))) (aAd (aBi (aAs (aDa c.u) (rv 0) aAp (nomark _)) (aAf (aAk (aJV (aAs (aDa c.u) (rv 1) aAp (nomark _)) (aD9 (v:=.ref k0_NONE) rfl g_NONE rfl (fun _ => .tup (.inr k_NONE) (.cons (.int _) (.cons (.int _) .nil)))) aBj))) aAn)
      (aAd (aAR (i:=2) c.nd rfl (aAg c (aFZ N T) (by decide) (aAa (rv 0) aAc)))
      (aAd (aBi (aAs (aDa c.u) (rv 2) (aD9 (v:=.ref k0_NONE) rfl g_NONE rfl (fun _ => .tup (.inr k_NONE) (.cons (.int _) (.cons (.int _) .nil)))) (nomark _)) (aAf (aBP 4 4 c aAv (aCC T) aAe)) aAn)
      (aAf (aAk (rv 2)))))) aAn)
      (aAf (aAk (aJV (aJf aPK (rv 1) (aCf (aAa aAp (aAa aAp aAc)))) (aAg c (aLv N T) (by decide) (aAa (rv 0) aAc)) (rv 0)))))
theorem aPd (N:Nat) (T:Txt K mg base w) {fa:Addr}{fd:FuncData}(F:FunD K "part_of" "part_of" (defArgs aBy) (defBody aBy) (defScope aBy) [] [] fa fd):FnG P w K mg base 6 fa fd aD0 (spM K mg aD0.length (aBG N)):=aPc N T F
theorem aPe (N:Nat) (T:Txt K mg base w):Df P w K mg base "part_of" aD0 6 (aBG N):=by
  obtain ⟨fa,fd,g1,F⟩:=T.f_part_of
  exact ⟨fa,fd,g1,F.kp,F.bindsN (ps:=aD0) fun _ _ _ _ _ _ us hl=>match us,hl with | [_,_],_=>rfl,aPd N T F⟩
theorem aQQ (N:Nat) (T:Txt K mg base w) {fa:Addr}{fd:FuncData}(F:FunD K "row_of" "row_of" (defArgs aBJ) (defBody aBJ) (defScope aBJ) [] [] fa fd):FnG P w K mg base (6+1) fa fd aE3 (spM K mg aE3.length (fnM aJ8.length (aGJ N))):=by
  apply aAm F aQC
  intro cdv A outer s H E c
  exact (aAd (aEH (aJj aNK PySem.F.slot_str_split PySem.F.type_str_split (rv 0) (aAa aAp aAc)) (aJi (i:=1) c.calm (aA_ (aAX (i:=1) c.nd rfl) (aGH (aAX (i:=2) c.nd rfl) aDA))))
      (aAd (aBi (rt_w (aC3 (aHc T.d_PARTS (rv 1)) (aBL (aAs (aEC c.u) (re_b aBq rfl T.b_len aBr (aAa (rv 2) aAc)) (aAA aDR aAe (re_b aBq rfl T.b_len aBr (aAa (aJk T.d_PARTS (rv 1)) aAc))) (nomark _))))) (aAf (aBP 4 4 c aAv (aCC T) aAe)) aAn)
      (aAd (aEH (rv 2) (aJi (i:=1) c.calm (aA_ (aAX (i:=3) c.nd rfl) (aGH (aAX (i:=4) c.nd rfl) aDA))))
      (aAf (aAk (aAA aDR (aCf (aAa (rv 1) (aAa (aAg c (aFZ N T) (by decide) (aAa (rv 3) aAc)) aAc))) (aED aI_ rfl T.b_tuple aBs (aAa (aEE [("part",5),("sort",6)] c.calm c.nd (aTP T.b_zip (aAa (rv 4) (aAa (aJk T.d_PARTS (rv 1)) aAc))) (blkOk_by (own:=[("part",5),("sort",6)]) (N:=aJ8) (sc:=defScope aBJ) (by decide +kernel)) (by decide) (fun _ _ _ _ _=>pg_tup c.calm (pgs_cons (pg_name (i:=5) c.nd rfl (by first | exact Or.inl rfl | exact Or.inr rfl)) (pgs_cons (pg_name (i:=6) c.nd rfl (by first | exact Or.inl rfl | exact Or.inr rfl)) pgs_nil))) (fun _ _ _ _ _=>pts0) (fun _ _ _ _ _=>(aCk c.blk (aPe N T) (by decide) (aAa (rv 5) (aAa (rv 6) aAc))))) aAc))))))))
theorem aQR (N:Nat) (T:Txt K mg base w) {fa:Addr}{fd:FuncData}(F:FunD K "row_of" "row_of" (defArgs aBJ) (defBody aBJ) (defScope aBJ) [] [] fa fd):FnG P w K mg base 7 fa fd aE3 (spM K mg aE3.length (aBN N)):=aQQ N T F
theorem aQS (N:Nat) (T:Txt K mg base w):Df P w K mg base "row_of" aE3 7 (aBN N):=by
  obtain ⟨fa,fd,g1,F⟩:=T.f_row_of
  exact ⟨fa,fd,g1,F.kp,F.bindsN (ps:=aE3) fun _ _ _ _ _ _ us hl=>match us,hl with | [_],_=>rfl,aQR N T F⟩
theorem aNk (N:Nat) (T:Txt K mg base w) {fa:Addr}{fd:FuncData}(F:FunD K "read_log" "read_log" (defArgs aBf) (defBody aBf) (defScope aBf) [] [] fa fd):FnG P w K mg base (7+1) fa fd aCN (spM K mg aCN.length (fnM aIQ.length (aGr N))):=by
  obtain ⟨C_NoText,g_NoText⟩:=T.x_NoText
  apply aAm F aMX
  intro cdv A outer s H E c
  exact (aAd (aBi (aCg (rt_e (aAt .str T.b_isinstance T.b_str aC1 (rv 0)))) (aAf (aBP 4 4 c aAv (aCC T) aAe)) aAn)
      (aAd (aAR (i:=1) c.nd rfl (aP1 aAc))
      (aAd (aJ_ c.po c.calm (aPI T.b_enumerate (aAa (aJj aNK PySem.F.slot_str_split PySem.F.type_str_split (rv 0) (aAa aAp aAc)) aAc)) (aIH c.calm (aA_ (aAX (i:=2) c.nd rfl) (aA_ (aAX (i:=3) c.nd rfl) aDA))) (aAd (aAR (i:=4) c.nd rfl aBj)
      (aAd (aTG c (fun _ _ _ c=>(aAf (aAR (i:=4) c.nd rfl (aAg c (aQS N T) (by decide) (aAa (rv 3) aAc))))) (.bare (aRX ⟨rfl,by decide, .inl g_NoText⟩) (.cons (T.tx_NoText _ g_NoText) .nil) (fun _ _=>(aAf (aAR (i:=4) c.nd rfl aBj))) .nil))
      (aAd (aBi (rt_w (aC3 (aAs aEG (rv 4) aBj (nomark _)) (aBL (aCg (rt_e (aAg c (aLs N T) (by decide) (aAa (rv 4) (aAa (aJV (aJf (aVK c.u) (rv 1) (aD3 aAc)) (aAB (rv 1) (aNC aAe)) aBj) aAc)))))))) (aAf (aBP 4 4 c aAv (aCC T) (rv 2))) aAn)
      (aAf (aDQ (aSN (rv 1) (aAa (rv 4) aAc))))))))
      (aAd (aBi (aAs (aEC c.u) (aAB (aAB (rv 1) (aNC aAe)) aAe) aAp (nomark _)) (aAf (aBP 4 4 c aAv (aCC T) (re_b aBq rfl T.b_len aBr (aAa (rv 1) aAc)))) aAn)
      (aAf (aAk (aED aI_ rfl T.b_tuple aBs (aAa (rv 1) aAc))))))))
theorem aNl (N:Nat) (T:Txt K mg base w) {fa:Addr}{fd:FuncData}(F:FunD K "read_log" "read_log" (defArgs aBf) (defBody aBf) (defScope aBf) [] [] fa fd):FnG P w K mg base 8 fa fd aCN (spM K mg aCN.length (aBH N)):=aNk N T F
theorem aF8 (N:Nat) (T:Txt K mg base w):Df P w K mg base "read_log" aCN 8 (aBH N):=by
  obtain ⟨fa,fd,g1,F⟩:=T.f_read_log
  exact ⟨fa,fd,g1,F.kp,F.bindsN (ps:=aCN) fun _ _ _ _ _ _ us hl=>match us,hl with | [_],_=>rfl,aNl N T F⟩
theorem aIa (N:Nat) (T:Txt K mg base w) {fa:Addr}{fd:FuncData}(F:FunD K "_law_refused" "_law_refused" (defArgs aAu) (defBody aAu) (defScope aAu) [] [] fa fd):FnG P w K mg base (8+1) fa fd aBp (spM K mg aBp.length (fnM aEW.length (aDD N))):=by
  obtain ⟨C_NoText,g_NoText⟩:=T.x_NoText
  apply aAm F aHY
  intro cdv A outer s H E c
  exact (aAd (aVF c (i:=1) rfl ⟨rfl,by decide, .inl g_NoText⟩ (T.tx_NoText _ g_NoText) (fun _ _ _ c=>(aAf (aDQ (aAg c (aF8 N T) (by decide) (aAa (rv 0) aAc))))) (fun _ _=>(aAf (aAk (aTH 4 T.z_row (rv 1))))))
      (aAf (aAk aBj)))
theorem aIb (N:Nat) (T:Txt K mg base w) {fa:Addr}{fd:FuncData}(F:FunD K "_law_refused" "_law_refused" (defArgs aAu) (defBody aAu) (defScope aAu) [] [] fa fd):FnG P w K mg base 9 fa fd aBp (spM K mg aBp.length (aA6 N)):=aIa N T F
theorem aD2 (N:Nat) (T:Txt K mg base w):Df P w K mg base "_law_refused" aBp 9 (aA6 N):=by
  obtain ⟨fa,fd,g1,F⟩:=T.f__law_refused
  exact ⟨fa,fd,g1,F.kp,F.bindsN (ps:=aBp) fun _ _ _ _ _ _ us hl=>match us,hl with | [_],_=>rfl,aIb N T F⟩
theorem aLy (N:Nat) (T:Txt K mg base w) {fa:Addr}{fd:FuncData}(F:FunD K "first_odd" "first_odd" (defArgs aAM) (defBody aAM) (defScope aAM) [] [] fa fd):FnG P w K mg base (6+1) fa fd aCy (spM K mg aCy.length (fnM aHZ.length (aDu N))):=by
  apply aAm F aKN
  intro cdv A outer s H E c
  exact (aAd (aBi (aCg (rt_e (aAt .tuple T.b_isinstance T.b_tuple aBs (rv 0)))) (aAf (aBP 17 4 c aAv (aOb T) aBj)) aAn)
      (aAd (aAR (i:=1) c.nd rfl aBj)
      (aAd (aJ_ c.po c.calm (aPI T.b_enumerate (aAa (rv 0) aAc)) (aIH c.calm (aA_ (aAX (i:=2) c.nd rfl) (aA_ (aAX (i:=3) c.nd rfl) aDA))) (aAd (aBi (aCg (rt_e (aAg c (aLs N T) (by decide) (aAa (rv 3) (aAa (rv 1) aAc))))) (aAf (aAk (rv 2))) aAn)
      (aAf (aAR (i:=1) c.nd rfl (rv 3)))))
      (aAf (aAk (aJV (rt_w (aC3 (aAs aEG (rv 1) aBj (nomark _)) (aBL (aAs (aEC c.u) (aAB (rv 1) aAe) aAp (nomark _))))) (re_b aBq rfl T.b_len aBr (aAa (rv 0) aAc)) aBj))))))
theorem aLz (N:Nat) (T:Txt K mg base w) {fa:Addr}{fd:FuncData}(F:FunD K "first_odd" "first_odd" (defArgs aAM) (defBody aAM) (defScope aAM) [] [] fa fd):FnG P w K mg base 7 fa fd aCy (spM K mg aCy.length (aCl N)):=aLy N T F
theorem aL0 (N:Nat) (T:Txt K mg base w):Df P w K mg base "first_odd" aCy 7 (aCl N):=by
  obtain ⟨fa,fd,g1,F⟩:=T.f_first_odd
  exact ⟨fa,fd,g1,F.kp,F.bindsN (ps:=aCy) fun _ _ _ _ _ _ us hl=>match us,hl with | [_],_=>rfl,aLz N T F⟩
theorem aI5 (N:Nat) (T:Txt K mg base w) {fa:Addr}{fd:FuncData}(F:FunD K "check_forms" "check_forms" (defArgs aA1) (defBody aA1) (defScope aA1) [] [] fa fd):FnG P w K mg base (7+1) fa fd aB9 (spM K mg aB9.length (fnM aFW.length (aC9 N))):=by
  apply aAm F aIr
  intro cdv A outer s H E c
  exact (aAd (aAR (i:=1) c.nd rfl (aAg c (aL0 N T) (by decide) (aAa (rv 0) aAc)))
      (aAf (aBi (aAs aIY (rv 1) aBj (nomark _)) (aAf (aBP 17 4 c aAv (aOb T) (rv 1))) aAn)))
theorem aI6 (N:Nat) (T:Txt K mg base w) {fa:Addr}{fd:FuncData}(F:FunD K "check_forms" "check_forms" (defArgs aA1) (defBody aA1) (defScope aA1) [] [] fa fd):FnG P w K mg base 8 fa fd aB9 (spM K mg aB9.length (aCd N)):=aI5 N T F
theorem aI7 (N:Nat) (T:Txt K mg base w):Df P w K mg base "check_forms" aB9 8 (aCd N):=by
  obtain ⟨fa,fd,g1,F⟩:=T.f_check_forms
  exact ⟨fa,fd,g1,F.kp,F.bindsN (ps:=aB9) fun _ _ _ _ _ _ us hl=>match us,hl with | [_],_=>rfl,aI6 N T F⟩
theorem aL1 (N:Nat) (T:Txt K mg base w) {fa:Addr}{fd:FuncData}(F:FunD K "show_part" "show_part" (defArgs aAN) (defBody aAN) (defScope aAN) [] [] fa fd):FnG P w K mg base (4+1) fa fd aCz (spM K mg aCz.length (fnM aH_.length (aC0 N))):=by
  obtain ⟨k0_NONE,g_NONE,k_NONE⟩:=T.c_NONE
  apply aAm F aKO
  intro cdv A outer s H E c
  exact (aAd (aBi (rt_w (aC3 (aAs aEG (rv 0) aBj (nomark _)) (aBL (aAs (aDa c.u) (rv 0) (aD9 (v:=.ref k0_NONE) rfl g_NONE rfl (fun _ => .tup (.inr k_NONE) (.cons (.int _) (.cons (.int _) .nil)))) (nomark _))))) (aAf (aAk aAp)) aAn)
      (aAd (aBi (rt_e (aAt .tuple T.b_isinstance T.b_tuple aBs (rv 0))) (aAf (aAk (aAg c (aE4 N T) (by decide) (aAa (rv 0) aAc)))) aAn)
      (aAf (aAk (aED aHb rfl T.b_str aC1 (aAa (rv 0) aAc))))))
theorem aL2 (N:Nat) (T:Txt K mg base w) {fa:Addr}{fd:FuncData}(F:FunD K "show_part" "show_part" (defArgs aAN) (defBody aAN) (defScope aAN) [] [] fa fd):FnG P w K mg base 5 fa fd aCz (spM K mg aCz.length (aBC N)):=aL1 N T F
theorem aL3 (N:Nat) (T:Txt K mg base w):Df P w K mg base "show_part" aCz 5 (aBC N):=by
  obtain ⟨fa,fd,g1,F⟩:=T.f_show_part
  exact ⟨fa,fd,g1,F.kp,F.bindsN (ps:=aCz) fun _ _ _ _ _ _ us hl=>match us,hl with | [_],_=>rfl,aL2 N T F⟩
theorem aNm (N:Nat) (T:Txt K mg base w) {fa:Addr}{fd:FuncData}(F:FunD K "show_row" "show_row" (defArgs aAT) (defBody aAT) (defScope aAT) [] [] fa fd):FnG P w K mg base (5+1) fa fd aCO (spM K mg aCO.length (fnM aGo.length (aGs N))):=by
  apply aAm F aMY
  intro cdv A outer s H E c
  exact (aAd (aEH (rv 0) (aJi (i:=2) c.calm (aA_ (aAX (i:=1) c.nd rfl) (aA_ (aAX (i:=2) c.nd rfl) (aGH (aAX (i:=3) c.nd rfl) aDA)))))
      (aAf (aAk (aJj aGj PySem.F.slot_str_join PySem.F.type_str_join aAp (aAa (aAA aBo (aD3 (aAa (rv 1) (aAa (aAg c (aE4 N T) (by decide) (aAa (rv 2) aAc)) aAc))) (aEE [("part",4)] c.calm c.nd (ri_e (rv 3)) (blkOk_by (own:=[("part",4)]) (N:=aGo) (sc:=defScope aAT) (by decide +kernel)) (by decide) (fun _ _ _ _ _=>(pg_name (i:=4) c.nd rfl (by first | exact Or.inl rfl | exact Or.inr rfl))) (fun _ _ _ _ _=>pts0) (fun _ _ _ _ _=>(aCk c.blk (aL3 N T) (by decide) (aAa (rv 4) aAc))))) aAc)))))
theorem aNn (N:Nat) (T:Txt K mg base w) {fa:Addr}{fd:FuncData}(F:FunD K "show_row" "show_row" (defArgs aAT) (defBody aAT) (defScope aAT) [] [] fa fd):FnG P w K mg base 6 fa fd aCO (spM K mg aCO.length (aDg N)):=aNm N T F
theorem aNo (N:Nat) (T:Txt K mg base w):Df P w K mg base "show_row" aCO 6 (aDg N):=by
  obtain ⟨fa,fd,g1,F⟩:=T.f_show_row
  exact ⟨fa,fd,g1,F.kp,F.bindsN (ps:=aCO) fun _ _ _ _ _ _ us hl=>match us,hl with | [_],_=>rfl,aNn N T F⟩
theorem aNp (N:Nat) (T:Txt K mg base w) {fa:Addr}{fd:FuncData}(F:FunD K "show_log" "show_log" (defArgs aAU) (defBody aAU) (defScope aAU) [] [] fa fd):FnG P w K mg base (8+1) fa fd aCP (spM K mg aCP.length (fnM aGp.length (aGt N))):=by
  apply aAm F aMZ
  intro cdv A outer s H E c
  exact (aAd (aDQ (aAg c (aI7 N T) (by decide) (aAa (rv 0) aAc)))
      (aAf (aAk (aJj aGj PySem.F.slot_str_join PySem.F.type_str_join aAp (aAa (aEE [("row",1)] c.calm c.nd (ri_e (rv 0)) (blkOk_by (own:=[("row",1)]) (N:=aGp) (sc:=defScope aAU) (by decide +kernel)) (by decide) (fun _ _ _ _ _=>(pg_name (i:=1) c.nd rfl (by first | exact Or.inl rfl | exact Or.inr rfl))) (fun _ _ _ _ _=>pts0) (fun _ _ _ _ _=>(aCk c.blk (aNo N T) (by decide) (aAa (rv 1) aAc)))) aAc)))))
theorem aNq (N:Nat) (T:Txt K mg base w) {fa:Addr}{fd:FuncData}(F:FunD K "show_log" "show_log" (defArgs aAU) (defBody aAU) (defScope aAU) [] [] fa fd):FnG P w K mg base 9 fa fd aCP (spM K mg aCP.length (aCe N)):=aNp N T F
theorem aF9 (N:Nat) (T:Txt K mg base w):Df P w K mg base "show_log" aCP 9 (aCe N):=by
  obtain ⟨fa,fd,g1,F⟩:=T.f_show_log
  exact ⟨fa,fd,g1,F.kp,F.bindsN (ps:=aCP) fun _ _ _ _ _ _ us hl=>match us,hl with | [_],_=>rfl,aNq N T F⟩
theorem aWU (N:Nat) (T:Txt K mg base w) {fa:Addr}{fd:FuncData}(F:FunD K "law" "law" (defArgs aEY) (defBody aEY) (defScope aEY) [] [] fa fd):FnG P w K mg base (9+1) fa fd aQD (spM K mg aQD.length (fnM aSx.length (aUN N))):=by
  apply aAm F aWT
  intro cdv A outer s H E c
  exact (aAd (aAR (i:=1) c.nd rfl aBj)
      (aAd (aJ_ c.po c.calm (aDh T.b_range (aAa (re_b (aVC c.calm) rfl T.b_max aVD (aAa aAe (aAa (re_b (aSI c.calm) rfl T.b_min aSJ (aAa aAe (aAa (re_b aBq rfl T.b_len aBr (aAa (rv 0) aAc)) aAc))) aAc))) aAc)) (aAX (i:=2) c.nd rfl) (aAd (aAR (i:=3) c.nd rfl (aAg c (aGw N T) (by decide) (aAa (aAg c (aLf N T) (by decide) (aAa (aAg c (aKR N T) (by decide) (aAa (rv 0) (aAa (rv 2) aAc))) aAc)) aAc)))
      (aAd (aAR (i:=4) c.nd rfl (aJj aGj PySem.F.slot_str_join PySem.F.type_str_join aAp (aAa (aEE [("_law_row",5)] c.calm c.nd (ri_e (rv 3)) (blkOk_by (own:=[("_law_row",5)]) (N:=aSx) (sc:=defScope aEY) (by decide +kernel)) (by decide) (fun _ _ _ _ _=>(pg_name (i:=5) c.nd rfl (by first | exact Or.inl rfl | exact Or.inr rfl))) (fun _ _ _ _ _=>pts0) (fun _ _ _ _ _=>(aCk c.blk (aGA N T) (by decide) (aAa (rv 5) aAc)))) aAc)))
      (aAd (aBi (rt_w (aC3 (aAs (aEC c.u) (aAg c (aF9 N T) (by decide) (aAa (rv 3) aAc)) (rv 4) (nomark _)) (aC3 (aCg (rt_e (aAg c (aOM N T) (by decide) (aAa (aAg c (aF8 N T) (by decide) (aAa (rv 4) aAc)) (aAa (rv 3) aAc))))) (aBL (aAs (aEC c.u) (aAg c (aF9 N T) (by decide) (aAa (aAg c (aF8 N T) (by decide) (aAa (rv 4) aAc)) aAc)) (rv 4) (nomark _)))))) (aAf (aAk aFG)) aAn)
      (aAd (aBi (rt_w (aC3 (aAs (aEC c.u) (aAg c (aD2 N T) (by decide) (aAa (aAA aBo (rv 4) aAp) aAc)) (re_b aBq rfl T.b_len aBr (aAa (rv 3) aAc)) (nomark _)) (aBL (aAs (aEC c.u) (aAg c (aD2 N T) (by decide) (aAa (aAA aBo (rv 4) aAp) aAc)) (re_b aBq rfl T.b_len aBr (aAa (rv 3) aAc)) (nomark _))))) (aAf (aAk aFG)) aAn)
      (aAd (aBi (rt_w (aNB (aAs aLG (re_b aBq rfl T.b_len aBr (aAa (rv 3) aAc)) aAe (nomark _)) (aIZ (aAs (aEC c.u) (aAg c (aD2 N T) (by decide) (aAa (aJj aGj PySem.F.slot_str_join PySem.F.type_str_join aAp (aAa (aEE [("_law_row",5)] c.calm c.nd (ri_e (aSU (rv 3) aGe (aGf (aNC aAe)))) (blkOk_by (own:=[("_law_row",5)]) (N:=aSx) (sc:=defScope aEY) (by decide +kernel)) (by decide) (fun _ _ _ _ _=>(pg_name (i:=5) c.nd rfl (by first | exact Or.inl rfl | exact Or.inr rfl))) (fun _ _ _ _ _=>pts0) (fun _ _ _ _ _=>(aCk c.blk (aGA N T) (by decide) (aAa (rv 5) aAc)))) aAc)) aAc)) (aBg aSG (re_b aBq rfl T.b_len aBr (aAa (rv 3) aAc)) aAe) (nomark _))))) (aAf (aAk aFG)) aAn)
      (aAd (aBi (rt_w (aNB (aAs aIY (rv 1) aBj (nomark _)) (aIZ (aAs (aEC c.u) (aBK (aDa c.u) (aAg c (aF9 N T) (by decide) (aAa (rv 1) aAc)) (rv 4) (nomark _)) (aBK (aDa c.u) (rv 1) (rv 3) (nomark _)) (nomark _))))) (aAf (aAk aFG)) aAn)
      (aAf (aAR (i:=1) c.nd rfl (rv 3))))))))))
      (aAf (aAk aFG))))
theorem aWV (N:Nat) (T:Txt K mg base w) {fa:Addr}{fd:FuncData}(F:FunD K "law" "law" (defArgs aEY) (defBody aEY) (defScope aEY) [] [] fa fd):FnG P w K mg base 10 fa fd aQD (spM K mg aQD.length (aOJ N)):=aWU N T F
end
theorem aWW {K:PySem.W.Frag}{h base:Heap}{mg:Str→Option Value}{w:World}(X:K.In h) (Y:h.Ns mainGlobals mg) (c:SaysX fxAll fnAll K) (B:TBs K mg base tsL) (cw:SaysK tdL w K):Txt K mg base w where
  tb:=B
  b_abs:=aC5 X Y (c.fact 0 (f:=fx_0)) 0
  b_all:=aC5 X Y (c.fact 0 (f:=fx_0)) 1
  b_bool:=aC5 X Y (c.fact 0 (f:=fx_0)) 2
  b_divmod:=aC5 X Y (c.fact 0 (f:=fx_0)) 3
  b_enumerate:=aC5 X Y (c.fact 0 (f:=fx_0)) 4
  b_int:=aC5 X Y (c.fact 0 (f:=fx_0)) 5
  b_isinstance:=aC5 X Y (c.fact 0 (f:=fx_0)) 6
  b_len:=aC5 X Y (c.fact 0 (f:=fx_0)) 7
  b_max:=aC5 X Y (c.fact 0 (f:=fx_0)) 8
  b_min:=aC5 X Y (c.fact 0 (f:=fx_0)) 9
  b_range:=aC5 X Y (c.fact 0 (f:=fx_0)) 10
  b_str:=aC5 X Y (c.fact 0 (f:=fx_0)) 11
  b_tuple:=aC5 X Y (c.fact 0 (f:=fx_0)) 12
  b_zip:=aC5 X Y (c.fact 0 (f:=fx_0)) 13
  c_FIGURES_logtexts:=aP9 X Y (c.fact 4 (f:=fx_4))
  c_FIGURES_ratios:=aP9 X Y (c.fact 5 (f:=fx_5))
  c_LETTERS:=aP9 X Y (c.fact 6 (f:=fx_6))
  c_MOST_LETTERS:=aP8 X Y (c.fact 7 (f:=fx_7))
  c_MOST_SIZE:=aP8 X Y (c.fact 8 (f:=fx_8))
  c_MOST_WEIGHT:=aP8 X Y (c.fact 9 (f:=fx_9))
  c_NONE:=⟨_,(aAl X Y (c.fact 3 (f:=fx_3)) 6),aT1 (c.fact 10 (f:=aVw))⟩
  f__law_cell:=(c.def_ 0 (d:=aGN)).elim fun fd F=>⟨_,fd,(aAl X Y (c.fact 1 (f:=fx_1)) 2),F⟩
  f__law_r:=(c.def_ 1 (d:=aN3)).elim fun fd F=>⟨_,fd,(aAl X Y (c.fact 1 (f:=fx_1)) 3),F⟩
  f__law_add:=(c.def_ 2 (d:=aI8)).elim fun fd F=>⟨_,fd,(aAl X Y (c.fact 1 (f:=fx_1)) 4),F⟩
  f__law_take:=(c.def_ 3 (d:=aGO)).elim fun fd F=>⟨_,fd,(aAl X Y (c.fact 1 (f:=fx_1)) 5),F⟩
  f__law_moment:=(c.def_ 4 (d:=aFA)).elim fun fd F=>⟨_,fd,(aAl X Y (c.fact 1 (f:=fx_1)) 6),F⟩
  f__law_name:=(c.def_ 5 (d:=aGP)).elim fun fd F=>⟨_,fd,(aAl X Y (c.fact 1 (f:=fx_1)) 7),F⟩
  f__law_rate:=(c.def_ 6 (d:=aGQ)).elim fun fd F=>⟨_,fd,(aAl X Y (c.fact 1 (f:=fx_1)) 8),F⟩
  f__law_drawn_log:=(c.def_ 7 (d:=aE6)).elim fun fd F=>⟨_,fd,(aAl X Y (c.fact 1 (f:=fx_1)) 9),F⟩
  f__law_is__r3:=(c.def_ 8 (d:=aFB)).elim fun fd F=>⟨_,fd,(aAl X Y (c.fact 1 (f:=fx_1)) 10),F⟩
  f__law_is__r2:=(c.def_ 9 (d:=aFC)).elim fun fd F=>⟨_,fd,(aAl X Y (c.fact 1 (f:=fx_1)) 10),F⟩
  f__law_is__r1:=(c.def_ 10 (d:=aFD)).elim fun fd F=>⟨_,fd,(aAl X Y (c.fact 1 (f:=fx_1)) 10),F⟩
  f__law_is:=(c.def_ 11 (d:=aJK)).elim fun fd F=>⟨_,fd,(aAl X Y (c.fact 1 (f:=fx_1)) 10),F⟩
  f__law_word:=(c.def_ 12 (d:=aGR)).elim fun fd F=>⟨_,fd,(aAl X Y (c.fact 1 (f:=fx_1)) 11),F⟩
  f__law_line:=(c.def_ 13 (d:=aGS)).elim fun fd F=>⟨_,fd,(aAl X Y (c.fact 1 (f:=fx_1)) 12),F⟩
  f__law_pool:=(c.def_ 14 (d:=aGT)).elim fun fd F=>⟨_,fd,(aAl X Y (c.fact 1 (f:=fx_1)) 13),F⟩
  f_is_whole:=(c.def_ 15 (d:=aI9)).elim fun fd F=>⟨_,fd,(aAl X Y (c.fact 1 (f:=fx_1)) 14),F⟩
  f_shared:=(c.def_ 16 (d:=aN4)).elim fun fd F=>⟨_,fd,(aAl X Y (c.fact 1 (f:=fx_1)) 15),F⟩
  f_is_ratio:=(c.def_ 17 (d:=aIA)).elim fun fd F=>⟨_,fd,(aAl X Y (c.fact 1 (f:=fx_1)) 16),F⟩
  f_check_ratio:=(c.def_ 18 (d:=aFE)).elim fun fd F=>⟨_,fd,(aAl X Y (c.fact 1 (f:=fx_1)) 17),F⟩
  f_check_two:=(c.def_ 19 (d:=aGU)).elim fun fd F=>⟨_,fd,(aAl X Y (c.fact 1 (f:=fx_1)) 18),F⟩
  f_is_before:=(c.def_ 20 (d:=aGV)).elim fun fd F=>⟨_,fd,(aAl X Y (c.fact 1 (f:=fx_1)) 19),F⟩
  f_is_rate:=(c.def_ 21 (d:=aJL)).elim fun fd F=>⟨_,fd,(aAl X Y (c.fact 2 (f:=fx_2)) 0),F⟩
  f_is_time:=(c.def_ 22 (d:=aJM)).elim fun fd F=>⟨_,fd,(aAl X Y (c.fact 2 (f:=fx_2)) 1),F⟩
  f_is_least:=(c.def_ 23 (d:=aIB)).elim fun fd F=>⟨_,fd,(aAl X Y (c.fact 2 (f:=fx_2)) 2),F⟩
  f_is_most:=(c.def_ 24 (d:=aJN)).elim fun fd F=>⟨_,fd,(aAl X Y (c.fact 2 (f:=fx_2)) 3),F⟩
  f_is_name:=(c.def_ 25 (d:=aJO)).elim fun fd F=>⟨_,fd,(aAl X Y (c.fact 2 (f:=fx_2)) 4),F⟩
  f_is_within:=(c.def_ 26 (d:=aGW)).elim fun fd F=>⟨_,fd,(aAl X Y (c.fact 2 (f:=fx_2)) 5),F⟩
  f_is_size:=(c.def_ 27 (d:=aJP)).elim fun fd F=>⟨_,fd,(aAl X Y (c.fact 2 (f:=fx_2)) 6),F⟩
  f_is_way:=(c.def_ 28 (d:=aN5)).elim fun fd F=>⟨_,fd,(aAl X Y (c.fact 2 (f:=fx_2)) 7),F⟩
  f_is_weight:=(c.def_ 29 (d:=aGX)).elim fun fd F=>⟨_,fd,(aAl X Y (c.fact 2 (f:=fx_2)) 8),F⟩
  f_is_part:=(c.def_ 30 (d:=aJQ)).elim fun fd F=>⟨_,fd,(aAl X Y (c.fact 2 (f:=fx_2)) 9),F⟩
  f_is_row:=(c.def_ 31 (d:=aN6)).elim fun fd F=>⟨_,fd,(aAl X Y (c.fact 2 (f:=fx_2)) 10),F⟩
  f_number_of:=(c.def_ 32 (d:=aGY)).elim fun fd F=>⟨_,fd,(aAl X Y (c.fact 2 (f:=fx_2)) 11),F⟩
  f_is_number:=(c.def_ 33 (d:=aGZ)).elim fun fd F=>⟨_,fd,(aAl X Y (c.fact 2 (f:=fx_2)) 12),F⟩
  f_lowest:=(c.def_ 34 (d:=aN7)).elim fun fd F=>⟨_,fd,(aAl X Y (c.fact 2 (f:=fx_2)) 13),F⟩
  f_show_ratio:=(c.def_ 35 (d:=aG1)).elim fun fd F=>⟨_,fd,(aAl X Y (c.fact 2 (f:=fx_2)) 14),F⟩
  f_read_ratio:=(c.def_ 36 (d:=aG2)).elim fun fd F=>⟨_,fd,(aAl X Y (c.fact 2 (f:=fx_2)) 15),F⟩
  f_part_of:=(c.def_ 37 (d:=aJR)).elim fun fd F=>⟨_,fd,(aAl X Y (c.fact 2 (f:=fx_2)) 16),F⟩
  f_row_of:=(c.def_ 38 (d:=aN8)).elim fun fd F=>⟨_,fd,(aAl X Y (c.fact 2 (f:=fx_2)) 17),F⟩
  f_read_log:=(c.def_ 39 (d:=aIC)).elim fun fd F=>⟨_,fd,(aAl X Y (c.fact 2 (f:=fx_2)) 18),F⟩
  f__law_refused:=(c.def_ 40 (d:=aEV)).elim fun fd F=>⟨_,fd,(aAl X Y (c.fact 2 (f:=fx_2)) 19),F⟩
  f_first_odd:=(c.def_ 41 (d:=aG_)).elim fun fd F=>⟨_,fd,(aAl X Y (c.fact 3 (f:=fx_3)) 0),F⟩
  f_check_forms:=(c.def_ 42 (d:=aFF)).elim fun fd F=>⟨_,fd,(aAl X Y (c.fact 3 (f:=fx_3)) 1),F⟩
  f_show_part:=(c.def_ 43 (d:=aHa)).elim fun fd F=>⟨_,fd,(aAl X Y (c.fact 3 (f:=fx_3)) 2),F⟩
  f_show_row:=(c.def_ 44 (d:=aID)).elim fun fd F=>⟨_,fd,(aAl X Y (c.fact 3 (f:=fx_3)) 3),F⟩
  f_show_log:=(c.def_ 45 (d:=aIE)).elim fun fd F=>⟨_,fd,(aAl X Y (c.fact 3 (f:=fx_3)) 4),F⟩
  f_law:=(c.def_ 46 (d:=aTt)).elim fun fd F=>⟨_,fd,(aAl X Y (c.fact 3 (f:=fx_3)) 5),F⟩
  y_NoText:=(c.def_ 47 (d:=aDG)).elim fun fd F=>⟨_,_,fd,_,(aAl X Y (c.fact 3 (f:=fx_3)) 9),aSQ (c.fact 11 (f:=aVx)),(aGi (c.fact 12 (f:=aR8))).1,(aGi (c.fact 12 (f:=aR8))).2.1,(aGi (c.fact 12 (f:=aR8))).2.2,(aAl X Y (c.fact 3 (f:=fx_3)) 10),aSR (c.fact 13 (f:=aVy)),F⟩
  y_NoLog:=(c.def_ 48 (d:=aE7)).elim fun fd F=>⟨_,_,fd,_,(aAl X Y (c.fact 3 (f:=fx_3)) 7),aSQ (c.fact 14 (f:=aVz)),(aGi (c.fact 15 (f:=aR9))).1,(aGi (c.fact 15 (f:=aR9))).2.1,(aGi (c.fact 15 (f:=aR9))).2.2,(aAl X Y (c.fact 3 (f:=fx_3)) 10),aSR (c.fact 16 (f:=aV0)),F⟩
  z_row:=aVO X Y (cs:=[4,17]) (f:=4) (c.fact 17 (f:=aV1))
  x_NoRatio:=⟨_,(aAl X Y (c.fact 3 (f:=fx_3)) 8),aT2 (c.fact 18 (f:=aV2))⟩
  x_NoText:=⟨_,(aAl X Y (c.fact 3 (f:=fx_3)) 9)⟩
  tx_NoText:=fun D hD=>aVG (p:=fun D=>∀ cn C q,tbR rsL 4 cn=some q→mg (cname cn)=some (.ref C)→PySem.W.exmOne K (.ref C) (.ref D)=some q) (aAl X Y (c.fact 3 (f:=fx_3)) 9) (aT9 X Y (ns:=[3,4,17]) (c.fact 19 (f:=aV3)) (c.fact 20 (f:=aV4))) hD
  d_LOOKS:=aTL (ks:=aGF) (aAl X Y (c.fact 1 (f:=fx_1)) 0) (aNL cw 0 (t:=("LOOKS",["name","least","most","weight","size","way"]))) (c.fact 22 (f:=aV6)) fun q hq=>by (simp only [aGF,List.mem_cons,List.not_mem_nil,or_false] at hq;rcases hq with rfl | rfl | rfl | rfl | rfl | rfl<;>first | exact (aAl X Y (c.fact 2 (f:=fx_2)) 2) | exact (aAl X Y (c.fact 2 (f:=fx_2)) 3) | exact (aAl X Y (c.fact 2 (f:=fx_2)) 4) | exact (aAl X Y (c.fact 2 (f:=fx_2)) 6) | exact (aAl X Y (c.fact 2 (f:=fx_2)) 7) | exact (aAl X Y (c.fact 2 (f:=fx_2)) 8))
  d_PARTS:=aTK (kvs:=aN2) (aAl X Y (c.fact 1 (f:=fx_1)) 1) (aNL cw 1 (t:=("PARTS",["join","ask","leave","least","most","weight","serve","now"]))) (c.fact 23 (f:=aV7))
theorem aWX {l:PySem.W.OpenLaw}{w:World}{K:PySem.W.Frag}{mg:Str→Option Value}{fa:Addr}{h:Heap}(plain:∀ ns:List Int,ns.length≤63→∃ N S,aOJ N [.scr (ns.map .int)] (st0 tsL) = .ok (.bl true) S) (hfa:mg "law"=some (.ref fa)) (X:K.In h) (Y:h.Ns mainGlobals mg) (c:SaysX fxAll fnAll K) (cw:SaysK tdL w K) :
    ∃ fd:FuncData,(∀ (s:Shared) (v:Value),BindsTo s fd ⟨[v],[]⟩ [("_law_script",v)])∧∀ base:Heap,K.In base→base.Ns mainGlobals mg→TBs K mg base tsL→FnG l.prog w K mg base 10 fa fd ["_law_script"] (spLawT K tsL):=by
  obtain ⟨fd,F⟩:=c.def_ 46 (d:=aTt)
  cases hfa.symm.trans (aAl X Y (c.fact 3 (f:=fx_3)) 5)
  refine ⟨fd,?_,fun base _ _ B=>aTA (of_decide_eq_true (c.fact 21 (f:=aV5))) (fun N=>aWV N (aWW X Y c B cw) F) plain⟩
  obtain ⟨oc,od,dV,kV,doc,pm,an,cdv,ct,osl,rfl,lk,hcd,hdv,_⟩:=F.ex
  rcases hdv with ⟨_,rfl⟩ | ⟨hn,_⟩
  · exact fun s v => .of_eq rfl
  · exact absurd rfl hn
end
end Wk33
namespace Wk33
open PySem G C
def shT:D→Option Tn
  | .non=>some .non
  | .bl _=>some .bool
  | .int _=>some .int
  | .str _=>some .str
  | .tup _=>some .tuple
  | .lst _=>some .list
  | .dic _ _=>some .dict
  | _=>none
def wh:D→Bool
  | .int _=>true
  | _=>false
structure Th (d:D):Prop where
  sh:(shT d).isSome=true
  pr:∀ x y,d = .tup [x,y]→(shT x).isSome=true∧(shT y).isSome=true
  bt:∀ a b,d = .tup [.int a, .int b]→a.natAbs<2 ^ 250∧b.natAbs<2 ^ 250
  eq:∃ b,dEqU d (.tup [.int 0, .int 1])=some (.bl b)
  st:∀ x,d = .str x→x.length≤1000
end Wk33
namespace Wk33
open PySem G C
inductive So where
  | nm | le | mo | we | si | wa
def So.s:So→Str
  | .nm=>"name" | .le=>"least" | .mo=>"most" | .we=>"weight" | .si=>"size" | .wa=>"way"
def So.c:So→Nat
  | .nm=>110 | .le=>108 | .mo=>109 | .we=>119 | .si=>115 | .wa=>114
structure RowTh (d:D):Prop where
  sh:(shT d).isSome=true
  le:∀ l,d = .tup l→l.length≤100
  hd:∀ x l,d = .tup (x::l)→(shT x).isSome=true
  th:∀ w l,d = .tup (.str w::l)→∀ x,x∈l→Th x
end Wk33
namespace Wk33
open PySem G C
inductive Pl:Nat→D→Prop
  | non (n:Nat):Pl n .non
  | int (n:Nat) (i:Int):Pl n (.int i)
  | str (n:Nat) {x:Str}(h:(PyData.str x).canLay0=true):Pl n (.str x)
  | tup {n:Nat}{l:List D}(h:∀ d,d∈l→Pl n d):Pl (n+1) (.tup l)
theorem Pl.toP {n:Nat}{d:D}(h:Pl n d):∃ p,d.toP=some p∧p.canLay0=true∧p.depth≤n+1:=by
  induction h with
  | non=>exact ⟨_,rfl,rfl,by simp [PyData.depth]⟩
  | int=>exact ⟨_,rfl,rfl,by simp [PyData.depth]⟩
  | str _ h=>exact ⟨_,rfl,h,by simp [PyData.depth]⟩
  | @tup n l _ ih=>
    have key:∀ m:List D,(∀ d,d∈m→∃ p,d.toP=some p∧p.canLay0=true∧p.depth≤n+1)→∃ ps,toPs m=some ps∧PyData.canLayAll0 ps=true∧PyData.depthAll ps≤n+1:=by
      intro m
      induction m with
      | nil=>exact fun _=>⟨[],rfl,rfl,Nat.zero_le _⟩
      | cons d m ihm=>
        intro h
        obtain ⟨p,h1,h2,h3⟩:=h d List.mem_cons_self
        obtain ⟨ps,g1,g2,g3⟩:=ihm fun x hx=>h x (List.mem_cons_of_mem _ hx)
        refine ⟨p::ps,?_,?_,?_⟩
        · rw [toPs,h1,g1]
        · show (p.canLay0 && PyData.canLayAll0 ps)=true
          rw [h2,g2];rfl
        · show max p.depth (PyData.depthAll ps)≤n+1
          omega
    obtain ⟨ps,g1,g2,g3⟩:=key l ih
    refine ⟨.tuple ps,?_,g2,?_⟩
    · rw [D.toP,g1];rfl
    · show PyData.depthAll ps+1≤_
      omega
structure GP (p:D):Prop where
  pl:Pl 1 p
  th:Th p
  l1:Th (.lst [p])
  b:∀ q,p=rD q→Bt q 100
  w:∀ l,p = .tup l→l.length≤1000
structure RowG (d:D):Prop where
  ex:∃ w l,d = .tup (.str w::l)∧1≤l.length∧l.length≤5∧GP (.str w)∧∀ p,p∈l→GP p
theorem RowG.th {d:D}(h:RowG d):RowTh d:=by
  obtain ⟨w,l,rfl,l1,l5,gw,gl⟩:=h.ex
  refine ⟨rfl,fun l' e => ?_,fun x l' e => ?_,fun w' l' e => ?_⟩
  · cases e;rw [List.length_cons];omega
  · cases e;rfl
  · cases e;exact fun x hx=>(gl x hx).th
end Wk33
namespace Wk33
open PySem G C
abbrev Sx (l:List Nat):Str:=SX.S l
def isD (c:Nat):Bool:=decide (48≤c) && decide (c≤57)
def isN (a:List Nat):Bool:=!a.isEmpty && a.all isD
end Wk33
namespace Wk33
open PySem G C
def sg (p:List Nat):Bool:=decide (p.take 1 = [45])
def un (p:List Nat):List Nat:=if sg p then p.drop 1 else p
def vl (p:List Nat):Nat:=NumText.digitsVal p
def sv (p:List Nat):Int:=if sg p then -(vl (un p):Int) else (vl (un p):Int)
def raw:List (List Nat)→Option Rat
  | [p]=>if isN (un p) then some (Rat.divInt (sv p) 1) else none
  | [p,q]=>if isN (un p) && (isN q && decide (vl q≠0)) then some (Rat.divInt (sv p) (vl q)) else none
  | _=>none
end Wk33
namespace Wk33
open PySem G C
structure Wd (a:List Nat):Prop where
  ne:a≠[]
  len:a.length≤75
  bl:32∉a
  nl:10∉a
section
variable {N:Nat}
structure Tx (N:Nat) (z:So) (d:D) (a:List Nat):Prop where
  w:Wd a
  sp:∀ S,aBC N [d] S = .ok (.str (Sx a)) S
  lw:∀ S,aAZ N [d] S = .ok (.str (Sx a)) S
  po:∀ S,aBG N [.str (Sx a), .str z.s] S = .ok d S
end
end Wk33
namespace Wk33
open PySem G C
abbrev wS (as:List (List Nat)):List G.D:=as.map fun a => .str (Sx a)
inductive Ps (N:Nat):List So→List G.D→List (List Nat)→Prop
  | nil:Ps N [] [] []
  | cons {z:So}{d:G.D}{a:List Nat}{zs:List So}{ds:List G.D}{as:List (List Nat)}:Tx N z d a→Ps N zs ds as→Ps N (z::zs) (d::ds) (a::as)
theorem Ps.len {N:Nat}{zs:List So}{ds:List G.D}{as:List (List Nat)}(h:Ps N zs ds as):as.length=ds.length∧zs.length=ds.length:=by
  induction h with
  | nil=>exact ⟨rfl,rfl⟩
  | cons _ _ ih=>exact ⟨by rw [List.length_cons,List.length_cons,ih.1],by rw [List.length_cons,List.length_cons,ih.2]⟩
theorem Ps.at_ {N:Nat}{zs:List So}{ds:List G.D}{as:List (List Nat)}(h:Ps N zs ds as) {j:Nat}{d:G.D}(hd:ds[j]? = some d):∃ z a,zs[j]? = some z∧as[j]? = some a∧Tx N z d a:=by
  induction h generalizing j with
  | nil=>cases hd
  | cons t _ ih=>
    cases j with
    | zero=>cases hd;exact ⟨_,_,rfl,rfl,t⟩
    | succ j=>exact ih hd
structure RL (N:Nat) (d:G.D) (line:List Nat):Prop where
  nl:10∉line
  len:line.length≤600
  sr:∀ S,aDg N [d] S = .ok (.str (Sx line)) S
  ll:∀ S,aBB N [d] S = .ok (.str (Sx line)) S
  ro:∀ S,aBN N [.str (Sx line)] S = .ok d S
end Wk33
namespace Wk33
open PySem G C
theorem Ps.tk {N:Nat}{zs:List So}{ds:List G.D}{as:List (List Nat)}(h:Ps N zs ds as):(zipD (wS as) (zs.map fun z=>G.D.str z.s)).length=ds.length:=by
  unfold zipD
  rw [List.length_zipWith,List.length_map,List.length_map,h.len.1,h.len.2,Nat.min_self]
end Wk33
namespace Wk33
open PySem G C
inductive Rls (N:Nat):List G.D→List (List Nat)→Prop
  | nil:Rls N [] []
  | cons {d:G.D}{a:List Nat}{l:List G.D}{ls:List (List Nat)}:RL N d a→Rls N l ls→Rls N (d::l) (a::ls)
theorem Rls.len {N:Nat}{l:List G.D}{ls:List (List Nat)}(h:Rls N l ls):ls.length=l.length:=by
  induction h with
  | nil=>rfl
  | cons _ _ ih=>rw [List.length_cons,List.length_cons,ih]
theorem Rls.at_ {N:Nat}{l:List G.D}{ls:List (List Nat)}(h:Rls N l ls) {j:Nat}{d:G.D}(hd:l[j]? = some d):∃ a,ls[j]? = some a∧RL N d a:=by
  induction h generalizing j with
  | nil=>cases hd
  | cons t _ ih=>
    cases j with
    | zero=>cases hd;exact ⟨_,rfl,t⟩
    | succ j=>exact ih hd
theorem Rls.all {N:Nat}{l:List G.D}{ls:List (List Nat)}(h:Rls N l ls):∀ a,a∈ls→10∉a∧a.length≤600:=by
  induction h with
  | nil=>intro a z;cases z
  | cons t _ ih=>
    intro a ha
    rcases List.mem_cons.mp ha with rfl | ha
    · exact ⟨t.nl,t.len⟩
    · exact ih a ha
theorem Rls.take {N:Nat}{l:List G.D}{ls:List (List Nat)}(h:Rls N l ls) (j:Nat):Rls N (l.take j) (ls.take j):=by
  induction h generalizing j with
  | nil=>rw [List.take_nil,List.take_nil];exact .nil
  | cons t _ ih=>
    cases j with
    | zero=>exact .nil
    | succ j=>exact .cons t (ih j)
end Wk33
namespace Wk33
open PySem G C
theorem Rls.app {N:Nat}{l:List G.D}{ls:List (List Nat)}(h:Rls N l ls) {d:G.D}{a:List Nat}(r:RL N d a):Rls N (l++[d]) (ls++[a]):=by
  induction h with
  | nil=>exact .cons r .nil
  | cons t _ ih=>exact .cons t ih
end Wk33
section
open PySem PySem.W PySem.Calls PyProof.Rows
set_option maxRecDepth 100000 in
set_option maxHeartbeats 0 in
theorem Wk33.zz_end (hplain:∀ ns:List Int,ns.length≤63→∃ N S,Wk33.aOJ N [.scr (ns.map .int)] [] = .ok (.bl true) S):PySem.Challenge.rw_sharetags_k33_logs_as_texts.Holds:=by
  w_on;o_law
  refine HandSHeadRun.head_any (r:=OpenLaw.row PySem.Challenge.rw_sharetags_k33_logs_as_texts) (q:=Wk33.qv) (H:=G.hookU 5 Wk33.fxAll Wk33.fnAll (Wk33.tsL.map (·.1)) Wk33.tdL) (ob:=G.obUT 5 Wk33.fxAll Wk33.fnAll (Wk33.tsL.map (·.1)) Wk33.tdL) (M:=100000) (loose:=Wk33.nmAll) (d:=HandSHeadRun.topDef (OpenLaw.row PySem.Challenge.rw_sharetags_k33_logs_as_texts).prog 62) (kwd:=[]) (G.aTJ 5 _ _ _ _)
    (by kernel_rfl) (fun s=>by kernel_rfl) ?hr (by kernel_rfl) (by kernel_rfl) (by kernel_rfl) (by rfl) (by first | assumption | decide +kernel) (by decide +kernel) ⟨rfl,rfl,rfl,rfl,rfl,by decide +kernel⟩ ?hw ?hc
  case hr=>exact Wk33.run
  case hw=>w_witness2
  case hc=>
    refine G.aPT (l:=PySem.Challenge.rw_sharetags_k33_logs_as_texts) (k:=10) (x:="_law_script") (ts:=Wk33.tsL) (td:=Wk33.tdL) rfl (by kernel_rfl) (by kernel_rfl) ⟨rfl,by decide,by decide⟩ (fun w h Y=>Y) ?F
    intro w mg fa h K KX c cw Y hmg
    exact Wk33.aWX hplain hmg KX Y c cw
end
set_option Elab.async false
set_option linter.all false
set_option maxRecDepth 100000
set_option maxHeartbeats 8000000
namespace G
open PySem L2
end G
namespace G
open PySem L2
end G
namespace G
open PySem L2
end G
namespace G
open PySem L2
end G
namespace G
open PySem L2
end G
namespace G
open PySem L2 PySem.Spec
end G
namespace G
open PySem L2 PySem.Spec
end G
namespace G
open PySem L2 PySem.Spec
end G
namespace G
open PySem L2 PySem.Spec PyProof.Rows
end G
namespace G
open PySem L2 PySem.Spec
end G
namespace G
open PySem L2 PySem.Spec
end G
namespace G
open PySem L2 PySem.Spec
end G
namespace G
open PySem L2 PySem.Spec RZ
end G
namespace G
open PySem L2 PySem.Spec PyProof.Rows
end G
namespace G
open PySem L2 PySem.Spec PyProof.Rows
end G
namespace G
open PySem L2 PySem.Spec
end G
namespace G
open PySem L2 PySem.Spec PyProof.Rows
end G
namespace G
open PySem L2 PySem.Spec PyProof.Rows
end G
namespace G
open PySem L2 PySem.Spec
end G
namespace G
open PySem L2 PySem.Spec PyProof.Rows
end G
namespace G
open PySem L2 PySem.Spec
end G
namespace G
open PySem L2 PySem.Spec
end G
namespace G
open PySem L2 PySem.Spec PyProof.Rows
end G
namespace G
open PySem L2 PySem.Spec PyProof.Rows
end G
namespace G
open PySem L2 PySem.Spec PyProof.Rows
end G
namespace G
open PySem L2 PySem.Spec PyProof.Rows
end G
namespace G
open PySem L2 PySem.Spec PyProof.Rows
end G
namespace G
open PySem L2 PySem.Spec
end G
namespace G
open PySem L2 PySem.Spec
end G
namespace G
open PySem L2 PySem.Spec PyProof.Rows
end G
namespace G
open PySem L2 PySem.Spec
end G
namespace G
open PySem L2 PySem.Spec
end G
namespace G
open PySem L2 PySem.Spec
end G
namespace G
open PySem L2 PySem.Spec PyProof.Rows
end G
namespace G
open PySem L2 PySem.Spec
end G
namespace G
open PySem L2 PySem.Spec
end G
namespace G
open PySem L2 PySem.Spec
end G
namespace G
open PySem L2
end G
namespace G
open PySem L2 PySem.Spec
end G
namespace G
open PySem L2 PySem.Spec
end G
namespace G
open PySem L2 PySem.Spec
end G
namespace G
open PySem L2 PySem.Spec PyProof.Rows
end G
namespace G
open PySem L2 PySem.Spec PyProof.Rows
end G
namespace G
open PySem L2 PySem.Spec
end G
namespace G
open PySem L2 PySem.Spec
end G
namespace G
open PySem L2 PySem.Spec
end G
namespace G
open PySem L2 PySem.Spec PyProof.Rows SrtO
end G
namespace G
open PySem L2 PySem.Spec
end G
namespace G
open PySem L2 PySem.Spec
end G
namespace G
open PySem L2 PySem.Spec PyProof.Rows PySem.SeqAt
end G
namespace G
open PySem L2 PySem.Spec PyProof.Rows PySem.SeqAt PySem.W
end G
namespace G
open PySem L2 PySem.Spec PyProof.Rows
end G
namespace G
open PySem L2 PySem.Spec PyProof.Rows
end G
namespace G
open PySem L2 PySem.Spec PyProof.Rows PySem.SeqAt
end G
namespace G
open PySem L2 PySem.Spec
end G
namespace G
open PySem PySem.W
end G
namespace G
open PySem L2 PySem.Spec PyProof.Rows
end G
namespace G
open PySem PySem.W HandSHeadRun
end G
namespace G
open PySem L2 PySem.Spec PyProof.Rows
end G
namespace G
open PySem L2 PySem.Spec PyProof.Rows
end G
namespace G
open PySem L2 PySem.Spec PyProof.Rows
end G
namespace G
open PySem L2 PySem.Spec PyProof.Rows
end G
namespace G
open PySem L2 PySem.Spec PyProof.Rows
end G
namespace G
open PySem L2 PySem.Spec PyProof.Rows
end G
namespace G
open PySem L2 PySem.Spec PyProof.Rows RZ
end G
namespace G
open PySem L2 PySem.Spec
end G
namespace G
open PySem L2 PySem.Spec PyProof.Rows
end G
namespace G
open PySem L2 PySem.Spec PyProof.Rows
end G
namespace G
open PySem L2 PySem.Spec PyProof.Rows
end G
namespace G
open PySem L2 PySem.Spec PyProof.Rows
end G
namespace G
open PySem L2 PySem.Spec PyProof.Rows
open PySem.SeqAt
open AutoSeq1 (wpAny_loadPart')
end G
namespace G
open PySem L2 PySem.Spec PyProof.Rows
open PySem.W (InstAt)
end G
namespace G
open PySem L2 PySem.Spec
end G
namespace G
open PySem L2 PySem.Spec PyProof.Rows
end G
namespace G
open PySem L2 PySem.Spec PyProof.Rows
open PySem.W (InstAt)
end G
namespace G
open PySem L2 PySem.Spec PyProof.Rows
end G
namespace G
open PySem L2 PySem.Spec PyProof.Rows
end G
namespace G
open PySem L2 PySem.Spec PyProof.Rows
end G
namespace G
open PySem L2 PySem.Spec PyProof.Rows
end G
namespace G
open PySem L2 PySem.Spec PyProof.Rows
end G
namespace G
open PySem L2 PySem.Spec PyProof.Rows
end G
namespace G
open PySem L2 PySem.Spec PyProof.Rows
end G
namespace G
open PySem L2 PySem.Spec PyProof.Rows
open MeetsSeq MeetsSeq2 MeetsSeq3
end G
namespace G
open PySem L2 PySem.Spec PyProof.Rows RZ
end G
namespace G
open PySem L2 PySem.Spec PyProof.Rows
end G
namespace G
open PySem L2 PySem.Spec PyProof.Rows
end G
namespace G
open PySem L2 PySem.Spec PyProof.Rows SrtO
end G
set_option Elab.async false
set_option linter.all false
set_option maxRecDepth 100000
set_option maxHeartbeats 8000000
namespace G
open PySem L2
end G
namespace G
open PySem L2
end G
namespace G
open PySem L2
end G
namespace G
open PySem L2
end G
namespace G
open PySem L2
end G
namespace G
open PySem L2 PySem.Spec
end G
namespace G
open PySem L2 PySem.Spec
end G
namespace G
open PySem L2 PySem.Spec
end G
namespace G
open PySem L2 PySem.Spec PyProof.Rows
end G
namespace G
open PySem L2 PySem.Spec
end G
namespace G
open PySem L2 PySem.Spec
end G
namespace G
open PySem L2 PySem.Spec
end G
namespace G
open PySem L2 PySem.Spec RZ
end G
namespace G
open PySem L2 PySem.Spec PyProof.Rows
end G
namespace G
open PySem L2 PySem.Spec PyProof.Rows
end G
namespace G
open PySem L2 PySem.Spec
end G
namespace G
open PySem L2 PySem.Spec PyProof.Rows
end G
namespace G
open PySem L2 PySem.Spec PyProof.Rows
end G
namespace G
open PySem L2 PySem.Spec
end G
namespace G
open PySem L2 PySem.Spec PyProof.Rows
end G
namespace G
open PySem L2 PySem.Spec
end G
namespace G
open PySem L2 PySem.Spec
end G
namespace G
open PySem L2 PySem.Spec PyProof.Rows
end G
namespace G
open PySem L2 PySem.Spec PyProof.Rows
end G
namespace G
open PySem L2 PySem.Spec PyProof.Rows
end G
namespace G
open PySem L2 PySem.Spec PyProof.Rows
end G
namespace G
open PySem L2 PySem.Spec PyProof.Rows
end G
namespace G
open PySem L2 PySem.Spec
section
variable {X:Cx}{W:WX}{a b c e o:Expr}{es:List Expr}{ma mb mc me:EM}{ta tb:TM}{pos apos:Pos}{x:Str}{p:Pos}{j k:Nat}
variable {K:PySem.W.Frag}{mg:Str→Option Value}{w:Wo}
def dEqS (S:Store) (x y:D):Option D:=(eqS S x y).map .bl
end
end G
namespace G
open PySem L2 PySem.Spec
end G
namespace G
open PySem L2 PySem.Spec PyProof.Rows
end G
namespace G
open PySem L2 PySem.Spec
end G
namespace G
open PySem L2 PySem.Spec
end G
namespace G
open PySem L2 PySem.Spec
end G
namespace G
open PySem L2 PySem.Spec PyProof.Rows
end G
namespace G
open PySem L2 PySem.Spec
end G
namespace G
open PySem L2 PySem.Spec
end G
namespace G
open PySem L2 PySem.Spec
end G
namespace G
open PySem L2
end G
namespace G
open PySem L2 PySem.Spec
end G
namespace G
open PySem L2 PySem.Spec
end G
namespace G
open PySem L2 PySem.Spec
end G
namespace G
open PySem L2 PySem.Spec PyProof.Rows
end G
namespace G
open PySem L2 PySem.Spec PyProof.Rows
end G
namespace G
open PySem L2 PySem.Spec
end G
namespace G
open PySem L2 PySem.Spec
end G
namespace G
open PySem L2 PySem.Spec
end G
namespace G
open PySem L2 PySem.Spec PyProof.Rows SrtO
end G
namespace G
open PySem L2 PySem.Spec
end G
namespace G
open PySem L2 PySem.Spec
end G
namespace G
open PySem L2 PySem.Spec PyProof.Rows PySem.SeqAt
end G
namespace G
open PySem L2 PySem.Spec PyProof.Rows PySem.SeqAt PySem.W
end G
namespace G
open PySem L2 PySem.Spec PyProof.Rows
end G
namespace G
open PySem L2 PySem.Spec PyProof.Rows
end G
namespace G
open PySem L2 PySem.Spec PyProof.Rows PySem.SeqAt
end G
namespace G
open PySem L2 PySem.Spec
end G
namespace G
open PySem PySem.W
end G
namespace G
open PySem L2 PySem.Spec PyProof.Rows
end G
namespace G
open PySem PySem.W HandSHeadRun
end G
namespace G
open PySem L2 PySem.Spec PyProof.Rows
end G
namespace G
open PySem L2 PySem.Spec PyProof.Rows
end G
namespace G
open PySem L2 PySem.Spec PyProof.Rows
end G
namespace G
open PySem L2 PySem.Spec PyProof.Rows
end G
namespace G
open PySem L2 PySem.Spec PyProof.Rows
end G
namespace G
open PySem L2 PySem.Spec PyProof.Rows
end G
namespace G
open PySem L2 PySem.Spec PyProof.Rows RZ
end G
namespace G
open PySem L2 PySem.Spec
end G
namespace G
open PySem L2 PySem.Spec PyProof.Rows
end G
namespace G
open PySem L2 PySem.Spec PyProof.Rows
end G
namespace G
open PySem L2 PySem.Spec PyProof.Rows
end G
namespace G
open PySem L2 PySem.Spec PyProof.Rows
end G
namespace G
open PySem L2 PySem.Spec PyProof.Rows
open PySem.SeqAt
open AutoSeq1 (wpAny_loadPart')
end G
namespace G
open PySem L2 PySem.Spec PyProof.Rows
open PySem.W (InstAt)
end G
namespace G
open PySem L2 PySem.Spec
end G
namespace G
open PySem L2 PySem.Spec PyProof.Rows
end G
namespace G
open PySem L2 PySem.Spec PyProof.Rows
open PySem.W (InstAt)
end G
namespace G
open PySem L2 PySem.Spec PyProof.Rows
end G
namespace G
open PySem L2 PySem.Spec PyProof.Rows
end G
namespace G
open PySem L2 PySem.Spec PyProof.Rows
end G
namespace G
open PySem L2 PySem.Spec PyProof.Rows
end G
namespace G
open PySem L2 PySem.Spec PyProof.Rows
end G
namespace G
open PySem L2 PySem.Spec PyProof.Rows
end G
namespace G
open PySem L2 PySem.Spec PyProof.Rows
end G
namespace G
open PySem L2 PySem.Spec PyProof.Rows
open MeetsSeq MeetsSeq2 MeetsSeq3
end G
namespace G
open PySem L2 PySem.Spec PyProof.Rows RZ
end G
namespace G
open PySem L2 PySem.Spec PyProof.Rows
end G
namespace G
open PySem L2 PySem.Spec PyProof.Rows
end G
namespace G
open PySem L2 PySem.Spec PyProof.Rows SrtO
end G
namespace G
open PySem
section
variable {β γ:Type}{Q:β→Store→Prop}{QD:D→Store→Prop}{QB:Bool→Store→Prop}{QL:List D→Store→Prop}{QO:Option Int→Store→Prop}{QE:En→Store→Prop}{X:D→Store→Prop}{k:KS}{e:En}{S S1:Store}{a b c:EM}{t u:TM}{m n:SM}{am:AM}{x y d:D}{z:Bool}{xs ds:List D}
theorem aAi (i:Nat) (ds:List D):Wr (fnM i m ds S) QD X=Ws (m (ds.map some++List.replicate (i - ds.length) none) S) (KS.fn QD X):=by
  unfold fnM
  show _=Ws (m (enOf i ds) S) _
  cases m (enOf i ds) S<;>rfl
def turnQ (g:GM) (m:SM) (ds:List D) (k:KS):QP En:=fun e S=>Ws (fiR g m ds e S) k
theorem ws_fi_cons (g:GM) (ds:List D):Ws (fiR g m (d::ds) e S) k=Wr (g d e S) (bodyQ m (k.lp (turnQ g m ds k))) (k.xe e):=by
  rw [fiR]
  rw [ws_sE]
  congr;funext e1 S1
  rw [aDZ]
  cases m e1 S1<;>rfl
theorem aSy {g:GM}{ds:List D}(I:Nat→En→Store→Prop) (h0:I 0 e S)
    (st:∀ i d e S,ds[i]? = some d→I i e S→Wr (g d e S) (bodyQ m (k.lp (I (i+1)))) (k.xe e))
    (fin:∀ e S,I ds.length e S→k.nx e S):Ws (fiR g m ds e S) k:=by
  induction ds generalizing I e S with
  | nil=>exact fin e S h0
  | cons d ds ih=>
    rw [ws_fi_cons]
    have h1:=st 0 d e S rfl h0
    have mono:∀ (r:SRes),Ws r (k.lp (I 1))→Ws r (k.lp (turnQ g m ds k)):=by
      intro r h
      have go:∀ e S,I 1 e S→Ws (fiR g m ds e S) k:=fun e S hI=>ih (fun i=>I (i+1)) hI (fun i d e S hd=>st (i+1) d e S (by simpa using hd)) (fun e S=>fin e S)
      cases r with
      | nxt e S=>exact go e S h
      | cnt e S=>exact go e S h
      | _=>exact h
    revert h1
    cases g d e S with
    | ok e1 S1=>exact fun h1=>mono _ h1
    | exc x S1=>exact id
    | stuck=>exact id
theorem aWY {g:GM}{ds:List D}(I:En→Store→Prop) (h0:I e S)
    (st:∀ d e S,d∈ds→I e S→Wr (g d e S) (bodyQ m (k.lp I)) (k.xe e))
    (fin:∀ e S,I e S→k.nx e S):Ws (fiR g m ds e S) k:=
  aSy (fun _=>I) h0 (fun _ d e S hd=>st d e S (List.mem_of_getElem? hd)) fin
theorem ws_cut {r:SRes}(M:En→Store→Prop) (h1:Ws r (k.mid M)) (h2:∀ e S,M e S→k.nx e S):Ws r k:=by
  cases r with
  | nxt e S=>exact h2 e S h1
  | _=>exact h1
theorem aQT {r:Res β}(M:β→Store→Prop) (h1:Wr r M X) (h2:∀ d S,M d S→Q d S):Wr r Q X:=by
  cases r with
  | ok d S=>exact h2 d S h1
  | _=>exact h1
def lcI (g:Tg) (t:TM) (a:EM) (e:En) (ds:List D) (Q:QP (List D)) (X:QP D):QP (List D):=fun acc S=>Wr (lcR g t a e ds acc S) Q X
theorem aPf (g:Tg) (acc ds:List D):Wr (lcR g t a e (d::ds) acc S) QL X=tgQ (g.m d e) (lg t a (lcI g t a e ds QL X) acc S):=by
  rw [lcR]
  unfold tgQ
  cases g.m d e with
  | none=>rfl
  | some e1=>
    dsimp only
    rw [aAb,aE9,lg_s];congr;funext b S2
    cases b with
    | false=>rfl
    | true=>
      show Wr ((noX (a e1 S2)).bind _) _ _=Wr (a e1 S2) _ _
      rw [aAb,aE9];congr;funext y S3;rw [aAj];rfl
theorem lc_w {g:Tg}{ds acc:List D}(I:Nat→List D→Store→Prop) (h0:I 0 acc S)
    (st:∀ i d acc S,ds[i]? = some d→I i acc S→tgQ (g.m d e) (lg t a (I (i+1)) acc S))
    (fin:∀ acc S,I ds.length acc S→QL acc S):Wr (lcR g t a e ds acc S) QL X:=by
  induction ds generalizing I acc S with
  | nil=>exact fin acc S h0
  | cons d ds ih=>
    rw [aPf]
    have h1:=st 0 d acc S rfl h0
    have go:∀ acc S,I 1 acc S→Wr (lcR g t a e ds acc S) QL X:=fun acc S hI=>ih (fun i=>I (i+1)) hI (fun i d acc S hd=>st (i+1) d acc S (by simpa using hd)) (fun acc S=>fin acc S)
    revert h1
    cases g.m d e with
    | none=>exact id
    | some e1=>
      simp only [aD7,lg_s]
      cases t e1 S with
      | exc x S1=>exact id
      | stuck=>exact id
      | ok b S1=>
        simp only [aBh]
        cases b with
        | false=>exact fun h=>go _ _ h
        | true=>
          simp only [aKs]
          cases a e1 S1 with
          | exc x S1=>exact id
          | stuck=>exact id
          | ok y S2=>exact fun h=>⟨h.1,go _ _ h.2⟩
theorem of_w {r:Res D}(h:Wr r QD nX):∃ d S,r = .ok d S∧QD d S:=by
  cases r with
  | ok d S=>exact ⟨d,S,rfl,h⟩
  | exc _ _=>exact False.elim h
  | stuck=>exact False.elim h
theorem aAh {r:Res D}(h:Wr r (eqQ d S) nX):r = .ok d S:=by
  obtain ⟨d',S',rfl,rfl,rfl⟩:=of_w h
  rfl
theorem aEN {r:Res D}(h:Wr r nX (exQ d S)):r = .exc d S:=by
  cases r with
  | ok d S=>exact False.elim h
  | exc _ _=>obtain ⟨rfl,rfl⟩:=h;rfl
  | stuck=>exact False.elim h
end
end G
namespace G
open PySem
theorem aJD {x y:Int}{a:Nat}(hx:x.natAbs<2 ^ a) (hy:y.natAbs<2 ^ a):(x+y).natAbs<2 ^ (a+1):=by
  have:=Int.natAbs_add_le x y
  rw [Nat.pow_succ];omega
theorem aQU (p q:Rat):p+q=Rat.divInt (p.num*q.den+q.num*p.den) ((p.den:Int)*(q.den:Int)):=by
  rw [← Int.natCast_mul,Rat.divInt_ofNat,Rat.add_def']
theorem Bt.add {p q:Rat}{a b:Nat}(h1:Bt p a) (h2:Bt q b):Bt (p+q) (a+b+1):=by
  rw [aQU]
  have e1:=aB1 (y:=(q.den:Int)) h1.1 (by simpa using h2.2)
  have e2:=aB1 (y:=(p.den:Int)) h2.1 (by simpa using h1.2)
  have e3:=aB1 (x:=(p.den:Int)) (y:=(q.den:Int)) (by simpa using h1.2) (by simpa using h2.2)
  rw [Nat.add_comm b a] at e2
  exact aH7 (m:=0) (aJD e1 e2) (Nat.lt_of_lt_of_le e3 (aH6 (by omega))) (by omega)
theorem aWZ (q:Rat):(rD q).toP=some (.tuple [.int q.num, .int q.den]):=rfl
theorem aW_ (p q:Rat):decide (p.num*(q.den:Int)<q.num*(p.den:Int))=decide (p<q):=by
  by_cases h:p<q
  · rw [decide_eq_true h,decide_eq_true ((Rat.lt_iff p q).mp h)]
  · rw [decide_eq_false h,decide_eq_false fun z=>h ((Rat.lt_iff p q).mpr z)]
def gI (a b:Int):Int:=(Nat.gcd a.natAbs b.natAbs:Nat)
theorem aTc {a b:Int}(h:b≠0):0<gI a b:=by
  have:0<Nat.gcd a.natAbs b.natAbs:=Nat.gcd_pos_of_pos_right _ (by omega)
  unfold gI;omega
theorem gI_l (a b:Int):gI a b∣a:=by
  unfold gI
  exact Int.ofNat_dvd_left.mpr (Nat.gcd_dvd_left _ _)
theorem gI_r (a b:Int):gI a b∣b:=by
  unfold gI
  exact Int.ofNat_dvd_left.mpr (Nat.gcd_dvd_right _ _)
theorem aJE {a b c d:Int}(h1:a.natAbs=c.natAbs) (h2:b.natAbs=d.natAbs):gI a b=gI c d:=by unfold gI;rw [h1,h2]
theorem aTd (a b:Int):gI (if a<0 then -a else a) b=gI a b:=aJE (by split<;>omega) rfl
theorem aXa {a b:Int}(h:b≠0):(gI a b).natAbs≤b.natAbs:=by
  have:Nat.gcd a.natAbs b.natAbs≤b.natAbs:=Nat.gcd_le_right _ (by omega)
  unfold gI;omega
theorem aQV {a b:Int}(ha:0≤a) (hb:0≤b):gI b (a % b)=gI a b:=by
  unfold gI
  have:(a % b).natAbs=a.natAbs % b.natAbs:=by rw [Int.natAbs_emod_of_nonneg ha]
  rw [this,Nat.gcd_comm a.natAbs b.natAbs,Nat.gcd_rec b.natAbs a.natAbs,Nat.gcd_comm]
theorem aTe (q:Rat):gI q.num q.den=1:=by
  unfold gI
  have:=q.reduced
  rw [Int.natAbs_natCast,this];rfl
theorem aOc {x g:Int}(h:0<g):x.fdiv g=x / g:=Int.fdiv_eq_ediv_of_nonneg x (by omega)
theorem aIc {x g:Int}(h:0<g) (hd:g∣x):x.fdiv (0 - g)=(0 - x) / g:=by
  obtain ⟨k,rfl⟩:=hd
  rw [show (0:Int) - g*k=g*(-k) by rw [Int.mul_neg];omega,Int.mul_ediv_cancel_left _ (by omega)]
  rw [show g*k=(0 - g)*(-k) by rw [Int.mul_neg,Int.zero_sub,Int.neg_mul];omega]
  exact Int.mul_fdiv_cancel_left _ (by omega)
theorem aUO {t b:Int}(hb:0<b):(Rat.divInt t b).num=t / gI t b:=by
  rw [Rat.num_divInt,Int.sign_eq_one_of_pos hb,Int.one_mul]
  unfold gI Int.gcd
  rw [Nat.gcd_comm]
theorem aSz {t b:Int}(hb:0<b):((Rat.divInt t b).den:Int)=b / gI t b:=by
  rw [Rat.den_divInt,if_neg (by omega)]
  unfold gI Int.gcd
  rw [Nat.gcd_comm,Int.natCast_ediv]
  congr 1
  omega
theorem aF_ {t b:Int}(hb:0<b):D.tup [.int (t / gI t b), .int (b / gI t b)]=rD (Rat.divInt t b):=by
  unfold rD;rw [aUO hb,aSz hb]
theorem aXb {t b:Int}(hb:b<0):D.tup [.int ((0 - t) / gI t b), .int ((0 - b) / gI t b)]=rD (Rat.divInt t b):=by
  have e:Rat.divInt t b=Rat.divInt (0 - t) (0 - b):=by
    rw [Int.zero_sub,Int.zero_sub,Rat.neg_divInt_neg]
  have g:gI t b=gI (0 - t) (0 - b):=aJE (by omega) (by omega)
  rw [e,g]
  exact aF_ (by omega)
end G
namespace G
open PySem
section
variable {β γ:Type}{e:En}{S S1:Store}{a b c:EM}{t u:TM}{m n:SM}{am:AM}{x y d:D}{k:β→Store→Res γ}
theorem aL4 (i:Nat) (ds:List D):fnM i m ds S=fnEnd (m (enOf i ds) S):=by
  unfold fnM fnEnd
  cases m (enOf i ds) S<;>rfl
theorem aBD {i j:Int}(h:mulOk i j=true):dMul (.int i) (.int j)=some (.int (i*j)):=by
  show (if mulOk i j=true then some (D.int (i*j)) else none)=_
  rw [if_pos h]
theorem aGK {i j:Int}(h:divOk j=true):dDiv (.int i) (.int j)=some (.int (i.fdiv j)):=by
  show (if divOk j=true then some (D.int (i.fdiv j)) else none)=_
  rw [if_pos h]
theorem aDf {i j:Int}(h:j≠0):dMod (.int i) (.int j)=some (.int (i.fmod j)):=by
  show (if j=0 then none else some (D.int (i.fmod j)))=_
  rw [if_neg h]
theorem aNr {j:Nat}{l:List D}(i:Int) (h:S[j]? = some (.lst l)):ixD S (.loc j) (.int i)=L2.atI l i:=by
  show (match S[j]? with
    | some (.lst l)=>L2.atI l i
    | _=>none)=_
  rw [h]
end
theorem aUP {n:Nat}(h:n≤1000):n≤sizeLine:=Nat.le_trans h (by decide)
theorem aGx {x n:Nat}(h:x<2 ^ n) (hn:0<n):x.log2<n:=PySem.Flt.log2_lt_of hn h
theorem aOd {i j:Int}{a b:Nat}(hi:i.natAbs<2 ^ a) (hj:j.natAbs<2 ^ b) (h0:0<a) (h1:0<b) (h:a+b≤1000000):mulOk i j=true:=by
  have x:=aGx hi h0
  have y:=aGx hj h1
  unfold mulOk
  rw [Bool.or_eq_true,Bool.or_eq_true]
  exact .inr (.inr (decide_eq_true (by omega)))
theorem aQW {i j:Int}(hi:i.natAbs<2 ^ 64):mulOk i j=true:=by
  unfold mulOk
  rw [Bool.or_eq_true]
  exact .inl (decide_eq_true hi)
theorem aYA {i j:Int}(hj:j.natAbs<2 ^ 64):mulOk i j=true:=by
  unfold mulOk
  rw [Bool.or_eq_true,Bool.or_eq_true]
  exact .inr (.inl (decide_eq_true hj))
theorem aQX {j:Int}{b:Nat}(hz:j≠0) (hj:j.natAbs<2 ^ b) (h1:0<b) (h:b≤9000):divOk j=true:=by
  have y:=aGx hj h1
  unfold divOk
  rw [Bool.and_eq_true]
  exact ⟨by simpa using hz,decide_eq_true (by omega)⟩
theorem aJF {S:Store}{n j:Nat}{l:List D}{k:Int}(d:D) (h:S[n]? = some (.lst l)) (hj:L2.ixN l.length k=some j):setD S (.loc n) (.int k) d=some (S.set n (.lst (l.set j d))):=by
  show (match S[n]? with
    | some (.lst l)=>(L2.ixN l.length k).map fun j=>S.set n (.lst (l.set j d))
    | _=>none)=_
  rw [h]
  show (L2.ixN l.length k).map _=_
  rw [hj]
  rfl
theorem aS0 {α β:Type}(f:α→β) (l:List α) (lo hi:Option Int):cutL (l.map f) lo hi=(cutL l lo hi).map f:=by
  unfold cutL
  rw [List.length_map,List.map_take,List.map_drop]
end G
namespace G
open PySem
section
variable {Q X:QP D}{QB:QP Bool}{QL:QP (List D)}{k:KS}{e:En}{S S1:Store}{a b c o:EM}{t u:TM}{m n:SM}{am mk:AM}{x y d:D}{z:Bool}{xs ds zs:List D}
theorem aOe {i:Nat}{l:List D}(h:S[i]? = some (.lst l)) (hl:l.length<sizeLine):appR (.loc i) [y] S = .ok .non (S.set i (.lst (l++[y]))):=by
  unfold appR;simp only [h,hl,if_true]
variable {QE:QP En}
theorem aQY (l m:List D) (h:(d::l).length+m.length≤1000):dAddS S (.tup (d::l)) (.tup m)=some (.tup (d::l++m)):=by
  show (if (d::l).length+m.length≤sizeLine then some (D.tup (d::l++m)) else none)=_
  rw [if_pos (aUP h)]
end
end G
namespace C
open PySem G
noncomputable section
theorem aPg {i j:Int}(S:Store) (h0:0<j) (h1:j<2 ^ 64):fDivmodW S [.int i, .int j]=some (.tup [.int (i / j), .int (i % j)]):=by
  have h2:j.natAbs.log2<9000:=Nat.lt_of_lt_of_le (aGx (n:=64) (by omega) (by omega)) (by omega)
  show (if 0<j∧j.natAbs.log2<9000 then some (D.tup [.int (i / j), .int (i % j)]) else none)=_
  rw [if_pos ⟨h0,h2⟩]
theorem aQZ {N n:Nat}(hN:big N) {x:Nat}(h:x<2 ^ n) (hn:n≤9000):x<N:=Nat.lt_of_lt_of_le h (Nat.le_trans (aH6 hn) hN)
theorem loop (N:Nat):∀ (a b:Int) (S:Store),0≤a→0≤b→b.natAbs<N →
    wlR (tB (eBin dGt (eVar 1) (eC (.int 0)))) (sPar 0 1 (aCons (eVar 1) (aCons (eBin dMod (eVar 0) (eVar 1)) aNil))) N [some (.int a),some (.int b)] S = .nxt [some (.int (gI a b)),some (.int 0)] S:=by
  induction N with
  | zero=>intro a b S _ _ h;omega
  | succ N ih=>
    intro a b S ha hb h
    by_cases hz:b=0
    · subst hz
      have e:gI a 0=a:=by unfold gI;simp;omega
      rw [e];rfl
    · have hpos:0<b:=by omega
      have h1:wlR (tB (eBin dGt (eVar 1) (eC (.int 0)))) (sPar 0 1 (aCons (eVar 1) (aCons (eBin dMod (eVar 0) (eVar 1)) aNil))) (N+1) [some (.int a),some (.int b)] S =
          wlR (tB (eBin dGt (eVar 1) (eC (.int 0)))) (sPar 0 1 (aCons (eVar 1) (aCons (eBin dMod (eVar 0) (eVar 1)) aNil))) N [some (.int b),some (.int (a.fmod b))] S:=by
        simp [wlR,hpos,aDf hz]
      rw [h1]
      have e1:a.fmod b=a % b:=Int.fmod_eq_emod_of_nonneg a (by omega)
      have e2:0≤a % b:=Int.emod_nonneg a hz
      have e3:a % b<b:=Int.emod_lt_of_pos a hpos
      rw [e1,ih b (a % b) S hb e2 (by omega),aQV ha hb]
theorem aL5 (N:Nat) (a b:Int) (S:Store) (ha:0≤a) (hb:0≤b) (h:b.natAbs<N):aEQ N [.int a, .int b] S = .ok (.int (gI a b)) S:=by
  simp [aEQ,aL4,aJz,loop N a b S ha hb h]
theorem aL6 {N:Nat}{t b:Int}{S:Store}{n:Nat}(hN:big N) (hb:0<b) (hs:b.natAbs<2 ^ n) (hn:0<n) (h9:n≤9000):aFR N [.int t, .int b] S = .ok (rD (Rat.divInt t b)) S:=by
  have hg:=aTc (a:=t) (b:=b) (by omega)
  have hl:=aXa (a:=t) (b:=b) (by omega)
  have hd:divOk (gI t b)=true:=aQX (b:=n) (by omega) (by omega) hn h9
  have e:=aL5 N (if t<0 then -t else t) b S (by split<;>omega) (by omega) (aQZ hN hs h9)
  rw [aTd] at e
  rw [← aF_ hb]
  simp [aFR,aL4,aJ0,e,aGK hd,aOc hg,sizeLine_eq]
theorem aOf (N:Nat) (a b:Int) (S:Store) (hs:b.natAbs<N):aBz N [.tup [.int a, .int b]] S = .ok (.bl (decide (0<b) && decide (gI a b=1))) S:=by
  have hc:eLc (iSeq (eVar 0)) (.nm 3) tTrue (eCall (aDJ N) (nA 1 (aCons (eVar 3) aNil))) [3] [some (.tup [.int a, .int b]),none,none,none] S = .ok (.lst [.bl true, .bl true]) S:=rfl
  by_cases h:0<b
  · have e:=aL5 N (if a<0 then -a else a) b S (by split<;>omega) (by omega) hs
    rw [aTd] at e
    simp [aBz,aL4,aDK,hc,h,e,fAll,seqD,bools,Tn.is,aDC,aCY]
  · simp [aBz,aL4,aDK,hc,h,fAll,seqD,bools,Tn.is,aDC,aCY]
theorem aL7 {N:Nat}{q:Rat}{S:Store}{n:Nat}(hN:big N) (h:Bt q n) (h9:n≤9000):aBz N [rD q] S = .ok (.bl true) S:=by
  have hd:=q.den_pos
  unfold rD
  rw [aOf N _ _ S (by rw [Int.natAbs_natCast];exact aQZ hN h.2 h9),aTe,decide_eq_true (by omega)]
  rfl
theorem aOg {N:Nat}{q:Rat}{S:Store}{n:Nat}(hN:big N) (h:Bt q n) (h9:n≤9000):aB3 N [rD q] S = .ok .non S:=by
  simp [aB3,aL4,aEt,aL7 hN h h9]
theorem aUQ {N:Nat}{p q:Rat}{S:Store}{n m:Nat}(hN:big N) (h:Bt p n) (h9:n≤9000) (h':Bt q m) (h9':m≤9000):aDp N [rD p,rD q] S = .ok .non S:=by
  simp [aDp,aL4,aFu,aOg hN h h9,aOg hN h' h9']
theorem Bt.mul_nd {p q:Rat}{a b:Nat}(h:Bt p a) (h':Bt q b) (l:a+b≤9000):mulOk p.num q.den=true:=aOd h.1 (by simpa using h'.2) h.pos h'.pos (by omega)
theorem Bt.mul_dd {p q:Rat}{a b:Nat}(h:Bt p a) (h':Bt q b) (l:a+b≤9000):mulOk p.den q.den=true:=aOd (by simpa using h.2) (by simpa using h'.2) h.pos h'.pos (by omega)
theorem aNs (p q:Rat):(0:Int)<(p.den:Int)*(q.den:Int):=Int.mul_pos (by have:=p.den_pos;omega) (by have:=q.den_pos;omega)
theorem aPh {p q:Rat}{a b:Nat}(h:Bt p a) (h':Bt q b):((p.den:Int)*(q.den:Int)).natAbs<2 ^ (a+b):=aB1 (by simpa using h.2) (by simpa using h'.2)
theorem aQ_ {N:Nat}{p q:Rat}{S:Store}{n m:Nat}(hN:big N) (h:Bt p n) (h':Bt q m) (l:n+m≤9000):aCH N [rD p,rD q] S = .ok (.bl (decide (p<q))) S:=by
  apply aAh
  rw [aCH,aAi,aFv]
  wp_walk using aUQ hN h (by omega) h' (by omega),aBD (Bt.mul_nd h h' l),aBD (Bt.mul_nd h' h (by omega)),dLt,aW_
theorem loop4 (N:Nat) (x y:Option D):∀ (a b:Int) (S:Store),0≤a→0≤b→b.natAbs<N →
    wlR (tB (eBin dGt (eVar 3) (eC (.int 0)))) (sPar 2 3 (aCons (eVar 3) (aCons (eBin dMod (eVar 2) (eVar 3)) aNil))) N [x,y,some (.int a),some (.int b)] S = .nxt [x,y,some (.int (gI a b)),some (.int 0)] S:=by
  induction N with
  | zero=>intro a b S _ _ h;omega
  | succ N ih=>
    intro a b S ha hb h
    by_cases hz:b=0
    · subst hz
      have e:gI a 0=a:=by unfold gI;simp;omega
      rw [e];rfl
    · have hpos:0<b:=by omega
      have h1:wlR (tB (eBin dGt (eVar 3) (eC (.int 0)))) (sPar 2 3 (aCons (eVar 3) (aCons (eBin dMod (eVar 2) (eVar 3)) aNil))) (N+1) [x,y,some (.int a),some (.int b)] S =
          wlR (tB (eBin dGt (eVar 3) (eC (.int 0)))) (sPar 2 3 (aCons (eVar 3) (aCons (eBin dMod (eVar 2) (eVar 3)) aNil))) N [x,y,some (.int b),some (.int (a.fmod b))] S:=by
        simp [wlR,hpos,aDf hz]
      rw [h1]
      have e1:a.fmod b=a % b:=Int.fmod_eq_emod_of_nonneg a (by omega)
      have e2:0≤a % b:=Int.emod_nonneg a hz
      have e3:a % b<b:=Int.emod_lt_of_pos a hpos
      rw [e1,ih b (a % b) S hb e2 (by omega),aQV ha hb]
theorem r_ok {N:Nat}{t b:Int}{S:Store}{n:Nat}(hN:big N) (hb:b≠0) (hs:b.natAbs<2 ^ n) (hn:0<n) (h9:n≤9000):aDc N [.int t, .int b] S = .ok (rD (Rat.divInt t b)) S:=by
  have hg:=aTc (a:=t) (b:=b) hb
  have hl:=aXa (a:=t) (b:=b) hb
  have hbN:=aQZ hN hs h9
  have e:=loop4 N (some (.int t)) (some (.int b)) (if t<0 then -t else t) (if b<0 then -b else b) S (by split<;>omega) (by split<;>omega) (by split<;>omega)
  rw [aJE (c:=t) (d:=b) (by split<;>omega) (by split<;>omega)] at e
  by_cases h:b<0
  · have hd:divOk (0 - gI t b)=true:=aQX (b:=n) (by omega) (by omega) hn h9
    have f1:=aIc hg (gI_l t b)
    have f2:=aIc hg (gI_r t b)
    rw [← aXb h,← f1,← f2]
    simp only [Int.zero_sub] at hd f1 f2
    simp only [if_pos h] at e
    simp [aDc,aL4,aGI,e,h,aGK hd,f1,f2,sizeLine_eq]
  · have hd:divOk (gI t b)=true:=aQX (b:=n) (by omega) (by omega) hn h9
    rw [← aF_ (by omega)]
    simp only [if_neg h] at e
    simp [aDc,aL4,aGI,e,h,aGK hd,aOc hg,sizeLine_eq]
theorem aUR {N:Nat}{p q:Rat}{S:Store}{n m:Nat}(hN:big N) (h:Bt p n) (h':Bt q m) (l:n+m≤9000):aDL N [rD p,rD q] S = .ok (rD (p+q)) S:=by
  have e:=r_ok (N:=N) (t:=p.num*q.den+q.num*p.den) (S:=S) hN (Int.ne_of_gt (aNs p q)) (aPh h h') (by have:=h.pos;omega) l
  rw [← aQU] at e
  apply aAh
  rw [aDL,aAi,aGl]
  wp_walk using aBD (Bt.mul_nd h h' l),aBD (Bt.mul_nd h' h (by omega)),aBD (Bt.mul_dd h h' l),e
theorem aCD (N:Nat) {S:Store}{n:Nat}{many:Int}{Q:D→Store→Prop}{X:D→Store→Prop}(P:Pool S n) (hm:0<many) (hm2:many<2 ^ 64)
    (h:∀ d S',0≤d→d<many→Pool S' n→Fr n S S'→Q (.int d) S'):Wr (aAo N [.loc n, .int many] S) Q X:=by
  obtain ⟨a,b,c,hS,ha,ha2,hb⟩:=P
  have hn:n<S.length:=(List.getElem?_eq_some_iff.mp hS).1
  have get:∀ (S:Store) (X:Cell),n<S.length→(S.set n X)[n]? = some X:=fun S X h=>by rw [List.getElem?_set_self h]
  have m1:∀ z,mulOk a z=true:=fun z=>aQW (by omega)
  have m2:∀ z,mulOk 80021 z=true:=fun z=>aQW (by decide)
  obtain ⟨a',ea⟩:∃ a',a'=(a*(a.fmod 44017+30029)+80021*(c+1)).fmod 2147483477:=⟨_,rfl⟩
  have e':a'=(a*(a.fmod 44017+30029)+80021*(c+1)) % 2147483477:=by rw [ea];exact Int.fmod_eq_emod_of_nonneg _ (by omega)
  have ha1:0≤a':=by rw [e'];exact Int.emod_nonneg _ (by omega)
  have ha3:a'<2147483477:=by rw [e'];exact Int.emod_lt_of_pos _ (by omega)
  have i0:ixD S (.loc n) (.int 2)=some (.int c):=aNr _ hS
  have i1:∀ (S:Store) (x y z:D) (k:Int),n<S.length→ixD (S.set n (.lst [x,y,z])) (.loc n) (.int k)=L2.atI [x,y,z] k:=fun S x y z k h=>aNr _ (get S _ h)
  have s0:∀ d,setD S (.loc n) (.int 2) d=some (S.set n (.lst [.int a, .int b,d])):=fun d=>aJF (j:=2) d hS rfl
  have s1:∀ (x y z d:D),setD (S.set n (.lst [x,y,z])) (.loc n) (.int 0) d=some (S.set n (.lst [d,y,z])):=fun x y z d=>by
    rw [aJF (j:=0) d (get S _ hn) rfl,List.set_set];rfl
  have s2:∀ (x y z d:D),setD (S.set n (.lst [x,y,z])) (.loc n) (.int 1) d=some (S.set n (.lst [x,d,z])):=fun x y z d=>by
    rw [aJF (j:=1) d (get S _ hn) rfl,List.set_set];rfl
  rw [aAo,aAi,aFy]
  by_cases hb0:0<b
  · (try simp only [aBh,aHf,aJm,aJn,aCR,aDB,aJo,aJp,aDS,aLP,aLQ,aDT,aFM,aJq,aFN,aLR,aHg,aHh,aJr,aJs,aFO,aLS,aLT,aHi,aLU,aLV,aKi,aHj,aLW,aLX,aKj,aHk,aLY,aLZ,aHl,aL_,aMa,aHm,aDU,aEZ,aDV,aJt,aJu,aDb,aHn,aHo,aHp,aE_,aFa,aFb,aJv,aFP,aKk,aD5,aKl,aKm,aMb,aDW,aMc,aFc,aMd,aMe,aHq,aDX,aHr,aDY,aMf,aMg,aMh,aHs,aMi,aKn,aDi,aMj,aCE,aKo,aMk,aKp,aKq,aHt,aD6,aKr,aCT,aFQ,aDl,xe_s,aJw,aMl,aMm,aMn,aMo,aMp,ws_nxt,ws_sNop,ws_sSeq,ws_sBrk,ws_sCnt,aFd,ws_sDrop,ws_sRet,ws_sRetN,aMq,aJx,ws_sIf,aHu,ws_sAsg,aG4,ws_sSet,aHv,ws_sPar,ws_sRaise,aMr,aMs,aMt,aMu,aMv,aMw,aMx,aMy,aMz,aM0,aM1,aM2,aM3,aM4,aM5,ws_sTry,aHw,ws_sFor,aM6,aM7,aM8,aM9,aMA,aMB,ws_fi_nil,aDZ,aHx,aHy,aHz,aH0,aH1,aH2,aMC,aMD,aH3,aH4,aH5,aFe,aD_,aDj,aEa,aDk,aD7,ly_s,aKs,aME,lg_s,aMF,aMG,aEb,aEc,aEd,aFl,aFf,aFg,aFh,aEe,aFi,aMH,aMI,aKt,aKu,aDn,aMJ,aFp,aEp,aMK,aKv,aKw,ws_sFldM,aHE,aG6,aHF,aFq,aML,aMM,aFr,aMN,aFs,aEq,aEr,aMO,aEs,aHG,aMP,aFt,aDo,aBR,aB2,aCF,aCG,List.take_succ_cons,List.take_zero,List.drop_succ_cons,List.drop_zero,List.getElem?_cons_zero,List.getElem?_cons_succ,List.set_cons_zero,List.set_cons_succ,List.map_cons,List.map_nil,List.length_cons,List.length_nil,List.cons_append,List.nil_append,List.replicate_succ,List.replicate_zero,List.append_nil,true_and,and_true,and_self,if_true,ite_true,if_false,ite_false,Bool.false_eq_true,Bool.not_true,Bool.not_false,Bool.not_not,decide_true,decide_false,decide_eq_true_eq,not_false_eq_true,not_true_eq_false,reduceCtorEq,sizeLine_eq,Option.map_some,Option.some.injEq,Nat.reduceSub,Nat.reduceAdd,Nat.reduceLeDiff,Nat.reduceEqDiff,Nat.zero_add,Nat.reduceBEq,List.contains_cons,List.contains_nil,beq_self_eq_true,Bool.true_or,Bool.or_true,Bool.false_or,Bool.or_false,List.lookup_cons,List.lookup_nil,Int.reduceEq,Int.reduceNe,Int.reduceLT,Int.reduceLE,Int.reduceNeg,Int.reduceAdd,Int.reduceSub,Int.cast_ofNat_Int,ne_eq,aG5,dGt,dGe,dLt,dLe,aEf,aEg,aDC,aCY,aHC,aHD,aFm,aEh,aFn,aEi,aEj,aEk,aEl,aEm,aEn,aEo,aBQ,aEJ,aFo,aFj,aFk,aH8,aH9,aEI,aHA,aHB,aDm,Tn.is,i0,s0,s1,s2,i1 _ _ _ _ _ hn,aV_,aWa,aWb,aBD (m1 _),aBD (m2 _),aDf,dGt,← ea,hb0,aPg _ hm hm2,ne_eq])
    exact h _ _ (Int.emod_nonneg _ (by omega)) (Int.emod_lt_of_pos _ hm) ⟨a',b / many,c+1,get S _ hn,ha1,ha3,Int.ediv_nonneg hb (by omega)⟩ (Fr.set _)
  · have d64:divOk 64=true:=by decide
    have hz:¬ many=0:=by omega
    (try simp only [aBh,aHf,aJm,aJn,aCR,aDB,aJo,aJp,aDS,aLP,aLQ,aDT,aFM,aJq,aFN,aLR,aHg,aHh,aJr,aJs,aFO,aLS,aLT,aHi,aLU,aLV,aKi,aHj,aLW,aLX,aKj,aHk,aLY,aLZ,aHl,aL_,aMa,aHm,aDU,aEZ,aDV,aJt,aJu,aDb,aHn,aHo,aHp,aE_,aFa,aFb,aJv,aFP,aKk,aD5,aKl,aKm,aMb,aDW,aMc,aFc,aMd,aMe,aHq,aDX,aHr,aDY,aMf,aMg,aMh,aHs,aMi,aKn,aDi,aMj,aCE,aKo,aMk,aKp,aKq,aHt,aD6,aKr,aCT,aFQ,aDl,xe_s,aJw,aMl,aMm,aMn,aMo,aMp,ws_nxt,ws_sNop,ws_sSeq,ws_sBrk,ws_sCnt,aFd,ws_sDrop,ws_sRet,ws_sRetN,aMq,aJx,ws_sIf,aHu,ws_sAsg,aG4,ws_sSet,aHv,ws_sPar,ws_sRaise,aMr,aMs,aMt,aMu,aMv,aMw,aMx,aMy,aMz,aM0,aM1,aM2,aM3,aM4,aM5,ws_sTry,aHw,ws_sFor,aM6,aM7,aM8,aM9,aMA,aMB,ws_fi_nil,aDZ,aHx,aHy,aHz,aH0,aH1,aH2,aMC,aMD,aH3,aH4,aH5,aFe,aD_,aDj,aEa,aDk,aD7,ly_s,aKs,aME,lg_s,aMF,aMG,aEb,aEc,aEd,aFl,aFf,aFg,aFh,aEe,aFi,aMH,aMI,aKt,aKu,aDn,aMJ,aFp,aEp,aMK,aKv,aKw,ws_sFldM,aHE,aG6,aHF,aFq,aML,aMM,aFr,aMN,aFs,aEq,aEr,aMO,aEs,aHG,aMP,aFt,aDo,aBR,aB2,aCF,aCG,List.take_succ_cons,List.take_zero,List.drop_succ_cons,List.drop_zero,List.getElem?_cons_zero,List.getElem?_cons_succ,List.set_cons_zero,List.set_cons_succ,List.map_cons,List.map_nil,List.length_cons,List.length_nil,List.cons_append,List.nil_append,List.replicate_succ,List.replicate_zero,List.append_nil,true_and,and_true,and_self,if_true,ite_true,if_false,ite_false,Bool.false_eq_true,Bool.not_true,Bool.not_false,Bool.not_not,decide_true,decide_false,decide_eq_true_eq,not_false_eq_true,not_true_eq_false,reduceCtorEq,sizeLine_eq,Option.map_some,Option.some.injEq,Nat.reduceSub,Nat.reduceAdd,Nat.reduceLeDiff,Nat.reduceEqDiff,Nat.zero_add,Nat.reduceBEq,List.contains_cons,List.contains_nil,beq_self_eq_true,Bool.true_or,Bool.or_true,Bool.false_or,Bool.or_false,List.lookup_cons,List.lookup_nil,Int.reduceEq,Int.reduceNe,Int.reduceLT,Int.reduceLE,Int.reduceNeg,Int.reduceAdd,Int.reduceSub,Int.cast_ofNat_Int,ne_eq,aG5,dGt,dGe,dLt,dLe,aEf,aEg,aDC,aCY,aHC,aHD,aFm,aEh,aFn,aEi,aEj,aEk,aEl,aEm,aEn,aEo,aBQ,aEJ,aFo,aFj,aFk,aH8,aH9,aEI,aHA,aHB,aDm,Tn.is,i0,s0,s1,s2,i1 _ _ _ _ _ hn,aV_,aWa,aWb,aBD (m1 _),aBD (m2 _),aDf,dGt,← ea,hb0,aGK d64,hz,ne_eq])
    refine h _ _ ?_ ?_ ⟨a',b,c+1,get S _ hn,ha1,ha3,hb⟩ (Fr.set _)
    · rw [Int.fmod_eq_emod_of_nonneg _ (by omega)];exact Int.emod_nonneg _ (by omega)
    · rw [Int.fmod_eq_emod_of_nonneg _ (by omega)];exact Int.emod_lt_of_pos _ hm
theorem aXc (N:Nat) (x:Int) {S:Store}{Q:D→Store→Prop}{X:D→Store→Prop}(h:∀ c,Pool (S++[c]) S.length→Q (.loc S.length) (S++[c])):Wr (aDr N [.int x] S) Q X:=by
  have e1:x.fmod 2147483477=x % 2147483477:=Int.fmod_eq_emod_of_nonneg _ (by omega)
  have g:∀ X:Cell,(S++[X])[S.length]? = some X:=fun X=>by simp
  have a1:0≤x.fmod 2147483477:=by rw [e1];exact Int.emod_nonneg _ (by omega)
  have a2:x.fmod 2147483477<2147483477:=by rw [e1];exact Int.emod_lt_of_pos _ (by omega)
  have ep:dPow (.int 10) (.int 18)=some (.int (10 ^ 18)):=rfl
  rw [aDr,aAi,aFx]
  by_cases h1:x<0
  · wp_walk using dLt,h1,aDf,ne_eq
    exact h _ ⟨_,_,_,g _,a1,a2,by omega⟩
  · by_cases h2:(10 ^ 18:Int)≤x
    · wp_walk using dLt,dGe,ep,h1,h2,aDf,ne_eq
      exact h _ ⟨_,_,_,g _,a1,a2,by omega⟩
    · wp_walk using dLt,dGe,ep,h1,h2,aDf,ne_eq
      exact h _ ⟨_,_,_,g _,a1,a2,by omega⟩
theorem aPi {l:List D}{i:Int}{S:Store}{Q:D→Store→Prop}{X:D→Store→Prop}(h0:0≤i) (h1:i<l.length) (h:∀ d,d∈l→Q d S):Wr (lf (L2.atI l i) S) Q X:=by
  have hk:i.toNat<l.length:=by omega
  have e:L2.atI l i=some l[i.toNat]:=by
    unfold L2.atI L2.ixN
    rw [if_pos h0,if_pos h1]
    show l[i.toNat]? = _
    exact List.getElem?_eq_getElem hk
  rw [e]
  exact h _ (List.getElem_mem hk)
theorem aRa {n:Nat}{d:D}(h:d∈rangeD 0 n):∃ k:Int,d = .int k∧0≤k∧k<n:=by
  unfold rangeD at h
  rw [List.mem_map] at h
  obtain ⟨k,hk,rfl⟩:=h
  rw [List.mem_range] at hk
  exact ⟨0+(k:Nat),rfl,by omega,by omega⟩
theorem aGa {n i:Nat}{d:D}(h:(rangeD 0 n)[i]? = some d):d = .int i∧i<n:=by
  unfold rangeD at h
  rw [List.getElem?_map] at h
  obtain ⟨k,hk,rfl⟩:=Option.map_eq_some_iff.mp h
  obtain ⟨h1,h2⟩:=List.getElem?_eq_some_iff.mp hk
  simp at h1 h2
  subst h2
  exact ⟨by simp,h1⟩
theorem aDN (n:Nat):(rangeD 0 n).length=n:=by unfold rangeD;simp
theorem aS1 (ns:List Int) {k:Int}(h0:0≤k) (h:k<ns.length):∃ x:Int,L2.atI (ns.map D.int) k=some (.int x):=by
  have hk:k.toNat<ns.length:=by omega
  refine ⟨ns[k.toNat],?_⟩
  unfold L2.atI L2.ixN
  rw [List.length_map,if_pos h0,if_pos h]
  show (ns.map D.int)[k.toNat]? = _
  rw [List.getElem?_map,List.getElem?_eq_getElem hk]
  rfl
theorem aXd (N:Nat) (ns:List Int) (k:Int) {S:Store}{Q:D→Store→Prop}{X:D→Store→Prop}(h0:0≤k) (h1:k<2 ^ 40) (h:∀ x:Int,Q (.int x) S):Wr (aDq N [.scr (ns.map .int), .int k] S) Q X:=by
  rw [aDq,aAi,aFw]
  by_cases hk:k<ns.length
  · obtain ⟨x,e⟩:=aS1 ns h0 hk
    wp_walk using List.length_map,hk,e
    exact h x
  · have es:slD S (.scr (ns.map D.int)) none (some 3)=some (.lst ((cutL ns none (some 3)).map D.int)):=by
      show some (D.lst (cutL (ns.map D.int) none (some 3)))=_
      rw [aS0]
    wp_walk using List.length_map,hk,aBD (aQW (i:=k) (j:=k) (by omega)),aBD (aQW (i:=5) (j:=k) (by decide)),aBD (aQW (i:=60013) (by decide)),aDf,es
    refine aWY (fun e S'=>S'=S∧∃ (z:Int) (o:Option D),e = [some (.scr (ns.map .int)),some (.int k),some (.int z),o]) ⟨rfl,_,none,rfl⟩ ?_ ?_
    · rintro d e S' hd ⟨rfl,z,o,rfl⟩
      obtain ⟨i,_,rfl⟩:=List.mem_map.mp hd
      wp_walk using aBD (aYA (i:=z) (j:=48017) (by decide)),aDf
      exact ⟨_,_,rfl⟩
    · rintro e S' ⟨rfl,z,o,rfl⟩
      wp_walk using aBh
      exact h z
theorem aRb (a b:Str):eqD (.str a) (.str b)=some (decide (a=b)):=rfl
theorem aE5 (a b:Str):dEq (.str a) (.str b)=some (.bl (decide (a=b))):=by unfold dEq;rw [aRb];rfl
theorem aGy (a b:Str):dNe (.str a) (.str b)=some (.bl (!decide (a=b))):=by unfold dNe;rw [aRb];rfl
theorem aUS {N:Nat}{q:Rat}{S:Store}{n:Nat}(hN:big N) (h:Bt q n) (h9:n≤9000):aBE N [rD q] S = .ok (.bl (decide (0≤q.num))) S:=by
  apply aAh
  rw [aBE,aAi,aFS]
  wp_walk using aL7 hN h h9
theorem aUT {N:Nat}{q:Rat}{S:Store}{n:Nat}(hN:big N) (h:Bt q n) (h9:n≤9000):aCi N [rD q] S = .ok (.bl (decide (0<q∧q≤1))) S:=by
  have e1:(0<q.num)↔0<q:=by
    rw [Rat.lt_iff];simp
  have e2:(q.num≤(q.den:Int))↔q≤1:=by
    rw [Rat.le_iff];simp
  apply aAh
  rw [aCi,aAi,aFT]
  by_cases h1:0<q.num
  · by_cases h2:q.num≤(q.den:Int)
    · wp_walk using aL7 hN h h9,h1,h2,e1.mp h1,e2.mp h2
    · have h2':¬ q≤1:=fun z=>h2 (e2.mpr z)
      wp_walk using aL7 hN h h9,h1,h2,e1.mp h1,h2',and_false
  · have h1':¬ 0<q:=fun z=>h1 (e1.mpr z)
    wp_walk using aL7 hN h h9,h1,h1',false_and
end
end C
namespace C
open PySem G
end C
namespace C
open PySem G
noncomputable section
theorem aOh {p b:Int}(h0:0<p) (h1:p≤b):0<Rat.divInt p b∧Rat.divInt p b≤1:=by
  have hb:(0:Rat)<(b:Rat):=Rat.intCast_pos.mpr (by omega)
  have hp:(0:Rat)<(p:Rat):=Rat.intCast_pos.mpr h0
  rw [Rat.divInt_eq_div]
  refine ⟨by rw [Rat.lt_div_iff hb,Rat.zero_mul];exact hp,?_⟩
  have:¬ (1:Rat)<(p:Rat) / (b:Rat):=by
    rw [Rat.lt_div_iff hb,Rat.one_mul,Rat.intCast_lt_intCast];omega
  exact Rat.not_lt.mp this
end
end C
namespace G
open PySem
section
variable {Q X:QP D}{QB:QP Bool}{QL:QP (List D)}{QE:QP En}{k:KS}{e:En}{S S1:Store}{a b c o:EM}{t u:TM}{m n:SM}{am mk:AM}{x y d:D}{z:Bool}{xs ds zs:List D}
theorem aRc {i:Nat}{l:List (L2.Key×D)}(h:S[i]? = some (.dk l)):dkD S (.loc i)=some (i,l):=by unfold dkD;simp only [h]
theorem aXe {i:Nat}{l:List (L2.Key×D)}{q:L2.Key}(h:S[i]? = some (.dk l)) (hk:keyD y=some q) (hl:l.length<sizeLine):setE S (.loc i) y d=some (S.set i (.dk (putKD l q d))):=by
  unfold setE;simp only [aRc h,hk,hl,if_true]
variable {QQ:QC}
end
end G
namespace C
open PySem G
noncomputable section
theorem aOi (l:List D) (d:D):L2.atI (l++[d]) (-1)=some d:=by
  unfold L2.atI L2.ixN
  have h1:¬ (0:Int) ≤ -1:=by omega
  simp only [List.length_append,List.length_cons,List.length_nil]
  have e:((-1:Int)+((l.length+1:Nat):Int)).toNat=l.length:=by omega
  rw [if_neg h1]
  first
    | rw [if_pos (by omega)]
    | skip
  simp only [e]
  simp
end
end C
namespace G
open PySem
section
variable {Q X:QP D}{e:En}{S S1:Store}{a b c o:EM}{ms:List EM}{x y d:D}
theorem aNt (l m:List D) (h:(d::l).length+m.length≤1000):dAddE S (.tup (d::l)) (.tup m)=some (.tup (d::l++m)):=aQY (S:=S) l m h
end
end G
namespace G
open PySem
section
variable {Q X:QP D}{QB:QP Bool}{QL:QP (List D)}{QE:QP En}{k:KS}{e:En}{S S1:Store}{a b c o:EM}{t u:TM}{m n:SM}{am mk:AM}{x y d:D}{z:Bool}{xs ds zs:List D}
theorem aUU:∀ l:List D,(∀ d,d∈l→Cmp d)→∃ ps,toPs l=some ps∧PyData.canLayAll0 ps=true∧PyData.depthAll ps≤60∧(ps = []↔l = []):=by
  intro l
  induction l with
  | nil=>exact fun _=>⟨[],rfl,rfl,Nat.zero_le _,by simp⟩
  | cons d l ih=>
    intro h
    obtain ⟨p,h1,h2,h3⟩:=h d (by simp)
    obtain ⟨ps,g1,g2,g3,_⟩:=ih fun d hd=>h d (by simp [hd])
    refine ⟨p::ps,by unfold toPs;rw [h1,g1],by unfold PyData.canLayAll0;rw [h2,g2];rfl,?_,by simp⟩
    simp only [PyData.depthAll];omega
theorem aUV {l:List D}(h:∀ d,d∈l→Cmp d):eqP (.lst l) (.lst [])=some (decide (l = [])):=by
  obtain ⟨ps,h1,h2,h3,h4⟩:=aUU l h
  have e1:(D.lst l).toP=some (.list ps):=by unfold D.toP;rw [h1];rfl
  have e2:(D.lst []).toP=some (.list []):=rfl
  have s1:SeqAt.shaped (.list ps)=true:=by
    unfold SeqAt.shaped
    rw [Bool.and_eq_true,decide_eq_true_eq]
    exact ⟨by simpa [PyData.canLay0] using h2,by simp only [PyData.depth];omega⟩
  have s2:SeqAt.shaped (.list [])=true:=by decide
  unfold eqP
  rw [e1,e2]
  dsimp only
  rw [s1,s2]
  simp only [Bool.and_self,if_true,PyData.eqv]
  cases ps with
  | nil=>rw [h4.mp rfl];rfl
  | cons p ps=>rw [decide_eq_false fun z=>by simpa using h4.mpr z];rfl
mutual
theorem aOj:∀ p:PyData,p.canLay0=true→PyData.eqv p p=true
  | .none,_=>rfl
  | .bool b,_=>by simp [PyData.eqv]
  | .int i,_=>by simp [PyData.eqv]
  | .str x,_=>by simp [PyData.eqv]
  | .list xs,h=>by rw [PyData.eqv];exact aId xs (by simpa [PyData.canLay0] using h)
  | .tuple xs,h=>by rw [PyData.eqv];exact aId xs (by simpa [PyData.canLay0] using h)
  | .dict _,h=>by simp [PyData.canLay0] at h
theorem aId:∀ ps:List PyData,PyData.canLayAll0 ps=true→PyData.eqvAll ps ps=true
  | [],_=>rfl
  | p::ps,h=>by
    have k:p.canLay0=true∧PyData.canLayAll0 ps=true:=by simpa [PyData.canLayAll0] using h
    rw [PyData.eqvAll,aOj p k.1,aId ps k.2];rfl
end
theorem aS2 {j:Nat}{l:List D}(hj:S[j]? = some (.lst l)) (h:∀ d,d∈l→Cmp d):dEqS S (.loc j) (.lst [])=some (.bl (decide (l = []))):=by
  unfold dEqS eqS rsv
  simp only [hj]
  rw [aUV h];rfl
theorem aUW {l:List D}{i:Nat}(h:(enumD l)[i]? = some d):∃ x,l[i]? = some x∧d = .tup [.int (i:Nat),x]:=by
  have hl:=(List.getElem?_eq_some_iff.mp h).1
  rw [aCS] at hl
  refine ⟨l[i],List.getElem?_eq_getElem hl,?_⟩
  have:=aFK (List.getElem?_eq_getElem hl)
  rw [this] at h
  exact (Option.some.inj h).symm
end
end G
namespace G
open PySem
section
variable {Q:D→Store→Prop}{QE:En→Store→Prop}{X:D→Store→Prop}{k:KS}{e:En}{S S1:Store}{a b c:EM}{x y d:D}{z:Bool}{xs ds:List D}
theorem aS3 {j:Nat}{l:List D}(hj:S[j]? = some (.lst l)) (h:∀ d,d∈l→Cmp d):dNeS S (.loc j) (.lst [])=some (.bl (!decide (l = []))):=by
  have:=aS2 hj h
  unfold dEqS at this
  unfold dNeS
  cases q:eqS S (.loc j) (.lst []) with
  | none=>rw [q] at this;cases this
  | some b=>
    rw [q] at this
    have e:b=decide (l = []):=by simpa using this
    rw [e];rfl
end
end G
namespace G
open PySem
end G
namespace G
open PySem
end G
namespace G
open PySem
section
variable {Q X:QP D}{QB:QP Bool}{QL:QP (List D)}{QE:QP En}{k:KS}{e:En}{S S1 S2:Store}{a b c o:EM}{t u:TM}{m n:SM}{am mk:AM}{x y d:D}{z:Bool}{xs ds zs:List D}{g g1 g2 g3:GM}
theorem aXf {i:Nat}{l:List (L2.Key×D)}{q:L2.Key}{v:D}(h:S[i]? = some (.dk l)) (hk:keyD y=some q) (hv:valD l q=some v):ixE S (.loc i) y=some v:=by
  unfold ixE;simp only [aRc h,hk,Option.bind_some,hv]
end
end G
namespace G
open PySem
end G
namespace G
open PySem
end G
namespace G
open PySem
end G
namespace G
open PySem
end G
namespace G
open PySem
section
variable {QD:QP D}{X Y Q:QP D}{a b:EM}{e:En}{S S':Store}{x y:D}
theorem uK_s {i j:Nat}{l l':List (L2.Key×D)}(h:S[i]? = some (.dk l)) (h':S[j]? = some (.dk l')) (hn:i≠j) (hz:l.length+l'.length≤1000):uK S (.loc i) (.loc j) = .ok .non (S.set i (.dk (mergeKD l l'))):=by
  unfold uK;simp only [aRc h,aRc h'];rw [if_pos ⟨hn,hz⟩]
end
end G
namespace G
open PySem
end G
namespace G
open PySem L2 PySem.Spec
end G
namespace G
open PySem L2 PySem.Spec
end G
namespace G
open PySem L2 PySem.Spec
end G
namespace G
open PySem L2 PySem.Spec
end G
namespace G
open PySem L2 PySem.Spec
end G
namespace G
open PySem L2 PySem.Spec
end G
namespace G
open PySem
end G
namespace C
open PySem G
end C
namespace C
open PySem G
end C
namespace C
open PySem G
noncomputable section
section
variable {S:Store}{v:Sv}{F:HL}{p:Nat×Nat×Se}
theorem Sv.r1 (hs:Sep S (v.H++F)):S[v.r]? = some v.roomC:=hs.get (by simp [Sv.H])
theorem Sv.r2 (hs:Sep S (v.H++F)):S[v.q]? = some (.lst (v.seats.map fun p => .loc p.1)):=hs.get (by simp [Sv.H])
end
end
end C
namespace C
open PySem G
end C
namespace C
open PySem G
end C
namespace C
open PySem G
end C
namespace C
open PySem G
end C
namespace C
open PySem G
end C
namespace C
open PySem G
end C
namespace C
open PySem G
end C
namespace C
open PySem G
noncomputable section
theorem aUX {z:Int}{r:Rat}(hz:1≤z) (hr:0≤r):0≤(z:Rat) / r:=by
  rw [Rat.div_def]
  have h1:(0:Rat)≤(z:Rat):=by exact_mod_cast (by omega:(0:Int)≤z)
  refine Rat.mul_nonneg h1 ?_
  by_cases c:r=0
  · subst c;rw [Rat.inv_zero];decide
  · have hp:0<r:=by grind
    have:=Rat.inv_pos.mpr hp
    grind
end
end C
namespace C
open PySem G
end C
namespace C
open PySem G
end C
namespace C
open PySem G
end C
namespace C
open PySem G
end C
namespace C
open PySem G
noncomputable section
section
variable {S:Store}{o:Ow}{F:HL}{p:Nat×Nat×Se}
theorem Ow.r1 (hs:Sep S (o.H++F)):S[o.d]? = some (.dk o.K):=hs.get (by simp [Ow.H])
theorem Ow.r2 (hs:Sep S (o.H++F)):S[o.f]? = some (.lst (o.folk.map fun p => .loc p.1)):=hs.get (by simp [Ow.H])
end
theorem aTf {z:Str}(q:Rat) (h:(PyData.str z).canLay0=true):dEq (.str z) (rD q)=some (.bl false):=by
  unfold dEq
  show (eqP (.str z) (rD q)).map _=_
  unfold eqP
  have e1:(D.str z).toP=some (.str z):=rfl
  rw [e1,aWZ]
  dsimp only
  have s1:SeqAt.shaped (.str z)=true:=by
    unfold SeqAt.shaped
    rw [h];rfl
  have s2:SeqAt.shaped (.tuple [.int q.num, .int q.den])=true:=rfl
  rw [s1,s2];rfl
end
end C
namespace C
open PySem G
end C
namespace C
open PySem G
end C
namespace C
open PySem G
end C
namespace C
open PySem G
end C
namespace C
open PySem G
end C
namespace C
open PySem G
end C
namespace C
open PySem G
end C
namespace C
open PySem G
end C
namespace C
open PySem G
end C
namespace C
open PySem G
end C
namespace C
open PySem G
end C
namespace C
open PySem G
end C
namespace C
open PySem G
end C
namespace C
open PySem G
noncomputable section
abbrev LET:Str:="abcdefghijklmnopqrstuvwxyz"
theorem aS4:LET.cps.toList=List.range' 97 26:=by decide +kernel
theorem aYB:LET.length≤sizeLine:=by rw [sizeLine_eq];decide +kernel
def oneS (c:Nat):Str:=⟨#[c]⟩
theorem aXg {i:Int}(h0:0≤i) (h1:i<26) (S:Store):∃ c,ixD S (.str LET) (.int i)=some (.str (oneS c))∧97≤c∧c<123:=by
  obtain ⟨k,rfl⟩:=Int.eq_ofNat_of_zero_le h0
  have hk:(List.range' 97 26)[k]? = some (97+k):=by rw [List.getElem?_range' (by omega)];simp
  refine ⟨97+k,?_,by omega,by omega⟩
  show (if LET.length≤sizeLine then (L2.atI LET.cps.toList (k:Int)).map (fun c=>D.str ⟨#[c]⟩) else none)=_
  rw [if_pos aYB,aS4,L2.atI_nat hk]
  rfl
theorem aXh {c:Nat}(h0:97≤c) (h1:c<123) (S:Store):dIn false S (.str (oneS c)) (.str LET)=some (.bl true):=by
  show some (D.bl (decide (c∈LET.cps.toList)))=_
  rw [aS4,decide_eq_true (List.mem_range'_1.mpr ⟨h0,by omega⟩)]
theorem aOk:∀ cs:List Nat,Str.join "" (cs.map oneS)=⟨cs.toArray⟩
  | []=>rfl
  | [c]=>rfl
  | c::d::cs=>by
    show oneS c++""++Str.join "" ((d::cs).map oneS)=_
    rw [aOk (d::cs)]
    show (⟨#[c] ++ #[]++(d::cs).toArray⟩:Str)=_
    simp
theorem aOl:∀ cs:List Nat,strsD (cs.map fun c => .str (oneS c))=some (cs.map oneS)
  | []=>rfl
  | c::cs=>by
    show (strsD (cs.map fun c=>D.str (oneS c))).map (oneS c :: ·)=_
    rw [aOl cs];rfl
theorem aRd:∀ cs:List Nat,((cs.map oneS).map (·.length)).sum=cs.length
  | []=>rfl
  | c::cs=>by
    simp only [List.map_cons,List.sum_cons,aRd cs,List.length_cons]
    show 1+_=_
    omega
theorem aUY {cs:List Nat}(h:cs.length≤8) (S:Store):fJoin S (.str "") [.lst (cs.map fun c => .str (oneS c))]=some (.str ⟨cs.toArray⟩):=by
  unfold fJoin
  dsimp only
  have e:seqD S (.lst (cs.map fun c=>D.str (oneS c)))=some (cs.map fun c=>D.str (oneS c)):=rfl
  rw [e,Option.bind_some,aOl,Option.bind_some,aRd,aOk]
  rw [if_pos (by show cs.length+(cs.map oneS).length*0≤_;omega)]
theorem aIT:∀ n:Nat,bools (List.replicate n (D.bl true))=some (List.replicate n true)
  | 0=>rfl
  | n+1=>by
    rw [List.replicate_succ,List.replicate_succ]
    show (bools (List.replicate n (D.bl true))).map _=_
    rw [aIT n];rfl
theorem aXi {N:Nat}{cs:List Nat}(h1:1≤cs.length) (h8:cs.length≤8) (hc:∀ c,c∈cs→97≤c∧c<123):∀ S,aBn N [.str ⟨cs.toArray⟩] S = .ok (.bl true) S:=by
  intro S
  have hs:signs ⟨cs.toArray⟩=cs.map fun c => .str (oneS c):=by unfold signs;simp [oneS]
  have ht:isTy S .str (.str ⟨cs.toArray⟩)=some true:=rfl
  have gm:∀ (d:D) (e:En),Tg.m (.nm 1) d e=some (e.set 1 (some d)):=fun _ _=>rfl
  have hl:fLen S [.str ⟨cs.toArray⟩]=some (.int (cs.length:Nat)):=by
    have:lenD S (.str ⟨cs.toArray⟩)=some cs.length:=by
      show (if (⟨cs.toArray⟩:Str).length≤sizeLine then some _ else none)=_
      rw [if_pos (by rw [sizeLine_eq];show cs.toArray.size≤_;simp;omega)]
      show some cs.toArray.size=_
      simp
    unfold fLen;simp only [this];rfl
  have l1:(1:Int)≤(cs.length:Nat):=by omega
  have l8:((cs.length:Nat):Int)≤8:=by omega
  apply aAh
  rw [aBn,aAi,aDM]
  wp_walk using ht,Option.map_some,hl,l1,l8,hs
  refine lc_w (fun i acc S'=>S'=S∧i≤cs.length∧acc=List.replicate i (D.bl true)) ⟨rfl,Nat.zero_le _,rfl⟩ ?_ ?_
  · rintro i d acc S' hd ⟨rfl,hi,rfl⟩
    rw [List.getElem?_map] at hd
    obtain ⟨c,hd2,rfl⟩:=Option.map_eq_some_iff.mp hd
    obtain ⟨c0,c1⟩:=hc c (List.mem_of_getElem? hd2)
    have hlt:=(List.getElem?_eq_some_iff.mp hd2).1
    wp_walk using gm,aXh c0 c1,List.length_replicate
    exact ⟨by omega,hlt,by rw [← List.replicate_succ,List.replicate_succ']⟩
  · rintro acc S' ⟨rfl,hi,rfl⟩
    have ha:fAll S' [.lst (List.replicate (cs.map fun c=>D.str (oneS c)).length (D.bl true))]=some (.bl true):=by
      show ((bools (List.replicate (cs.map fun c=>D.str (oneS c)).length (D.bl true))).map fun bs=>D.bl (bs.all id))=_
      rw [aIT]
      simp
    wp_walk using ha
theorem D27.div (a:Int) {b:Int}(b1:1≤b) (b12:b≤12):D27 (Rat.divInt a b):=by
  have hb:b=1∨b=2∨b=3∨b=4∨b=5∨b=6∨b=7∨b=8∨b=9∨b=10∨b=11∨b=12:=by omega
  unfold D27
  rw [Rat.divInt_eq_div]
  rcases hb with rfl | rfl | rfl | rfl | rfl | rfl | rfl | rfl | rfl | rfl | rfl | rfl
  · exact ⟨a*27720,by push_cast;grind⟩
  · exact ⟨a*13860,by push_cast;grind⟩
  · exact ⟨a*9240,by push_cast;grind⟩
  · exact ⟨a*6930,by push_cast;grind⟩
  · exact ⟨a*5544,by push_cast;grind⟩
  · exact ⟨a*4620,by push_cast;grind⟩
  · exact ⟨a*3960,by push_cast;grind⟩
  · exact ⟨a*3465,by push_cast;grind⟩
  · exact ⟨a*3080,by push_cast;grind⟩
  · exact ⟨a*2772,by push_cast;grind⟩
  · exact ⟨a*2520,by push_cast;grind⟩
  · exact ⟨a*2310,by push_cast;grind⟩
theorem aUZ {N:Nat}(hN:big N) {S:Store}{n:Nat}{Q X:QP D}(P:Pool S n) (h:∀ q S',Bt q 5→D27 q→0<q→q≤1→Pool S' n→Fr n S S'→Q (rD q) S'):Wr (aBT N [.loc n] S) Q X:=by
  rw [aBT,aAi,aEK]
  wp_walk using G.aBh
  refine aCD N P (by omega) (by omega) fun w S1 w0 w1 P1 F1 => ?_
  wp_walk using G.aBh
  refine aCD N P1 (by split<;>omega) (by split<;>omega) fun a S2 a0 a1 P2 F2 => ?_
  wp_walk using G.aBh
  rw [r_ok hN (n:=5) (by omega) (by omega) (by omega) (by omega)]
  have hu:=aOh (p:=1+a) (b:=1+w) (by omega) (by split at a1<;>omega)
  exact h _ _ (aH7 (m:=0) (by omega) (by omega) (by omega)) (D27.div _ (by omega) (by omega)) hu.1 hu.2 P2 (F1.trans F2)
theorem aRe {N:Nat}(hN:big N) {S:Store}{n:Nat}{Q X:QP D}(P:Pool S n) (h:∀ q S',Bt q 5→0<q→q≤1→Pool S' n→Fr n S S'→Q (rD q) S'):Wr (aBT N [.loc n] S) Q X:=aUZ hN P fun q S' b _=>h q S' b
theorem aOm {N:Nat}(hN:big N) {S:Store}{n:Nat}{now:Rat}{B:Nat}{Q X:QP D}(P:Pool S n) (bn:Bt now B) (hB:B≤4000) (n0:0≤now) (h:∀ q S',Bt q (B+7)→now≤q→Pool S' n→Fr n S S'→Q (rD q) S'):Wr (aCc N [.loc n,rD now] S) Q X:=by
  rw [aCc,aAi,aEu]
  wp_walk using G.aBh
  refine aCD N P (by omega) (by omega) fun a S1 a0 a1 P1 F1 => ?_
  wp_walk using G.aBh
  refine aCD N P1 (by omega) (by omega) fun b S2 b0 b1 P2 F2 => ?_
  wp_walk using G.aBh
  refine aPi b0 (by simpa using b1) fun d hd => ?_
  obtain ⟨c,rfl,c1,c4⟩:∃ c:Int,d = .int c∧1≤c∧c≤4:=by
    simp only [List.mem_cons,List.not_mem_nil,or_false] at hd
    rcases hd with rfl | rfl | rfl | rfl | rfl<;>exact ⟨_,rfl,by omega,by omega⟩
  have hq:0≤Rat.divInt a c:=by
    rw [Rat.divInt_eq_div,Rat.div_def]
    refine Rat.mul_nonneg (by exact_mod_cast a0) ?_
    have:=aUX (z:=1) (r:=(c:Rat)) (by omega) (by exact_mod_cast (by omega:(0:Int)≤c))
    rw [Rat.div_def] at this
    have e:((1:Int):Rat)*(c:Rat)⁻¹ = (c:Rat)⁻¹ := by
      rw [show ((1:Int):Rat)=1 from rfl,Rat.one_mul]
    rwa [e] at this
  have bq:Bt (Rat.divInt a c) 6:=aH7 (m:=0) (by omega) (by omega) (by omega)
  wp_walk using r_ok (S:=S2) (t:=a) (b:=c) hN (n:=6) (by omega) (by omega) (by omega) (by omega),aUR (S:=S2) hN bn bq (by omega)
  exact h _ _ ((bn.add bq).mono (by omega)) (by grind) P2 (F1.trans F2)
def NmT (_:Nat) (nm:Str):Prop:=nm.length≤8∧NmOk nm
theorem aXj (N:Nat):∀ d,d∈[D.str "join", .str "ask", .str "leave", .str "least", .str "most", .str "weight", .str "go", .str "serve", .str "now", .str "share", .str "at", .str "none"]→∃ nm,d = .str nm∧NmT N nm:=by
  intro d hd
  simp only [List.mem_cons,List.not_mem_nil,or_false] at hd
  rcases hd with rfl | rfl | rfl | rfl | rfl | rfl | rfl | rfl | rfl | rfl | rfl | rfl<;>exact ⟨_,rfl,by decide +kernel,fun _ _=>rfl,by simp only [PyData.canLay0];decide +kernel⟩
theorem sg26:(signs LET).length=26:=by unfold signs;rw [aS4];simp
theorem cut7 {nm:Str}(h:nm.length≤8) (S:Store):∃ y:Str,slD S (.str nm) none (some 7)=some (.str y)∧y.length≤1000:=by
  refine ⟨L2.cutS nm none (some 7),?_,?_⟩
  · show (if nm.length≤sizeLine then _ else _)=_
    rw [if_pos (by rw [sizeLine_eq];omega)]
  · exact Nat.le_trans (L2.cutS_length nm none (some 7)) (by omega)
theorem aYC {a b:Str}(h:a.length+b.length≤1001) (S:Store):dAddS S (.str a) (.str b)=some (.str (a++b)):=by
  show (if a.length+b.length≤sizeLine then _ else _)=_
  rw [if_pos (by rw [sizeLine_eq];omega)]
theorem aXk {cs:List Nat}(hc:∀ c,c∈cs→97≤c∧c<123):(PyData.str ⟨cs.toArray⟩).canLay0=true:=by
  simp only [PyData.canLay0,PyData.strOk]
  rw [List.all_toArray]
  exact List.all_eq_true.mpr fun c h=>decide_eq_true (by have:=hc c h;omega)
theorem aXl {N:Nat}{S:Store}{n:Nat}{Q X:QP D}(P:Pool S n) (h:∀ nm S',NmT N nm→Pool S' n→Fr n S S'→Q (.str nm) S'):Wr (aDt N [.loc n, .lst []] S) Q X:=by
  have gm7:∀ (d:D) (e:En),Tg.m (.nm 7) d e=some (e.set 7 (some d)):=fun _ _=>rfl
  have gm5:∀ (d:D) (e:En),Tg.m (.nm 5) d e=some (e.set 5 (some d)):=fun _ _=>rfl
  have gm6:∀ (d:D) (e:En),Tg.m (.nm 6) d e=some (e.set 6 (some d)):=fun _ _=>rfl
  rw [aDt,aAi,aFz]
  wp_walk using G.aBh
  refine aCD N P (by omega) (by omega) fun w S1 w0 w1 P1 F1 => ?_
  wp_walk using G.aBh
  refine aPi w0 (by simpa using w1) fun d hd => ?_
  obtain ⟨nm,rfl,hnm⟩:=aXj N d hd
  clear hd
  wp_walk using zstop,G.aBh
  refine ws_cut (fun e S'=>Pool S' n∧Fr n S S'∧∃ nm x2,NmT N nm∧e = [some (.loc n),some (.lst []),x2,some (.str nm),none,none,none,none]) ?_ ?_
  · wp_walk using G.aBh
    refine aCD N P1 (by omega) (by omega) fun u S2 u0 u1 P2 F2 => ?_
    by_cases hu:u > 0
    · wp_walk using hu
      refine aCD N P2 (by omega) (by omega) fun v S3 v0 v1 P3 F3 => ?_
      wp_walk using G.aBh
      refine ⟨by omega,?_⟩
      refine lc_w (fun i acc S'=>Pool S' n∧Fr n S S'∧∃ cs:List Nat,acc=(cs.map fun c=>D.str (oneS c))∧cs.length=i∧∀ c,c∈cs→97≤c∧c<123) ⟨P3,(F1.trans F2).trans F3,[],rfl,rfl,fun c hc=>by cases hc⟩ ?_ ?_
      · rintro i d acc S4 hd ⟨P4,F4,cs,rfl,hi,hc⟩
        wp_walk using gm7
        refine aCD N P4 (by omega) (by omega) fun a S5 a0 a1 P5 F5 => ?_
        obtain ⟨c,e1,c0,c1⟩:=aXg a0 a1 S5
        have hlt:=(List.getElem?_eq_some_iff.mp hd).1
        rw [aDN] at hlt
        wp_walk using e1
        refine ⟨by rw [List.length_map];omega,P5,F4.trans F5,cs++[c],by rw [List.map_append];rfl,by simp [hi],fun c' hc' => ?_⟩
        rcases List.mem_append.mp hc' with z | z
        · exact hc c' z
        · simp only [List.mem_cons,List.not_mem_nil,or_false] at z
          subst z;exact ⟨c0,c1⟩
      · rintro acc S4 ⟨P4,F4,cs,rfl,hi,hc⟩
        rw [aDN] at hi
        have h1:1≤cs.length:=by omega
        have h8:cs.length≤8:=by omega
        wp_walk using aUY h8
        exact ⟨P4,F4,_,_,⟨by show cs.toArray.size≤8;simpa using h8,fun N S=>aXi h1 h8 hc S,aXk hc⟩,rfl⟩
    · wp_walk using hu
      exact ⟨P2,F1.trans F2,_,_,hnm,rfl⟩
  · rintro e S2 ⟨P2,F2,nm,x2,hnm,rfl⟩
    wp_walk using G.aBh
    refine lc_w (fun i acc S'=>S'=S2∧i≤26∧∃ ys:List Str,acc=ys.map D.str∧ys.length=i) ⟨rfl,Nat.zero_le _,[],rfl,rfl⟩ ?_ ?_
    · rintro i d acc S' hd ⟨rfl,hi,ys,rfl,hy⟩
      obtain ⟨c,rfl⟩:∃ c,d = .str (oneS c):=by
        unfold signs at hd
        rw [List.getElem?_map] at hd
        obtain ⟨c,_,rfl⟩:=Option.map_eq_some_iff.mp hd
        exact ⟨c,rfl⟩
      have hlt:=(List.getElem?_eq_some_iff.mp hd).1
      rw [sg26] at hlt
      obtain ⟨y1,e1,l1⟩:=cut7 hnm.1 S'
      have e2:dAddS S' (.str y1) (.str (oneS c))=some (.str (y1++oneS c)):=aYC (by show _+1≤_;omega) S'
      wp_walk using gm5,e1,e2,List.length_map
      exact ⟨by omega,by omega,ys++[y1++oneS c],by rw [List.map_append];rfl,by simp [hy]⟩
    · rintro acc S' ⟨rfl,hi,ys,rfl,hy⟩
      obtain ⟨zs,hz,e3⟩:∃ zs:List Str,zs=nm::ys∧dAddS S' (.lst [.str nm]) (.lst (ys.map D.str))=some (.lst (zs.map D.str)):=by
        refine ⟨_,rfl,?_⟩
        show (if _ then _ else _)=_
        rw [if_pos (by rw [sizeLine_eq,List.length_map,hy];simp only [List.length_cons,List.length_nil];omega)]
        rfl
      rw [sg26] at hy
      have hzl:zs.length=27:=by rw [hz,List.length_cons,hy]
      wp_walk using e3
      refine lc_w (fun i acc S''=>S''=S'∧i≤zs.length∧acc=(zs.take i).map D.str) ⟨rfl,Nat.zero_le _,rfl⟩ ?_ ?_
      · rintro i d acc S'' hd ⟨rfl,hi2,rfl⟩
        rw [List.getElem?_map] at hd
        obtain ⟨y,hd2,rfl⟩:=Option.map_eq_some_iff.mp hd
        have hlt:=(List.getElem?_eq_some_iff.mp hd2).1
        have ei:dInL true S'' (.str y) (.lst [])=some (.bl true):=rfl
        wp_walk using gm6,ei,List.length_map
        exact ⟨by rw [List.length_take];omega,hlt,by rw [List.take_add_one,hd2,List.map_append];rfl⟩
      · rintro acc S'' ⟨rfl,hi2,rfl⟩
        rw [List.length_map,List.take_length]
        have e4:ixD S'' (.lst (zs.map D.str)) (.int 0)=some (.str nm):=by
          rw [hz,aEJ]
          show L2.atI _ ((0:Nat):Int)=_
          exact L2.atI_nat rfl
        wp_walk using e4
        exact h nm S'' hnm P2 F2
end
end C
namespace C
open PySem G
end C
namespace C
open PySem G
end C
namespace C
open PySem G
end C
namespace C
open PySem G
end C
namespace C
open PySem G
end C
namespace C
open PySem G
end C
namespace C
open PySem G
end C
namespace C
open PySem G
end C
namespace C
open PySem G
noncomputable section
abbrev S_ (l:List Nat):Str:=SX.S l
def numI (i:Int):List Nat:=if i<0 then 45::TL.numL i.natAbs else TL.numL i.natAbs
theorem aRf (i:Int):(toString i:Str)=S_ (numI i):=by
  unfold numI
  cases i with
  | ofNat n=>
    rw [if_neg (by simp)]
    exact SX.num_S n
  | negSucc n=>
    rw [if_pos (Int.negSucc_lt_zero n)]
    have e:(toString (Int.negSucc n):String)="-"++toString (((n+1:Nat):Int)):=rfl
    have k:=SX.num_S (n+1)
    rw [Str.ofString_eq_toList] at k
    have k2:=SX.S_inj k
    show Str.ofString (toString (Int.negSucc n))=_
    rw [e,Str.ofString_eq_toList,String.toList_append,List.map_append,k2]
    rfl
def tq (q:Rat):List Nat:=numI q.num++(if q.den=1 then [] else 47::TL.numL q.den)
theorem aGb {i:Int}{k:Nat}(hk:0<k) (h:i.natAbs<10 ^ k):(numI i).length≤k+1:=by
  have:=TL.numL_len hk h
  unfold numI
  split
  · rw [List.length_cons];omega
  · omega
theorem aEO {i:Int}(h:i.natAbs<2 ^ 250):i.natAbs.log2<1920:=Nat.lt_of_lt_of_le (aGx h (by omega)) (by omega)
theorem aGD {i:Int}(h:i.natAbs<2 ^ 250) (S0:Store):fStr S0 [.int i]=some (.str (S_ (numI i))):=by
  show (if i.natAbs.log2<1920 then some (D.str (toString i)) else none)=_
  rw [if_pos (aEO h),aRf]
theorem aU_ {i:Int}(h:i.natAbs<2 ^ 250):fmtD (.int i)=some (.str (S_ (numI i))):=by
  show (if i.natAbs.log2<1920 then some (D.str (toString i)) else none)=_
  rw [if_pos (aEO h),aRf]
theorem sl_S:("/":Str)=S_ [47]:=by decide +kernel
theorem pow76:(2:Nat) ^ 250≤10 ^ 76:=by decide
theorem aIe {i:Int}(h:i.natAbs<2 ^ 250):(numI i).length≤77:=aGb (by omega) (Nat.lt_of_lt_of_le h pow76)
theorem aNu {a b:List Nat}(h:a.length+b.length≤1000) (S0:Store):dAddS S0 (.str (S_ a)) (.str (S_ b))=some (.str (S_ (a++b))):=by
  show (if (S_ a).length+(S_ b).length≤sizeLine then some (D.str (S_ a++S_ b)) else none)=_
  rw [if_pos (by rw [sizeLine_eq,SX.S_len,SX.S_len];omega),SX.S_cat]
end
end C
namespace C
open PySem G
theorem aVa (c:Nat) (S:Store):dIn false S (.str (oneS c)) (.str LET)=some (.bl (decide (97≤c∧c<123))):=by
  show some (D.bl (decide (c∈LET.cps.toList)))=_
  rw [aS4]
  congr 2
  by_cases h:97≤c∧c<123
  · rw [decide_eq_true h,decide_eq_true (List.mem_range'_1.mpr ⟨h.1,by omega⟩)]
  · rw [decide_eq_false h,decide_eq_false fun z=>h ?_]
    have:=List.mem_range'_1.mp z
    exact ⟨this.1,by omega⟩
theorem aIU (f:Nat→Bool):∀ a:List Nat,bools (a.map fun c=>D.bl (f c))=some (a.map f)
  | []=>rfl
  | c::a=>by
    show (bools (a.map fun c=>D.bl (f c))).map _=_
    rw [aIU f a];rfl
end C
namespace C
open PySem G
end C
namespace C
open PySem G
end C
namespace C
open PySem G
end C
namespace C
open PySem G
end C
namespace C
open PySem G
end C
namespace C
open PySem G
end C
namespace C
open PySem G
end C
namespace C
open PySem G
end C
namespace C
open PySem G
end C
namespace C
open PySem G
end C
namespace C
open PySem G
end C
namespace C
open PySem G
end C
namespace C
open PySem G
end C
namespace C
open PySem G
end C
namespace C
open PySem G
end C
namespace C
open PySem G
end C
namespace C
open PySem G
end C
namespace C
open PySem G
end C
namespace C
open PySem G
end C
namespace C
open PySem G
end C
namespace Wk33
open PySem G C
theorem aXm {d:D}{t:Tn}(h:shT d=some t) (S:Store):tyD S d=some t:=by
  cases d<;>first | exact h | (cases h)
def isB (y:Ty) (d:D):Bool:=match shT d with
  | some t=>t.is y
  | none=>false
theorem aVb {d:D}(h:(shT d).isSome=true) (y:Ty) (S:Store):isTy S y d=some (isB y d):=by
  obtain ⟨t,ht⟩:=Option.isSome_iff_exists.mp h
  unfold isTy isB
  rw [aXm ht,ht];rfl
def ratB:D→Bool
  | .tup [.int a, .int b]=>decide (0<b) && decide (gI a b=1)
  | _=>false
theorem aOn {l:List D}(h:l.length≠2):ratB (.tup l)=false:=by
  unfold ratB
  split
  · rename_i a b e
    cases e
    exact absurd rfl h
  · rfl
theorem b49:2 ^ 250<2 ^ 9000:=Nat.pow_lt_pow_right (by omega) (by omega)
theorem aTg {N:Nat}(hN:big N) {d:D}(h:Th d) (S:Store):C.aBz N [d] S = .ok (.bl (ratB d)) S:=by
  have hs:=h.sh
  match d,h with
  | .non,_=>rfl
  | .bl _,_=>rfl
  | .int _,_=>rfl
  | .str _,_=>rfl
  | .lst _,_=>rfl
  | .dic _ _,_=>rfl
  | .tup [],_=>rfl
  | .tup [x],_=>rw [aOn (l:=[x]) (by simp)];rfl
  | .tup (x::y::z::l),_=>
    have e:dNe (.int ((l.length+1+1+1:Nat):Int)) (.int 2)=some (.bl true):=by
      rw [aCY,decide_eq_false (by omega)];rfl
    have ty:isTy S .tuple (.tup (x::y::z::l))=some true:=rfl
    apply aAh
    rw [aBz,aAi,aDK]
    wp_walk using e,ty,List.length_cons
    rw [aOn (by simp)]
  | .tup [x,y],h=>
    obtain ⟨hx,hy⟩:=h.pr x y rfl
    cases x with
    | int a=>
      cases y with
      | int b=>exact aOf N a b S (Nat.lt_of_lt_of_le (h.bt a b rfl).2 (Nat.le_trans (Nat.le_of_lt b49) hN))
      | non=>rfl
      | bl _=>rfl
      | str _=>rfl
      | tup _=>rfl
      | lst _=>rfl
      | dic _ _=>rfl
      | _=>cases hy
    | non=>cases y<;>first | rfl | (cases hy)
    | bl _=>cases y<;>first | rfl | (cases hy)
    | str _=>cases y<;>first | rfl | (cases hy)
    | tup _=>cases y<;>first | rfl | (cases hy)
    | lst _=>cases y<;>first | rfl | (cases hy)
    | dic _ _=>cases y<;>first | rfl | (cases hy)
    | _=>cases hx
  | .scr _,_=>cases hs
  | .loc _,_=>cases hs
  | .exc _ _,_=>cases hs
  | .ins _ _,_=>cases hs
  | .fa _,_=>cases hs
  | .pin _ _,_=>cases hs
theorem aER {d:D}(h:Th d) (e:ratB d=true):∃ q:Rat,d=rD q∧Bt q 250:=by
  unfold ratB at e
  split at e
  · rename_i a b
    rw [Bool.and_eq_true,decide_eq_true_eq,decide_eq_true_eq] at e
    obtain ⟨b0,g⟩:=e
    have l:=aF_ (t:=a) b0
    rw [g,Int.ediv_one,Int.ediv_one] at l
    refine ⟨_,l,?_⟩
    obtain ⟨h1,h2⟩:=h.bt a b rfl
    unfold rD at l
    injection l with l
    injection l with l1 l2
    injection l2 with l2 _
    injection l1 with l1
    injection l2 with l2
    refine ⟨by rw [← l1];exact h1,?_⟩
    have:((Rat.divInt a b).den:Int).natAbs<2 ^ 250:=by rw [← l2];exact h2
    simpa using this
  · cases e
theorem aRg (q:Rat):ratB (rD q)=true:=by
  have:=q.den_pos
  show (decide (0<(q.den:Int)) && decide (gI q.num q.den=1))=true
  rw [aTe,decide_eq_true (by omega)]
  rfl
end Wk33
namespace Wk33
open PySem G C
def topB:D→Bool
  | .tup [.int a, .int b]=>decide (0≤a)
  | _=>false
def unitB:D→Bool
  | .tup [.int a, .int b]=>decide (0<a) && decide (a≤b)
  | _=>false
def zB:D→Bool
  | .tup [.int a, .int b]=>decide (a=0) && decide (b=1)
  | _=>false
def timeB (d:D):Bool:=ratB d && topB d
def rateB (d:D):Bool:=ratB d && unitB d
def leastB (d:D):Bool:=rateB d || zB d
def mostB:D→Bool
  | .non=>true
  | d=>rateB d
def wiB (m:Int):D→Bool
  | .int i=>decide (1≤i) && decide (i≤m)
  | _=>false
def wayB:D→Bool
  | .str x=>decide (("least":Str)=x) || decide (("share":Str)=x)
  | _=>false
def nameB:D→Bool
  | .str x=>(decide (1≤x.cps.toList.length) && decide (x.cps.toList.length≤8)) && x.cps.toList.all fun c=>decide (97≤c∧c<123)
  | _=>false
theorem aNv (q:Rat):timeB (rD q)=decide (0≤q.num):=by
  show (ratB (rD q) && decide (0≤q.num))=_
  rw [aRg];rfl
theorem aJG (q:Rat):rateB (rD q)=decide (0<q∧q≤1):=by
  show (ratB (rD q) && (decide (0<q.num) && decide (q.num≤(q.den:Int))))=_
  rw [aRg,Bool.true_and,← Bool.decide_and]
  congr 1
  have e1:(0<q.num)↔0<q:=by rw [Rat.lt_iff];simp
  rw [e1]
  have:q.num≤(q.den:Int)↔q≤1:=by
    rw [Rat.le_iff];simp
  rw [this]
theorem z_rD (q:Rat):zB (rD q)=decide (q=0):=by
  show (decide (q.num=0) && decide ((q.den:Int)=1))=_
  rw [← Bool.decide_and]
  congr 1
  apply propext
  constructor
  · exact fun h=>Rat.num_eq_zero.mp h.1
  · rintro rfl;exact ⟨rfl,rfl⟩
section
variable {N:Nat}{d:D}
theorem aRh (hN:big N) (h:Th d) (S:Store):aBE N [d] S = .ok (.bl (timeB d)) S:=by
  cases e:ratB d with
  | true=>
    obtain ⟨q,rfl,b⟩:=aER h e
    rw [aUS hN b (by omega),aNv]
  | false=>
    have r:=aTg hN h S
    rw [e] at r
    unfold timeB
    rw [e,Bool.false_and]
    apply aAh
    rw [aBE,aAi,aFS]
    wp_walk using r
theorem aRi (hN:big N) (h:Th d) (S:Store):aCi N [d] S = .ok (.bl (rateB d)) S:=by
  cases e:ratB d with
  | true=>
    obtain ⟨q,rfl,b⟩:=aER h e
    rw [aUT hN b (by omega),aJG]
  | false=>
    have r:=aTg hN h S
    rw [e] at r
    unfold rateB
    rw [e,Bool.false_and]
    apply aAh
    rw [aCi,aAi,aFT]
    wp_walk using r
theorem aS5 (hN:big N) (h:Th d) (S:Store):aB0 N [d] S = .ok (.bl (leastB d)) S:=by
  have t:=aRh hN h S
  have r:=aRi hN h S
  obtain ⟨b,e⟩:=h.eq
  cases er:ratB d with
  | true=>
    obtain ⟨q,rfl,bq⟩:=aER h er
    have e0:dEqU (rD q) (.tup [.int 0, .int 1])=some (.bl (decide (q=0))):=aEI q 0
    by_cases c:q=0
    · subst c
      rw [decide_eq_true rfl] at e0
      have t1:timeB (rD 0)=true:=rfl
      rw [t1] at t
      have lb:leastB (rD 0)=true:=rfl
      rw [lb]
      apply aAh
      rw [aB0,aAi,aCI]
      wp_walk using e0,t
    · rw [decide_eq_false c] at e0
      have lb:leastB (rD q)=rateB (rD q):=by unfold leastB;rw [z_rD,decide_eq_false c,Bool.or_false]
      rw [lb]
      apply aAh
      rw [aB0,aAi,aCI]
      wp_walk using e0,r
  | false=>
    have t1:timeB d=false:=by unfold timeB;rw [er];rfl
    have r1:rateB d=false:=by unfold rateB;rw [er];rfl
    have z1:zB d=false:=by
      cases z:zB d with
      | false=>rfl
      | true=>
        exfalso
        unfold zB at z
        split at z
        · rename_i a c
          rw [Bool.and_eq_true,decide_eq_true_eq,decide_eq_true_eq] at z
          obtain ⟨rfl,rfl⟩:=z
          exact absurd er (by decide)
        · cases z
    rw [t1] at t
    rw [r1] at r
    have lb:leastB d=false:=by unfold leastB;rw [r1,z1];rfl
    rw [lb]
    apply aAh
    rw [aB0,aAi,aCI]
    cases b with
    | true=>wp_walk using e,t,r
    | false=>wp_walk using e,r
theorem aVc (hN:big N) (h:Th d) (S:Store):aC6 N [d] S = .ok (.bl (mostB d)) S:=by
  have r:=aRi hN h S
  by_cases c:d = .non
  · subst c
    rfl
  · have hi:dIs d .non=some (.bl false):=by
      have hs:=h.sh
      cases d<;>first | rfl | exact absurd rfl c | (cases hs)
    have mb:mostB d=rateB d:=by
      unfold mostB
      split
      · exact absurd rfl c
      · rfl
    rw [mb]
    apply aAh
    rw [aC6,aAi,aHL]
    wp_walk using hi,r
theorem aXn (m:Int) (h:Th d) (S:Store):aCJ N [d, .int m] S = .ok (.bl (wiB m d)) S:=by
  have hs:=h.sh
  cases d with
  | int i=>
    unfold wiB
    apply aAh
    rw [aCJ,aAi,aF0]
    by_cases c:1≤i
    · wp_walk using c
      rfl
    · wp_walk using c
      rfl
  | _=>first | rfl | (cases hs)
theorem aXo (h:Th d) (S:Store):aDd N [d] S = .ok (.bl (wayB d)) S:=by
  have hs:=h.sh
  cases d with
  | str x=>
    have e:dInL false S (.str x) (.tup [.str "least", .str "share"])=some (.bl (wayB (.str x))):=by
      show some (D.bl (L2.inV (.str x) [.str "least", .str "share"]))=_
      unfold wayB
      have hb:∀ a:Str,(a == x)=decide (a=x):=fun a=>by
        by_cases c:a=x
        · subst c;simp
        · rw [decide_eq_false c];exact beq_eq_false_iff_ne.mpr c
      simp [L2.inV,L2.eqV,hb]
    have ht:isTy S .str (.str x)=some true:=rfl
    apply aAh
    rw [aDd,aAi,aJ4]
    wp_walk using e,ht
  | _=>first | rfl | (cases hs)
theorem aRj (h:Th d) (S:Store):aBn N [d] S = .ok (.bl (nameB d)) S:=by
  have hs:=h.sh
  cases d with
  | str x=>
    have hx:=h.st x rfl
    obtain ⟨cs,rfl⟩:∃ cs:List Nat,x=⟨cs.toArray⟩:=⟨x.cps.toList,by cases x;simp⟩
    have ht:isTy S .str (.str ⟨cs.toArray⟩)=some true:=rfl
    have le:(⟨cs.toArray⟩:Str).length=cs.length:=by show cs.toArray.size=_;simp
    rw [le] at hx
    have hl:fLen S [.str ⟨cs.toArray⟩]=some (.int (cs.length:Nat)):=by
      have:lenD S (.str ⟨cs.toArray⟩)=some cs.length:=by
        show (if (⟨cs.toArray⟩:Str).length≤sizeLine then some _ else none)=_
        rw [le,if_pos (by rw [sizeLine_eq];omega)]
      unfold fLen;simp only [this];rfl
    have nb:nameB (.str ⟨cs.toArray⟩)=((decide (1≤cs.length) && decide (cs.length≤8)) && cs.all fun c=>decide (97≤c∧c<123)):=rfl
    rw [nb]
    by_cases c1:1≤cs.length
    · have d1:(1:Int)≤(cs.length:Nat):=by omega
      by_cases c2:cs.length≤8
      · have d2:((cs.length:Nat):Int)≤8:=by omega
        rw [decide_eq_true c1,decide_eq_true c2,Bool.true_and,Bool.true_and]
        have hs:signs ⟨cs.toArray⟩=cs.map fun c => .str (oneS c):=by unfold signs;simp [oneS]
        have gm:∀ (d:D) (e:En),Tg.m (.nm 1) d e=some (e.set 1 (some d)):=fun _ _=>rfl
        apply aAh
        rw [aBn,aAi,aDM]
        wp_walk using ht,Option.map_some,hl,d1,d2,hs
        refine lc_w (fun i acc S'=>S'=S∧i≤cs.length∧acc=(cs.take i).map fun c=>D.bl (decide (97≤c∧c<123))) ⟨rfl,Nat.zero_le _,rfl⟩ ?_ ?_
        · rintro i d acc S' hd ⟨rfl,hi,rfl⟩
          rw [List.getElem?_map] at hd
          obtain ⟨c,hd2,rfl⟩:=Option.map_eq_some_iff.mp hd
          have hlt:=(List.getElem?_eq_some_iff.mp hd2).1
          wp_walk using gm,aVa,List.length_map
          exact ⟨by rw [List.length_take];omega,hlt,by rw [List.take_add_one,hd2,List.map_append];rfl⟩
        · rintro acc S' ⟨rfl,hi,rfl⟩
          rw [List.length_map,List.take_length]
          have ha:fAll S' [.lst (cs.map fun c=>D.bl (decide (97≤c∧c<123)))]=some (.bl (cs.all fun c=>decide (97≤c∧c<123))):=by
            show ((bools (cs.map fun c=>D.bl (decide (97≤c∧c<123)))).map fun bs=>D.bl (bs.all id))=_
            rw [aIU]
            simp [List.all_map]
          wp_walk using ha
      · have d2:¬ ((cs.length:Nat):Int)≤8:=by omega
        rw [decide_eq_false c2,Bool.and_false,Bool.false_and]
        apply aAh
        rw [aBn,aAi,aDM]
        wp_walk using ht,Option.map_some,hl,d1,d2
    · have d1:¬ (1:Int)≤(cs.length:Nat):=by omega
      rw [decide_eq_false c1,Bool.false_and,Bool.false_and]
      apply aAh
      rw [aBn,aAi,aDM]
      wp_walk using ht,Option.map_some,hl,d1
  | _=>first | rfl | (cases hs)
end
end Wk33
namespace Wk33
open PySem G C
def So.B:So→D→Bool
  | .nm=>nameB | .le=>leastB | .mo=>mostB | .we=>wiB 99 | .si=>wiB 999 | .wa=>wayB
def fsQ (N:Nat):List (Str×Nat×FM):=[("name",1,C.aBn N),("least",1,aB0 N),("most",1,C.aC6 N),("weight",1,C.aAC N),("size",1,C.aCU N),("way",1,C.aDd N)]
theorem aES {N:Nat}{z:Str}{f:FM}(h:(fsQ N).lookup z=some (1,f)) {d r:D}{S:Store}(e:f [d] S = .ok r S):aC7 N [.str z,d] S = .ok r S:=by
  apply aAh
  have e2:List.lookup z [("name",1,C.aBn N),("least",1,aB0 N),("most",1,C.aC6 N),("weight",1,C.aAC N),("size",1,C.aCU N),("way",1,C.aDd N)]=some (1,f):=h
  rw [aC7,aAi,aEM,ws_sTabCall]
  simp only [aDB,aCR,enOf,List.length_cons,List.length_nil,Nat.zero_add,Nat.reduceAdd,Nat.reduceSub,List.map_cons,List.map_nil,List.replicate_succ,List.replicate_zero,List.cons_append,List.nil_append,List.getElem?_cons_zero,aMR]
  rw [e2,aUz]
  wp_walk using e
  exact (by decide:2<3)
theorem aVd {N:Nat}(hN:big N) {d:D}(h:Th d) (z:So) (S:Store):aC7 N [.str z.s,d] S = .ok (.bl (z.B d)) S:=by
  cases z with
  | nm=>exact aES (f:=C.aBn N) rfl (aRj h S)
  | le=>exact aES (f:=aB0 N) rfl (aS5 hN h S)
  | mo=>exact aES (f:=C.aC6 N) rfl (aVc hN h S)
  | we=>exact aES (f:=C.aAC N) rfl (by
      have e:=aXn (N:=N) 99 h S
      apply aAh
      rw [aAC,aAi,aCZ]
      wp_walk using e
      rfl)
  | si=>exact aES (f:=C.aCU N) rfl (by
      have e:=aXn (N:=N) 999 h S
      apply aAh
      rw [aCU,aAi,aHM]
      wp_walk using e
      rfl)
  | wa=>exact aES (f:=C.aDd N) rfl (aXo h S)
def soT:List (Str×List So):=[("join",[.nm, .le, .mo, .we]),("ask",[.nm, .si]),("leave",[.nm]),("least",[.nm, .le]),("most",[.nm, .mo]),("weight",[.nm, .we]),("serve",[.nm, .si, .wa]),("now",[])]
theorem aTh {α β:Type}(f:α→β) (w:Str):∀ l:List (Str×α),(l.map fun p=>(p.1,f p.2)).lookup w=(l.lookup w).map f
  | []=>rfl
  | (k,a)::l=>by
    rw [List.map_cons,List.lookup_cons,List.lookup_cons]
    cases (w == k) with
    | true=>rfl
    | false=>exact aTh f w l
theorem aOo (w:Str):C.aBM.lookup w=(soT.lookup w).map fun l => .tup (l.map fun z => .str z.s):=by
  rw [← aTh]
  rfl
def lessB (t t':D):Bool:=match t,t' with
  | .tup [.int a, .int b], .tup [.int c, .int e]=>decide (a*e<c*b)
  | _,_=>false
def ahB (t:D):D→Bool
  | .tup (.str w::t'::_) => !(decide (w="now")) && !(lessB t t')
  | _=>true
def rowB (d a:D):Bool:=match d with
  | .tup (.str w::t::ps)=>match soT.lookup w with
    | some ss=>timeB t && (decide (ps.length=ss.length) && (ahB t a && (List.zipWith So.B ss ps).all id))
    | none=>false
  | _=>false
inductive AhOk:D→Prop
  | non:AhOk .non
  | row (w:Str) (q:Rat) (r:List D):Bt q 250→AhOk (.tup (.str w::rD q::r))
theorem aRk (p q:Rat):lessB (rD p) (rD q)=decide (p<q):=by
  show decide (p.num*(q.den:Int)<q.num*(p.den:Int))=_
  congr 1
  rw [Rat.lt_iff]
theorem aIV {α:Type}(f:α→Bool):∀ a:List α,bools (a.map fun c=>D.bl (f c))=some (a.map f)
  | []=>rfl
  | c::a=>by
    show (bools (a.map fun c=>D.bl (f c))).map _=_
    rw [aIV f a];rfl
theorem aET (S:Store) (l:List Bool):fAll S [.lst (l.map fun b=>D.bl b)]=some (.bl (l.all id)):=by
  show ((bools (l.map fun b=>D.bl b)).map fun bs=>D.bl (bs.all id))=_
  rw [aIV (fun b=>b)]
  simp
theorem aIf {N:Nat}(hN:big N) {S:Store}{d a:D}(h:RowTh d) (ha:AhOk a):aC8 N [d,a] S = .ok (.bl (rowB d a)) S:=by
  have hs:=h.sh
  match d,h with
  | .non,_=>rfl
  | .bl _,_=>rfl
  | .int _,_=>rfl
  | .str _,_=>rfl
  | .lst _,_=>rfl
  | .dic _ _,_=>rfl
  | .tup [],_=>rfl
  | .tup [x],_=>
    have hb:rowB (.tup [x]) a=false:=by unfold rowB;split<;>first | rfl | (rename_i e;cases e)
    rw [hb];rfl
  | .tup (x::t::ps),h=>
    have hx:=h.hd x _ rfl
    have i0:∀ S,ixD S (.tup (x::t::ps)) (.int 0)=some x:=fun _=>by rw [aBQ];exact L2.atI_nat (j:=0) rfl
    have l2:∀ n:Nat,dLt (.int ((n+1+1:Nat):Int)) (.int 2)=some (.bl false):=fun n=>by rw [dLt,aG5,decide_eq_false (by omega)]
    by_cases hw:∃ w,x = .str w
    · obtain ⟨w,rfl⟩:=hw
      have ty:∀ S,isTy S .str (.str w)=some true:=fun _=>rfl
      have pl:=aOo w
      cases hl:soT.lookup w with
      | none=>
        rw [hl] at pl
        have hb:rowB (.tup (.str w::t::ps)) a=false:=by unfold rowB;dsimp only;rw [hl]
        rw [hb]
        apply aAh
        rw [aC8,aAi,aEv]
        wp_walk using zstop,G.aBh
        rw [ws_sIf]
        wp_walk using i0,ty,pl,l2,Option.map_none,Option.isSome_none
      | some ss=>
        rw [hl] at pl
        have pl':C.aBM.lookup w=some (.tup (ss.map fun z => .str z.s)):=pl
        have ht:=h.th w _ rfl t List.mem_cons_self
        have hp:∀ x,x∈ps→Th x:=fun x hx=>h.th w _ rfl x (List.mem_cons_of_mem _ hx)
        have hlen:=h.le _ rfl
        rw [List.length_cons,List.length_cons] at hlen
        have tm:=fun S=>aRh hN ht S
        have hb:rowB (.tup (.str w::t::ps)) a=(timeB t && (decide (ps.length=ss.length) && (ahB t a && (List.zipWith So.B ss ps).all id))):=by unfold rowB;dsimp only;rw [hl]
        rw [hb]
        apply aAh
        rw [aC8,aAi,aEv]
        wp_walk using zstop,G.aBh
        rw [ws_sIf]
        wp_walk using zstop,i0,ty,pl',l2,Option.isSome_some
        rw [ws_sIf]
        cases et:timeB t with
        | false=>
          have tm1:∀ S,aBE N [t] S = .ok (.bl false) S:=fun S=>by rw [tm S,et]
          wp_walk using tm1
          rfl
        | true=>
          have tm1:∀ S,aBE N [t] S = .ok (.bl true) S:=fun S=>by rw [tm S,et]
          obtain ⟨q,rfl,bq⟩:=aER ht (by unfold timeB at et;rw [Bool.and_eq_true] at et;exact et.1)
          by_cases el:ps.length=ss.length
          · have ne:dNe (.int (ps.length:Int)) (.int (ss.length:Int))=some (.bl false):=by rw [aCY,el];simp
            rw [decide_eq_true el,Bool.true_and,Bool.true_and]
            wp_walk using zstop,tm1,List.length_map,ne
            have rest:Ws (sRet (eCa fAll (aCons (eLc (iZipM (aCons (eVar 5) (aCons (eVar 4) aNil))) (.tp [6,7]) tTrue (eCall (aC7 N) (nA 2 (aCons (eVar 6) (aCons (eVar 7) aNil)))) [6,7]) aNil)) [some (.tup (.str w::rD q::ps)),some a,some (.str w),some (rD q),some (.lst ps),some (.tup (ss.map fun z => .str z.s)),none,none] S) (KS.fn (eqQ (.bl ((List.zipWith So.B ss ps).all id)) S) nX):=by
              wp_walk using zstop,aQq
              refine lc_w (fun j acc S'=>S'=S∧j≤ss.length∧acc=((List.zipWith So.B ss ps).take j).map fun b=>D.bl b) ⟨rfl,Nat.zero_le _,rfl⟩ ?_ ?_
              · rintro j d acc S' hd ⟨rfl,hj,rfl⟩
                unfold zipD at hd
                rw [List.getElem?_zipWith,List.getElem?_map] at hd
                cases h1:ss[j]? with
                | none=>rw [h1] at hd;cases hd
                | some z=>
                  cases h2:ps[j]? with
                  | none=>rw [h1,h2] at hd;cases hd
                  | some y=>
                    rw [h1,h2] at hd
                    cases hd
                    have hlt:j<ss.length:=(List.getElem?_eq_some_iff.mp h1).1
                    have sz:(((List.zipWith So.B ss ps).take j).map fun b=>D.bl b).length<sizeLine:=by rw [sizeLine_eq,List.length_map,List.length_take];omega
                    have tm:∀ e:En,Tg.m (.tp [6,7]) (D.tup [.str z.s,y]) e=some ((e.set 6 (some (.str z.s))).set 7 (some y)):=fun _=>rfl
                    have pt:=aVd hN (hp y (List.mem_of_getElem? h2)) z
                    wp_walk using tm,pt
                    refine ⟨sz,hlt,?_⟩
                    rw [List.take_add_one,List.getElem?_zipWith,h1,h2,List.map_append]
                    rfl
              · rintro acc S' ⟨rfl,hj,rfl⟩
                have fa:fAll S' [.lst (((List.zipWith So.B ss ps).take (zipD (ss.map fun z=>D.str z.s) ps).length).map fun b=>D.bl b)]=some (.bl ((List.zipWith So.B ss ps).all id)):=by
                  rw [List.take_of_length_le (by unfold zipD;simp),aET]
                wp_walk using fa
            rw [ws_sIf]
            cases ha with
            | non=>
              have e1:dIsNot .non .non=some (.bl false):=rfl
              have a1:ahB (rD q) .non=true:=rfl
              rw [a1,Bool.true_and]
              wp_walk using zstop,e1
              wp_walk using zust,rest,G.aBh
            | row w' q' r bq'=>
              have e1:dIsNot (.tup (.str w'::rD q'::r)) .non=some (.bl true):=rfl
              have j0:∀ S,ixD S (.tup (.str w'::rD q'::r)) (.int 0)=some (.str w'):=fun _=>by rw [aBQ];exact L2.atI_nat (j:=0) rfl
              have j1:∀ S,ixD S (.tup (.str w'::rD q'::r)) (.int 1)=some (rD q'):=fun _=>by rw [aBQ];exact L2.atI_nat (j:=1) rfl
              have bf:=aQ_ (N:=N) (S:=S) hN bq bq' (by omega)
              have a1:ahB (rD q) (.tup (.str w'::rD q'::r))=(!(decide (w'="now")) && !(lessB (rD q) (rD q'))):=rfl
              have dn:=aE5 w' "now"
              rw [a1,aRk]
              by_cases c1:w'="now"
              · rw [decide_eq_true c1] at dn
                rw [decide_eq_true c1]
                wp_walk using e1,j0,dn
                rfl
              · rw [decide_eq_false c1] at dn
                rw [decide_eq_false c1]
                by_cases c2:q<q'
                · rw [decide_eq_true c2] at bf
                  rw [decide_eq_true c2]
                  wp_walk using e1,j0,j1,dn,bf
                  rfl
                · rw [decide_eq_false c2] at bf
                  rw [decide_eq_false c2,Bool.not_false,Bool.true_and,Bool.true_and]
                  wp_walk using zstop,e1,j0,j1,dn,bf
                  wp_walk using zust,rest,G.aBh
          · have ne:dNe (.int (ps.length:Int)) (.int (ss.length:Int))=some (.bl true):=by rw [aCY,decide_eq_false (by omega)];rfl
            rw [decide_eq_false el,Bool.false_and,Bool.and_false]
            wp_walk using tm1,List.length_map,ne
    · have ty:∀ S,isTy S .str x=some false:=fun S=>by
        rw [aVb hx]
        cases x<;>first | rfl | exact absurd ⟨_,rfl⟩ hw | (cases hx)
      have hb:rowB (.tup (x::t::ps)) a=false:=by
        unfold rowB
        split
        · rename_i w t' ps' e
          injection e with e
          injection e with e _
          exact absurd ⟨w,e⟩ hw
        · rfl
      rw [hb]
      apply aAh
      rw [aC8,aAi,aEv]
      wp_walk using zstop,G.aBh
      rw [ws_sIf]
      wp_walk using i0,ty,l2
  | .scr _,_=>cases hs
  | .loc _,_=>cases hs
  | .exc _ _,_=>cases hs
  | .ins _ _,_=>cases hs
  | .fa _,_=>cases hs
  | .pin _ _,_=>cases hs
end Wk33
namespace Wk33
open PySem G C
def nowB:D→Bool
  | .tup (.str w::_)=>decide (w="now")
  | _=>false
def oddB (i:Nat) (a:D):List D→D
  | []=>if nowB a=true then .non else .int i
  | d::l=>if rowB d a=true then oddB (i+1) d l else .int i
theorem aOp {d a:D}(h:RowTh d) (e:rowB d a=true):∃ w q ps ss,d = .tup (.str w::rD q::ps)∧Bt q 250∧0≤q.num∧soT.lookup w=some ss∧ps.length=ss.length∧(List.zipWith So.B ss ps).all id=true:=by
  unfold rowB at e
  split at e
  · rename_i w t ps
    split at e
    · rename_i ss hl
      rw [Bool.and_eq_true,Bool.and_eq_true,Bool.and_eq_true,decide_eq_true_eq] at e
      obtain ⟨e1,e2,e3,e4⟩:=e
      obtain ⟨q,rfl,bq⟩:=aER (h.th w _ rfl t List.mem_cons_self) (by unfold timeB at e1;rw [Bool.and_eq_true] at e1;exact e1.1)
      rw [aNv,decide_eq_true_eq] at e1
      exact ⟨w,q,ps,ss,rfl,bq,e1,hl,e2,e4⟩
    · cases e
  · cases e
theorem aOq {d a:D}(h:RowTh d) (e:rowB d a=true):AhOk d:=by
  obtain ⟨w,q,ps,ss,rfl,bq,_⟩:=aOp h e
  exact .row w q ps bq
theorem aXp {a:D}(ha:AhOk a) (hn:a ≠ .non) (S:Store):dIs a .non=some (.bl false)∧∃ w,ixD S a (.int 0)=some (.str w)∧dNe (.str w) (.str "now")=some (.bl (!nowB a)):=by
  cases ha with
  | non=>exact absurd rfl hn
  | row w q r bq=>
    refine ⟨rfl,w,by rw [aBQ];exact L2.atI_nat (j:=0) rfl,?_⟩
    rw [aGy];rfl
theorem aL8 {N:Nat}(hN:big N) {S:Store}{l:List D}(h:∀ d,d∈l→RowTh d):aCl N [.tup l] S = .ok (oddB 0 .non l) S:=by
  apply aAh
  rw [aCl,aAi,aDu]
  have ty:∀ S l,isTy S .tuple (.tup l)=some true:=fun _ _=>rfl
  wp_walk using zstop,G.aBh
  rw [ws_sIf]
  wp_walk using zstop,ty
  refine aSy (fun i e S'=>S'=S∧i≤l.length∧∃ a x2 x3,AhOk a∧(a = .non→i=0)∧oddB 0 .non l=oddB i a (l.drop i)∧e = [some (.tup l),some a,x2,x3]) ⟨rfl,Nat.zero_le _,_,_,_, .non,fun _=>rfl,rfl,rfl⟩ ?_ ?_
  · rintro i d e S' hd ⟨rfl,hi,a,x2,x3,ha,hz,ho,rfl⟩
    have hlt:i<l.length:=by
      have:=(List.getElem?_eq_some_iff.mp hd).1
      rwa [aCS] at this
    have hg:l[i]? = some l[i]:=List.getElem?_eq_getElem hlt
    rw [aFK hg] at hd
    cases hd
    have hr:=h _ (List.mem_of_getElem? hg)
    have ir:=aIf (N:=N) (S:=S') hN hr ha
    rw [List.drop_eq_getElem_cons hlt] at ho
    cases er:rowB l[i] a with
    | true=>
      rw [er] at ir
      have ho2:oddB 0 .non l=oddB (i+1) l[i] (l.drop (i+1)):=by rw [ho];show (if rowB l[i] a=true then _ else _)=_;rw [if_pos er]
      wp_walk using ir
      exact ⟨hlt,_,_,_,aOq hr er,(fun z=>by obtain ⟨w,q,ps,ss,e,_⟩:=aOp hr er;rw [z] at e;cases e),ho2,rfl⟩
    | false=>
      rw [er] at ir
      have ho2:oddB 0 .non l = .int (i:Nat):=by rw [ho];show (if rowB l[i] a=true then _ else _)=_;rw [if_neg (by rw [er];simp)]
      rw [ho2]
      wp_walk using ir
  · rintro e S' ⟨rfl,_,a,x2,x3,ha,hz,ho,rfl⟩
    rw [aCS] at ho hz
    rw [List.drop_length] at ho
    rw [ho]
    by_cases hn:a = .non
    · subst hn
      have d1:dIs .non .non=some (.bl true):=rfl
      wp_walk using d1
      rfl
    · obtain ⟨d1,w,d2,d3⟩:=aXp ha hn S'
      cases en:nowB a with
      | true=>
        rw [en] at d3
        have e:oddB l.length a [] = .non:=by show (if nowB a=true then _ else _)=_;rw [if_pos en]
        rw [e]
        wp_walk using d1,d2,d3
      | false=>
        rw [en] at d3
        have e:oddB l.length a [] = .int l.length:=by show (if nowB a=true then _ else _)=_;rw [if_neg (by rw [en];simp)]
        rw [e]
        wp_walk using d1,d2,d3
end Wk33
namespace Wk33
open PySem G C
theorem aNw {α:Type}(w:Str):∀ l:List (Str×α),w∉l.map (·.1)→l.lookup w=none
  | [],_=>rfl
  | (k,a)::l,h=>by
    rw [List.map_cons,List.mem_cons] at h
    rw [List.lookup_cons,beq_eq_false_iff_ne.mpr fun z=>h (.inl z)]
    exact aNw w l fun z=>h (.inr z)
theorem aJH {w:Str}{ss:List So}(h:soT.lookup w=some ss):ss.length≤4:=by
  by_cases hm:w∈soT.map (·.1)
  · unfold soT at hm
    simp only [List.map_cons,List.map_nil,List.mem_cons,List.not_mem_nil,or_false] at hm
    rcases hm with rfl | rfl | rfl | rfl | rfl | rfl | rfl | rfl<;>(cases h;decide)
  · rw [aNw w soT hm] at h;cases h
theorem aYD (q:Rat):Pl 1 (rD q):=.tup fun d hd=>by
  rcases List.mem_cons.mp hd with rfl | hd
  · exact .int _ _
  · rw [List.mem_singleton.mp hd];exact .int _ _
theorem aJI {p:D}{pp:PyData}(h:p.toP=some pp) (c:pp.canLay0=true) (dd:pp.depth≤60):Th (.lst [p]):=by
  refine ⟨rfl,fun _ _ e=>(by cases e),fun _ _ e=>(by cases e),⟨false,?_⟩,fun _ e=>by cases e⟩
  show (eqP (.lst [p]) (.tup [.int 0, .int 1])).map D.bl=_
  have e1:(D.lst [p]).toP=some (.list [pp]):=by
    rw [D.toP,toPs,h];rfl
  have e2:(D.tup [.int 0, .int 1]).toP=some (.tuple [.int 0, .int 1]):=rfl
  unfold eqP
  rw [e1,e2]
  dsimp only
  have s1:SeqAt.shaped (.list [pp])=true:=by
    have d1:(PyData.list [pp]).depth≤64:=by
      show PyData.depthAll [pp]+1≤64
      show max pp.depth 0+1≤64
      omega
    have c1:(PyData.list [pp]).canLay0=true:=by
      show (pp.canLay0 && true)=true
      rw [c];rfl
    unfold SeqAt.shaped
    rw [c1,decide_eq_true d1];rfl
  have s2:SeqAt.shaped (.tuple [.int 0, .int 1])=true:=by decide
  rw [s1,s2]
  rfl
theorem aXq {x:Str}(hc:(PyData.str x).canLay0=true) (hl:x.length≤1000):Th (.str x):=
  ⟨rfl,fun _ _ e=>(by cases e),fun _ _ e=>(by cases e),⟨false,aTf 0 hc⟩,fun y e=>by cases e;exact hl⟩
theorem aEP {x:Str}(hc:(PyData.str x).canLay0=true) (hl:x.length≤1000):GP (.str x):=
  ⟨.str _ hc,aXq hc hl,aJI (pp:=.str x) rfl hc (by simp [PyData.depth]),fun _ e=>(by cases e),fun _ e=>by cases e⟩
theorem aOr (i:Int):GP (.int i):=
  ⟨.int _ _,⟨rfl,fun _ _ e=>(by cases e),fun _ _ e=>(by cases e),⟨false,rfl⟩,fun _ e=>by cases e⟩,aJI (pp:=.int i) rfl rfl (by simp [PyData.depth]),fun _ e=>(by cases e),fun _ e=>by cases e⟩
theorem aXr:GP .non:=
  ⟨.non _,⟨rfl,fun _ _ e=>(by cases e),fun _ _ e=>(by cases e),⟨false,rfl⟩,fun _ e=>by cases e⟩,aJI (pp:=.none) rfl rfl (by simp [PyData.depth]),fun _ e=>(by cases e),fun _ e=>by cases e⟩
theorem aYE {q:Rat}(h:Bt q 250):Th (rD q):=by
  refine ⟨rfl,fun x y e => ?_,fun a b e => ?_,⟨_,aEI q 0⟩,fun _ e=>by cases e⟩
  · unfold rD at e
    cases e
    exact ⟨rfl,rfl⟩
  · unfold rD at e
    cases e
    exact ⟨h.1,by simpa using h.2⟩
theorem aVe {p q:Rat}(e:rD p=rD q):p=q:=by
  unfold rD at e
  injection e with e
  injection e with e1 e2
  injection e2 with e2 _
  injection e1 with e1
  injection e2 with e2
  exact Rat.ext e1 (by exact_mod_cast e2)
theorem aRl {q:Rat}(h:Bt q 100):GP (rD q):=
  ⟨aYD q,aYE (h.mono (by omega)),aJI (pp:=.tuple [.int q.num, .int q.den]) rfl rfl (by simp [PyData.depth,PyData.depthAll]),fun q' e=>aVe e ▸ h,fun l e=>by unfold rD at e;cases e;simp⟩
theorem aYF {o:Option Rat}(h:∀ q,o=some q→Bt q 100):GP (oD o):=by
  cases o with
  | none=>exact aXr
  | some q=>exact aRl (h q rfl)
structure RowsOk (rows:List D) (now:Rat):Prop where
  g:∀ d,d∈rows→RowG d
  a:∃ a,(∀ l,oddB 0 .non (rows++l)=oddB rows.length a l)∧(a = .non∨∃ w q r,a = .tup (.str w::rD q::r)∧w≠"now"∧q≤now)
theorem aPj (now:Rat):RowsOk [] now:=⟨fun _ h=>(by cases h), .non,fun _=>rfl, .inl rfl⟩
theorem aOs {w:Str}{t now:Rat}{ps:List D}{ss:List So}{a:D}(ha:a = .non∨∃ w q r,a = .tup (.str w::rD q::r)∧w≠"now"∧q≤now) (lt:now≤t) (t0:0≤t) (hs:soT.lookup w=some ss) (hl:ps.length=ss.length) (hz:(List.zipWith So.B ss ps).all id=true) :
    rowB (.tup (.str w::rD t::ps)) a=true:=by
  unfold rowB
  dsimp only
  rw [hs]
  dsimp only
  rw [aNv,decide_eq_true (Rat.num_nonneg.mpr t0),decide_eq_true hl,hz,Bool.and_true,Bool.true_and,Bool.true_and]
  rcases ha with rfl | ⟨w',q,r,rfl,hw,hq⟩
  · rfl
  · show (!(decide (w'="now")) && !(lessB (rD t) (rD q)))=true
    rw [aRk,decide_eq_false hw,decide_eq_false (by grind)]
    rfl
theorem aRm {rows:List D}{now t:Rat}(h:RowsOk rows now) (lt:now≤t) (t0:0≤t) (bt:Bt t 100) {w:Str}{ps:List D}{ss:List So}(hs:soT.lookup w=some ss) (hw:w≠"now") (gw:GP (.str w)) (hl:ps.length=ss.length) (hz:(List.zipWith So.B ss ps).all id=true) (hp:∀ p,p∈ps→GP p) :
    RowsOk (rows++[.tup (.str w::rD t::ps)]) t:=by
  obtain ⟨hg,a,ho,ha⟩:=h
  have h4:=aJH hs
  refine ⟨fun d hd => ?_, .tup (.str w::rD t::ps),fun l => ?_, .inr ⟨w,t,ps,rfl,hw,Rat.le_refl⟩⟩
  · rcases List.mem_append.mp hd with hd | hd
    · exact hg d hd
    · rw [List.mem_singleton] at hd
      subst hd
      refine ⟨w,_,rfl,by rw [List.length_cons];omega,by rw [List.length_cons];omega,gw,fun p hp' => ?_⟩
      rcases List.mem_cons.mp hp' with rfl | hp'
      · exact aRl bt
      · exact hp p hp'
  · rw [List.append_assoc,ho,List.length_append]
    show oddB rows.length a (.tup (.str w::rD t::ps)::l)=_
    rw [oddB,if_pos (aOs ha lt t0 hs hl hz)]
    rfl
theorem aS6 {rows:List D}{now t:Rat}(h:RowsOk rows now) (lt:now≤t) (t0:0≤t):oddB 0 .non (rows++[.tup [.str "now",rD t]]) = .non:=by
  obtain ⟨hg,a,ho,ha⟩:=h
  rw [ho]
  rw [oddB,if_pos (aOs (w:="now") (ps:=[]) (ss:=[]) ha lt t0 rfl rfl rfl)]
  rfl
end Wk33
namespace Wk33
open PySem G C
theorem aGc (S:Store) (i j:Int):dAddE S (.int i) (.int j)=some (.int (i+j)):=rfl
theorem aVf {N:Nat}(hN:big N) {S:Store}{n:Nat}{Q X:QP D}(P:Pool S n)
    (h:∀ rows now t S',RowsOk rows now→now≤t→0≤t→Bt t 100→rows.length≤13→Pool S' n→Q (.tup (rows++[.tup [.str "now",rD t]])) S'):Wr (aBF N [.loc n] S) Q X:=by
  have ee:dPow (.int 10) (.int 9)=some (.int 1000000000):=rfl
  have mm:dMul (.int 2) (.int 1000000000)=some (.int 2000000000):=rfl
  rw [aBF,aAi,aC_]
  wp_walk using zstop,G.aBh
  have P0:=P.app [.lst []]
  have g0:(S++[Cell.lst []])[S.length]? = some (.lst []):=by simp
  have hr:S.length≠n:=by have:=P.lt;omega
  generalize S++[Cell.lst []]=S0 at *
  generalize S.length=r at *
  refine aCD N P0 (by omega) (by omega) fun w S1 w0 w1 P1 F1 => ?_
  have g1:=F1.get g0 hr
  wp_walk using zstop,G.aBh
  refine ⟨by omega,?_⟩
  refine aSy (fun i e S'=>∃ rows now x3 x4 x5 x6 x7 x8,RowsOk rows now∧0≤now∧Bt now (7*i+1)∧rows.length=i∧i≤13∧Pool S' n∧S'[r]? = some (.lst rows)∧e = [some (.loc n),some (.loc r),some (rD now),x3,x4,x5,x6,x7,x8]) ⟨[],0,_,_,_,_,_,_,aPj 0,by decide,⟨by decide,by decide⟩,rfl,by omega,P1,g1,rfl⟩ ?_ ?_
  · rintro i d e S2 hd ⟨rows,now,x3,x4,x5,x6,x7,x8,hk,n0,bn,hl,hi,P2,g2,rfl⟩
    obtain ⟨rfl,hiw⟩:=aGa hd
    wp_walk using zstop,G.aBh
    refine aOm hN P2 bn (by omega) n0 fun t S3 bt lt P3 F3 => ?_
    have g3:=F3.get g2 hr
    wp_walk using zstop,G.aBh
    refine aCD N P3 (by omega) (by omega) fun a S4 a0 a1 P4 F4 => ?_
    have g4:=F4.get g3 hr
    wp_walk using zstop,G.aBh
    refine aPi a0 (by simpa using a1) fun wd hwd => ?_
    wp_walk using zstop,G.aBh
    refine aXl P4 fun nm S5 hnm P5 F5 => ?_
    have g5:=F5.get g4 hr
    wp_walk using zstop,G.aBh
    refine aRe hN P5 fun q S6 bq q0 q1 P6 F6 => ?_
    have g6:=F6.get g5 hr
    wp_walk using zstop,ee
    refine aCD N P6 (by omega) (by omega) fun b S7 b0 b1 P7 F7 => ?_
    have g7:=F7.get g6 hr
    wp_walk using zstop,aGc,ee,mm
    refine aCD N P7 (by omega) (by omega) fun c S8 c0 c1 P8 F8 => ?_
    have g8:=F8.get g7 hr
    wp_walk using zstop,G.aBh
    refine aPi c0 (by simpa using c1) fun rt hrt => ?_
    obtain ⟨u,v,rfl,v0,v1,u0,uv⟩:∃ u v:Int,rt = .tup [.int u, .int v]∧0<v∧v<2147483648∧0≤u∧u≤v:=by
      simp only [List.mem_cons,List.not_mem_nil,or_false] at hrt
      rcases hrt with rfl | rfl | rfl | rfl
      · exact ⟨_,_,rfl,by omega,by omega,by omega,by omega⟩
      · exact ⟨_,_,rfl,by omega,by omega,by omega,by omega⟩
      · refine ⟨_,_,rfl,by have:=q.den_pos;omega,?_,?_,?_⟩
        · have:=bq.2
          omega
        · exact Int.le_of_lt (by have:(0:Rat)<q:=q0;rw [Rat.lt_iff] at this;simpa using this)
        · rw [Rat.le_iff] at q1;simpa using q1
      · exact ⟨_,_,rfl,by omega,by omega,by omega,by omega⟩
    have ru:=fun S=>r_ok (N:=N) (S:=S) (t:=u) (b:=v) hN (n:=31) (by omega) (by omega) (by omega) (by omega)
    have bl:Bt (Rat.divInt u v) 33:=aH7 (m:=0) (by omega) (by omega) (by omega)
    have l01:0≤Rat.divInt u v∧Rat.divInt u v≤1:=by
      by_cases z:u=0
      · subst z
        rw [Rat.zero_divInt];exact ⟨Rat.le_refl,by decide⟩
      · have:=aOh (p:=u) (b:=v) (by omega) uv
        exact ⟨Rat.le_of_lt this.1,this.2⟩
    have i0:∀ S,ixD S (.tup [.int u, .int v]) (.int 0)=some (.int u):=fun _=>rfl
    have i1:∀ S,ixD S (.tup [.int u, .int v]) (.int 1)=some (.int v):=fun _=>rfl
    wp_walk using zstop,i0,i1,ru
    generalize Rat.divInt u v=l at *
    refine aRe hN P8 fun q' S9 bq' q0' q1' P9 F9 => ?_
    have g9:=F9.get g8 hr
    wp_walk using zstop,G.aBh
    refine aCD N P9 (by omega) (by omega) fun d S10 d0 d1 P10 F10 => ?_
    have g10:=F10.get g9 hr
    wp_walk using zstop,G.aBh
    refine aPi d0 (by simpa using d1) fun om hom => ?_
    obtain ⟨o,rfl,ho⟩:∃ o:Option Rat,om=oD o∧∀ q,o=some q→Bt q 5∧0<q∧q≤1:=by
      simp only [List.mem_cons,List.not_mem_nil,or_false] at hom
      rcases hom with rfl | rfl | rfl
      · exact ⟨none,rfl,fun _ z=>by cases z⟩
      · exact ⟨some 1,rfl,fun _ z=>by cases z;exact ⟨⟨by decide,by decide⟩,by decide,by decide⟩⟩
      · exact ⟨some q',rfl,fun _ z=>by cases z;exact ⟨bq',q0',q1'⟩⟩
    wp_walk using zstop,G.aBh
    refine aCD N P10 (by omega) (by omega) fun h1 S11 h0 h9 P11 F11 => ?_
    have g11:=F11.get g10 hr
    wp_walk using zstop,aGc
    refine aCD N P11 (by omega) (by omega) fun z1 S12 z0 z9 P12 F12 => ?_
    have g12:=F12.get g11 hr
    wp_walk using zstop,aGc
    have hp:S12.length≠n:=by have:=P12.lt;omega
    have hpr:S12.length≠r:=fun z=>by
      have:=(List.getElem?_eq_some_iff.mp g12).1
      omega
    generalize hK3:(strK ["join","ask","leave"]).zip [D.tup [rD l,oD o, .int (1+h1)], .tup [.int (1+z1)], .tup []]=K3
    have P13:=P12.app [.dk K3]
    have g13:(S12++[Cell.dk K3])[r]? = some (.lst rows):=(Fr.app (n:=n) [.dk K3]).get g12 hr
    have k13:(S12++[Cell.dk K3])[S12.length]? = some (.dk K3):=by simp
    generalize S12++[Cell.dk K3]=S13 at *
    generalize S12.length=p at *
    refine ⟨by rw [aRc k13];rfl,?_⟩
    refine aCD N P13 (by omega) (by omega) fun h2 S14 h20 h29 P14 F14 => ?_
    have g14:=F14.get g13 hr
    have k14:=F14.get k13 hp
    wp_walk using zstop,aGc
    generalize hK4:(strK ["least","most","weight"]).zip [D.tup [rD l], .tup [oD o], .tup [.int (1+h2)]]=K4
    have P15:=P14.app [.dk K4]
    have g15:(S14++[Cell.dk K4])[r]? = some (.lst rows):=(Fr.app (n:=n) [.dk K4]).get g14 hr
    have k15:(S14++[Cell.dk K4])[p]? = some (.dk K3):=(Fr.app (n:=n) [.dk K4]).get k14 hp
    have z15:(S14++[Cell.dk K4])[S14.length]? = some (.dk K4):=by simp
    have hpz:p≠S14.length:=fun z=>by
      have:=(List.getElem?_eq_some_iff.mp k14).1
      omega
    generalize S14++[Cell.dk K4]=S15 at *
    generalize S14.length=z at *
    rw [uK_s k15 z15 hpz (by subst hK3 hK4;exact (by decide:3+3≤1000))]
    have P16:=P15.set (.dk (mergeKD K3 K4)) hp
    have g16:(S15.set p (.dk (mergeKD K3 K4)))[r]? = some (.lst rows):=by rw [List.getElem?_set_ne hpr];exact g15
    have k16:(S15.set p (.dk (mergeKD K3 K4)))[p]? = some (.dk (mergeKD K3 K4)):=by
      have:=(List.getElem?_eq_some_iff.mp k15).1
      simp [this]
    generalize S15.set p (.dk (mergeKD K3 K4))=S16 at *
    wp_walk using zstop,G.aBh
    refine aCD N P16 (by omega) (by omega) fun z2 S17 z20 z29 P17 F17 => ?_
    have g17:=F17.get g16 hr
    have k17:=F17.get k16 hp
    wp_walk using zstop,aGc
    refine aCD N P17 (by omega) (by omega) fun y S18 y0 y1 P18 F18 => ?_
    have g18:=F18.get g17 hr
    have k18:=F18.get k17 hp
    wp_walk using zstop,G.aBh
    refine aPi y0 (by simpa using y1) fun wy hwy => ?_
    obtain ⟨by_,rfl⟩:∃ b:Bool,wy = .str (wordOf b):=by
      simp only [List.mem_cons,List.not_mem_nil,or_false] at hwy
      rcases hwy with rfl | rfl
      · first | exact ⟨true,rfl⟩ | exact ⟨false,rfl⟩
      · first | exact ⟨true,rfl⟩ | exact ⟨false,rfl⟩
    have hKM:mergeKD K3 K4 = [(.inr "join",D.tup [rD l,oD o, .int (1+h1)]),(.inr "ask", .tup [.int (1+z1)]),(.inr "leave", .tup []),(.inr "least", .tup [rD l]),(.inr "most", .tup [oD o]),(.inr "weight", .tup [.int (1+h2)])]:=by
      subst hK3 hK4;rfl
    have st:=aXe (d:=D.tup [.int (1+z2), .str (wordOf by_)]) (y:=.str "serve") k18 (q:=.inr "serve") rfl (by rw [hKM,sizeLine_eq];simp)
    have hKS:putKD (mergeKD K3 K4) (.inr "serve") (.tup [.int (1+z2), .str (wordOf by_)]) = [(.inr "join",D.tup [rD l,oD o, .int (1+h1)]),(.inr "ask", .tup [.int (1+z1)]),(.inr "leave", .tup []),(.inr "least", .tup [rD l]),(.inr "most", .tup [oD o]),(.inr "weight", .tup [.int (1+h2)]),(.inr "serve", .tup [.int (1+z2), .str (wordOf by_)])]:=by
      rw [hKM];rfl
    rw [hKS] at st
    generalize hKL:[((.inr "join":L2.Key),D.tup [rD l,oD o, .int (1+h1)]),(.inr "ask", .tup [.int (1+z1)]),(.inr "leave", .tup []),(.inr "least", .tup [rD l]),(.inr "most", .tup [oD o]),(.inr "weight", .tup [.int (1+h2)]),(.inr "serve", .tup [.int (1+z2), .str (wordOf by_)])]=KL at st
    have P19:=P18.set (.dk KL) hp
    have g19:(S18.set p (.dk KL))[r]? = some (.lst rows):=by rw [List.getElem?_set_ne hpr];exact g18
    have k19:(S18.set p (.dk KL))[p]? = some (.dk KL):=by
      have:=(List.getElem?_eq_some_iff.mp k18).1
      simp [this]
    obtain ⟨w',ss,ps,rfl,hv,hso,hnw,gw,hpl,hz,hg⟩:∃ (w':Str) (ss:List So) (ps:List D),wd = .str w'∧valD KL (.inr w')=some (.tup ps)∧soT.lookup w'=some (.nm::ss)∧w'≠"now"∧GP (.str w')∧ps.length=ss.length∧(List.zipWith So.B ss ps).all id=true∧∀ p,p∈ps→GP p:=by
      have gl:=aRl (bl.mono (by omega:33≤100))
      have go:=aYF (o:=o) fun q e=>((ho q e).1).mono (by omega)
      have lb:leastB (rD l)=true:=by
        unfold leastB
        rw [aJG,z_rD,Bool.or_eq_true,decide_eq_true_eq,decide_eq_true_eq]
        by_cases c:l=0
        · exact .inr c
        · exact .inl ⟨by have:=l01.1;grind,l01.2⟩
      have ob:mostB (oD o)=true:=by
        cases o with
        | none=>rfl
        | some q=>
          show rateB (rD q)=true
          rw [aJG,decide_eq_true_eq]
          exact (ho q rfl).2
      have wb:∀ x:Int,0≤x→x<99→wiB 99 (.int (1+x))=true:=fun x a b=>by
        show (decide (1≤1+x) && decide (1+x≤99))=true
        rw [decide_eq_true (by omega),decide_eq_true (by omega)];rfl
      have sb:∀ x:Int,0≤x→x<999→wiB 999 (.int (1+x))=true:=fun x a b=>by
        show (decide (1≤1+x) && decide (1+x≤999))=true
        rw [decide_eq_true (by omega),decide_eq_true (by omega)];rfl
      have yb:wayB (.str (wordOf by_))=true:=by cases by_<;>rfl
      have gy:GP (.str (wordOf by_)):=by cases by_<;>exact aEP (by decide +kernel) (by decide +kernel)
      subst hKL
      simp only [List.mem_cons,List.not_mem_nil,or_false] at hwd
      rcases hwd with rfl | rfl | rfl | rfl | rfl | rfl | rfl
      · refine ⟨_,[.le, .mo, .we],_,rfl,rfl,rfl,by decide +kernel,aEP (by decide +kernel) (by decide +kernel),rfl,?_,?_⟩
        · show (leastB (rD l) && (mostB (oD o) && (wiB 99 (.int (1+h1)) && true)))=true
          rw [lb,ob,wb h1 h0 h9];rfl
        · intro p hp;simp only [List.mem_cons,List.not_mem_nil,or_false] at hp
          rcases hp with rfl | rfl | rfl
          · exact gl
          · exact go
          · exact aOr _
      · refine ⟨_,[.si],_,rfl,rfl,rfl,by decide +kernel,aEP (by decide +kernel) (by decide +kernel),rfl,?_,?_⟩
        · show (wiB 999 (.int (1+z1)) && true)=true
          rw [sb z1 z0 z9];rfl
        · intro p hp;simp only [List.mem_cons,List.not_mem_nil,or_false] at hp
          subst hp;exact aOr _
      · exact ⟨_,[],_,rfl,rfl,rfl,by decide +kernel,aEP (by decide +kernel) (by decide +kernel),rfl,rfl,fun _ z=>by cases z⟩
      · refine ⟨_,[.le],_,rfl,rfl,rfl,by decide +kernel,aEP (by decide +kernel) (by decide +kernel),rfl,?_,?_⟩
        · show (leastB (rD l) && true)=true
          rw [lb];rfl
        · intro p hp;simp only [List.mem_cons,List.not_mem_nil,or_false] at hp
          subst hp;exact gl
      · refine ⟨_,[.mo],_,rfl,rfl,rfl,by decide +kernel,aEP (by decide +kernel) (by decide +kernel),rfl,?_,?_⟩
        · show (mostB (oD o) && true)=true
          rw [ob];rfl
        · intro p hp;simp only [List.mem_cons,List.not_mem_nil,or_false] at hp
          subst hp;exact go
      · refine ⟨_,[.we],_,rfl,rfl,rfl,by decide +kernel,aEP (by decide +kernel) (by decide +kernel),rfl,?_,?_⟩
        · show (wiB 99 (.int (1+h2)) && true)=true
          rw [wb h2 h20 h29];rfl
        · intro p hp;simp only [List.mem_cons,List.not_mem_nil,or_false] at hp
          subst hp;exact aOr _
      · refine ⟨_,[.si, .wa],_,rfl,rfl,rfl,by decide +kernel,aEP (by decide +kernel) (by decide +kernel),rfl,?_,?_⟩
        · show (wiB 999 (.int (1+z2)) && (wayB (.str (wordOf by_)) && true))=true
          rw [sb z2 z20 z29,yb];rfl
        · intro p hp;simp only [List.mem_cons,List.not_mem_nil,or_false] at hp
          rcases hp with rfl | rfl
          · exact aOr _
          · exact gy
    have ix:=aXf (y:=.str w') k19 rfl hv
    have ad:∀ S,dAddE S (.tup [.str w',rD t, .str nm]) (.tup ps)=some (.tup (.str w'::rD t :: .str nm::ps)):=fun S=>aNt _ _ (by
      have:=aJH hso
      rw [List.length_cons] at this
      simp only [List.length_cons,List.length_nil];omega)
    have ap:=aOe (y:=D.tup (.str w'::rD t :: .str nm::ps)) g19 (by rw [sizeLine_eq];omega)
    wp_walk using zstop,st
    wp_walk using ix,ad,ap
    have P20:=P19.set (.lst (rows++[D.tup (.str w'::rD t :: .str nm::ps)])) hr
    have gn:GP (.str nm):=aEP hnm.2.2 (by have:=hnm.1;omega)
    have nb:nameB (.str nm)=true:=by
      have e:=aRj (N:=0) gn.th []
      rw [hnm.2.1 0 []] at e
      injection e with e _
      injection e with e
      exact e.symm
    have rk:=aRm hk lt (by grind) (bt.mono (by omega)) (ps:=.str nm::ps) hso hnw gw (by rw [List.length_cons,List.length_cons,hpl]) (by
      show (nameB (.str nm) && (List.zipWith So.B ss ps).all id)=true
      rw [nb,hz];rfl) fun p hp=>by
        rcases List.mem_cons.mp hp with rfl | hp
        · exact gn
        · exact hg p hp
    have isl:isLst (S18.set p (.dk KL)) (.loc r)=true:=by
      have:seqD (S18.set p (.dk KL)) (.loc r)=some rows:=by (show (match (S18.set p (.dk KL))[r]? with | some (.lst l)=>some l | _=>none)=some rows);rw [g19]
      unfold isLst
      rw [this];rfl
    have hlen:r<(S18.set p (.dk KL)).length:=(List.getElem?_eq_some_iff.mp g19).1
    exact ⟨isl,_,t,_,_,_,_,_,_,rk,by grind,bt.mono (by omega),by simp [hl],by omega,P20,List.getElem?_set_self hlen,rfl⟩
  · rintro e S2 ⟨rows,now,x3,x4,x5,x6,x7,x8,hk,n0,bn,hl,hi,P2,g2,rfl⟩
    have ft:fTuple S2 [.loc r]=some (.tup rows):=by
      show (seqD S2 (.loc r)).map D.tup=_
      have:seqD S2 (.loc r)=some rows:=by (show (match S2[r]? with | some (.lst l)=>some l | _=>none)=some rows);rw [g2]
      rw [this];rfl
    have ad:∀ S d,dAddE S (.tup rows) (.tup [d])=some (.tup (rows++[d])):=fun S d=>by
      rw [aDN] at hi hl
      cases rows with
      | nil=>rfl
      | cons x l=>exact aNt _ _ (by rw [hl];simp;omega)
    wp_walk using zstop,ft
    refine aOm hN P2 bn (by omega) n0 fun t S3 bt lt P3 F3 => ?_
    wp_walk using ad
    exact h rows now t S3 hk lt (by grind) (bt.mono (by omega)) (by omega) P3
end Wk33
namespace Wk33
open PySem G C
theorem aYG:("0123456789":Str).cps.toList=List.range' 48 10:=by decide +kernel
theorem aXs (c:Nat) (S0:Store):dIn false S0 (.str (Sx [c])) (.str "0123456789")=some (.bl (isD c)):=by
  show some (D.bl (decide (c∈("0123456789":Str).cps.toList)))=_
  rw [aYG]
  have:decide (c∈List.range' 48 10)=isD c:=by
    unfold isD
    by_cases h:c∈List.range' 48 10
    · rw [decide_eq_true h]
      have:=List.mem_range'_1.mp h
      rw [decide_eq_true this.1,decide_eq_true (by omega)];rfl
    · rw [decide_eq_false h]
      by_cases h1:48≤c
      · have:¬ c≤57:=fun z=>h (List.mem_range'_1.mpr ⟨h1,by omega⟩)
        rw [decide_eq_true h1,decide_eq_false this];rfl
      · rw [decide_eq_false h1];rfl
  rw [this]
theorem aVg (a:List Nat):signs (Sx a)=a.map fun c => .str (Sx [c]):=by unfold signs;simp [Sx,SX.S]
theorem aIg:("":Str)=Sx []:=by decide +kernel
theorem S_ne (a:List Nat):decide (Sx a=Sx [])=a.isEmpty:=by
  cases a with
  | nil=>exact decide_eq_true rfl
  | cons c r=>exact decide_eq_false fun z=>nomatch SX.S_inj z
theorem aL9 (f:Nat→Bool):∀ a:List Nat,bools (a.map fun c=>D.bl (f c))=some (a.map f)
  | []=>rfl
  | c::a=>by
    show (bools (a.map fun c=>D.bl (f c))).map _=_
    rw [aL9 f a];rfl
theorem aOt {N:Nat}{a:List Nat}{e:En}{j:Nat}{S0:Store}{Q X:QP D}(hj:j<e.length) (hl:a.length≤1000) (h:Q (.bl (a.all isD)) S0) :
    Wr (lcR (.nm j) tTrue (eBinS (dIn false) (eVar j) (eC (.str "0123456789"))) e (signs (Sx a)) [] S0) (fun acc S'=>S'=S0∧acc=a.map fun c=>D.bl (isD c)) X:=by
  have gm:∀ (d:D) (e:En),Tg.m (.nm j) d e=some (e.set j (some d)):=fun _ _=>rfl
  rw [aVg]
  refine lc_w (fun i acc S'=>S'=S0∧acc=(a.take i).map fun c=>D.bl (isD c)) ⟨rfl,rfl⟩ ?_ ?_
  · rintro i d acc S' hd ⟨rfl,rfl⟩
    rw [List.getElem?_map] at hd
    obtain ⟨c,hd2,rfl⟩:=Option.map_eq_some_iff.mp hd
    have hlt:=(List.getElem?_eq_some_iff.mp hd2).1
    have he:(e.set j (some (D.str (Sx [c]))))[j]? = some (some (.str (Sx [c]))):=List.getElem?_set_self hj
    wp_walk using gm,he,aXs,List.length_map
    exact ⟨by rw [List.length_take];omega,by rw [List.take_add_one,hd2,List.map_append];rfl⟩
  · rintro acc S' ⟨rfl,rfl⟩
    rw [List.length_map,List.take_length]
    exact ⟨rfl,rfl⟩
theorem aLA (a:List Nat) (S0:Store):fAll S0 [.lst (a.map fun c=>D.bl (isD c))]=some (.bl (a.all isD)):=by
  show ((bools (a.map fun c=>D.bl (isD c))).map fun bs=>D.bl (bs.all id))=_
  rw [aL9]
  simp [List.all_map]
theorem aEB {N:Nat}{a:List Nat}(hl:a.length≤1000) (S0:Store):aCQ N [.str (Sx a)] S0 = .ok (.bl (isN a)) S0:=by
  apply aAh
  rw [aCQ,aAi,aF6]
  unfold isN
  cases ha:a.isEmpty with
  | true=>
    wp_walk using aGy,aIg,S_ne,ha
    rfl
  | false=>
    wp_walk using aGy,aIg,S_ne,ha
    refine aQT _ (aOt (N:=N) (Q:=fun _ _=>True) (Nat.lt_succ_self 1) hl trivial) ?_
    rintro acc S' ⟨rfl,rfl⟩
    wp_walk using aLA
    rfl
def numI (i:Int):List Nat:=if i<0 then 45::TL.numL i.natAbs else TL.numL i.natAbs
theorem aRf (i:Int):(toString i:Str)=Sx (numI i):=by
  unfold numI
  cases i with
  | ofNat n=>
    rw [if_neg (by simp)]
    exact SX.num_S n
  | negSucc n=>
    rw [if_pos (Int.negSucc_lt_zero n)]
    have e:(toString (Int.negSucc n):String)="-"++toString (((n+1:Nat):Int)):=rfl
    have k:=SX.num_S (n+1)
    rw [Str.ofString_eq_toList] at k
    have k2:=SX.S_inj k
    show Str.ofString (toString (Int.negSucc n))=_
    rw [e,Str.ofString_eq_toList,String.toList_append,List.map_append,k2]
    rfl
def tq (q:Rat):List Nat:=numI q.num++(if q.den=1 then [] else 47::TL.numL q.den)
theorem aGb {i:Int}{k:Nat}(hk:0<k) (h:i.natAbs<10 ^ k):(numI i).length≤k+1:=by
  have:=TL.numL_len hk h
  unfold numI
  split
  · rw [List.length_cons];omega
  · omega
theorem aEO {i:Int}(h:i.natAbs<2 ^ 250):i.natAbs.log2<1920:=Nat.lt_of_lt_of_le (aGx h (by omega)) (by omega)
theorem aGD {i:Int}(h:i.natAbs<2 ^ 250) (S0:Store):fStr S0 [.int i]=some (.str (Sx (numI i))):=by
  show (if i.natAbs.log2<1920 then some (D.str (toString i)) else none)=_
  rw [if_pos (aEO h),aRf]
theorem aU_ {i:Int}(h:i.natAbs<2 ^ 250):fmtD (.int i)=some (.str (Sx (numI i))):=by
  show (if i.natAbs.log2<1920 then some (D.str (toString i)) else none)=_
  rw [if_pos (aEO h),aRf]
theorem sl_S:("/":Str)=Sx [47]:=by decide +kernel
theorem pow76:(2:Nat) ^ 250≤10 ^ 76:=by decide
theorem aIe {i:Int}(h:i.natAbs<2 ^ 250):(numI i).length≤77:=aGb (by omega) (Nat.lt_of_lt_of_le h pow76)
theorem aNu {a b:List Nat}(h:a.length+b.length≤1000) (S0:Store):dAddS S0 (.str (Sx a)) (.str (Sx b))=some (.str (Sx (a++b))):=by
  show (if (Sx a).length+(Sx b).length≤sizeLine then some (D.str (Sx a++Sx b)) else none)=_
  rw [if_pos (by rw [sizeLine_eq,SX.S_len,SX.S_len];omega),SX.S_cat]
theorem aGz {N:Nat}(hN:big N) {q:Rat}(h:Bt q 250) (S0:Store):aBU N [rD q] S0 = .ok (.str (Sx (tq q))) S0:=by
  have hd:((q.den:Int)).natAbs<2 ^ 250:=by simpa using h.2
  have l1:=aIe h.1
  have l2:=aIe hd
  have e2:numI (q.den:Int)=TL.numL q.den:=by unfold numI;rw [if_neg (by omega)];rfl
  apply aAh
  rw [aBU,aAi,aEL]
  unfold tq
  by_cases c:(q.den:Int)=1
  · have c':q.den=1:=by omega
    wp_walk using aOg hN h (by omega),aGD h.1,c,c'
  · have c':¬ q.den=1:=by omega
    have ee:Str.empty=Sx []:=rfl
    have k0:(Str.empty++Sx (numI q.num))=Sx (numI q.num):=by rw [ee,SX.S_cat];rfl
    have l0:(Sx (numI q.num)).length≤sizeLine:=by rw [SX.S_len,sizeLine_eq];omega
    have l1:(Sx (numI q.num)++Sx [47]).length≤sizeLine:=by rw [SX.S_cat,SX.S_len,sizeLine_eq];simp only [List.length_append,List.length_cons,List.length_nil];omega
    have l2:(Sx (numI q.num)++Sx [47]++Sx (numI (q.den:Int))).length≤sizeLine:=by rw [SX.S_cat,SX.S_cat,SX.S_len,sizeLine_eq];simp only [List.length_append,List.length_cons,List.length_nil];omega
    rw [sizeLine_eq] at l0 l1 l2
    wp_walk using aOg hN h (by omega),c,aU_ h.1,aU_ hd,sl_S,k0,l0,l1,l2,c'
    rw [SX.S_cat,SX.S_cat,e2,List.append_assoc]
    rfl
end Wk33
namespace Wk33
open PySem G C
def res (a:List Nat) (ps:List (List Nat)):Option Rat:=(raw ps).bind fun r=>if tq r=a then some r else none
theorem aOu {a:List Nat}(h:isN a=true):NumText.AllDigits a∧a≠[]:=by
  unfold isN at h
  rw [Bool.and_eq_true] at h
  refine ⟨fun c hc => ?_,fun z => ?_⟩
  · have:=List.all_eq_true.mp h.2 c hc
    unfold isD at this
    rw [Bool.and_eq_true,decide_eq_true_eq,decide_eq_true_eq] at this
    exact this
  · rw [z] at h;exact absurd h.1 (by simp)
theorem aTi:∀ (l:List Nat) (x:Nat),NumText.AllDigits l→l.foldl (fun acc c=>acc*10+(c - 48)) x<(x+1)*10 ^ l.length
  | [],x,_=>by simp
  | c::l,x,h=>by
    have hc:=h.head
    have:=aTi l (x*10+(c - 48)) h.tail
    rw [List.foldl_cons,List.length_cons,Nat.pow_succ]
    refine Nat.lt_of_lt_of_le this ?_
    have k:x*10+(c - 48)+1≤(x+1)*10:=by omega
    calc (x*10+(c - 48)+1)*10 ^ l.length≤((x+1)*10)*10 ^ l.length:=Nat.mul_le_mul_right _ k
      _=(x+1)*(10 ^ l.length*10):=by rw [Nat.mul_assoc,Nat.mul_comm 10]
theorem aRn {a:List Nat}(h:isN a=true) (hl:a.length≤75):vl a<2 ^ 250:=by
  have h1:vl a<(0+1)*10 ^ a.length:=aTi a 0 (aOu h).1
  have h2:(10:Nat) ^ a.length≤10 ^ 75:=Nat.pow_le_pow_right (by omega) hl
  have h3:(10:Nat) ^ 75<2 ^ 250:=by decide
  omega
theorem aXt {p:List Nat}(h:isN (un p)=true) (hl:p.length≤75):(sv p).natAbs<2 ^ 250:=by
  have h1:(un p).length≤75:=by
    unfold un
    split
    · rw [List.length_drop];omega
    · exact hl
  have:=aRn h h1
  unfold sv
  split<;>omega
theorem aTj {p:List Nat}{ps:List (List Nat)}{r:Rat}(h:raw (p::ps)=some r) (hl:∀ q,q∈p::ps→q.length≤75):Bt r 250:=by
  unfold raw at h
  split at h
  · rename_i e
    cases e
    split at h
    · rename_i hn
      cases h
      exact aH7 (m:=0) (aXt hn (hl p (List.mem_cons_self ..))) (by decide) (by omega)
    · cases h
  · rename_i q e
    cases e
    split at h
    · rename_i hn
      cases h
      rw [Bool.and_eq_true,Bool.and_eq_true] at hn
      exact aH7 (m:=0) (aXt hn.1 (hl p (List.mem_cons_self ..))) (by have:=aRn hn.2.1 (hl q (by simp));omega) (by omega)
    · cases h
  · cases h
theorem lenS {a:List Nat}(h:a.length≤75):(Sx a).length≤sizeLine:=by rw [SX.S_len,sizeLine_eq];omega
theorem aYH {a:List Nat}(h:a.length≤75) (S0:Store):slD S0 (.str (Sx a)) none (some 1)=some (.str (Sx (a.take 1))):=by
  show (if (Sx a).length≤sizeLine then some (D.str (L2.cutS (Sx a) none (some 1))) else none)=_
  rw [if_pos (lenS h),C8.cutS_slice,SX.slice_to (by omega)]
  rfl
theorem aS7 {a:List Nat}(h:a.length≤75) (i:Nat) (S0:Store):slD S0 (.str (Sx a)) (some (i:Int)) none=some (.str (Sx (a.drop i))):=by
  show (if (Sx a).length≤sizeLine then some (D.str (L2.cutS (Sx a) (some (i:Int)) none)) else none)=_
  rw [if_pos (lenS h),C8.cutS_slice,SX.slice_from (by omega)]
  rfl
theorem mi_S:("-":Str)=Sx [45]:=by decide +kernel
theorem S_eq (a b:List Nat):decide (Sx a=Sx b)=decide (a=b):=by
  by_cases h:a=b
  · rw [h,decide_eq_true rfl,decide_eq_true rfl]
  · rw [decide_eq_false h,decide_eq_false fun z=>h (SX.S_inj z)]
end Wk33
namespace Wk33
open PySem G C
def bi (b:Bool):Nat:=if b then 1 else 0
def tail47:List (List Nat)→List Nat
  | []=>[]
  | q::r=>47::TL.joinL [47] (q::r)
theorem aGd (p:List Nat) (ps:List (List Nat)):TL.joinL [47] (p::ps)=p++tail47 ps:=by
  cases ps with
  | nil=>show p=p++[];rw [List.append_nil]
  | cons q r=>rfl
theorem sg_a {p:List Nat}{ps:List (List Nat)}:sg (TL.joinL [47] (p::ps))=sg p:=by
  rw [aGd]
  unfold sg
  cases p with
  | nil=>
    cases ps with
    | nil=>rfl
    | cons q r=>rfl
  | cons c p=>rfl
theorem aXu {p:List Nat}{ps:List (List Nat)}:(TL.joinL [47] (p::ps)).drop (bi (sg p))=un p++tail47 ps:=by
  rw [aGd]
  unfold un bi
  cases h:sg p with
  | false=>rfl
  | true=>
    cases p with
    | nil=>cases h
    | cons c p=>rfl
theorem aVh {p:List Nat}(h:47∉p):47∉un p:=by
  unfold un
  split
  · exact fun z=>h (List.mem_of_mem_drop z)
  · exact h
theorem aLB {w:List Nat}(h:isN w=true) (hl:w.length≤75) (S0:Store):fIntS S0 [.str (Sx w)]=some (.int (vl w:Nat)):=by
  obtain ⟨h1,h2⟩:=aOu h
  show (if (Sx w).length≤640 then (PySem.intText? (Sx w)).map D.int else none)=_
  rw [if_pos (by rw [SX.S_len];omega)]
  have e:PySem.intText? (Sx w)=some ((NumText.digitsVal w:Nat):Int):=intText_digits (x:=Sx w) h1 h2 (by rw [SX.S_len];omega)
  rw [e];rfl
theorem aIh {u:List Nat}(h:47∉u) (hl:u.length≤75) (S0:Store):fPart S0 (.str (Sx u)) [.str (Sx [47])]=some (.tup [.str (Sx u), .str (Sx []), .str (Sx [])]):=by
  show (if ((Sx [47]).length == 0)=false∧(Sx u).length≤1000000 then some _ else none)=_
  rw [if_pos ⟨rfl,by rw [SX.S_len];omega⟩,SX.partition_none (by simp) (SX.par_head_none h)]
theorem aRo {u v:List Nat}(h:47∉u) (hl:(u++47::v).length≤75) (S0:Store):fPart S0 (.str (Sx (u++47::v))) [.str (Sx [47])]=some (.tup [.str (Sx u), .str (Sx [47]), .str (Sx v)]):=by
  show (if ((Sx [47]).length == 0)=false∧(Sx (u++47::v)).length≤1000000 then some _ else none)=_
  have e:Txt.partition (Sx (u++47::v)) (Sx [47])=(Sx u,Sx [47],Sx v):=SX.partition_some (p:=u) (q:=v) (by simp) (SX.par_head (sep:=[]) v h)
  rw [if_pos ⟨rfl,by rw [SX.S_len];omega⟩,e]
theorem fiB (b:Bool) (S0:Store):fIntS S0 [.bl b]=some (.int ((bi b:Nat):Int)):=by cases b<;>rfl
theorem tr_S {w:List Nat}(hl:w.length≤75) (S0:Store):truD S0 (.str (Sx w))=some (!w.isEmpty):=by
  show (if (Sx w).length≤sizeLine then some (((Sx w).length:Int) != 0) else none)=_
  rw [if_pos (lenS hl),SX.S_len]
  cases w with
  | nil=>rfl
  | cons c w=>
    have:(((c::w).length:Nat):Int)≠0:=by rw [List.length_cons];omega
    simp [bne]
    omega
theorem aTk {p:List Nat}(S0:Store) (h:vl (un p)<2 ^ 250):∃ d,ixD S0 (.lst [.int 1, .int (-1)]) (.int ((bi (sg p):Nat):Int))=some d∧dMul (.int (vl (un p):Nat)) d=some (.int (sv p)):=by
  unfold sv
  cases hs:sg p with
  | false=>
    refine ⟨.int 1,rfl,?_⟩
    rw [aBD (aOd (a:=250) (b:=1) (by simpa using h) (by decide) (by omega) (by omega) (by omega)),Int.mul_one]
    rfl
  | true=>
    refine ⟨.int (-1),rfl,?_⟩
    rw [aBD (aOd (a:=250) (b:=1) (by simpa using h) (by decide) (by omega) (by omega) (by omega))]
    congr 2
    show _ = -(vl (un p):Int)
    omega
theorem aXv:("1":Str)=Sx [49]:=by decide +kernel
theorem raw1 (p:List Nat):raw [p]=if isN (un p) then some (Rat.divInt (sv p) 1) else none:=rfl
theorem raw2 (p q:List Nat):raw [p,q]=if isN (un p) && (isN q && decide (vl q≠0)) then some (Rat.divInt (sv p) (vl q)) else none:=rfl
theorem raw3 (p q s:List Nat) (r:List (List Nat)):raw (p::q::s::r)=none:=rfl
theorem aEU {a:List Nat}{ps:List (List Nat)}(h:raw ps=none):res a ps=none:=by unfold res;rw [h];rfl
theorem aGL {a:List Nat}{ps:List (List Nat)}{r:Rat}(h:raw ps=some r):res a ps=if tq r=a then some r else none:=by unfold res;rw [h];rfl
theorem neS {a b:List Nat}:dNe (.str (Sx a)) (.str (Sx b))=some (.bl (!decide (a=b))):=by rw [aGy,S_eq]
theorem aRp {N:Nat}(hN:big N) {a p:List Nat}{ps:List (List Nat)}(hp:∀ q,q∈p::ps→47∉q) (ha:a=TL.joinL [47] (p::ps)) (hl:a.length≤75) (S0:Store) :
    aA3 N [.str (Sx a)] S0=match res a (p::ps) with
      | some r => .ok (rD r) S0
      | none => .exc (.exc 4 [(4, .int 0)]) S0:=by
  have e1:decide (Sx (a.take 1)=Sx [45])=sg p:=by rw [S_eq,← sg_a (ps:=ps),← ha];rfl
  have e2:a.drop (bi (sg p))=un p++tail47 ps:=by rw [ha];exact aXu
  have ty:isTy S0 .str (.str (Sx a))=some true:=rfl
  have hup:=aVh (hp p (List.mem_cons_self ..))
  have lu:(un p).length≤75∧(tail47 ps).length≤75∧(un p++tail47 ps).length≤75:=by
    have:(a.drop (bi (sg p))).length≤75:=by rw [List.length_drop];omega
    rw [e2,List.length_append] at this
    rw [List.length_append]
    omega
  have d1:dEq (.str (Sx (a.take 1))) (.str (Sx [45]))=some (.bl (sg p)):=by rw [aE5,e1]
  have c1:=aYH hl
  have c2:=aS7 hl (bi (sg p))
  rw [e2] at c2
  cases ps with
  | nil=>
    have c3:∀ S0,slD S0 (.str (Sx a)) (some ((bi (sg p):Nat):Int)) none=some (.str (Sx (un p))):=fun S0=>by rw [c2];show some (D.str (Sx (un p++[])))=_;rw [List.append_nil]
    cases hn:isN (un p) with
    | false=>
      have er:res a [p]=none:=aEU (by rw [raw1,hn];rfl)
      rw [er]
      apply aEN
      rw [aA3,aAi,aBb]
      wp_walk using ty,Option.map_some,c1,mi_S,d1,fiB,c3,sl_S,aIh hup lu.1,aEB (show (un p).length≤1000 by omega),hn
    | true=>
      have hr:raw [p]=some (Rat.divInt (sv p) 1):=by rw [raw1,hn];rfl
      rw [aGL hr]
      obtain ⟨dm,m1,m2⟩:=aTk S0 (aRn hn lu.1)
      have bt:=aTj hr (fun q hq=>by
        simp only [List.mem_cons,List.not_mem_nil,or_false] at hq
        subst hq
        rw [ha] at hl;exact hl)
      have i1:fIntS S0 [.str (Sx [49])]=some (.int 1):=aLB (w:=[49]) (by decide) (by decide) S0
      have z1:=aL6 (S:=S0) hN (t:=sv p) (b:=1) (n:=2) (by decide) (by decide) (by omega) (by omega)
      have tn:truD S0 (.str (Sx []))=some false:=rfl
      generalize Rat.divInt (sv p) 1=rr at z1 bt ⊢
      by_cases hq:tq rr=a
      · rw [if_pos hq]
        apply aAh
        rw [aA3,aAi,aBb]
        wp_walk using ty,Option.map_some,c1,mi_S,d1,fiB,c3,sl_S,aIh hup lu.1,aEB (show (un p).length≤1000 by omega),hn,aIg,neS,aLB hn lu.1,m1,m2,tn,aXv,i1,z1,aGz hN bt,hq
      · rw [if_neg hq]
        apply aEN
        rw [aA3,aAi,aBb]
        wp_walk using ty,Option.map_some,c1,mi_S,d1,fiB,c3,sl_S,aIh hup lu.1,aEB (show (un p).length≤1000 by omega),hn,aIg,neS,aLB hn lu.1,m1,m2,tn,aXv,i1,z1,aGz hN bt,hq
  | cons q r=>
    obtain ⟨b,hb⟩:∃ b,b=TL.joinL [47] (q::r):=⟨_,rfl⟩
    have ht:tail47 (q::r)=47::b:=by rw [hb];rfl
    rw [ht] at c2 lu
    have hbl:b.length≤75:=by have:=lu.2.1;rw [List.length_cons] at this;omega
    have ps:=aRo (v:=b) hup lu.2.2
    have n47:decide ([47]=([]:List Nat))=false:=rfl
    cases hn:isN (un p) with
    | false=>
      have er:res a (p::q::r)=none:=by
        cases r with
        | nil=>exact aEU (by rw [raw2,hn];rfl)
        | cons s r=>exact aEU (raw3 p q s r)
      rw [er]
      apply aEN
      rw [aA3,aAi,aBb]
      wp_walk using ty,Option.map_some,c1,mi_S,d1,fiB,c2,sl_S,ps,aEB (show (un p).length≤1000 by omega),hn
    | true=>
      cases hm:isN b with
      | false=>
        have er:res a (p::q::r)=none:=by
          cases r with
          | nil=>
            have:b=q:=hb
            rw [this] at hm
            exact aEU (by rw [raw2,hm,hn];rfl)
          | cons s r=>exact aEU (raw3 p q s r)
        rw [er]
        apply aEN
        rw [aA3,aAi,aBb]
        wp_walk using ty,Option.map_some,c1,mi_S,d1,fiB,c2,sl_S,ps,aEB (show (un p).length≤1000 by omega),hn,aIg,neS,n47,aEB (show b.length≤1000 by omega),hm
      | true=>
        have hr0:r = []:=by
          cases r with
          | nil=>rfl
          | cons s r=>
            exfalso
            have h47:47∈b:=by rw [hb,aGd];exact List.mem_append_right _ (List.mem_cons_self ..)
            have:=(aOu hm).1 47 h47
            omega
        subst hr0
        have hbq:b=q:=hb
        by_cases hv:vl b=0
        · have er:res a [p,q]=none:=aEU (by rw [raw2,← hbq,hm,hn,hv];rfl)
          rw [er]
          have iv:fIntS S0 [.str (Sx b)]=some (.int 0):=by rw [aLB hm hbl,hv];rfl
          apply aEN
          rw [aA3,aAi,aBb]
          wp_walk using ty,Option.map_some,c1,mi_S,d1,fiB,c2,sl_S,ps,aEB (show (un p).length≤1000 by omega),hn,aIg,neS,n47,aEB (show b.length≤1000 by omega),hm,iv
        · have hr:raw [p,q]=some (Rat.divInt (sv p) (vl b)):=by rw [raw2,← hbq,hm,hn,decide_eq_true hv];rfl
          rw [aGL hr]
          obtain ⟨dm,m1,m2⟩:=aTk S0 (aRn hn lu.1)
          have bt:=aTj hr (fun z hz=>by
            have l1:(p++47::b).length≤75:=by
              have:a=p++47::b:=by rw [ha,aGd,ht]
              rw [← this];exact hl
            rw [List.length_append,List.length_cons] at l1
            simp only [List.mem_cons,List.not_mem_nil,or_false] at hz
            rcases hz with rfl | rfl
            · omega
            · rw [← hbq];omega)
          have iv:fIntS S0 [.str (Sx b)]=some (.int (vl b:Nat)):=aLB hm hbl S0
          have hv':¬ ((vl b:Nat):Int)=0:=by omega
          have z1:=aL6 (S:=S0) hN (t:=sv p) (b:=(vl b:Nat)) (n:=250) (by omega) (by have:=aRn hm hbl;omega) (by omega) (by omega)
          have tn:truD S0 (.str (Sx b))=some true:=by
            rw [tr_S hbl]
            have:=(aOu hm).2
            cases b with
            | nil=>exact absurd rfl this
            | cons c b=>rfl
          generalize Rat.divInt (sv p) (vl b:Nat)=rr at z1 bt ⊢
          by_cases hq:tq rr=a
          · rw [if_pos hq]
            apply aAh
            rw [aA3,aAi,aBb]
            wp_walk using ty,Option.map_some,c1,mi_S,d1,fiB,c2,sl_S,ps,aEB (show (un p).length≤1000 by omega),hn,aIg,neS,n47,aEB (show b.length≤1000 by omega),hm,iv,hv',aLB hn lu.1,m1,m2,tn,z1,aGz hN bt,hq
          · rw [if_neg hq]
            apply aEN
            rw [aA3,aAi,aBb]
            wp_walk using ty,Option.map_some,c1,mi_S,d1,fiB,c2,sl_S,ps,aEB (show (un p).length≤1000 by omega),hn,aIg,neS,n47,aEB (show b.length≤1000 by omega),hm,iv,hv',aLB hn lu.1,m1,m2,tn,z1,aGz hN bt,hq
end Wk33
namespace Wk33
open PySem G C
theorem aIi (n:Nat):isN (TL.numL n)=true:=by
  unfold isN
  rw [Bool.and_eq_true]
  refine ⟨?_,List.all_eq_true.mpr fun c hc => ?_⟩
  · have:=TL.numL_ne n
    cases h:TL.numL n with
    | nil=>exact absurd h this
    | cons c r=>rfl
  · have:=TL.numL_digits n c hc
    unfold isD
    rw [decide_eq_true this.1,decide_eq_true this.2];rfl
theorem aTl (n:Nat):sg (TL.numL n)=false:=by
  unfold sg
  refine decide_eq_false fun h => ?_
  have h1:(45:Nat)∈(TL.numL n).take 1:=by rw [h];exact List.mem_cons_self
  exact TL.numL_free (n:=n) (s:=45) (by omega) (List.mem_of_mem_take h1)
theorem aRq (i:Int):un (numI i)=TL.numL i.natAbs:=by
  unfold un numI
  split
  · rfl
  · rw [aTl];rfl
theorem aTm (i:Int):sv (numI i)=i:=by
  unfold sv
  rw [aRq]
  unfold vl
  rw [TL.numL_val]
  unfold numI
  split
  · have:sg (45::TL.numL i.natAbs)=true:=rfl
    rw [this,if_pos rfl];omega
  · rw [aTl,if_neg Bool.false_ne_true];omega
theorem aOv (i:Int):47∉numI i:=by
  unfold numI
  split
  · intro h
    rcases List.mem_cons.mp h with h | h
    · omega
    · exact TL.numL_free (s:=47) (by omega) h
  · exact TL.numL_free (s:=47) (by omega)
theorem aOw {N:Nat}(hN:big N) {q:Rat}(hl:(tq q).length≤75) (S0:Store):aA3 N [.str (Sx (tq q))] S0 = .ok (rD q) S0:=by
  have e0:isN (un (numI q.num))=true:=by rw [aRq];exact aIi _
  by_cases c:q.den=1
  · have ht:tq q=TL.joinL [47] [numI q.num]:=by unfold tq;rw [if_pos c,List.append_nil];rfl
    have hr:raw [numI q.num]=some q:=by
      rw [raw1,e0,aTm]
      have:=q.num_divInt_den
      rw [c] at this
      exact congrArg some this
    have e:=aRp hN (a:=tq q) (p:=numI q.num) (ps:=[]) (fun z hz=>by
      simp only [List.mem_cons,List.not_mem_nil,or_false] at hz
      rw [hz];exact aOv _) ht hl S0
    rw [aGL hr,if_pos rfl] at e
    exact e
  · have ht:tq q=TL.joinL [47] [numI q.num,TL.numL q.den]:=by unfold tq;rw [if_neg c];rfl
    have hv:vl (TL.numL q.den)=q.den:=TL.numL_val _
    have hr:raw [numI q.num,TL.numL q.den]=some q:=by
      rw [raw2,e0,aIi,hv,aTm,decide_eq_true q.den_nz]
      exact congrArg some q.num_divInt_den
    have e:=aRp hN (a:=tq q) (p:=numI q.num) (ps:=[TL.numL q.den]) (fun z hz=>by
      simp only [List.mem_cons,List.not_mem_nil,or_false] at hz
      rcases hz with rfl | rfl
      · exact aOv _
      · exact TL.numL_free (s:=47) (by omega)) ht hl S0
    rw [aGL hr,if_pos rfl] at e
    exact e
end Wk33
namespace Wk33
open PySem G C
theorem aOx (x:Str):Sx x.cps.toList=x:=by
  show (⟨x.cps.toList.toArray⟩:Str)=x
  cases x;simp
theorem aIj {i:Int}{c:Nat}(h:c≠45) (hc:c<48):c∉numI i:=by
  unfold numI
  split
  · intro z
    rcases List.mem_cons.mp z with z | z
    · exact h z
    · exact TL.numL_free (s:=c) (by omega) z
  · exact TL.numL_free (s:=c) (by omega)
theorem aRr {q:Rat}{c:Nat}(h:c≠45) (h2:c≠47) (hc:c<48):c∉tq q:=by
  unfold tq
  intro z
  rcases List.mem_append.mp z with z | z
  · exact aIj h hc z
  · split at z
    · cases z
    · rcases List.mem_cons.mp z with z | z
      · exact h2 z
      · exact TL.numL_free (s:=c) (by omega) z
theorem aJJ (i:Int):numI i≠[]:=by
  unfold numI
  split
  · simp
  · exact TL.numL_ne _
theorem aYI (q:Rat):tq q≠[]:=by
  unfold tq
  exact fun z=>aJJ _ (List.append_eq_nil_iff.mp z).1
theorem aRs {q:Rat}(h:Bt q 100):(tq q).length≤75:=by
  have p:(2:Nat) ^ 100≤10 ^ 31:=by decide
  have a1:=aGb (i:=q.num) (k:=31) (by omega) (Nat.lt_of_lt_of_le h.1 p)
  have a2:=TL.numL_len (n:=q.den) (k:=31) (by omega) (Nat.lt_of_lt_of_le h.2 p)
  unfold tq
  split
  · rw [List.length_append,List.length_nil];omega
  · rw [List.length_append,List.length_cons];omega
theorem aXw (i:Int) (h:i.natAbs<2 ^ 200):Wd (numI i):=⟨aJJ i,by
  have:=aGb (i:=i) (k:=61) (by omega) (Nat.lt_of_lt_of_le h (by decide))
  omega,aIj (by omega) (by omega),aIj (by omega) (by omega)⟩
theorem aVi {q:Rat}(h:Bt q 100):Wd (tq q):=⟨aYI q,aRs h,aRr (by omega) (by omega) (by omega),aRr (by omega) (by omega) (by omega)⟩
theorem aXx:Wd [45]:=⟨by simp,by simp,by simp,by simp⟩
section
variable {N:Nat}
theorem aRt (z:So) (S:Store):dInL false S (.str z.s) (.tup [.str "least", .str "most"])=some (.bl (match z with | .le=>true | .mo=>true | _=>false)):=by cases z<;>rfl
theorem aXy (z:So) (S:Store):dInL false S (.str z.s) (.tup [.str "size", .str "weight"])=some (.bl (match z with | .si=>true | .we=>true | _=>false)):=by cases z<;>rfl
theorem aS8 {i:Int}(h:0≤i):isN (numI i)=true:=by
  unfold numI
  rw [if_neg (by omega)]
  exact aIi _
theorem aRu:∀ n:Nat,1≤n→∃ c r,TL.numL n=c::r∧c≠48:=by
  intro n
  induction n using Nat.strongRecOn with
  | ind n ih=>
    intro h
    by_cases c:n<10
    · exact ⟨48+n,[],TL.numL_lt c,by omega⟩
    · obtain ⟨c',r,e,hc⟩:=ih (n / 10) (by omega) (by omega)
      exact ⟨c',r++[48+n % 10],by rw [TL.numL_step (by omega),e];rfl,hc⟩
theorem aXz {i:Int}(hi:1≤i) (h9:i≤999) (S:Store):aD1 N [.str (Sx (numI i))] S = .ok (.int i) S:=by
  have el:numI i=TL.numL i.natAbs:=by unfold numI;rw [if_neg (by omega)]
  have l3:(numI i).length≤3:=by rw [el];exact TL.numL_len (k:=3) (by omega) (by omega)
  have e1:dEq (.str (Sx (numI i))) (.str "")=some (.bl false):=by
    rw [aE5,aIg]
    have:=S_ne (numI i)
    rw [this]
    cases h:numI i with
    | nil=>exact absurd h (aJJ i)
    | cons a l=>rfl
  have al:(numI i).all isD=true:=by
    rw [el]
    have:=aIi i.natAbs
    unfold isN at this
    rw [Bool.and_eq_true] at this
    exact this.2
  obtain ⟨c,r,hc,c48⟩:=aRu i.natAbs (by omega)
  have hcs:numI i=c::r:=by rw [el,hc]
  have cs:(Sx (numI i)).length=(numI i).length:=SX.S_len _
  have ix:∀ S,ixD S (.str (Sx (numI i))) (.int 0)=some (.str (Sx [c])):=fun S=>by
    show (if (Sx (numI i)).length≤sizeLine then (L2.atI (Sx (numI i)).cps.toList 0).map fun c=>D.str ⟨#[c]⟩ else none)=_
    rw [if_pos (by rw [cs,sizeLine_eq];omega)]
    have:(Sx (numI i)).cps.toList=c::r:=by rw [hcs]
    rw [this]
    have:L2.atI (c::r) 0=some c:=L2.atI_nat (j:=0) rfl
    rw [this];rfl
  have e2:dEq (.str (Sx [c])) (.str "0")=some (.bl false):=by
    have:("0":Str)=Sx [48]:=by decide +kernel
    rw [aE5,this,S_eq,decide_eq_false (by simpa using c48)]
  have e3:fLen S [.str (Sx (numI i))]=some (.int ((numI i).length:Nat)):=by
    have:lenD S (.str (Sx (numI i)))=some (numI i).length:=by
      show (if (Sx (numI i)).length≤sizeLine then some _ else none)=_
      rw [cs,if_pos (by rw [sizeLine_eq];omega)]
    unfold fLen;simp only [this];rfl
  have e4:dGt (.int ((numI i).length:Nat)) (.int 3)=some (.bl false):=by
    show some (D.bl (decide ((3:Int)<((numI i).length:Nat))))=_
    rw [decide_eq_false (by omega)]
  have iv:fIntS S [.str (Sx (numI i))]=some (.int i):=by
    have:=aLB (w:=numI i) (aS8 (by omega)) (by omega) S
    rw [this]
    have e:vl (numI i)=i.natAbs:=by unfold vl;rw [el];exact TL.numL_val _
    rw [e]
    congr 2
    omega
  apply aAh
  rw [aD1,aAi,aF5]
  wp_walk using e1
  refine aQT _ (aOt (N:=N) (Q:=fun _ _=>True) (Nat.lt_succ_self 1) (by omega) trivial) ?_
  rintro acc S' ⟨rfl,rfl⟩
  wp_walk using aLA,al,ix,e2,e3,e4,iv
theorem aX0 {i:Int}(hi:1≤i) (h9:i≤999) {z:So}(hz:z = .we∨z = .si):Tx N z (.int i) (numI i):=by
  have hb:i.natAbs<2 ^ 250:=Nat.lt_of_lt_of_le (by omega:i.natAbs<1000) (by decide)
  have e0:dIs (.int i) .non=some (.bl false):=rfl
  have e1:dEq (.int i) (.tup [.int 0, .int 1])=some (.bl false):=rfl
  have e2:dEqU (.int i) (.tup [.int 0, .int 1])=some (.bl false):=rfl
  have ty:∀ S,isTy S .tuple (.int i)=some false:=fun _=>rfl
  refine ⟨aXw i (Nat.lt_of_lt_of_le (by omega:i.natAbs<1000) (by decide)),fun S => ?_,fun S => ?_,fun S => ?_⟩
  · have fs:=aGD hb S
    apply aAh
    rw [aBC,aAi,aC0]
    wp_walk using e0,e1,ty,fs
  · have fs:=aGD hb S
    apply aAh
    rw [aAZ,aAi,aBY]
    wp_walk using e0,e2,ty,fs
  · have lm:=aRt z S
    have sw:=aXy z S
    have no:=aXz (N:=N) hi h9 S
    apply aAh
    rcases hz with rfl | rfl
    · rw [aBG,aAi,aCj]
      wp_walk using lm,sw,no
    · rw [aBG,aAi,aCj]
      wp_walk using lm,sw,no
theorem aX1 (hN:big N) {q:Rat}(b:Bt q 100) (q0:q≠0) {z:So}(hz:z = .le∨z = .mo):Tx N z (rD q) (tq q):=by
  have e0:dIs (rD q) .non=some (.bl false):=rfl
  have e1:dEq (rD q) (.tup [.int 0, .int 1])=some (.bl false):=by
    have:=aEI q 0
    rw [decide_eq_false q0] at this
    exact this
  have e2:dEqU (rD q) (.tup [.int 0, .int 1])=some (.bl false):=e1
  have ty:∀ S,isTy S .tuple (rD q)=some true:=fun _=>rfl
  have b250:Bt q 250:=b.mono (by omega)
  refine ⟨aVi b,fun S => ?_,fun S => ?_,fun S => ?_⟩
  · have so:=aGz hN b250 S
    apply aAh
    rw [aBC,aAi,aC0]
    wp_walk using e0,e1,ty,so
  · have i0:∀ S,ixD S (rD q) (.int 0)=some (.int q.num):=fun _=>rfl
    have i1:∀ S,ixD S (rD q) (.int 1)=some (.int (q.den:Int)):=fun _=>rfl
    have hd:((q.den:Int)).natAbs<2 ^ 250:=by simpa using b250.2
    have f0:=aGD b250.1 S
    have f1:=aGD hd S
    have l1:=aIe b250.1
    have l2:=aIe hd
    have en:numI (q.den:Int)=TL.numL q.den:=by unfold numI;rw [if_neg (by omega)];rfl
    have a1:dAddS S (.str (Sx [47])) (.str (Sx (numI (q.den:Int))))=some (.str (Sx (47::numI (q.den:Int)))):=by
      have:=aNu (a:=[47]) (b:=numI (q.den:Int)) (by rw [List.length_singleton];omega) S
      exact this
    have a2:dAddS S (.str (Sx (numI q.num))) (.str (Sx (47::numI (q.den:Int))))=some (.str (Sx (numI q.num++47::numI (q.den:Int)))):=aNu (by rw [List.length_cons];omega) S
    have a3:dAddS S (.str (Sx (numI q.num))) (.str (Sx []))=some (.str (Sx (numI q.num++[]))):=aNu (by rw [List.length_nil];omega) S
    by_cases c:q.den=1
    · have e3:dEq (.int (q.den:Int)) (.int 1)=some (.bl true):=by rw [c];rfl
      have ib:fInt S [.bl true]=some (.int 1):=rfl
      have at1:∀ a b:G.D,L2.atI [a,b] 1=some b:=fun _ _=>rfl
      have tqe:tq q=numI q.num++[]:=by unfold tq;rw [if_pos c]
      rw [tqe]
      apply aAh
      rw [aAZ,aAi,aBY]
      wp_walk using e0,e2,ty,i0,i1,f0,f1,sl_S,a1,e3,ib,at1,aIg,a3
    · have e3:dEq (.int (q.den:Int)) (.int 1)=some (.bl false):=by
        show some (D.bl (decide ((q.den:Int)=1)))=_
        rw [decide_eq_false (by omega)]
      have ib:fInt S [.bl false]=some (.int 0):=rfl
      have at0:∀ a b:G.D,L2.atI [a,b] 0=some a:=fun _ _=>rfl
      have tqe:tq q=numI q.num++47::numI (q.den:Int):=by unfold tq;rw [if_neg c,en]
      rw [tqe]
      apply aAh
      rw [aAZ,aAi,aBY]
      wp_walk using e0,e2,ty,i0,i1,f0,f1,sl_S,a1,e3,ib,at0,a2
  · have lm:=aRt z S
    have ob:=aOw hN (q:=q) (aRs b) S
    have e3:dEq (.str (Sx (tq q))) (.str "-")=some (.bl false):=by
      rw [aE5,mi_S,S_eq,decide_eq_false]
      intro h
      have h45:numI q.num = [45]:=by
        have h2:tq q=numI q.num++(if q.den=1 then [] else 47::TL.numL q.den):=rfl
        rw [h2] at h
        cases hn:numI q.num with
        | nil=>exact absurd hn (aJJ _)
        | cons a l=>
          rw [hn] at h
          injection h with h1 h2
          rw [h1,(List.append_eq_nil_iff.mp h2).1]
      have hu:=aIi q.num.natAbs
      rw [← aRq,h45] at hu
      revert hu
      decide
    apply aAh
    rcases hz with rfl | rfl
    · rw [aBG,aAi,aCj]
      wp_walk using lm,e3,ob,e1
    · rw [aBG,aAi,aCj]
      wp_walk using lm,e3,ob,e1
theorem aVj {z:So}(hz:z = .le):Tx N z (rD 0) [45]:=by
  subst hz
  have e0:dIs (rD 0) .non=some (.bl false):=rfl
  have e1:dEq (rD 0) (.tup [.int 0, .int 1])=some (.bl true):=by
    have:=aEI 0 0
    rw [decide_eq_true rfl] at this
    exact this
  have e2:dEqU (rD 0) (.tup [.int 0, .int 1])=some (.bl true):=e1
  refine ⟨aXx,fun S => ?_,fun S => ?_,fun S => ?_⟩
  · apply aAh
    rw [aBC,aAi,aC0]
    wp_walk using e0,e1,mi_S
  · apply aAh
    rw [aAZ,aAi,aBY]
    wp_walk using e0,e2,mi_S
  · have lm:=aRt .le S
    have e3:dEq (.str (Sx [45])) (.str "-")=some (.bl true):=by rw [aE5,mi_S];rfl
    have e4:dEq (.str So.le.s) (.str "least")=some (.bl true):=rfl
    apply aAh
    rw [aBG,aAi,aCj]
    wp_walk using lm,e3,e4
    rfl
theorem aVk {z:So}(hz:z = .mo):Tx N z .non [45]:=by
  subst hz
  have e0:dIs .non .non=some (.bl true):=rfl
  refine ⟨aXx,fun S => ?_,fun S => ?_,fun S => ?_⟩
  · apply aAh
    rw [aBC,aAi,aC0]
    wp_walk using e0,mi_S
  · apply aAh
    rw [aAZ,aAi,aBY]
    wp_walk using e0,mi_S
  · have lm:=aRt .mo S
    have e3:dEq (.str (Sx [45])) (.str "-")=some (.bl true):=by rw [aE5,mi_S];rfl
    have e4:dEq (.str So.mo.s) (.str "least")=some (.bl false):=rfl
    apply aAh
    rw [aBG,aAi,aCj]
    wp_walk using lm,e3,e4
theorem aRv {x:Str}{z:So}(hz:z = .nm∨z = .wa) (hc:(PyData.str x).canLay0=true) (h1:x.cps.toList≠[]) (h75:x.cps.toList.length≤75) (h32:32∉x.cps.toList) (h10:10∉x.cps.toList):Tx N z (.str x) x.cps.toList:=by
  have e0:dIs (.str x) .non=some (.bl false):=rfl
  have e1:dEq (.str x) (.tup [.int 0, .int 1])=some (.bl false):=aTf 0 hc
  have e2:dEqU (.str x) (.tup [.int 0, .int 1])=some (.bl false):=e1
  have ty:∀ S,isTy S .tuple (.str x)=some false:=fun _=>rfl
  have fs:∀ S,fStr S [.str x]=some (.str x):=fun _=>rfl
  have ex:=aOx x
  refine ⟨⟨h1,h75,h32,h10⟩,fun S => ?_,fun S => ?_,fun S => ?_⟩
  · rw [ex]
    apply aAh
    rw [aBC,aAi,aC0]
    wp_walk using e0,e1,ty,fs
  · rw [ex]
    apply aAh
    rw [aAZ,aAi,aBY]
    wp_walk using e0,e2,ty,fs
  · rw [ex]
    have lm:=aRt z S
    have sw:=aXy z S
    apply aAh
    rcases hz with rfl | rfl
    · rw [aBG,aAi,aCj]
      wp_walk using lm,sw
    · rw [aBG,aAi,aCj]
      wp_walk using lm,sw
theorem aYJ (hN:big N) {d:G.D}(h:GP d) {z:So}(hz:z.B d=true):∃ a,Tx N z d a:=by
  have rt:(z = .le∨z = .mo)→rateB d=true→∃ a,Tx N z d a:=fun hzz e=>by
    unfold rateB at e
    rw [Bool.and_eq_true] at e
    obtain ⟨q,rfl,b⟩:=aER h.th e.1
    have hq:rateB (rD q)=true:=by unfold rateB;rw [e.1,e.2];rfl
    rw [aJG,decide_eq_true_eq] at hq
    exact ⟨_,aX1 hN (h.b q rfl) (by have:=hq.1;grind) hzz⟩
  have wi:∀ m:Int,m≤999→(z = .we∨z = .si)→wiB m d=true→∃ a,Tx N z d a:=fun m hm hzz e=>by
    unfold wiB at e
    split at e
    · rename_i i
      rw [Bool.and_eq_true,decide_eq_true_eq,decide_eq_true_eq] at e
      exact ⟨_,aX0 e.1 (by omega) hzz⟩
    · cases e
  cases z with
  | nm=>
    have e:nameB d=true:=hz
    unfold nameB at e
    split at e
    · rename_i x
      rw [Bool.and_eq_true,Bool.and_eq_true,decide_eq_true_eq,decide_eq_true_eq] at e
      obtain ⟨⟨e1,e2⟩,e3⟩:=e
      have hc:=fun c hc=>of_decide_eq_true (List.all_eq_true.mp e3 c hc)
      refine ⟨_,aRv (.inl rfl) ?_ (fun z=>by rw [z] at e1;simp at e1) (by omega) (fun z=>by have:=hc _ z;omega) (fun z=>by have:=hc _ z;omega)⟩
      show (x.cps.all fun c=>decide (c<0x110000))=true
      rw [Array.all_eq_true_iff_forall_mem]
      intro c hc'
      have:=hc c (by simpa using hc')
      exact decide_eq_true (by omega)
    · cases e
  | le=>
    have e:leastB d=true:=hz
    unfold leastB at e
    rw [Bool.or_eq_true] at e
    rcases e with e | e
    · exact rt (.inl rfl) e
    · unfold zB at e
      split at e
      · rename_i a b
        rw [Bool.and_eq_true,decide_eq_true_eq,decide_eq_true_eq] at e
        obtain ⟨rfl,rfl⟩:=e
        exact ⟨_,aVj rfl⟩
      · cases e
  | mo=>
    have e:mostB d=true:=hz
    unfold mostB at e
    split at e
    · exact ⟨_,aVk rfl⟩
    · exact rt (.inr rfl) e
  | we=>exact wi 99 (by omega) (.inl rfl) hz
  | si=>exact wi 999 (by omega) (.inr rfl) hz
  | wa=>
    have e:wayB d=true:=hz
    unfold wayB at e
    split at e
    · rename_i x
      rw [Bool.or_eq_true,decide_eq_true_eq,decide_eq_true_eq] at e
      rcases e with rfl | rfl
      · exact ⟨_,aRv (.inr rfl) (by decide +kernel) (by decide +kernel) (by decide +kernel) (by decide +kernel) (by decide +kernel)⟩
      · exact ⟨_,aRv (.inr rfl) (by decide +kernel) (by decide +kernel) (by decide +kernel) (by decide +kernel) (by decide +kernel)⟩
    · cases e
end
end Wk33
namespace Wk33
open PySem G C
theorem aRw:∀ l:List (List Nat),strsD (wS l)=some (l.map SX.S)
  | []=>rfl
  | a::l=>by
    show (strsD (wS l)).map (Sx a :: ·)=_
    rw [aRw l];rfl
theorem aRx {K:Nat}:∀ {l:List (List Nat)},(∀ a,a∈l→a.length≤K)→((l.map SX.S).map (·.length)).sum≤l.length*K
  | [],_=>Nat.zero_le _
  | a::l,ha=>by
    have h1:=ha a List.mem_cons_self
    have h2:=aRx (l:=l) fun x hx=>ha x (List.mem_cons_of_mem _ hx)
    rw [List.map_cons,List.map_cons,List.sum_cons,SX.S_len,List.length_cons,Nat.succ_mul]
    omega
theorem aLC {c K:Nat}{as:List (List Nat)}(h:∀ a,a∈as→a.length≤K) (hl:as.length*(K+1)≤1000000) (S:Store):fJoin S (.str (Sx [c])) [.lst (wS as)]=some (.str (Sx (TL.joinL [c] as))):=by
  have e1:seqD S (.lst (wS as))=some (wS as):=rfl
  have e3:Str.join (Sx [c]) (as.map SX.S)=Sx (TL.joinL [c] as):=by
    have e:=TL.tl_join (Sx [c]) (as.map SX.S)
    rw [SX.map_S_tl] at e
    exact TL.ext_tl e
  have sm:=aRx h
  have em:as.length*(K+1)=as.length*K+as.length:=Nat.mul_succ _ _
  unfold fJoin
  dsimp only
  rw [e1,Option.bind_some,aRw,Option.bind_some,if_pos (by
    rw [SX.S_len,List.length_map]
    show _+_*1≤_
    omega),e3]
theorem aDO {c K:Nat}:∀ {ps:List (List Nat)},(∀ p,p∈ps→p.length≤K)→(TL.joinL [c] ps).length≤ps.length*(K+1)
  | [],_=>Nat.zero_le _
  | [p],h=>by
    have:=h p List.mem_cons_self
    show p.length≤1*(K+1)
    omega
  | p::q::ps,h=>by
    have h1:=h p List.mem_cons_self
    have h2:=aDO (c:=c) (ps:=q::ps) fun x hx=>h x (List.mem_cons_of_mem _ hx)
    have e:TL.joinL [c] (p::q::ps)=p++[c]++TL.joinL [c] (q::ps):=by
      show p++([c]++TL.joinL [c] (q::ps))=_
      rw [List.append_assoc]
    rw [e,List.length_append,List.length_append,List.length_cons (a:=p),Nat.succ_mul]
    simp only [List.length_cons,List.length_nil] at h2 ⊢
    omega
theorem aIW {c d:Nat}(hcd:d≠c):∀ {ps:List (List Nat)},(∀ p,p∈ps→d∉p)→d∉TL.joinL [c] ps
  | [],_=>by intro z;cases z
  | [p],h=>h p List.mem_cons_self
  | p::q::ps,h=>by
    have h1:=h p List.mem_cons_self
    have h2:=aIW (c:=c) hcd (ps:=q::ps) fun x hx=>h x (List.mem_cons_of_mem _ hx)
    have e:TL.joinL [c] (p::q::ps)=p++[c]++TL.joinL [c] (q::ps):=by
      show p++([c]++TL.joinL [c] (q::ps))=_
      rw [List.append_assoc]
    rw [e]
    simp only [List.mem_append,List.mem_singleton,not_or]
    exact ⟨⟨h1,hcd⟩,h2⟩
theorem aNx {c:Nat}(hc:c<256) {ps:List (List Nat)}(hne:ps≠[]) (h:∀ p,p∈ps→c∉p) (hl:(TL.joinL [c] ps).length≤1000000) (S0:Store):fSplit S0 (.str (Sx (TL.joinL [c] ps))) [.str (Sx [c])]=some (.lst (wS ps)):=by
  show (if ((Sx [c]).length == 0)=false∧(Sx (TL.joinL [c] ps)).length≤1000000 then some (G.D.lst ((Txt.split (Sx (TL.joinL [c] ps)) (Sx [c])).map G.D.str)) else none)=_
  rw [if_pos ⟨rfl,by rw [SX.S_len];exact hl⟩,SX.split_S (by simp) (by simp [hc]),SX.spl_join hne h,List.map_map]
  rfl
theorem aX2 {N:Nat}(hN:big N):∀ {zs:List So}{ds:List G.D},ds.length=zs.length→(∀ d,d∈ds→GP d)→(List.zipWith So.B zs ds).all id=true→∃ as,Ps N zs ds as
  | [],[],_,_,_=>⟨[], .nil⟩
  | [],_::_,h,_,_=>by cases h
  | _::_,[],h,_,_=>by cases h
  | z::zs,d::ds,hl,hg,hz=>by
    rw [List.zipWith_cons_cons,List.all_cons,Bool.and_eq_true] at hz
    obtain ⟨as,h⟩:=aX2 hN (zs:=zs) (ds:=ds) (by simpa using hl) (fun x hx=>hg x (List.mem_cons_of_mem _ hx)) hz.2
    obtain ⟨a,ha⟩:=aYJ hN (hg d List.mem_cons_self) (z:=z) hz.1
    exact ⟨a::as, .cons ha h⟩
theorem Ps.wd {N:Nat}{zs:List So}{ds:List G.D}{as:List (List Nat)}(h:Ps N zs ds as):∀ a,a∈as→Wd a:=by
  induction h with
  | nil=>intro a z;cases z
  | cons t _ ih=>
    intro a ha
    rcases List.mem_cons.mp ha with rfl | ha
    · exact t.w
    · exact ih a ha
theorem aTn {w:Str}{ss:List So}(h:soT.lookup w=some ss):Wd w.cps.toList:=by
  by_cases hm:w∈soT.map (·.1)
  · unfold soT at hm
    simp only [List.map_cons,List.map_nil,List.mem_cons,List.not_mem_nil,or_false] at hm
    rcases hm with rfl | rfl | rfl | rfl | rfl | rfl | rfl | rfl<;>exact ⟨by decide +kernel,by decide +kernel,by decide +kernel,by decide +kernel⟩
  · rw [aNw w soT hm] at h;cases h
theorem bl_S:(" ":Str)=Sx [32]:=by decide +kernel
theorem aRy:("\n":Str)=Sx [10]:=by decide +kernel
section
variable {N:Nat}{S:Store}{w:Str}{q:Rat}{ps:List G.D}{ss:List So}{as:List (List Nat)}
theorem aS9 (hN:big N) (bq:Bt q 100) (hw:Wd w.cps.toList) (h:Ps N ss ps as) (h4:ps.length≤5):aDg N [.tup (.str w::rD q::ps)] S = .ok (.str (Sx (TL.joinL [32] (w.cps.toList::tq q::as)))) S:=by
  have et:=fun S=>aGz hN (bq.mono (by omega:100≤250)) S
  have wd:∀ a,a∈w.cps.toList::tq q::as→a.length≤75:=fun a ha=>by
    rcases List.mem_cons.mp ha with rfl | ha
    · exact hw.len
    · rcases List.mem_cons.mp ha with rfl | ha
      · exact aRs bq
      · exact (h.wd a ha).len
  have jn:=fun S=>aLC (c:=32) wd (by simp only [List.length_cons];have:=h.len.1;omega) S
  have le2:2≤ps.length+1+1:=by omega
  have tk:(G.D.str w::rD q::ps).take 2 = [.str w,rD q]:=rfl
  have dp:(G.D.str w::rD q::ps).drop 2=ps:=rfl
  have ew:G.D.str w = .str (Sx w.cps.toList):=by rw [aOx]
  apply aAh
  rw [aDg,aAi,aGs]
  wp_walk using aBR,le2,tk,dp,et
  refine lc_w (fun j acc S'=>S'=S∧j≤ps.length∧acc=wS (as.take j)) ⟨rfl,Nat.zero_le _,rfl⟩ ?_ ?_
  · rintro j d acc S' hd ⟨rfl,hj,rfl⟩
    have hlt:=(List.getElem?_eq_some_iff.mp hd).1
    obtain ⟨z,a,_,ha,tx⟩:=h.at_ hd
    have ex:=tx.sp
    have tm:∀ (d:G.D) (e:En),Tg.m (.nm 4) d e=some (e.set 4 (some d)):=fun _ _=>rfl
    have sz:(wS (as.take j)).length<sizeLine:=by rw [sizeLine_eq,List.length_map,List.length_take];omega
    have tk1:as.take (j+1)=as.take j++[a]:=by rw [List.take_add_one,ha];rfl
    rw [tk1]
    have em:wS (as.take j++[a])=wS (as.take j)++[.str (Sx a)]:=by unfold wS;rw [List.map_append];rfl
    rw [em]
    generalize wS (as.take j)=zs at sz ⊢
    wp_walk using tm,ex
    exact ⟨sz,hlt⟩
  · rintro acc S' ⟨rfl,hj,rfl⟩
    rw [← h.len.1,List.take_length]
    have ad:∀ S,dAddS S (.lst [.str w, .str (Sx (tq q))]) (.lst (wS as))=some (.lst (wS (w.cps.toList::tq q::as))):=fun S=>by
      show (if ([G.D.str w, .str (Sx (tq q))]).length+(wS as).length≤sizeLine then some (G.D.lst ([G.D.str w, .str (Sx (tq q))]++wS as)) else none)=_
      rw [if_pos (by rw [sizeLine_eq,List.length_map];have:=h.len.1;simp;omega),ew]
      rfl
    generalize hz:w.cps.toList::tq q::as=wl at jn ad ⊢
    generalize wS wl=zs at jn ad ⊢
    generalize wS as=zt at ad ⊢
    wp_walk using bl_S,ad,jn
theorem aSA (hN:big N) (bq:Bt q 100) (hw:Wd w.cps.toList) (h:Ps N ss ps as) (h4:ps.length≤5):aBB N [.tup (.str w::rD q::ps)] S = .ok (.str (Sx (TL.joinL [32] (w.cps.toList::tq q::as)))) S:=by
  have b250:Bt q 250:=bq.mono (by omega)
  have wd:∀ a,a∈w.cps.toList::tq q::as→a.length≤75:=fun a ha=>by
    rcases List.mem_cons.mp ha with rfl | ha
    · exact hw.len
    · rcases List.mem_cons.mp ha with rfl | ha
      · exact aRs bq
      · exact (h.wd a ha).len
  have jn:=fun S=>aLC (c:=32) wd (by simp only [List.length_cons];have:=h.len.1;omega) S
  have ew:G.D.str w = .str (Sx w.cps.toList):=by rw [aOx]
  have j0:∀ S,ixD S (.tup (.str w::rD q::ps)) (.int 0)=some (.str w):=fun S=>by rw [aBQ];exact L2.atI_nat (j:=0) rfl
  have j1:∀ S,ixD S (.tup (.str w::rD q::ps)) (.int 1)=some (rD q):=fun S=>by rw [aBQ];exact L2.atI_nat (j:=1) rfl
  have i0:∀ S,ixD S (rD q) (.int 0)=some (.int q.num):=fun _=>rfl
  have i1:∀ S,ixD S (rD q) (.int 1)=some (.int (q.den:Int)):=fun _=>rfl
  have hd:((q.den:Int)).natAbs<2 ^ 250:=by simpa using b250.2
  have f0:=aGD b250.1
  have f1:=aGD hd
  have l1:=aIe b250.1
  have l2:=aIe hd
  have en:numI (q.den:Int)=TL.numL q.den:=by unfold numI;rw [if_neg (by omega)];rfl
  have a1:∀ S,dAddS S (.str (Sx [47])) (.str (Sx (numI (q.den:Int))))=some (.str (Sx (47::numI (q.den:Int)))):=fun S=>aNu (a:=[47]) (b:=numI (q.den:Int)) (by rw [List.length_singleton];omega) S
  have a2:∀ S,dAddS S (.str (Sx (numI q.num))) (.str (Sx (47::numI (q.den:Int))))=some (.str (Sx (numI q.num++47::numI (q.den:Int)))):=fun S=>aNu (by rw [List.length_cons];omega) S
  have a3:∀ S,dAddS S (.str (Sx (numI q.num))) (.str (Sx []))=some (.str (Sx (numI q.num))):=fun S=>by
    have:=aNu (a:=numI q.num) (b:=[]) (by rw [List.length_nil];omega) S
    rw [List.append_nil] at this
    exact this
  have slA:∀ S,slDA S (.tup (.str w::rD q::ps)) (some 2) none=some (.tup ps):=fun S=>by
    show some (G.D.tup (cutL (.str w::rD q::ps) (some 2) none))=_
    unfold cutL
    have e2:HT.sIx (G.D.str w::rD q::ps).length 0 (some 2)=2:=by
      have:=HT.sIx_nat (G.D.str w::rD q::ps).length 0 2
      rw [show ((2:Nat):Int)=2 from rfl] at this
      rw [this]
      simp only [List.length_cons];omega
    have e3:HT.sIx (G.D.str w::rD q::ps).length (G.D.str w::rD q::ps).length none=(G.D.str w::rD q::ps).length:=HT.sIx_none _ _
    rw [e2,e3]
    show some (G.D.tup (List.take _ ps))=_
    rw [List.take_of_length_le (by simp only [List.length_cons];omega)]
  have fin:Ws ((sRet (eTm fJoin (eC (.str " ")) (aCons (eBinS dAddS (eLst (aCons (eBinS ixD (eVar 0) (eC (.int 0))) (aCons (eVar 1) aNil))) (eLc (iSeq (eSlA (eVar 0) (oSome (eC (.int 2))) oNone)) (.nm 2) tTrue (eCall (aAZ N) (nA 1 (aCons (eVar 2) aNil))) [2])) aNil))) [some (.tup (.str w::rD q::ps)),some (.str (Sx (tq q))),none] S) (KS.fn (eqQ (.str (Sx (TL.joinL [32] (w.cps.toList::tq q::as)))) S) nX):=by
    generalize hT:G.D.tup (.str w::rD q::ps)=T at j0 slA ⊢
    wp_walk using bl_S,j0,slA
    refine lc_w (fun j acc S'=>S'=S∧j≤ps.length∧acc=wS (as.take j)) ⟨rfl,Nat.zero_le _,rfl⟩ ?_ ?_
    · rintro j d acc S' hd ⟨rfl,hj,rfl⟩
      have hlt:=(List.getElem?_eq_some_iff.mp hd).1
      obtain ⟨z,a,_,ha,tx⟩:=h.at_ hd
      have ex:=tx.lw
      have tm:∀ (d:G.D) (e:En),Tg.m (.nm 2) d e=some (e.set 2 (some d)):=fun _ _=>rfl
      have sz:(wS (as.take j)).length<sizeLine:=by rw [sizeLine_eq,List.length_map,List.length_take];omega
      have tk1:as.take (j+1)=as.take j++[a]:=by rw [List.take_add_one,ha];rfl
      rw [tk1]
      have em:wS (as.take j++[a])=wS (as.take j)++[.str (Sx a)]:=by unfold wS;rw [List.map_append];rfl
      rw [em]
      generalize wS (as.take j)=zs at sz ⊢
      wp_walk using tm,ex
      exact ⟨sz,hlt⟩
    · rintro acc S' ⟨rfl,hj,rfl⟩
      rw [← h.len.1,List.take_length]
      have ad:∀ S,dAddS S (.lst [.str w, .str (Sx (tq q))]) (.lst (wS as))=some (.lst (wS (w.cps.toList::tq q::as))):=fun S=>by
        show (if ([G.D.str w, .str (Sx (tq q))]).length+(wS as).length≤sizeLine then some (G.D.lst ([G.D.str w, .str (Sx (tq q))]++wS as)) else none)=_
        rw [if_pos (by rw [sizeLine_eq,List.length_map];have:=h.len.1;simp;omega),ew]
        rfl
      generalize hz:w.cps.toList::tq q::as=wl at jn ad ⊢
      generalize wS wl=zs at jn ad ⊢
      generalize wS as=zt at ad ⊢
      wp_walk using ad,jn
  apply aAh
  rw [aBB,aAi,aF4]
  generalize (sRet (eTm fJoin (eC (.str " ")) (aCons (eBinS dAddS (eLst (aCons (eBinS ixD (eVar 0) (eC (.int 0))) (aCons (eVar 1) aNil))) (eLc (iSeq (eSlA (eVar 0) (oSome (eC (.int 2))) oNone)) (.nm 2) tTrue (eCall (aAZ N) (nA 1 (aCons (eVar 2) aNil))) [2])) aNil)))=st at fin ⊢
  generalize G.D.tup (.str w::rD q::ps)=T at j0 j1 fin ⊢
  by_cases c:q.den=1
  · have e3:dEq (.int (q.den:Int)) (.int 1)=some (.bl true):=by rw [c];rfl
    have ib:∀ S,fInt S [.bl true]=some (.int 1):=fun _=>rfl
    have at1:∀ a b:G.D,L2.atI [a,b] 1=some b:=fun _ _=>rfl
    have tqe:tq q=numI q.num:=by unfold tq;rw [if_pos c,List.append_nil]
    rw [tqe] at fin ⊢
    wp_walk using j1,i0,i1,f0,f1,sl_S,a1,e3,ib,at1,aIg,a3
    exact fin
  · have e3:dEq (.int (q.den:Int)) (.int 1)=some (.bl false):=by
      show some (G.D.bl (decide ((q.den:Int)=1)))=_
      rw [decide_eq_false (by omega)]
    have ib:∀ S,fInt S [.bl false]=some (.int 0):=fun _=>rfl
    have at0:∀ a b:G.D,L2.atI [a,b] 0=some a:=fun _ _=>rfl
    have tqe:tq q=numI q.num++47::numI (q.den:Int):=by unfold tq;rw [if_neg c,en]
    rw [tqe] at fin ⊢
    wp_walk using j1,i0,i1,f0,f1,sl_S,a1,e3,ib,at0,a2
    exact fin
end
end Wk33
namespace Wk33
open PySem G C
section
variable {N:Nat}{S:Store}{w:Str}{q:Rat}{ps:List G.D}{ss:List So}{as:List (List Nat)}
theorem aLD (hN:big N) (bq:Bt q 100) (hl:soT.lookup w=some ss) (h:Ps N ss ps as):aBN N [.str (Sx (TL.joinL [32] (w.cps.toList::tq q::as)))] S = .ok (.tup (.str w::rD q::ps)) S:=by
  have hw:=aTn hl
  have h4:=aJH hl
  have hln:=h.len
  have wd:∀ a,a∈w.cps.toList::tq q::as→Wd a:=fun a ha=>by
    rcases List.mem_cons.mp ha with rfl | ha
    · exact hw
    · rcases List.mem_cons.mp ha with rfl | ha
      · exact aVi bq
      · exact h.wd a ha
  have jl:=aDO (c:=32) (K:=75) fun a ha=>(wd a ha).len
  simp only [List.length_cons] at jl
  have sp:=fun S=>aNx (c:=32) (by omega) (ps:=w.cps.toList::tq q::as) (by simp) (fun a ha=>(wd a ha).bl) (by omega) S
  have ew:G.D.str (Sx w.cps.toList) = .str w:=by rw [aOx]
  have e0:wS (w.cps.toList::tq q::as) = .str w :: .str (Sx (tq q))::wS as:=by rw [← ew];rfl
  rw [e0] at sp
  have lk:=aOo w
  rw [hl] at lk
  have lk':C.aBM.lookup w=some (.tup (ss.map fun z => .str z.s)):=lk
  have sm:(C.aBM.lookup w).isSome=true:=by rw [lk'];rfl
  have f1:∀ S,fLen S [.lst (.str (Sx (tq q))::wS as)]=some (.int ((as.length+1:Nat):Int)):=fun S=>by
    have:lenD S (.lst (.str (Sx (tq q))::wS as))=some (as.length+1):=by
      show some (G.D.str (Sx (tq q))::wS as).length=_
      rw [List.length_cons,List.length_map]
    unfold fLen;simp only [this];rfl
  have f2:∀ S,fLen S [.tup (ss.map fun z => .str z.s)]=some (.int ((ss.length:Nat):Int)):=fun S=>by
    have:lenD S (.tup (ss.map fun z => .str z.s))=some ss.length:=by
      show some (ss.map fun z=>G.D.str z.s).length=_
      rw [List.length_map]
    unfold fLen;simp only [this];rfl
  have ad1:∀ S,dAddE S (.int 1) (.int ((ss.length:Nat):Int))=some (.int (1+(ss.length:Nat):Int)):=fun _=>rfl
  have ne1:dNe (.int ((as.length+1:Nat):Int)) (.int (1+(ss.length:Nat):Int))=some (.bl false):=by
    show some (G.D.bl (!decide (((as.length+1:Nat):Int)=1+(ss.length:Nat))))=_
    rw [decide_eq_true (by omega)];rfl
  have ob:=fun S=>aOw hN (q:=q) (aRs bq) S
  have t1:(G.D.str w :: .str (Sx (tq q))::wS as).take 1 = [.str w]:=rfl
  have d1:(G.D.str w :: .str (Sx (tq q))::wS as).drop 1 = .str (Sx (tq q))::wS as:=rfl
  have t2:(G.D.str (Sx (tq q))::wS as).take 1 = [.str (Sx (tq q))]:=rfl
  have d2:(G.D.str (Sx (tq q))::wS as).drop 1=wS as:=rfl
  have le1:1≤(wS as).length+1+1:=by omega
  have le2:1≤(wS as).length+1:=by omega
  apply aAh
  rw [aBN,aAi,aGJ]
  wp_walk using zstf,bl_S,sp,aB2,t1,d1,le1
  rw [ws_sIf]
  wp_walk using zstf,lk',sm,f1,f2,ad1,ne1
  generalize hP:C.aBM=PT at lk' ⊢
  wp_walk using zstf,ob,lk'
  have zl:=h.tk
  refine lc_w (fun j acc S'=>S'=S∧j≤ps.length∧acc=ps.take j) ⟨rfl,Nat.zero_le _,rfl⟩ ?_ ?_
  · rintro j d acc S' hd ⟨rfl,hj,rfl⟩
    have hlt:=(List.getElem?_eq_some_iff.mp hd).1
    rw [zl] at hlt
    have hp:ps[j]? = some ps[j]:=List.getElem?_eq_getElem hlt
    obtain ⟨z,a,hz,ha,tx⟩:=h.at_ hp
    have ed:d = .tup [.str (Sx a), .str z.s]:=by
      have:(zipD (wS as) (ss.map fun z=>G.D.str z.s))[j]? = some (.tup [.str (Sx a), .str z.s]):=by
        unfold zipD
        rw [List.getElem?_zipWith,List.getElem?_map,List.getElem?_map,ha,hz];rfl
      rw [this] at hd
      exact (Option.some.inj hd).symm
    subst ed
    have po:=tx.po
    have tm:∀ (a b:G.D) (w:En),Tg.m (.tp [5,6]) (G.D.tup [a,b]) w=some ((w.set 5 (some a)).set 6 (some b)):=fun _ _ _=>rfl
    have sz:(ps.take j).length<sizeLine:=by rw [sizeLine_eq,List.length_take];omega
    have tk1:ps.take (j+1)=ps.take j++[ps[j]]:=by rw [List.take_add_one,hp];rfl
    rw [tk1]
    generalize ps.take j=zs at sz ⊢
    wp_walk using tm,po
    exact ⟨sz,hlt⟩
  · rintro acc S' ⟨rfl,hj,rfl⟩
    rw [zl,List.take_length]
    have ad:∀ S,dAddE S (.tup [.str w,rD q]) (.tup ps)=some (.tup (.str w::rD q::ps)):=fun S=>aNt _ _ (by simp only [List.length_cons,List.length_nil];omega)
    wp_walk using ad
theorem aTo (hN:big N) {d:G.D}(g:RowG d) {a:G.D}(e:rowB d a=true):∃ line,RL N d line∧∃ w q ps,d = .tup (.str w::rD q::ps):=by
  obtain ⟨w,q,ps,ss,rfl,bq,q0,hl,el,hz⟩:=aOp g.th e
  obtain ⟨w',l,he,l1,l5,gw,gl⟩:=g.ex
  injection he with he
  injection he with he1 he2
  subst he2
  have b:=(gl (rD q) List.mem_cons_self).b q rfl
  obtain ⟨as,hp⟩:=aX2 hN el (fun d hd=>gl d (List.mem_cons_of_mem _ hd)) hz
  have h4:=aJH hl
  have hw:=aTn hl
  have hln:=hp.len
  have wd:∀ a,a∈w.cps.toList::tq q::as→Wd a:=fun a ha=>by
    rcases List.mem_cons.mp ha with rfl | ha
    · exact hw
    · rcases List.mem_cons.mp ha with rfl | ha
      · exact aVi b
      · exact hp.wd a ha
  have jl:=aDO (c:=32) (K:=75) fun a ha=>(wd a ha).len
  simp only [List.length_cons] at jl
  exact ⟨_,⟨aIW (by omega) fun a ha=>(wd a ha).nl,by omega,fun S=>aS9 hN b hw hp (by omega),fun S=>aSA hN b hw hp (by omega),fun S=>aLD hN b hl hp⟩,w,q,ps,rfl⟩
end
end Wk33
namespace Wk33
open PySem G C
theorem aRz:∀ {l:List G.D}{ps:List PyData},toPs l=some ps→∀ {m:List G.D}{qs:List PyData},toPs m=some qs→PyData.eqvAll ps qs=true→(∀ x,x∈l→∀ y p q,x.toP=some p→y.toP=some q→y∈m→PyData.eqv p q=true→x=y)→l=m
  | [],ps,h,[],qs,g,e,f=>rfl
  | [],ps,h,y::m,qs,g,e,f=>by
    cases h
    rw [toPs] at g
    split at g
    · cases g;cases e
    · cases g
  | x::l,ps,h,[],qs,g,e,f=>by
    cases g
    rw [toPs] at h
    split at h
    · cases h;cases e
    · cases h
  | x::l,ps,h,y::m,qs,g,e,f=>by
    rw [toPs] at h g
    split at h
    · rename_i p pl hp hl
      cases h
      split at g
      · rename_i q ql hq hm
        cases g
        have e':(PyData.eqv p q && PyData.eqvAll pl ql)=true:=e
        rw [Bool.and_eq_true] at e'
        have h1:=f x List.mem_cons_self y p q hp hq List.mem_cons_self e'.1
        have h2:=aRz hl hm e'.2 fun a ha b p q h1 h2 hb=>f a (List.mem_cons_of_mem _ ha) b p q h1 h2 (List.mem_cons_of_mem _ hb)
        rw [h1,h2]
      · cases g
    · cases h
theorem aVl {n:Nat}{d:G.D}(h:Pl n d):∀ {m:Nat}{e:G.D},Pl m e→∀ p q,d.toP=some p→e.toP=some q→PyData.eqv p q=true→d=e:=by
  induction h with
  | non=>
    intro m e he p q hp hq z
    cases hp
    cases he with
    | non=>rfl
    | int=>cases hq;cases z
    | str=>cases hq;cases z
    | tup=>
      rw [G.D.toP] at hq
      obtain ⟨ps,_,rfl⟩:=Option.map_eq_some_iff.mp hq
      cases z
  | int _ i=>
    intro m e he p q hp hq z
    cases hp
    cases he with
    | non=>cases hq;cases z
    | int _ j=>cases hq;rw [eq_of_beq (show (i == j)=true from z)]
    | str=>cases hq;cases z
    | tup=>
      rw [G.D.toP] at hq
      obtain ⟨ps,_,rfl⟩:=Option.map_eq_some_iff.mp hq
      cases z
  | @str _ x h=>
    intro m e he p q hp hq z
    cases hp
    cases he with
    | non=>cases hq;cases z
    | int=>cases hq;cases z
    | @str _ y h=>cases hq;rw [eq_of_beq (show (x == y)=true from z)]
    | tup=>
      rw [G.D.toP] at hq
      obtain ⟨ps,_,rfl⟩:=Option.map_eq_some_iff.mp hq
      cases z
  | @tup n l hl ih=>
    intro m e he p q hp hq z
    rw [G.D.toP] at hp
    obtain ⟨ps,h1,rfl⟩:=Option.map_eq_some_iff.mp hp
    cases he with
    | non=>cases hq;cases z
    | int=>cases hq;cases z
    | str=>cases hq;cases z
    | @tup m l' hl'=>
      rw [G.D.toP] at hq
      obtain ⟨qs,h2,rfl⟩:=Option.map_eq_some_iff.mp hq
      rw [aRz h1 h2 z fun x hx y p q a b hy c=>ih x hx (hl' y hy) p q a b c]
theorem aX3 {n m:Nat}{d e:G.D}(h:Pl n d) (h':Pl m e) (hn:n≤20) (hm:m≤20) (hd:∃ l,d = .tup l):∃ b:Bool,dEq d e=some (.bl b)∧(b=true↔d=e):=by
  obtain ⟨p,p1,p2,p3⟩:=h.toP
  obtain ⟨q,q1,q2,q3⟩:=h'.toP
  have s1:SeqAt.shaped p=true:=by
    unfold SeqAt.shaped
    rw [p2,decide_eq_true (by omega)];rfl
  have s2:SeqAt.shaped q=true:=by
    unfold SeqAt.shaped
    rw [q2,decide_eq_true (by omega)];rfl
  obtain ⟨l,rfl⟩:=hd
  have e2:∀ x,dEq (.tup l) x=(eqP (.tup l) x).map .bl:=fun _=>rfl
  refine ⟨PyData.eqv p q,?_,fun z=>aVl h h' p q p1 q1 z,fun z => ?_⟩
  · rw [e2]
    unfold eqP
    rw [p1,q1]
    dsimp only
    rw [s1,s2];rfl
  · subst z
    cases p1.symm.trans q1
    exact G.aOj _ p2
section
variable {N:Nat}{S:Store}
theorem aDF {f:SM}{d:G.D}(hb:(d = .non∨(∃ x,d = .str x∧(PyData.str x).canLay0=true)∨∃ i,d = .int i)):aBA N [d,d] S = .ok (.bl true) S∧aAP N [d,d] S = .ok (.bl true) S∧aAQ N [d,d] S = .ok (.bl true) S∧aBS N [d,d] S = .ok (.bl true) S:=by
  rcases hb with rfl | ⟨x,rfl,hx⟩ | ⟨i,rfl⟩
  · exact ⟨rfl,rfl,rfl,rfl⟩
  · have e:dEq (.str x) (.str x)=some (.bl true):=by rw [aE5,decide_eq_true rfl]
    have t1:∀ S,isTy S .tuple (.str x)=some false:=fun _=>rfl
    have t2:∀ S,isTy S .str (.str x)=some true:=fun _=>rfl
    have e0:dIs (.str x) .non=some (.bl false):=rfl
    refine ⟨?_,?_,?_,?_⟩
    · apply aAh
      rw [aBA,aAi,aDe]
      wp_walk using e,t1,t2,e0
    · apply aAh
      rw [aAP,aAi,aCA]
      wp_walk using e,t1,t2,e0
    · apply aAh
      rw [aAQ,aAi,aCB]
      wp_walk using e,t1,t2,e0
    · apply aAh
      rw [aBS,aAi,aDs]
      wp_walk using e,t1,t2,e0
  · have e:dEq (.int i) (.int i)=some (.bl true):=by rw [aDC,decide_eq_true rfl]
    have t1:∀ S,isTy S .tuple (.int i)=some false:=fun _=>rfl
    have t2:∀ S,isTy S .str (.int i)=some false:=fun _=>rfl
    have t3:∀ S,isTy S .int (.int i)=some true:=fun _=>rfl
    have t4:∀ S,isTy S .bool (.int i)=some false:=fun _=>rfl
    have e0:dIs (.int i) .non=some (.bl false):=rfl
    refine ⟨?_,?_,?_,?_⟩
    · apply aAh
      rw [aBA,aAi,aDe]
      wp_walk using e,t1,t2,t3,t4,e0
    · apply aAh
      rw [aAP,aAi,aCA]
      wp_walk using e,t1,t2,t3,t4,e0
    · apply aAh
      rw [aAQ,aAi,aCB]
      wp_walk using e,t1,t2,t3,t4,e0
    · apply aAh
      rw [aBS,aAi,aDs]
      wp_walk using e,t1,t2,t3,t4,e0
theorem aVm {l:List G.D}(hl:l.length≤1000) (h:∀ x,x∈l→∀ S,aBA N [x,x] S = .ok (.bl true) S):aAP N [.tup l, .tup l] S = .ok (.bl true) S:=by
  have t1:∀ S,isTy S .tuple (.tup l)=some true:=fun _=>rfl
  have ln:∀ S,fLen S [.tup l]=some (.int (l.length:Nat)):=fun S=>by
    have:lenD S (.tup l)=some l.length:=rfl
    unfold fLen;simp only [this];rfl
  have ne:dNe (.int (l.length:Nat)) (.int (l.length:Nat))=some (.bl false):=by
    show some (G.D.bl (!decide (((l.length:Nat):Int)=(l.length:Nat))))=_
    rw [decide_eq_true rfl];rfl
  have ix:∀ S (j:Nat) (x:G.D),l[j]? = some x→ixD S (.tup l) (.int (j:Nat))=some x:=fun S j x hj=>by
    rw [aBQ];exact L2.atI_nat (j:=j) hj
  obtain ⟨L,hL⟩:∃ L:Int,((l.length:Nat):Int)=L:=⟨_,rfl⟩
  rw [hL] at ln ne
  apply aAh
  rw [aAP,aAi,aCA]
  generalize hT:G.D.tup l=T at t1 ln ix ⊢
  rw [ws_sSeq,ws_sIf]
  wp_walk using zxtf,t1
  rw [ws_sIf]
  wp_walk using zxtf,t1,ln,ne
  refine ⟨by omega,?_⟩
  have hLn:L.toNat=l.length:=by omega
  refine lc_w (fun i acc S'=>S'=S∧i≤l.length∧acc=(List.replicate i true).map G.D.bl) ⟨rfl,Nat.zero_le _,rfl⟩ ?_ ?_
  · rintro i d acc S' hd ⟨rfl,hi,rfl⟩
    obtain ⟨rfl,hlt⟩:=aGa hd
    rw [hLn] at hlt
    have tm:∀ (d:G.D) (e:En),Tg.m (.nm 2) d e=some (e.set 2 (some d)):=fun _ _=>rfl
    have gi:l[i]? = some l[i]:=List.getElem?_eq_getElem hlt
    have ixi:=fun S=>ix S i _ gi
    have hx:=h l[i] (List.getElem_mem hlt)
    have sz:((List.replicate i true).map G.D.bl).length<sizeLine:=by rw [sizeLine_eq,List.length_map,List.length_replicate];omega
    have em:(List.replicate (i+1) true).map G.D.bl=(List.replicate i true).map G.D.bl++[.bl true]:=by rw [List.replicate_succ',List.map_append];rfl
    rw [em]
    generalize (List.replicate i true).map G.D.bl=zs at sz ⊢
    wp_walk using tm,ixi,hx
    exact ⟨sz,hlt⟩
  · rintro acc S' ⟨rfl,hi,rfl⟩
    rw [aDN,hLn]
    have fa:fAll S' [.lst ((List.replicate l.length true).map G.D.bl)]=some (.bl true):=by
      have:=aET S' (List.replicate l.length true)
      rw [this]
      have:(List.replicate l.length true).all id=true:=List.all_eq_true.mpr fun b hb=>(List.mem_replicate.mp hb).2
      rw [this]
    wp_walk using fa
theorem aVn {l:List G.D}(hl:l.length≤1000) (h:∀ x,x∈l→∀ S,aAP N [x,x] S = .ok (.bl true) S):aAQ N [.tup l, .tup l] S = .ok (.bl true) S:=by
  have t1:∀ S,isTy S .tuple (.tup l)=some true:=fun _=>rfl
  have ln:∀ S,fLen S [.tup l]=some (.int (l.length:Nat)):=fun S=>by
    have:lenD S (.tup l)=some l.length:=rfl
    unfold fLen;simp only [this];rfl
  have ne:dNe (.int (l.length:Nat)) (.int (l.length:Nat))=some (.bl false):=by
    show some (G.D.bl (!decide (((l.length:Nat):Int)=(l.length:Nat))))=_
    rw [decide_eq_true rfl];rfl
  have ix:∀ S (j:Nat) (x:G.D),l[j]? = some x→ixD S (.tup l) (.int (j:Nat))=some x:=fun S j x hj=>by
    rw [aBQ];exact L2.atI_nat (j:=j) hj
  obtain ⟨L,hL⟩:∃ L:Int,((l.length:Nat):Int)=L:=⟨_,rfl⟩
  rw [hL] at ln ne
  apply aAh
  rw [aAQ,aAi,aCB]
  generalize hT:G.D.tup l=T at t1 ln ix ⊢
  rw [ws_sSeq,ws_sIf]
  wp_walk using zxtf,t1
  rw [ws_sIf]
  wp_walk using zxtf,t1,ln,ne
  refine ⟨by omega,?_⟩
  have hLn:L.toNat=l.length:=by omega
  refine lc_w (fun i acc S'=>S'=S∧i≤l.length∧acc=(List.replicate i true).map G.D.bl) ⟨rfl,Nat.zero_le _,rfl⟩ ?_ ?_
  · rintro i d acc S' hd ⟨rfl,hi,rfl⟩
    obtain ⟨rfl,hlt⟩:=aGa hd
    rw [hLn] at hlt
    have tm:∀ (d:G.D) (e:En),Tg.m (.nm 2) d e=some (e.set 2 (some d)):=fun _ _=>rfl
    have gi:l[i]? = some l[i]:=List.getElem?_eq_getElem hlt
    have ixi:=fun S=>ix S i _ gi
    have hx:=h l[i] (List.getElem_mem hlt)
    have sz:((List.replicate i true).map G.D.bl).length<sizeLine:=by rw [sizeLine_eq,List.length_map,List.length_replicate];omega
    have em:(List.replicate (i+1) true).map G.D.bl=(List.replicate i true).map G.D.bl++[.bl true]:=by rw [List.replicate_succ',List.map_append];rfl
    rw [em]
    generalize (List.replicate i true).map G.D.bl=zs at sz ⊢
    wp_walk using tm,ixi,hx
    exact ⟨sz,hlt⟩
  · rintro acc S' ⟨rfl,hi,rfl⟩
    rw [aDN,hLn]
    have fa:fAll S' [.lst ((List.replicate l.length true).map G.D.bl)]=some (.bl true):=by
      have:=aET S' (List.replicate l.length true)
      rw [this]
      have:(List.replicate l.length true).all id=true:=List.all_eq_true.mpr fun b hb=>(List.mem_replicate.mp hb).2
      rw [this]
    wp_walk using fa
theorem aVo {l:List G.D}(hl:l.length≤1000) (h:∀ x,x∈l→∀ S,aAQ N [x,x] S = .ok (.bl true) S):aBS N [.tup l, .tup l] S = .ok (.bl true) S:=by
  have t1:∀ S,isTy S .tuple (.tup l)=some true:=fun _=>rfl
  have ln:∀ S,fLen S [.tup l]=some (.int (l.length:Nat)):=fun S=>by
    have:lenD S (.tup l)=some l.length:=rfl
    unfold fLen;simp only [this];rfl
  have ne:dNe (.int (l.length:Nat)) (.int (l.length:Nat))=some (.bl false):=by
    show some (G.D.bl (!decide (((l.length:Nat):Int)=(l.length:Nat))))=_
    rw [decide_eq_true rfl];rfl
  have ix:∀ S (j:Nat) (x:G.D),l[j]? = some x→ixD S (.tup l) (.int (j:Nat))=some x:=fun S j x hj=>by
    rw [aBQ];exact L2.atI_nat (j:=j) hj
  obtain ⟨L,hL⟩:∃ L:Int,((l.length:Nat):Int)=L:=⟨_,rfl⟩
  rw [hL] at ln ne
  apply aAh
  rw [aBS,aAi,aDs]
  generalize hT:G.D.tup l=T at t1 ln ix ⊢
  rw [ws_sSeq,ws_sIf]
  wp_walk using zxtf,t1
  rw [ws_sIf]
  wp_walk using zxtf,t1,ln,ne
  refine ⟨by omega,?_⟩
  have hLn:L.toNat=l.length:=by omega
  refine lc_w (fun i acc S'=>S'=S∧i≤l.length∧acc=(List.replicate i true).map G.D.bl) ⟨rfl,Nat.zero_le _,rfl⟩ ?_ ?_
  · rintro i d acc S' hd ⟨rfl,hi,rfl⟩
    obtain ⟨rfl,hlt⟩:=aGa hd
    rw [hLn] at hlt
    have tm:∀ (d:G.D) (e:En),Tg.m (.nm 2) d e=some (e.set 2 (some d)):=fun _ _=>rfl
    have gi:l[i]? = some l[i]:=List.getElem?_eq_getElem hlt
    have ixi:=fun S=>ix S i _ gi
    have hx:=h l[i] (List.getElem_mem hlt)
    have sz:((List.replicate i true).map G.D.bl).length<sizeLine:=by rw [sizeLine_eq,List.length_map,List.length_replicate];omega
    have em:(List.replicate (i+1) true).map G.D.bl=(List.replicate i true).map G.D.bl++[.bl true]:=by rw [List.replicate_succ',List.map_append];rfl
    rw [em]
    generalize (List.replicate i true).map G.D.bl=zs at sz ⊢
    wp_walk using tm,ixi,hx
    exact ⟨sz,hlt⟩
  · rintro acc S' ⟨rfl,hi,rfl⟩
    rw [aDN,hLn]
    have fa:fAll S' [.lst ((List.replicate l.length true).map G.D.bl)]=some (.bl true):=by
      have:=aET S' (List.replicate l.length true)
      rw [this]
      have:(List.replicate l.length true).all id=true:=List.all_eq_true.mpr fun b hb=>(List.mem_replicate.mp hb).2
      rw [this]
    wp_walk using fa
theorem aVp {d:G.D}(h:Pl 0 d):d = .non∨(∃ x,d = .str x∧(PyData.str x).canLay0=true)∨∃ i,d = .int i:=by
  cases h with
  | non=>exact .inl rfl
  | int=>exact .inr (.inr ⟨_,rfl⟩)
  | str _ h=>exact .inr (.inl ⟨_,rfl,h⟩)
inductive Fw:G.D→Prop
  | non:Fw .non
  | int (i:Int):Fw (.int i)
  | str (x:Str):Fw (.str x)
  | tup {l:List G.D}(hl:l.length≤1000) (h:∀ d,d∈l→Fw d):Fw (.tup l)
theorem aLE {l:List G.D}(h:Fw (.tup l)):l.length≤1000∧∀ d,d∈l→Fw d:=by
  cases h with
  | tup a b=>exact ⟨a,b⟩
theorem is2 {d:G.D}(h:Pl 1 d) (f:Fw d):aAP N [d,d] S = .ok (.bl true) S:=by
  cases h with
  | non=>exact (aDF (f:=sNop) (.inl rfl)).2.1
  | int _ i=>exact (aDF (f:=sNop) (.inr (.inr ⟨i,rfl⟩))).2.1
  | str _ hx=>exact (aDF (f:=sNop) (.inr (.inl ⟨_,rfl,hx⟩))).2.1
  | tup h=>exact aVm (aLE f).1 fun x hx S=>(aDF (f:=sNop) (aVp (h x hx))).1
theorem is1 {d:G.D}(h:Pl 2 d) (f:Fw d):aAQ N [d,d] S = .ok (.bl true) S:=by
  cases h with
  | non=>exact (aDF (f:=sNop) (.inl rfl)).2.2.1
  | int _ i=>exact (aDF (f:=sNop) (.inr (.inr ⟨i,rfl⟩))).2.2.1
  | str _ hx=>exact (aDF (f:=sNop) (.inr (.inl ⟨_,rfl,hx⟩))).2.2.1
  | tup h=>exact aVn (aLE f).1 fun x hx S=>is2 (h x hx) ((aLE f).2 x hx)
theorem is0 {d:G.D}(h:Pl 3 d) (f:Fw d):aBS N [d,d] S = .ok (.bl true) S:=by
  cases h with
  | non=>exact (aDF (f:=sNop) (.inl rfl)).2.2.2
  | int _ i=>exact (aDF (f:=sNop) (.inr (.inr ⟨i,rfl⟩))).2.2.2
  | str _ hx=>exact (aDF (f:=sNop) (.inr (.inl ⟨_,rfl,hx⟩))).2.2.2
  | tup h=>exact aVo (aLE f).1 fun x hx S=>is1 (h x hx) ((aLE f).2 x hx)
end
end Wk33
namespace Wk33
open PySem G C
theorem aR0:∀ (l:List G.D) (i:Nat) (a:G.D),oddB i a l = .non→∀ j d,l[j]? = some d→rowB d (match j with | 0=>a | j+1=>(l[j]?).getD .non)=true
  | d::l,i,a,h,j,x,hx=>by
    rw [oddB] at h
    split at h
    · rename_i c
      cases j with
      | zero=>cases hx;exact c
      | succ j=>
        have:=aR0 l (i+1) d h j x hx
        cases j with
        | zero=>exact this
        | succ j=>exact this
    · cases h
theorem aTp {N:Nat}(hN:big N):∀ {l:List G.D},(∀ d,d∈l→RowG d)→(∀ d,d∈l→∃ a,rowB d a=true)→∃ ls,Rls N l ls
  | [],_,_=>⟨[], .nil⟩
  | d::l,g,r=>by
    obtain ⟨ls,h⟩:=aTp hN (l:=l) (fun x hx=>g x (List.mem_cons_of_mem _ hx)) fun x hx=>r x (List.mem_cons_of_mem _ hx)
    obtain ⟨a,e⟩:=r d List.mem_cons_self
    obtain ⟨line,hl,_⟩:=aTo hN (g d List.mem_cons_self) e
    exact ⟨line::ls, .cons hl h⟩
section
variable {N:Nat}{S:Store}{l:List G.D}{ls:List (List Nat)}
theorem aNy (hN:big N) (rl:Rls N l ls) (hg:∀ d,d∈l→RowG d) (hl:l.length≤100) (e:oddB 0 .non l = .non):aCe N [.tup l] S = .ok (.str (Sx (TL.joinL [10] ls))) S:=by
  have fo:=aL8 (N:=N) (S:=S) hN fun d hd=>(hg d hd).th
  rw [e] at fo
  have d1:dIsNot .non .non=some (.bl false):=rfl
  have cf:aCd N [.tup l] S = .ok .non S:=by
    apply aAh
    rw [aCd,aAi,aC9]
    wp_walk using fo,d1
  have hln:=rl.len
  have jn:=fun S=>aLC (c:=10) (K:=600) (fun a ha=>(rl.all a ha).2) (by omega) S
  apply aAh
  rw [aCe,aAi,aGt]
  wp_walk using cf
  refine lc_w (fun j acc S'=>S'=S∧j≤l.length∧acc=wS (ls.take j)) ⟨rfl,Nat.zero_le _,rfl⟩ ?_ ?_
  · rintro j d acc S' hd ⟨rfl,hj,rfl⟩
    have hlt:=(List.getElem?_eq_some_iff.mp hd).1
    obtain ⟨a,ha,r⟩:=rl.at_ hd
    have ex:=r.sr
    have tm:∀ (d:G.D) (e:En),Tg.m (.nm 1) d e=some (e.set 1 (some d)):=fun _ _=>rfl
    have sz:(wS (ls.take j)).length<sizeLine:=by rw [sizeLine_eq,List.length_map,List.length_take];omega
    have em:wS (ls.take (j+1))=wS (ls.take j)++[.str (Sx a)]:=by rw [List.take_add_one,ha];unfold wS;rw [List.map_append];rfl
    rw [em]
    generalize wS (ls.take j)=zs at sz ⊢
    wp_walk using tm,ex
    exact ⟨sz,hlt⟩
  · rintro acc S' ⟨rfl,hj,rfl⟩
    rw [← hln,List.take_length]
    generalize wS ls=zs at jn ⊢
    wp_walk using aRy,jn
theorem aX4 {x0 x1 x2 x4 x5:Option G.D}{Q X:QP G.D}(rl:Rls N l ls) (hl:l.length≤100) (h:Q (.str (Sx (TL.joinL [10] ls))) S) :
    Wr (eTm fJoin (eC (.str "\n")) (aCons (eLc (iSeq (eVar 3)) (.nm 5) tTrue (eCall (aBB N) (nA 1 (aCons (eVar 5) aNil))) [5]) aNil) [x0,x1,x2,some (.tup l),x4,x5] S) Q X:=by
  have hln:=rl.len
  have jn:=fun S=>aLC (c:=10) (K:=600) (fun a ha=>(rl.all a ha).2) (by omega) S
  wp_walk using G.aBh
  refine lc_w (fun j acc S'=>S'=S∧j≤l.length∧acc=wS (ls.take j)) ⟨rfl,Nat.zero_le _,rfl⟩ ?_ ?_
  · rintro j d acc S' hd ⟨rfl,hj,rfl⟩
    have hlt:=(List.getElem?_eq_some_iff.mp hd).1
    obtain ⟨a,ha,r⟩:=rl.at_ hd
    have ex:=r.ll
    have tm:∀ (d:G.D) (e:En),Tg.m (.nm 5) d e=some (e.set 5 (some d)):=fun _ _=>rfl
    have sz:(wS (ls.take j)).length<sizeLine:=by rw [sizeLine_eq,List.length_map,List.length_take];omega
    have em:wS (ls.take (j+1))=wS (ls.take j)++[.str (Sx a)]:=by rw [List.take_add_one,ha];unfold wS;rw [List.map_append];rfl
    rw [em]
    generalize wS (ls.take j)=zs at sz ⊢
    wp_walk using tm,ex
    exact ⟨sz,hlt⟩
  · rintro acc S' ⟨rfl,hj,rfl⟩
    rw [← hln,List.take_length]
    generalize wS ls=zs at jn ⊢
    wp_walk using aRy,jn
    exact h
end
end Wk33
namespace Wk33
open PySem G C
def rdB (N:Nat):SM:=(sSeq (sSet 4 (eC .non))
    (sSeq (sTryG [([tbR rsL 4],none,(sSet 4 (eC .non)))] (sSet 4 (eCall (aBN N) (nA 1 (aCons (eVar 3) aNil)))))
    (sSeq (sIf (tOr' (tB (eBin dIs (eVar 4) (eC .non))) (tNt (tT (eCall (aC8 N) (nA 2 (aCons (eVar 4) (aCons (eIf (tB (eBinS dNeS (eVar 1) (eLst aNil))) (eBinS ixD (eVar 1) (eNeg (eC (.int 1)))) (eC .non)) aNil))))))) (sRaiseF 4 4 (eVar 2)) sNop)
    (sDrop (eApp (eVar 1) (aCons (eVar 4) aNil))))))
def rdE:SM:=(sSeq (sIf (tB (eBin dNe (eBinS ixD (eBinS ixD (eVar 1) (eNeg (eC (.int 1)))) (eC (.int 0))) (eC (.str "now")))) (sRaiseF 4 4 (eCa fLen (aCons (eVar 1) aNil))) sNop)
    (sRet (eCa fTuple (aCons (eVar 1) aNil))))
theorem aVq (N:Nat):aGr N=(sSeq (sIf (tNt (tT (eIsTy .str (eVar 0)))) (sRaiseF 4 4 (eC (.int 0))) sNop)
    (sSeq (sSet 1 (eNew aNil))
    (sSeq (sFor (iEnum (aCons (eTm fSplit (eVar 0) (aCons (eC (.str "\n")) aNil)) aNil)) (gTp 2 (gsCons' (gN 2) (gsCons' (gN 3) gsNil))) (rdB N)) rdE))):=rfl
theorem aOi {α:Type}(l:List α) (a:α):L2.atI (l++[a]) (-1)=some a:=by
  unfold L2.atI L2.ixN
  have e:((-1:Int)+((l++[a]).length:Nat)).toNat=l.length:=by rw [List.length_append,List.length_singleton];omega
  rw [if_neg (by omega),if_pos (by rw [List.length_append,List.length_singleton];omega),e]
  simp
def prv (l:List G.D):G.D:=l.getLast?.getD .non
theorem aR1:prv [] = .non:=rfl
theorem aG0 (l:List G.D) (d:G.D):prv (l++[d])=d:=by unfold prv;simp
theorem aVr {d:G.D}(h:RowG d):Cmp d:=by
  obtain ⟨w,l,rfl,_,_,gw,gl⟩:=h.ex
  have pl:Pl 2 (.tup (.str w::l)):=.tup fun x hx=>by
    rcases List.mem_cons.mp hx with rfl | hx
    · exact gw.pl
    · exact (gl x hx).pl
  obtain ⟨p,h1,h2,h3⟩:=pl.toP
  exact ⟨p,h1,h2,by omega⟩
section
variable {N:Nat}{S:Store}{r:Addr}{rows:List G.D}{k:KS}
theorem aR2 (hr:S[r]? = some (.lst rows)) (hg:∀ d,d∈rows→RowG d):dNeS S (.loc r) (.lst [])=some (.bl (!decide (rows = [])))∧(rows≠[]→ixD S (.loc r) (.int (-1))=some (prv rows)):=by
  refine ⟨G.aS3 hr fun d hd=>aVr (hg d hd),fun hne => ?_⟩
  rw [aNr _ hr]
  obtain ⟨x,y,rfl⟩:∃ x y,rows=x++[y]:=⟨rows.dropLast,rows.getLast hne,(List.dropLast_concat_getLast hne).symm⟩
  rw [aOi,aG0]
theorem aTq (hg:∀ d,d∈rows→RowG d) (hb:∀ d,d∈rows→∃ a,rowB d a=true):AhOk (prv rows):=by
  rcases List.eq_nil_or_concat rows with rfl | ⟨l,d,rfl⟩
  · exact .non
  · rw [List.concat_eq_append,aG0]
    rw [List.concat_eq_append] at hg hb
    obtain ⟨a,e⟩:=hb d (by simp)
    exact aOq (hg d (by simp)).th e
theorem aVs (hN:big N) {a:List Nat}{d:G.D}{x0 x2 x4:Option G.D}(rl:RL N d a) (g:RowG d) (hr:S[r]? = some (.lst rows)) (hg:∀ d,d∈rows→RowG d) (hb:∀ d,d∈rows→∃ a,rowB d a=true) (hl:rows.length≤200) (hd:rowB d (prv rows)=true)
    (h:k.nx [x0,some (.loc r),x2,some (.str (Sx a)),some d] (S.set r (.lst (rows++[d])))) :
    Ws (rdB N [x0,some (.loc r),x2,some (.str (Sx a)),x4] S) k:=by
  have ro:=rl.ro
  obtain ⟨ne,ix⟩:=aR2 hr hg
  have ah:=aTq hg hb
  have ir:=aIf (N:=N) (S:=S) hN g.th ah
  rw [hd] at ir
  have ap:=aOe (y:=d) hr (by rw [sizeLine_eq];omega)
  have il:isLst S (.loc r)=true:=by
    have:seqD S (.loc r)=some rows:=by (show (match S[r]? with | some (.lst l)=>some l | _=>none)=some rows);rw [hr]
    unfold isLst
    rw [this];rfl
  have d1:dIs d .non=some (.bl false):=by
    obtain ⟨w,l,rfl,_⟩:=g.ex
    rfl
  by_cases c:rows = []
  · subst c
    rw [decide_eq_true rfl] at ne
    rw [aR1] at ir
    unfold rdB
    wp_walk using ws_sTryG,aIM,ro,d1,ne,ir,ap
    exact ⟨il,h⟩
  · rw [decide_eq_false c] at ne
    have ix:=ix c
    unfold rdB
    wp_walk using ws_sTryG,aIM,ro,d1,ne,ix,ir,ap
    exact ⟨il,h⟩
theorem aX5 (hN:big N) {b:List Nat}{i:Nat}{x0 x4:Option G.D}(hr:S[r]? = some (.lst rows)) (hg:∀ d,d∈rows→RowG d) (hb:∀ d,d∈rows→∃ a,rowB d a=true)
    (hd:aBN N [.str (Sx b)] S = .exc (.exc 4 [(4, .int 0)]) S∨∃ d,aBN N [.str (Sx b)] S = .ok d S∧RowTh d∧dIs d .non=some (.bl false)∧rowB d (prv rows)=false)
    (h:∀ e,k.ex (.exc 4 [(4, .int (i:Nat))]) e S) :
    Ws (rdB N [x0,some (.loc r),some (.int (i:Nat)),some (.str (Sx b)),x4] S) k:=by
  rcases hd with ro | ⟨d,ro,g,d1,hd⟩
  · have d1:dIs .non .non=some (.bl true):=rfl
    have tb:tbAny [tbR rsL 4] 4=some true:=by decide
    unfold rdB
    wp_walk using ws_sTryG,aIM,ro,aSY,ws_hd_cons,tb,aWu,aK3,ws_suN,aSZ,d1,ws_sRaiseF,aO8
    exact h _
  · obtain ⟨ne,ix⟩:=aR2 hr hg
    have ah:=aTq hg hb
    have ir:=aIf (N:=N) (S:=S) hN g ah
    rw [hd] at ir
    by_cases c:rows = []
    · subst c
      rw [decide_eq_true rfl] at ne
      rw [aR1] at ir
      unfold rdB
      wp_walk using ws_sTryG,aIM,ro,d1,ne,ir,ws_sRaiseF,aO8
      exact h _
    · rw [decide_eq_false c] at ne
      have ix:=ix c
      unfold rdB
      wp_walk using ws_sTryG,aIM,ro,d1,ne,ix,ir,ws_sRaiseF,aO8
      exact h _
end
end Wk33
namespace Wk33
open PySem G C
theorem aTr {ls:List (List Nat)}{j:Nat}{a:List Nat}(h:ls[j]? = some a):(wS ls)[j]? = some (.str (Sx a)):=by unfold wS;rw [List.getElem?_map,h];rfl
theorem aR3 {d a:G.D}(e:rowB d a=true) (g:RowG d):∃ w q ps,d = .tup (.str w::rD q::ps):=by
  obtain ⟨w,q,ps,ss,rfl,_⟩:=aOp g.th e
  exact ⟨w,q,ps,rfl⟩
section
variable {N:Nat}{S:Store}{l:List G.D}{ls:List (List Nat)}
abbrev Chn (l:List G.D):Prop:=∀ j d,l[j]? = some d→rowB d (prv (l.take j))=true
theorem Chn.some_ {l:List G.D}(h:Chn l) (j:Nat):∀ d,d∈l.take j→∃ a,rowB d a=true:=fun d hd=>by
  obtain ⟨i,hi,e⟩:=List.getElem_of_mem (List.mem_of_mem_take hd)
  exact ⟨_,h i d (by rw [← e];exact List.getElem?_eq_getElem hi)⟩
theorem aOy (hN:big N) (rl:Rls N l ls) (hg:∀ d,d∈l→RowG d) (hl:l.length≤100) (hc:Chn l) (hne:l≠[]) {bs:List (List Nat)}
    (hb:bs = []∨∃ b,bs = [b]∧10∉b∧b.length≤600∧∀ S,aBN N [.str (Sx b)] S = .exc (.exc 4 [(4, .int 0)]) S∨∃ d,aBN N [.str (Sx b)] S = .ok d S∧RowTh d∧dIs d .non=some (.bl false)∧rowB d (prv l)=false)
    {Q X:QP G.D}(hx:(bs≠[]∨nowB (prv l)=false)→X (.exc 4 [(4, .int (l.length:Nat))]) (S++[.lst l])) (hq:bs = []→nowB (prv l)=true→Q (.tup l) (S++[.lst l])) :
    Wr (aBH N [.str (Sx (TL.joinL [10] (ls++bs)))] S) Q X:=by
  have hln:=rl.len
  have ha:=rl.all
  have lb:bs.length≤1:=by
    rcases hb with rfl | ⟨b,rfl,_⟩
    · exact Nat.zero_le _
    · exact Nat.le_refl _
  have hall:∀ a,a∈ls++bs→10∉a∧a.length≤600:=fun a h=>by
    rcases List.mem_append.mp h with h | h
    · exact ha a h
    · rcases hb with rfl | ⟨b,rfl,b1,b2,_⟩
      · cases h
      · rw [List.mem_singleton.mp h];exact ⟨b1,b2⟩
  have jl:=aDO (c:=10) (K:=600) fun a h=>(hall a h).2
  rw [List.length_append] at jl
  have sp:=fun S=>aNx (c:=10) (by omega) (ps:=ls++bs) (fun z=>hne (List.eq_nil_of_length_eq_zero (by rw [← hln,(List.append_eq_nil_iff.mp z).1];rfl))) (fun a h=>(hall a h).1) (by omega) S
  have ty:∀ S,isTy S .str (.str (Sx (TL.joinL [10] (ls++bs))))=some true:=fun _=>rfl
  rw [aBH,aAi,aVq]
  generalize TL.joinL [10] (ls++bs)=text at sp ty ⊢
  rw [ws_sSeq,ws_sIf]
  wp_walk using zstop,ty,aRy,sp
  have g0:(S++[Cell.lst []])[S.length]? = some (.lst []):=by simp
  refine aSy (fun i e S'=>i≤l.length∧S'=S++[Cell.lst (l.take i)]∧∃ x2 x3 x4,e = [some (.str (Sx text)),some (.loc S.length),x2,x3,x4]) ⟨Nat.zero_le _,by rw [List.take_zero],_,_,_,rfl⟩ ?_ ?_
  · rintro i d e S' hd ⟨hi,rfl,x2,x3,x4,rfl⟩
    obtain ⟨x,hx',rfl⟩:=aUW hd
    have hr:(S++[Cell.lst (l.take i)])[S.length]? = some (.lst (l.take i)):=by simp
    have st:(S++[Cell.lst (l.take i)]).set S.length (Cell.lst (l.take (i+1)))=S++[Cell.lst (l.take (i+1))]:=by simp
    have hgt:∀ d,d∈l.take i→RowG d:=fun d h=>hg d (List.mem_of_mem_take h)
    have hbt:=hc.some_ i
    rw [aFQ]
    simp only [aKo,aDZ,aCT,aKr,aD6,List.set_cons_zero,List.set_cons_succ]
    by_cases c:i<l.length
    · have hd':l[i]? = some l[i]:=List.getElem?_eq_getElem c
      obtain ⟨a,ha',r⟩:=rl.at_ hd'
      have ex:x = .str (Sx a):=by
        have:(wS (ls++bs))[i]? = some (.str (Sx a)):=aTr (by rw [List.getElem?_append_left (by omega),ha'])
        rw [this] at hx'
        exact (Option.some.inj hx').symm
      subst ex
      refine ⟨rfl,aVs hN r (hg _ (List.getElem_mem c)) hr hgt hbt (by rw [List.length_take];omega) (hc i _ hd') ?_⟩
      have e2:l.take i++[l[i]]=l.take (i+1):=by rw [List.take_add_one,hd'];rfl
      rw [e2,st]
      exact ⟨by omega,rfl,_,_,_,rfl⟩
    · have ei:i=l.length:=by omega
      subst ei
      have hlt:l.length<(ls++bs).length:=by
        have:=(List.getElem?_eq_some_iff.mp hx').1
        rwa [List.length_map] at this
      rcases hb with rfl | ⟨b,rfl,b1,b2,b3⟩
      · rw [List.append_nil] at hlt;omega
      have ex:x = .str (Sx b):=by
        have:(wS (ls++[b]))[l.length]? = some (.str (Sx b)):=aTr (by rw [List.getElem?_append_right (by omega),hln,Nat.sub_self];rfl)
        rw [this] at hx'
        exact (Option.some.inj hx').symm
      subst ex
      rw [List.take_length] at hr hgt hbt ⊢
      exact ⟨rfl,aX5 hN hr hgt hbt (b3 _) fun e=>hx (.inl (by simp))⟩
  · rintro e S' ⟨hi,rfl,x2,x3,x4,rfl⟩
    have hlen:(enumD (wS (ls++bs))).length=l.length+bs.length:=by rw [aCS,List.length_map,List.length_append,hln]
    rw [hlen] at hi ⊢
    have b0:bs = []:=List.eq_nil_of_length_eq_zero (by omega)
    subst b0
    rw [show l.length+([]:List (List Nat)).length=l.length from rfl,List.take_length]
    have hr:(S++[Cell.lst l])[S.length]? = some (.lst l):=by simp
    obtain ⟨_,ix⟩:=aR2 hr hg
    have ix:=ix hne
    obtain ⟨w,q,ps,hd⟩:∃ w q ps,prv l = .tup (.str w::rD q::ps):=by
      rcases List.eq_nil_or_concat l with rfl | ⟨m,d,rfl⟩
      · exact absurd rfl hne
      · rw [List.concat_eq_append,aG0]
        rw [List.concat_eq_append] at hg hc
        exact aR3 (hc m.length d (by simp)) (hg d (by simp))
    rw [hd] at ix hx hq
    have i0:∀ S,ixD S (.tup (.str w::rD q::ps)) (.int 0)=some (.str w):=fun S=>by rw [aBQ];exact L2.atI_nat (j:=0) rfl
    have d3:=aGy w "now"
    have sq:seqD (S++[Cell.lst l]) (.loc S.length)=some l:=by (show (match (S++[Cell.lst l])[S.length]? with | some (.lst l)=>some l | _=>none)=some l);rw [hr]
    have ft:fTuple (S++[Cell.lst l]) [.loc S.length]=some (.tup l):=by
      show (seqD (S++[Cell.lst l]) (.loc S.length)).map D.tup=_
      rw [sq];rfl
    have fl:fLen (S++[Cell.lst l]) [.loc S.length]=some (.int (l.length:Nat)):=by
      have:lenD (S++[Cell.lst l]) (.loc S.length)=some l.length:=by
        show (match (S++[Cell.lst l])[S.length]? with | some (.lst l)=>some l.length | _=>none)=_
        rw [hr]
      unfold fLen;simp only [this];rfl
    have en:nowB (.tup (.str w::rD q::ps))=decide (w="now"):=rfl
    rw [en] at hx hq
    generalize S++[Cell.lst l]=S2 at hr ix sq ft fl hx hq ⊢
    unfold rdE
    by_cases c:w="now"
    · rw [decide_eq_true c] at d3
      have hq:=hq rfl (decide_eq_true c)
      wp_walk using ix,i0,d3,ft
      exact hq
    · rw [decide_eq_false c] at d3
      have hx:=hx (.inr (decide_eq_false c))
      wp_walk using ix,i0,d3,fl,ws_sRaiseF,aO8
      exact hx
end
end Wk33
namespace Wk33
open PySem G C
theorem aOz {d x:G.D}{r:List G.D}:rowB d (.tup (.str "now"::x::r))=false:=by
  have h:∀ t,ahB t (.tup (.str "now"::x::r))=false:=fun t=>by unfold ahB;simp
  unfold rowB
  split
  · split
    · rw [h];simp
    · rfl
  · rfl
theorem aX6 {l:List G.D}(h:oddB 0 .non l = .non):Chn l:=fun j d hd=>by
  have hj:j<l.length:=(List.getElem?_eq_some_iff.mp hd).1
  have:=aR0 l 0 .non h j d hd
  cases j with
  | zero=>exact this
  | succ j=>
    have hj':j<l.length:=by omega
    have e:l.take (j+1)=l.take j++[l[j]]:=by rw [List.take_add_one,List.getElem?_eq_getElem hj'];rfl
    rw [e,aG0]
    have this:rowB d (l[j]?.getD .non)=true:=this
    rw [List.getElem?_eq_getElem hj'] at this
    exact this
theorem aIk {c:Nat}{b:List Nat}:∀ {ls:List (List Nat)},ls≠[]→TL.joinL [c] (ls++[b])=TL.joinL [c] ls++c::b
  | [],h=>absurd rfl h
  | [p],_=>rfl
  | p::q::ps,_=>by
    have ih:=aIk (c:=c) (b:=b) (ls:=q::ps) (by simp)
    have e:∀ r,TL.joinL [c] (p::q::r)=p++([c]++TL.joinL [c] (q::r)):=fun _=>rfl
    rw [List.cons_append,List.cons_append,e,e]
    rw [List.cons_append] at ih
    rw [ih,List.append_assoc,List.append_assoc]
section
variable {N:Nat}{S:Store}
theorem aR4 (S:Store):aBN N [.str (Sx [])] S = .exc (.exc 4 [(4, .int 0)]) S:=by
  have sp:=fun S=>aNx (c:=32) (by omega) (ps:=[[]]) (by simp) (by simp) (by decide) S
  have e0:TL.joinL [32] [[]]=([]:List Nat):=rfl
  rw [e0] at sp
  have e1:wS [[]] = [.str (Sx [])]:=rfl
  rw [e1] at sp
  have sm:(C.aBM.lookup (Sx [])).isSome=false:=by decide +kernel
  have t1:([G.D.str (Sx [])]).take 1 = [.str (Sx [])]:=rfl
  have d1:([G.D.str (Sx [])]).drop 1 = []:=rfl
  apply aEN
  rw [aBN,aAi,aGJ]
  wp_walk using bl_S,sp,aB2,t1,d1,sm,ws_sRaiseF,aO8
theorem aSB (hN:big N) (S:Store):aBN N [.str (Sx (("now 99999":Str).cps.toList))] S = .ok (.tup [.str "now",rD 99999]) S:=by
  have e:=aLD (S:=S) hN (w:="now") (q:=99999) (ss:=[]) (ps:=[]) (as:=[]) ⟨by decide +kernel,by decide +kernel⟩ rfl .nil
  have e2:TL.joinL [32] (("now":Str).cps.toList::tq 99999::[])=("now 99999":Str).cps.toList:=by decide +kernel
  rw [e2] at e
  exact e
theorem aIl {text:List Nat}{n:Nat}{S2:Store}(h:Wr (aBH N [.str (Sx text)] S) (fun _ _=>False) (exQ (.exc 4 [(4, .int (n:Nat))]) S2)):aA6 N [.str (Sx text)] S = .ok (.int (n:Nat)) S2:=by
  have e:=aEN (r:=aBH N [.str (Sx text)] S) (d:=.exc 4 [(4, .int (n:Nat))]) (S:=S2) (by
    refine aQT _ h ?_
    intro d S' z
    exact False.elim z)
  have tb:tbR rsL 4 4=some true:=by decide
  have fy:fldY [4,17] 4 (.exc 4 [(4, .int (n:Nat))])=some (.int (n:Nat)):=rfl
  apply aAh
  rw [aA6,aAi,aDD]
  wp_walk using e,tb,fy,aNW,aWy
end
end Wk33
namespace Wk33
open PySem G C
theorem aVt {N:Nat}{S:Store}{l:List G.D}{ls:List (List Nat)}{d:G.D}{x0 x1 x2 x4 x5:Option G.D}{Q X:QP G.D}(rl:Rls N l ls) (hl:l.length≤100) (h:Q (.str (Sx (TL.joinL [10] ls))) S) :
    Wr (eTm fJoin (eC (.str "\n")) (aCons (eLc (iSeq (eSlA (eVar 3) oNone (oSome (eNeg (eC (.int 1)))))) (.nm 5) tTrue (eCall (aBB N) (nA 1 (aCons (eVar 5) aNil))) [5]) aNil) [x0,x1,x2,some (.tup (l++[d])),x4,x5] S) Q X:=by
  have hln:=rl.len
  have jn:=fun S=>aLC (c:=10) (K:=600) (fun a ha=>(rl.all a ha).2) (by omega) S
  have slA:∀ S,slDA S (.tup (l++[d])) none (some (-1))=some (.tup l):=fun S=>by
    show some (G.D.tup (cutL (l++[d]) none (some (-1))))=_
    unfold cutL
    have e3:HT.sIx (l++[d]).length 0 none=0:=rfl
    have e2:HT.sIx (l++[d]).length (l++[d]).length (some (-1))=l.length:=by
      unfold HT.sIx
      simp only [List.length_append,List.length_cons,List.length_nil]
      split<;>omega
    rw [e2,e3]
    simp
  wp_walk using slA
  refine lc_w (fun j acc S'=>S'=S∧j≤l.length∧acc=wS (ls.take j)) ⟨rfl,Nat.zero_le _,rfl⟩ ?_ ?_
  · rintro j d acc S' hd ⟨rfl,hj,rfl⟩
    have hlt:=(List.getElem?_eq_some_iff.mp hd).1
    obtain ⟨a,ha,r⟩:=rl.at_ hd
    have ex:=r.ll
    have tm:∀ (d:G.D) (e:En),Tg.m (.nm 5) d e=some (e.set 5 (some d)):=fun _ _=>rfl
    have sz:(wS (ls.take j)).length<sizeLine:=by rw [sizeLine_eq,List.length_map,List.length_take];omega
    have em:wS (ls.take (j+1))=wS (ls.take j)++[.str (Sx a)]:=by rw [List.take_add_one,ha];unfold wS;rw [List.map_append];rfl
    rw [em]
    generalize wS (ls.take j)=zs at sz ⊢
    wp_walk using tm,ex
    exact ⟨sz,hlt⟩
  · rintro acc S' ⟨rfl,hj,rfl⟩
    rw [← hln,List.take_length]
    generalize wS ls=zs at jn ⊢
    wp_walk using aRy,jn
    exact h
structure Lg (N:Nat) (L:List G.D) (T:List Nat):Prop where
  sh:∀ S,aCe N [.tup L] S = .ok (.str (Sx T)) S
  rd:∀ S,aBH N [.str (Sx T)] S = .ok (.tup L) (S++[.lst L])
  pl:Pl 3 (.tup L)
  is:∀ S,aBS N [.tup L, .tup L] S = .ok (.bl true) S
  r1:∀ S,aA6 N [.str (Sx (T++10::("now 99999":Str).cps.toList))] S = .ok (.int (L.length:Nat)) (S++[.lst L])
  r2:∀ S,aA6 N [.str (Sx (T++[10]))] S = .ok (.int (L.length:Nat)) (S++[.lst L])
  len:L.length≤14
  tl:T.length≤10000
theorem Lg.same {N:Nat}{L L':List G.D}{T T':List Nat}(h:Lg N L T) (h':Lg N L' T'):Sx T'=Sx T↔G.D.tup L' = .tup L:=by
  constructor
  · intro e
    have a:=h.rd []
    have b:=h'.rd []
    rw [e,a] at b
    injection b with b _
    exact b.symm
  · intro e
    have a:=h.sh []
    have b:=h'.sh []
    rw [e,a] at b
    injection b with b _
    injection b with b
    exact b.symm
theorem aYK {N:Nat}(hN:big N) {rows:List G.D}{now t:Rat}(hk:RowsOk rows now) (lt:now≤t) (t0:0≤t) (bt:Bt t 100) (hlen:rows.length≤13) :
    ∃ T,Lg N (rows++[.tup [.str "now",rD t]]) T∧∃ rs a,Rls N rows rs∧Rls N (rows++[.tup [.str "now",rD t]]) (rs++[a])∧T=TL.joinL [10] (rs++[a])∧(rows≠[]→∀ S,aA6 N [.str (Sx (TL.joinL [10] rs))] S = .ok (.int (rows.length:Nat)) (S++[.lst rows])):=by
  have gn:RowG (.tup [.str "now",rD t]):=⟨"now",[rD t],rfl,by simp,by simp,aEP (by decide +kernel) (by decide +kernel),fun p hp=>by rw [List.mem_singleton] at hp;subst hp;exact aRl bt⟩
  have ho:=aS6 hk lt t0
  have hg:∀ d,d∈rows++[.tup [.str "now",rD t]]→RowG d:=fun d hd=>by
    rcases List.mem_append.mp hd with hd | hd
    · exact hk.g d hd
    · rw [List.mem_singleton] at hd
      subst hd
      exact gn
  have hc:=aX6 ho
  have hl:(rows++[G.D.tup [.str "now",rD t]]).length≤14:=by simp;omega
  have hcr:Chn rows:=fun j d hd=>by
    have hj:=(List.getElem?_eq_some_iff.mp hd).1
    have:=hc j d (by rw [List.getElem?_append_left hj,hd])
    rwa [List.take_append_of_le_length (by omega)] at this
  obtain ⟨rs,hr⟩:=aTp hN hk.g fun d hd=>by
    have:=hcr.some_ rows.length d
    rw [List.take_length] at this
    exact this hd
  have en:rowB (.tup [.str "now",rD t]) (prv rows)=true:=by
    have:=hc rows.length (.tup [.str "now",rD t]) (by simp)
    simpa using this
  obtain ⟨a,ra,_⟩:=aTo hN gn en
  have hR:=hr.app ra
  have ne:rows++[G.D.tup [.str "now",rD t]]≠[]:=by simp
  have ne2:rs++[a]≠[]:=by simp
  have pv:prv (rows++[G.D.tup [.str "now",rD t]]) = .tup [.str "now",rD t]:=aG0 _ _
  have hb:=aDO (c:=10) (K:=600) fun x hx=>(hR.all x hx).2
  rw [hR.len] at hb
  have pl:Pl 3 (.tup (rows++[G.D.tup [.str "now",rD t]])):=.tup fun d hd=>by
    obtain ⟨w,l,rfl,_,_,gw,gl⟩:=(hg d hd).ex
    exact .tup fun x hx=>by
      rcases List.mem_cons.mp hx with rfl | hx
      · exact gw.pl
      · exact (gl x hx).pl
  have fwp:∀ x,GP x→Fw x:=fun x g=>by
    have plx:=g.pl
    have tx:=g.w
    cases plx with
    | non=>exact .non
    | int _ i=>exact .int _
    | str _ h=>exact .str _
    | tup hp=>
      refine .tup (tx _ rfl) fun z hz => ?_
      have pz:=hp z hz
      cases pz with
      | non=>exact .non
      | int _ i=>exact .int _
      | str _ h=>exact .str _
  have fw:Fw (.tup (rows++[G.D.tup [.str "now",rD t]])):=by
    refine .tup (by omega) fun d hd => ?_
    obtain ⟨w,l,rfl,_,l5,gw,gl⟩:=(hg d hd).ex
    refine .tup (by rw [List.length_cons];omega) fun x hx => ?_
    rcases List.mem_cons.mp hx with rfl | hx
    · exact fwp _ gw
    · exact fwp _ (gl x hx)
  refine ⟨_,⟨fun S=>aNy hN hR hg (by omega) ho,fun S => ?_,pl,fun S=>is0 pl fw,fun S => ?_,fun S => ?_,hl,by omega⟩,rs,a,hr,hR,rfl,fun hne S => ?_⟩
  · have:=aOy (S:=S) (bs:=[]) (Q:=eqQ (.tup (rows++[G.D.tup [.str "now",rD t]])) (S++[.lst (rows++[G.D.tup [.str "now",rD t]])])) (X:=nX) hN hR hg (by omega) hc ne (.inl rfl) (fun z=>by
      rcases z with z | z
      · exact absurd rfl z
      · rw [pv] at z;revert z;unfold nowB;simp) (fun _ _=>⟨rfl,rfl⟩)
    rw [List.append_nil] at this
    exact aAh this
  · rw [← aIk ne2]
    refine aIl (aOy hN hR hg (by omega) hc ne (.inr ⟨_,rfl,by decide +kernel,by decide +kernel,fun S => .inr ⟨_,aSB hN S,?_,rfl,?_⟩⟩) (fun _=>⟨rfl,rfl⟩) (fun z=>by cases z))
    · exact RowG.th ⟨"now",[rD 99999],rfl,by simp,by simp,aEP (by decide +kernel) (by decide +kernel),fun p hp=>by rw [List.mem_singleton] at hp;subst hp;exact aRl ⟨by decide +kernel,by decide +kernel⟩⟩
    · rw [pv];exact aOz
  · rw [← aIk ne2]
    exact aIl (aOy hN hR hg (by omega) hc ne (.inr ⟨_,rfl,by simp,by simp,fun S => .inl (aR4 S)⟩) (fun _=>⟨rfl,rfl⟩) (fun z=>by cases z))
  · have:=aOy (S:=S) (bs:=[]) (Q:=fun _ _=>False) (X:=exQ (.exc 4 [(4, .int (rows.length:Nat))]) (S++[.lst rows])) hN hr hk.g (by omega) hcr hne (.inl rfl) (fun _=>⟨rfl,rfl⟩) (fun _ z=>by
      obtain ⟨l,d,rfl⟩:∃ x y,rows=x++[y]:=⟨rows.dropLast,rows.getLast hne,(List.dropLast_concat_getLast hne).symm⟩
      rw [aG0] at z en
      obtain ⟨w,q,ps,rfl⟩:=aR3 (hcr l.length d (by simp)) (hk.g d (by simp))
      have:w="now":=of_decide_eq_true z
      subst this
      rw [aOz] at en
      cases en)
    rw [List.append_nil] at this
    exact aIl this
end Wk33
namespace Wk33
open PySem G C
theorem aTs {a b:List Nat}(h:a.length+b.length≤100000) (S0:Store):dAddS S0 (.str (Sx a)) (.str (Sx b))=some (.str (Sx (a++b))):=by
  show (if (Sx a).length+(Sx b).length≤sizeLine then some (D.str (Sx a++Sx b)) else none)=_
  rw [if_pos (by rw [sizeLine_eq,SX.S_len,SX.S_len];omega),SX.S_cat]
theorem plain:∀ ns:List Int,ns.length≤63→∃ N S,aOJ N [.scr (ns.map .int)] [] = .ok (.bl true) S:=by
  intro ns hl
  refine ⟨2 ^ 9000,?_⟩
  have hN:big (2 ^ 9000):=Nat.le_refl _
  generalize 2 ^ 9000=N at hN ⊢
  suffices h:Wr (aOJ N [.scr (ns.map .int)] []) (fun d _=>d = .bl true) nX by
    obtain ⟨d,S,e,rfl⟩:=of_w h
    exact ⟨S,e⟩
  rw [aOJ,aAi,aUN]
  wp_walk using zstop,List.length_map
  obtain ⟨j,hj,j0,j1⟩:∃ j:Int,(if (if (ns.length:Int)<5 then (ns.length:Int) else 5) > 1 then (if (ns.length:Int)<5 then (ns.length:Int) else 5) else 1)=j∧0≤j∧j≤64:=⟨_,rfl,by split<;>omega,by split<;>(try split)<;>omega⟩
  rw [hj]
  refine ⟨by omega,?_⟩
  refine aWY (fun e _=>∃ y x2 x3 x4 x5,(y = .non∨∃ L T,Lg N L T∧y = .tup L)∧e = [some (.scr (ns.map .int)),some y,x2,x3,x4,x5]) ⟨_,_,_,_,_, .inl rfl,rfl⟩ ?_ ?_
  · rintro d e S hd ⟨y,x2,x3,x4,x5,hy,rfl⟩
    obtain ⟨k,rfl,k0,k1⟩:=aRa hd
    wp_walk using zstop,G.aBh
    refine aXd N ns k k0 (by omega) fun x => ?_
    wp_walk using zstop,G.aBh
    refine aXc N x fun c P => ?_
    generalize S++[c]=S1 at P ⊢
    generalize S.length=n at P ⊢
    wp_walk using zstop,G.aBh
    refine aVf hN P fun rows now t S2 hk lt t0 bt hlen P2 => ?_
    obtain ⟨T,hL,rs,a,hr,hR,rfl,r3⟩:=aYK hN hk lt t0 bt hlen
    have tw2:=fun {S:Store}{x0 x1 x2 x4 x5:Option G.D}{Q X:QP G.D}=>aVt (N:=N) (S:=S) (d:=D.tup [.str "now",rD t]) (x0:=x0) (x1:=x1) (x2:=x2) (x4:=x4) (x5:=x5) (Q:=Q) (X:=X) hr (by omega)
    have ln:(rows++[D.tup [.str "now",rD t]]).length=rows.length+1:=by simp
    have hl14:=hL.len
    have tw1:=fun {S:Store}{x0 x1 x2 x4 x5:Option G.D}{Q X:QP G.D}=>aX4 (N:=N) (S:=S) (x0:=x0) (x1:=x1) (x2:=x2) (x4:=x4) (x5:=x5) (Q:=Q) (X:=X) hR (by omega)
    generalize rows++[D.tup [.str "now",rD t]]=L at hL tw2 tw1 ln hl14 ⊢
    generalize TL.joinL [10] (rs++[a])=T at hL tw1 ⊢
    have sh:=hL.sh
    have rd:=hL.rd
    have li:=hL.is
    have tl:=hL.tl
    simp only [aG4,List.set_cons_zero,List.set_cons_succ,aJw,ws_sSeq,ws_sSet,ws_nxt]
    refine tw1 ?_
    have n1:dNe (.str (Sx T)) (.str (Sx T))=some (.bl false):=by rw [aGy,decide_eq_true rfl];rfl
    wp_walk using zstop,G.aBh
    rw [ws_sIf]
    wp_walk using zstop,sh,n1,rd,li
    rw [ws_sIf]
    have c1:("\nnow 99999":Str)=Sx (10::("now 99999":Str).cps.toList):=by decide +kernel
    have a1:=fun S=>aTs (a:=T) (b:=10::("now 99999":Str).cps.toList) (by
      have:(10::("now 99999":Str).cps.toList).length=10:=by decide +kernel
      rw [this];omega) S
    have a2:∀ S,dAddS S (.str (Sx T)) (.str "\n")=some (.str (Sx (T++[10]))):=fun S=>by
      rw [aRy]
      exact aTs (a:=T) (b:=[10]) (by rw [List.length_singleton];omega) S
    have r1:=hL.r1
    have r2:=hL.r2
    generalize 10::("now 99999":Str).cps.toList=c9 at c1 a1 r1
    have n2:dNe (.int (L.length:Nat)) (.int (L.length:Nat))=some (.bl false):=by
      show some (G.D.bl (!decide (((L.length:Nat):Int)=(L.length:Nat))))=_
      rw [decide_eq_true rfl];rfl
    have fl:∀ S,fLen S [.tup L]=some (.int (L.length:Nat)):=fun S=>rfl
    generalize hM:((L.length:Nat):Int)=M at n2 fl r1 r2
    wp_walk using zstop,c1,a1,a2,r1,r2,n2,fl
    have last:∀ (S:Store) (x5:Option G.D),Ws ((sSeq (sIf (tAn (tB (eBin dIsNot (eVar 1) (eC .non))) (tB (eBin dNe (eBin dEq (eCall (aCe N) (nA 1 (aCons (eVar 1) aNil))) (eVar 4)) (eBin dEq (eVar 1) (eVar 3))))) (sRet (eC (.bl false))) sNop)
    (sSet 1 (eVar 3))) [some (.scr (ns.map .int)),some y,some (.int k),some (.tup L),some (.str (Sx T)),x5] S) (((KS.fn (fun d x=>d=D.bl true) nX).sq (sRet (eC (D.bl true)))).lp fun e x=>∃ y x2 x3 x4 x5,(y=D.non∨∃ L T,Lg N L T∧y=D.tup L)∧e = [some (D.scr (List.map D.int ns)),some y,x2,x3,x4,x5]):=by
      intro S x5
      rcases hy with rfl | ⟨L',T',hL',rfl⟩
      · have d1:dIsNot .non .non=some (.bl false):=rfl
        wp_walk using d1
        exact ⟨_,_,_,_,_, .inr ⟨_,_,hL,rfl⟩,rfl⟩
      · have d1:dIsNot (.tup L') .non=some (.bl true):=rfl
        have s1:=hL'.sh
        have e1:=aE5 (Sx T') (Sx T)
        obtain ⟨b,e2,hb⟩:=aX3 hL'.pl hL.pl (by omega) (by omega) ⟨_,rfl⟩
        have e3:dNe (.bl (decide (Sx T'=Sx T))) (.bl b)=some (.bl false):=by
          have:decide (Sx T'=Sx T)=b:=by
            rw [Bool.eq_iff_iff,decide_eq_true_eq,hb]
            exact hL.same hL'
          rw [this]
          cases b<;>rfl
        wp_walk using d1,s1,e1,e2,e3
        exact ⟨_,_,_,_,_, .inr ⟨_,_,hL,rfl⟩,rfl⟩
    rw [ws_sIf]
    by_cases c:rows = []
    · have gt:dGt (.int M) (.int 1)=some (.bl false):=by
        show some (G.D.bl (decide (1<M)))=_
        rw [decide_eq_false (by rw [c] at ln;simp at ln;omega)]
      unfold dGt at gt
      simp only [aFO,aJq,aDS,aFP,aDb,aDB,aJn,aDV,aJp,aJo,aCR,aJv,aJu,aJt,aJr,aJs,aFN,aFM,aJm,aBh,aJx,List.getElem?_cons_succ,List.getElem?_cons_zero,fl,dGt,gt,ws_sNop,aJw]
      exact last _ _
    · have gt:dGt (.int M) (.int 1)=some (.bl true):=by
        show some (G.D.bl (decide (1<M)))=_
        rw [decide_eq_true (by
          have:0<rows.length:=List.length_pos_iff.mpr c
          omega)]
      unfold dGt at gt
      simp only [aFO,aJq,aDS,aFP,aDb,aDB,aJn,aDV,aJp,aJo,aCR,aJv,aJu,aJt,aJr,aJs,aFN,aFM,aJm,aBh,aJx,List.getElem?_cons_succ,List.getElem?_cons_zero,fl,dGt,gt,aD5,aKk,aKm,aKl]
      refine tw2 ?_
      have r3:=r3 c
      have sb:dSub (.int M) (.int 1)=some (.int (rows.length:Nat)):=by
        show some (G.D.int (M - 1))=_
        congr 2
        omega
      have n3:dNe (.int (rows.length:Nat)) (.int (rows.length:Nat))=some (.bl false):=by
        show some (G.D.bl (!decide (((rows.length:Nat):Int)=(rows.length:Nat))))=_
        rw [decide_eq_true rfl];rfl
      generalize TL.joinL [10] rs=T3 at r3 ⊢
      generalize ((rows.length:Nat):Int)=M3 at r3 sb n3
      wp_walk using zstop,r3,sb,n3,fl
      rw [← ws_sSeq]
      exact last _ _
  · rintro e S ⟨y,x2,x3,x4,x5,hy,rfl⟩
    rfl
end Wk33
theorem PySem.Challenge.cw_sharetags_k33_logs_as_texts_holds : PySem.Challenge.rw_sharetags_k33_logs_as_texts.Holds := by
  exact Wk33.zz_end Wk33.plain
