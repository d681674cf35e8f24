import PyProof.Rows.All
import Wide.All
import OpenK.AllK
import Wide.FinOn
import HandS.ForMost
import HandS.Exc
import HandS.ExcOwn
import HandS.WordsExc
import HandS.CallSlots
import HandS.Slots
import HandS.Set
import KE.KDictKeyed
import HandS.Lambda
import HandS.TupAny
import HandS.IsInst
import HandS.Wide
import HandS.Flow
import HandS.Style
import HandS.More
import HandS.Zip
import KE.SortData
import PyProof.ListStr
import PyProof.StrOps2
import HandS.DictComp
import HandS.TupLen
import KE.KDictSum
import PyProof.Transfer
import HandS.SetFor
import HandS.SetTxt0
import HandS.Strs
import HandS.Star
import HandS.SlotsOwn
import HandS.Defaults
import OpenK.KMeth
import KE.KOpsOwn
import HandS.ExcField
import KE.KFmtOwn
import PyProof.DictDisplay
import KE.KDictDisplayH
import HandS.Conv
import KE.KDictWalk
import HandS.SetBool
import HandS.OwnEq
import PyProof.FactsAll.subtypes_4
import PyProof.WalksMore
import KE.GoesZip
import KE.GoesEnum
import KE.GoesMore
import HandS.ClsMeth
import HandS.RaiseMore
import HandS.TupSets
import KE.KSuper
import OpenK.KDescr
import HandS.ExcInit
import HandS.TryMany
import HandS.ExcValue
import HandS.Ends
import PyProof.ReprRoads
import HandS.ExcIs
import HandS.Deep
import HandS.Small
import PyProof.Rows.Range3
import HandS.Sort
import PyProof.ReprBulk
import PyProof.Rows.ReprShort
import PyProof.NeKinds
import HandS.Rev
import HandS.TupMul
import HandS.Codes
import HandS.EndTab
import PySem.Challenge.RW_widenedwords_k26_too_many_states
set_option Elab.async false
set_option linter.all false
set_option maxRecDepth 100000
namespace DL
open PySem PySem.Spec PyProof.Rows L2

inductive D where
 | non | bl (b:Bool) | int (i:Int) | str (x:Str) | ty (n:String) | ptr (a:Addr) | ilst (ns:List Int) | tup (ds:List D)
 /-- an instance of a class with slots,a list,a dict that nobody writes any more -/
 | obj (C:Addr) (fs:List D) | flst (ds:List D) | fdct (kds:List (List Key×D)) | kdct (kds:List (Key×D))
 /-- a tuple of texts that is known to be no more than a tuple -/
 | wds (ys:List Str)
 /-- an instance with a dict of its own that nobody writes any more,by its fields -/
 | iob (C:Addr) (fs:List (Str×D))
 /-- a tuple,maybe one that the module has made -/
 | tk (ds:List D)

structure SOk (x:Str):Prop where
 len:x.length≤sizeLine
 sgn:PyData.strOk x=true
theorem SOk.mem {x:Str} (h:SOk x) {k:Nat} (hk:k∈x.cps.toList):k < 0x110000:=by
 have:=h.sgn
 unfold PyData.strOk at this
 rw [←Array.all_toList,List.all_eq_true] at this
 exact of_decide_eq_true (this k hk)
theorem SOk.of {x:Str} (h:x.length≤sizeLine) (hk:∀k∈x.cps.toList,k < 0x110000):SOk x:=by
 refine ⟨h,?_⟩
 unfold PyData.strOk
 rw [←Array.all_toList,List.all_eq_true]
 exact fun k hh=>decide_eq_true (hk k hh)

def Kl (K:PySem.W.Frag) (a:Addr) (xs:List V):Prop:=
 ∃(o:Obj) (its:Array Value) (n:Nat),K.lookup a=some o∧o.cls= .type "list"∧o.dict=none∧o.data= .seq its n∧its.size≤sizeLine∧Vals xs its.toList

def txOf (e:Int×Value):Str:=match e.2 with | .str k _=>k | _=>Str.empty
def TxE (w:World) (e:Int×Value):Prop:= ∃k tk,e.2=Value.str k tk∧e.1=hashStr w k
def cV (w:World) (h:Heap) (a:Addr) (S:Str→Bool) (n:Nat):Prop:=
 ∃o es ep t,h.get? a=some o∧o.ExactSet∧o.data= .set es ep t∧(∀e∈es.toList,TxE w e)∧(es.toList.map txOf).Nodup∧(∀k,S k=true↔k∈es.toList.map txOf)∧
  es.size < scanBound∧t.fits es.size=true∧es.size=n∧Ris t.place.toList∧(w.params.followText "set-order"=true∨t.led=true)

mutual
def nk:D→NestedKey
 | .non=> .none
 | .bl b=> .num (if b=true then 1 else 0)
 | .int i=> .num i
 | .str x=> .text x
 | .tup ds=> .tup (nks ds)
 | .ty _=> .none
 | .ptr _=> .none
 | .ilst _=> .none
 | .obj _ _=> .none
 | .flst _=> .none
 | .fdct _=> .none
 | .kdct _=> .none
 | .wds _=> .none
 | .iob _ _=> .none
 | .tk ds=> .tup (nks ds)
def nks:List D→List NestedKey
 | []=> []
 | d::ds=>nk d::nks ds
end
mutual
def okN:D→Bool
 | .non=>true
 | .bl _=>true
 | .int _=>true
 | .str _=>true
 | .tup ds=>aAi ds
 | .ty _=>false
 | .ptr _=>false
 | .ilst _=>false
 | .obj _ _=>false
 | .flst _=>false
 | .fdct _=>false
 | .kdct _=>false
 | .wds _=>false
 | .iob _ _=>false
 | .tk ds=>aAi ds
def aAi:List D→Bool
 | []=>true
 | d::ds=>okN d && aAi ds
end
def ndO (P:Program) (w:World) (a:Addr) (xs:List (NestedKey×Addr×Value)):HO:= .ext fun h=>xs.length≤sizeLine∧(a==sysModules)=false∧∃o es ep,h.get? a=some o∧o.ExactDict∧o.data= .dict es ep∧es.toList=xs.map (entryOfKey (nestedKind P w))∧(xs.map (·.1)).Nodup
inductive MO where
 | lst (ds:List D)
 | dct (kds:List (List Key×D))
 | ins (C:Addr) (fs:List (Option D))
 | set (S:Key→Bool) (n:Nat)
 | txs (S:Str→Bool) (n:Nat)
 | kd (kds:List (Key×D))
 /-- a dict whose keys are nested tuples -/
 | nd (kds:List (D×D))
 /-- an instance with a dict of its own -/
 | iin (C:Addr) (fs:List (Str×D))
 /-- a table of code objects that bear the name q -/
 | tab (q:Str)
 /-- an error that was caught,of the class C,by its fields -/
 | exc (C:Addr) (fs:List (Str×D))
abbrev Lp:=Addr→Option MO
def put (L:Lp) (a:Addr) (o:MO):Lp:=fun b=>if b=a then some o else L b
theorem aD {L:Lp} {a:Addr} {o:MO}:put L a o a=some o:=if_pos rfl
theorem aJ {L:Lp} {a b:Addr} {o:MO} (h:b≠a):put L a o b=L b:=if_neg h
theorem bR {L:Lp} {a:Addr} {o u:MO}:put (put L a o) a u=put L a u:=by
 funext b
 unfold put
 split <;> rfl
theorem fK {L:Lp} {a b:Addr} {o u:MO} (h:a≠b):put (put L a o) b u=put (put L b u) a o:=by
 funext c
 unfold put
 by_cases h1:c=b
 ·rw [if_pos h1,if_neg (fun e=>h (e.symm.trans h1)),if_pos h1]
 ·rw [if_neg h1,if_neg h1]
theorem put_self {L:Lp} {a:Addr} {o:MO} (h:L a=some o):put L a o=L:=by
 funext b
 unfold put
 by_cases e:b=a
 ·rw [if_pos e,e,h]
 ·rw [if_neg e]
theorem aO {L:Lp} {a b:Addr} {o:MO} (h:L a=some o) (h':L b=none):a≠b:=fun e=>by
 rw [e,h'] at h
 cases h

structure KOk (k:List Key):Prop where
 len:k.length≤sizeLine
 txt:∀x,Sum.inr x∈k→SOk x
abbrev Fz:=Addr→Prop
def TpK (K:PySem.W.Frag) (H:Hp) (a:Addr) (vs:List V):Prop:=H a=some (.tup vs)∨∃(o:Obj) (its:Array Value) (n:Nat),K.lookup a=some o∧o.cls= .type "tuple"∧o.data= .seq its n∧its.size≤sizeLine∧Vals vs its.toList
theorem TpK.sq {K:PySem.W.Frag} {H:Hp} {a:Addr} {vs:List V} (h:TpK K H a vs):SqT K H a vs:=h.elim SqT.of .inr
inductive Rep (K:PySem.W.Frag) (F:Fz) (H:Hp):V→D→Prop where
 | non:Rep K F H .non .non
 | bl (b:Bool):Rep K F H (.bl b) (.bl b)
 | int (i:Int):Rep K F H (.int i) (.int i)
 | str (x:Str) (h:SOk x):Rep K F H (.str x) (.str x)
 | ty (n:String):Rep K F H (.ty n) (.ty n)
 | ptr (a:Addr):Rep K F H (.ref a) (.ptr a)
 | ilst {a:Addr} {ns:List Int} (h:(∃o,H a=some (.frz o (.lst (ns.map V.int))))∨Kl K a (ns.map V.int)):Rep K F H (.ref a) (.ilst ns)
 | tup {a:Addr} {vs:List V} {ds:List D} (h:H a=some (.tup vs)) (hz:vs.length≤sizeLine) (hl:vs.length=ds.length) (hi:∀(i:Nat) (v:V) (d:D),vs[i]? =some v→ds[i]? =some d→Rep K F H v d):Rep K F H (.ref a) (.tup ds)
 | obj {a C dx:Addr} {us:List (Option V)} {vs:List V} {ds:List D} (hl:F a) (h:H a=some (SlX.SlO a C dx us)) (hx:H dx=some (.xd [])) (hu:∀(i:Nat) (v:V),vs[i]? =some v→us[i]? =some (some v)) (hn:vs.length=ds.length) (hi:∀(i:Nat) (v:V) (d:D),vs[i]? =some v→ds[i]? =some d→Rep K F H v d):Rep K F H (.ref a) (.obj C ds)
 | flst {a:Addr} {vs:List V} {ds:List D} (hl:F a) (h:H a=some (.lst vs)) (hz:vs.length≤sizeLine) (hn:vs.length=ds.length) (hi:∀(i:Nat) (v:V) (d:D),vs[i]? =some v→ds[i]? =some d→Rep K F H v d):Rep K F H (.ref a) (.flst ds)
 | fdct {a:Addr} {kvs:List (List Key×V)} {kds:List (List Key×D)} {o:Obj} (hl:F a) (h:H a=some (.frz o (.dT kvs))) (hk:∀q∈kds,KOk q.1) (hn:kvs.length=kds.length) (he:∀(i:Nat) (v:List Key×V) (d:List Key×D),kvs[i]? =some v→kds[i]? =some d→v.1=d.1) (hi:∀(i:Nat) (v:List Key×V) (d:List Key×D),kvs[i]? =some v→kds[i]? =some d→Rep K F H v.2 d.2):Rep K F H (.ref a) (.fdct kds)
 | kdct {a:Addr} {kvs:List (Key×V)} {kds:List (Key×D)} {o:Obj} (hl:F a) (h:H a=some (.frz o (.dK kvs))) (hn:kvs.length=kds.length) (he:∀(i:Nat) (v:Key×V) (d:Key×D),kvs[i]? =some v→kds[i]? =some d→v.1=d.1) (hi:∀(i:Nat) (v:Key×V) (d:Key×D),kvs[i]? =some v→kds[i]? =some d→Rep K F H v.2 d.2):Rep K F H (.ref a) (.kdct kds)
 | wds {a:Addr} {ys:List Str} {o:Obj} (hl:F a) (h:H a=some (.frz o (.tup (ys.map V.str)))) (ho:o.dict=none) (hz:ys.length≤sizeLine) (hs:∀y∈ys,SOk y):Rep K F H (.ref a) (.wds ys)
 | iob {a C dx:Addr} {vfs:List (Str×V)} {fs:List (Str×D)} (hl:F a) (h:H a=some (.ins C dx vfs)) (hn:vfs.length=fs.length) (he:∀(i:Nat) (v:Str×V) (d:Str×D),vfs[i]? =some v→fs[i]? =some d→v.1=d.1) (hi:∀(i:Nat) (v:Str×V) (d:Str×D),vfs[i]? =some v→fs[i]? =some d→Rep K F H v.2 d.2):Rep K F H (.ref a) (.iob C fs)
 | tk {a:Addr} {vs:List V} {ds:List D} (h:TpK K H a vs) (hz:vs.length≤sizeLine) (hl:vs.length=ds.length) (hi:∀(i:Nat) (v:V) (d:D),vs[i]? =some v→ds[i]? =some d→Rep K F H v d):Rep K F H (.ref a) (.tk ds)

structure Stay (H H':Hp):Prop where
 tup:∀a vs,H a=some (.tup vs)→H' a=some (.tup vs)
 frz:∀a o xs,H a=some (.frz o (.lst xs))→H' a=some (.frz o (.lst xs))
 xd:∀a,H a=some (.xd [])→H' a=some (.xd [])
theorem TpK.stay {K:PySem.W.Frag} {H H':Hp} {a:Addr} {vs:List V} (h:TpK K H a vs) (s:Stay H H'):TpK K H' a vs:=h.imp (s.tup _ _) id
theorem Stay.refl (H:Hp):Stay H H:=⟨fun _ _ h=>h,fun _ _ _ h=>h,fun _ h=>h⟩
theorem Stay.trans {H H1 H2:Hp} (a:Stay H H1) (b:Stay H1 H2):Stay H H2:=⟨fun c v h=>b.tup c v (a.tup c v h),fun c o u h=>b.frz c o u (a.frz c o u h),fun c h=>b.xd c (a.xd c h)⟩

structure Fr (L:Lp) (F:Fz) (H:Hp) (L':Lp) (F':Fz) (H':Hp):Prop where
 keep:∀a o,H a=some o→(∀y,o≠ .own y)→L a=none→H' a=some o
 live:∀a,H a≠none→H' a≠none
 stay:Stay H H'
 dom:∀a,L' a≠none→L a≠none∨H a=none
 fz:∀a,F a→F' a
 fk:∀a o,F a→H a=some o→H' a=some o
 off:∀a,F' a→F a∨L a≠none∨H a=none
theorem Fr.refl (L:Lp) {F:Fz} (H:Hp):Fr L F H L F H:=⟨fun _ _ h _ _=>h,fun _ h=>h,.refl H,fun _ h=> .inl h,fun _ h=>h,fun _ _ _ h=>h,fun _ h=> .inl h⟩
theorem Fr.trans {L L1 L2:Lp} {F F1 F2:Fz} {H H1 H2:Hp} (a:Fr L F H L1 F1 H1) (b:Fr L1 F1 H1 L2 F2 H2):Fr L F H L2 F2 H2:=by
 have dn:∀c,H1 c=none→H c=none:=fun c z=>by
  cases e:H c with
  | none=>rfl
  | some o=>exact absurd z (a.live c (by rw [e];simp))
 refine ⟨fun c o h q n=> ?_,fun c h=>b.live c (a.live c h),a.stay.trans b.stay,fun c h=> ?_,fun c h=>b.fz c (a.fz c h),fun c o h e=>b.fk c o (a.fz c h) (a.fk c o h e),fun c h=> ?_⟩
 ·refine b.keep c o (a.keep c o h q n) q ?_
  cases e:L1 c with
  | none=>rfl
  | some u=>
   rcases a.dom c (by rw [e];simp) with z | z
   ·exact absurd n z
   ·rw [h] at z
    cases z
 ·rcases b.dom c h with z | z
  ·exact a.dom c z
  ·exact .inr (dn c z)
 ·rcases b.off c h with z | z | z
  ·exact a.off c z
  ·exact .inr (a.dom c z)
  ·exact .inr (.inr (dn c z))
theorem dY {H:Hp} {p a:Addr} {o:HO} (h:H a≠none):upd H p o a≠none:=by
 by_cases e:a=p
 ·rw [e,upd_same];simp
 ·rw [upd_ne e];exact h
def Le (L L':Lp):Prop:= ∀a o,L a=some o→L' a=some o
theorem Le.refl (L:Lp):Le L L:=fun _ _ h=>h
theorem Le.trans {L L1 L2:Lp} (a:Le L L1) (b:Le L1 L2):Le L L2:=fun x o h=>b x o (a x o h)
theorem Le.ne {L L':Lp} (h:Le L L') {a:Addr} (n:L a≠none):L' a≠none:=by
 cases e:L a with
 | none=>exact absurd e n
 | some o=>
  rw [h a o e]
  simp
theorem Le.none {L L':Lp} (h:Le L L') {a:Addr} (n:L' a=none):L a=none:=by
 cases e:L a with
 | none=>rfl
 | some o=>
  rw [h a o e] at n
  cases n
theorem aN {L:Lp} {a:Addr} {o:MO} (h:L a=none):Le L (put L a o):=fun b u e=>by
 rw [aJ (aO e h)]
 exact e
structure Mv (F:Fz) (H:Hp) (F':Fz) (H':Hp):Prop where
 stay:Stay H H'
 fz:∀a,F a→F' a
 fk:∀a o,F a→H a=some o→H' a=some o
theorem Fr.mv {L L':Lp} {F F':Fz} {H H':Hp} (f:Fr L F H L' F' H'):Mv F H F' H':=⟨f.stay,f.fz,f.fk⟩
instance frMv {L L':Lp} {F F':Fz} {H H':Hp}:CoeOut (Fr L F H L' F' H') (Mv F H F' H'):=⟨Fr.mv⟩
theorem Rep.mono {K:PySem.W.Frag} {F F':Fz} {H H':Hp} (s:Mv F H F' H') {v:V} {d:D} (r:Rep K F H v d):Rep K F' H' v d:=by
 induction r with
 | non=>exact .non
 | bl b=>exact .bl b
 | int i=>exact .int i
 | str x h=>exact .str x h
 | ty n=>exact .ty n
 | ptr a=>exact .ptr a
 | ilst h=>
  refine .ilst ?_
  rcases h with ⟨o,h⟩ | h
  ·exact .inl ⟨o,s.stay.frz _ _ _ h⟩
  ·exact .inr h
 | tup h hz hl hi ih=>exact .tup (s.stay.tup _ _ h) hz hl ih
 | obj hl h hx hu hn hi ih=>exact .obj (s.fz _ hl) (s.fk _ _ hl h) (s.stay.xd _ hx) hu hn ih
 | flst hl h hz hn hi ih=>exact .flst (s.fz _ hl) (s.fk _ _ hl h) hz hn ih
 | fdct hl h hk hn he hi ih=>exact .fdct (s.fz _ hl) (s.fk _ _ hl h) hk hn he ih
 | kdct hl h hn he hi ih=>exact .kdct (s.fz _ hl) (s.fk _ _ hl h) hn he ih
 | wds hl h ho hz hs=>exact .wds (s.fz _ hl) (s.fk _ _ hl h) ho hz hs
 | iob hl h hn he hi ih=>exact .iob (s.fz _ hl) (s.fk _ _ hl h) hn he ih
 | tk h hz hl hi ih=>exact .tk (h.stay s.stay) hz hl ih
abbrev bG (K:PySem.W.Frag) (F:Fz) (H:Hp):List V→List D→Prop:=Paired (Rep K F H)
theorem bG.mono {K:PySem.W.Frag} {F F':Fz} {H H':Hp} (s:Mv F H F' H'):∀{vs:List V} {ds:List D},bG K F H vs ds→bG K F' H' vs ds
 | _,_,.nil=> .nil
 | _,_,.cons r t=> .cons (r.mono s) (bG.mono s t)
theorem bG.length {K:PySem.W.Frag} {F:Fz} {H:Hp} {vs:List V} {ds:List D} (r:bG K F H vs ds):vs.length=ds.length:=Paired.length r
theorem bG.get:∀{K:PySem.W.Frag} {F:Fz} {H:Hp} {vs:List V} {ds:List D} {i:Nat} {d:D},bG K F H vs ds→ds[i]? =some d→∃v,vs[i]? =some v∧Rep K F H v d
 | _,_,_,_,_,_,_,.nil,e=>by simp at e
 | _,_,_,_,_,0,_,.cons r _,e=>by simp at e;subst e;exact ⟨_,rfl,r⟩
 | K,_,H,_,_,i+1,d,.cons _ t,e=>by
  obtain ⟨v,h1,h2⟩:=bG.get (i:=i) (d:=d) t (by simpa using e)
  exact ⟨v,by simpa using h1,h2⟩
theorem bG.getV:∀{K:PySem.W.Frag} {F:Fz} {H:Hp} {vs:List V} {ds:List D} {i:Nat} {v:V},bG K F H vs ds→vs[i]? =some v→∃d,ds[i]? =some d∧Rep K F H v d
 | _,_,_,_,_,_,_,.nil,e=>by simp at e
 | _,_,_,_,_,0,_,.cons r _,e=>by simp at e;subst e;exact ⟨_,rfl,r⟩
 | K,_,H,_,_,i+1,v,.cons _ t,e=>by
  obtain ⟨d,h1,h2⟩:=bG.getV (i:=i) (v:=v) t (by simpa using e)
  exact ⟨d,by simpa using h1,h2⟩
theorem bG.of_get:∀{K:PySem.W.Frag} {F:Fz} {H:Hp} {vs:List V} {ds:List D},vs.length=ds.length→(∀(i:Nat) (v:V) (d:D),vs[i]? =some v→ds[i]? =some d→Rep K F H v d)→bG K F H vs ds
 | _,_,_,[],[],_,_=> .nil
 | _,_,_,[],_::_,h,_=>by simp at h
 | _,_,_,_::_,[],h,_=>by simp at h
 | K,_,H,v::vs,d::ds,h,hi=> .cons (hi 0 v d rfl rfl) (bG.of_get (by simpa using h) fun i x y h1 h2=>hi (i+1) x y (by simpa using h1) (by simpa using h2))
theorem bG.append:∀{K:PySem.W.Frag} {F:Fz} {H:Hp} {vs ws:List V} {ds es:List D},bG K F H vs ds→bG K F H ws es→bG K F H (vs++ws) (ds++es)
 | _,_,_,_,_,_,_,.nil,s=>s
 | _,_,_,_,_,_,_,.cons r t,s=> .cons r (bG.append t s)
theorem bG.take:∀{K:PySem.W.Frag} {F:Fz} {H:Hp} {vs:List V} {ds:List D} (n:Nat),bG K F H vs ds→bG K F H (vs.take n) (ds.take n)
 | _,_,_,_,_,0,_=> .nil
 | _,_,_,_,_,_+1,.nil=> .nil
 | _,_,_,_,_,n+1,.cons r t=> .cons r (bG.take n t)
theorem bG.drop:∀{K:PySem.W.Frag} {F:Fz} {H:Hp} {vs:List V} {ds:List D} (n:Nat),bG K F H vs ds→bG K F H (vs.drop n) (ds.drop n)
 | _,_,_,_,_,0,r=>r
 | _,_,_,_,_,_+1,.nil=> .nil
 | _,_,_,_,_,n+1,.cons _ t=>bG.drop n t
theorem bG.set {K:PySem.W.Frag} {F:Fz} {H:Hp} {v:V} {d:D} (r:Rep K F H v d):∀{vs:List V} {ds:List D} (i:Nat),bG K F H vs ds→bG K F H (vs.set i v) (ds.set i d)
 | _,_,_,.nil=> .nil
 | _,_,0,.cons _ t=> .cons r t
 | _,_,i+1,.cons q t=> .cons q (bG.set r i t)
theorem Rep.tupI {K:PySem.W.Frag} {F:Fz} {H:Hp} {a:Addr} {vs:List V} {ds:List D} (h:H a=some (.tup vs)) (r:bG K F H vs ds) (hz:ds.length≤sizeLine):Rep K F H (.ref a) (.tup ds):=
 .tup h (by rw [r.length];exact hz) r.length fun i v d h1 h2=>by
  obtain ⟨d',e,q⟩:=r.getV h1
  rw [h2] at e
  cases e
  exact q
theorem Rep.tupE {K:PySem.W.Frag} {F:Fz} {H:Hp} {v:V} {ds:List D} (r:Rep K F H v (.tup ds)):∃a vs,v= .ref a∧H a=some (.tup vs)∧bG K F H vs ds:=by
 cases r with
 | tup h hz hl hi=>exact ⟨_,_,rfl,h,bG.of_get hl hi⟩
theorem Rep.tkE {K:PySem.W.Frag} {F:Fz} {H:Hp} {v:V} {ds:List D} (r:Rep K F H v (.tk ds)):∃a vs,v= .ref a∧TpK K H a vs∧bG K F H vs ds∧ds.length≤sizeLine:=by
 cases r with
 | tk h hz hl hi=>exact ⟨_,_,rfl,h,bG.of_get hl hi,by rw [←hl];exact hz⟩
def Bnd:D→Prop
 | .str x=>SOk x
 | .tup ds=>ds.length≤sizeLine
 | _=>True
theorem Rep.bnd {K:PySem.W.Frag} {F:Fz} {H:Hp} {v:V} {d:D} (r:Rep K F H v d):Bnd d:=by
 cases r with
 | str x h=>exact h
 | tup h hz hl hi=>
  show _≤_
  rw [←hl]
  exact hz
 | _=>exact True.intro
theorem Rep.intE {K:PySem.W.Frag} {F:Fz} {H:Hp} {v:V} {i:Int} (r:Rep K F H v (.int i)):v= .int i:=by cases r;rfl
theorem Rep.blE {K:PySem.W.Frag} {F:Fz} {H:Hp} {v:V} {b:Bool} (r:Rep K F H v (.bl b)):v= .bl b:=by cases r;rfl
theorem Rep.strE {K:PySem.W.Frag} {F:Fz} {H:Hp} {v:V} {x:Str} (r:Rep K F H v (.str x)):v= .str x:=by cases r;rfl
theorem Rep.nonE {K:PySem.W.Frag} {F:Fz} {H:Hp} {v:V} (r:Rep K F H v .non):v= .non:=by cases r;rfl
theorem Rep.ptrE {K:PySem.W.Frag} {F:Fz} {H:Hp} {v:V} {a:Addr} (r:Rep K F H v (.ptr a)):v= .ref a:=by cases r;rfl
theorem Rep.tyE {K:PySem.W.Frag} {F:Fz} {H:Hp} {v:V} {n:String} (r:Rep K F H v (.ty n)):v= .ty n:=by cases r;rfl
theorem Rep.ilstE {K:PySem.W.Frag} {F:Fz} {H:Hp} {v:V} {ns:List Int} (r:Rep K F H v (.ilst ns)):∃a,v= .ref a∧SqL K H a (ns.map V.int):=by
 cases r with
 | ilst h=>
  refine ⟨_,rfl,?_⟩
  rcases h with ⟨o,h⟩ | h
  ·exact .inl (.inr ⟨o,h⟩)
  ·exact .inr h

def ErO (cls:Value) (d:Option Addr) (a:Addr):HO:= .ext fun h=> ∃(oe:Obj) (vs:Array Value),h.get? a=some oe∧oe.cls=cls∧oe.dict=d∧oe.data= .fields vs
def wU (K:PySem.W.Frag) (F:Fz) (H:Hp) (vs:List (Option V)) (fs:List (Option D)):Prop:= ∀(i:Nat) (d:D),fs[i]? =some (some d)→∃v,vs[i]? =some (some v)∧Rep K F H v d
def At (P:Program) (w:World) (K:PySem.W.Frag) (F:Fz) (H:Hp) (a:Addr):MO→Prop
 | .lst ds=> ∃vs,H a=some (.lst vs)∧bG K F H vs ds∧ds.length≤sizeLine
 | .dct kds=> ∃kvs,H a=some (.dT kvs)∧Paired (fun (p:List Key×V) (q:List Key×D)=>p.1=q.1∧Rep K F H p.2 q.2) kvs kds∧∀q∈kds,KOk q.1
 | .ins C fs=> ∃dx vs,SlX.Slt H a C dx vs∧wU K F H vs fs
 | .set S n=>H a=some (.ext fun h=>h.SetOf (mixKind P w) a S n)
 | .txs S n=>H a=some (.ext fun h=>cV w h a S n)∧∀k,S k=true→SOk k
 | .kd kds=> ∃kvs,H a=some (.dK kvs)∧Paired (fun (p:Key×V) (q:Key×D)=>p.1=q.1∧Rep K F H p.2 q.2) kvs kds
 | .nd kds=> ∃xs:List (NestedKey×Addr×Value),H a=some (ndO P w a xs)∧Paired (fun (x:NestedKey×Addr×Value) (q:D×D)=>x.1=nk q.1∧okN q.1=true∧(nk q.1).depth≤8∧Rep K F H (.ref x.2.1) q.1∧∃v,RelV v x.2.2∧Rep K F H v q.2) xs kds
 | .iin C fs=> ∃dx vfs,H a=some (.ins C dx vfs)∧Paired (fun (p:Str×V) (q:Str×D)=>p.1=q.1∧Rep K F H p.2 q.2) vfs fs
 | .tab q=> ∃ps:Array Value,H a=some (.tbl ps)∧TriplesOk ps.toList∧∀(pos:Pos) (cv:Value),codeAmong pos ps.toList=some cv→∃c,cv= .ref c∧F c∧H c=some (LamX.CodeO c q)
 | .exc C fs=> ∃dx fvs,H a=some (ErO (.ref C) (some dx) a)∧(fvs= []∨F dx)∧H dx=some (.xd fvs)∧Paired (fun (p:Str×V) (q:Str×D)=>p.1=q.1∧Rep K F H p.2 q.2) fvs fs
theorem Paired.mono {α β:Type} {F G:α→β→Prop}:∀{l1:List α} {l2:List β},Paired F l1 l2→(∀a b,F a b→G a b)→Paired G l1 l2
 | _,_,.nil,_=> .nil
 | _,_,.cons r t,f=> .cons (f _ _ r) (Paired.mono t f)
theorem wU.mono {K:PySem.W.Frag} {F F':Fz} {H H':Hp} {vs:List (Option V)} {fs:List (Option D)} (s:Mv F H F' H') (r:wU K F H vs fs):wU K F' H' vs fs:=fun i d e=>by
 obtain ⟨v,h1,h2⟩:=r i d e
 exact ⟨v,h1,h2.mono s⟩
theorem At.mono {P:Program} {w:World} {K:PySem.W.Frag} {F F':Fz} {H H':Hp} {a:Addr} {o:MO} (x:At P w K F H a o) (s:Mv F H F' H') (e:H' a=H a):At P w K F' H' a o:=by
 cases o with
 | lst ds=>
  obtain ⟨vs,h,r,z⟩:=x
  exact ⟨vs,e.trans h,r.mono s,z⟩
 | dct kds=>
  obtain ⟨kvs,h,r,z⟩:=x
  exact ⟨kvs,e.trans h,Paired.mono r fun p q z=>⟨z.1,z.2.mono s⟩,z⟩
 | ins C fs=>
  obtain ⟨dx,vs,h,r⟩:=x
  refine ⟨dx,vs,?_,r.mono s⟩
  rcases h with ⟨h,h2⟩ | ⟨h,hd⟩
  ·exact .inl ⟨e.trans h,h2⟩
  ·exact .inr ⟨e.trans h,s.stay.xd _ hd⟩
 | set S n=>exact e.trans x
 | txs S n=>exact ⟨e.trans x.1,x.2⟩
 | kd kds=>
  obtain ⟨kvs,h,r⟩:=x
  exact ⟨kvs,e.trans h,Paired.mono r fun p q z=>⟨z.1,z.2.mono s⟩⟩
 | nd kds=>
  obtain ⟨xs,h,r⟩:=x
  exact ⟨xs,e.trans h,Paired.mono r fun p q ⟨z1,z2,z3,z4,v,z5,z6⟩=>⟨z1,z2,z3,z4.mono s,v,z5,z6.mono s⟩⟩
 | iin C fs=>
  obtain ⟨dx,vfs,h,r⟩:=x
  exact ⟨dx,vfs,e.trans h,Paired.mono r fun p q z=>⟨z.1,z.2.mono s⟩⟩
 | tab q=>
  obtain ⟨ps,h,t,k⟩:=x
  refine ⟨ps,e.trans h,t,fun pos cv hc=> ?_⟩
  obtain ⟨c,e1,e2,e3⟩:=k pos cv hc
  exact ⟨c,e1,s.fz c e2,s.fk c _ e2 e3⟩
 | exc C fs=>
  obtain ⟨dx,fvs,h,hz,hd,r⟩:=x
  refine ⟨dx,fvs,e.trans h,hz.imp id (s.fz dx),?_,Paired.mono r fun p q z=>⟨z.1,z.2.mono s⟩⟩
  rcases hz with rfl | hz
  ·exact s.stay.xd _ hd
  ·exact s.fk _ _ hz hd
theorem At.some {P:Program} {w:World} {K:PySem.W.Frag} {F:Fz} {H:Hp} {a:Addr} {o:MO} (x:At P w K F H a o):∃u,H a=some u∧(∀vs,u≠ .tup vs)∧(∀z y,u≠ .frz z y)∧u≠ .xd []:=by
 cases o with
 | lst ds=>
  obtain ⟨vs,h,r,z⟩:=x
  exact ⟨_,h,fun _ z=>(nomatch z),fun _ _ z=>(nomatch z),fun z=>(nomatch z)⟩
 | dct kds=>
  obtain ⟨kvs,h,r,z⟩:=x
  exact ⟨_,h,fun _ z=>(nomatch z),fun _ _ z=>(nomatch z),fun z=>(nomatch z)⟩
 | ins C fs=>
  obtain ⟨dx,vs,h,r⟩:=x
  rcases h with ⟨h,h2⟩ | ⟨h,hd⟩
  ·exact ⟨_,h,fun _ z=>(nomatch z),fun _ _ z=>(nomatch z),fun z=>(nomatch z)⟩
  ·refine ⟨_,h,fun _ z=> ?_,fun _ _ z=> ?_,fun z=> ?_⟩ <;> (unfold SlX.SlO at z;cases z)
 | set S n=>exact ⟨_,x,fun _ z=>(nomatch z),fun _ _ z=>(nomatch z),fun z=>(nomatch z)⟩
 | txs S n=>exact ⟨_,x.1,fun _ z=>(nomatch z),fun _ _ z=>(nomatch z),fun z=>(nomatch z)⟩
 | kd kds=>
  obtain ⟨kvs,h,r⟩:=x
  exact ⟨_,h,fun _ z=>(nomatch z),fun _ _ z=>(nomatch z),fun z=>(nomatch z)⟩
 | nd kds=>
  obtain ⟨xs,h,r⟩:=x
  refine ⟨_,h,fun _ z=> ?_,fun _ _ z=> ?_,fun z=> ?_⟩ <;> (unfold ndO at z;cases z)
 | iin C fs=>
  obtain ⟨dx,vfs,h,r⟩:=x
  exact ⟨_,h,fun _ z=>(nomatch z),fun _ _ z=>(nomatch z),fun z=>(nomatch z)⟩
 | tab q=>
  obtain ⟨ps,h,_⟩:=x
  exact ⟨_,h,fun _ z=>(nomatch z),fun _ _ z=>(nomatch z),fun z=>(nomatch z)⟩
 | exc C fs=>
  obtain ⟨dx,fvs,h,_⟩:=x
  refine ⟨_,h,fun _ z=> ?_,fun _ _ z=> ?_,fun z=> ?_⟩ <;> (unfold ErO at z;cases z)

structure Con (P:Program) (w:World) (K:PySem.W.Frag) (L:Lp) (F:Fz) (H:Hp):Prop where
 at_:∀a o,L a=some o→At P w K F H a o
 fz:∀a,F a→L a=none∧∃o,H a=some o∧(∀y,o≠ .own y)∧o≠ .xd []
section
variable {P:Program} {w:World} {K:PySem.W.Frag} {L L':Lp} {F F':Fz} {H:Hp} {p:Addr} {o:HO} {mo mo':MO}
theorem Con.free (c:Con P w K L F H) {a:Addr} (h:H a=none):L a=none:=by
 cases e:L a with
 | none=>rfl
 | some o=>
  obtain ⟨u,q,_⟩:=(c.at_ a o e).some
  rw [h] at q
  cases q
theorem Con.nf (c:Con P w K L F H) (h:H p=none):¬F p:=fun z=>by
 obtain ⟨_,o,e,_⟩:=c.fz p z
 rw [h] at e
 cases e
theorem Con.nw (c:Con P w K L F H) (h:L p=some mo):¬F p:=fun z=>by
 rw [(c.fz p z).1] at h
 cases h
theorem Con.le (c:Con P w K L' F H) (h:Le L L'):Con P w K L F H:=⟨fun a o e=>c.at_ a o (h a o e),fun a z=>⟨h.none (c.fz a z).1,(c.fz a z).2⟩⟩
theorem Fr.leR {L L1 L2:Lp} {F F1:Fz} {H H1:Hp} (f:Fr L F H L1 F1 H1) (h:Le L2 L1):Fr L F H L2 F1 H1:=⟨f.keep,f.live,f.stay,fun a n=>f.dom a (h.ne n),f.fz,f.fk,f.off⟩
theorem Fr.leL {L L1 L2:Lp} {F F1:Fz} {H H1:Hp} (f:Fr L F H L1 F1 H1) (h:Le L L2):Fr L2 F H L1 F1 H1:=⟨fun a o e q n=>f.keep a o e q (h.none n),f.live,f.stay,fun a n=>(f.dom a n).imp (fun z=>h.ne z) id,f.fz,f.fk,fun a z=>(f.off a z).imp id (Or.imp (fun z=>h.ne z) id)⟩

theorem Stay.new {H:Hp} {p:Addr} {o:HO} (h:H p=none):Stay H (upd H p o):=
 ⟨fun a vs e=>by rw [upd_ne (ne_of_none e h)];exact e,fun a ob u e=>by rw [upd_ne (ne_of_none e h)];exact e,fun a e=>by rw [upd_ne (ne_of_none e h)];exact e⟩
theorem Fr.new (h:H p=none):Fr L F H L F (upd H p o):=
 ⟨fun a u e _ _=>by rw [upd_ne (ne_of_none e h)];exact e,fun a z=>dY z,.new h,fun _ z=> .inl z,fun _ z=>z,fun a u _ e=>by rw [upd_ne (ne_of_none e h)];exact e,fun _ z=> .inl z⟩
theorem Mv.new (h:H p=none):Mv F H F (upd H p o):=⟨.new h,fun _ z=>z,fun a u _ e=>by rw [upd_ne (ne_of_none e h)];exact e⟩
theorem Con.new (c:Con P w K L F H) (h:H p=none):Con P w K L F (upd H p o):=⟨fun a u e=>by
 obtain ⟨x,q,_⟩:=(c.at_ a u e).some
 exact (c.at_ a u e).mono (Mv.new h) (upd_ne (ne_of_none q h)),fun a z=>by
 obtain ⟨n,u,e,q⟩:=c.fz a z
 exact ⟨n,u,by rw [upd_ne (ne_of_none e h)];exact e,q⟩⟩
theorem Fr.newL (h:H p=none):Fr L F H (put L p mo) F (upd H p o):=
 ⟨fun a u e _ _=>by rw [upd_ne (ne_of_none e h)];exact e,fun a z=>dY z,.new h,fun a z=>by
  by_cases e:a=p
  ·exact .inr (by rw [e];exact h)
  ·rw [aJ e] at z
   exact .inl z,fun _ z=>z,fun a u _ e=>by rw [upd_ne (ne_of_none e h)];exact e,fun _ z=> .inl z⟩
theorem Con.newL (c:Con P w K L F H) (h:H p=none) (x:At P w K F (upd H p o) p mo):Con P w K (put L p mo) F (upd H p o):=⟨fun a u e=>by
 by_cases ep:a=p
 ·subst ep
  rw [aD] at e
  cases e
  exact x
 ·rw [aJ ep] at e
  exact (c.new h).at_ a u e,fun a z=>by
 have ep:a≠p:=fun e=>c.nf h (e ▸z)
 rw [aJ ep]
 exact (c.new h).fz a z⟩
theorem Stay.write (x:At P w K F H p mo):Stay H (upd H p o):=by
 obtain ⟨u,h,n1,n2,n3⟩:=x.some
 refine ⟨fun a vs e=> ?_,fun a ob z e=> ?_,fun a e=> ?_⟩
 ·rw [upd_ne (fun q=>by rw [q,h] at e;exact n1 vs (Option.some.inj e))];exact e
 ·rw [upd_ne (fun q=>by rw [q,h] at e;exact n2 _ _ (Option.some.inj e))];exact e
 ·rw [upd_ne (fun q=>by rw [q,h] at e;exact n3 (Option.some.inj e))];exact e
theorem Mv.write (c:Con P w K L F H) (h:L p=some mo):Mv F H F (upd H p o):=⟨.write (c.at_ p mo h),fun _ z=>z,fun a u z e=>by
 have ea:a≠p:=fun q=>c.nw h (q ▸z)
 rw [upd_ne ea];exact e⟩
theorem Mv.trans {F F1 F2:Fz} {H H1 H2:Hp} (a:Mv F H F1 H1) (b:Mv F1 H1 F2 H2):Mv F H F2 H2:=⟨a.stay.trans b.stay,fun c h=>b.fz c (a.fz c h),fun c o h e=>b.fk c o (a.fz c h) (a.fk c o h e)⟩
theorem Fr.write (c:Con P w K L F H) (h:L p=some mo):Fr L F H (put L p mo') F (upd H p o):=
 ⟨fun a u e _ n=>by rw [upd_ne (fun q=>by rw [q,h] at n;cases n)];exact e,fun a z=>dY z,.write (c.at_ p mo h),fun a z=>by
  by_cases e:a=p
  ·exact .inl (by rw [e,h];simp)
  ·rw [aJ e] at z
   exact .inl z,fun _ z=>z,fun a u z e=>by
  have ea:a≠p:=fun q=>c.nw h (q ▸z)
  rw [upd_ne ea];exact e,fun _ z=> .inl z⟩
theorem Con.write (c:Con P w K L F H) (h:L p=some mo) (x:At P w K F (upd H p o) p mo'):Con P w K (put L p mo') F (upd H p o):=⟨fun a u e=>by
 by_cases ep:a=p
 ·subst ep
  rw [aD] at e
  cases e
  exact x
 ·rw [aJ ep] at e
  exact (c.at_ a u e).mono (Mv.write c h) (upd_ne ep),fun a z=>by
 have ep:a≠p:=fun e=>c.nw h (e ▸z)
 rw [aJ ep,upd_ne ep]
 exact c.fz a z⟩
end

abbrev Gm:=List (Option D)
structure Sl (K:PySem.W.Frag) (F:Fz) (H:Hp) (σ:L2.St) (Γ:Gm):Prop where
 len:σ.length=Γ.length
 get:∀(i:Nat) (d:D),Γ[i]? =some (some d)→∃v,σ[i]? =some (some v)∧Rep K F H v d
theorem Sl.mono {K:PySem.W.Frag} {F F':Fz} {H H':Hp} {σ:L2.St} {Γ:Gm} (x:Sl K F H σ Γ) (s:Mv F H F' H'):Sl K F' H' σ Γ:=⟨x.len,fun i d e=>by
 obtain ⟨v,h,r⟩:=x.get i d e
 exact ⟨v,h,r.mono s⟩⟩
theorem Sl.set {K:PySem.W.Frag} {F:Fz} {H:Hp} {σ:L2.St} {Γ:Gm} (x:Sl K F H σ Γ) (i:Nat) {v:V} {d:D} (r:Rep K F H v d):Sl K F H (σ.set i (some v)) (Γ.set i (some d)):=by
 refine ⟨by simpa using x.len,fun j d' e=> ?_⟩
 by_cases h:j=i
 ·subst h
  by_cases hl:j < Γ.length
  ·rw [List.getElem?_set_self hl] at e
   cases e
   exact ⟨v,List.getElem?_set_self (by rw [x.len];exact hl),r⟩
  ·rw [List.getElem?_eq_none (by simp;omega)] at e
   cases e
 ·rw [List.getElem?_set_ne (Ne.symm h)] at e
  rw [List.getElem?_set_ne (Ne.symm h)]
  exact x.get j d' e
end DL
namespace DL
open PySem PySem.Spec PyProof.Rows L2

section
variable {X:Cx} {σ:L2.St} {H:Hp}
structure WE (X:Cx) (e:Expr) (σ:L2.St) (H:Hp) (Q:VK):Prop where
 run:∀(pins:List (Addr×Obj)) (s:Shared),Inv X pins σ H s→wpAny (model X.prog X.w) X.A (eval e X.env) (EP X pins σ Q) X.xe s
structure WT (X:Cx) (e:Expr) (σ:L2.St) (H:Hp) (Q:Bool→Hp→Prop):Prop where
 run:∀(pins:List (Addr×Obj)) (s:Shared),Inv X pins σ H s→wpAny (model X.prog X.w) X.A (isTrue e X.env (eval e X.env)) (TP X pins σ Q) X.xe s
structure WA (X:Cx) (es:List Expr) (σ:L2.St) (H:Hp) (Q:List V→Hp→Prop):Prop where
 run:∀(pos:Pos) (pins:List (Addr×Obj)) (s:Shared),Inv X pins σ H s→wpAny (model X.prog X.w) X.A (spliced (backTo pos (starEach es X.env))) (AP X pins σ Q) X.xe s
structure WSs (X:Cx) (st:List Stmt) (D:Ends) (σ:L2.St) (H:Hp):Prop where
 run:∀(pins:List (Addr×Obj)) (s:Shared),Inv X pins σ H s→wpAny (model X.prog X.w) X.A (execs st X.env) (SP X pins D) X.xe s
structure WS (X:Cx) (st:Stmt) (D:Ends) (σ:L2.St) (H:Hp):Prop where
 run:∀(pins:List (Addr×Obj)) (s:Shared),Inv X pins σ H s→wpAny (model X.prog X.w) X.A (exec st X.env) (SP X pins D) X.xe s
theorem bA {e:Expr}:PE X e (WE X e):=⟨fun pins s σ H Q I h=>h.run pins s I⟩
theorem tL {e:Expr}:PT X e (WT X e):=⟨fun pins s σ H Q I h=>h.run pins s I⟩
theorem mW {es:List Expr}:PA X es (WA X es):=⟨fun pos pins s σ H Q I h=>h.run pos pins s I⟩
theorem ps_we {st:Stmt}:PS X st (WS X st):=⟨fun pins s σ H D I h=>h.run pins s I⟩
theorem mF {st:List Stmt}:PSs X st (WSs X st):=⟨fun pins s σ H D I h=>h.run pins s I⟩
theorem dO {e:Expr} {t:TE} {Q:VK} (h:PE X e t) (q:t σ H Q):WE X e σ H Q:=⟨fun pins s I=>h.run pins s σ H Q I q⟩
theorem yK {e:Expr} {t:TT} {Q:Bool→Hp→Prop} (h:PT X e t) (q:t σ H Q):WT X e σ H Q:=⟨fun pins s I=>h.run pins s σ H Q I q⟩
theorem zP {es:List Expr} {t:TA} {Q:List V→Hp→Prop} (h:PA X es t) (q:t σ H Q):WA X es σ H Q:=⟨fun pos pins s I=>h.run pos pins s σ H Q I q⟩
theorem lF {st:Stmt} {t:TS} {D:Ends} (h:PS X st t) (q:t D σ H):WS X st D σ H:=⟨fun pins s I=>h.run pins s σ H D I q⟩
theorem wV {st:List Stmt} {t:TS} {D:Ends} (h:PSs X st t) (q:t D σ H):WSs X st D σ H:=⟨fun pins s I=>h.run pins s σ H D I q⟩
end

structure Ctx where
 X:Cx
 W:WX
 R:Gm→Value→List (Str×D)→Lp→Prop
 tk:Takes X W
 po:PassesOwn (model X.prog X.w) X.A X.env X.xe
 calm:X.calm=true
 nd:X.N.Nodup
 /-- what stays true of the store behind the entry -/
 T:Lp→Fz→Hp→Prop:=fun _ _ _=>True
 tfr:∀{L F H L' F' H'},T L F H→Fr L F H L' F' H'→T L' F' H':=by exact fun _ _=>True.intro
 tle:∀{L L' F H},T L F H→Le L' L→T L' F H:=by exact fun _ _=>True.intro
abbrev Ctx.Con (C:Ctx) (L:Lp) (F:Fz) (H:Hp):Prop:=DL.Con C.X.prog C.X.w C.X.K L F H
def yJ (K:PySem.W.Frag) (F:Fz) (H:Hp) (d:Addr) (fs:List (Str×D)):Prop:= ∃fvs,(fvs= []∨F d)∧H d=some (.xd fvs)∧Paired (fun (p:Str×V) (q:Str×D)=>p.1=q.1∧Rep K F H p.2 q.2) fvs fs
structure LinkR (C:Ctx) (L:Lp) (F:Fz) (H:Hp):Prop where
 of:∀{F'} cls d σ' H' Γ' L' fs,Sl C.X.K F' H' σ' Γ'→C.Con L' F' H'→Fr L F H L' F' H'→yJ C.X.K F' H' d fs→C.R Γ' cls fs L'→C.W cls (some d) σ' H'
 tk:C.T L F H
structure Ok (C:Ctx) (Γ:Gm) (L:Lp) (F:Fz) (σ:L2.St) (H:Hp):Prop where
 sl:Sl C.X.K F H σ Γ
 con:C.Con L F H
 lr:LinkR C L F H
theorem LinkR.step {C:Ctx} {L L':Lp} {F F':Fz} {H H':Hp} (x:LinkR C L F H) (f:Fr L F H L' F' H'):LinkR C L' F' H':=⟨fun cls d σ' H2 Γ' L2 fs s c f2 xd r=>x.of cls d σ' H2 Γ' L2 fs s c (f.trans f2) xd r,C.tfr x.tk f⟩
theorem Ok.step {C:Ctx} {Γ:Gm} {L L':Lp} {σ:L2.St} {F F':Fz} {H H':Hp} (x:Ok C Γ L F σ H) (c:C.Con L' F' H') (f:Fr L F H L' F' H'):Ok C Γ L' F' σ H':=⟨x.sl.mono f.mv,c,x.lr.step f⟩
theorem Ok.le {C:Ctx} {Γ:Gm} {L L':Lp} {σ:L2.St} {F:Fz} {H:Hp} (x:Ok C Γ L F σ H) (h:Le L' L):Ok C Γ L' F σ H:=⟨x.sl,x.con.le h,⟨fun cls d σ' H2 Γ' L2 fs s c f2 xd r=>x.lr.of cls d σ' H2 Γ' L2 fs s c (f2.leL h) xd r,C.tle x.lr.tk h⟩⟩

def Go (C:Ctx) (L:Lp) (F:Fz) (H:Hp) (Q:D→Lp→Prop) (QV:VK):Prop:= ∀{F'} v d H' L',Rep C.X.K F' H' v d→C.Con L' F' H'→Fr L F H L' F' H'→Q d L'→QV v H'
def GoT (C:Ctx) (L:Lp) (F:Fz) (H:Hp) (Q:Bool→Lp→Prop) (QV:Bool→Hp→Prop):Prop:= ∀{F'} b H' L',C.Con L' F' H'→Fr L F H L' F' H'→Q b L'→QV b H'
def GoA (C:Ctx) (L:Lp) (F:Fz) (H:Hp) (Q:List D→Lp→Prop) (QV:List V→Hp→Prop):Prop:= ∀{F'} vs ds H' L',bG C.X.K F' H' vs ds→C.Con L' F' H'→Fr L F H L' F' H'→Q ds L'→QV vs H'
theorem Go.after {C:Ctx} {L L':Lp} {F F':Fz} {H H':Hp} {Q:D→Lp→Prop} {QV:VK} (g:Go C L F H Q QV) (f:Fr L F H L' F' H'):Go C L' F' H' Q QV:=fun v d H2 L2 r c f2 q=>g v d H2 L2 r c (f.trans f2) q
theorem GoT.after {C:Ctx} {L L':Lp} {F F':Fz} {H H':Hp} {Q:Bool→Lp→Prop} {QV:Bool→Hp→Prop} (g:GoT C L F H Q QV) (f:Fr L F H L' F' H'):GoT C L' F' H' Q QV:=fun v H2 L2 c f2 q=>g v H2 L2 c (f.trans f2) q
theorem GoA.after {C:Ctx} {L L':Lp} {F F':Fz} {H H':Hp} {Q:List D→Lp→Prop} {QV:List V→Hp→Prop} (g:GoA C L F H Q QV) (f:Fr L F H L' F' H'):GoA C L' F' H' Q QV:=fun v d H2 L2 r c f2 q=>g v d H2 L2 r c (f.trans f2) q

structure AEnds where
 nx:Gm→Lp→Prop
 rt:D→Lp→Prop
 bk:Gm→Lp→Prop:=fun _ _=>False
 ct:Gm→Lp→Prop:=fun _ _=>False
structure GoS (C:Ctx) (L:Lp) (F:Fz) (H:Hp) (E:AEnds) (DD:Ends):Prop where
 nx:∀{F'} σ' H' Γ' L',Ok C Γ' L' F' σ' H'→Fr L F H L' F' H'→E.nx Γ' L'→DD.nx σ' H'
 rt:∀{F'} v d H' L',Rep C.X.K F' H' v d→C.Con L' F' H'→Fr L F H L' F' H'→E.rt d L'→DD.rt v H'
 bk:∀{F'} σ' H' Γ' L',Ok C Γ' L' F' σ' H'→Fr L F H L' F' H'→E.bk Γ' L'→DD.bk σ' H'
 ct:∀{F'} σ' H' Γ' L',Ok C Γ' L' F' σ' H'→Fr L F H L' F' H'→E.ct Γ' L'→DD.ct σ' H'
theorem GoS.after {C:Ctx} {L L':Lp} {F F':Fz} {H H':Hp} {E:AEnds} {DD:Ends} (g:GoS C L F H E DD) (f:Fr L F H L' F' H'):GoS C L' F' H' E DD:=
 ⟨fun s H2 Γ L2 o f2 q=>g.nx s H2 Γ L2 o (f.trans f2) q,fun v d H2 L2 r c f2 q=>g.rt v d H2 L2 r c (f.trans f2) q,fun s H2 Γ L2 o f2 q=>g.bk s H2 Γ L2 o (f.trans f2) q,fun s H2 Γ L2 o f2 q=>g.ct s H2 Γ L2 o (f.trans f2) q⟩

def AE (C:Ctx) (e:Expr) (Γ:Gm) (L:Lp) (Q:D→Lp→Prop):Prop:= ∀F σ H,Ok C Γ L F σ H→∀QV,Go C L F H Q QV→WE C.X e σ H QV
def AT (C:Ctx) (e:Expr) (Γ:Gm) (L:Lp) (Q:Bool→Lp→Prop):Prop:= ∀F σ H,Ok C Γ L F σ H→∀QV,GoT C L F H Q QV→WT C.X e σ H QV
def AA (C:Ctx) (es:List Expr) (Γ:Gm) (L:Lp) (Q:List D→Lp→Prop):Prop:= ∀F σ H,Ok C Γ L F σ H→∀QV,GoA C L F H Q QV→WA C.X es σ H QV
def AS (C:Ctx) (st:Stmt) (Γ:Gm) (L:Lp) (E:AEnds):Prop:= ∀F σ H,Ok C Γ L F σ H→∀DD,GoS C L F H E DD→WS C.X st DD σ H
def ASs (C:Ctx) (st:List Stmt) (Γ:Gm) (L:Lp) (E:AEnds):Prop:= ∀F σ H,Ok C Γ L F σ H→∀DD,GoS C L F H E DD→WSs C.X st DD σ H

section
variable {C:Ctx} {Γ:Gm} {L:Lp} {e a b c:Expr} {es:List Expr} {pos:Pos} {st:Stmt} {sts:List Stmt} {E:AEnds} {Q:D→Lp→Prop}
theorem AE.mono {Q':D→Lp→Prop} (h:AE C e Γ L Q) (m:∀d L',Q d L'→Q' d L'):AE C e Γ L Q':=fun F σ H ok QV go=>h _ σ H ok QV fun v d H' L' r c f q=>go v d H' L' r c f (m d L' q)
theorem AT.mono {Q Q':Bool→Lp→Prop} (h:AT C e Γ L Q) (m:∀d L',Q d L'→Q' d L'):AT C e Γ L Q':=fun F σ H ok QV go=>h _ σ H ok QV fun d H' L' c f q=>go d H' L' c f (m d L' q)
theorem AA.mono {Q Q':List D→Lp→Prop} (h:AA C es Γ L Q) (m:∀d L',Q d L'→Q' d L'):AA C es Γ L Q':=fun F σ H ok QV go=>h _ σ H ok QV fun v d H' L' r c f q=>go v d H' L' r c f (m d L' q)
theorem AE.drop (h:AE C e Γ L fun d L'=> ∃L2,Le L2 L'∧Q d L2):AE C e Γ L Q:=fun F σ H ok QV go=>h _ σ H ok QV fun v d H' L' r c f ⟨L2,le,q⟩=>go v d H' L2 r (c.le le) (f.leR le) q
theorem ASs.mono {E':AEnds} (h:ASs C sts Γ L E) (m1:∀Γ L,E.nx Γ L→E'.nx Γ L) (m2:∀d L,E.rt d L→E'.rt d L) (m3:∀Γ L,E.bk Γ L→E'.bk Γ L) (m4:∀Γ L,E.ct Γ L→E'.ct Γ L):ASs C sts Γ L E':=fun F σ H ok DD go=>h _ σ H ok DD
 ⟨fun s H2 Γ L2 o f2 q=>go.nx s H2 Γ L2 o f2 (m1 _ _ q),fun v d H2 L2 r c f2 q=>go.rt v d H2 L2 r c f2 (m2 _ _ q),fun s H2 Γ L2 o f2 q=>go.bk s H2 Γ L2 o f2 (m3 _ _ q),fun s H2 Γ L2 o f2 q=>go.ct s H2 Γ L2 o f2 (m4 _ _ q)⟩

theorem AE.bnd (h:AE C e Γ L fun d L'=>Bnd d→Q d L'):AE C e Γ L Q:=fun F σ H ok QV go=>h _ σ H ok QV fun v d H' L' r c f q=>go v d H' L' r c f (q r.bnd)
theorem AA.bnd {Q:List D→Lp→Prop} (h:AA C es Γ L fun ds L'=>(∀d∈ds,Bnd d)→Q ds L'):AA C es Γ L Q:=fun F σ H ok QV go=>h _ σ H ok QV fun vs ds H' L' r c f q=>go vs ds H' L' r c f (q fun d hd=>by
 obtain ⟨i,hi⟩:=List.getElem?_of_mem hd
 obtain ⟨v,_,rv⟩:=r.get hi
 exact rv.bnd)
theorem ASs.slot {i:Nat} {d:D} (hg:Γ[i]? =some (some d)) (h:Bnd d→ASs C sts Γ L E):ASs C sts Γ L E:=fun F σ H ok DD go=>by
 obtain ⟨v,_,r⟩:=ok.sl.get i d hg
 exact h r.bnd _ σ H ok DD go
theorem ASs.list {p:Addr} {ds:List D} (hp:L p=some (.lst ds)) (h:ds.length≤sizeLine→ASs C sts Γ L E):ASs C sts Γ L E:=fun F σ H ok DD go=>by
 obtain ⟨vs,_,_,z⟩:=ok.con.at_ p _ hp
 exact h z _ σ H ok DD go
theorem AE.list {p:Addr} {ds:List D} (hp:L p=some (.lst ds)) (h:ds.length≤sizeLine→AE C e Γ L Q):AE C e Γ L Q:=fun F σ H ok DD go=>by
 obtain ⟨vs,_,_,z⟩:=ok.con.at_ p _ hp
 exact h z _ σ H ok DD go

theorem aA (i:Nat) {x:Str} {d:D} (hg:Γ[i]? =some (some d)) (q:Q d L) (hN:C.X.N[i]? =some x:=by rfl) (hv:Vis C.X.env.scope x:=by first | exact Or.inl rfl | exact Or.inr (Or.inl rfl) | exact Or.inr (Or.inr rfl))
  (hd:(x==("__debug__" :Str))=false:=by decide) (hcd:(x==("__classdict__" :Str))=false:=by decide):AE C (.Name x pos) Γ L Q:=fun F σ H ok QV go=>by
 obtain ⟨v,e,r⟩:=ok.sl.get i d hg
 exact dO (pe_var hN hv hd hcd) ⟨v,e,go v d H L r ok.con (.refl L H) q⟩
theorem aG {i:Int} {j:Nat} (q:Q (.int i) L):AE C (.Constant (.int i) j pos) Γ L Q:=fun F σ H ok QV go=>dO pe_int (go _ _ H L (.int i) ok.con (.refl L H) q)
theorem aAe {b:Bool} {j:Nat} (q:Q (.bl b) L):AE C (.Constant (.bool b) j pos) Γ L Q:=fun F σ H ok QV go=>dO pe_bl (go _ _ H L (.bl b) ok.con (.refl L H) q)
theorem xQ {j:Nat} (q:Q .non L):AE C (.Constant .none j pos) Γ L Q:=fun F σ H ok QV go=>dO pe_non (go _ _ H L .non ok.con (.refl L H) q)
theorem gY {x:Str} {j:Nat} (q:Q (.str x) L) (hz:SOk x:=by exact ⟨by decide+kernel,by decide+kernel⟩):AE C (.Constant (.str x) j pos) Γ L Q:=fun F σ H ok QV go=>dO pe_str (go _ _ H L (.str x hz) ok.con (.refl L H) q)
theorem kZ {x:Str} {v:V} {u:Value} {d:D} (hm:C.X.mg x=some u) (r:RelV v u) (rd:∀{F} H,Rep C.X.K F H v d) (q:Q d L) (hg:Gl C.X x:=by rfl) (hd:(x==("__debug__" :Str))=false:=by decide):AE C (.Name x pos) Γ L Q:=fun F σ H ok QV go=>
 dO (pe_glob hg hm r hd) (go _ _ H L (rd H) ok.con (.refl L H) q)
theorem oH {x:Str} {i:Int} {t:Tok} (hm:C.X.mg x=some (.int i t)) (q:Q (.int i) L) (hg:Gl C.X x:=by rfl) (hd:(x==("__debug__" :Str))=false:=by decide):AE C (.Name x pos) Γ L Q:=kZ (v:= .int i) hm ⟨t,rfl⟩ (fun _=> .int i) q hg hd
theorem ae_globS {x y:Str} {t:Tok} (hm:C.X.mg x=some (.str y t)) (q:Q (.str y) L) (hz:SOk y:=by exact ⟨by decide+kernel,by decide+kernel⟩) (hg:Gl C.X x:=by rfl) (hd:(x==("__debug__" :Str))=false:=by decide):AE C (.Name x pos) Γ L Q:=kZ (v:= .str y) hm ⟨t,rfl⟩ (fun _=> .str y hz) q hg hd
theorem iW {x:Str} {T:String} (hm:C.X.mg x=none) (hv:bootBuiltins x=some (.type T)) (q:Q (.ty T) L) (hg:Gl C.X x:=by rfl) (hn:x≠"__name__" :=by decide) (hd:(x==("__debug__" :Str))=false:=by decide):AE C (.Name x pos) Γ L Q:=fun F σ H ok QV go=>
 dO (pe_bltn hg hm hv (v:= .ty T) rfl hn hd) (go _ _ H L (.ty T) ok.con (.refl L H) q)

def L2R (C:Ctx) (r:R2) (x y:D) (L:Lp) (Q:D→Lp→Prop):Prop:= ∀F vx vy H,C.Con L F H→Rep C.X.K F H vx x→Rep C.X.K F H vy y→∀QV,Go C L F H Q QV→r vx vy H QV
theorem zJ {t:Expr} {r:R2} (hp:PE C.X t (tOp r (WE C.X a) (WE C.X b))) (h:AE C a Γ L fun x L1=>AE C b Γ L1 fun y L2=>L2R C r x y L2 Q):AE C t Γ L Q:=fun F σ H ok QV go=>
 dO hp (h _ σ H ok _ fun vx x H1 L1 rx c1 f1 q1=>q1 _ σ H1 (ok.step c1 f1) _ fun vy y H2 L2 ry c2 f2 q2=>q2 _ vx vy H2 c2 (rx.mono f2.mv) ry QV (go.after (f1.trans f2)))
theorem aY {op:Operator} {r:R2} (ho:OpR C.X (binaryOp op) r) (h:AE C a Γ L fun x L1=>AE C b Γ L1 fun y L2=>L2R C r x y L2 Q):AE C (.BinOp a op b pos) Γ L Q:=zJ (pe_op ho bA bA) h
theorem jB {op:CmpOp} {r:R2} (ho:OpR C.X (compareOp op) r) (hm:behindInMarks op b=false) (h:AE C a Γ L fun x L1=>AE C b Γ L1 fun y L2=>L2R C r x y L2 Q):AE C (.Compare a [op] [b] pos) Γ L Q:=zJ (pe_cmpR ho bA bA hm) h
theorem gK {op:CmpOp} {r:R2} {Q:Bool→Lp→Prop} (ho:OpR C.X (compareOp op) r) (hm:behindInMarks op b=false) (h:AE C a Γ L fun x L1=>AE C b Γ L1 fun y L2=>L2R C r x y L2 fun d L3=> ∃k,d= .bl k∧Q k L3):AT C (.Compare a [op] [b] pos) Γ L Q:=fun F σ H ok QV go=>
 yK (pt_cmpR ho bA bA hm) (h _ σ H ok _ fun vx x H1 L1 rx c1 f1 q1=>q1 _ σ H1 (ok.step c1 f1) _ fun vy y H2 L2 ry c2 f2 q2=>q2 _ vx vy H2 c2 (rx.mono f2.mv) ry _ fun v d H3 L3 r3 c3 f3 ⟨k,e,q3⟩=>by
  subst e
  exact ⟨k,r3.blE,go k H3 L3 c3 ((f1.trans f2).trans f3) q3⟩)
theorem aR {r:R2} (hr:IxR C.X r) (h:AE C a Γ L fun x L1=>AE C b Γ L1 fun y L2=>L2R C r x y L2 Q) (hs:PlainIx b:=by exact fun _ _=>rfl):AE C (.Subscript a b pos) Γ L Q:=zJ (pe_ix hr bA bA hs) h
theorem aAK {g:Int→Int→V} {g':Int→Int→D} {i j:Int} (hg:∀{F} H,Rep C.X.K F H (g i j) (g' i j)) (q:Q (g' i j) L):L2R C (rI0 g) (.int i) (.int j) L Q:=fun F vx vy H c rx ry QV go=>⟨i,j,rx.intE,ry.intE,go _ _ H L (hg H) c (.refl L H) q⟩
theorem r_I {Cd:Int→Int→Prop} {g:Int→Int→V} {g':Int→Int→D} {i j:Int} (hc:Cd i j) (hg:∀{F} H,Rep C.X.K F H (g i j) (g' i j)) (q:Q (g' i j) L):L2R C (rI Cd g) (.int i) (.int j) L Q:=fun F vx vy H c rx ry QV go=>⟨i,j,rx.intE,ry.intE,hc,go _ _ H L (hg H) c (.refl L H) q⟩
end
end DL
namespace DL
open PySem PySem.Spec PyProof.Rows L2

section
variable {C:Ctx} {Γ:Gm} {L:Lp} {e a b c:Expr} {es:List Expr} {pos:Pos} {st:Stmt} {sts:List Stmt} {E:AEnds} {Q:D→Lp→Prop}

theorem rW {i j:Int} (q:Q (.int (i+j)) L):L2R C (rI0 fun i j=> .int (i+j)) (.int i) (.int j) L Q:=aAK (g':=fun i j=> .int (i+j)) (fun _=> .int _) q
theorem r_sub {i j:Int} (q:Q (.int (i - j)) L):L2R C (rI0 fun i j=> .int (i - j)) (.int i) (.int j) L Q:=aAK (g':=fun i j=> .int (i - j)) (fun _=> .int _) q
theorem rQ {i j:Int} (h:CMul i j) (q:Q (.int (i*j)) L):L2R C (rI CMul fun i j=> .int (i*j)) (.int i) (.int j) L Q:=r_I (g':=fun i j=> .int (i*j)) h (fun _=> .int _) q
theorem rR {i j:Int} (h:0 < j) (q:Q (.int (i % j)) L):L2R C (rI (fun _ j=>0 < j) fun i j=> .int (i % j)) (.int i) (.int j) L Q:=r_I (Cd:=fun _ j=>0 < j) (g:=fun i j=> .int (i % j)) (g':=fun i j=> .int (i % j)) h (fun _=> .int _) q
theorem yP {i j:Int} (h:CDiv i j) (q:Q (.int (i / j)) L):L2R C (rI CDiv fun i j=> .int (i / j)) (.int i) (.int j) L Q:=r_I (g':=fun i j=> .int (i / j)) h (fun _=> .int _) q
theorem aAo {i j:Int} (h:CPow i j) (q:Q (.int (i ^ j.toNat)) L):L2R C (rI CPow fun i j=> .int (i ^ j.toNat)) (.int i) (.int j) L Q:=r_I (g':=fun i j=> .int (i ^ j.toNat)) h (fun _=> .int _) q
theorem aA6 {i j:Int} (q:Q (.bl (decide (i < j))) L):L2R C (rI0 fun i j=> .bl (decide (i < j))) (.int i) (.int j) L Q:=aAK (g':=fun i j=> .bl (decide (i < j))) (fun _=> .bl _) q
theorem aA7 {i j:Int} (q:Q (.bl (decide (i≤j))) L):L2R C (rI0 fun i j=> .bl (decide (i≤j))) (.int i) (.int j) L Q:=aAK (g':=fun i j=> .bl (decide (i≤j))) (fun _=> .bl _) q
theorem r_gt {i j:Int} (q:Q (.bl (decide (j < i))) L):L2R C (rI0 fun i j=> .bl (decide (j < i))) (.int i) (.int j) L Q:=aAK (g':=fun i j=> .bl (decide (j < i))) (fun _=> .bl _) q
theorem r_ge {i j:Int} (q:Q (.bl (decide (j≤i))) L):L2R C (rI0 fun i j=> .bl (decide (j≤i))) (.int i) (.int j) L Q:=aAK (g':=fun i j=> .bl (decide (j≤i))) (fun _=> .bl _) q
theorem vint_dec (i j:Int):decide (V.int i=V.int j)=decide (i=j):=by
 by_cases h:i=j
 ·subst h;simp
 ·rw [decide_eq_false h,decide_eq_false (fun q=>h (V.int.inj q))]
theorem vstr_dec (i j:Str):decide (V.str i=V.str j)=decide (i=j):=by
 by_cases h:i=j
 ·subst h;simp
 ·rw [decide_eq_false h,decide_eq_false (fun q=>h (V.str.inj q))]
theorem r_eqI {i j:Int} (q:Q (.bl (decide (i=j))) L):L2R C rEq (.int i) (.int j) L Q:=fun F vx vy H c rx ry QV go=>by
 rw [rx.intE,ry.intE]
 refine ⟨rfl,?_⟩
 rw [vint_dec]
 exact go _ _ H L (.bl _) c (.refl L H) q
theorem r_neI {i j:Int} (q:Q (.bl (!decide (i=j))) L):L2R C rNe (.int i) (.int j) L Q:=fun F vx vy H c rx ry QV go=>by
 rw [rx.intE,ry.intE]
 refine ⟨rfl,?_⟩
 rw [vint_dec]
 exact go _ _ H L (.bl _) c (.refl L H) q
theorem r_eqS {i j:Str} (q:Q (.bl (decide (i=j))) L):L2R C rEq (.str i) (.str j) L Q:=fun F vx vy H c rx ry QV go=>by
 rw [rx.strE,ry.strE]
 refine ⟨rfl,?_⟩
 rw [vstr_dec]
 exact go _ _ H L (.bl _) c (.refl L H) q
theorem r_neS {i j:Str} (q:Q (.bl (!decide (i=j))) L):L2R C rNe (.str i) (.str j) L Q:=fun F vx vy H c rx ry QV go=>by
 rw [rx.strE,ry.strE]
 refine ⟨rfl,?_⟩
 rw [vstr_dec]
 exact go _ _ H L (.bl _) c (.refl L H) q

theorem jR (i j:Str):(i++j).length=i.length+j.length:=by
 show (i.cps++j.cps).size=_
 rw [Array.size_append]
 rfl
theorem SOk.app {i j:Str} (hi:SOk i) (hj:SOk j) (h:i.length+j.length≤sizeLine):SOk (i++j):= .of (by rw [jR];exact h) fun k hk=>by
 have e:(i++j).cps.toList=i.cps.toList++j.cps.toList:=by
  show (i.cps++j.cps).toList=_
  simp
 rw [e] at hk
 rcases List.mem_append.mp hk with z | z
 ·exact hi.mem z
 ·exact hj.mem z
theorem SOk.one {k:Nat} (h:k < 0x110000):SOk ⟨#[k]⟩:= .of (by show 1≤sizeLine;decide) fun j hj=>by
 have e:j=k:=by simpa using hj
 rw [e]
 exact h
theorem atI_mem {α:Type} {xs:List α} {i:Int} {d:α} (h:atI xs i=some d):d∈xs:=by
 unfold atI at h
 cases e:ixN xs.length i with
 | none=>
  rw [e] at h
  cases h
 | some j=>
  rw [e] at h
  exact List.mem_of_getElem? (show xs[j]? =some d from h)
abbrev rAddS:R2:=fun x y H Q=> ∃i j,x= .str i∧y= .str j∧i.length+j.length≤sizeLine∧Q (.str (i++j)) H
theorem yQ {i j:Str} (h:i.length+j.length≤sizeLine) (q:Q (.str (i++j)) L):L2R C rAddS (.str i) (.str j) L Q:=fun F vx vy H c rx ry QV go=>⟨i,j,rx.strE,ry.strE,h,go _ _ H L (.str _ (SOk.app rx.bnd ry.bnd h)) c (.refl L H) q⟩
abbrev rLtS:R2:=fun x y H Q=> ∃i j,x= .str i∧y= .str j∧Q (.bl (decide (i.cps.toList < j.cps.toList))) H
theorem r_ltS {i j:Str} (q:Q (.bl (decide (i.cps.toList < j.cps.toList))) L):L2R C rLtS (.str i) (.str j) L Q:=fun F vx vy H c rx ry QV go=>⟨i,j,rx.strE,ry.strE,go _ _ H L (.bl _) c (.refl L H) q⟩
theorem r_ixS {z:Str} {i:Int} {k:Nat} (h:atI z.cps.toList i=some k) (q:Q (.str ⟨#[k]⟩) L):L2R C rIxS (.str z) (.int i) L Q:=fun F vx vy H c rx ry QV go=>⟨z,i,k,rx.strE,ry.intE,rx.bnd.len,h,go _ _ H L (.str _ (.one (SOk.mem rx.bnd (atI_mem h)))) c (.refl L H) q⟩

theorem bG.nil_iff {K:PySem.W.Frag} {F:Fz} {H:Hp} {vs:List V} {ds:List D} (r:bG K F H vs ds):vs= []↔ds= []:=by
 cases r with
 | nil=>simp
 | cons _ _=>simp
theorem r_catT {xs ys:List D} (hz:xs.length+ys.length≤sizeLine) (q:Q (.tup (xs++ys)) L):L2R C (rCatA C.X.K) (.tup xs) (.tup ys) L Q:=fun F vx vy H c rx ry QV go=>by
 obtain ⟨a,vs,rfl,ha,ra⟩:=rx.tupE
 obtain ⟨b,ws,rfl,hb,rb⟩:=ry.tupE
 refine ⟨a,b,vs,ws,rfl,rfl,SqT.of ha,SqT.of hb,by rw [ra.length,rb.length];exact hz,fun h=> ?_,fun h1 h2=> ?_,fun h1 h2 p hp=> ?_⟩
 ·have e:=ra.nil_iff.mp h
  subst e
  exact go _ _ H L ry c (.refl L H) q
 ·have e:=rb.nil_iff.mp h2
  subst e
  rw [List.append_nil] at q
  exact go _ _ H L rx c (.refl L H) q
 ·exact go _ _ _ L (Rep.tupI upd_same ((ra.append rb).mono (.new hp)) (by rw [List.length_append];exact hz)) (c.new hp) (.new hp) q
theorem qK {K:PySem.W.Frag} {F:Fz} {H:Hp} {vs:List V} {ds:List D} {i:Int} {d:D} (r:bG K F H vs ds) (h:atI ds i=some d):∃v,atI vs i=some v∧Rep K F H v d:=by
 unfold atI at h ⊢
 rw [r.length]
 cases e:ixN ds.length i with
 | none=>
  rw [e] at h
  cases h
 | some j=>
  rw [e] at h
  obtain ⟨v,h1,h2⟩:=r.get (show ds[j]? =some d from h)
  exact ⟨v,h1,h2⟩
theorem r_ixT {xs:List D} {i:Int} {d:D} (h:atI xs i=some d) (q:Q d L):L2R C (rIxT C.X.K) (.tup xs) (.int i) L Q:=fun F vx vy H c rx ry QV go=>by
 obtain ⟨a,vs,rfl,ha,ra⟩:=rx.tupE
 obtain ⟨v,h1,h2⟩:=qK ra h
 exact ⟨a,vs,i,v,rfl,ry.intE,SqT.of ha,h1,go _ _ H L h2 c (.refl L H) q⟩
theorem nU {p:Addr} {xs:List D} {i:Int} {d:D} (hp:L p=some (.lst xs)) (h:atI xs i=some d) (q:Q d L):L2R C (rIxL C.X.K) (.ptr p) (.int i) L Q:=fun F vx vy H c rx ry QV go=>by
 obtain ⟨vs,ha,ra,hz⟩:=c.at_ p _ hp
 obtain ⟨v,h1,h2⟩:=qK ra h
 exact ⟨p,vs,i,v,rx.ptrE,ry.intE,SqL.of ha,h1,go _ _ H L h2 c (.refl L H) q⟩
theorem r_ixN {ns:List Int} {i k:Int} (h:atI ns i=some k) (q:Q (.int k) L):L2R C (rIxL C.X.K) (.ilst ns) (.int i) L Q:=fun F vx vy H c rx ry QV go=>by
 obtain ⟨a,rfl,ha⟩:=rx.ilstE
 refine ⟨a,_,i,.int k,rfl,ry.intE,ha,?_,go _ _ H L (.int k) c (.refl L H) q⟩
 unfold atI at h ⊢
 rw [List.length_map]
 cases e:ixN ns.length i with
 | none=>
  rw [e] at h
  cases h
 | some j=>
  rw [e] at h
  show (ns.map V.int)[j]? =_
  rw [List.getElem?_map,show ns[j]? =some k from h]
  rfl

theorem dX {Q:Bool→Lp→Prop} (h:AE C e Γ L fun d L'=> ∃k,d= .bl k∧Q k L') (he:∀whole,isTrue e C.X.env whole=(do let v ←whole;standAt e.pos;holding [v] (truthy v)):=by intro _;rfl):AT C e Γ L Q:=fun F σ H ok QV go=>
 yK (pt_val bA he) (h _ σ H ok _ fun v d H1 L1 r c f ⟨k,ek,q⟩=>by
  subst ek
  exact ⟨k,r.blE,go k H1 L1 c f q⟩)
theorem eY {Q:Bool→Lp→Prop} (h:AT C e Γ L fun k L'=>Q (!k) L'):AT C (.UnaryOp .Not e pos) Γ L Q:=fun F σ H ok QV go=>
 yK (pt_not tL) (h _ σ H ok _ fun k H1 L1 c f q=>go (!k) H1 L1 c f q)
def AW (C:Ctx) (e:Expr) (Γ:Gm) (L:Lp) (Q:Bool→Lp→Prop):Prop:= ∀F σ H,Ok C Γ L F σ H→∀QV,GoT C L F H Q QV→∃t,PW C.X e t∧t σ H QV
structure WW (X:Cx) (e:Expr) (σ:L2.St) (H:Hp) (Q:Bool→Hp→Prop):Prop where
 run:∀(whole:Sem Value) (pins:List (Addr×Obj)) (s:Shared),Inv X pins σ H s→wpAny (model X.prog X.w) X.A (isTrue e X.env whole) (TP X pins σ Q) X.xe s
theorem aAt {X:Cx} {e:Expr}:PW X e (WW X e):=⟨fun wh pins s σ H Q I h=>h.run wh pins s I⟩
theorem AW.ww {Q:Bool→Lp→Prop} (h:AW C e Γ L Q) {σ:L2.St} {F:Fz} {H:Hp} (ok:Ok C Γ L F σ H) {QV:Bool→Hp→Prop} (go:GoT C L F H Q QV):WW C.X e σ H QV:=by
 obtain ⟨t,p,q⟩:=h _ σ H ok QV go
 exact ⟨fun wh pins s I=>p.run wh pins s σ H QV I q⟩
theorem aAO {Q:Bool→Lp→Prop} (h:AW C e Γ L Q):AT C e Γ L Q:=fun F σ H ok QV go=>yK aAt.pt (h.ww ok go)
theorem aw_and1 {Q:Bool→Lp→Prop} (h:AT C a Γ L Q):AW C (.BoolOp .And [a] pos) Γ L Q:=fun F σ H ok QV go=>⟨_,pw_and1 tL,h _ σ H ok QV go⟩
theorem sO {Q:Bool→Lp→Prop} (h:AT C a Γ L Q):AW C (.BoolOp .Or [a] pos) Γ L Q:=fun F σ H ok QV go=>⟨_,pw_or1 tL,h _ σ H ok QV go⟩
theorem aw_and {Q:Bool→Lp→Prop} (h:AT C a Γ L fun k L1=>(k=true→AW C (.BoolOp .And (b::es) pos) Γ L1 Q)∧(k=false→Q false L1)):AW C (.BoolOp .And (a::b::es) pos) Γ L Q:=fun F σ H ok QV go=>
 ⟨_,pw_and tL aAt,h _ σ H ok _ fun k H1 L1 c f q=>by
  cases k with
  | true=>exact AW.ww (q.1 rfl) (ok.step c f) (go.after f)
  | false=>exact go false H1 L1 c f (q.2 rfl)⟩
theorem uL {Q:Bool→Lp→Prop} (h:AT C a Γ L fun k L1=>(k=true→Q true L1)∧(k=false→AW C (.BoolOp .Or (b::es) pos) Γ L1 Q)):AW C (.BoolOp .Or (a::b::es) pos) Γ L Q:=fun F σ H ok QV go=>
 ⟨_,pw_or tL aAt,h _ σ H ok _ fun k H1 L1 c f q=>by
  cases k with
  | true=>exact go true H1 L1 c f (q.1 rfl)
  | false=>exact AW.ww (q.2 rfl) (ok.step c f) (go.after f)⟩
theorem oF {op:BoolOp} (h:AE C a Γ L Q):AE C (.BoolOp op [a] pos) Γ L Q:=fun F σ H ok QV go=>dO (pe_one bA) (h _ σ H ok QV go)
theorem oK (h:AE C a Γ L fun d L1=> ∃k,d= .bl k∧(k=true→AE C (.BoolOp .And (b::es) pos) Γ L1 Q)∧(k=false→Q (.bl false) L1)):AE C (.BoolOp .And (a::b::es) pos) Γ L Q:=fun F σ H ok QV go=>
 dO (pe_and bA bA) (h _ σ H ok _ fun v d H1 L1 r c f ⟨k,ek,q1,q2⟩=>by
  subst ek
  refine ⟨k,r.blE,?_⟩
  cases k with
  | true=>exact (q1 rfl) _ σ H1 (ok.step c f) _ (go.after f)
  | false=>exact go _ _ H1 L1 (.bl false) c f (q2 rfl))
theorem ae_or (h:AE C a Γ L fun d L1=> ∃k,d= .bl k∧(k=true→Q (.bl true) L1)∧(k=false→AE C (.BoolOp .Or (b::es) pos) Γ L1 Q)):AE C (.BoolOp .Or (a::b::es) pos) Γ L Q:=fun F σ H ok QV go=>
 dO (pe_or bA bA) (h _ σ H ok _ fun v d H1 L1 r c f ⟨k,ek,q1,q2⟩=>by
  subst ek
  refine ⟨k,r.blE,?_⟩
  cases k with
  | true=>exact go _ _ H1 L1 (.bl true) c f (q1 rfl)
  | false=>exact (q2 rfl) _ σ H1 (ok.step c f) _ (go.after f))
theorem zK (h:AE C a Γ L fun d L1=> ∃k,d= .bl k∧Q (.bl (!k)) L1):AE C (.UnaryOp .Not a pos) Γ L Q:=fun F σ H ok QV go=>
 dO (pe_not bA) (h _ σ H ok _ fun v d H1 L1 r c f ⟨k,ek,q⟩=>by
  subst ek
  exact ⟨k,r.blE,go _ _ H1 L1 (.bl _) c f q⟩)
theorem oG (h:AT C c Γ L fun k L1=>(k=true→AE C a Γ L1 Q)∧(k=false→AE C b Γ L1 Q)):AE C (.IfExp c a b pos) Γ L Q:=fun F σ H ok QV go=>
 dO (pe_ifExp tL bA bA) (h _ σ H ok _ fun k H1 L1 c f q=>by
  cases k with
  | true=>exact (q.1 rfl) _ σ H1 (ok.step c f) _ (go.after f)
  | false=>exact (q.2 rfl) _ σ H1 (ok.step c f) _ (go.after f))
theorem ae_chain {op op':CmpOp} {r r':R2} (ho:OpR C.X (compareOp op) r) (ho':OpR C.X (compareOp op') r')
  (h:AE C a Γ L fun x L1=>AE C b Γ L1 fun y L2=>L2R C r x y L2 fun d L3=> ∃k,d= .bl k∧(k=true→AE C c Γ L3 fun z L4=>L2R C r' y z L4 Q)∧(k=false→Q (.bl false) L3))
  (hp:PE C.X (.Compare a [op,op'] [b,c] pos) (tChain r r' (WE C.X a) (WE C.X b) (WE C.X c))):AE C (.Compare a [op,op'] [b,c] pos) Γ L Q:=fun F σ H ok QV go=>
 dO hp (h _ σ H ok _ fun vx x H1 L1 rx c1 f1 q1=>q1 _ σ H1 (ok.step c1 f1) _ fun vy y H2 L2 ry c2 f2 q2=>q2 _ vx vy H2 c2 (rx.mono f2.mv) ry _ fun v d H3 L3 r3 c3 f3 ⟨k,ek,k1,k2⟩=>by
  subst ek
  refine ⟨k,r3.blE,?_⟩
  cases k with
  | true=>
   have o3:=ok.step c3 ((f1.trans f2).trans f3)
   exact (k1 rfl) _ σ H3 o3 _ fun vz z H4 L4 rz c4 f4 q4=>q4 _ vy vz H4 c4 ((ry.mono f3.mv).mono f4.mv) rz QV (go.after (((f1.trans f2).trans f3).trans f4))
  | false=>exact go _ _ H3 L3 (.bl false) c3 ((f1.trans f2).trans f3) (k2 rfl))
end
end DL
namespace DL
open PySem PySem.Spec PyProof.Rows L2

section
variable {C:Ctx} {Γ:Gm} {L:Lp} {e a b c o:Expr} {es:List Expr} {pos:Pos} {st:Stmt} {sts:List Stmt} {E:AEnds} {Q:D→Lp→Prop}

theorem aF {Q:List D→Lp→Prop} (q:Q [] L):AA C [] Γ L Q:=fun F σ H ok QV go=>zP pa_nil (go [] [] H L .nil ok.con (.refl L H) q)
theorem aC {Q:List D→Lp→Prop} (h:AE C e Γ L fun d L1=>AA C es Γ L1 fun ds L2=>Q (d::ds) L2) (hs:starEach (e::es) C.X.env=(false,eval e C.X.env)::starEach es C.X.env:=by rfl):AA C (e::es) Γ L Q:=fun F σ H ok QV go=>
 zP (pa_cons bA mW hs) (h _ σ H ok _ fun v d H1 L1 r c f q=>q _ σ H1 (ok.step c f) _ fun vs ds H2 L2 r2 c2 f2 q2=>go (v::vs) (d::ds) H2 L2 (.cons (r.mono f2.mv) r2) c2 (f.trans f2) q2)
theorem bV {x1:Nat} (h:AA C es Γ L fun ds L1=>ds.length≤sizeLine∧Q (.tup ds) L1):AE C (.Tuple es x1 pos) Γ L Q:=fun F σ H ok QV go=>
 dO (pe_tup mW) (h _ σ H ok _ fun vs ds H1 L1 r c f ⟨hz,q⟩=>⟨by rw [r.length];exact hz,fun p hp=>go _ _ _ L1 (Rep.tupI upd_same (r.mono (.new hp)) hz) (c.new hp) (f.trans (.new hp)) q⟩)
theorem fL (h:AA C es Γ L fun ds L1=>ds.length≤sizeLine∧∀p,L1 p=none→Q (.ptr p) (put L1 p (.lst ds))):AE C (.List es pos) Γ L Q:=fun F σ H ok QV go=>
 dO (pe_lst mW) (h _ σ H ok _ fun vs ds H1 L1 r c f ⟨hz,q⟩=>⟨by rw [r.length];exact hz,fun p hp=>go _ _ _ (put L1 p (.lst ds)) (.ptr p) (c.newL hp ⟨vs,upd_same,r.mono (.new hp),hz⟩) (f.trans (.newL hp)) (q p (c.free hp))⟩)

structure WO (X:Cx) (e:Option Expr) (σ:L2.St) (H:Hp) (Q:Option Int→Hp→Prop):Prop where
 run:∀(pins:List (Addr×Obj)) (s:Shared),Inv X pins σ H s→wpAny (model X.prog X.w) X.A (evalPart e X.env) (fun u s'=> ∃o H',Inv X pins σ H' s'∧IsPart u o∧Q o H') X.xe s
theorem po_wo {X:Cx} {e:Option Expr}:PO X e (WO X e):=⟨fun pins s σ H Q I h=>h.run pins s I⟩
def AO (C:Ctx) (e:Option Expr) (Γ:Gm) (L:Lp) (Q:Option Int→Lp→Prop):Prop:= ∀F σ H,Ok C Γ L F σ H→∀QV:Option Int→Hp→Prop,(∀{F'} i H' L',C.Con L' F' H'→Fr L F H L' F' H'→Q i L'→QV i H')→WO C.X e σ H QV
theorem mZ {Q:Option Int→Lp→Prop} (q:Q none L):AO C none Γ L Q:=fun F σ H ok QV go=>⟨fun pins s I=>po_none.run pins s σ H QV I (go none H L ok.con (.refl L H) q)⟩
theorem mY {Q:Option Int→Lp→Prop} (h:AE C e Γ L fun d L1=> ∃i,d= .int i∧Q (some i) L1):AO C (some e) Γ L Q:=fun F σ H ok QV go=>⟨fun pins s I=>(po_some bA).run pins s σ H QV I (h _ σ H ok _ fun v d H1 L1 r c f ⟨i,e,q⟩=>by
 subst e
 exact ⟨i,r.intE,go (some i) H1 L1 c f q⟩)⟩
def LsR (C:Ctx) (r:V→Option Int→Option Int→Hp→VK→Prop) (x:D) (lo hi:Option Int) (L:Lp) (Q:D→Lp→Prop):Prop:= ∀F v H,C.Con L F H→Rep C.X.K F H v x→∀QV,Go C L F H Q QV→r v lo hi H QV
theorem kW {r:V→Option Int→Option Int→Hp→VK→Prop} {lo hi:Option Expr} {p2:Pos} (hr:SlR C.X r) (h:AE C e Γ L fun x L1=>AO C lo Γ L1 fun l L2=>AO C hi Γ L2 fun u L3=>LsR C r x l u L3 Q):AE C (.Subscript e (.Slice lo hi none p2) pos) Γ L Q:=fun F σ H ok QV go=>
 dO (pe_slice hr bA po_wo po_wo) (h _ σ H ok _ fun v x H1 L1 r1 c1 f1 q1=>q1 _ σ H1 (ok.step c1 f1) _ fun l H2 L2 c2 f2 q2=>q2 _ σ H2 (ok.step c2 (f1.trans f2)) _ fun u H3 L3 c3 f3 q3=>
  q3 _ v H3 c3 ((r1.mono f2.mv).mono f3.mv) QV (go.after ((f1.trans f2).trans f3)))
def cut {α:Type} (xs:List α) (lo hi:Option Int):List α:=(xs.drop (HT.sIx xs.length 0 lo)).take (HT.sIx xs.length xs.length hi - HT.sIx xs.length 0 lo)
theorem bG.cut {K:PySem.W.Frag} {F:Fz} {H:Hp} {vs:List V} {ds:List D} (r:bG K F H vs ds) (lo hi:Option Int):bG K F H (cutV vs lo hi) (DL.cut ds lo hi):=by
 unfold cutV DL.cut
 rw [r.length]
 exact (r.drop _).take _
theorem wH {α:Type} (xs:List α) (lo hi:Option Int):(cut xs lo hi).length≤xs.length:=by
 unfold cut
 rw [List.length_take,List.length_drop]
 omega
theorem cut_whole {α:Type} {xs:List α} {lo hi:Option Int} (h:HT.sIx xs.length 0 lo=0∧HT.sIx xs.length xs.length hi=xs.length):cut xs lo hi=xs:=by
 unfold cut
 rw [h.1,h.2]
 simp
theorem s_tup {xs:List D} {lo hi:Option Int} (q:Q (.tup (cut xs lo hi)) L):LsR C (rSlA C.X.K) (.tup xs) lo hi L Q:=fun F v H c r QV go=>by
 obtain ⟨a,vs,rfl,ha,ra⟩:=r.tupE
 refine ⟨a,vs,rfl,SqT.of ha,fun h=> ?_,fun _ p hp=> ?_⟩
 ·rw [ra.length] at h
  rw [cut_whole h] at q
  exact go _ _ H L r c (.refl L H) q
 ·exact go _ _ _ L (Rep.tupI upd_same ((ra.cut lo hi).mono (.new hp)) (Nat.le_trans (wH xs lo hi) r.bnd)) (c.new hp) (.new hp) q
theorem s_lst {p:Addr} {xs:List D} {lo hi:Option Int} (hp:L p=some (.lst xs)) (q:∀l,L l=none→Q (.ptr l) (put L l (.lst (cut xs lo hi)))):LsR C (rSlL C.X.K) (.ptr p) lo hi L Q:=fun F v H c r QV go=>by
 obtain ⟨vs,ha,ra,hz⟩:=c.at_ p _ hp
 refine ⟨p,vs,r.ptrE,SqL.of ha,fun l hl=> ?_⟩
 exact go _ _ _ (put L l (.lst (cut xs lo hi))) (.ptr l) (c.newL hl ⟨_,upd_same,(ra.cut lo hi).mono (.new hl),Nat.le_trans (wH xs lo hi) hz⟩) (.newL hl) (q l (c.free hl))

def LcR (C:Ctx) (r:List V→Hp→VK→Prop) (xs:List D) (L:Lp) (Q:D→Lp→Prop):Prop:= ∀F vs H,C.Con L F H→bG C.X.K F H vs xs→∀QV,Go C L F H Q QV→r vs H QV
theorem bO {x:Str} {id:String} {r:List V→Hp→VK→Prop} {p:Pos} (hc:CallR C.X (.builtin id) r) (hm:C.X.mg x=none) (h:AA C (e::es) Γ L fun ds L1=>LcR C r ds L1 Q) (hv:bootBuiltins x=some (.builtin id):=by decide+kernel) (hg:Gl C.X x:=by rfl) (hn:x≠"__name__" :=by decide) (hdb:(x==("__debug__" :Str))=false:=by decide)
  (he:starEach (e::es) C.X.env=(false,eval e C.X.env)::starEach es C.X.env:=by rfl) (hpl:(backTo pos (starEach es C.X.env)).any (·.1)=false:=by rfl):AE C (.Call (.Name x p) (e::es) [] pos) Γ L Q:=fun F σ H ok QV go=>
 dO (pe_callB hc hg hm hv mW hn hdb he hpl) (h _ σ H ok _ fun vs ds H1 L1 r1 c1 f1 q1=>q1 _ vs H1 c1 r1 QV (go.after f1))
theorem bJ {x:Str} {T:String} {r:List V→Hp→VK→Prop} {p:Pos} (hc:CallR C.X (.type T) r) (hm:C.X.mg x=none) (h:AA C (e::es) Γ L fun ds L1=>LcR C r ds L1 Q) (hv:bootBuiltins x=some (.type T):=by decide+kernel) (hg:Gl C.X x:=by rfl) (hn:x≠"__name__" :=by decide) (hdb:(x==("__debug__" :Str))=false:=by decide)
  (he:starEach (e::es) C.X.env=(false,eval e C.X.env)::starEach es C.X.env:=by rfl) (hpl:(backTo pos (starEach es C.X.env)).any (·.1)=false:=by rfl):AE C (.Call (.Name x p) (e::es) [] pos) Γ L Q:=fun F σ H ok QV go=>
 dO (pe_callTy hc hg hm hv mW hn hdb he hpl) (h _ σ H ok _ fun vs ds H1 L1 r1 c1 f1 q1=>q1 _ vs H1 c1 r1 QV (go.after f1))
theorem bG.oneE {K:PySem.W.Frag} {F:Fz} {H:Hp} {vs:List V} {d:D} (r:bG K F H vs [d]):∃v,vs= [v]∧Rep K F H v d:=by
 cases r with
 | cons r t=>
  cases t
  exact ⟨_,rfl,r⟩
theorem bG.twoE {K:PySem.W.Frag} {F:Fz} {H:Hp} {vs:List V} {d d2:D} (r:bG K F H vs [d,d2]):∃v w,vs= [v,w]∧Rep K F H v d∧Rep K F H w d2:=by
 cases r with
 | cons r t=>
  obtain ⟨w,rfl,r2⟩:=bG.oneE t
  exact ⟨_,w,rfl,r,r2⟩
abbrev yR (K:PySem.W.Frag):List V→Hp→VK→Prop:=fun xs H Q=> ∃p ys,xs= [.ref p]∧(SqL K H p ys∨SqT K H p ys)∧Q (.int ys.length) H
theorem c_lenT {xs:List D} (q:Q (.int xs.length) L):LcR C (yR C.X.K) [.tup xs] L Q:=fun F vs H c r0 QV go=>by
 obtain ⟨v,rfl,r⟩:=r0.oneE
 obtain ⟨a,ws,rfl,ha,ra⟩:=r.tupE
 refine ⟨a,ws,rfl,.inr (SqT.of ha),?_⟩
 rw [ra.length]
 exact go _ _ H L (.int _) c (.refl L H) q
theorem c_lenL {p:Addr} {xs:List D} (hp:L p=some (.lst xs)) (q:Q (.int xs.length) L):LcR C (yR C.X.K) [.ptr p] L Q:=fun F vs H c r0 QV go=>by
 obtain ⟨v,rfl,r⟩:=r0.oneE
 obtain ⟨ws,ha,ra,hzz⟩:=c.at_ p _ hp
 refine ⟨p,ws,by rw [r.ptrE],.inl (SqL.of ha),?_⟩
 rw [ra.length]
 exact go _ _ H L (.int _) c (.refl L H) q
theorem c_lenN {ns:List Int} (q:Q (.int ns.length) L):LcR C (yR C.X.K) [.ilst ns] L Q:=fun F vs H c r0 QV go=>by
 obtain ⟨v,rfl,r⟩:=r0.oneE
 obtain ⟨a,rfl,ha⟩:=r.ilstE
 refine ⟨a,_,rfl,.inl ha,?_⟩
 rw [List.length_map]
 exact go _ _ H L (.int _) c (.refl L H) q
abbrev rLenSt:List V→Hp→VK→Prop:=fun xs H Q=> ∃z,xs= [.str z]∧z.length≤sizeLine∧Q (.int z.length) H
theorem zG {z:Str} (q:Q (.int z.length) L):LcR C rLenSt [.str z] L Q:=fun F vs H c r0 QV go=>by
 obtain ⟨v,rfl,r⟩:=r0.oneE
 exact ⟨z,by rw [r.strE],r.bnd.len,go _ _ H L (.int _) c (.refl L H) q⟩
abbrev rAbs:List V→Hp→VK→Prop:=fun xs H Q=> ∃i,xs= [.int i]∧Q (.int (if i < 0 then -i else i)) H
theorem aAF {i:Int} (q:Q (.int (if i < 0 then -i else i)) L):LcR C rAbs [.int i] L Q:=fun F vs H c r0 QV go=>by
 obtain ⟨v,rfl,r⟩:=r0.oneE
 exact ⟨i,by rw [r.intE],go _ _ H L (.int _) c (.refl L H) q⟩
abbrev aAr:List V→Hp→VK→Prop:=fun xs H Q=>(∃i,xs= [.int i]∧Q (.int i) H)∨∃k,xs= [.bl k]∧Q (.int (if k then 1 else 0)) H
theorem lE {i:Int} (q:Q (.int i) L):LcR C aAr [.int i] L Q:=fun F vs H c r0 QV go=>by
 obtain ⟨v,rfl,r⟩:=r0.oneE
 exact .inl ⟨i,by rw [r.intE],go _ _ H L (.int _) c (.refl L H) q⟩
theorem c_intB {k:Bool} (q:Q (.int (if k then 1 else 0)) L):LcR C aAr [.bl k] L Q:=fun F vs H c r0 QV go=>by
 obtain ⟨v,rfl,r⟩:=r0.oneE
 exact .inr ⟨k,by rw [r.blE],go _ _ H L (.int _) c (.refl L H) q⟩
abbrev rMx:List V→Hp→VK→Prop:=fun xs H Q=> ∃i j,xs= [.int i,.int j]∧Q (.int (if j > i then j else i)) H
abbrev rMn:List V→Hp→VK→Prop:=fun xs H Q=> ∃i j,xs= [.int i,.int j]∧Q (.int (if j < i then j else i)) H
theorem aAE {i j:Int} (q:Q (.int (if j > i then j else i)) L):LcR C rMx [.int i,.int j] L Q:=fun F vs H c r QV go=>by
 obtain ⟨v,w,rfl,r1,r2⟩:=r.twoE
 exact ⟨i,j,by rw [r1.intE,r2.intE],go _ _ H L (.int _) c (.refl L H) q⟩
theorem c_min {i j:Int} (q:Q (.int (if j < i then j else i)) L):LcR C rMn [.int i,.int j] L Q:=fun F vs H c r QV go=>by
 obtain ⟨v,w,rfl,r1,r2⟩:=r.twoE
 exact ⟨i,j,by rw [r1.intE,r2.intE],go _ _ H L (.int _) c (.refl L H) q⟩
abbrev wZ (K:PySem.W.Frag):List V→Hp→VK→Prop:=fun xs H Q=> ∃p ys,xs= [.ref p]∧((SqL K H p ys∧∀l,H l=none→Q (.ref l) (upd H l (.tup ys)))∨(SqT K H p ys∧Q (.ref p) H))
theorem c_tupL {p:Addr} {xs:List D} (hp:L p=some (.lst xs)) (q:Q (.tup xs) L):LcR C (wZ C.X.K) [.ptr p] L Q:=fun F vs H c r0 QV go=>by
 obtain ⟨v,rfl,r⟩:=r0.oneE
 obtain ⟨ws,ha,ra,hzz⟩:=c.at_ p _ hp
 exact ⟨p,ws,by rw [r.ptrE],.inl ⟨SqL.of ha,fun l hl=>go _ _ _ L (Rep.tupI upd_same (ra.mono (.new hl)) hzz) (c.new hl) (.new hl) q⟩⟩
theorem c_tupT {xs:List D} (q:Q (.tup xs) L):LcR C (wZ C.X.K) [.tup xs] L Q:=fun F vs H c r0 QV go=>by
 obtain ⟨v,rfl,r⟩:=r0.oneE
 obtain ⟨a,ws,rfl,ha,ra⟩:=r.tupE
 exact ⟨a,ws,rfl,.inr ⟨SqT.of ha,go _ _ H L r c (.refl L H) q⟩⟩
theorem tH {K:PySem.W.Frag} {F:Fz} {H:Hp}:∀{vs:List V} {bs:List Bool},bG K F H vs (bs.map D.bl)→vs=bs.map V.bl
 | _,[],.nil=>rfl
 | _,b::bs,.cons r t=>by rw [r.blE,tH t];rfl
theorem reps_ints {K:PySem.W.Frag} {F:Fz} {H:Hp}:∀{vs:List V} {bs:List Int},bG K F H vs (bs.map D.int)→vs=bs.map V.int
 | _,[],.nil=>rfl
 | _,b::bs,.cons r t=>by rw [r.intE,reps_ints t];rfl
theorem cX {K:PySem.W.Frag} {F:Fz} {H:Hp}:∀{vs:List V} {bs:List Str},bG K F H vs (bs.map D.str)→vs=bs.map V.str
 | _,[],.nil=>rfl
 | _,b::bs,.cons r t=>by rw [r.strE,cX t];rfl
theorem c_all {p:Addr} {bs:List Bool} (hp:L p=some (.lst (bs.map D.bl))) (q:Q (.bl (bs.all id)) L):LcR C (rAll C.X.K) [.ptr p] L Q:=fun F vs H c r0 QV go=>by
 obtain ⟨v,rfl,r⟩:=r0.oneE
 obtain ⟨ws,ha,ra,hzz⟩:=c.at_ p _ hp
 have e:=tH ra
 subst e
 exact ⟨p,bs,by rw [r.ptrE],SqL.of ha,go _ _ H L (.bl _) c (.refl L H) q⟩
theorem c_any {p:Addr} {bs:List Bool} (hp:L p=some (.lst (bs.map D.bl))) (q:Q (.bl (bs.any id)) L):LcR C (rAny C.X.K) [.ptr p] L Q:=fun F vs H c r0 QV go=>by
 obtain ⟨v,rfl,r⟩:=r0.oneE
 obtain ⟨ws,ha,ra,hzz⟩:=c.at_ p _ hp
 have e:=tH ra
 subst e
 exact ⟨p,bs,by rw [r.ptrE],SqL.of ha,go _ _ H L (.bl _) c (.refl L H) q⟩
theorem c_sum {p:Addr} {ns:List Int} (hp:L p=some (.lst (ns.map D.int))) (q:Q (.int ns.sum) L):LcR C (rSum C.X.K) [.ptr p] L Q:=fun F vs H c r0 QV go=>by
 obtain ⟨v,rfl,r⟩:=r0.oneE
 obtain ⟨ws,ha,ra,hzz⟩:=c.at_ p _ hp
 have e:=reps_ints ra
 subst e
 exact ⟨p,ns,by rw [r.ptrE],SqL.of ha,go _ _ H L (.int _) c (.refl L H) q⟩
def tyD:D→String
 | .non=>"NoneType" | .bl _=>"bool" | .int _=>"int" | .str _=>"str" | .ty _=>"type" | .ptr _=>"list" | .ilst _=>"list" | .tup _=>"tuple" | .obj _ _=>"object" | .flst _=>"list" | .fdct _=>"dict" | .kdct _=>"dict" | .tk _=>"tuple" | .wds _=>"tuple" | .iob _ _=>"object"
theorem vG {x:D} {T:String} {k:Bool} (hx:match x with | .non=>True | .bl _=>True | .int _=>True | .str _=>True | .tup _=>True | _=>False) (hk:kitB (tyD x) T=some k) (q:Q (.bl k) L):LcR C (rIsi C.X.K) [x,.ty T] L Q:=fun F vs H c r QV go=>by
 obtain ⟨v,w,rfl,r1,r2⟩:=r.twoE
 rw [r2.tyE]
 refine ⟨v,.ty T,.type (tyD x),.type T,k,rfl,.ty T,?_,kit_ty hk,go _ _ H L (.bl _) c (.refl L H) q⟩
 cases x with
 | non=>rw [r1.nonE];exact .base .non
 | bl b=>rw [r1.blE];exact .base (.bl b)
 | int i=>rw [r1.intE];exact .base (.int i)
 | str z=>rw [r1.strE];exact .base (.str z)
 | tup ds=>
  obtain ⟨a,ws,rfl,ha,_⟩:=r1.tupE
  exact .base (.tup ha)
 | ty n=>exact hx.elim
 | ptr p=>exact hx.elim
 | ilst ns=>exact hx.elim
 | obj _ _=>exact hx.elim
 | flst _=>exact hx.elim
 | fdct _=>exact hx.elim
 | kdct _=>exact hx.elim
 | wds _=>exact hx.elim
 | tk _=>exact hx.elim
 | iob _ _=>exact hx.elim

def LmR (C:Ctx) (r:V→List V→Hp→VK→Prop) (x:D) (xs:List D) (L:Lp) (Q:D→Lp→Prop):Prop:= ∀F v vs H,C.Con L F H→Rep C.X.K F H v x→bG C.X.K F H vs xs→∀QV,Go C L F H Q QV→r v vs H QV
def IsTy (T:String) (x:D) (L:Lp):Prop:=match x with
 | .str _=>T="str"
 | .int _=>T="int"
 | .ptr p=>(T="list"∧∃ds,L p=some (.lst ds))∨(T="dict"∧∃kds,L p=some (.dct kds))
 | _=>False
theorem isTy_tyV {T:String} {x:D} {F:Fz} {H:Hp} {v:V} (c:C.Con L F H) (r:Rep C.X.K F H v x) (h:IsTy T x L):tyV C.X.K T v H:=by
 cases x with
 | str z=>rw [r.strE];exact h
 | int i=>rw [r.intE];exact h
 | ptr p=>
  rw [r.ptrE]
  rcases h with ⟨rfl,ds,h⟩ | ⟨rfl,kds,h⟩
  ·obtain ⟨vs,ha,_⟩:=c.at_ p _ h
   exact .inl ⟨rfl,vs,SqL.of ha⟩
  ·obtain ⟨vs,ha,_⟩:=c.at_ p _ h
   exact .inr (.inr (.inl ⟨rfl,.inr ⟨vs,ha⟩⟩))
 | _=>exact h.elim
theorem ae_bm {name:Str} {T id:String} {r:V→List V→Hp→VK→Prop} {apos:Pos} (hp:PE C.X (.Call (.Attribute o name apos) (e::es) [] pos) (tBM C.X.K T r (WE C.X o) (WA C.X (e::es))))
  (h:AE C o Γ L fun x L1=>IsTy T x L1∧AA C (e::es) Γ L1 fun ds L2=>LmR C r x ds L2 Q):AE C (.Call (.Attribute o name apos) (e::es) [] pos) Γ L Q:=fun F σ H ok QV go=>
 dO hp (h _ σ H ok _ fun v x H1 L1 r1 c1 f1 ⟨ty,q1⟩=>⟨isTy_tyV c1 r1 ty,q1 _ σ H1 (ok.step c1 f1) _ fun vs ds H2 L2 r2 c2 f2 q2=>q2 _ v vs H2 c2 (r1.mono f2.mv) r2 QV (go.after (f1.trans f2))⟩)
theorem m_append {p:Addr} {xs:List D} {y:D} (hp:L p=some (.lst xs)) (hz:xs.length < sizeLine) (q:Q .non (put L p (.lst (xs++ [y])))):LmR C rAppend (.ptr p) [y] L Q:=fun F v vs H c r1 r2 QV go=>by
 obtain ⟨w,rfl,r⟩:=r2.oneE
 obtain ⟨ws,ha,ra,hzz⟩:=c.at_ p _ hp
 have s:=Mv.write (o:= .lst (ws++ [w])) c hp
 exact ⟨p,ws,w,r1.ptrE,rfl,ha,by rw [ra.length];exact hz,go _ _ _ (put L p (.lst (xs++ [y]))) .non (c.write hp ⟨_,upd_same,(ra.append (.cons r .nil)).mono s,by rw [List.length_append];exact hz⟩) (.write c hp) q⟩
end
end DL
namespace DL
open PySem PySem.Spec PyProof.Rows L2

structure WG (X:Cx) (tg:Expr) (v:V) (σ:L2.St) (H:Hp) (Q:L2.St→Hp→Prop):Prop where
 run:∀(pins:List (Addr×Obj)) (s:Shared) (u:Value),Inv X pins σ H s→RelV v u→wpAny (model X.prog X.w) X.A (assign tg X.env u) (fun _ s'=> ∃σ' H',Inv X pins σ' H' s'∧Q σ' H') X.xe s
structure WGs (X:Cx) (ts:List Expr) (vs:List V) (σ:L2.St) (H:Hp) (Q:L2.St→Hp→Prop):Prop where
 run:∀(pins:List (Addr×Obj)) (s:Shared) (us:List Value),Inv X pins σ H s→Vals vs us→wpAny (model X.prog X.w) X.A (assignInOrder ((assignEach ts X.env).map (·.2)) us) (fun _ s'=> ∃σ' H',Inv X pins σ' H' s'∧Q σ' H') X.xe s
theorem aAu {X:Cx} {tg:Expr}:PG X tg (WG X tg):=⟨fun pins s σ H v u Q I r h=>h.run pins s u I r⟩
theorem pgs_wgs {X:Cx} {ts:List Expr}:PGs X ts (WGs X ts):=⟨fun pins s σ H vs us Q I r h=>h.run pins s us I r⟩
theorem wg_of {X:Cx} {tg:Expr} {g:TG} {v:V} {σ:L2.St} {H:Hp} {Q:L2.St→Hp→Prop} (h:PG X tg g) (q:g v σ H Q):WG X tg v σ H Q:=⟨fun pins s u I r=>h.run pins s σ H v u Q I r q⟩
theorem wgs_of {X:Cx} {ts:List Expr} {g:TGs} {vs:List V} {σ:L2.St} {H:Hp} {Q:L2.St→Hp→Prop} (h:PGs X ts g) (q:g vs σ H Q):WGs X ts vs σ H Q:=⟨fun pins s us I r=>h.run pins s σ H vs us Q I r q⟩
structure But (ws:List Nat) (σ σ':L2.St):Prop where
 len:σ'.length=σ.length
 at_:∀j,j∉ws→σ'[j]? =σ[j]?
theorem But.refl (ws:List Nat) (σ:L2.St):But ws σ σ:=⟨rfl,fun _ _=>rfl⟩
theorem But.trans {ws zs:List Nat} {σ σ1 σ2:L2.St} (a:But ws σ σ1) (b:But zs σ1 σ2):But (ws++zs) σ σ2:=⟨b.len.trans a.len,fun j h=>(b.at_ j fun z=>h (List.mem_append_right _ z)).trans (a.at_ j fun z=>h (List.mem_append_left _ z))⟩
def AG (C:Ctx) (tg:Expr) (d:D) (Γ Γ':Gm) (ws:List Nat):Prop:= ∀F σ H v,Sl C.X.K F H σ Γ→Rep C.X.K F H v d→∀Q:L2.St→Hp→Prop,(∀σ',Sl C.X.K F H σ' Γ'→But ws σ σ'→Q σ' H)→WG C.X tg v σ H Q
def AGs (C:Ctx) (ts:List Expr) (ds:List D) (Γ Γ':Gm) (ws:List Nat):Prop:= ∀F σ H vs,Sl C.X.K F H σ Γ→bG C.X.K F H vs ds→∀Q:L2.St→Hp→Prop,(∀σ',Sl C.X.K F H σ' Γ'→But ws σ σ'→Q σ' H)→WGs C.X ts vs σ H Q
section
variable {C:Ctx} {Γ Γ1 Γ2:Gm} {L:Lp} {e a b c o tg:Expr} {es ts:List Expr} {pos p1 p2:Pos} {st:Stmt} {sts:List Stmt} {E:AEnds} {Q:D→Lp→Prop} {d:D} {ds:List D} {ws zs:List Nat}
theorem aP (i:Nat) {x:Str} (hi:C.X.N[i]? =some x:=by rfl) (hx:Loc C.X.env.scope x:=by first | exact Or.inl rfl | exact Or.inr rfl) (hf:C.X.fn x=true∨C.X.env.scope.names.lookup x=some .local:=by first | exact .inl rfl | exact .inr rfl):AG C (.Name x pos) d Γ (Γ.set i (some d)) [i]:=fun F σ H v sl r Q q=>
 wg_of (pg_name C.nd hi hx hf) (q _ (sl.set i r) ⟨by simp,fun j h=>by rw [List.getElem?_set_ne (fun z=>h (by simp [z]))]⟩)
theorem dM:AGs C [] [] Γ Γ []:=fun F σ H vs sl r Q q=>by
 cases r
 exact wgs_of pgs_nil ⟨rfl,q σ sl (.refl _ _)⟩
theorem aU (h1:AG C tg d Γ Γ1 ws) (h2:AGs C ts ds Γ1 Γ2 zs) (hs:(assignEach (tg::ts) C.X.env).map (·.2)=assign tg C.X.env::(assignEach ts C.X.env).map (·.2):=by rfl):AGs C (tg::ts) (d::ds) Γ Γ2 (ws++zs):=fun F σ H vs sl r Q q=>by
 cases r with
 | cons r rr=>exact wgs_of (pgs_cons aAu pgs_wgs hs) ⟨_,_,rfl,h1 _ σ H _ sl r _ fun σ1 sl1 b1=>h2 _ σ1 H _ sl1 rr _ fun σ2 sl2 b2=>q σ2 sl2 (b1.trans b2)⟩
theorem gU {k:Nat} (h:AGs C ts ds Γ Γ1 ws) (hn:(assignEach ts C.X.env).length=ds.length:=by rfl) (hst:(assignEach ts C.X.env).findIdx? (·.1)=none:=by rfl):AG C (.Tuple ts k pos) (.tup ds) Γ Γ1 ws:=fun F σ H v sl r Q q=>by
 obtain ⟨a,vs,rfl,ha,ra⟩:=r.tupE
 exact wg_of (pg_tup C.calm pgs_wgs hn hst) ⟨a,vs,rfl,SqT.of ha,ra.length,h _ σ H vs sl ra Q q⟩

theorem bM (q:E.nx Γ L):ASs C [] Γ L E:=fun F σ H ok DD go=>wV pss_nil (go.nx σ H Γ L ok (.refl L H) q)
theorem aH (h:AS C st Γ L {E with nx:=fun Γ' L'=>ASs C sts Γ' L' E}):ASs C (st::sts) Γ L E:=fun F σ H ok DD go=>
 wV (pss_cons ps_we mF) (h _ σ H ok _ ⟨fun s H2 Γ2 L2 o f q=>q _ s H2 o DD (go.after f),go.rt,go.bk,go.ct⟩)
theorem aM (h:AS C st Γ L E):ASs C [st] Γ L E:=fun F σ H ok DD go=>wV (pss_one ps_we) (h _ σ H ok DD go)
theorem aQ (i:Nat) {x:Str} (h:AE C e Γ L fun d L1=>E.nx (Γ.set i (some d)) L1) (hi:C.X.N[i]? =some x:=by rfl) (hx:Loc C.X.env.scope x:=by first | exact Or.inl rfl | exact Or.inr rfl) (hs:swapsWith e (some (.Name x p1)) pos.line C.X.env=pure false:=by rfl)
  (hf:C.X.fn x=true∨C.X.env.scope.names.lookup x=some .local:=by first | exact .inl rfl | exact .inr rfl):AS C (.Assign [.Name x p1] e pos) Γ L E:=fun F σ H ok DD go=>
 lF (ps_set C.nd hi hx bA hs hf) (h _ σ H ok _ fun v d H1 L1 r c f q=>go.nx _ H1 _ L1 ⟨(ok.sl.mono f.mv).set i r,c,ok.lr.step f⟩ f q)
theorem pZ (h:AE C e Γ L fun d L1=> ∃Γ1 ws,AG C tg d Γ Γ1 ws∧E.nx Γ1 L1) (hs:swapsWithSole [tg] e pos.line C.X.env=pure false:=by rfl) (hw:swappedStores [tg] e C.X.env=pure none:=by rfl)
  (h1:(assignEach [tg] C.X.env).map (·.2)= [assign tg C.X.env]:=by rfl):AS C (.Assign [tg] e pos) Γ L E:=fun F σ H ok DD go=>
 lF (ps_asg bA aAu hs hw h1) (h _ σ H ok _ fun v d H1 L1 r c f ⟨Γ1,ws,g,q⟩=>g _ σ H1 v (ok.sl.mono f.mv) r _ fun σ' sl' _=>go.nx σ' H1 Γ1 L1 ⟨sl',c,ok.lr.step f⟩ f q)
theorem as_par (i j:Nat) {x y:Str} {px py pt pt2:Pos} {kt k2:Nat} (h:AA C [a,b] Γ L fun ds L1=> ∃d1 d2,ds= [d1,d2]∧E.nx ((Γ.set i (some d1)).set j (some d2)) L1) (hi:C.X.N[i]? =some x:=by rfl) (hj:C.X.N[j]? =some y:=by rfl) (hij:i≠j:=by decide)
  (hx:C.X.env.scope.names.lookup x=some .local:=by rfl) (hy:C.X.env.scope.names.lookup y=some .local:=by rfl)
  (hw:swappedStores [.Tuple [.Name x px,.Name y py] kt pt] (.Tuple [a,b] k2 pt2) C.X.env=pure (some [x,y]):=by rfl)
  (hs:swapsWithSole [.Tuple [.Name x px,.Name y py] kt pt] (.Tuple [a,b] k2 pt2) pos.line C.X.env=pure false:=by rfl):AS C (.Assign [.Tuple [.Name x px,.Name y py] kt pt] (.Tuple [a,b] k2 pt2) pos) Γ L E:=fun F σ H ok DD go=>
 lF (ps_par C.calm C.nd hi hj hij hx hy mW hw hs) (h _ σ H ok _ fun vs ds H1 L1 r c f ⟨d1,d2,ed,q⟩=>by
  subst ed
  obtain ⟨v,w,rfl,r1,r2⟩:=r.twoE
  exact ⟨v,w,rfl,go.nx _ H1 _ L1 ⟨((ok.sl.mono f.mv).set i r1).set j r2,c,ok.lr.step f⟩ f q⟩)
theorem pY (i:Nat) {x:Str} {op:Operator} {ti:TIp} {d:D} (ho:PIp C.X op ti) (hg:Γ[i]? =some (some d)) (h:AE C e Γ L fun y L1=>L2R C ti d y L1 fun z L2=>E.nx (Γ.set i (some z)) L2) (hi:C.X.N[i]? =some x:=by rfl) (hx:Loc C.X.env.scope x:=by first | exact Or.inl rfl | exact Or.inr rfl)
  (hf:C.X.fn x=true∨C.X.env.scope.names.lookup x=some .local:=by first | exact .inl rfl | exact .inr rfl):AS C (.AugAssign (.Name x p1) op e pos) Γ L E:=fun F σ H ok DD go=>by
 obtain ⟨v,ev,rv⟩:=ok.sl.get i d hg
 exact lF (ps_aug C.nd hi hx bA ho hf) ⟨v,ev,h _ σ H ok _ fun w y H1 L1 r c f q=>q _ v w H1 c (rv.mono f.mv) r _ fun u z H2 L2 r2 c2 f2 q2=>go.nx _ H2 _ L2 ⟨((ok.sl.mono f.mv).mono f2.mv).set i r2,c2,ok.lr.step (f.trans f2)⟩ (f.trans f2) q2⟩
theorem r_ipI {f:Int→Int→Int} {i j:Int} (q:Q (.int (f i j)) L):L2R C (ipI f) (.int i) (.int j) L Q:=fun F vx vy H c rx ry QV go=>⟨i,j,rx.intE,ry.intE,go _ _ H L (.int _) c (.refl L H) q⟩
theorem gM (h:AE C e Γ L fun _ L1=>E.nx Γ L1) (hs:swapsWith e none pos.line C.X.env=pure false:=by rfl):AS C (.Expr e pos) Γ L E:=fun F σ H ok DD go=>
 lF (ps_expr bA hs) (h _ σ H ok _ fun v d H1 L1 r c f q=>go.nx σ H1 Γ L1 (ok.step c f) f q)
theorem aW (h:AE C e Γ L E.rt):AS C (.Return (some e) pos) Γ L E:=fun F σ H ok DD go=>lF (ps_ret bA) (h _ σ H ok _ fun v d H1 L1 r c f q=>go.rt v d H1 L1 r c f q)
theorem as_retN (q:E.rt .non L):AS C (.Return none pos) Γ L E:=fun F σ H ok DD go=>lF ps_retN (go.rt _ _ H L .non ok.con (.refl L H) q)
theorem as_pass (q:E.nx Γ L):AS C (.Pass pos) Γ L E:=fun F σ H ok DD go=>lF ps_pass (go.nx σ H Γ L ok (.refl L H) q)
theorem as_break (q:E.bk Γ L):AS C (.Break pos) Γ L E:=fun F σ H ok DD go=>lF ps_break (go.bk σ H Γ L ok (.refl L H) q)
theorem as_continue (q:E.ct Γ L):AS C (.Continue pos) Γ L E:=fun F σ H ok DD go=>lF ps_continue (go.ct σ H Γ L ok (.refl L H) q)
theorem dB {A B:List Stmt} (h:AT C c Γ L fun k L1=>(k=true→ASs C A Γ L1 E)∧(k=false→ASs C B Γ L1 E)):AS C (.If c A B pos) Γ L E:=fun F σ H ok DD go=>
 lF (ps_if tL mF mF) (h _ σ H ok _ fun k H1 L1 c f q=>by
  cases k with
  | true=>exact (q.1 rfl) _ σ H1 (ok.step c f) DD (go.after f)
  | false=>exact (q.2 rfl) _ σ H1 (ok.step c f) DD (go.after f))
def L3R (C:Ctx) (r:TSet) (o i v:D) (L:Lp) (Q:Lp→Prop):Prop:= ∀F vo vi vv H,C.Con L F H→Rep C.X.K F H vo o→Rep C.X.K F H vi i→Rep C.X.K F H vv v→∀QV:Hp→Prop,(∀{F'} H' L',C.Con L' F' H'→Fr L F H L' F' H'→Q L'→QV H')→r vo vi vv H QV
theorem as_sub {t:TSet} (hset:PSet C.X t) (h:AE C e Γ L fun v L1=>AE C o Γ L1 fun x L2=>AE C b Γ L2 fun i L3=>L3R C t x i v L3 fun L4=>E.nx Γ L4)
  (hs:swapsWithSole [.Subscript o b p1] e pos.line C.X.env=pure false:=by rfl) (hw:swappedStores [.Subscript o b p1] e C.X.env=pure none:=by rfl) (h1:(assignEach [.Subscript o b p1] C.X.env).map (·.2)= [assign (.Subscript o b p1) C.X.env]:=by rfl)
  (ha:∀v,assign (.Subscript o b p1) C.X.env v=(do
   let ov ←holding [v] (eval o C.X.env)
   let iv ←holding [v,ov] (eval b C.X.env)
   standAt p1
   holding [v,ov,iv] (setItem ov iv v)
   release [v,ov,iv] []):=by intro _;rfl):AS C (.Assign [.Subscript o b p1] e pos) Γ L E:=fun F σ H ok DD go=>
 lF (ps_asg bA (pg_sub bA bA hset ha) hs hw h1) (h _ σ H ok _ fun vv v H1 L1 r1 c1 f1 q1=>q1 _ σ H1 (ok.step c1 f1) _ fun vo x H2 L2 r2 c2 f2 q2=>q2 _ σ H2 (ok.step c2 (f1.trans f2)) _ fun vi i H3 L3 r3 c3 f3 q3=>
  q3 _ vo vi vv H3 c3 (r2.mono f3.mv) r3 ((r1.mono f2.mv).mono f3.mv) _ fun H4 L4 c4 f4 q4=>go.nx σ H4 Γ L4 (ok.step c4 (((f1.trans f2).trans f3).trans f4)) (((f1.trans f2).trans f3).trans f4) q4)
theorem w_list {p:Addr} {xs:List D} {k:Int} {j:Nat} {v:D} {Q:Lp→Prop} (hp:L p=some (.lst xs)) (hj:ixN xs.length k=some j) (q:Q (put L p (.lst (xs.set j v)))):L3R C rSetL (.ptr p) (.int k) v L Q:=fun F vo vi vv H c ro ri rv QV go=>by
 obtain ⟨ws,ha,ra,hz⟩:=c.at_ p _ hp
 have s:=Mv.write (o:= .lst (ws.set j vv)) c hp
 exact ⟨p,ws,k,j,ro.ptrE,ri.intE,ha,by rw [ra.length];exact hj,go _ (put L p (.lst (xs.set j v))) (c.write hp ⟨_,upd_same,(bG.set rv j ra).mono s,by rw [List.length_set];exact hz⟩) (.write c hp) q⟩

theorem uN {body:List Stmt} (I:Nat→Gm→Lp→Prop) (m0:Nat) (h0:I m0 Γ L)
  (hs:∀m Γ1 L1,I m Γ1 L1→AT C c Γ1 L1 fun k L2=>(k=true→ASs C body Γ1 L2 {E with nx:=fun Γ' L'=> ∃m',m' < m∧I m' Γ' L',ct:=fun Γ' L'=> ∃m',m' < m∧I m' Γ' L',bk:=E.nx})∧(k=false→E.nx Γ1 L2)):AS C (.While c body [] pos) Γ L E:=fun F σ H ok DD go=>by
 refine lF (ps_while C.po tL mF) ⟨fun m σ1 H1=> ∃Γ1 L1 F1,Ok C Γ1 L1 F1 σ1 H1∧Fr L F H L1 F1 H1∧I m Γ1 L1,⟨m0,Γ,L,F,ok,.refl L H,h0⟩,?_⟩
 rintro m σ1 H1 ⟨Γ1,L1,F1,ok1,f1,i1⟩
 refine hs m Γ1 L1 i1 _ σ1 H1 ok1 _ fun k H2 L2 c2 f2 q=> ?_
 cases k with
 | true=>
  refine ⟨fun σ' H'=> ∃m',m' < m∧∃Γ1 L1 F',Ok C Γ1 L1 F' σ' H'∧Fr L F H L1 F' H'∧I m' Γ1 L1,fun σ' H' h=>h,?_⟩
  refine (q.1 rfl) _ σ1 H2 (ok1.step c2 f2) _ ⟨fun s H3 Γ3 L3 o f3 ⟨m',hm,i3⟩=>⟨m',hm,Γ3,L3,_,o,(f1.trans f2).trans f3,i3⟩,fun v d H3 L3 r3 c3 f3 q3=>go.rt v d H3 L3 r3 c3 ((f1.trans f2).trans f3) q3,
   fun s H3 Γ3 L3 o f3 q3=>go.nx s H3 Γ3 L3 o ((f1.trans f2).trans f3) q3,fun s H3 Γ3 L3 o f3 ⟨m',hm,i3⟩=>⟨m',hm,Γ3,L3,_,o,(f1.trans f2).trans f3,i3⟩⟩
 | false=>exact go.nx σ1 H2 Γ1 L2 (ok1.step c2 f2) (f1.trans f2) (q.2 rfl)

def aAW (C:Ctx) (J:It) (ds:List D) (G:Lp→Prop) (L0:Lp) (F0:Fz) (H0:Hp):Prop:= ∀{F} (i:Nat) (H:Hp) (L:Lp),Fr L0 F0 H0 L F H→C.Con L F H→G L→
 (i < ds.length→J.go i H)∧(i=ds.length→J.stop i H)∧∀x H',J.yld i H x H'→i < ds.length→∃d,ds[i]? =some d∧Rep C.X.K F H' x d∧(H'=H∨∃T vs,H T=none∧H'=upd H T (.tup vs))
structure WI (X:Cx) (tg iter:Expr) (σ:L2.St) (H:Hp) (R:It→Hp→Prop):Prop where
 run:∀(pins:List (Addr×Obj)) (s:Shared),Inv X pins σ H s→wpAny (model X.prog X.w) X.A (eval iter X.env) (fun v s1=>wpAny (model X.prog X.w) X.A (pyIter v) (PIE X pins σ tg R) X.xe s1) X.xe s
theorem xV {X:Cx} {tg iter:Expr}:PI X tg iter (WI X tg iter):=⟨fun pins s σ H R I h=>h.run pins s I⟩
theorem oN {X:Cx} {tg iter:Expr} {w:TI} {σ:L2.St} {H:Hp} {R:It→Hp→Prop} (h:PI X tg iter w) (q:w σ H R):WI X tg iter σ H R:=⟨fun pins s I=>h.run pins s σ H R I q⟩
def AI (C:Ctx) (tg iter:Expr) (Γ:Gm) (L:Lp) (R:List D→(Lp→Prop)→Lp→Prop):Prop:= ∀F σ H,Ok C Γ L F σ H→∀RV:It→Hp→Prop,(∀{F'} J H' L' ds G,C.Con L' F' H'→Fr L F H L' F' H'→aAW C J ds G L' F' H'→R ds G L'→RV J H')→WI C.X tg iter σ H RV
theorem rK {R:List D→(Lp→Prop)→Lp→Prop} (h:AE C e Γ L fun d L1=> ∃ds,d= .tup ds∧(ds.length≤sizeLine→R ds (fun _=>True) L1)):AI C tg e Γ L R:=fun F σ H ok RV go=>
 oN (pi_tup bA) (h _ σ H ok _ fun v d H1 L1 r c f ⟨ds,ed,q⟩=>by
  subst ed
  obtain ⟨a,vs,rfl,ha,ra⟩:=r.tupE
  refine ⟨a,rfl,⟨vs,SqT.of ha⟩,go _ H1 L1 ds (fun _=>True) c f (fun i H2 L2 s2 c2 _=> ?_) (q r.bnd)⟩
  have hq:SqT C.X.K H2 a vs:=SqT.of (s2.stay.tup _ _ ha)
  refine ⟨fun hi=>⟨vs,vs[i]'(by rw [ra.length];exact hi),hq,List.getElem?_eq_getElem _⟩,fun hi=>⟨vs,hq,by rw [ra.length,hi];exact Nat.le_refl _⟩,fun x H' y hi=> ?_⟩
  obtain ⟨e1,y⟩:=y
  subst e1
  obtain ⟨d,hd,rd⟩:=ra.getV (y vs hq)
  exact ⟨d,hd,rd.mono s2.mv,.inl rfl⟩)
theorem sS {R:List D→(Lp→Prop)→Lp→Prop} (h:AE C e Γ L fun d L1=> ∃p ds,d= .ptr p∧L1 p=some (.lst ds)∧(ds.length≤sizeLine→R ds (fun L=>L p=some (.lst ds)) L1)):AI C tg e Γ L R:=fun F σ H ok RV go=>
 oN (pi_list bA) (h _ σ H ok _ fun v d H1 L1 r c f ⟨p,ds,ed,hp,q⟩=>by
  subst ed
  obtain ⟨vs,ha,ra,hz⟩:=c.at_ p _ hp
  refine ⟨p,r.ptrE,⟨vs,SqL.of ha⟩,go _ H1 L1 ds _ c f (fun i H2 L2 s2 c2 g2=> ?_) (q hz)⟩
  obtain ⟨us,hb,rb,_⟩:=c2.at_ p _ g2
  have hq:SqL C.X.K H2 p us:=SqL.of hb
  refine ⟨fun hi=>⟨us,us[i]'(by rw [rb.length];exact hi),hq,List.getElem?_eq_getElem _⟩,fun hi=>⟨us,hq,by rw [rb.length,hi];exact Nat.le_refl _⟩,fun x H' y hi=> ?_⟩
  obtain ⟨e1,y⟩:=y
  subst e1
  obtain ⟨d,hd,rd⟩:=rb.getV (y us hq)
  exact ⟨d,hd,rd,.inl rfl⟩)
def pU (lo:Int) (n:Nat):List D:=(List.range n).map fun k=> .int (lo+(k:Nat))
theorem iI (lo:Int) (n:Nat):(pU lo n).length=n:=by unfold pU;simp
theorem rangeD_get {lo:Int} {n i:Nat} (h:i < n):(pU lo n)[i]? =some (.int (lo+i)):=by unfold pU;simp [h]
theorem pA {lo:Int} {n i:Nat} {d:D} (h:(pU lo n)[i]? =some d):i < n∧d= .int (lo+i):=by
 have hi:i < n:=by
  have:=(List.getElem?_eq_some_iff.mp h).1
  rwa [iI] at this
 rw [rangeD_get hi] at h
 exact ⟨hi,(Option.some.inj h).symm⟩
theorem itr_is {J:It} {lo:Int} {n:Nat} {L0:Lp} {F0:Fz} {H0:Hp} (hJ:J=Itr lo n):aAW C J (pU lo n) (fun _=>True) L0 F0 H0:=by
 subst hJ
 intro F i H L s c g
 rw [iI]
 refine ⟨fun h=>h,fun h=>Nat.le_of_eq h.symm,fun x H' y hi=> ?_⟩
 obtain ⟨e1,e2⟩:=y
 subst e1 e2
 exact ⟨_,rangeD_get hi,.int _,.inl rfl⟩
theorem rM {p:Pos} {R:List D→(Lp→Prop)→Lp→Prop} (hm:C.X.mg "range"=none) (h:AE C e Γ L fun d L1=> ∃j:Int,d= .int j∧ -(2 ^ 62)≤j∧j < 2 ^ 62∧R (pU 0 j.toNat) (fun _=>True) L1) (hg:Gl C.X "range" :=by rfl) (hs:starEach [e] C.X.env= [(false,eval e C.X.env)]:=by rfl):
  AI C tg (.Call (.Name "range" p) [e] [] pos) Γ L R:=fun F σ H ok RV go=>
 oN (pi_range1 hg hm (pa_cons bA pa_nil hs) hs) (h _ σ H ok _ fun v d H1 L1 r c f ⟨j,ed,h1,h2,q⟩=>by
  subst ed
  exact ⟨j,by rw [r.intE],h1,h2,go _ H1 L1 _ _ c f (itr_is rfl) q⟩)

theorem oE {iter:Expr} {body:List Stmt} (h:AI C tg iter Γ L fun ds G L1=> ∃I:Nat→Gm→Lp→Prop,I 0 Γ L1∧(∀i Γ2 L2,I i Γ2 L2→G L2)∧
      (∀i d Γ2 L2,ds[i]? =some d→I i Γ2 L2→∃Γ3 ws,AG C tg d Γ2 Γ3 ws∧ASs C body Γ3 L2 {E with nx:=I (i+1),ct:=I (i+1),bk:=E.nx})∧∀Γ2 L2,I ds.length Γ2 L2→E.nx Γ2 L2)
  (hs:∀x,foldedSetIterable iter C.X.env x=pure x:=by intro _;rfl):AS C (.For tg iter body [] pos) Γ L E:=fun F σ H ok DD go=>by
 refine lF (ps_for C.po C.calm xV aAu mF hs) (h _ σ H ok _ fun {F1} J H1 L1 ds G c1 f1 it ⟨I,i0,hG,hb,hd⟩=> ?_)
 refine ⟨fun i m σ2 H2=>m=ds.length - i∧i≤ds.length∧∃Γ2 L2 F2,Ok C Γ2 L2 F2 σ2 H2∧Fr L1 F1 H1 L2 F2 H2∧I i Γ2 L2,⟨ds.length,by simp,Nat.zero_le _,Γ,L1,F1,ok.step c1 f1,.refl L1 H1,i0⟩,?_⟩
 rintro i m σ2 H2 ⟨rfl,hi,Γ2,L2,F2,ok2,f2,i2⟩
 obtain ⟨k1,k2,k3⟩:=it i H2 L2 f2 ok2.con (hG i Γ2 L2 i2)
 by_cases hlt:i < ds.length
 ·refine .inr ⟨k1 hlt,fun σ' H'=> ∃Γ3 L3 F',Ok C Γ3 L3 F' σ' H'∧Fr L1 F1 H1 L3 F' H'∧I (i+1) Γ3 L3,fun σ' H' hN=>⟨ds.length - (i+1),by omega,rfl,hlt,hN⟩,fun x H' y=> ?_⟩
  obtain ⟨d,hd2,rd,hH⟩:=k3 x H' y hlt
  obtain ⟨Γ3,ws,ag,bd⟩:=hb i d Γ2 L2 hd2 i2
  have fH:Fr L2 F2 H2 L2 F2 H':=by
   rcases hH with e | ⟨T,vs,nT,e⟩
   ·rw [e];exact .refl L2 H2
   ·rw [e];exact .new nT
  have cH:C.Con L2 F2 H':=by
   rcases hH with e | ⟨T,vs,nT,e⟩
   ·rw [e];exact ok2.con
   ·rw [e];exact ok2.con.new nT
  refine ag _ σ2 H' x (ok2.sl.mono fH.mv) rd _ fun σ3 sl3 _=> ?_
  refine bd _ σ3 H' ⟨sl3,cH,ok2.lr.step fH⟩ _ ⟨fun s H4 Γ4 L4 o f4 q4=>⟨Γ4,L4,_,o,(f2.trans fH).trans f4,q4⟩,fun v d4 H4 L4 r4 c4 f4 q4=>go.rt v d4 H4 L4 r4 c4 (f1.trans ((f2.trans fH).trans f4)) q4,
   fun s H4 Γ4 L4 o f4 q4=>go.nx s H4 Γ4 L4 o (f1.trans ((f2.trans fH).trans f4)) q4,fun s H4 Γ4 L4 o f4 q4=>⟨Γ4,L4,_,o,(f2.trans fH).trans f4,q4⟩⟩
 ·have e:i=ds.length:=by omega
  exact .inl ⟨k2 e,go.nx σ2 H2 Γ2 L2 ok2 (f1.trans f2) (hd Γ2 L2 (by rw [←e];exact i2))⟩
end
end DL
namespace DL
open PySem PySem.Spec PyProof.Rows L2

def vA (P:Program) (w:World) (K:PySem.W.Frag) (mg:Str→Option Value) (base:Heap) (N:List Str) (qual:Str) (scope:Scope) (f:Addr) (cdv:Value) (A:Around) (outer:List Env) (s:Shared) (H:Hp) (E:XK) (nd:N.Nodup) (R:Value→List (Str×D)→Lp→Prop):Ctx where
 X:=cxOf (L2.CX P w) P w K mg base N qual scope f cdv A outer s H E
 W:=fun cls d _ H=>E cls d H
 R:=fun _=>R
 tk:=takes_of rfl rfl rfl rfl
 po:=passes_of rfl
 calm:=rfl
 nd:=nd

def dH (C:Ctx) (scope:Scope) (s:Shared) (H:Hp) (Cc:Addr) (cl:List (Str×Addr)) (fp:List Addr):Ctx where
 X:=C.X.blk s H scope (compEnvC scope cl Cc C.X.env) fp
 W:=fun _ _ _ _=>False
 R:=fun _ _ _ _=>False
 tk:=takes0
 po:=PassesOwn.never
 calm:=C.calm
 nd:=C.nd
structure WTs (X:Cx) (ifs:List Expr) (σ:L2.St) (H:Hp) (Q:Bool→Hp→Prop):Prop where
 run:∀(pins:List (Addr×Obj)) (s:Shared),Inv X pins σ H s→
 wpAny (model X.prog X.w) X.A (forIn ifs true fun c r=>if r=true then do let ok ←isTrue c X.env (eval c X.env);pure (ForInStep.yield ok) else pure (ForInStep.yield r)) (TP X pins σ Q) X.xe s
def ATs (C:Ctx) (ifs:List Expr) (Γ:Gm) (L:Lp) (Q:Bool→Lp→Prop):Prop:= ∀F σ H,Ok C Γ L F σ H→∀QV,GoT C L F H Q QV→WTs C.X ifs σ H QV
section
variable {C:Ctx} {Γ Γ1 Γ2:Gm} {L:Lp} {e a b c o tg:Expr} {es ts:List Expr} {pos p1 p2:Pos} {st:Stmt} {sts:List Stmt} {E:AEnds} {Q:D→Lp→Prop} {d:D} {ds:List D} {ws zs:List Nat}
theorem pM {Q:Bool→Lp→Prop} (q:Q true L):ATs C [] Γ L Q:=fun F σ H ok QV go=>⟨fun pins s I=>pts_nil.run pins s σ H QV I (go true H L ok.con (.refl L H) q)⟩
theorem ats_one {Q:Bool→Lp→Prop} (h:AT C c Γ L Q):ATs C [c] Γ L Q:=fun F σ H ok QV go=>⟨fun pins s I=>(pts_one tL).run pins s σ H QV I (h _ σ H ok QV go)⟩

def dN (Γ:Gm):List Nat→Gm
 | []=>Γ
 | v::vs=>(dN Γ vs).set v none
theorem nM (Γ:Gm):∀vs:List Nat,(dN Γ vs).length=Γ.length
 | []=>rfl
 | v::vs=>by unfold dN;rw [List.length_set,nM Γ vs]
theorem qN (σ:L2.St) (j:Nat):∀vs:List Nat,(wipe σ vs)[j]? =if j∈vs then (if j < σ.length then some none else none) else σ[j]?
 | []=>by simp [wipe]
 | v::vs=>by
  unfold wipe
  by_cases h:j=v
  ·subst h
   by_cases hl:j < σ.length
   ·rw [List.getElem?_set_self (by rw [wipe_length];exact hl)]
    simp [hl]
   ·rw [List.getElem?_eq_none (by simp [wipe_length];omega)]
    simp [hl]
  ·rw [List.getElem?_set_ne (Ne.symm h),qN σ j vs]
   simp [h]
theorem wipeG_at (Γ:Gm) (j:Nat):∀vs:List Nat,(dN Γ vs)[j]? =if j∈vs then (if j < Γ.length then some none else none) else Γ[j]?
 | []=>by simp [dN]
 | v::vs=>by
  unfold dN
  by_cases h:j=v
  ·subst h
   by_cases hl:j < Γ.length
   ·rw [List.getElem?_set_self (by rw [nM];exact hl)]
    simp [hl]
   ·rw [List.getElem?_eq_none (by simp [nM];omega)]
    simp [hl]
  ·rw [List.getElem?_set_ne (Ne.symm h),wipeG_at Γ j vs]
   simp [h]
theorem Sl.wipe {K:PySem.W.Frag} {F:Fz} {H:Hp} {σ:L2.St} (x:Sl K F H σ Γ) (vs:List Nat):Sl K F H (wipe σ vs) (dN Γ vs):=by
 refine ⟨by rw [wipe_length,nM];exact x.len,fun i d e=> ?_⟩
 rw [wipeG_at] at e
 rw [qN]
 by_cases h:i∈vs
 ·rw [if_pos h] at e
  split at e <;> cases e
 ·rw [if_neg h] at e ⊢
  exact x.get i d e
theorem But.wiped {vs ws:List Nat} {σ σ':L2.St} (b:But ws (wipe σ vs) σ') (h:∀j∈ws,j∈vs):wipe σ' vs=wipe σ vs:=by
 apply List.ext_getElem?
 intro j
 have hl:σ'.length=σ.length:=by rw [b.len,wipe_length]
 rw [qN,qN,hl]
 by_cases hj:j∈vs
 ·rw [if_pos hj,if_pos hj]
 ·rw [if_neg hj,if_neg hj,b.at_ j (fun z=>hj (h j z)),qN,if_neg hj]
theorem Stay.lst {H:Hp} {p:Addr} {xs:List V} {o:HO} (h:H p=some (.lst xs)):Stay H (upd H p o):=
 ⟨fun a vs e=>by rw [upd_ne (fun q=>by rw [q,h] at e;cases e)];exact e,fun a ob u e=>by rw [upd_ne (fun q=>by rw [q,h] at e;cases e)];exact e,fun a e=>by rw [upd_ne (fun q=>by rw [q,h] at e;cases e)];exact e⟩

abbrev gB (C:Ctx) (scope:Scope) (tg:Expr):TG:=fun v σ H Q=> ∀s H0 Cc cl fp,WG (dH C scope s H0 Cc cl fp).X tg v σ H Q
abbrev ttB (C:Ctx) (scope:Scope) (ifs:List Expr):TT:=fun σ H Q=> ∀s H0 Cc cl fp,WTs (dH C scope s H0 Cc cl fp).X ifs σ H Q
abbrev teB (C:Ctx) (scope:Scope) (elt:Expr):TE:=fun σ H Q=> ∀s H0 Cc cl fp,WE (dH C scope s H0 Cc cl fp).X elt σ H Q
theorem Fr.hid {L L':Lp} {F F':Fz} {H H':Hp} {D:Addr} {o:HO} (f:Fr L F H L' F' H') (h:H D=some o) (ho:∀y,o≠ .own y) (lD:L D=none) (fD:¬F D):L' D=none∧¬F' D∧H' D=some o:=by
 refine ⟨?_,fun z=> ?_,f.keep D o h ho lD⟩
 ·cases e:L' D with
  | none=>rfl
  | some u=>
   rcases f.dom D (by rw [e];simp) with z | z
   ·exact absurd lD z
   ·rw [h] at z
    cases z
 ·rcases f.off D z with z | z | z
  ·exact fD z
  ·exact z lD
  ·rw [h] at z
   cases z
theorem Mv.hid {F:Fz} {H:Hp} {D:Addr} {o:HO} (st:Stay H (upd H D o)) (fD:¬F D):Mv F H F (upd H D o):=⟨st,fun _ z=>z,fun a u z e=>by
 have ea:a≠D:=fun q=>fD (q ▸z)
 rw [upd_ne ea]
 exact e⟩
theorem Con.hid {P:Program} {w:World} {K:PySem.W.Frag} {L:Lp} {F:Fz} {H:Hp} {D:Addr} {o:HO} (c:Con P w K L F H) (st:Stay H (upd H D o)) (lD:L D=none) (fD:¬F D):Con P w K L F (upd H D o):=⟨fun a u e=>(c.at_ a u e).mono (.hid st fD) (upd_ne (aO e lD)),fun a z=>by
 have ea:a≠D:=fun q=>fD (q ▸z)
 rw [upd_ne ea]
 exact c.fz a z⟩
theorem Fr.hidw {L L1:Lp} {F F1:Fz} {H H1:Hp} {D:Addr} {o:HO} (f:Fr L1 F1 H1 L F H) (hD:H1 D=none) (f1D:¬F1 D) (st:Stay H (upd H D o)):Fr L1 F1 H1 L F (upd H D o):=
 ⟨fun a u ea qa na=>by rw [upd_ne (ne_of_none ea hD)];exact f.keep a u ea qa na,fun a h=>dY (f.live a h),f.stay.trans st,f.dom,f.fz,fun a u z e=>by rw [upd_ne (ne_of_none e hD)];exact f.fk a u z e,f.off⟩
theorem Con.shw {P:Program} {w:World} {K:PySem.W.Frag} {L:Lp} {F:Fz} {H:Hp} {D:Addr} {mo:MO} (c:Con P w K L F H) (fD:¬F D) (x:At P w K F H D mo):Con P w K (put L D mo) F H:=⟨fun a u ea=>by
 by_cases ed:a=D
 ·subst ed
  rw [aD] at ea
  cases ea
  exact x
 ·rw [aJ ed] at ea
  exact c.at_ a u ea,fun a z=>by
 have ea:a≠D:=fun q=>fD (q ▸z)
 rw [aJ ea]
 exact c.fz a z⟩
theorem Fr.shw {L L2:Lp} {F F2:Fz} {H H2:Hp} {D:Addr} {mo:MO} (f:Fr L F H L2 F2 H2) (hD:H D=none):Fr L F H (put L2 D mo) F2 H2:=
 ⟨f.keep,f.live,f.stay,fun a z=>by
  by_cases ea:a=D
  ·exact .inr (by rw [ea];exact hD)
  ·rw [aJ ea] at z
   exact f.dom a z,f.fz,f.fk,f.off⟩
theorem Fr.nul {L L':Lp} {F F':Fz} {H H':Hp} (f:Fr L F H L' F' H') {a:Addr} (h:H' a=none):H a=none:=by
 cases e:H a with
 | none=>rfl
 | some o=>exact absurd h (f.live a (by rw [e];simp))
def AIp (C:Ctx) (tg iter:Expr) (L:Lp) (F:Fz) (σ:L2.St) (H:Hp) (R:List D→(Lp→Prop)→Lp→Prop):Prop:= ∀RV:It→Hp→Prop,(∀{F'} J H' L' ds G,C.Con L' F' H'→Fr L F H L' F' H'→aAW C J ds G L' F' H'→R ds G L'→RV J H')→WI C.X tg iter σ H RV
theorem lc_read0 {own:List (Str×Nat)} {scope:Scope} {elt iter:Expr} {ifs:List Expr}
  {F:Fz} {σ:L2.St} {H:Hp} (okk:Ok C Γ L F σ H) {QV:VK} (go:Go C L F H Q QV) (h:AIp C tg iter L F σ H fun ds G L1=> ∃I:Nat→List D→Lp→Prop,I 0 [] L1∧(∀i acc L2,I i acc L2→G L2)∧
   (∀i d acc L2,ds[i]? =some d→I i acc L2→∃Γ3 ws,(∀j∈ws,j∈own.map (·.2))∧∀s H Cc cl fp,AG (dH C scope s H Cc cl fp) tg d (dN Γ (own.map (·.2))) Γ3 ws∧
    ATs (dH C scope s H Cc cl fp) ifs Γ3 L2 fun k L3=>(k=true→∀s H Cc cl fp,AE (dH C scope s H Cc cl fp) elt Γ3 L3 fun y L4=>acc.length < sizeLine∧I (i+1) (acc++ [y]) L4)∧(k=false→I (i+1) acc L3))∧
   ∀acc L2,I ds.length acc L2→∀p,L2 p=none→Q (.ptr p) (put L2 p (.lst acc))):tLc (WI C.X tg iter) (gB C scope tg) (ttB C scope ifs) (teB C scope elt) (own.map (·.2)) σ H QV:=by
 refine h _ fun {F1} J H1 L1 ds G c1 f1 it ⟨I,i0,hG,hb,hd⟩=> ?_
 intro D hD
 have f1D:=c1.nf hD
 refine ⟨fun i m H2=>m=ds.length - i∧i≤ds.length∧∃L2 F2 acc vacc,acc.length≤sizeLine∧C.Con L2 F2 H2∧Fr L1 F1 H1 L2 F2 H2∧L2 D=none∧¬F2 D∧H2 D=some (.lst vacc)∧bG C.X.K F2 H2 vacc acc∧I i acc L2,⟨ds.length,by simp,Nat.zero_le _,L1,F1,[],[],Nat.zero_le _,c1.new hD,.new hD,c1.free hD,f1D,upd_same,.nil,i0⟩,?_⟩
 rintro i m H2 ⟨rfl,hi,L2,F2,acc,vacc,hacc,c2,f2,lD,fD,hD2,ra,i2⟩
 obtain ⟨k1,k2,k3⟩:=it i H2 L2 f2 c2 (hG i acc L2 i2)
 by_cases hlt:i < ds.length
 ·refine .inr ⟨k1 hlt,fun H3=> ∃L2 F2 acc vacc,acc.length≤sizeLine∧C.Con L2 F2 H3∧Fr L1 F1 H1 L2 F2 H3∧L2 D=none∧¬F2 D∧H3 D=some (.lst vacc)∧bG C.X.K F2 H3 vacc acc∧I (i+1) acc L2,fun H3 hN=>⟨ds.length - (i+1),by omega,rfl,hlt,hN⟩,fun x H' y=> ?_⟩
  obtain ⟨d,hd2,rd,hH⟩:=k3 x H' y hlt
  have fH:Fr L2 F2 H2 L2 F2 H':=by
   rcases hH with e | ⟨T,vs,nT,e⟩
   ·rw [e];exact .refl L2 H2
   ·rw [e];exact .new nT
  have cH:C.Con L2 F2 H':=by
   rcases hH with e | ⟨T,vs,nT,e⟩
   ·rw [e];exact c2
   ·rw [e];exact c2.new nT
  obtain ⟨_,_,hD3⟩:=fH.hid hD2 (fun _ z=>nomatch z) lD fD
  have slw:Sl C.X.K F2 H' (wipe σ (own.map (·.2))) (dN Γ (own.map (·.2))):=(okk.sl.mono ((f1.trans f2).trans fH).mv).wipe _
  obtain ⟨Γ3,ws,hws,hbody⟩:=hb i d acc L2 hd2 i2
  intro s0 H0 Cc cl fp
  refine (hbody s0 H0 Cc cl fp).1 _ _ H' x slw rd _ fun σ3 sl3 but=>⟨But.wiped but hws,?_⟩
  intro s1 H01 Cc1 cl1 fp1
  refine (hbody s1 H01 Cc1 cl1 fp1).2 _ σ3 H' ⟨sl3,cH,⟨fun _ _ _ _ _ _ _ _ _ _ _ z=>z.elim,True.intro⟩⟩ _ fun k H3 L3 c3 f3 q3=> ?_
  have fr3:=(f2.trans fH).trans f3
  obtain ⟨lD3,fD3,hD4⟩:=f3.hid hD3 (fun _ z=>nomatch z) lD fD
  cases k with
  | false=>
   rw [if_neg Bool.false_ne_true]
   exact ⟨L3,_,acc,vacc,hacc,c3,fr3,lD3,fD3,hD4,(ra.mono fH.mv).mono f3.mv,q3.2 rfl⟩
  | true=>
   rw [if_pos rfl]
   intro s2 H02 Cc2 cl2 fp2
   refine q3.1 rfl s2 H02 Cc2 cl2 fp2 _ σ3 H3 ⟨sl3.mono f3.mv,c3,⟨fun _ _ _ _ _ _ _ _ _ _ _ z=>z.elim,True.intro⟩⟩ _ fun yv y H4 L4 r4 c4 f4 ⟨hz,q4⟩=> ?_
   obtain ⟨lD4,fD4,hD5⟩:=f4.hid hD4 (fun _ z=>nomatch z) lD3 fD3
   have ra4:=((ra.mono fH.mv).mono f3.mv).mono f4.mv
   have st:Stay H4 (upd H4 D (.lst (vacc++ [yv]))):= .lst hD5
   exact ⟨vacc,hD5,by rw [ra4.length];exact hz,L4,_,acc++ [y],vacc++ [yv],by rw [List.length_append];exact hz,c4.hid st lD4 fD4,(fr3.trans f4).hidw hD f1D st,lD4,fD4,upd_same,(ra4.append (.cons r4 .nil)).mono (.hid st fD4),q4⟩
 ·have e:i=ds.length:=by omega
  exact .inl ⟨k2 e,go _ _ H2 (put L2 D (.lst acc)) (.ptr D) (c2.shw fD ⟨vacc,hD2,ra,hacc⟩) ((f1.trans f2).shw (f1.nul hD)) (hd acc L2 (by rw [←e];exact i2) D lD)⟩

theorem lc_read {own:List (Str×Nat)} {scope:Scope} {elt iter:Expr} {ifs:List Expr}
  (h:AI C tg iter Γ L fun ds G L1=> ∃I:Nat→List D→Lp→Prop,I 0 [] L1∧(∀i acc L2,I i acc L2→G L2)∧
   (∀i d acc L2,ds[i]? =some d→I i acc L2→∃Γ3 ws,(∀j∈ws,j∈own.map (·.2))∧∀s H Cc cl fp,AG (dH C scope s H Cc cl fp) tg d (dN Γ (own.map (·.2))) Γ3 ws∧
    ATs (dH C scope s H Cc cl fp) ifs Γ3 L2 fun k L3=>(k=true→∀s H Cc cl fp,AE (dH C scope s H Cc cl fp) elt Γ3 L3 fun y L4=>acc.length < sizeLine∧I (i+1) (acc++ [y]) L4)∧(k=false→I (i+1) acc L3))∧
   ∀acc L2,I ds.length acc L2→∀p,L2 p=none→Q (.ptr p) (put L2 p (.lst acc))) {F:Fz} {σ:L2.St} {H:Hp} (okk:Ok C Γ L F σ H) {QV:VK} (go:Go C L F H Q QV):tLc (WI C.X tg iter) (gB C scope tg) (ttB C scope ifs) (teB C scope elt) (own.map (·.2)) σ H QV:=
 lc_read0 okk go fun RV g=>h _ σ H okk RV g

theorem aAd (own:List (Str×Nat)) {scope:Scope} {elt iter:Expr} {ifs:List Expr}
  (h:AI C tg iter Γ L fun ds G L1=> ∃I:Nat→List D→Lp→Prop,I 0 [] L1∧(∀i acc L2,I i acc L2→G L2)∧
   (∀i d acc L2,ds[i]? =some d→I i acc L2→∃Γ3 ws,(∀j∈ws,j∈own.map (·.2))∧∀s H Cc cl fp,AG (dH C scope s H Cc cl fp) tg d (dN Γ (own.map (·.2))) Γ3 ws∧
    ATs (dH C scope s H Cc cl fp) ifs Γ3 L2 fun k L3=>(k=true→∀s H Cc cl fp,AE (dH C scope s H Cc cl fp) elt Γ3 L3 fun y L4=>acc.length < sizeLine∧I (i+1) (acc++ [y]) L4)∧(k=false→I (i+1) acc L3))∧
   ∀acc L2,I ds.length acc L2→∀p,L2 p=none→Q (.ptr p) (put L2 p (.lst acc)))
  (ok:BlkOk C.X.N C.X.env.scope scope own:=by (dsimp only [vA,dH,cxOf,envOfC,compEnvC,Cx.blk];exact blkOk_by (by decide+kernel))) (hs:∀x,foldedSetIterable iter C.X.env x=pure x:=by intro _;rfl):AE C (.ListComp elt [⟨tg,iter,ifs,0⟩] scope pos) Γ L Q:=fun F σ H okk QV go=>
 dO (pe_lc C.calm C.nd xV ok (fun s H0 Cc cl fp=>⟨fun pins s1 σ1 H1 v u Q1 I r q=>(q s H0 Cc cl fp).run pins s1 u I r⟩) (fun s H0 Cc cl fp=>⟨fun pins s1 σ1 H1 Q1 I q=>(q s H0 Cc cl fp).run pins s1 I⟩) (fun s H0 Cc cl fp=>⟨fun pins s1 σ1 H1 Q1 I q=>(q s H0 Cc cl fp).run pins s1 I⟩) hs) (lc_read h okk go)
theorem as_setLc (n:Nat) (own:List (Str×Nat)) {y:Str} {py spos:Pos} {scope:Scope} {elt iter:Expr} {ifs:List Expr}
  (h:AI C tg iter Γ L fun ds G L1=> ∃I:Nat→List D→Lp→Prop,I 0 [] L1∧(∀i acc L2,I i acc L2→G L2)∧
   (∀i d acc L2,ds[i]? =some d→I i acc L2→∃Γ3 ws,(∀j∈ws,j∈own.map (·.2))∧∀s H Cc cl fp,AG (dH C scope s H Cc cl fp) tg d (dN Γ (own.map (·.2))) Γ3 ws∧
    ATs (dH C scope s H Cc cl fp) ifs Γ3 L2 fun k L3=>(k=true→∀s H Cc cl fp,AE (dH C scope s H Cc cl fp) elt Γ3 L3 fun y L4=>acc.length < sizeLine∧I (i+1) (acc++ [y]) L4)∧(k=false→I (i+1) acc L3))∧
   ∀acc L2,I ds.length acc L2→∀p,L2 p=none→E.nx (Γ.set n (some (.ptr p))) (put L2 p (.lst acc)))
  (hy:C.X.N[n]? =some y:=by rfl) (hyl:C.X.env.scope.names.lookup y=some .local:=by rfl) (hsw:swapsWith (.ListComp elt [⟨tg,iter,ifs,0⟩] scope pos) (some (.Name y py)) spos.line C.X.env=pure true:=by exact sw_true rfl rfl rfl (by decide+kernel))
  (ok:BlkOk C.X.N C.X.env.scope scope own:=by (dsimp only [vA,dH,cxOf,envOfC,compEnvC,Cx.blk];exact blkOk_by (by decide+kernel))) (hs:∀x,foldedSetIterable iter C.X.env x=pure x:=by intro _;rfl):AS C (.Assign [.Name y py] (.ListComp elt [⟨tg,iter,ifs,0⟩] scope pos) spos) Γ L E:=fun F σ H okk DD go=>
 lF (ps_setLc C.calm C.nd hy hyl hsw xV ok (fun s H0 Cc cl fp=>⟨fun pins s1 σ1 H1 v u Q1 I r q=>(q s H0 Cc cl fp).run pins s1 u I r⟩) (fun s H0 Cc cl fp=>⟨fun pins s1 σ1 H1 Q1 I q=>(q s H0 Cc cl fp).run pins s1 I⟩) (fun s H0 Cc cl fp=>⟨fun pins s1 σ1 H1 Q1 I q=>(q s H0 Cc cl fp).run pins s1 I⟩) hs)
  (lc_read (Q:=fun d L1=>E.nx (Γ.set n (some d)) L1) h okk fun v d H1 L1 r c f q=>go.nx _ H1 _ L1 ⟨(okk.sl.mono f.mv).set n r,c,okk.lr.step f⟩ f q)
def AV (C:Ctx) (e:Expr) (Γ:Gm) (L:Lp) (d:D):Prop:= ∀Q:D→Lp→Prop,Q d L→AE C e Γ L Q
theorem lc_map {own:List (Str×Nat)} {scope:Scope} {elt:Expr} {ds:List D} {G:Lp→Prop} {L1:Lp} {Z:Addr→List D→Lp→Prop} (f:D→D) (hG:G L1) (hz:ds.length≤sizeLine)
  (hf:∀(i:Nat) (d:D),ds[i]? =some d→∃Γ3 ws,(∀j∈ws,j∈own.map (·.2))∧∀s H Cc cl fp,AG (dH C scope s H Cc cl fp) tg d (dN Γ (own.map (·.2))) Γ3 ws∧AV (dH C scope s H Cc cl fp) elt Γ3 L1 (f d))
  (q:∀p,L1 p=none→Z p (ds.map f) L1):∃I:Nat→List D→Lp→Prop,I 0 [] L1∧(∀i acc L2,I i acc L2→G L2)∧
   (∀i d acc L2,ds[i]? =some d→I i acc L2→∃Γ3 ws,(∀j∈ws,j∈own.map (·.2))∧∀s H Cc cl fp,AG (dH C scope s H Cc cl fp) tg d (dN Γ (own.map (·.2))) Γ3 ws∧
    ATs (dH C scope s H Cc cl fp) [] Γ3 L2 fun k L3=>(k=true→∀s H Cc cl fp,AE (dH C scope s H Cc cl fp) elt Γ3 L3 fun y L4=>acc.length < sizeLine∧I (i+1) (acc++ [y]) L4)∧(k=false→I (i+1) acc L3))∧
   ∀acc L2,I ds.length acc L2→∀p,L2 p=none→Z p acc L2:=by
 refine ⟨fun i acc L2=>acc=(ds.take i).map f∧L2=L1,⟨rfl,rfl⟩,fun i acc L2 h=>by rw [h.2];exact hG,fun i d acc L2 hd ⟨ea,el⟩=> ?_,fun acc L2 ⟨ea,el⟩ p hp=> ?_⟩
 ·subst el
  obtain ⟨Γ3,ws,hw,hh⟩:=hf i d hd
  refine ⟨Γ3,ws,hw,fun s H Cc cl fp=>⟨(hh s H Cc cl fp).1,pM ⟨fun _ s H Cc cl fp=>(hh s H Cc cl fp).2 _ ⟨?_,?_,rfl⟩,fun z=>by cases z⟩⟩⟩
  ·have hi:=(List.getElem?_eq_some_iff.mp hd).1
   rw [ea,List.length_map,List.length_take]
   omega
  ·rw [ea,List.take_add_one,hd]
   simp
 ·subst el
  rw [ea,List.take_length]
  exact q p hp

end

abbrev SpA:=List D→Lp→(D→Lp→Prop)→(Value→List (Str×D)→Lp→Prop)→Prop
def aAR (P:Program) (w:World) (K:PySem.W.Frag) (sp:SpA):Sp:=fun vs H Q E=> ∃ds L Z Q' R',bG K Z H vs ds∧Con P w K L Z H∧sp ds L Q' R'∧
 (∀{Z'} d L',Q' d L'→∀v H',Rep K Z' H' v d→Con P w K L' Z' H'→Fr L Z H L' Z' H'→Q v H')∧(∀{Z'} cls fs L',R' cls fs L'→∀d H',yJ K Z' H' d fs→Con P w K L' Z' H'→Fr L Z H L' Z' H'→E cls (some d) H')
abbrev FnA (P:Program) (w:World) (K:PySem.W.Frag) (mg:Str→Option Value) (base:Heap) (k:Nat) (f:Addr) (sp:SpA):Prop:=FnR P w K mg base (L2.CX P w) k f (aAR P w K sp)
structure Def (P:Program) (w:World) (K:PySem.W.Frag) (mg:Str→Option Value) (base:Heap) (x:Str) (k:Nat) (sp:SpA):Prop where
 ex:∃f,mg x=some (.ref f)∧PySem.W.keepIn K (.ref f)=true∧FnA P w K mg base k f sp
theorem Def.mono {P:Program} {w:World} {K:PySem.W.Frag} {mg:Str→Option Value} {base:Heap} {x:Str} {j k:Nat} {sp:SpA} (F:Def P w K mg base x j sp) (h:j≤k):Def P w K mg base x k sp:=by
 obtain ⟨f,h1,h2,h3⟩:=F.ex
 exact ⟨f,h1,h2,h3.mono h⟩
theorem Def.imp {P:Program} {w:World} {K:PySem.W.Frag} {mg:Str→Option Value} {base:Heap} {x:Str} {k:Nat} {sp sp':SpA} (F:Def P w K mg base x k sp) (h:∀ds L Q R,sp' ds L Q R→sp ds L Q R):Def P w K mg base x k sp':=by
 obtain ⟨f,h1,h2,h3⟩:=F.ex
 exact ⟨f,h1,h2,h3.imp fun vs H Q E ⟨ds,L,Z,Q',R',a,b,c,d⟩=>⟨ds,L,Z,Q',R',a,b,h _ _ _ _ c,d⟩⟩
section
variable {C:Ctx} {Γ:Gm} {L:Lp} {e:Expr} {es:List Expr} {pos p:Pos} {Q:D→Lp→Prop} {x:Str} {k:Nat} {sp:SpA}
theorem qX {f:Addr} {pins:List (Addr×Obj)} {σ:L2.St} {Z:Fz} {H:Hp} {s:Shared} {us:List Value} {vs:List V} {ds:List D} {QV:VK} (F:FnA C.X.prog C.X.w C.X.K C.X.mg C.X.base k f sp) (hr:Room k C.X.A) (I:Inv C.X pins σ H s) (ok:Ok C Γ L Z σ H) (r:Vals vs us) (rd:bG C.X.K Z H vs ds)
  (h:sp ds L Q (C.R Γ)) (go:Go C L Z H Q QV):codeAny (model C.X.prog C.X.w) C.X.A (.call (.ref f) ⟨us,[]⟩) (fun r s'=>match r with | .ok (.ret v)=>EP C.X pins σ QV v s' | .ok _=>False | .error e=>C.X.xe e s') s:=by
 refine codeAny_mono (F C.X.A C.X.stack s H us vs QV (L2.WE C.W σ) hr I.env0 r ⟨ds,L,Z,Q,C.R Γ,rd,ok.con,h,fun d L' q v H' rv c f=>go v d H' L' rv c f q,fun cls fs L' q d H' xd c f=>ok.lr.of cls d σ H' Γ L' fs (ok.sl.mono f.mv) c f xd q⟩) fun r s' hq=> ?_
 cases r with
 | error e=>exact passAt C.tk σ pins H s e s' I hq
 | ok fl=>
  cases fl with
  | ret u=>exact I.after hq
  | next=>exact False.elim hq
  | brk=>exact False.elim hq
  | cont=>exact False.elim hq
theorem aK (F:Def C.X.prog C.X.w C.X.K C.X.mg C.X.base x k sp) (hr:Room k C.X.A) (h:AA C (e::es) Γ L fun ds L1=>sp ds L1 Q (C.R Γ)) (hg:Gl C.X x:=by rfl) (hdb:(x==("__debug__" :Str))=false:=by decide)
  (he:starEach (e::es) C.X.env=(false,eval e C.X.env)::starEach es C.X.env:=by rfl) (hpl:(backTo pos (starEach es C.X.env)).any (·.1)=false:=by rfl):AE C (.Call (.Name x p) (e::es) [] pos) Γ L Q:=fun Z σ H ok QV go=>by
 refine ⟨fun pins s I=> ?_⟩
 obtain ⟨f,hm,hk,G⟩:=F.ex
 refine wpAny_Call_Name_kw (ld_glob I hg hm ?_ hdb)
 refine PySem.W.callWith_K (h₀:=C.X.base) I.ok.mod.kin hk (thn ((h _ σ H ok (fun vs H1=> ∃ds L1 Z1,bG C.X.K Z1 H1 vs ds∧C.Con L1 Z1 H1∧Fr L Z H L1 Z1 H1∧sp ds L1 Q (C.R Γ)) (fun vs ds H1 L1 r c f q=>⟨ds,L1,_,r,c,f,q⟩)).run pos pins s I) fun us s1 ⟨vs,H1,I1,r,ds,L1,Z1,rd,c1,f1,q⟩=>⟨I1.kIn,?_⟩) he hpl
 exact wpAny_call (qX G hr I1 (ok.step c1 f1) r rd q (go.after f1))
end

def qO (N:List Str) (ds:List D):Gm:=ds.map some++List.replicate (N.length - ds.length) none
theorem nQ {K:PySem.W.Frag} {F:Fz} {H:Hp} {N:List Str} {vs:List V} {ds:List D} (r:bG K F H vs ds):Sl K F H (L2.start N vs) (qO N ds):=by
 unfold L2.start qO
 have hl:=r.length
 refine ⟨by simp [hl],fun i d e=> ?_⟩
 by_cases h:i < ds.length
 ·rw [List.getElem?_append_left (by simpa using h),List.getElem?_map] at e
  cases q:ds[i]? with
  | none=>
   rw [q] at e
   cases e
  | some d'=>
   rw [q] at e
   cases e
   obtain ⟨v,h1,h2⟩:=r.get q
   exact ⟨v,by rw [List.getElem?_append_left (by simp;omega),List.getElem?_map,h1];rfl,h2⟩
 ·rw [List.getElem?_append_right (by simp;omega),List.getElem?_replicate] at e
  split at e <;> cases e
def sG (Q:D→Lp→Prop):AEnds where
 nx:=fun _ L'=> ∃L2,Le L2 L'∧Q .non L2
 rt:=fun d L'=> ∃L2,Le L2 L'∧Q d L2
theorem fnA {P:Program} {w:World} {K:PySem.W.Frag} {mg:Str→Option Value} {base:Heap} {x qual:Str} {st:Stmt} {f:Addr} {fd:FuncData} {N ps:List Str} {k:Nat} {sp:SpA} (F:Fun K x qual st f fd) (S:FnScope N ps (defScope st)) (hb:Binds K fd ps [])
  (len:∀ds L Q R,sp ds L Q R→ds.length=ps.length)
  (hbody:∀(cdv:Value) (A:Around) (outer:List Env) (s:Shared) (H:Hp) (E:XK) (ds:List D) (L:Lp) (Q:D→Lp→Prop) (R:Value→List (Str×D)→Lp→Prop),Room k (A.deeper (envOfC qual (defScope st) s.heap.objs.size f cdv))→sp ds L Q R→
   ASs (vA P w K mg base N qual (defScope st) f cdv A outer s H E S.nd R) (defBody st) (qO N ds) L (sG Q)):FnA P w K mg base (k+1) f sp:=by
 have G:FnOk P w K mg base (L2.CX P w) (k+1) f fd ps (aAR P w K sp):=by
  refine F.okX S (fun vs H Q E ⟨ds,L,Z,Q',R',r,_,h,_⟩=>by rw [r.length];exact len _ _ _ _ h) fun cdv A outer s H vs Q E hr ⟨ds,L,Z,Q',R',r,c,h,hq,he⟩=> ?_
  refine ⟨_,mF,hbody cdv A outer s H E ds L Q' R' hr h _ (L2.start N vs) H ⟨nQ r,c,⟨fun cls d σ' H' Γ' L' fs _ c' f' xd q=>he cls fs L' q d H' xd c' f',True.intro⟩⟩ _ ⟨?_,?_,?_,?_⟩⟩
  ·rintro Z' σ' H' Γ' L' ok' f' ⟨L2,le,q⟩
   exact hq .non L2 q .non H' .non (ok'.con.le le) (f'.leR le)
  ·rintro Z' v d H' L' rv c' f' ⟨L2,le,q⟩
   exact hq d L2 q v H' rv (c'.le le) (f'.leR le)
  ·rintro _ _ _ _ _ _ _ z
   exact z.elim
  ·rintro _ _ _ _ _ _ _ z
   exact z.elim
 exact (G.raw hb .nil).imp fun vs H Q E h=>by rw [List.append_nil];exact h
end DL
namespace DL
open PySem PySem.Spec PyProof.Rows L2

section
variable {C:Ctx} {Γ Γ1 Γ2:Gm} {L:Lp} {e e2 a b c o tg:Expr} {es ts:List Expr} {pos p1 p2:Pos} {st:Stmt} {sts:List Stmt} {E:AEnds} {Q:D→Lp→Prop} {d:D} {ds:List D} {ws zs:List Nat}

def sgn (k:Nat):Str:=⟨#[k]⟩
def dR (x:Str):List D:=x.cps.toList.map fun k=> .str (sgn k)
theorem its_is {x:Str} {L0:Lp} {F0:Fz} {H0:Hp} (hx:SOk x):aAW C (Its x) (dR x) (fun _=>True) L0 F0 H0:=by
 intro F i H L s cc g
 have hl:(dR x).length=x.cps.size:=by unfold dR;simp
 rw [hl]
 refine ⟨fun h=>h,fun h=>Nat.le_of_eq h.symm,fun v H' y hi=> ?_⟩
 obtain ⟨e1,k,hk,e2⟩:=y
 subst e1 e2
 refine ⟨.str (sgn k),?_,.str _ (.one (hx.mem (Array.mem_toList_iff.mpr (Array.mem_of_getElem? hk)))),.inl rfl⟩
 unfold dR
 rw [List.getElem?_map,Array.getElem?_toList,hk]
 rfl
theorem ai_str {R:List D→(Lp→Prop)→Lp→Prop} (h:AE C e Γ L fun d L1=> ∃x:Str,d= .str x∧(SOk x→R (dR x) (fun _=>True) L1)):AI C tg e Γ L R:=fun F σ H ok RV go=>
 oN (pi_str bA) (h _ σ H ok _ fun v d H1 L1 r c f ⟨x,ed,q⟩=>by
  subst ed
  exact ⟨x,r.strE,go _ H1 L1 _ _ c f (its_is r.bnd) (q r.bnd)⟩)
def yH (xs ys:List D):List D:=List.zipWith (fun x y=> .tup [x,y]) xs ys
abbrev rInSign:R2:=fun x y H Q=> ∃(c:Nat) (z:Str),x= .str ⟨#[c]⟩∧y= .str z∧Q (.bl (decide (c∈z.cps.toList))) H
theorem r_inSign {k:Nat} {z:Str} (q:Q (.bl (decide (k∈z.cps.toList))) L):L2R C rInSign (.str (sgn k)) (.str z) L Q:=fun F vx vy H c rx ry QV go=>⟨k,z,rx.strE,ry.strE,go _ _ H L (.bl _) c (.refl L H) q⟩
theorem cutS_len (z:Str) (lo hi:Option Int):(cutS z lo hi).length≤z.length:=by
 unfold cutS
 show (List.toArray _).size≤z.cps.size
 rw [List.size_toArray,List.length_take,List.length_drop,Array.length_toList]
 show min _ (z.cps.size - _)≤_
 omega
theorem SOk.cut {z:Str} (h:SOk z) (lo hi:Option Int):SOk (cutS z lo hi):= .of (Nat.le_trans (cutS_len z lo hi) h.len) fun k hk=>by
 unfold cutS at hk
 exact h.mem (List.mem_of_mem_drop (List.mem_of_mem_take (by simpa using hk)))
theorem zQ {z:Str} {lo hi:Option Int} (q:Q (.str (cutS z lo hi)) L):LsR C rSlS (.str z) lo hi L Q:=fun F v H c r QV go=>⟨z,r.strE,r.bnd.len,go _ _ H L (.str _ (SOk.cut r.bnd lo hi)) c (.refl L H) q⟩
theorem join_tl (s:Str):∀ys:List Str,(Str.join s ys).length≤(ys.map (·.length)).sum+ys.length*s.length
 | []=>Nat.zero_le _
 | [x]=>by
  show x.length≤_
  simp
 | x::z::r=>by
  have ih:=join_tl s (z::r)
  show (x++s++Str.join s (z::r)).length≤_
  rw [jR,jR]
  rw [List.map_cons,List.sum_cons,List.length_cons,Nat.add_mul,Nat.one_mul]
  omega
theorem join_mem (s:Str) {k:Nat}:∀ys:List Str,k∈(Str.join s ys).cps.toList→k∈s.cps.toList∨∃y∈ys,k∈y.cps.toList
 | [],h=>by
  have h':k∈(#[]:Array Nat).toList:=h
  simp at h'
 | [x],h=> .inr ⟨x,List.mem_singleton_self x,h⟩
 | x::z::r,h=>by
  have h':k∈(x++s++Str.join s (z::r)).cps.toList:=h
  have e:(x++s++Str.join s (z::r)).cps.toList=x.cps.toList++s.cps.toList++(Str.join s (z::r)).cps.toList:=by
   show ((x.cps++s.cps)++(Str.join s (z::r)).cps).toList=_
   simp
  rw [e] at h'
  rcases List.mem_append.mp h' with q | q
  ·rcases List.mem_append.mp q with q | q
   ·exact .inr ⟨x,List.mem_cons_self,q⟩
   ·exact .inl q
  ·rcases join_mem s (z::r) q with q | ⟨y,hy,q⟩
   ·exact .inl q
   ·exact .inr ⟨y,List.mem_cons_of_mem _ hy,q⟩
theorem SOk.join {s:Str} {ys:List Str} (hs:SOk s) (hy:∀y∈ys,SOk y) (hz:(ys.map (·.length)).sum+ys.length*s.length≤16777216):SOk (Txt.join s ys):=by
 rw [TL.join_eq]
 refine .of (Nat.le_trans (join_tl s ys) (by rw [sizeLine_eq];exact hz)) fun k hk=> ?_
 rcases join_mem s ys hk with q | ⟨y,h1,q⟩
 ·exact hs.mem q
 ·exact (hy y h1).mem q
theorem oY {K:PySem.W.Frag} {F:Fz} {H:Hp} {vs:List V} {bs:List Str} (r:bG K F H vs (bs.map D.str)):∀y∈bs,SOk y:=fun y hy=>by
 obtain ⟨i,hi⟩:=List.getElem?_of_mem hy
 obtain ⟨v,_,rv⟩:=r.get (i:=i) (d:= .str y) (by rw [List.getElem?_map,hi];rfl)
 exact rv.bnd
theorem ae_join {apos:Pos} (h:AE C o Γ L fun x L1=> ∃s:Str,x= .str s∧AE C e Γ L1 fun y L2=> ∃(p:Addr) (ys:List Str),y= .ptr p∧L2 p=some (.lst (ys.map D.str))∧(ys.map (·.length)).sum+ys.length*s.length≤16777216∧Q (.str (Txt.join s ys)) L2)
  (hs:starEach [e] C.X.env= [(false,eval e C.X.env)]:=by rfl) (hbase:attributeBase o "join" C.X.env (eval o C.X.env)=eval o C.X.env:=by rfl) (hline:(apos.endLine==pos.line)=true:=by rfl):AE C (.Call (.Attribute o "join" apos) [e] [] pos) Γ L Q:=fun F σ H ok QV go=>
 dO (pe_join bA bA hs hbase hline) (h _ σ H ok _ fun vx x H1 L1 r1 c1 f1 ⟨s,ex,q1⟩=>by
  subst ex
  refine ⟨⟨s,r1.strE⟩,q1 _ σ H1 (ok.step c1 f1) _ fun vy y H2 L2 r2 c2 f2 ⟨p,ys,ey,hp,hz,q2⟩=> ?_⟩
  subst ey
  obtain ⟨ws,ha,ra,_⟩:=c2.at_ p _ hp
  have e:=cX ra
  have hy:=oY ra
  subst e
  exact ⟨s,p,ys,r1.strE,by rw [r2.ptrE],.inl (SqL.of ha),hz,go _ _ H2 L2 (.str _ (SOk.join r1.bnd hy hz)) c2 (f1.trans f2) q2⟩)

abbrev rLstS:List V→Hp→VK→Prop:=fun xs H Q=> ∃z:Str,xs= [.str z]∧z.length≤sizeLine∧∀l,H l=none→Q (.ref l) (upd H l (.lst (z.cps.toList.map fun k=>V.str ⟨#[k]⟩)))
theorem pK {X:Cx} (hc:X.calm=true):CallR X (.type "list") rLstS:=by
 intro pins s σ H xs us Q I r h
 obtain ⟨z,rfl,hz,q⟩:=h
 obtain ⟨u,rfl,ru⟩:=vals1 r
 obtain ⟨t,rfl⟩:=ru
 refine PySem.call_list_str (hn:=hz) (I.ok.hd hc) z t fun h' tk acc c hk hS hacc=> ?_
 have hv:Vals (z.cps.toList.map fun k=>V.str ⟨#[k]⟩) acc.toList:=by
  have hsz:acc.toList.length=z.cps.toList.length:=by rw [Array.length_toList,hacc.1,Array.length_toList]
  have key:∀(l:List Value) (ks:List Nat),l.length=ks.length→(∀(j:Nat) v,l[j]? =some v→∃k u,ks[j]? =some k∧v= .str ⟨#[k]⟩ u)→Vals (ks.map fun k=>V.str ⟨#[k]⟩) l:=by
   intro l
   induction l with
   | nil=>
    intro ks hl _
    cases ks with
    | nil=>exact .nil
    | cons _ _=>simp at hl
   | cons v l ih=>
    intro ks hl hj
    cases ks with
    | nil=>simp at hl
    | cons k ks=>
     obtain ⟨k',u,e1,e2⟩:=hj 0 v rfl
     simp at e1
     subst e1 e2
     exact .cons ⟨u,rfl⟩ (ih ks (by simpa using hl) fun j w hw=>by simpa using hj (j+1) w (by simpa using hw))
  refine key _ _ hsz fun j v hv=> ?_
  obtain ⟨c,u,e1,e2⟩:=hacc.2 j v (by simpa using hv)
  exact ⟨c,u,by simpa using e1,e2⟩
 refine ⟨.ref s.heap.objs.size,_,I.laid (a:=s.heap.objs.size) (o:= .lst (z.cps.toList.map fun k=>V.str ⟨#[k]⟩)) hk (Nat.le_refl _) ⟨?_,acc.toList,c,hv,?_⟩,rfl,q _ (I.hok.fresh (Nat.le_refl _))⟩
 ·rw [List.length_map,Array.length_toList]
  exact hz
 ·simpa using hS
theorem reps_signs {K:PySem.W.Frag} {F:Fz} {H:Hp} {x:Str} (hx:SOk x):bG K F H (x.cps.toList.map fun k=>V.str ⟨#[k]⟩) (dR x):=by
 refine bG.of_get (by unfold dR;simp) fun i v d h1 h2=> ?_
 unfold dR at h2
 rw [List.getElem?_map] at h1 h2
 cases e:x.cps.toList[i]? with
 | none=>
  rw [e] at h1
  cases h1
 | some k=>
  rw [e] at h1 h2
  cases h1
  cases h2
  exact .str _ (.one (hx.mem (List.mem_of_getElem? e)))
theorem wL {z:Str} (q:∀l,L l=none→Q (.ptr l) (put L l (.lst (dR z)))):LcR C rLstS [.str z] L Q:=fun F vs H c r0 QV go=>by
 obtain ⟨v,rfl,r⟩:=r0.oneE
 have hz:SOk z:=r.bnd
 refine ⟨z,by rw [r.strE],hz.len,fun l hl=>go _ _ _ (put L l (.lst (dR z))) (.ptr l) (c.newL hl ⟨_,upd_same,reps_signs hz,?_⟩) (.newL hl) (q l (c.free hl))⟩
 unfold dR
 rw [List.length_map,Array.length_toList]
 exact hz.len
def vY (x:Str) (n:Nat):Str:=⟨(List.replicate n x.cps.toList).flatten.toArray⟩
theorem rep_fold (x:Array Nat):∀(n:Nat) (acc:Array Nat),((List.replicate n x).foldl (· ++ ·) acc).toList=acc.toList++(List.replicate n x.toList).flatten
 | 0,acc=>by simp
 | n+1,acc=>by
  rw [List.replicate_succ,List.foldl_cons,rep_fold x n,List.replicate_succ,List.flatten_cons]
  simp
theorem rep_len {z:Str} {n:Nat} (hz:z.length*n≤1000000):(vY z n).length≤sizeLine:=by
 show (List.toArray _).size≤_
 rw [List.size_toArray,List.length_flatten,List.map_replicate,List.sum_replicate_nat,Array.length_toList,sizeLine_eq]
 have:n*z.cps.size≤1000000:=by rw [Nat.mul_comm];exact hz
 omega
abbrev aAp:R2:=fun x y H Q=> ∃(z:Str) (n:Int),x= .str z∧y= .int n∧0≤n∧n≤1000000∧z.length*n.toNat≤1000000∧Q (.str (vY z n.toNat)) H
theorem op_mulS {X:Cx}:OpR X (binaryOp .Mult) aAp:=by
 intro pins s σ H x y v u Q I rx ry h
 obtain ⟨z,n,rfl,rfl,h0,h1,hz,q⟩:=h
 obtain ⟨t,rfl⟩:=rx
 obtain ⟨t',rfl⟩:=ry
 have e0:∀n:Nat,vY z n=⟨(List.replicate n z.cps).foldl (· ++ ·) #[]⟩:=fun n=>by
  unfold vY
  congr 1
  apply Array.toList_inj.mp
  rw [rep_fold]
  simp
 refine PySem.P.mul_str ?_ (fun _ _=> ?_) (fun _ _=> ?_) ?_
 ·have a1:¬n < -(2 ^ 63:Int):=by omega
  have a2:¬n≥2 ^ 63:=by omega
  rw [decide_eq_false a1,decide_eq_false a2]
  rfl
 ·rename_i n1 _
  have hn1:(1:Int)≤n:=by omega
  have hl:z.length≤1000000:=by
   refine Nat.le_trans ?_ hz
   have:1≤n.toNat:=by omega
   exact Nat.le_mul_of_pos_right _ this
  intro hh
  have h2:(1000000:Int)≤(2 ^ 63 - 1) / n:=Int.le_ediv_of_mul_le (by omega) (by omega)
  omega
 ·unfold Builtin.Str.tooLong
  refine decide_eq_false ?_
  rw [sizeLine_eq]
  omega
 ·by_cases c1:n < 1
  ·rw [if_pos c1]
   have e:n=0:=by omega
   subst e
   exact ⟨Nat.zero_le _,.str (vY z 0),H,I.tok _,⟨_,rfl⟩,q⟩
  ·rw [if_neg c1]
   by_cases c2:(n==1 || z.length==0)=true
   ·rw [if_pos c2]
    have e:vY z n.toNat=z:=by
     rw [Bool.or_eq_true] at c2
     rcases c2 with c | c
     ·have e1:n=1:=by simpa using c
      subst e1
      show (⟨(List.replicate 1 z.cps.toList).flatten.toArray⟩:Str)=z
      simp
     ·have e1:z.cps= #[]:=Array.eq_empty_of_size_eq_zero (show z.length=0 by simpa using c)
      unfold vY
      cases z with
      | mk cps=>
       simp only at e1
       subst e1
       simp
    rw [e] at q
    exact ⟨.str z,H,I,⟨_,rfl⟩,q⟩
   ·rw [if_neg c2,←e0]
    exact ⟨rep_len hz,.str (vY z n.toNat),H,I.tok _,⟨_,rfl⟩,q⟩
theorem SOk.rep {z:Str} (h:SOk z) {n:Nat} (hz:z.length*n≤1000000):SOk (vY z n):=by
 refine .of (rep_len hz) fun k hk=> ?_
 ·unfold vY at hk
  have hk':k∈(List.replicate n z.cps.toList).flatten:=by simpa using hk
  obtain ⟨l,h1,h2⟩:=List.mem_flatten.mp hk'
  rw [(List.mem_replicate.mp h1).2] at h2
  exact h.mem h2
theorem r_mulS {z:Str} {n:Int} (h0:0≤n) (h1:n≤1000000) (hz:z.length*n.toNat≤1000000) (q:Q (.str (vY z n.toNat)) L):L2R C aAp (.str z) (.int n) L Q:=fun F vx vy H c rx ry QV go=>
 ⟨z,n,rx.strE,ry.intE,h0,h1,hz,go _ _ H L (.str _ (SOk.rep rx.bnd hz)) c (.refl L H) q⟩
end
end DL
namespace DL
open PySem PySem.Spec PyProof.Rows L2

mutual
def py:D→PyData
 | .non=> .none
 | .bl b=> .bool b
 | .int i=> .int i
 | .str x=> .str x
 | .tup ds=> .tuple (pys ds)
 | .ty _=> .none
 | .ptr _=> .none
 | .ilst _=> .none
 | .obj _ _=> .none
 | .flst _=> .none
 | .fdct _=> .none
 | .kdct _=> .none
 | .wds _=> .none
 | .iob _ _=> .none
 | .tk _=> .none
def pys:List D→List PyData
 | []=> []
 | d::ds=>py d::pys ds
end
mutual
def okD:D→Bool
 | .non=>true
 | .bl _=>true
 | .int _=>true
 | .str _=>true
 | .tup ds=>oM ds
 | .ty _=>false
 | .ptr _=>false
 | .ilst _=>false
 | .obj _ _=>false
 | .flst _=>false
 | .fdct _=>false
 | .kdct _=>false
 | .wds _=>false
 | .iob _ _=>false
 | .tk _=>false
def oM:List D→Bool
 | []=>true
 | d::ds=>okD d && oM ds
end
mutual
theorem Rep.dp {K:PySem.W.Frag} {F:Fz} {H:Hp}:∀(d:D) (v:V),okD d=true→Rep K F H v d→Dp K H v (py d)∧(py d).canLay0=true
 | .non,_,_,r=>by rw [r.nonE,py];exact ⟨.non,rfl⟩
 | .bl b,_,_,r=>by rw [r.blE,py];exact ⟨.bl b,rfl⟩
 | .int i,_,_,r=>by rw [r.intE,py];exact ⟨.int i,rfl⟩
 | .str x,_,_,r=>by
  have h:SOk x:=r.bnd
  rw [r.strE,py]
  exact ⟨.str x,by rw [PyData.canLay0];exact h.sgn⟩
 | .tup ds,_,h,r=>by
  obtain ⟨a,vs,rfl,ha,ra⟩:=r.tupE
  rw [okD] at h
  obtain ⟨h1,h2⟩:=bG.dp ds vs h ra
  rw [py]
  exact ⟨.tup (SqT.of ha) h1,by rw [PyData.canLay0];exact h2⟩
 | .ty _,_,h,_=>by simp [okD] at h
 | .ptr _,_,h,_=>by simp [okD] at h
 | .ilst _,_,h,_=>by simp [okD] at h
 | .obj _ _,_,h,_=>by simp [okD] at h
 | .flst _,_,h,_=>by simp [okD] at h
 | .fdct _,_,h,_=>by simp [okD] at h
 | .kdct _,_,h,_=>by simp [okD] at h
 | .wds _,_,h,_=>by simp [okD] at h
 | .iob _ _,_,h,_=>by simp [okD] at h
 | .tk _,_,h,_=>by simp [okD] at h
theorem bG.dp {K:PySem.W.Frag} {F:Fz} {H:Hp}:∀(ds:List D) (vs:List V),oM ds=true→bG K F H vs ds→DpAll K H vs (pys ds)∧PyData.canLayAll0 (pys ds)=true
 | [],_,_,r=>by
  cases r
  rw [pys]
  exact ⟨.nil,rfl⟩
 | d::ds,_,h,r=>by
  rw [oM,Bool.and_eq_true] at h
  cases r with
  | cons r1 r2=>
   obtain ⟨a1,a2⟩:=Rep.dp d _ h.1 r1
   obtain ⟨b1,b2⟩:=bG.dp ds _ h.2 r2
   rw [pys]
   exact ⟨.cons a1 b1,by rw [PyData.canLayAll0,a2,b2];rfl⟩
end

section
variable {C:Ctx} {Γ Γ1 Γ2:Gm} {L:Lp} {e e2 a b c o tg:Expr} {es ts:List Expr} {pos p1 p2:Pos} {st:Stmt} {sts:List Stmt} {E:AEnds} {Q:D→Lp→Prop} {d:D} {ds:List D} {ws zs:List Nat}
theorem jF {d:PyData} (h1:d.canLay0=true) (h2:d.depth≤64):SeqAt.shaped d=true:=by
 unfold SeqAt.shaped
 rw [h1,decide_eq_true h2]
 rfl
theorem r_eqD {x y:D} (hx:okD x=true) (hy:okD y=true) (dx:(py x).depth≤64) (dy:(py y).depth≤64) (q:Q (.bl (PyData.eqv (py x) (py y))) L):L2R C (rEqD C.X.K) x y L Q:=fun F vx vy H c rx ry QV go=>by
 obtain ⟨a1,a2⟩:=Rep.dp x vx hx rx
 obtain ⟨b1,b2⟩:=Rep.dp y vy hy ry
 exact ⟨py x,py y,a1,b1,jF a2 dx,jF b2 dy,go _ _ H L (.bl _) c (.refl L H) q⟩
theorem r_neD {x y:D} (hx:okD x=true) (hy:okD y=true) (dx:(py x).depth≤64) (dy:(py y).depth≤64) (q:Q (.bl (!PyData.eqv (py x) (py y))) L):L2R C (rNeD C.X.K) x y L Q:=fun F vx vy H c rx ry QV go=>by
 obtain ⟨a1,a2⟩:=Rep.dp x vx hx rx
 obtain ⟨b1,b2⟩:=Rep.dp y vy hy ry
 exact ⟨py x,py y,a1,b1,jF a2 dx,jF b2 dy,go _ _ H L (.bl _) c (.refl L H) q⟩
abbrev rLtD (K:PySem.W.Frag):R2:=fun x y H Q=> ∃d e,Dp K H x d∧Dp K H y e∧PySem.W.alike d e=true∧d≠ .none∧d.depth≤64∧Q (.bl (PySem.W.dataLt d e)) H
theorem op_ltD {X:Cx} (hu:X.A.units+64 < cLine):OpR X (compareOp .Lt) (rLtD X.K):=by
 intro pins s σ H x y v u Q I rx ry h
 obtain ⟨d,e,hd,he,hal,hn,hz,q⟩:=h
 obtain ⟨as,r1⟩:=Dp.reads I d x v hd rx
 obtain ⟨bs,r2⟩:=Dp.reads I e y u he ry
 exact PySem.W.rcLt_alike d e X.A s v u as bs r1 r2 hal hn (by have:=Nat.min_le_left d.depth e.depth;omega) _ _ _ _ ⟨.bl _,H,I,rfl,q⟩
theorem iV {α β:Type} {R:α→β→Prop}:∀{l1:List α} {l2:List β},Paired R l1 l2→PySem.W.EachIs R l1 l2
 | _,_,.nil=> .nil
 | _,_,.cons h t=> .cons h (iV t)
theorem mV {α β:Type} {R:α→β→Prop}:∀{l1:List α} {l2:List β},PySem.W.EachIs R l1 l2→Paired R l1 l2
 | _,_,.nil=> .nil
 | _,_,.cons h t=> .cons h (mV t)
def leD (x y:D):Bool:=PySem.W.dataLe false py x y
end
end DL
namespace DL
open PySem PySem.Spec PyProof.Rows L2

def keyD:Key→D
 | .inl i=> .int i
 | .inr x=> .str x
def kD (k:List Key):D:= .tup (k.map keyD)
theorem wC {K:PySem.W.Frag} {F:Fz} {H:Hp}:∀{k:List Key} {vs:List V},bG K F H vs (k.map keyD)→vs=k.map kV
 | [],_,.nil=>rfl
 | .inl i::k,_,.cons r t=>by
  rw [Rep.intE (show Rep K F H _ (.int i) from r),wC t]
  rfl
 | .inr x::k,_,.cons r t=>by
  rw [Rep.strE (show Rep K F H _ (.str x) from r),wC t]
  rfl
theorem aAC {K:PySem.W.Frag} {F:Fz} {H:Hp} {v:V} {k:List Key} (r:Rep K F H v (kD k)):∃b,v= .ref b∧H b=some (.tup (k.map kV)):=by
 obtain ⟨b,vs,rfl,hb,ra⟩:=Rep.tupE (show Rep K F H v (.tup (k.map keyD)) from r)
 rw [wC ra] at hb
 exact ⟨b,rfl,hb⟩
def valD (kds:List (List Key×D)) (k:List Key):Option D:=(kds.find? fun kv=>decide (kv.1=k)).map (·.2)
def putD (kds:List (List Key×D)) (k:List Key) (v:D):List (List Key×D):=
 if kds.any (fun kv=>decide (kv.1=k)) then kds.map fun kv=>if kv.1=k then (kv.1,v) else kv else kds++ [(k,v)]
abbrev KDs (K:PySem.W.Frag) (F:Fz) (H:Hp):List (List Key×V)→List (List Key×D)→Prop:=Paired fun p q=>p.1=q.1∧Rep K F H p.2 q.2
theorem KDs.val {K:PySem.W.Frag} {F:Fz} {H:Hp} {kvs:List (List Key×V)} {kds:List (List Key×D)} (r:KDs K F H kvs kds) (k:List Key):
  (valV kvs k=none∧valD kds k=none)∨∃v d,valV kvs k=some v∧valD kds k=some d∧Rep K F H v d:=by
 induction r with
 | nil=>exact .inl ⟨rfl,rfl⟩
 | @cons p q ps qs h t ih=>
  obtain ⟨h1,h2⟩:=h
  by_cases e:p.1=k
  ·refine .inr ⟨p.2,q.2,valV_pos e,?_,h2⟩
   unfold valD
   rw [List.find?_cons_of_pos (by simpa using h1.symm.trans e)]
   rfl
  ·have e2:valD (q::qs) k=valD qs k:=by
    unfold valD
    rw [List.find?_cons_of_neg (by simpa using fun z=>e (h1.trans z))]
   rw [valV_neg e,e2]
   exact ih
theorem KDs.any {K:PySem.W.Frag} {F:Fz} {H:Hp} {kvs:List (List Key×V)} {kds:List (List Key×D)} (r:KDs K F H kvs kds) (k:List Key):(kvs.any fun kv=>decide (kv.1=k))=kds.any fun kv=>decide (kv.1=k):=by
 induction r with
 | nil=>rfl
 | @cons p q ps qs h t ih=>rw [List.any_cons,List.any_cons,ih,h.1]
theorem KDs.repl {K:PySem.W.Frag} {F:Fz} {H:Hp} {kvs:List (List Key×V)} {kds:List (List Key×D)} (r:KDs K F H kvs kds) (k:List Key) {v:V} {d:D} (rv:Rep K F H v d):KDs K F H (kvs.map fun kv=>if kv.1=k then (kv.1,v) else kv) (kds.map fun kv=>if kv.1=k then (kv.1,d) else kv):=by
 induction r with
 | nil=>exact .nil
 | @cons p q ps qs h t ih=>
  rw [List.map_cons,List.map_cons]
  refine .cons ?_ ih
  by_cases e:p.1=k
  ·rw [if_pos e,if_pos (h.1.symm.trans e)]
   exact ⟨h.1,rv⟩
  ·rw [if_neg e,if_neg (fun z=>e (h.1.trans z))]
   exact h
theorem KDs.put {K:PySem.W.Frag} {F:Fz} {H:Hp} {kvs:List (List Key×V)} {kds:List (List Key×D)} (r:KDs K F H kvs kds) (k:List Key) {v:V} {d:D} (rv:Rep K F H v d):KDs K F H (putK kvs k v) (putD kds k d):=by
 unfold putK putD
 rw [r.any k]
 split
 ·exact r.repl k rv
 ·exact Paired.snoc r ⟨rfl,rv⟩
theorem KDs.mono {K:PySem.W.Frag} {F F':Fz} {H H':Hp} {kvs:List (List Key×V)} {kds:List (List Key×D)} (s:Mv F H F' H') (r:KDs K F H kvs kds):KDs K F' H' kvs kds:=Paired.mono r fun _ _ z=>⟨z.1,z.2.mono s⟩

section
variable {X:Cx}
abbrev zU:R2:=fun y x H Q=> ∃a o,x= .ref a∧DGet H a y o∧Q (.bl o.isSome) H
theorem op_inDT (hu:X.A.units+1 < cLine):OpR X (compareOp .In) zU:=fun pins s σ H x y v u Q I rx ry ⟨a,o,ey,g,q⟩=>by
 subst ey
 obtain rfl:u=Value.ref a:=ry
 exact d_in hu I g rx fun s' I'=>⟨.bl _,H,I',rfl,q⟩
abbrev qI:R2:=fun y x H Q=> ∃a o,x= .ref a∧DGet H a y o∧Q (.bl (!o.isSome)) H
theorem op_notInDT (hu:X.A.units+1 < cLine):OpR X (compareOp .NotIn) qI:=fun pins s σ H x y v u Q I rx ry ⟨a,o,ey,g,q⟩=>by
 subst ey
 obtain rfl:u=Value.ref a:=ry
 exact d_notIn hu I g rx fun s' I'=>⟨.bl _,H,I',rfl,q⟩
abbrev rGetDT:R2:=fun x y H Q=> ∃a v,x= .ref a∧DGet H a y (some v)∧Q v H
end
end DL
namespace DL
open PySem PySem.Spec PyProof.Rows L2
def xH (kvs more:List (List Key×V)):List (List Key×V):=more.foldl (fun acc kv=>putK acc kv.1 kv.2) kvs
def mergeD (kds more:List (List Key×D)):List (List Key×D):=more.foldl (fun acc kv=>putD acc kv.1 kv.2) kds
theorem KT.merge {H:Hp}:∀{q:List (List Key×Addr×V)} {ps:List (List Key×Addr×Value)} {kvs:List (List Key×V)} {xs:List (List Key×Addr×Value)},Paired (fun x p=>x.1=p.1∧x.2.1=p.2.1∧RelV x.2.2 p.2.2∧H x.2.1=some (.tup (x.1.map kV))) q ps→KT H kvs xs→
  KT H (xH kvs (q.map fun x=>(x.1,x.2.2))) (storedAllH xs ps)
 | _,_,_,_,.nil,r=>r
 | _,_,kvs,xs,.cons (a:=x) (b:=p) h t,r=>by
  obtain ⟨h1,h2,h3,h4⟩:=h
  have h5:H p.2.1=some (.tup (x.1.map kV)):=by rw [←h2];exact h4
  have r2:=r.put x.1 h5 h3
  rw [h1] at r2
  have:=KT.merge t r2
  rw [←h1] at this
  rw [h1] at this
  show KT H (xH (putK kvs x.1 x.2.2) _) (storedAllH (storedH xs p.1 p.2.1 p.2.2) _)
  rw [h1]
  exact this
theorem KDs.merge {K:PySem.W.Frag} {F:Fz} {H:Hp}:∀{more:List (List Key×V)} {mds:List (List Key×D)} {kvs:List (List Key×V)} {kds:List (List Key×D)},KDs K F H more mds→KDs K F H kvs kds→KDs K F H (xH kvs more) (mergeD kds mds)
 | _,_,_,_,.nil,r=>r
 | _,_,kvs,kds,.cons (a:=p) (b:=q) h t,r=>by
  show KDs K F H (xH (putK kvs p.1 p.2) _) (mergeD (putD kds q.1 q.2) _)
  rw [←h.1]
  exact KDs.merge t (r.put p.1 h.2)

section
variable {X:Cx}
end
end DL
namespace DL
open PySem PySem.Spec PyProof.Rows L2

section
variable {P:Program} {w:World} {h h':Heap} {a:Addr} {S:Str→Bool} {n:Nat}
theorem cV.at (R:cV w h a S n) (k:∀o,h.get? a=some o→h'.get? a=some o):cV w h' a S n:=by
 obtain ⟨ob,es,ep,tb,hob,rest⟩:=R
 exact ⟨ob,es,ep,tb,k ob hob,rest⟩
theorem cV.congr {S':Str→Bool} (R:cV w h a S n) (e:∀k,S' k=S k):cV w h a S' n:=by
 obtain rfl:S'=S:=funext e
 exact R
theorem txE_elems {l:List (Int×Value)} (g:∀e∈l,TxE w e):ElemsOf (strKind P w) l:=fun e he=>by
 obtain ⟨k,tk,e1,e2⟩:=g e he
 exact ⟨⟨k,by rw [e1];exact Froz.is_str k tk,e2⟩,by rw [e1] <;> rfl⟩
theorem txE_is {e:Int×Value} (g:TxE w e) (k:Str):(strKind P w).is k e.2=true↔txOf e=k:=by
 obtain ⟨k0,tk,e1,_⟩:=g
 unfold txOf
 rw [e1]
 show ((k0==k)=true)↔k0=k
 exact beq_iff_eq
theorem vM {l:List (Int×Value)} (g:∀e∈l,TxE w e) (k:Str):k∈l.map txOf↔∃e∈l,(strKind P w).is k e.2=true:=by
 rw [List.mem_map]
 exact ⟨fun ⟨e,he,q⟩=>⟨e,he,(txE_is (g e he) k).2 q⟩,fun ⟨e,he,q⟩=>⟨e,he,(txE_is (g e he) k).1 q⟩⟩
theorem cV.setOf (R:cV w h a S n):h.SetOf (strKind P w) a S n:=by
 obtain ⟨ob,es,ep,tb,hob,hx,hd,g,nd,hm,hb,hf,hn,_⟩:=R
 exact ⟨ob,es,ep,tb,hob,hx,hd,txE_elems g,fun k=>(hm k).trans (vM g k),hb,hf,hn⟩
end
section
variable {P:Program} {w:World} {A:Around} {E:Value→Shared→Prop} {s:Shared} {a:Addr} {S:Str→Bool} {n:Nat}
theorem setX_tail {g:Bool→Sem Unit} (hg:∀(b:Bool) (s₁:Shared) (Z:Unit→Shared→Prop),Z () s₁→wpAny (model P w) A (g b) Z E s₁)
  {ob:Obj} {es:Array (Int×Value)} {ep:Nat} {tb:SetTable} (hob:s.heap.get? a=some ob) (hex:ob.ExactSet) (hd:ob.data= .set es ep tb)
  {fs:Array (Int×Value)} {t2:SetTable} {S':Str→Bool} (g1:∀e∈fs.toList,TxE w e) (nd1:(fs.toList.map txOf).Nodup) (m1:∀k,S' k=true↔k∈fs.toList.map txOf)
  (hb1:fs.size < scanBound) (hf2:t2.fits fs.size=true) (hr:Ris t2.place.toList) (hl:w.params.followText "set-order"=true∨t2.led=true) {wasDummy:Bool} {R:Option Bool→Shared→Prop}
  (hR:∀h',Heap.SameBut a s.heap h'→cV w h' a S' fs.size→R (some true) {s with heap:=h'}):
  wpAny (model P w) A (do
    storeSet a fs t2
    if (!wasDummy && t2.tooFull)=true then do
      g (relayAll t2 fs (SetTable.grown fs.size)).2.2
      storeSet a (relayAll t2 fs (SetTable.grown fs.size)).1 (relayAll t2 fs (SetTable.grown fs.size)).2.1
      pure (some true)
     else pure (some true)) R E s:=by
 refine wpAny_bind (wpAny_storeSet_of hob hd ?_ (fits_of_scanBound hb1))
 have ob1:=L2.store_at (es':=fs) (t':=t2) hob hd
 have sm1:=Heap.SameBut.update s.heap a (Obj.putSet fs t2)
 split
 ·have pm:=relayAll_perm t2 fs (SetTable.grown fs.size)
  have f3:=relayAll_fits t2 fs (SetTable.grown fs.size)
  have r3:=relayAll_ris t2 fs (SetTable.grown fs.size)
  have l3:=relayAll_led t2 fs (SetTable.grown fs.size)
  generalize relayAll t2 fs (SetTable.grown fs.size)=Z at pm f3 r3 l3 ⊢
  obtain ⟨es2,t3,gave⟩:=Z
  dsimp only at pm f3 r3 l3 ⊢
  have hsz:es2.size=fs.size:=by rw [←Array.length_toList,pm.length_eq,Array.length_toList]
  have hb2:es2.size < scanBound:=hsz ▸hb1
  refine wpAny_bind (hg _ _ _ ?_)
  refine wpAny_bind (wpAny_storeSet_of ob1 rfl ?_ (fits_of_scanBound hb2))
  have ob2:=L2.store_at (es':=es2) (t':=t3) ob1 rfl
  refine wpAny_pure (hR _ (sm1.trans (Heap.SameBut.update _ a _)) ?_)
  exact ⟨_,es2,_,t3,ob2,hex,rfl,fun e he=>g1 e (pm.mem_iff.mp he),(pm.map txOf).nodup_iff.mpr nd1,fun k=>(m1 k).trans (pm.map txOf).mem_iff.symm,hb2,f3,hsz,r3,
   hl.imp id fun z=>by rw [l3];exact z⟩
 ·exact wpAny_pure (hR _ sm1 ⟨_,fs,_,t2,ob1,hex,rfl,g1,nd1,m1,hb1,hf2,rfl,hr,hl⟩)
theorem qW {k:Str} {tk:Tok} {Q:Bool→Shared→Prop} (R:cV w s.heap a S n) (room:n+1 < scanBound)
  (hQ:∀h',Heap.SameBut a s.heap h'→cV w h' a (fun j=>S j || decide (j=k)) (if S k=true then n else n+1)→Q (!S k) {s with heap:=h'}):
  wpAny (model P w) A (setAddHashed a (.str k tk) ((strKind P w).hash k)) Q E s:=by
 obtain ⟨ob,es,ep,tb,hob,hex,hd,g,nd,hm,hb,hf,hn,hr,hl⟩:=R
 have hkey:(strKind P w).is k (.str k tk)=true:=Froz.is_str k tk
 have hsc:(Value.str k tk).scannable=true:=rfl
 have hel:ElemsOf (strKind P w) es.toList:=txE_elems g
 unfold setAddHashed setAddHashedIn
 refine wpAny_holding (wpAny_bind (wpAny_setState_of hob hd hf ?_))
 dsimp only
 rw [byScan_of hsc hb hel]
 simp only [↓reduceIte]
 unfold setAddByScan
 refine wpAny_bind ?_
 refine wpAny_bind (wpAny_rule ?_)
 refine wpAny_bind (wpAny_setScan_of hkey hob hd hf hel ?_)
 cases hfi:List.findIdx? (fun e=>(strKind P w).is k e.2) es.toList with
 | some j=>
  dsimp only
  obtain ⟨hj,pj,_⟩:=List.findIdx?_eq_some_iff_getElem.mp hfi
  have inS:S k=true:=(hm k).2 ((vM (P:=P) g k).2 ⟨es.toList[j],List.getElem_mem hj,pj⟩)
  refine wpAny_pure (wpAny_pure ?_)
  have q:=hQ s.heap (Heap.SameBut.refl a s.heap) ⟨ob,es,ep,tb,hob,hex,hd,g,nd,fun i=>by
   rw [Bool.or_eq_true,decide_eq_true_eq,←hm i]
   exact ⟨fun z=>z.elim id (fun e=>e ▸inS),.inl⟩,hb,hf,by rw [if_pos inS];exact hn,hr,hl⟩
  rw [inS] at q
  exact q
 | none=>
  dsimp only
  have hnk:k∉es.toList.map txOf:=fun z=>by
   obtain ⟨e,he,q⟩:=(vM (P:=P) g k).1 z
   have c:=List.findIdx?_eq_none_iff.mp hfi e he
   rw [q] at c
   cases c
  have notS:S k=false:=by
   cases q:S k with
   | false=>rfl
   | true=>exact absurd ((hm k).1 q) hnk
  have hgw:∀(b:Bool) {s₁:Shared} {Z:Unit→Shared→Prop},Z () s₁→wpAny (model P w) A (match b with | true=>rule "set.scan.the-table-gave-way" | false=>pure ()) Z E s₁:=
   fun b s₁ Z q=>by cases b <;> first | exact wpAny_pure q | exact wpAny_rule q
  have pm:=layNew_perm tb es ((strKind P w).hash k) (.str k tk)
  have f1:=layNew_fits tb es ((strKind P w).hash k) (.str k tk)
  have r1:=layNew_ris tb es ((strKind P w).hash k) (.str k tk) hr
  have l1:=layNew_led tb es ((strKind P w).hash k) (.str k tk)
  generalize layNew tb es ((strKind P w).hash k) (.str k tk)=Z at pm f1 r1 l1 ⊢
  obtain ⟨fs,t1,wasDummy,gave⟩:=Z
  dsimp only at pm f1 r1 l1 ⊢
  rw [Array.toList_push] at pm
  have pc:fs.toList.Perm (((strKind P w).hash k,Value.str k tk)::es.toList):=pm.trans (List.perm_append_singleton _ _)
  have pk:(fs.toList.map txOf).Perm (k::es.toList.map txOf):=pc.map txOf
  have g1:∀e∈fs.toList,TxE w e:=fun e he=>by
   rcases List.mem_cons.mp (pc.mem_iff.mp he) with z | z
   ·rw [z];exact ⟨k,tk,rfl,rfl⟩
   ·exact g e z
  have nd1:(fs.toList.map txOf).Nodup:=pk.nodup_iff.mpr (List.nodup_cons.mpr ⟨hnk,nd⟩)
  have m1:∀i,(S i || decide (i=k))=true↔i∈fs.toList.map txOf:=fun i=>by
   rw [Bool.or_eq_true,decide_eq_true_eq,hm i,pk.mem_iff,List.mem_cons]
   exact Or.comm
  have hsz:fs.size=n+1:=by rw [←Array.length_toList,pc.length_eq,List.length_cons,Array.length_toList,hn]
  have hb1:fs.size < scanBound:=hsz ▸room
  have hled:w.params.followText "set-order"=true∨t1.led=true:=hl.imp id fun z=>by rw [l1];exact z
  have fin:∀h',Heap.SameBut a s.heap h'→cV w h' a (fun j=>S j || decide (j=k)) fs.size→Q true {s with heap:=h'}:=fun h' sb r=>by
   have q:=hQ h' sb
   rw [notS] at q
   rw [hsz] at r
   exact q r
  refine wpAny_bind (hgw _ ?_)
  split
  ·refine wpAny_bind ?_
   rw [hashByValue_scannable 8 hsc]
   refine wpAny_pure ?_
   refine setX_tail ?_ hob hex hd g1 nd1 m1 hb1 ?_ ?_ ?_ ?_
   ·intro b s₁ Z q;cases b <;> first | exact wpAny_pure q | exact wpAny_rule q
   ·first | (split <;> first | exact f1 | exact SetTable.fits_plain_off f1) | exact f1
   ·first | (split <;> exact r1) | exact r1
   ·first | (split <;> exact hled) | exact hled
   ·intro h' sb r;dsimp only;exact wpAny_pure (fin h' sb r)
  ·refine wpAny_bind (wpAny_pure ?_)
   simp only [↓reduceIte]
   refine setX_tail ?_ hob hex hd g1 nd1 m1 hb1 f1 r1 hled ?_
   ·intro b s₁ Z q;cases b <;> first | exact wpAny_pure q | exact wpAny_rule q
   ·intro h' sb r;dsimp only;exact wpAny_pure (fin h' sb r)
theorem oX {h:Heap} (ho:h.get? a=some {cls:= .type "set",dict:=none,data:= .set #[] 0 (.fresh 0 0 (!w.params.followText "set-order"))}):cV w h a (fun _=>false) 0:=
 ⟨_,#[],0,_,ho,⟨rfl,rfl,rfl⟩,rfl,(fun e he=>by simp at he),(by simp),(fun k=>by simp),(by decide),(by rfl),rfl,List.Pairwise.nil,by
  show _∨(!w.params.followText "set-order")=true
  cases w.params.followText "set-order"
  ·exact .inr rfl
  ·exact .inl rfl⟩
theorem setX_loop {I:Addr} {fp wr:List Addr} {G:Array GenState→Array GenState→Prop} {n:Nat} {Pv:Nat→Value→Prop} {St:Nat→Shared→Prop} {R:Result→Shared→Prop}
  (W:WalksS P w A.in1 I fp wr G n Pv St) (D:Addr) (hDf:D∉fp) (xs:List Str) (hn:n=xs.length) (hb:xs.length+1 < scanBound) (hval:∀i v,Pv i v→∃k t,xs[i]? =some k∧v= .str k t):
  ∀(k i:Nat) (s:Shared),n - i=k→i≤n→St i s→(∃c,c≤i∧cV w s.heap D (fun j=>decide (j∈xs.take i)) c)→
   (∀s' c,Moved (D::wr) G s s'→c≤n→cV w s'.heap D (fun j=>decide (j∈xs)) c→R (.ok (.ret .none)) s')→
   codeAny (model P w) A (.builtin "set.update.loop" ⟨[.ref D,.ref I],[]⟩) R s:=by
 have hDw:D∉wr:=fun z=>hDf (W.sub _ z)
 have hsub:∀b∈wr,b∈D::wr:=fun b z=>List.mem_cons_of_mem _ z
 intro k
 induction k with
 | zero=>
  intro i s hk' hi hst ⟨c,hc,hS⟩ hR
  obtain rfl:i=n:=by omega
  refine codeAny_builtin PyProof.Rows.F.entry_set_update_loop ?_
  rw [Around.under_plainId PyProof.Rows.F.plain_set_update_loop _]
  show wpAny _ A.in1 (pyNext (.ref I) >>=_) _ _ s
  refine wpAny_bind (W.done s _ _ hst fun s' hm=> ?_)
  show wpAny _ A.in1 (ret Value.none) _ _ s'
  rw [List.take_of_length_le (by omega:xs.length≤i)] at hS
  exact wpAny_pure (hR s' c (hm.mono hsub) hc (hS.at fun o e=>hm.heap D o hDw e))
 | succ k ih=>
  intro i s hk' hi hst ⟨c,hc,hS⟩ hR
  have hlt:i < n:=by omega
  refine codeAny_builtin PyProof.Rows.F.entry_set_update_loop ?_
  rw [Around.under_plainId PyProof.Rows.F.plain_set_update_loop _]
  show wpAny _ A.in1 (pyNext (.ref I) >>=_) _ _ s
  refine wpAny_bind (W.item i s _ _ hlt hst fun v s' hP hst' hm=> ?_)
  obtain ⟨z,t,hz,rfl⟩:=hval i v hP
  have hS':cV w s'.heap D (fun j=>decide (j∈xs.take i)) c:=hS.at fun o e=>hm.heap D o hDw e
  show wpAny _ A.in1 (holding [Value.str z t] (setAdd D (.str z t)) >>=_) _ _ s'
  refine wpAny_bind (wpAny_holding ?_)
  unfold setAdd
  refine wpAny_holding ?_
  refine wpAny_bind ((strKind P w).pyHash (k:=z) (Froz.is_str _ _) ?_)
  refine qW (s:={s' with toks:=s'.toks+1}) hS' (by omega) fun h' hsb hS2=> ?_
  have hS3:cV w h' D (fun j=>decide (j∈xs.take (i+1))) (if decide (z∈xs.take i)=true then c else c+1):=hS2.congr fun j=>by
   rw [List.take_add_one,hz]
   simp [List.mem_append]
  have hc3:(if decide (z∈xs.take i)=true then c else c+1)≤i+1:=by
   split <;> omega
  refine wpAny_pure ⟨plainId_quiet PyProof.Rows.F.plain_set_update_loop _,ih (i+1) _ (by omega) hlt (W.frame _ s' _ _ hst' (Nat.le_succ _) fun b hb o e=> ?_) ⟨_,hc3,hS3⟩ fun s'' c2 hm'' hc'' hS''=> ?_⟩
  ·rw [hsb.2 b (fun q:b=D=>hDf (by rw [←q];exact hb))];exact e
  ·refine hR s'' c2 (Moved.trans W.gtrans ((hm.mono hsub).then_heap (Nat.le_succ _) fun b o hb e=> ?_) hm'') hc'' hS''
   rw [hsb.2 b (fun q:b=D=>hb (by rw [q];exact List.mem_cons_self))];exact e
end
end DL
namespace DL
open PySem PySem.Spec PyProof.Rows L2

section
variable {X:Cx}
theorem dtSet {pins:List (Addr×Obj)} {σ:L2.St} {H:Hp} {s:Shared} {E:Value→Shared→Prop} {dd b:Addr} {kvs:List (List Key×V)} {k:List Key} {v:V} {r:Value} {Q:Unit→Shared→Prop} (hu:X.A.units < cLine) (I:Inv X pins σ H s) (hD:H dd=some (.dT kvs)) (hz:kvs.length < sizeLine)
  (hk:H b=some (.tup (k.map kV))) (rv:RelV v r) (h:∀s',Inv X pins σ (upd H dd (.dT (putK kvs k v))) s'→Q () s'):wpAny (model X.prog X.w) X.A (dictSet dd (.ref b) r) Q E s:=by
 obtain ⟨z,hd,xs,rel,ob⟩:=dt_of I.hok hD
 have hl:(putK kvs k v).length≤sizeLine:=by have:=length_putK kvs k v;omega
 have hxl:xs.length≤sizeLine:=by rw [←Paired.length rel];exact z
 refine wpAny_dictSet_heap (hsz:=hxl) (knd:=tupleKind (mixKind X.prog X.w)) hu (key_of I.hok hk) ob fun h' ob' hs=>h _ ?_
 obtain ⟨q,es,ep,g1,g2,g3,g4,_,g5⟩:=ob'
 refine d_write I (by rw [hD];exact True.intro) hs ⟨q,g1⟩ ⟨hl,hd,_,(rel.put k hk rv).keeps fun c ys ec=> ?_,q,es,ep,g1,g2,g3,g4,g5⟩
 rw [upd_ne (ne_of ec hD (fun z=>nomatch z))]
 exact ec
abbrev BX (X:Cx) (scope:Scope) (s:Shared) (H:Hp) (C:Addr) (cl:List (Str×Addr)) (fp:List Addr):Cx:=X.blk s H scope (compEnvC scope cl C X.env) fp
def tDcT (wi:TI) (g:TG) (tt:TT) (tk tv:TE) (vs:List Nat):TE:=fun σ H Q=>wi σ H fun J H1=> ∀dd,H1 dd=none→∃W:Nat→Nat→Hp→Prop,(∃m,W 0 m (upd H1 dd (.dT [])))∧∀i m H,W i m H→
 (J.stop i H∧Q (.ref dd) H)∨(J.go i H∧∃Nx:Hp→Prop,(∀H',Nx H'→∃m',m' < m∧W (i+1) m' H')∧∀x H',J.yld i H x H'→g x (wipe σ vs) H' fun σ2 H2=>wipe σ2 vs=wipe σ vs∧tt σ2 H2 fun b H3=>
  if b=true then tk σ2 H3 fun y H4=>tv σ2 H4 fun z H5=> ∃kvs k c,y= .ref c∧H5 c=some (.tup (k.map kV))∧H5 dd=some (.dT kvs)∧kvs.length < sizeLine∧Nx (upd H5 dd (.dT (putK kvs k z))) else Nx H3)
theorem dcT_core {pins:List (Addr×Obj)} {s:Shared} {σ:L2.St} {H:Hp} {Q:VK} {kx vx tg iter:Expr} {ifs:List Expr} {scope:Scope} {own:List (Str×Nat)} {pos pos':Pos} {wi:TI} {g:TG} {tt:TT} {tk tv:TE} {use:Option (Value→Sem Unit)} {Qf:Value→Shared→Prop}
  (hc:X.calm=true) (hu:X.A.units < cLine) (hN:X.N.Nodup) (I:Inv X pins σ H s) (hi:PI X tg iter wi) (ok:BlkOk X.N X.env.scope scope own)
  (hg:∀s H C cl fp,PG (BX X scope s H C cl fp) tg g) (ht:∀s H C cl fp,PTs (BX X scope s H C cl fp) ifs tt) (hk:∀s H C cl fp,PE (BX X scope s H C cl fp) kx tk) (he:∀s H C cl fp,PE (BX X scope s H C cl fp) vx tv) (hs:∀x,foldedSetIterable iter X.env x=pure x)
  (h:tDcT wi g tt tk tv (own.map (·.2)) σ H Q)
  (hfin:∀dd C s' m H',Inv X pins σ H' s'→Q (.ref dd) H'→s'.heap.Ns C m→FpOk X pins H' C→compPost (model X.prog X.w) X.A X.xe use Qf (.ref dd) C (.ok .next) s'):
  wpAny (model X.prog X.w) X.A (comprehension (.DictComp kx vx [⟨tg,iter,ifs,0⟩] scope pos) scope X.env pos' newDict false (eval iter X.env) use) Qf X.xe s:=by
 have cells:∀y∈scope.names,y.2= .free→∃c,X.env.cells.lookup y.1=some c:=fun y hy e=>by
  rcases ok.free y hy e with k | k
  ·exact I.ok.has _ (Or.inl k)
  ·exact I.ok.has _ (Or.inr k)
 refine wpAny_comprehension_free (use:=use) rfl hs (closure_ok cells) ok.kind (fun y hy e=>by rw [ok.uniq y hy,e]) (thn (hi.run pins s σ H _ I h) fun xv s1 hx=>thn hx fun itv s2 h2=> ?_)
 obtain ⟨it,fp,tn,J,H2,rfl,I2,T,st2,f2,q⟩:=h2
 refine wpAny_newObj_type (newEnv_comp ?_)
 generalize hDD:s2.heap.objs.size=dd
 have newD:H2 dd=none:=I2.hok.fresh (Nat.le_of_eq hDD)
 obtain ⟨W,⟨m0,w0⟩,turn⟩:=q dd newD
 generalize hs3:({s2 with heap:=s2.heap.push {cls:= .type "dict",data:= .dict #[]}}:Shared)=s3
 have I3:Inv X pins σ (upd H2 dd (.dT [])) s3:=by
  rw [←hs3]
  refine I2.laid (t':=s2.toks) (fun b o e=>Heap.get?_push_of_some _ e) (Nat.le_of_eq hDD) ?_
  rw [←hDD]
  exact dt_empty s2.heap I2.big
 have e3:s3.heap=s2.heap.push {cls:= .type "dict",data:= .dict #[]}:=by rw [←hs3]
 have f3:∀b∈fp,FpOk X pins (upd H2 dd (.dT [])) b∧b < s3.heap.objs.size:=fun b hb=>by
  obtain ⟨o,eo,_⟩:=T.obj _ _ st2 b hb
  have hlt:=Heap.lt_size eo
  refine ⟨⟨?_,(f2 b hb).2⟩,by rw [e3,Heap.size_push];exact Nat.lt_succ_of_lt hlt⟩
  rw [upd_ne (by rw [←hDD];exact Nat.ne_of_lt hlt)]
  exact (f2 b hb).1
 have st3:tn 0 s3.heap:=T.keep _ _ _ st2 fun b _ o e=>by rw [e3];exact Heap.get?_push_of_some _ e
 have I4:=block_start I3 ok hN f3
 generalize hcl:cellsFrom (s3.heap.objs.size+1) scope.names (cloFrom X.env.cells scope.names [])=cl at I4
 have pg:=hg s3 (upd H2 dd (.dT [])) s3.heap.objs.size cl fp
 have pt:=ht s3 (upd H2 dd (.dT [])) s3.heap.objs.size cl fp
 have pk:=hk s3 (upd H2 dd (.dT [])) s3.heap.objs.size cl fp
 have pe:=he s3 (upd H2 dd (.dT [])) s3.heap.objs.size cl fp
 unfold BX at pg pt pk pe
 show codeAny _ _ (.compStart (.DictComp kx vx [⟨tg,iter,ifs,0⟩] scope pos) 0 (.ref it) (.ref dd) (compEnvC scope cl s3.heap.objs.size X.env)) (compPost (model X.prog X.w) X.A X.xe use Qf (.ref dd) s3.heap.objs.size) {s3 with heap:=pushCells (s3.heap.push {cls:= .type "dict",data:= .dict #[]}) scope.names}
 have nfp:∀b∈fp,(upd H2 dd (.dT [])) b=none:=fun b hb=>(f3 b hb).1.1
 generalize hce:compEnvC scope cl s3.heap.objs.size X.env=ce at I4 pg pt pk pe ⊢
 have cL:ce.locals=s3.heap.objs.size:=by subst hce;rfl
 generalize hH3:upd H2 dd (.dT [])=H3 at I3 I4 pg pt pk pe w0 nfp f3
 generalize hs4:({s3 with heap:=pushCells (s3.heap.push {cls:= .type "dict",data:= .dict #[]}) scope.names}:Shared)=s4 at I4 ⊢
 have st4:tn 0 s4.heap:=T.keep _ _ _ st3 fun b _ o e=>by rw [←hs4];exact pushCells_keeps _ _ _ _ (Heap.get?_push_of_some _ e)
 let XB:Cx:=X.blk s3 H3 scope ce fp
 have stat:∀{σ':L2.St} {H':Hp} {s':Shared},Inv XB [] σ' H' s'→(∀b∈fp,H' b=none)→∀b∈fp,FpOk XB [] H' b:=fun {σ' H' s'} I' hn b hb=>
  ⟨hn b hb,(I'.ok.exf b hb).1,I'.ok.exfs b hb,.inl hb,fun x c e=>(I'.ok.exf b hb).2 x c e,fun p hp=>absurd (show p∈([]:List (Addr×Obj))++ [] from hp) (by simp)⟩
 have loop:codeAny (model X.prog X.w) X.A (.compLoop (.DictComp kx vx [⟨tg,iter,ifs,0⟩] scope pos) 0 (.ref it) (.ref dd) ce) (compPost (model X.prog X.w) X.A X.xe use Qf (.ref dd) s3.heap.objs.size) s4:=by
  refine compLoop_anyD (fun n s'=> ∃i H',Inv XB [] (wipe σ (own.map (·.2))) H' s'∧tn i s'.heap∧(∀b∈fp,H' b=none)∧W i n H') ?_ m0 ⟨0,H3,I4,st4,nfp,w0⟩
  rintro n s5 ⟨i,H5,I5,st5,n5,w5⟩
  rcases turn i n H5 w5 with ⟨stop,qq⟩ | ⟨go,Nx,hNx,step⟩
  ·have td:=T.done XB rfl rfl rfl hc i [] s5 _ H5 (fun _ _=>False) I5 (stat I5 n5) st5 stop
   refine thnF td fun r s6 ⟨hr,I6⟩=> ?_
   subst hr
   have back:Inv X pins σ H5 s6:=I3.call' (ch:=fp) I6.os I6.base I6.hok I6.bare fun b hb=>⟨(f3 b hb).1.2.2.2.1,(f3 b hb).1.2.1,(f3 b hb).1.2.2.2.2.1,(f3 b hb).1.2.2.2.2.2⟩
   have nC:H5 s3.heap.objs.size=none:=cL ▸(show H5 ce.locals=none from I6.free)
   obtain ⟨m,hn,_⟩:=I6.loc
   have hn:s6.heap.Ns s3.heap.objs.size m:=cL ▸(show s6.heap.Ns ce.locals m from hn)
   exact hfin dd s3.heap.objs.size s6 m H5 back qq hn (I3.fpOk (Nat.le_refl _) nC)
  ·have ti:=T.item XB rfl rfl rfl hc i [] s5 _ H5 (fun _ _=>False) I5 (stat I5 n5) st5 go
   refine thnF ti fun r s6 ⟨u,hr,h6⟩=> ?_
   subst hr
   refine thnF h6 fun _ s7 ⟨x,H7,I7,r7,y7,st7,n7⟩=> ?_
   refine thnF (pg.run _ s7 _ H7 x u _ (I7.pinned (stat I7 n7) (T.obj _ _ st7)) r7 (step x H7 y7)) fun _ s8 ⟨σ8,H8,I8,hw8,q8⟩=> ?_
   refine thnF (pt.run _ s8 σ8 H8 _ I8 q8) fun b s9 ⟨H9,I9,q9⟩=> ?_
   have fin:∀{s':Shared} {H':Hp},Inv XB ([]++pinsAt fp s7.heap) σ8 H' s'→Nx H'→∃m,m < n∧∃i H',Inv XB [] (wipe σ (own.map (·.2))) H' s'∧tn i s'.heap∧(∀b∈fp,H' b=none)∧W i m H':=fun {s' H'} I' nx=>by
    obtain ⟨m',hm,w'⟩:=hNx H' nx
    have pin':∀b∈fp,∀o,s7.heap.get? b=some o→s'.heap.get? b=some o∧H' b=none:=fun b hb o e=>
     let z:=I'.pin (b,o) (List.mem_append_right _ (List.mem_append_right _ (mem_pinsAt hb e)))
     ⟨z.1,z.2.1⟩
    have hl:(wipe σ (own.map (·.2))).length=σ8.length:=by rw [←hw8,wipe_length]
    refine ⟨m',hm,i+1,H',(I'.unpinned (pins:= [])).weak hl (fun j v e=>(wipe_some (hw8 ▸e)).1),T.keep _ _ _ st7 fun b hb o e=>(pin' b hb o e).1,fun b hb=> ?_,w'⟩
    obtain ⟨o,eo,_⟩:=T.obj _ _ st7 b hb
    exact (pin' b hb o eo).2
   cases b with
   | false=>exact fin I9 (by simpa using q9)
   | true=>
    simp only [if_true] at q9 ⊢
    refine thnF (pk.run _ s9 σ8 H9 _ I9 q9) fun z s10 ⟨yk,H10,I10,r10,q10⟩=> ?_
    refine thnF (pe.run _ s10 σ8 H10 _ I10 q10) fun z2 s11 ⟨yv,H11,I11,r11,kvs,k,c,ek,hk11,hD11,hz11,nx⟩=> ?_
    subst ek
    obtain rfl:z=Value.ref c:=r10
    exact dtSet (X:=XB) hu I11 hD11 hz11 hk11 r11 fun s12 I12=>fin I12 nx
 exact codeAny_compStart_dict loop (T.self X.A 0 _ _ _ st4 loop)
theorem pe_dcT {kx vx tg iter:Expr} {ifs:List Expr} {scope:Scope} {own:List (Str×Nat)} {pos:Pos} {wi:TI} {g:TG} {tt:TT} {tk tv:TE} (hc:X.calm=true) (hu:X.A.units < cLine) (hN:X.N.Nodup) (hi:PI X tg iter wi) (ok:BlkOk X.N X.env.scope scope own)
  (hg:∀s H C cl fp,PG (BX X scope s H C cl fp) tg g) (ht:∀s H C cl fp,PTs (BX X scope s H C cl fp) ifs tt) (hk:∀s H C cl fp,PE (BX X scope s H C cl fp) kx tk) (he:∀s H C cl fp,PE (BX X scope s H C cl fp) vx tv) (hs:∀x,foldedSetIterable iter X.env x=pure x):
  PE X (.DictComp kx vx [⟨tg,iter,ifs,0⟩] scope pos) (tDcT wi g tt tk tv (own.map (·.2))):=by
 refine ⟨fun pins s σ H Q I h=> ?_⟩
 rw [arm_eval_DictComp]
 refine dcT_core hc hu hN I hi ok hg ht hk he hs h fun dd C s' m H' I' q hn f=>⟨m,hn,fun h'' sb=> ?_⟩
 obtain ⟨f0,f1,f2,f3,f4,f5⟩:=f
 exact ⟨.ref dd,H',I'.turned (t':=s'.toks) (fun b o hb e=>(sb.2 b hb).trans e) f0 f1 f3 f4 f5,rfl,q⟩
end
end DL
namespace DL
open PySem PySem.Spec PyProof.Rows L2
theorem aAQ {k:Nat} {A:Around} (r:Room k A):A.units+100 < cLine:=by have:=r.un;omega
theorem u64 {k:Nat} {A:Around} (r:Room k A):A.units+64 < cLine:=by have:=r.un;omega
theorem u1 {k:Nat} {A:Around} (r:Room k A):A.units+1 < cLine:=by have:=r.un;omega
theorem kD_ok {K:PySem.W.Frag} {F:Fz} {H:Hp} {v:V} {k:List Key} (r:Rep K F H v (kD k)):KOk k:=by
 refine ⟨?_,fun x hx=> ?_⟩
 ·have:=r.bnd
  have e:(k.map keyD).length≤sizeLine:=this
  rwa [List.length_map] at e
 ·obtain ⟨b,vs,rfl,hb,ra⟩:=Rep.tupE (show Rep K F H v (.tup (k.map keyD)) from r)
  obtain ⟨i,hi⟩:=List.getElem?_of_mem hx
  obtain ⟨v,_,rv⟩:=ra.get (show (k.map keyD)[i]? =some (.str x) by rw [List.getElem?_map,hi];rfl)
  exact rv.bnd
theorem putD_mem {kds:List (List Key×D)} {k:List Key} {d:D} {q:List Key×D} (h:q∈putD kds k d):q.1=k∨∃p∈kds,p.1=q.1:=by
 unfold putD at h
 split at h
 ·obtain ⟨p,hp,e⟩:=List.mem_map.mp h
  split at e
  ·rename_i e2
   exact .inl (by rw [←e];exact e2)
  ·exact .inr ⟨p,hp,by rw [e]⟩
 ·rcases List.mem_append.mp h with h | h
  ·exact .inr ⟨q,h,rfl⟩
  ·rw [List.mem_singleton] at h
   exact .inl (by rw [h])
theorem putD_ok {kds:List (List Key×D)} {k:List Key} {d:D} (h:∀q∈kds,KOk q.1) (hk:KOk k):∀q∈putD kds k d,KOk q.1:=fun q hq=>by
 rcases putD_mem hq with e | ⟨p,hp,e⟩
 ·rw [e];exact hk
 ·rw [←e];exact h p hp
section
variable {C:Ctx} {Γ:Gm} {L:Lp} {e a b c o tg:Expr} {es ts:List Expr} {pos p1 p2:Pos} {Q:D→Lp→Prop} {E:AEnds}
theorem Stay.dct {H:Hp} {p:Addr} {xs:List (List Key×V)} {o:HO} (h:H p=some (.dT xs)):Stay H (upd H p o):=
 ⟨fun a vs e=>by rw [upd_ne (fun q=>by rw [q,h] at e;cases e)];exact e,fun a ob u e=>by rw [upd_ne (fun q=>by rw [q,h] at e;cases e)];exact e,fun a e=>by rw [upd_ne (fun q=>by rw [q,h] at e;cases e)];exact e⟩
theorem ae_dcT (own:List (Str×Nat)) {scope:Scope} {kx vx iter:Expr} (hu:C.X.A.units < cLine)
  (h:AI C tg iter Γ L fun ds G L1=> ∃I:Nat→List (List Key×D)→Lp→Prop,I 0 [] L1∧(∀i acc L2,I i acc L2→G L2)∧
   (∀i d acc L2,ds[i]? =some d→I i acc L2→∃Γ3 ws,(∀j∈ws,j∈own.map (·.2))∧∀s H Cc cl fp,AG (dH C scope s H Cc cl fp) tg d (dN Γ (own.map (·.2))) Γ3 ws∧
    AE (dH C scope s H Cc cl fp) kx Γ3 L2 fun y L3=> ∃k,y=kD k∧∀s H Cc cl fp,AE (dH C scope s H Cc cl fp) vx Γ3 L3 fun z L4=>acc.length < sizeLine∧I (i+1) (putD acc k z) L4)∧
   ∀acc L2,I ds.length acc L2→∀p,L2 p=none→Q (.ptr p) (put L2 p (.dct acc)))
  (ok:BlkOk C.X.N C.X.env.scope scope own:=by (dsimp only [vA,dH,cxOf,envOfC,compEnvC,Cx.blk];exact blkOk_by (by decide+kernel))) (hs:∀x,foldedSetIterable iter C.X.env x=pure x:=by intro _;rfl):AE C (.DictComp kx vx [⟨tg,iter,[],0⟩] scope pos) Γ L Q:=fun F σ H okk QV go=>by
 refine dO (pe_dcT (wi:=WI C.X tg iter) (g:=gB C scope tg) (tt:=ttB C scope []) (tk:=teB C scope kx) (tv:=teB C scope vx) C.calm hu C.nd xV ok (fun s H0 Cc cl fp=>⟨fun pins s1 σ1 H1 v u Q1 I r q=>(q s H0 Cc cl fp).run pins s1 u I r⟩) (fun s H0 Cc cl fp=>⟨fun pins s1 σ1 H1 Q1 I q=>(q s H0 Cc cl fp).run pins s1 I⟩) (fun s H0 Cc cl fp=>⟨fun pins s1 σ1 H1 Q1 I q=>(q s H0 Cc cl fp).run pins s1 I⟩) (fun s H0 Cc cl fp=>⟨fun pins s1 σ1 H1 Q1 I q=>(q s H0 Cc cl fp).run pins s1 I⟩) hs) ?_
 refine h _ σ H okk _ fun {F1} J H1 L1 ds G c1 f1 it ⟨I,i0,hG,hb,hd⟩=> ?_
 intro dd hD
 have f1D:=c1.nf hD
 refine ⟨fun i m H2=>m=ds.length - i∧i≤ds.length∧∃L2 F2 acc vacc,C.Con L2 F2 H2∧Fr L1 F1 H1 L2 F2 H2∧L2 dd=none∧¬F2 dd∧H2 dd=some (.dT vacc)∧KDs C.X.K F2 H2 vacc acc∧(∀q∈acc,KOk q.1)∧I i acc L2,⟨ds.length,by simp,Nat.zero_le _,L1,F1,[],[],c1.new hD,.new hD,c1.free hD,f1D,upd_same,.nil,(fun q hq=>nomatch hq),i0⟩,?_⟩
 rintro i m H2 ⟨rfl,hi,L2,F2,acc,vacc,c2,f2,lD,fD,hD2,ra,hks,i2⟩
 obtain ⟨k1,k2,k3⟩:=it i H2 L2 f2 c2 (hG i acc L2 i2)
 by_cases hlt:i < ds.length
 ·refine .inr ⟨k1 hlt,fun H3=> ∃L2 F2 acc vacc,C.Con L2 F2 H3∧Fr L1 F1 H1 L2 F2 H3∧L2 dd=none∧¬F2 dd∧H3 dd=some (.dT vacc)∧KDs C.X.K F2 H3 vacc acc∧(∀q∈acc,KOk q.1)∧I (i+1) acc L2,fun H3 hN=>⟨ds.length - (i+1),by omega,rfl,hlt,hN⟩,fun x H' y=> ?_⟩
  obtain ⟨d,hd2,rd,hH⟩:=k3 x H' y hlt
  have fH:Fr L2 F2 H2 L2 F2 H':=by
   rcases hH with e | ⟨T,vs,nT,e⟩
   ·rw [e];exact .refl L2 H2
   ·rw [e];exact .new nT
  have cH:C.Con L2 F2 H':=by
   rcases hH with e | ⟨T,vs,nT,e⟩
   ·rw [e];exact c2
   ·rw [e];exact c2.new nT
  obtain ⟨_,_,hD3⟩:=fH.hid hD2 (fun _ z=>nomatch z) lD fD
  have slw:Sl C.X.K F2 H' (wipe σ (own.map (·.2))) (dN Γ (own.map (·.2))):=(okk.sl.mono ((f1.trans f2).trans fH).mv).wipe _
  obtain ⟨Γ3,ws,hws,hbody⟩:=hb i d acc L2 hd2 i2
  intro s0 H0 Cc cl fp
  refine (hbody s0 H0 Cc cl fp).1 _ _ H' x slw rd _ fun σ3 sl3 but=>⟨But.wiped but hws,?_⟩
  intro s1 H01 Cc1 cl1 fp1
  refine pM (C:=dH C scope s1 H01 Cc1 cl1 fp1) (Γ:=Γ3) (L:=L2) (Q:=fun b L3=>b=true∧L3=L2) ⟨rfl,rfl⟩ _ σ3 H' ⟨sl3,cH,⟨fun _ _ _ _ _ _ _ _ _ _ _ z=>z.elim,True.intro⟩⟩ _ fun b H3 L3 c3 f3 ⟨eb,el⟩=> ?_
  subst eb el
  rw [if_pos rfl]
  obtain ⟨_,fD3,hD4⟩:=f3.hid hD3 (fun _ z=>nomatch z) lD fD
  intro s2 H02 Cc2 cl2 fp2
  refine (hbody s2 H02 Cc2 cl2 fp2).2 _ σ3 H3 ⟨sl3.mono f3.mv,c3,⟨fun _ _ _ _ _ _ _ _ _ _ _ z=>z.elim,True.intro⟩⟩ _ fun yv y H4 L4 r4 c4 f4 ⟨k,ek,q4⟩=> ?_
  subst ek
  obtain ⟨lD4,fD4,hD5⟩:=f4.hid hD4 (fun _ z=>nomatch z) lD fD3
  intro s3 H03 Cc3 cl3 fp3
  refine q4 s3 H03 Cc3 cl3 fp3 _ σ3 H4 ⟨(sl3.mono f3.mv).mono f4.mv,c4,⟨fun _ _ _ _ _ _ _ _ _ _ _ z=>z.elim,True.intro⟩⟩ _ fun zv z H5 L5 r5 c5 f5 ⟨hz,q5⟩=> ?_
  obtain ⟨lD5,fD5,hD6⟩:=f5.hid hD5 (fun _ z=>nomatch z) lD4 fD4
  obtain ⟨b,rfl,hb4⟩:=aAC r4
  have ra5:=KDs.mono f5.mv (KDs.mono f4.mv (KDs.mono f3.mv (KDs.mono fH.mv ra)))
  have st:Stay H5 (upd H5 dd (.dT (putK vacc k zv))):= .dct hD6
  have f6:=((((f2.trans fH).trans f3).trans f4).trans f5)
  exact ⟨vacc,k,b,rfl,f5.stay.tup _ _ hb4,hD6,by rw [Paired.length ra5];exact hz,L5,_,putD acc k z,putK vacc k zv,c5.hid st lD5 fD5,f6.hidw hD f1D st,lD5,fD5,upd_same,KDs.mono (.hid st fD5) (KDs.put ra5 k r5),putD_ok hks (kD_ok r4),q5⟩
 ·have e:i=ds.length:=by omega
  exact .inl ⟨k2 e,go _ _ H2 (put L2 dd (.dct acc)) (.ptr dd) (c2.shw fD ⟨vacc,hD2,ra,hks⟩) ((f1.trans f2).shw (f1.nul hD)) (hd acc L2 (by rw [←e];exact i2) dd lD)⟩
end
end DL
namespace DL
open PySem PySem.Spec PyProof.Rows L2
section
variable {X:Cx}
def aAg (i j:Int):Prop:=0≤j∧(Builtin.Int.intBits i:Int)*j≤2 ^ 27
theorem op_powX:OpR X (binaryOp .Pow) (rI aAg fun i j=> .int (i ^ j.toNat)):=opI fun _ _ _ _ _ _ _ hc q=>pow_int hc.1 hc.2 q
end
section
variable {C:Ctx} {Γ:Gm} {L:Lp} {Q:D→Lp→Prop}
theorem r_powX {i j:Int} (h:aAg i j) (q:Q (.int (i ^ j.toNat)) L):L2R C (rI aAg fun i j=> .int (i ^ j.toNat)) (.int i) (.int j) L Q:=r_I (g':=fun i j=> .int (i ^ j.toNat)) h (fun _=> .int _) q
end
theorem big_ok:aAg ((10:Int) ^ (60:Int).toNat) 5:=by
 refine ⟨by decide,?_⟩
 decide+kernel
end DL
namespace DL
open PySem PySem.Spec PyProof.Rows L2
abbrev fO (w:World):Obj:={cls:= .type "set",dict:=none,data:= .set #[] 0 (.fresh 0 0 (!w.params.followText "set-order"))}
section
variable {P:Program} {w:World} {A:Around} {E:Value→Shared→Prop} {s:Shared}
set_option maxHeartbeats 3200000 in
theorem call_set_via {T:String} {l:Addr} {o:Obj} {Q:Value→Shared→Prop} (Pz:Heap→Prop) (hol:s.heap.get? l=some o) (hcl:o.cls= .type T) (k_6:isSubtype (.type T) (.type "set")=pure false) (k_7:isSubtype (.type T) (.type "frozenset")=pure false) (k_8:(Value.type T==Value.type "dict")=false)
  (body:∀(R:Result→Shared→Prop) (E1:Value→Shared→Prop),(∀s':Shared,s'.gens=s.gens→s'.drawn=s.drawn→s'.os=s.os→Pz s'.heap→R (.ok (.ret .none)) s')→
   wpAny (model P w) A.in1.in1 (pyIter (.ref l)) (fun it s2=>codeAny (model P w) A.in1.in1 (.builtin "set.update.loop" ⟨[.ref s.heap.objs.size,it],[]⟩) R s2) E1 {s with heap:=s.heap.push (fO w)})
  (h:∀(h':Heap) (tk:Nat),Pz h'→Q (.ref s.heap.objs.size) {s with heap:=h',toks:=tk}):wpAny (model P w) A (call (.type "set") [.ref l]) Q E s:=by
 obtain ⟨c0,tl,hmro⟩:=PySem.F.called_set.mro
 have k_made:=PySem.F.called_set.made
 have k_sub:=PySem.F.called_set.sub
 refine wpAny_call (codeAny_of_tree ?_)
 show wpAny _ _ (callAny (.type "set") _) _ _ _
 refine wpAny_pure ⟨Code.quiet_builtin _ (by decide+kernel),codeAny_builtin PySem.F.entry_type_call ?_⟩
 rw [Around.under_plain (weight_type_call_type "set" [.ref l] []) rfl]
 have k_1:=PySem.F.called_set.notType
 have k_2:=PySem.F.called_set.canCreate
 have k_3:=PySem.F.typeCall_set_1 (.ref l)
 repeat (any_goals (first | assumption | wp_step))
 refine codeAny_mono (code_set_led1 (.ref l) (E:=E) (Q₁:=fun ob s₁=>ob= .ref s.heap.objs.size∧s₁={s with heap:=s.heap.push (fO w)}) ⟨rfl,rfl⟩) fun r s₁ hr=> ?_
 cases r with
 | error e=>exact hr
 | ok fl=>
  cases fl with
  | ret ob=>
   obtain ⟨rfl,rfl⟩:=hr
   have hS:(s.heap.push (fO w)).get? s.heap.objs.size=some (fO w):=Heap.get?_push_size _ rfl
   have hT:Shared.TypeIs {s with heap:=s.heap.push (fO w)} (.ref s.heap.objs.size) "set" :=⟨_,hS,rfl⟩
   have k_4:=PySem.F.called_set.init.lookup
   have k_5:=PySem.F.called_set.init.bind (.ref s.heap.objs.size)
   repeat (any_goals (first | assumption | wp_step))
   refine codeAny_mono (codeAny_call_builtin (R:=wants (fun r s₂=>r= .none∧∃h' tk,s₂={s with heap:=h',toks:=tk}∧Pz h') E) PySem.F.called_set.init.plain PySem.F.entry_set_init (check_set_init_1 hT ?_)) fun r₂ s₂ hr₂=> ?_
   ·obtain ⟨ocls,odict,odata,oslots⟩:=o
    simp only at hcl
    subst hcl
    have hol':(s.heap.push (fO w)).get? l=some {cls:= .type T,dict:=odict,data:=odata,slots:=oslots}:=Heap.get?_push_of_some _ hol
    unfold Builtin.«set.__init__» noKeywords Builtin.Frozenset.updateFrom
    generalize hPI:pyIter=PI
    wp_walk
    subst hPI
    refine wpAny_mono (body (fun r s'=>match r with | .ok (.ret v)=>v= .none∧∃h' tk,s'={s with heap:=h',toks:=tk}∧Pz h' | .ok _=>False | .error e=>False) (fun _ _=>False) fun s' g1 g2 g3 hz=> ?_) (fun it s2 hc=> ?_) fun _ _ z=>z.elim
    ·obtain ⟨h',g',d',tk',os'⟩:=s'
     dsimp only at g1 g2 g3 hz
     subst g1 g2 g3
     exact ⟨rfl,h',tk',rfl,hz⟩
    ·refine wpAny_bind (wpAny_runValue (codeAny_mono hc fun r s' hr=> ?_))
     cases r with
     | error e=>exact hr.elim
     | ok fl=>
      cases fl with
      | ret v=>
       obtain ⟨rfl,h',tk,rfl,hz⟩:=hr
       show wpAny _ _ _ _ _ _
       refine wpAny_pure ?_
       show wpAny _ _ (ret Value.none) _ _ _
       exact wpAny_pure ⟨rfl,h',tk,rfl,hz⟩
      | _=>exact hr.elim
   ·cases r₂ with
    | error e=>exact hr₂
    | ok fl₂=>
     cases fl₂ with
     | ret r=>
      obtain ⟨rfl,h',tk,rfl,hz⟩:=hr₂
      repeat (any_goals (first | assumption | wp_step))
      exact h _ _ hz
     | _=>exact hr₂.elim
  | _=>exact hr.elim
end
end DL
namespace DL
open PySem PySem.Spec PyProof.Rows L2
section
variable {P:Program} {w:World} {A:Around} {E:Value→Shared→Prop} {s:Shared}

end
end DL
namespace DL
open PySem PySem.Spec PyProof.Rows L2
def yF (ys:List Str):Prop:=ys.Pairwise fun a b=>a.cps.toList < b.cps.toList
theorem qH {P:Program} {w:World} {H:Hp} {h:Heap} {a:Addr} {S:Str→Bool} {n:Nat} (R:cV w h a S n):ObjOk P w H h a (.ext fun h=>cV w h a S n):=by
 have ⟨o,es,ep,t,ho,r⟩:=R
 exact ⟨R,⟨o,ho⟩,fun h1 h2 p k=>cV.at p k⟩
theorem strs_vals:∀{us:List Value} {xs:List Str},Vals (xs.map V.str) us→StrsAre us xs
 | _,[],.nil=> .nil
 | _,x::xs,.cons r t=>by
  obtain ⟨tk,rfl⟩:=r
  exact .cons x tk (strs_vals t)
section
variable {X:Cx}
theorem rise_of:∀{l:List Str},l.Pairwise (fun a b=>decide (a.cps.toList≤b.cps.toList)=true)→l.Nodup→yF l
 | [],_,_=>List.Pairwise.nil
 | x::l,h,d=>by
  obtain ⟨h1,h2⟩:=List.pairwise_cons.mp h
  obtain ⟨d1,d2⟩:=List.nodup_cons.mp d
  refine List.pairwise_cons.mpr ⟨fun y hy=> ?_,rise_of h2 d2⟩
  have e1:=of_decide_eq_true (h1 y hy)
  rcases List.le_iff_lt_or_eq.mp e1 with z | z
  ·exact z
  ·exact absurd (PySem.W.str_of_cps z ▸hy) d1
theorem txs_of:∀(w:World) (l:List Value),(∀v∈l,∃k tk,v=Value.str k tk)→∃bs:List Str,Paired (fun v x=> ∃tk,v=Value.str x tk) l bs
 | _,[],_=>⟨[],.nil⟩
 | w,v::l,h=>by
  obtain ⟨k,tk,rfl⟩:=h v List.mem_cons_self
  obtain ⟨bs,hb⟩:=txs_of w l fun u hu=>h u (List.mem_cons_of_mem _ hu)
  exact ⟨k::bs,.cons ⟨tk,rfl⟩ hb⟩
theorem paired_tx:∀{l:List Value} {bs:List Str},Paired (fun v x=> ∃tk,v=Value.str x tk) l bs→bs=l.map fun v=>txOf (0,v)
 | _,_,.nil=>rfl
 | _,_,.cons h t=>by
  obtain ⟨tk,rfl⟩:=h
  rw [List.map_cons,←paired_tx t]
  rfl
theorem paired_vals:∀{l:List Value} {bs:List Str},Paired (fun v x=> ∃tk,v=Value.str x tk) l bs→Vals (bs.map V.str) l
 | _,_,.nil=> .nil
 | _,_,.cons ⟨tk,h⟩ t=> .cons ⟨tk,h⟩ (paired_vals t)
abbrev rSortX (w:World):List V→Hp→VK→Prop:=fun vs H Q=> ∃(a:Addr) (S:Str→Bool) (n:Nat),vs= [.ref a]∧H a=some (.ext fun h=>cV w h a S n)∧
 ∀p ys,H p=none→yF ys→(∀k,k∈ys↔S k=true)→ys.length=n→Q (.ref p) (upd H p (.lst (ys.map V.str)))
theorem cr_sortX (hc:X.calm=true) (hu:X.A.units+100 < cLine):CallR X (.builtin "sorted") (rSortX X.w):=fun pins s σ H vs us Q I r ⟨a,S,n,ev,ha,q⟩=>by
 subst ev
 obtain ⟨u,rfl,ru⟩:=vals1 r
 obtain rfl:u=Value.ref a:=ru
 obtain ⟨ob,es,ep,tb,hob,hex,hd,g,nd,hm,hb,hf,hn,hr,hl⟩:cV X.w s.heap a S n:=(I.hok a _ ha).1
 refine PySem.Calls.call_function_entry PyProof.Rows.kind_sorted PyProof.Rows.plain_sorted PyProof.Rows.entry_sorted (PyProof.Rows.args_sorted1 _) ?_
 unfold Builtin.«sorted»
 refine wpAny_bind (m:=checkCount "sorted" 1 1 _) (wpAny_pure ?_)
 refine wpAny_bind (L2.collect_set (A:=X.A.in1) (I.ok.hd hc) ⟨ob,hob,hex.1,hd⟩ hf hb hr hl fun s1 vs k1 hz g1 o1 pm=> ?_)
 obtain ⟨bs,hbs⟩:=txs_of X.w vs fun v hv=>by
  obtain ⟨e,he,qq⟩:=List.mem_map.mp (pm.mem_iff.mp hv)
  obtain ⟨k,tk,e1,_⟩:=g e he
  exact ⟨k,tk,by rw [←qq];exact e1⟩
 have pk:bs.Perm (es.toList.map txOf):=by
  rw [paired_tx hbs]
  have e:=pm.map fun v=>txOf (0,v)
  rw [List.map_map] at e
  exact e
 have hvl:bs.length=n:=by rw [pk.length_eq,List.length_map,Array.length_toList];exact hn
 have hvl2:vs.length=n:=by rw [Paired.length hbs];exact hvl
 have hlz:n≤sizeLine:=by rw [←hn];exact fits_of_scanBound hb
 refine wpAny_bind (wpAny_newList ?_ (by rw [hvl2];exact hlz))
 have hoL:(s1.heap.push (seqObj "list" vs.toArray 0)).get? s1.heap.objs.size=some (seqObj "list" vs.toArray 0):=Heap.get?_push_size _ rfl
 have er:PySem.W.EachIs (fun v (x:Str)=> ∃as,Reads (s1.heap.push (seqObj "list" vs.toArray 0)) v (PyData.str x) as∧s1.heap.objs.size∉as) vs bs:=by
  refine iV (Paired.mono hbs fun v x zz=> ?_)
  obtain ⟨tk,rfl⟩:=zz
  exact ⟨[],.str x tk,by simp⟩
 have hal:PySem.W.AllAlike (bs.map PyData.str):=fun d hd d' hd'=>by
  obtain ⟨x,_,rfl⟩:=List.mem_map.mp hd
  obtain ⟨y,_,rfl⟩:=List.mem_map.mp hd'
  rfl
 have hso:PySem.W.Sortable (bs.map PyData.str):= .inr fun d hd=>by
  obtain ⟨x,_,rfl⟩:=List.mem_map.mp hd
  exact ⟨fun z=>(nomatch z),fun _ z=>(nomatch z)⟩
 have hdeep:∀b∈bs,X.A.in1.units+1+(PyData.str b).depth < cLine:=fun b hb=>by
  have hdep:(PyData.str b).depth≤1:=by first | exact Nat.le_refl _ | exact Nat.zero_le _ | simp [PyData.depth]
  show X.A.units+1+1+_ < _
  omega
 show wpAny _ _ _ _ _ {s1 with heap:=s1.heap.push (seqObj "list" vs.toArray 0)}
 refine wpAny_bind (wpAny_holding (PySem.W.list_sort_data (s:={s1 with heap:=s1.heap.push (seqObj "list" vs.toArray 0)}) (R:=fun v x=> ∃tk,v=Value.str x tk) (enc:=PyData.str) (bs:=bs) (n:=0) hoL (iV hbs) er hal hso (by rw [hvl];exact hlz)
  hdeep fun out hlo hout=> ?_))
 obtain ⟨e',he'⟩:=PyProof.Rows.sortedHeap_at (vs:=vs) (out:=List.toArray out) hoL
 have hp:=mV hout
 have pms:=List.mergeSort_perm bs (PySem.W.dataLe false PyData.str)
 have rise:yF (bs.mergeSort (PySem.W.dataLe false PyData.str)):=by
  refine rise_of ?_ ((pms.trans pk).nodup_iff.mpr nd)
  have e:PySem.W.dataLe false PyData.str=fun a b:Str=>decide (a.cps.toList≤b.cps.toList):=PySem.W.dataLe_str id
  rw [e]
  refine List.pairwise_mergeSort ?_ ?_ bs
  ·intro a b c h1 h2
   exact decide_eq_true (List.le_trans (of_decide_eq_true h1) (of_decide_eq_true h2))
  ·intro a b
   rcases List.le_total a.cps.toList b.cps.toList with z | z <;> simp [z]
 have hlen:(bs.mergeSort (PySem.W.dataLe false PyData.str)).length=n:=by rw [List.length_mergeSort];exact hvl
 have hnew:H s1.heap.objs.size=none:=I.hok.fresh hz
 have key:∀h',(∀b u,s1.heap.get? b=some u→h'.get? b=some u)→h'.get? s1.heap.objs.size=some (seqObj "list" (List.toArray out) e')→
   EP X pins σ Q (.ref s1.heap.objs.size) {s1 with heap:=h'}:=fun h' kk hg=>by
  have J:Inv X pins σ (upd H s1.heap.objs.size (.lst ((bs.mergeSort (PySem.W.dataLe false PyData.str)).map V.str))) {s with heap:=h',gens:=s1.gens,drawn:=s1.drawn,toks:=s1.toks}:=
   I.call (ch:= []) (Un.laid (fun b u e=>kk b u (k1 b u e)) hz hnew) (I.hok.laid (fun b u e=>kk b u (k1 b u e)) hz ⟨by rw [List.length_map,hlen];exact hlz,out,e',paired_vals hp,by simpa using hg⟩) (by rw [g1];exact I.bare) (fun _ z=>nomatch z)
  have e:({s1 with heap:=h'}:Shared)={s with heap:=h',gens:=s1.gens,drawn:=s1.drawn,toks:=s1.toks}:=by
   cases s1
   cases s
   cases o1
   rfl
  rw [e]
  exact ⟨.ref s1.heap.objs.size,_,J,rfl,q _ _ hnew rise (fun k=>by rw [(pms.trans pk).mem_iff];exact (hm k).symm) hlen⟩
 refine wpAny_pure ⟨_,rfl,key _ (fun b u eb=> ?_) he'⟩
 have hb':b < s1.heap.objs.size:=Heap.lt_size eb
 rw [PyProof.Rows.sortedHeap_old (Nat.ne_of_lt hb') (by rw [size_push'];exact Nat.lt_succ_of_lt hb')]
 exact Heap.get?_push_of_some _ eb
end
section
variable {C:Ctx} {Γ:Gm} {L:Lp} {Q:D→Lp→Prop}
theorem reps_ofS {K:PySem.W.Frag} {F:Fz} {H:Hp}:∀{xs:List Str},(∀x∈xs,SOk x)→bG K F H (xs.map V.str) (xs.map D.str)
 | [],_=> .nil
 | x::xs,h=> .cons (.str x (h x List.mem_cons_self)) (reps_ofS fun y hy=>h y (List.mem_cons_of_mem _ hy))
theorem c_sortX {p:Addr} {S:Str→Bool} {n:Nat} (hp:L p=some (.txs S n)) (hn:n≤sizeLine) (q:∀l ys,L l=none→yF ys→(∀k,k∈ys↔S k=true)→ys.length=n→Q (.ptr l) (put L l (.lst (ys.map D.str)))):LcR C (rSortX C.X.w) [.ptr p] L Q:=fun F vs H c r0 QV go=>by
 obtain ⟨v,rfl,r⟩:=r0.oneE
 obtain ⟨ha,hs⟩:=c.at_ p _ hp
 refine ⟨p,S,n,by rw [r.ptrE],ha,fun l ys hl h1 h2 h3=>go _ _ _ (put L l (.lst (ys.map D.str))) (.ptr l) (c.newL hl ⟨_,upd_same,reps_ofS fun x hx=>hs x ((h2 x).1 hx),by rw [List.length_map,h3];exact hn⟩) (.newL hl) (q l ys (c.free hl) h1 h2 h3)⟩
end
end DL
namespace DL
open PySem PySem.Spec PyProof.Rows L2

def putF (i:Nat) (d:D) (fs:List (Option D)):List (Option D):=(fs++List.replicate (i+1 - fs.length) none).set i (some d)
theorem putF_get (i:Nat) (d:D) (fs:List (Option D)):(putF i d fs)[i]? =some (some d):=by
 unfold putF
 exact List.getElem?_set_self (by simp only [List.length_append,List.length_replicate];omega)
theorem putF_ne {i j:Nat} {d x:D} {fs:List (Option D)} (h:j≠i):(putF i d fs)[j]? =some (some x)↔fs[j]? =some (some x):=by
 unfold putF
 rw [List.getElem?_set_ne (Ne.symm h)]
 by_cases hj:j < fs.length
 ·rw [List.getElem?_append_left hj]
 ·rw [List.getElem?_eq_none_iff.mpr (by omega:fs.length≤j),List.getElem?_append_right (by omega),List.getElem?_replicate]
  constructor
  ·intro q
   split at q <;> cases q
  ·intro q
   cases q
theorem wU.put {K:PySem.W.Frag} {F:Fz} {H:Hp} {vs:List (Option V)} {fs:List (Option D)} (r:wU K F H vs fs) (i:Nat) {v:V} {d:D} (rv:Rep K F H v d):wU K F H (SlX.putS i v vs) (putF i d fs):=by
 intro j x hx
 by_cases hj:j=i
 ·subst hj
  rw [putF_get] at hx
  cases hx
  exact ⟨v,SlX.putS_get j v vs,rv⟩
 ·obtain ⟨u,e,r'⟩:=r j x ((putF_ne hj).mp hx)
  exact ⟨u,(SlX.putS_ne hj).mpr e,r'⟩
section
variable {X:Cx} {o value:Expr} {f:Str} {pos pos':Pos} {ta tv:TE}
def sSl2 (K:PySem.W.Frag) (ta tv:TE) (f:Str):TS:=fun D σ H=>tv σ H fun y H1=>ta σ H1 fun x H2=> ∃a C dx p vs i,x= .ref a∧SlX.Slt H2 a C dx vs∧SlX.SCls K C∧SlX.Slot1 K C f p i∧(dx≠a→(H2 dx=some (.own a)∨H2 dx=some (.xd []))→D.nx σ (SlX.slH H2 a C dx (SlX.putS i y vs)))
theorem ps_sl2 (ha:PE X o ta) (hv:PE X value tv) (hs:swapsWith value (some (.Attribute o f pos')) pos.line X.env=pure false:=by rfl):PS X (.Assign [.Attribute o f pos'] value pos) (sSl2 X.K ta tv f):=by
 refine ⟨fun pins s σ H D I h=> ?_⟩
 refine plainObj_wpAny_Assign_Attribute (thn (hv.run pins s σ H _ I h) fun u s1 ⟨y,H1,I1,ry,q⟩=>thn (ha.run pins s1 σ H1 _ I1 q) fun ov s2 ⟨x,H2,I2,rx,a,C,dx,p,vs,i,ex,sl,c,t,q2⟩=> ?_) hs
 subst ex
 obtain rfl:ov=Value.ref a:=rx
 have kn:H2 dx=some (.own a)∨H2 dx=some (.xd []):=by
  rcases sl with ⟨h1,_⟩ | ⟨_,h2⟩
  ·obtain ⟨_,_,_,_,_,ho⟩:=ins_get I2.hok h1
   exact .inl ho
  ·exact .inr h2
 exact SlX.setslot_ok I2 sl c t ry fun s3 I3=>⟨σ,_,I3,q2 (SlX.slt_at I2 sl).1 kn⟩
end
section
variable {C:Ctx} {Γ:Gm} {L:Lp} {e o fe value:Expr} {es:List Expr} {pos p pos' apos np:Pos} {Q:D→Lp→Prop} {E:AEnds} {x f m:Str} {k:Nat} {sp:SpA} {Cl g:Addr}
def nH (L:Lp) (x:D) (Cl:Addr):Prop:=(∃a fs,x= .ptr a∧L a=some (.ins Cl fs))∨∃fs,x= .obj Cl fs
def zM (L:Lp) (x:D) (Cl:Addr) (i:Nat) (d:D):Prop:=(∃a fs,x= .ptr a∧L a=some (.ins Cl fs)∧fs[i]? =some (some d))∨∃fs,x= .obj Cl fs∧fs[i]? =some d
theorem zM.st {a:Addr} {fs:List (Option D)} {i:Nat} {d:D} (h:L a=some (.ins Cl fs)) (e:fs[i]? =some (some d)):zM L (.ptr a) Cl i d:= .inl ⟨a,fs,rfl,h,e⟩
theorem zM.fz {fs:List D} {i:Nat} {d:D} (e:fs[i]? =some d):zM L (.obj Cl fs) Cl i d:= .inr ⟨fs,rfl,e⟩
theorem nH.st {a:Addr} {fs:List (Option D)} (h:L a=some (.ins Cl fs)):nH L (.ptr a) Cl:= .inl ⟨a,fs,rfl,h⟩
theorem nH.fz {fs:List D}:nH L (.obj Cl fs) Cl:= .inr ⟨fs,rfl⟩
theorem zM.ins {x d:D} {i:Nat} (h:zM L x Cl i d):nH L x Cl:=by
 rcases h with ⟨a,fs,e,h,_⟩ | ⟨fs,e,_⟩
 ·exact .inl ⟨a,fs,e,h⟩
 ·exact .inr ⟨fs,e⟩
theorem nH.slt {F:Fz} {H:Hp} {v:V} {x:D} (h:nH L x Cl) (c:C.Con L F H) (r:Rep C.X.K F H v x):∃a dx vs,v= .ref a∧SlX.Slt H a Cl dx vs:=by
 rcases h with ⟨a,fs,rfl,ha⟩ | ⟨fs,rfl⟩
 ·obtain ⟨dx,vs,st,_⟩:=c.at_ a _ ha
  exact ⟨a,dx,vs,r.ptrE,st⟩
 ·cases r with
  | obj hl h hx hu hn hi=>exact ⟨_,_,_,rfl,.inr ⟨h,hx⟩⟩
theorem zM.slt {F:Fz} {H:Hp} {v:V} {x d:D} {i:Nat} (h:zM L x Cl i d) (c:C.Con L F H) (r:Rep C.X.K F H v x):∃a dx vs u,v= .ref a∧SlX.Slt H a Cl dx vs∧vs[i]? =some (some u)∧Rep C.X.K F H u d:=by
 rcases h with ⟨a,fs,rfl,ha,hd⟩ | ⟨fs,rfl,hd⟩
 ·obtain ⟨dx,vs,st,sr⟩:=c.at_ a _ ha
  obtain ⟨u,e1,e2⟩:=sr i d hd
  exact ⟨a,dx,vs,u,r.ptrE,st,e1,e2⟩
 ·cases r with
  | @obj a _ dx us vs _ hl h hx hu hn hi=>
   have hlt:i < vs.length:=by rw [hn];exact (List.getElem?_eq_some_iff.mp hd).1
   exact ⟨_,_,_,vs[i],rfl,.inr ⟨h,hx⟩,hu i _ (List.getElem?_eq_getElem hlt),hi i _ d (List.getElem?_eq_getElem hlt) hd⟩
theorem vI (h:AE C e Γ L fun x L1=> ∃Cl p i d,zM L1 x Cl i d∧SlX.SCls C.X.K Cl∧SlX.Slot1 C.X.K Cl f p i∧Q d L1) (hb:attributeBase e f C.X.env (eval e C.X.env)=eval e C.X.env:=by rfl):AE C (.Attribute e f pos) Γ L Q:=fun F σ H ok QV go=>
 dO (SlX.pe_sl bA hb) (h _ σ H ok _ fun v x H1 L1 r c fr ⟨Cl,p,i,d,hf,sc,sl,q⟩=>by
  obtain ⟨a,dx,vs,u,e,st,e1,e2⟩:=hf.slt c r
  exact ⟨a,Cl,dx,p,vs,i,u,e,st,sc,sl,e1,go u d H1 L1 e2 c fr q⟩)
theorem Stay.slH {H:Hp} {a Cl dx:Addr} {vs:List (Option V)} {fs:List (Option V)} (st:SlX.Slt H a Cl dx fs) (kn:H dx=some (.own a)∨H dx=some (.xd [])):Stay H (SlX.slH H a Cl dx vs):=by
 have key:∀b u,H b=some u→(∀xs,u≠ .ins Cl dx xs)→(∀ws,u≠SlX.SlO a Cl dx ws)→b≠a:=fun b u e n1 n2 z=>by
  rw [z] at e
  rcases st with ⟨h1,_⟩ | ⟨h1,_⟩ <;> rw [h1] at e
  ·exact n1 _ (Option.some.inj e).symm
  ·exact n2 _ (Option.some.inj e).symm
 refine ⟨fun b ws e=> ?_,fun b ob u e=> ?_,fun b e=> ?_⟩
 ·have h1:=key b _ e (fun _ z=>nomatch z) (fun _ z=>by unfold SlX.SlO at z;cases z)
  have h2:b≠dx:=fun z=>by rw [z] at e;rcases kn with q | q <;> rw [q] at e <;> cases e
  rw [SlX.slH_ne h1 h2];exact e
 ·have h1:=key b _ e (fun _ z=>nomatch z) (fun _ z=>by unfold SlX.SlO at z;cases z)
  have h2:b≠dx:=fun z=>by rw [z] at e;rcases kn with q | q <;> rw [q] at e <;> cases e
  rw [SlX.slH_ne h1 h2];exact e
 ·have h1:=key b _ e (fun _ z=>nomatch z) (fun _ z=>by unfold SlX.SlO at z;cases z)
  by_cases h2:b=dx
  ·unfold SlX.slH
   rw [upd_ne h1,h2,upd_same]
  ·rw [SlX.slH_ne h1 h2];exact e
theorem as_sl (h:AE C value Γ L fun y L1=>AE C o Γ L1 fun x L2=> ∃a Cl fs p i,x= .ptr a∧L2 a=some (.ins Cl fs)∧SlX.SCls C.X.K Cl∧SlX.Slot1 C.X.K Cl f p i∧E.nx Γ (put L2 a (.ins Cl (putF i y fs)))) (hs:swapsWith value (some (.Attribute o f pos')) pos.line C.X.env=pure false:=by rfl):AS C (.Assign [.Attribute o f pos'] value pos) Γ L E:=fun F σ H ok DD go=>
 lF (ps_sl2 bA bA hs) (h _ σ H ok _ fun vy y H1 L1 ry c1 f1 q1=>q1 _ σ H1 (ok.step c1 f1) _ fun {F2} vx x H2 L2 rx c2 f2 ⟨a,Cl,fs,p,i,ex,ha,sc,sl,q⟩=>by
  subst ex
  obtain ⟨dx,vs,st,sr⟩:=c2.at_ a _ ha
  refine ⟨a,Cl,dx,p,vs,i,rx.ptrE,st,sc,sl,fun ne kn=> ?_⟩
  have stay:Stay H2 (SlX.slH H2 a Cl dx (SlX.putS i vy vs)):=Stay.slH st kn
  have dxL:∀b mo,L2 b=some mo→b≠dx:=fun b mo hb z=>by
   have hcc:=c2.at_ b mo hb
   subst z
   cases mo with
   | lst ds=>obtain ⟨ws,h1,_⟩:=hcc;rcases kn with q | q <;> rw [q] at h1 <;> cases h1
   | dct ds=>obtain ⟨ws,h1,_⟩:=hcc;rcases kn with q | q <;> rw [q] at h1 <;> cases h1
   | ins C' fs'=>
    obtain ⟨dx',vs',h1,_⟩:=hcc
    rcases h1 with ⟨h1,_⟩ | ⟨h1,_⟩ <;> rcases kn with q | q <;> rw [q] at h1 <;> first | cases h1 | (unfold SlX.SlO at h1;cases h1)
   | set S n=>rcases kn with q | q <;> rw [show H2 b=_ from hcc] at q <;> cases q
   | txs S n=>rcases kn with q | q <;> rw [hcc.1] at q <;> cases q
   | kd kds=>obtain ⟨kvs,e,_⟩:=hcc;rcases kn with q | q <;> rw [e] at q <;> cases q
   | nd kds=>obtain ⟨xs,e,_⟩:=hcc;rcases kn with q | q <;> rw [e] at q <;> (unfold ndO at q;cases q)
   | iin Ci fi=>obtain ⟨dx',vfs,e,_⟩:=hcc;rcases kn with q | q <;> rw [e] at q <;> cases q
   | tab n=>obtain ⟨ps,e,_⟩:=hcc;rcases kn with q | q <;> rw [e] at q <;> cases q
   | exc Ci fi=>obtain ⟨dx',vfs,e,_⟩:=hcc;rcases kn with q | q <;> rw [e] at q <;> (unfold ErO at q;cases q)
  have nfa:=c2.nw ha
  have mv:Mv F2 H2 F2 (SlX.slH H2 a Cl dx (SlX.putS i vy vs)):=⟨stay,fun _ z=>z,fun b u z e=>by
   have h1:b≠a:=fun q=>nfa (q ▸z)
   have h2:b≠dx:=fun q=>by
    obtain ⟨_,o',e',n1,n2⟩:=c2.fz b z
    rw [q] at e'
    rcases kn with k | k
    ·rw [k] at e';exact n1 a (Option.some.inj e').symm
    ·rw [k] at e';exact n2 (Option.some.inj e').symm
   rw [SlX.slH_ne h1 h2];exact e⟩
  have fr:Fr L2 F2 H2 (put L2 a (.ins Cl (putF i y fs))) F2 (SlX.slH H2 a Cl dx (SlX.putS i vy vs)):=by
   refine ⟨fun b u e no n=> ?_,fun b e=>dY (dY e),stay,fun b z=> ?_,mv.fz,mv.fk,fun b z=> .inl z⟩
   ·have h1:b≠a:=fun z=>by rw [z,ha] at n;cases n
    by_cases h2:b=dx
    ·subst h2
     rcases kn with q | q
     ·rw [q] at e;exact absurd (Option.some.inj e).symm (no a)
     ·rw [q] at e
      cases e
      exact stay.xd _ q
    ·rw [SlX.slH_ne h1 h2];exact e
   ·by_cases e:b=a
    ·exact .inl (by rw [e,ha];simp)
    ·rw [aJ e] at z
     exact .inl z
  refine go.nx _ _ Γ (put L2 a (.ins Cl (putF i y fs))) (ok.step ⟨fun b mo hb=> ?_,fun b z=> ?_⟩ ((f1.trans f2).trans fr)) ((f1.trans f2).trans fr) q
  ·by_cases e:b=a
   ·subst e
    rw [aD] at hb
    cases hb
    exact ⟨dx,SlX.putS i vy vs,SlX.slH_slt ne,(sr.put i (ry.mono f2.mv)).mono mv⟩
   ·rw [aJ e] at hb
    exact (c2.at_ b mo hb).mono mv (SlX.slH_ne e (dxL b mo hb))
  ·obtain ⟨n,u,e,k1,k2⟩:=c2.fz b z
   have h1:b≠a:=fun q=>nfa (q ▸z)
   exact ⟨by rw [aJ h1];exact n,u,mv.fk b u z e,k1,k2⟩)
theorem run_makeA {pins:List (Addr×Obj)} {σ:L2.St} {Z:Fz} {H:Hp} {s:Shared} {us:List Value} {vs:List V} {ds:List D} {QV:VK} (M:Mk C.X.K Cl g) (F:FnA C.X.prog C.X.w C.X.K C.X.mg C.X.base k g sp) (hr:Room (k+1) C.X.A) (I:Inv C.X pins σ H s) (ok:Ok C Γ L Z σ H) (r:Vals vs us) (rd:bG C.X.K Z H vs ds)
  (h:∀x,L x=none→sp (.ptr x::ds) (put L x (.ins Cl [])) (fun v L2=>v= .non∧Q (.ptr x) L2) (C.R Γ)) (go:Go C L Z H Q QV):wpAny (model C.X.prog C.X.w) C.X.A (call (.ref Cl) us) (EP C.X pins σ QV) C.X.xe s:=by
 have n1:H (s.heap.objs.size+1)=none:=I.hok.fresh (Nat.le_succ _)
 have n0:H s.heap.objs.size=none:=I.hok.fresh (Nat.le_refl _)
 have hne:s.heap.objs.size+1≠s.heap.objs.size:=Nat.ne_of_gt (Nat.lt_succ_self _)
 have n1':(upd H s.heap.objs.size (.own (s.heap.objs.size+1))) (s.heap.objs.size+1)=none:=by rw [upd_ne hne];exact n1
 have I2:=Inv.made (C:=Cl) I
 have c2:C.Con (put L (s.heap.objs.size+1) (.ins Cl [])) Z (upd (upd H s.heap.objs.size (.own (s.heap.objs.size+1))) (s.heap.objs.size+1) (.ins Cl s.heap.objs.size [])):=
  (ok.con.new n0).newL n1' ⟨s.heap.objs.size,[],.inl ⟨upd_same,rfl⟩,fun i d e=>by simp at e⟩
 have f2:Fr L Z H (put L (s.heap.objs.size+1) (.ins Cl [])) Z (upd (upd H s.heap.objs.size (.own (s.heap.objs.size+1))) (s.heap.objs.size+1) (.ins Cl s.heap.objs.size [])):=(Fr.new n0).trans (Fr.newL n1')
 have r2:Vals (V.ref (s.heap.objs.size+1)::vs) (Value.ref (s.heap.objs.size+1)::us):= .cons rfl r
 refine wpAny_call (make_map (f:=g) I.kIn M.makes M.init (beq_iff_eq.mp M.fn) (codeAny_mono (F _ C.X.stack _ _ (Value.ref (s.heap.objs.size+1)::us) _ (fun v H2=>v= .non∧QV (.ref (s.heap.objs.size+1)) H2) (L2.WE C.W σ) (hr.make Cl us []) (I2.env0.make Cl us []) r2 ?_) fun r s' hq'=> ?_))
 ·refine ⟨.ptr (s.heap.objs.size+1)::ds,_,Z,_,C.R Γ,.cons (.ptr _) (rd.mono f2.mv),c2,h _ (ok.con.free n1),fun d L' ⟨ed,q⟩ v H' rv c fr=> ?_,fun cls fs L' q d H' xd c fr=>ok.lr.of cls d σ H' Γ L' fs (ok.sl.mono (f2.trans fr).mv) c (f2.trans fr) xd q⟩
  subst ed
  exact ⟨rv.nonE,go _ _ H' L' (.ptr _) c (f2.trans fr) q⟩
 ·cases r with
  | error e=>exact passAt C.tk σ pins _ _ e s' I2 hq'
  | ok fl=>
   cases fl with
   | ret u=>
    obtain ⟨v,H',I3,rv,ev,q3⟩:=I2.after hq'
    subst ev
    exact ⟨rv,⟨V.ref (s.heap.objs.size+1),H',I3,rfl,q3⟩⟩
   | next=>exact False.elim hq'
   | brk=>exact False.elim hq'
   | cont=>exact False.elim hq'
theorem wO (M:Mk C.X.K Cl g) (F:FnA C.X.prog C.X.w C.X.K C.X.mg C.X.base k g sp) (hm:C.X.mg x=some (.ref Cl)) (hr:Room (k+1) C.X.A) (h:AA C (e::es) Γ L fun ds L1=> ∀x,L1 x=none→sp (.ptr x::ds) (put L1 x (.ins Cl [])) (fun v L2=>v= .non∧Q (.ptr x) L2) (C.R Γ)) (hg:Gl C.X x:=by rfl) (hdb:(x==("__debug__" :Str))=false:=by decide)
  (he:starEach (e::es) C.X.env=(false,eval e C.X.env)::starEach es C.X.env:=by rfl) (hpl:(backTo pos (starEach es C.X.env)).any (·.1)=false:=by rfl):AE C (.Call (.Name x p) (e::es) [] pos) Γ L Q:=fun Z σ H ok QV go=>by
 refine ⟨fun pins s I=> ?_⟩
 refine wpAny_Call_Name_kw (ld_glob I hg hm ?_ hdb)
 refine PySem.W.callWith_K (h₀:=C.X.base) I.ok.mod.kin M.kp (thn ((h _ σ H ok (fun vs H1=> ∃ds L1 Z1,bG C.X.K Z1 H1 vs ds∧C.Con L1 Z1 H1∧Fr L Z H L1 Z1 H1∧∀x,L1 x=none→sp (.ptr x::ds) (put L1 x (.ins Cl [])) (fun v L2=>v= .non∧Q (.ptr x) L2) (C.R Γ)) (fun vs ds H1 L1 r c f q=>⟨ds,L1,_,r,c,f,q⟩)).run pos pins s I) fun us s1 ⟨vs,H1,I1,r,ds,L1,Z1,rd,c1,f1,q⟩=>⟨I1.kIn,?_⟩) he hpl
 exact run_makeA M F hr I1 (ok.step c1 f1) r rd q (go.after f1)
structure Prop1 (K:PySem.W.Frag) (Cl:Addr) (f:Str) (p g:Addr):Prop where
 at_:PySem.W.findIn K (.ref Cl) f=some (some (.ref p))
 get:PySem.W.specialIn K (.ref p) "__get__"=some (some (.builtin "property.__get__"))
 tk:PySem.W.takesIn K (.ref p)=some true
 rc:∃rest,PySem.W.recIn K p "property"=some (.ref g::rest)
theorem kY {pr:Addr} (c:SlX.SCls C.X.K Cl) (hp:Prop1 C.X.K Cl f pr g) (F:FnA C.X.prog C.X.w C.X.K C.X.mg C.X.base k g sp) (hr:Room (k+1) C.X.A) (h:AE C e Γ L fun y L1=>nH L1 y Cl∧sp [y] L1 Q fun _ _ _=>False)
  (hb:attributeBase e f C.X.env (eval e C.X.env)=eval e C.X.env:=by rfl):AE C (.Attribute e f pos) Γ L Q:=fun Z σ H ok QV go=>
 dO (SlX.pe_propSl (CX:=L2.CX C.X.prog C.X.w) (E:=fun _ _ _=>False) bA c hp.at_ hp.get hp.tk hp.rc F hr (fun _ _ _ _ z=>by obtain ⟨_,_,_,_,_,_,_,_,_,_,_,_,z⟩:=z;exact z) hb) (h _ σ H ok _ fun v y H1 L1 r cc fr ⟨hi,q⟩=>by
  obtain ⟨a,dx,ws,ea,st⟩:=hi.slt cc r
  exact ⟨a,dx,ws,ea,st,[y],L1,_,Q,fun _ _ _=>False,.cons (ea ▸r) .nil,cc,q,fun d L' q v H' rv c f=>go v d H' L' rv c (fr.trans f) q,fun _ _ _ z=>z.elim⟩)
def del (L:Lp) (a:Addr):Lp:=fun b=>if b=a then none else L b
theorem del_same {a:Addr}:del L a a=none:=if_pos rfl
theorem del_ne {a b:Addr} (h:b≠a):del L a b=L b:=if_neg h
theorem zE (a:Addr):Le (del L a) L:=fun b o e=>by
 unfold del at e
 split at e
 ·cases e
 ·exact e
theorem del_put {a:Addr} {o:MO} (h:L a=none):del (put L a o) a=L:=by
 funext b
 unfold del
 by_cases e:b=a
 ·rw [if_pos e,e,h]
 ·rw [if_neg e,aJ e]
def Frz (C:Ctx) (L:Lp) (d:D) (L':Lp) (d':D):Prop:= ∀pins σ s F H v,Inv C.X pins σ H s→C.Con L F H→Rep C.X.K F H v d→∃F' H',Inv C.X pins σ H' s∧Rep C.X.K F' H' v d'∧C.Con L' F' H'∧Fr L F H L' F' H'
theorem AE.frz (h:AE C e Γ L fun d L1=> ∃d' L2,Frz C L1 d L2 d'∧Q d' L2):AE C e Γ L Q:=fun F σ H ok QV go=>⟨fun pins s I=>
 thn ((h _ σ H ok (fun v H'=> ∃d L' F',Rep C.X.K F' H' v d∧C.Con L' F' H'∧Fr L F H L' F' H'∧∃d' L2,Frz C L' d L2 d'∧Q d' L2) (fun v d H' L' r c f q=>⟨d,L',_,r,c,f,q⟩)).run pins s I) fun u s1 ⟨v,H1,I1,rv,d,L1,F1,r1,c1,f1,d',L2,z,q⟩=>by
  obtain ⟨F2,H2,I2,r2,c2,f2⟩:=z _ _ _ _ _ v I1 c1 r1
  exact ⟨v,H2,I2,rv,go v d' H2 L2 r2 c2 (f1.trans f2) q⟩⟩
theorem Frz.trans {L1 L2:Lp} {d d1 d2:D} (a:Frz C L d L1 d1) (b:Frz C L1 d1 L2 d2):Frz C L d L2 d2:=fun pins σ s F H v I c r=>by
 obtain ⟨F1,H1,I1,r1,c1,f1⟩:=a pins σ s F H v I c r
 obtain ⟨F2,H2,I2,r2,c2,f2⟩:=b pins σ s F1 H1 v I1 c1 r1
 exact ⟨F2,H2,I2,r2,c2,f1.trans f2⟩
theorem frz_go {F:Fz} {H:Hp} {a:Addr} {mo:MO} {o:HO} (c:C.Con L F H) (ha:L a=some mo) (ho:H a=some o) (h1:∀y,o≠ .own y) (h2:o≠ .xd []):C.Con (del L a) (fun b=>F b∨b=a) H∧Fr L F H (del L a) (fun b=>F b∨b=a) H:=by
 have mv:Mv F H (fun b=>F b∨b=a) H:=⟨.refl H,fun b z=> .inl z,fun b o z e=>e⟩
 refine ⟨⟨fun b u e=>((c.at_ b u (zE a b u e)).mono mv rfl),fun b z=> ?_⟩,⟨fun b u e _ _=>e,fun b z=>z,.refl H,fun b z=> .inl ((zE a).ne z),fun b z=> .inl z,fun b u z e=>e,fun b z=> ?_⟩⟩
 ·rcases z with z | z
  ·exact ⟨(zE a).none (c.fz b z).1,(c.fz b z).2⟩
  ·rw [z]
   exact ⟨del_same,o,ho,h1,h2⟩
 ·rcases z with z | z
  ·exact .inl z
  ·rw [z,ha]
   exact .inr (.inl (by simp))
theorem frz_lst {a:Addr} {ds:List D} (ha:L a=some (.lst ds)):Frz C L (.ptr a) (del L a) (.flst ds):=fun pins σ s F H v I c r=>by
 obtain ⟨vs,e,rr,z⟩:=c.at_ a _ ha
 obtain ⟨c2,f2⟩:=frz_go c ha e (fun _ z=>nomatch z) (fun z=>nomatch z)
 have r2:=rr.mono f2.mv
 refine ⟨_,H,I,?_,c2,f2⟩
 rw [r.ptrE]
 exact .flst (.inr rfl) e (by rw [rr.length];exact z) rr.length fun i v d h1 h2=>by
  obtain ⟨d',e,q⟩:=r2.getV h1
  rw [h2] at e
  cases e
  exact q
theorem frz_ins {a:Addr} {gs:List D} (ha:L a=some (.ins Cl (gs.map some))) (hn:gs≠ []):Frz C L (.ptr a) (del L a) (.obj Cl gs):=fun pins σ s F H v I c r=>by
 obtain ⟨dx,us,st,sr⟩:=c.at_ a _ ha
 have hu:us≠ []:=fun z=>by
  cases gs with
  | nil=>exact hn rfl
  | cons g gs=>
   obtain ⟨u,e,_⟩:=sr 0 g rfl
   rw [z] at e
   simp at e
 rcases st with ⟨_,z⟩ | ⟨e,hx⟩
 ·exact absurd z hu
 obtain ⟨c2,f2⟩:=frz_go c ha e (fun _ z=>by unfold SlX.SlO at z;cases z) (fun z=>by unfold SlX.SlO at z;cases z)
 have key:∀i (h:i < gs.length),∃u,us[i]? =some (some u)∧Rep C.X.K F H u gs[i]:=fun i h=>sr i gs[i] (by rw [List.getElem?_map,List.getElem?_eq_getElem h];rfl)
 have hv:∃vs:List V,vs.length=gs.length∧∀(i:Nat) (v:V),vs[i]? =some v→us[i]? =some (some v)∧∀d,gs[i]? =some d→Rep C.X.K F H v d:=by
  refine ⟨List.ofFn fun i:Fin gs.length=>(key i.1 i.2).choose,by simp,fun i v e=> ?_⟩
  have hi:=(List.getElem?_eq_some_iff.mp e).1
  rw [List.length_ofFn] at hi
  rw [List.getElem?_ofFn,dif_pos hi] at e
  cases e
  refine ⟨(key i hi).choose_spec.1,fun d hd=> ?_⟩
  rw [List.getElem?_eq_getElem hi] at hd
  cases hd
  exact (key i hi).choose_spec.2
 obtain ⟨vs,hl,hvs⟩:=hv
 refine ⟨_,H,I,?_,c2,f2⟩
 rw [r.ptrE]
 exact .obj (.inr rfl) e hx (fun i v h=>(hvs i v h).1) hl fun i v d h1 h2=>((hvs i v h1).2 d h2).mono f2.mv
end
end DL
namespace DL
open PySem PySem.Spec PyProof.Rows L2
def Each (C:Ctx) (scope:Scope) (own:List (Str×Nat)) (tg elt:Expr) (Γ:Gm) (ds:List D) (L1:Lp) (f:D→D):Prop:= ∀(i:Nat) (d:D),ds[i]? =some d→∃Γ3 ws,(∀j∈ws,j∈own.map (·.2))∧∀s H Cc cl fp,AG (dH C scope s H Cc cl fp) tg d (dN Γ (own.map (·.2))) Γ3 ws∧AV (dH C scope s H Cc cl fp) elt Γ3 L1 (f d)
section
variable {C:Ctx} {Γ Γ1 Γ2:Gm} {L:Lp} {e a b c o tg elt iter:Expr} {es ts:List Expr} {pos p1 p2 p3:Pos} {E:AEnds} {Q:D→Lp→Prop} {scope:Scope}
theorem each1 {own:List (Str×Nat)} {ds:List D} {f:D→D} {Γ3:D→Gm} {ws:List Nat} (hw:∀j∈ws,j∈own.map (·.2)) (h:∀(i:Nat) (d:D),ds[i]? =some d→∀s H Cc cl fp,AG (dH C scope s H Cc cl fp) tg d (dN Γ (own.map (·.2))) (Γ3 d) ws∧AV (dH C scope s H Cc cl fp) elt (Γ3 d) L (f d)):Each C scope own tg elt Γ ds L f:=
 fun i d hd=>⟨Γ3 d,ws,hw,h i d hd⟩
theorem uQ (own:List (Str×Nat)) (hm:C.X.mg "all"=none) (h:AI C tg iter Γ L fun ds G L1=> ∃f:D→Bool,G L1∧ds.length≤sizeLine∧Each C scope own tg elt Γ ds L1 (fun d=> .bl (f d))∧Q (.bl (ds.all f)) L1)
  (ok:BlkOk C.X.N C.X.env.scope scope own:=by (dsimp only [vA,dH,cxOf,envOfC,compEnvC,Cx.blk];exact blkOk_by (by decide+kernel))) (hs:∀x,foldedSetIterable iter C.X.env x=pure x:=by intro _;rfl) (hg:Gl C.X "all" :=by rfl)
  (he:starEach [.ListComp elt [⟨tg,iter,[],0⟩] scope p2] C.X.env= [(false,eval (.ListComp elt [⟨tg,iter,[],0⟩] scope p2) C.X.env)]:=by rfl):
  AE C (.Call (.Name "all" p1) [.ListComp elt [⟨tg,iter,[],0⟩] scope p2] [] pos) Γ L Q:=by
 refine AE.drop (bO (cr_all C.calm) hm (aC (aAd own ?_ ok hs) he) (hg:=hg) (he:=he))
 refine fun F σ H okk RV go=>h _ σ H okk RV fun J H' L' ds G c f it ⟨g,hG,hz,hf,q⟩=>go J H' L' ds G c f it (lc_map _ hG hz hf fun p hp=> ?_)
 refine aF (c_all (bs:=ds.map g) (by rw [List.map_map];exact aD) ⟨L',aN hp,?_⟩)
 rw [List.all_map]
 exact q
end
end DL
namespace DL
open PySem PySem.Spec PyProof.Rows L2
section
variable {C:Ctx} {Γ:Gm} {L:Lp} {Q:D→Lp→Prop}
abbrev rNotN:R2:=fun x y H Q=>y= .non∧Q (.bl (!decide (x= .non))) H
theorem lM {α:Type} (f:α→D):∀xs:List α,pys (xs.map f)=xs.map fun x=>py (f x)
 | []=>by rw [List.map_nil,pys,List.map_nil]
 | x::xs=>by rw [List.map_cons,pys,lM f xs,List.map_cons]
theorem nW {α:Type} (f:α→D):∀xs:List α,(∀x∈xs,okD (f x)=true)→oM (xs.map f)=true
 | [],_=>by rw [List.map_nil,oM]
 | x::xs,h=>by rw [List.map_cons,oM,h x List.mem_cons_self,nW f xs fun y hy=>h y (List.mem_cons_of_mem _ hy)];rfl
end
end DL
namespace DL
open PySem PySem.Spec PyProof.Rows L2
section
variable {C:Ctx} {Γ:Gm} {L:Lp} {Q:D→Lp→Prop} {e:Expr} {pos:Pos}
theorem qC (h:AE C e Γ L fun d L1=> ∃i:Int,d= .int i∧Q (.int (-i)) L1):AE C (.UnaryOp .USub e pos) Γ L Q:=fun F σ H ok QV go=>
 dO (pe_un un_neg bA) (h _ σ H ok _ fun v d H1 L1 r c f ⟨i,ed,q⟩=>by
  subst ed
  exact ⟨i,r.intE,go _ _ H1 L1 (.int _) c f q⟩)
end
end DL
namespace DL
open PySem PySem.Spec PyProof.Rows L2
section
variable {C:Ctx} {Γ:Gm} {L:Lp} {Q:D→Lp→Prop} {o e:Expr} {pos apos:Pos}
theorem cJ (h:AE C o Γ L fun x L1=> ∃p zs,x= .ptr p∧L1 p=some (.lst zs)∧AE C e Γ L1 fun y L2=> ∃xs,L2 p=some (.lst xs)∧xs.length < sizeLine∧Q .non (put L2 p (.lst (xs++ [y]))))
  (hp:PE C.X (.Call (.Attribute o "append" apos) [e] [] pos) (tBM C.X.K "list" rAppend (WE C.X o) (WA C.X [e])):=by exact pe_bm PySem.F.plainAttrs_list PySem.F.slot_list_append PySem.F.type_list_append mt_append bA mW)
  (hs:starEach [e] C.X.env= [(false,eval e C.X.env)]:=by rfl):AE C (.Call (.Attribute o "append" apos) [e] [] pos) Γ L Q:=
 ae_bm (id:="list.append") hp (h.mono fun x L1 ⟨p,zs,ex,hz,h2⟩=>by
  subst ex
  exact ⟨.inl ⟨rfl,zs,hz⟩,aC (h2.mono fun y L2 ⟨xs,hx,hl,q⟩=>aF (m_append hx hl q)) hs⟩)
end
theorem dF:sizeLine=16777216:=rfl
end DL
namespace DL
open PySem PySem.Spec PyProof.Rows L2
section
variable {C:Ctx} {Γ:Gm} {L:Lp} {a b c:Expr} {pos:Pos}
theorem at_chain {op op':CmpOp} {r r':R2} {Q:Bool→Lp→Prop} (ho:OpR C.X (compareOp op) r) (ho':OpR C.X (compareOp op') r')
  (h:AE C a Γ L fun x L1=>AE C b Γ L1 fun y L2=>L2R C r x y L2 fun d L3=> ∃k,d= .bl k∧(k=true→AE C c Γ L3 fun z L4=>L2R C r' y z L4 fun d L5=> ∃k,d= .bl k∧Q k L5)∧(k=false→Q false L3))
  (hp:PT C.X (.Compare a [op,op'] [b,c] pos) (tTest (tChain r r' (WE C.X a) (WE C.X b) (WE C.X c)))):AT C (.Compare a [op,op'] [b,c] pos) Γ L Q:=fun F σ H ok QV go=>
 yK hp (h _ σ H ok _ fun vx x H1 L1 rx c1 f1 q1=>q1 _ σ H1 (ok.step c1 f1) _ fun vy y H2 L2 ry c2 f2 q2=>q2 _ vx vy H2 c2 (rx.mono f2.mv) ry _ fun v d H3 L3 r3 c3 f3 ⟨k,ek,k1,k2⟩=>by
  subst ek
  refine ⟨k,r3.blE,?_⟩
  cases k with
  | true=>
   have o3:=ok.step c3 ((f1.trans f2).trans f3)
   exact (k1 rfl) _ σ H3 o3 _ fun vz z H4 L4 rz c4 f4 q4=>q4 _ vy vz H4 c4 ((ry.mono f3.mv).mono f4.mv) rz _ fun w e H5 L5 r5 c5 f5 ⟨k',ee,q5⟩=>by
    subst ee
    exact ⟨k',r5.blE,go k' H5 L5 c5 ((((f1.trans f2).trans f3).trans f4).trans f5) q5⟩
  | false=>exact ⟨false,rfl,go false H3 L3 c3 ((f1.trans f2).trans f3) (k2 rfl)⟩)
end
end DL
namespace DL
open PySem PySem.Spec PyProof.Rows L2
def DR (L:Lp) (d:D) (kds:List (List Key×D)):Prop:=(∃t,d= .ptr t∧L t=some (.dct kds))∨d= .fdct kds
def LR (L:Lp) (d:D) (ds:List D):Prop:=(∃t,d= .ptr t∧L t=some (.lst ds))∨d= .flst ds
theorem DR.st {L:Lp} {t:Addr} {kds:List (List Key×D)} (h:L t=some (.dct kds)):DR L (.ptr t) kds:= .inl ⟨t,rfl,h⟩
theorem DR.fz {L:Lp} {kds:List (List Key×D)}:DR L (.fdct kds) kds:= .inr rfl
theorem LR.st {L:Lp} {t:Addr} {ds:List D} (h:L t=some (.lst ds)):LR L (.ptr t) ds:= .inl ⟨t,rfl,h⟩
theorem LR.fz {L:Lp} {ds:List D}:LR L (.flst ds) ds:= .inr rfl
theorem DR.put {L:Lp} {d:D} {kds:List (List Key×D)} (h:DR L d kds) {a:Addr} {o:MO} (n:L a=none):DR (put L a o) d kds:=by
 rcases h with ⟨t,e,h⟩ | h
 ·exact .inl ⟨t,e,by rw [aJ (aO h n)];exact h⟩
 ·exact .inr h
theorem LR.put {L:Lp} {d:D} {ds:List D} (h:LR L d ds) {a:Addr} {o:MO} (n:L a=none):LR (put L a o) d ds:=by
 rcases h with ⟨t,e,h⟩ | h
 ·exact .inl ⟨t,e,by rw [aJ (aO h n)];exact h⟩
 ·exact .inr h
theorem DR.wr {L:Lp} {d:D} {kds:List (List Key×D)} (h:DR L d kds) {a:Addr} {o u:MO} (n:L a=some u) (nd:∀k,u≠ .dct k):DR (DL.put L a o) d kds:=by
 rcases h with ⟨t,e,h⟩ | h
 ·refine .inl ⟨t,e,?_⟩
  have:t≠a:=fun z=>by rw [z,n] at h;exact nd _ (Option.some.inj h)
  rw [aJ this];exact h
 ·exact .inr h
theorem DR.le {L L':Lp} {d:D} {kds:List (List Key×D)} (h:DR L d kds) (le:Le L L'):DR L' d kds:=by
 rcases h with ⟨t,e,h⟩ | h
 ·exact .inl ⟨t,e,le _ _ h⟩
 ·exact .inr h
theorem LR.le {L L':Lp} {d:D} {ds:List D} (h:LR L d ds) (le:Le L L'):LR L' d ds:=by
 rcases h with ⟨t,e,h⟩ | h
 ·exact .inl ⟨t,e,le _ _ h⟩
 ·exact .inr h
section
variable {C:Ctx} {Γ:Gm} {L:Lp} {Q:D→Lp→Prop} {o b e tg:Expr} {pos:Pos} {d:D} {ds:List D} {kds:List (List Key×D)}
theorem DR.at_ {F:Fz} {H:Hp} {v:V} (h:DR L d kds) (c:C.Con L F H) (r:Rep C.X.K F H v d):∃a kvs,v= .ref a∧Rd H a (.dT kvs)∧KDs C.X.K F H kvs kds∧∀q∈kds,KOk q.1:=by
 rcases h with ⟨t,rfl,ht⟩ | rfl
 ·obtain ⟨kvs,h1,h2,h3⟩:=c.at_ t _ ht
  exact ⟨t,kvs,r.ptrE,.inl h1,h2,h3⟩
 ·cases r with
  | fdct hl h hk hn he hi=>
   have key:∀{kvs:List (List Key×V)} {kds:List (List Key×D)},kvs.length=kds.length→(∀(i:Nat) (v:List Key×V) (d:List Key×D),kvs[i]? =some v→kds[i]? =some d→v.1=d.1∧Rep C.X.K F H v.2 d.2)→KDs C.X.K F H kvs kds:=by
    intro kvs
    induction kvs with
    | nil=>intro kds hl _;cases kds with | nil=>exact .nil | cons _ _=>simp at hl
    | cons v vs ih=>
     intro kds hl hh
     cases kds with
     | nil=>simp at hl
     | cons d ds=>exact .cons (hh 0 v d rfl rfl) (ih (by simpa using hl) fun i x y h1 h2=>hh (i+1) x y (by simpa using h1) (by simpa using h2))
   exact ⟨_,_,rfl,.inr ⟨_,h⟩,key hn fun i v d h1 h2=>⟨he i v d h1 h2,hi i v d h1 h2⟩,hk⟩
theorem LR.at_ {F:Fz} {H:Hp} {v:V} (h:LR L d ds) (c:C.Con L F H) (r:Rep C.X.K F H v d):∃a vs,v= .ref a∧H a=some (.lst vs)∧bG C.X.K F H vs ds∧ds.length≤sizeLine:=by
 rcases h with ⟨t,rfl,ht⟩ | rfl
 ·obtain ⟨vs,h1,h2,h3⟩:=c.at_ t _ ht
  exact ⟨t,vs,r.ptrE,h1,h2,h3⟩
 ·cases r with
  | flst hl h hz hn hi=>exact ⟨_,_,rfl,h,bG.of_get hn hi,by rw [←hn];exact hz⟩
theorem DGet.rt {H:Hp} {a b:Addr} {kvs:List (List Key×V)} {k:List Key} (e:Rd H a (.dT kvs)) (eb:H b=some (.tup (k.map kV))):DGet H a (.ref b) (valV kvs k):= .inr ⟨kvs,k,b,e,rfl,eb,rfl⟩
theorem dr_in {k:List Key} (hp:DR L d kds) (q:Q (.bl (valD kds k).isSome) L):L2R C zU (kD k) d L Q:=fun F vx vy H c rx ry QV go=>by
 obtain ⟨t,rfl,ht⟩:=aAC rx
 obtain ⟨p,kvs,rfl,ha,ra,_⟩:=hp.at_ c ry
 refine ⟨p,valV kvs k,rfl,DGet.rt ha ht,?_⟩
 have e:(valV kvs k).isSome=(valD kds k).isSome:=by
  rcases KDs.val ra k with ⟨e1,e2⟩ | ⟨v,d,e1,e2,_⟩ <;> rw [e1,e2] <;> rfl
 rw [e]
 exact go _ _ H L (.bl _) c (.refl L H) q
theorem dr_notIn {k:List Key} (hp:DR L d kds) (q:Q (.bl (!(valD kds k).isSome)) L):L2R C qI (kD k) d L Q:=fun F vx vy H c rx ry QV go=>by
 obtain ⟨t,rfl,ht⟩:=aAC rx
 obtain ⟨p,kvs,rfl,ha,ra,_⟩:=hp.at_ c ry
 refine ⟨p,valV kvs k,rfl,DGet.rt ha ht,?_⟩
 have e:(valV kvs k).isSome=(valD kds k).isSome:=by
  rcases KDs.val ra k with ⟨e1,e2⟩ | ⟨v,d,e1,e2,_⟩ <;> rw [e1,e2] <;> rfl
 rw [e]
 exact go _ _ H L (.bl _) c (.refl L H) q
theorem lr_len (hp:LR L d ds) (q:Q (.int ds.length) L):LcR C (yR C.X.K) [d] L Q:=fun F vs H c r0 QV go=>by
 obtain ⟨v,rfl,r⟩:=r0.oneE
 obtain ⟨p,ws,rfl,ha,ra,hzz⟩:=hp.at_ c r
 refine ⟨p,ws,rfl,.inl (SqL.of ha),?_⟩
 rw [ra.length]
 exact go _ _ H L (.int _) c (.refl L H) q
abbrev aAq:List V→Hp→VK→Prop:=fun xs H Q=> ∃(p:Addr) (kvs:List (List Key×V)),xs= [.ref p]∧Rd H p (.dT kvs)∧Q (.int ((kvs.length:Nat):Int)) H
theorem call_lenD {X:Cx}:CallR X (.builtin "len") aAq:=by
 intro pins s σ H xs us Q I r h
 obtain ⟨p,kvs,rfl,hp,q⟩:=h
 obtain ⟨u,rfl,rx⟩:=vals1 r
 obtain rfl:u= .ref p:=rx
 obtain ⟨z,hd,ys,rel,dd⟩:=dt_rd I.hok hp
 have hl:kvs.length=ys.length:=Paired.length rel
 refine call_len_dictH hd dd (by rw [←hl];rw [sizeLine_eq] at z;omega) ?_
 rw [←hl]
 exact ⟨.int ((kvs.length:Nat):Int),H,I.tok _,⟨_,rfl⟩,q⟩
theorem dr_len (hp:DR L d kds) (q:Q (.int kds.length) L):LcR C aAq [d] L Q:=fun F vs H c r0 QV go=>by
 obtain ⟨v,rfl,r⟩:=r0.oneE
 obtain ⟨p,kvs,rfl,ha,ra,_⟩:=hp.at_ c r
 refine ⟨p,kvs,rfl,ha,?_⟩
 rw [Paired.length ra]
 exact go _ _ H L (.int _) c (.refl L H) q
theorem lr_ix {i:Int} {x:D} (hp:LR L d ds) (h:atI ds i=some x) (q:Q x L):L2R C (rIxL C.X.K) d (.int i) L Q:=fun F vx vy H c rx ry QV go=>by
 obtain ⟨p,vs,rfl,ha,ra,hz⟩:=hp.at_ c rx
 obtain ⟨v,h1,h2⟩:=qK ra h
 exact ⟨p,vs,i,v,rfl,ry.intE,SqL.of ha,h1,go _ _ H L h2 c (.refl L H) q⟩
theorem sE (hp:LR L d ds) (q:Q (.tup ds) L):LcR C (wZ C.X.K) [d] L Q:=fun F vs H c r0 QV go=>by
 obtain ⟨v,rfl,r⟩:=r0.oneE
 obtain ⟨p,ws,rfl,ha,ra,hzz⟩:=hp.at_ c r
 exact ⟨p,ws,rfl,.inl ⟨SqL.of ha,fun l hl=>go _ _ _ L (Rep.tupI upd_same (ra.mono (.new hl)) hzz) (c.new hl) (.new hl) q⟩⟩
theorem ai_flst {R:List D→(Lp→Prop)→Lp→Prop} (h:AE C e Γ L fun d L1=> ∃ds,d= .flst ds∧(ds.length≤sizeLine→R ds (fun _=>True) L1)):AI C tg e Γ L R:=fun F σ H ok RV go=>
 oN (pi_list bA) (h _ σ H ok _ fun v d H1 L1 r c f ⟨ds,ed,q⟩=>by
  subst ed
  cases r with
  | @flst p vs _ hl ha hzz hn hi=>
   have ra:=bG.of_get hn hi
   refine ⟨p,rfl,⟨vs,SqL.of ha⟩,go _ H1 L1 ds _ c f (fun i H2 L2 s2 c2 g2=> ?_) (q (by rw [←hn];exact hzz))⟩
   have hq:SqL C.X.K H2 p vs:=SqL.of (s2.fk _ _ hl ha)
   refine ⟨fun hi=>⟨vs,vs[i]'(by rw [hn];exact hi),hq,List.getElem?_eq_getElem _⟩,fun hi=>⟨vs,hq,by rw [hn,hi];exact Nat.le_refl _⟩,fun x H' y hi=> ?_⟩
   obtain ⟨e1,y⟩:=y
   subst e1
   obtain ⟨d,hd,rd⟩:=ra.getV (y vs hq)
   exact ⟨d,hd,rd.mono s2.mv,.inl rfl⟩)
end
end DL
namespace DL
open PySem PySem.Spec PyProof.Rows L2
abbrev Wd:=Str
abbrev Cell:=List Wd
abbrev Rl:=List (List Wd×List Cell)
def dW (ws:List Wd):D:= .tup (ws.map .str)
def dC (cs:List Cell):D:= .tup (cs.map dW)
def kS (ws:List Wd):List Key:=ws.map .inr
def tbl (rs:Rl):List (List Key×D):=rs.map fun r=>(kS r.1,dC r.2)
theorem aAB (ws:List Wd):kD (kS ws)=dW ws:=by
 unfold kD kS dW
 rw [List.map_map]
 rfl
theorem zA {a b:List Wd} (h:kS a=kS b):a=b:=by
 unfold kS at h
 exact (List.map_inj_right fun x y e=>Sum.inr.inj e).mp h
theorem cut_nn {α:Type} (xs:List α) (a b:Nat):cut xs (some (a:Int)) (some (b:Int))=(xs.drop a).take (b - a):=by
 unfold cut
 have h1:HT.sIx xs.length 0 (some (a:Int))=min a xs.length:=by
  unfold HT.sIx
  simp
  omega
 have h2:HT.sIx xs.length xs.length (some (b:Int))=min b xs.length:=by
  unfold HT.sIx
  simp
  omega
 rw [h1,h2]
 by_cases h:a≤xs.length
 ·rw [Nat.min_eq_left h]
  apply List.ext_getElem?
  intro i
  simp only [List.getElem?_take,List.getElem?_drop]
  by_cases hb:b≤xs.length
  ·rw [Nat.min_eq_left hb]
  ·rw [Nat.min_eq_right (by omega)]
   by_cases c1:i < xs.length - a
   ·rw [if_pos c1,if_pos (by omega)]
   ·rw [if_neg c1]
    split
    ·rw [List.getElem?_eq_none (by omega)]
    ·rfl
 ·have e:min a xs.length=xs.length:=Nat.min_eq_right (by omega)
  rw [e,List.drop_eq_nil_of_le (Nat.le_refl _),List.drop_eq_nil_of_le (by omega:xs.length≤a)]
  simp
theorem uH {α:Type} (xs:List α) (a:Nat):cut xs (some (a:Int)) none=xs.drop a:=by
 have h:cut xs (some (a:Int)) none=cut xs (some (a:Int)) (some (xs.length:Int)):=by
  unfold cut
  have e:HT.sIx xs.length xs.length (some (xs.length:Int))=xs.length:=by
   unfold HT.sIx
   simp
   intro h
   omega
  rw [e]
  rfl
 rw [h,cut_nn]
 apply List.take_of_length_le
 rw [List.length_drop]
 exact Nat.le_refl _
theorem vC {α:Type} (xs:List α) (b:Nat):cut xs none (some (b:Int))=xs.take b:=by
 have h:cut xs none (some (b:Int))=cut xs (some ((0:Nat):Int)) (some (b:Int)):=by
  unfold cut HT.sIx
  simp
 rw [h,cut_nn]
 simp
def lk (rs:Rl) (k:List Wd):Option (List Cell):=(rs.find? fun r=>decide (r.1=k)).map (·.2)
theorem val_tbl (rs:Rl) (k:List Wd):valD (tbl rs) (kS k)=(lk rs k).map dC:=by
 unfold valD tbl lk
 induction rs with
 | nil=>rfl
 | cons r rs ih=>
  rw [List.map_cons]
  by_cases e:r.1=k
  ·rw [List.find?_cons_of_pos (by simp [e]),List.find?_cons_of_pos (by simp [e])]
   rfl
  ·rw [List.find?_cons_of_neg (by simpa using fun z=>e (zA z)),List.find?_cons_of_neg (by simpa using e)]
   exact ih
theorem isSome_tbl (rs:Rl) (k:List Wd):(valD (tbl rs) (kS k)).isSome=(lk rs k).isSome:=by
 rw [val_tbl]
 cases lk rs k <;> rfl
def wAt (cs:List Cell) (a m:Nat):Option (List Wd):=
 if ((cs.drop a).take m).length < m∨((cs.drop a).take m).any (fun c=>decide (c.length≠1))=true then none else some (((cs.drop a).take m).map fun c=>c.headD Str.empty)
def fits (rs:Rl) (cs:List Cell) (a m:Nat):Bool:=match wAt cs a m with | some w=>(lk rs w).isSome | none=>false
def aAS (rs:Rl) (cs:List Cell) (a:Nat):Nat:=if fits rs cs a 3 then 3 else if fits rs cs a 2 then 2 else if fits rs cs a 1 then 1 else 0
def kAt (rs:Rl) (cs:List Cell) (a:Nat):List Wd:=if aAS rs cs a=0 then [] else (wAt cs a (aAS rs cs a)).getD []
theorem lk_mem {rs:Rl} {k:List Wd} {z:List Cell} (h:lk rs k=some z):(k,z)∈rs:=by
 unfold lk at h
 cases e:rs.find? (fun r=>decide (r.1=k)) with
 | none=>rw [e] at h;cases h
 | some r=>
  rw [e] at h
  cases h
  have h1:=List.find?_some e
  have h2:=List.mem_of_find?_eq_some e
  have:r.1=k:=of_decide_eq_true h1
  rw [←this]
  exact h2
def RL2 (rs:Rl):Prop:= ∀r∈rs,r.2.length≤2
theorem RL2.lk {rs:Rl} (h:RL2 rs) {k:List Wd} {z:List Cell} (e:lk rs k=some z):z.length≤2:=h _ (lk_mem e)
end DL
namespace DL
open PySem PySem.Spec PyProof.Rows L2
theorem okD_dW (ws:List Wd):okD (dW ws)=true:=by
 unfold dW
 rw [okD]
 exact nW _ _ fun x _=>by rw [okD]
theorem dep_all {ds:List PyData} {n:Nat} (h:∀d∈ds,d.depth≤n):(PyData.tuple ds).depth≤n+1:=by
 have key:∀ds:List PyData,(∀d∈ds,d.depth≤n)→PyData.depthAll ds≤n:=by
  intro ds
  induction ds with
  | nil=>intro _;rw [PyData.depthAll];exact Nat.zero_le _
  | cons d ds ih=>
   intro h
   rw [PyData.depthAll]
   exact Nat.max_le.mpr ⟨h d List.mem_cons_self,ih fun x hx=>h x (List.mem_cons_of_mem _ hx)⟩
 rw [PyData.depth]
 have:=key ds h
 omega
theorem dep_dW (ws:List Wd):(py (dW ws)).depth≤2:=by
 unfold dW
 rw [py,lM]
 refine dep_all fun d hd=> ?_
 obtain ⟨x,_,rfl⟩:=List.mem_map.mp hd
 rw [py,PyData.depth]
 first | exact Nat.le_refl _ | exact Nat.zero_le _
end DL
namespace DL
open PySem PySem.Spec PyProof.Rows L2
section
variable {C:Ctx} {Γ:Gm} {L:Lp} {Q:D→Lp→Prop} {o b:Expr} {pos:Pos}
theorem r_inW {p:D} {rs:Rl} {k:List Wd} (hp:DR L p (tbl rs)) (q:Q (.bl (lk rs k).isSome) L):L2R C zU (dW k) p L Q:=by
 rw [←aAB]
 refine dr_in hp ?_
 rw [isSome_tbl]
 exact q
theorem r_notInW {p:D} {rs:Rl} {k:List Wd} (hp:DR L p (tbl rs)) (q:Q (.bl (!(lk rs k).isSome)) L):L2R C qI (dW k) p L Q:=by
 rw [←aAB]
 refine dr_notIn hp ?_
 rw [isSome_tbl]
 exact q
end
end DL
namespace DL
open PySem PySem.Spec PyProof.Rows L2
end DL
namespace DL
open PySem PySem.Spec PyProof.Rows L2
def abc:List Nat:=("abcdefghijklmnopqrstuvwxyz" :Str).cps.toList
def wdS (x:Str):Bool:=decide (1≤x.length) && decide (x.length≤8) && x.cps.toList.all fun k=>decide (k∈abc)
def wdD:D→Bool
 | .str x=>wdS x
 | _=>false
def txD:D→Bool
 | .tup ds=>ds.all wdD
 | _=>false
def adj:List Wd→Bool
 | x::y::r=>decide (x.cps.toList < y.cps.toList) && adj (y::r)
 | _=>true
def ltP:D→Bool
 | .tup [.str x,.str y]=>decide (x.cps.toList < y.cps.toList)
 | _=>false
theorem adj_zip:∀ws:List Wd,(yH (ws.map .str) ((ws.drop 1).map .str)).all ltP=adj ws
 | []=>rfl
 | [_]=>rfl
 | x::y::r=>by
  show (decide _ && (yH ((y::r).map .str) (((y::r).drop 1).map .str)).all ltP)=_
  rw [adj_zip (y::r)]
  rfl
def ceD (d:D):Bool:=txD d && match d with | .tup ds=>decide (ds.length≤3) && adj (ds.map fun d=>match d with | .str x=>x | _=>Str.empty) | _=>false
def csD:D→Bool
 | .tup ds=>decide (ds.length≤2) && ds.all ceD
 | _=>false
def kyD:D→Bool
 | .tup ds=>ds.all wdD && decide (1≤ds.length) && decide (ds.length≤3)
 | _=>false
end DL
namespace DL
open PySem PySem.Spec PyProof.Rows L2
theorem signs_len (x:Str):(dR x).length=x.length:=by
 unfold dR
 rw [List.length_map,Array.length_toList]
 rfl
theorem signs_get {x:Str} {i:Nat} {d:D} (h:(dR x)[i]? =some d):∃k,x.cps.toList[i]? =some k∧d= .str (sgn k):=by
 unfold dR at h
 rw [List.getElem?_map] at h
 cases e:x.cps.toList[i]? with
 | none=>rw [e] at h;cases h
 | some k=>rw [e] at h;cases h;exact ⟨k,rfl,rfl⟩
end DL
namespace DL
open PySem PySem.Spec PyProof.Rows L2
theorem cut_one {α:Type} (xs:List α):cut xs (some 1) none=xs.drop 1:=uH xs 1
def ltK (a b:List Wd):Bool:=PySem.W.dataLt (py (dW a)) (py (dW b))
end DL
namespace DL
open PySem PySem.Spec PyProof.Rows L2
end DL
namespace DL
open PySem PySem.Spec PyProof.Rows L2
theorem zV (ws:List Wd):py (dW ws)= .tuple (ws.map PyData.str):=by
 unfold dW
 rw [py,lM]
 refine congrArg PyData.tuple (List.map_congr_left fun x _=> ?_)
 rw [py]
theorem alike_strs:∀a b:List Wd,PySem.W.alikeAll (a.map PyData.str) (b.map PyData.str)=true
 | [],_=>by rw [List.map_nil,PySem.W.alikeAll]
 | _::_,[]=>by rw [List.map_nil,List.map_cons,PySem.W.alikeAll]
 | x::a,y::b=>by
  rw [List.map_cons,List.map_cons,PySem.W.alikeAll,PySem.W.alike,alike_strs a b]
  rfl
theorem alike_dW (a b:List Wd):PySem.W.alike (py (dW a)) (py (dW b))=true:=by
 rw [zV,zV,PySem.W.alike]
 exact alike_strs a b
def tks (a:List Wd):List (Int ⊕ List Nat):=PySem.W.keyToks (py (dW a))
theorem ltK_irr (a:List Wd):ltK a a=false:=(listOrd itemOrd).irrefl (tks a)
theorem leD_dW (a b:List Wd):leD (dW a) (dW b)= !ltK b a:=rfl
def leR (a b:List Wd×List Cell):Bool:= !ltK b.1 a.1
def RiseK (rs:Rl):Prop:=rs.Pairwise fun a b=>ltK a.1 b.1=true
theorem riseK_nodup {rs:Rl} (h:RiseK rs):(rs.map (·.1)).Nodup:=by
 refine List.pairwise_map.mpr (List.Pairwise.imp (fun {a b} hab e=> ?_) h)
 rw [e,ltK_irr] at hab
 cases hab
section
variable {C:Ctx} {Γ:Gm} {L:Lp} {Q:D→Lp→Prop}
end

structure RuOk (rs:Rl):Prop where
 len:rs.length≤6
 key:∀r∈rs,kyD (dW r.1)=true
 cel:∀r∈rs,csD (dC r.2)=true
 up:RiseK rs
theorem kyD_iff {ws:List Wd} (h:kyD (dW ws)=true):(∀x∈ws,wdS x=true)∧1≤ws.length∧ws.length≤3:=by
 have h2:((ws.map D.str).all wdD && decide (1≤(ws.map D.str).length) && decide ((ws.map D.str).length≤3))=true:=h
 rw [Bool.and_eq_true,Bool.and_eq_true,List.length_map,List.all_map,List.all_eq_true] at h2
 exact ⟨h2.1.1,of_decide_eq_true h2.1.2,of_decide_eq_true h2.2⟩
theorem csD_iff {cs:List Cell} (h:csD (dC cs)=true):cs.length≤2∧∀c∈cs,ceD (dW c)=true:=by
 have h2:(decide ((cs.map dW).length≤2) && (cs.map dW).all ceD)=true:=h
 rw [Bool.and_eq_true,List.length_map,List.all_map,List.all_eq_true] at h2
 exact ⟨of_decide_eq_true h2.1,h2.2⟩
theorem RuOk.r2 {rs:Rl} (h:RuOk rs):RL2 rs:=fun r hr=>(csD_iff (h.cel r hr)).1
theorem RuOk.ne {rs:Rl} (h:RuOk rs):∀r∈rs,r.1≠ []:=fun r hr e=>by
 have:=(kyD_iff (h.key r hr)).2.1
 rw [e] at this
 exact absurd this (by decide)
theorem RuOk.nd {rs:Rl} (h:RuOk rs):(rs.map (·.1)).Nodup:=riseK_nodup h.up
end DL
namespace DL
open PySem PySem.Spec PyProof.Rows L2
structure FunX (K:PySem.W.Frag) (x qual:Str) (st:Stmt) (f:Addr) (fd:FuncData):Prop where
 ex:∃(oc:Value) (od:Option Addr) (dV kV doc pm:Value) (an:Option Addr) (cdv ct:Value) (osl:Array (Option Value)),
  fd=PySem.W.fnOf x qual (defArgs st) (defBody st) (defScope st) dV kV doc pm an cdv ct∧K.lookup f=some ⟨oc,od,.func fd,osl⟩∧PySem.W.codeIn K cdv qual=true
 kp:PySem.W.keepIn K (.ref f)=true
theorem FunX.of {K:PySem.W.Frag} {x qual:Str} {st:Stmt} {f:Addr} {fd:FuncData} (F:Fun K x qual st f fd):FunX K x qual st f fd:=by
 obtain ⟨⟨oc,od,kV,doc,pm,an,cdv,ct,osl,h⟩,kp⟩:=F
 exact ⟨⟨oc,od,.none,kV,doc,pm,an,cdv,ct,osl,h⟩,kp⟩
theorem FunX.binds {K:PySem.W.Frag} {x qual:Str} {st:Stmt} {f:Addr} {fd:FuncData} {ps:List Str} (F:FunX K x qual st f fd)
  (h:∀(dV kV doc pm:Value) (an:Option Addr) (cdv ct:Value) (us:List Value),us.length=ps.length→bindArgs (PySem.W.fnOf x qual (defArgs st) (defBody st) (defScope st) dV kV doc pm an cdv ct) ⟨us,[]⟩=pure (ps.zip us)):Binds K fd ps []:=by
 obtain ⟨oc,od,dV,kV,doc,pm,an,cdv,ct,osl,rfl,lk,hcd⟩:=F.ex
 exact .all (h dV kV doc pm an cdv ct)
end DL
namespace DL
open PySem PySem.Spec PyProof.Rows L2
theorem law_cx {P:Program} {w:World} {H:Hp} {s:Shared} {e:Value} {s':Shared} (z:L2.CX P w [] H s (fun _ _ _=>False) e s'):False:=by
 obtain ⟨_,_,_,_,_,_,_,_,_,_,_,_,z⟩:=z
 exact z
end DL
namespace DL
open PySem PySem.Spec PyProof.Rows L2
theorem binds_d {K:PySem.W.Frag} {fd:FuncData} {ps:List Str} {T:Addr} {o:Obj} {its:Array Value} {n:Nat} (lT:K.lookup T=some o) (oT:o.data= .seq its n)
  (h:∀us:List Value,us.length=ps.length→∃k,bindArgs fd ⟨us,[]⟩=seqItems? (.ref T) >>=k∧k (some its)=pure (ps.zip us)):Binds K fd ps []:=fun s us X hl=>by
 rw [List.append_nil] at hl ⊢
 obtain ⟨k,e1,e2⟩:=h us hl
 refine BindsTo.of_looks fun M=> ?_
 rw [e1]
 exact looks_items X lT oT (.of_pure e2)
end DL
namespace DL
open PySem PySem.Spec PyProof.Rows L2
theorem orO {X:Cx} {f:Value→Value→Sem Value} {r r':R2} (h:OpR X f r) (h':OpR X f r'):OpR X f (fun x y H Q=>r x y H Q∨r' x y H Q):=fun pins s σ H x y v u Q I rx ry q=>
 q.elim (h pins s σ H x y v u Q I rx ry) (h' pins s σ H x y v u Q I rx ry)
theorem orC {X:Cx} {f:Value} {r r':List V→Hp→VK→Prop} (h:CallR X f r) (h':CallR X f r'):CallR X f (fun xs H Q=>r xs H Q∨r' xs H Q):=fun pins s σ H xs us Q I rx q=>
 q.elim (h pins s σ H xs us Q I rx) (h' pins s σ H xs us Q I rx)
theorem ix_dT {X:Cx} (hu:X.A.units+1 < cLine):IxR X rGetDT:=fun value slice pins s σ H x y v u Q I rx ry h hs=>by
 obtain ⟨a,w,ex,g,q⟩:=h
 subst ex
 obtain rfl:v=Value.ref a:=rx
 exact tail_any (dict_typeIs I g) PySem.F.slot_dict_getitem.lookup (d_getItem hu I g ry fun w' s3 I3 rw'=>⟨w,H,I3,rw',q⟩) hs
section
variable {C:Ctx} {Γ:Gm} {L:Lp} {e a b c o:Expr} {es:List Expr} {pos:Pos} {st:Stmt} {sts:List Stmt} {E:AEnds} {Q:D→Lp→Prop} {x y:D} {r r':R2}
theorem L2R.le (h:L2R C r x y L Q):L2R C (fun x y H Q=>r x y H Q∨r' x y H Q) x y L Q:=fun F vx vy H c rx ry QV go=> .inl (h F vx vy H c rx ry QV go)
theorem L2R.ri (h:L2R C r' x y L Q):L2R C (fun x y H Q=>r x y H Q∨r' x y H Q) x y L Q:=fun F vx vy H c rx ry QV go=> .inr (h F vx vy H c rx ry QV go)
theorem LcR.le {r r':List V→Hp→VK→Prop} {xs:List D} (h:LcR C r xs L Q):LcR C (fun xs H Q=>r xs H Q∨r' xs H Q) xs L Q:=fun F vs H c rx QV go=> .inl (h F vs H c rx QV go)
theorem LcR.ri {r r':List V→Hp→VK→Prop} {xs:List D} (h:LcR C r' xs L Q):LcR C (fun xs H Q=>r xs H Q∨r' xs H Q) xs L Q:=fun F vs H c rx QV go=> .inr (h F vs H c rx QV go)

@[irreducible] def rAddA (K:PySem.W.Frag):R2:=fun x y H Q=>rI0 (fun i j=> .int (i+j)) x y H Q∨(fun x y H Q=>rAddS x y H Q∨(fun x y H Q=>rCatA K x y H Q∨rCat x y H Q) x y H Q) x y H Q
theorem op_addA {X:Cx}:OpR X (binaryOp .Add) (rAddA X.K):=by
 unfold rAddA
 exact orO op_add (orO op_add_str (orO op_catA op_cat))
theorem yE {i j:Int} (q:Q (.int (i+j)) L):L2R C (rAddA C.X.K) (.int i) (.int j) L Q:=by
 unfold rAddA
 exact .le (rW q)
theorem add_S {i j:Str} (q:Q (.str (i++j)) L) (h:i.length+j.length≤sizeLine):L2R C (rAddA C.X.K) (.str i) (.str j) L Q:=by
 unfold rAddA
 exact .ri (.le (yQ h q))
theorem add_T {xs ys:List D} (q:Q (.tup (xs++ys)) L) (h:xs.length+ys.length≤sizeLine):L2R C (rAddA C.X.K) (.tup xs) (.tup ys) L Q:=by
 unfold rAddA
 exact .ri (.ri (.le (r_catT h q)))
theorem add_L {p z:Addr} {xs ys:List D} (hp:L p=some (.lst xs)) (hz:L z=some (.lst ys)) (q:∀l,L l=none→Q (.ptr l) (put L l (.lst (xs++ys)))) (h:xs.length+ys.length≤sizeLine):L2R C (rAddA C.X.K) (.ptr p) (.ptr z) L Q:=by
 unfold rAddA
 exact .ri (.ri (.ri fun F vx vy H c rx ry QV go=>by
 obtain ⟨vs,ha,ra,_⟩:=c.at_ p _ hp
 obtain ⟨ws,hb,rb,_⟩:=c.at_ z _ hz
 refine ⟨p,z,vs,ws,rx.ptrE,ry.ptrE,ha,hb,by rw [ra.length,rb.length];exact h,fun l hl=> ?_⟩
 exact go _ _ _ (put L l (.lst (xs++ys))) (.ptr l) (c.newL hl ⟨_,upd_same,(ra.append rb).mono (.new hl),by rw [List.length_append];exact h⟩) (.newL hl) (q l (c.free hl))))
@[irreducible] def rMulA:R2:=fun x y H Q=>rI CMul (fun i j=> .int (i*j)) x y H Q∨aAp x y H Q
theorem op_mulA {X:Cx}:OpR X (binaryOp .Mult) rMulA:=by
 unfold rMulA
 exact orO op_mul op_mulS
theorem mul_I {i j:Int} (q:Q (.int (i*j)) L) (h:CMul i j):L2R C rMulA (.int i) (.int j) L Q:=by
 unfold rMulA
 exact .le (rQ h q)
theorem mul_S {z:Str} {n:Int} (q:Q (.str (vY z n.toNat)) L) (h0:0≤n) (h1:n≤1000000) (hz:z.length*n.toNat≤1000000):L2R C rMulA (.str z) (.int n) L Q:=by
 unfold rMulA
 exact .ri (r_mulS h0 h1 hz q)

mutual
def plD:D→Bool
 | .non=>true
 | .int _=>true
 | .str _=>true
 | .tup ds=>tQ ds
 | _=>false
def tQ:List D→Bool
 | []=>true
 | d::ds=>plD d && tQ ds
end
mutual
theorem plD_ok:∀d:D,plD d=true→okD d=true
 | .non,_=>by rw [okD]
 | .int _,_=>by rw [okD]
 | .str _,_=>by rw [okD]
 | .tup ds,h=>by rw [plD] at h;rw [okD];exact vZ ds h
 | .bl _,h=>by simp [plD] at h
 | .ty _,h=>by simp [plD] at h
 | .ptr _,h=>by simp [plD] at h
 | .ilst _,h=>by simp [plD] at h
 | .obj _ _,h=>by simp [plD] at h
 | .flst _,h=>by simp [plD] at h
 | .fdct _,h=>by simp [plD] at h
 | .kdct _,h=>by simp [plD] at h
 | .wds _,h=>by simp [plD] at h
 | .tk _,h=>by simp [plD] at h
 | .iob _ _,h=>by simp [plD] at h
theorem vZ:∀ds:List D,tQ ds=true→oM ds=true
 | [],_=>by rw [oM]
 | d::ds,h=>by
  rw [tQ,Bool.and_eq_true] at h
  rw [oM,plD_ok d h.1,vZ ds h.2]
  rfl
end
theorem tO {α:Type} (f:α→D):∀xs:List α,(∀x∈xs,plD (f x)=true)→tQ (xs.map f)=true
 | [],_=>by rw [List.map_nil,tQ]
 | x::xs,h=>by rw [List.map_cons,tQ,h x List.mem_cons_self,tO f xs fun y hy=>h y (List.mem_cons_of_mem _ hy)];rfl
end
end DL
namespace DL
open PySem PySem.Spec PyProof.Rows L2
mutual
theorem eqv_pl:∀(x y:D),plD x=true→plD y=true→PyData.eqv (py x) (py y)=true→x=y
 | .non,.non,_,_,_=>rfl
 | .int i,.int j,_,_,h=>by
  rw [py,py,PyData.eqv] at h
  rw [eq_of_beq h]
 | .str x,.str y,_,_,h=>by
  rw [py,py,PyData.eqv] at h
  rw [eq_of_beq h]
 | .tup xs,.tup ys,hx,hy,h=>by
  rw [plD] at hx hy
  rw [py,py,PyData.eqv] at h
  rw [eqvs_pl xs ys hx hy h]
 | .non,.int _,_,_,h=>by simp [py,PyData.eqv] at h
 | .non,.str _,_,_,h=>by simp [py,PyData.eqv] at h
 | .non,.tup _,_,_,h=>by simp [py,PyData.eqv] at h
 | .int _,.non,_,_,h=>by simp [py,PyData.eqv] at h
 | .int _,.str _,_,_,h=>by simp [py,PyData.eqv] at h
 | .int _,.tup _,_,_,h=>by simp [py,PyData.eqv] at h
 | .str _,.non,_,_,h=>by simp [py,PyData.eqv] at h
 | .str _,.int _,_,_,h=>by simp [py,PyData.eqv] at h
 | .str _,.tup _,_,_,h=>by simp [py,PyData.eqv] at h
 | .tup _,.non,_,_,h=>by simp [py,PyData.eqv] at h
 | .tup _,.int _,_,_,h=>by simp [py,PyData.eqv] at h
 | .tup _,.str _,_,_,h=>by simp [py,PyData.eqv] at h
 | .bl _,_,hx,_,_=>by simp [plD] at hx
 | .ty _,_,hx,_,_=>by simp [plD] at hx
 | .ptr _,_,hx,_,_=>by simp [plD] at hx
 | .ilst _,_,hx,_,_=>by simp [plD] at hx
 | .obj _ _,_,hx,_,_=>by simp [plD] at hx
 | .flst _,_,hx,_,_=>by simp [plD] at hx
 | .fdct _,_,hx,_,_=>by simp [plD] at hx
 | .kdct _,_,hx,_,_=>by simp [plD] at hx
 | .wds _,_,hx,_,_=>by simp [plD] at hx
 | .tk _,_,hx,_,_=>by simp [plD] at hx
 | .iob _ _,_,hx,_,_=>by simp [plD] at hx
 | _,.bl _,_,hy,_=>by simp [plD] at hy
 | _,.ty _,_,hy,_=>by simp [plD] at hy
 | _,.ptr _,_,hy,_=>by simp [plD] at hy
 | _,.ilst _,_,hy,_=>by simp [plD] at hy
 | _,.obj _ _,_,hy,_=>by simp [plD] at hy
 | _,.flst _,_,hy,_=>by simp [plD] at hy
 | _,.fdct _,_,hy,_=>by simp [plD] at hy
 | _,.kdct _,_,hy,_=>by simp [plD] at hy
 | _,.wds _,_,hy,_=>by simp [plD] at hy
 | _,.tk _,_,hy,_=>by simp [plD] at hy
 | _,.iob _ _,_,hy,_=>by simp [plD] at hy
theorem eqvs_pl:∀(xs ys:List D),tQ xs=true→tQ ys=true→PyData.eqvAll (pys xs) (pys ys)=true→xs=ys
 | [],[],_,_,_=>rfl
 | x::xs,y::ys,hx,hy,h=>by
  rw [tQ,Bool.and_eq_true] at hx hy
  rw [pys,pys,PyData.eqvAll,Bool.and_eq_true] at h
  rw [eqv_pl x y hx.1 hy.1 h.1,eqvs_pl xs ys hx.2 hy.2 h.2]
 | [],_::_,_,_,h=>by simp [pys,PyData.eqvAll] at h
 | _::_,[],_,_,h=>by simp [pys,PyData.eqvAll] at h
end
mutual
theorem eqv_rf:∀(x:D),plD x=true→PyData.eqv (py x) (py x)=true
 | .non,_=>by rw [py,PyData.eqv]
 | .int i,_=>by rw [py,PyData.eqv];exact beq_self_eq_true i
 | .str x,_=>by rw [py,PyData.eqv];exact beq_self_eq_true x
 | .tup xs,hx=>by
  rw [plD] at hx
  rw [py,PyData.eqv]
  exact eqvs_rf xs hx
 | .bl _,hx=>by simp [plD] at hx
 | .ty _,hx=>by simp [plD] at hx
 | .ptr _,hx=>by simp [plD] at hx
 | .ilst _,hx=>by simp [plD] at hx
 | .obj _ _,hx=>by simp [plD] at hx
 | .flst _,hx=>by simp [plD] at hx
 | .fdct _,hx=>by simp [plD] at hx
 | .kdct _,hx=>by simp [plD] at hx
 | .wds _,hx=>by simp [plD] at hx
 | .tk _,hx=>by simp [plD] at hx
 | .iob _ _,hx=>by simp [plD] at hx
theorem eqvs_rf:∀(xs:List D),tQ xs=true→PyData.eqvAll (pys xs) (pys xs)=true
 | [],_=>by rw [pys,PyData.eqvAll]
 | x::xs,hx=>by
  rw [tQ,Bool.and_eq_true] at hx
  rw [pys,PyData.eqvAll,eqv_rf x hx.1,eqvs_rf xs hx.2]
  rfl
end
theorem eqv_iff {x y:D} (hx:plD x=true) (hy:plD y=true):PyData.eqv (py x) (py y)=true↔x=y:=⟨eqv_pl x y hx hy,fun e=>by subst e;exact eqv_rf x hx⟩
class Enc (α:Type) where
 enc:α→D
 pl:∀x,plD (enc x)=true
 inj:∀x y,enc x=enc y→x=y
 dep:Nat
 dpt:∀x,(py (enc x)).depth≤dep
open Enc
instance:Enc Str:=⟨.str,fun _=>by rw [plD],fun _ _ h=>D.str.inj h,1,fun _=>by rw [py,PyData.depth];decide⟩
instance:Enc Int:=⟨.int,fun _=>by rw [plD],fun _ _ h=>D.int.inj h,1,fun _=>by rw [py,PyData.depth];decide⟩
instance:Enc Nat:=⟨fun n=> .int n,fun _=>by rw [plD],fun _ _ h=>Int.ofNat.inj (D.int.inj h),1,fun _=>by rw [py,PyData.depth];decide⟩
theorem rJ {ds:List PyData} {n:Nat} (h:∀d∈ds,d.depth≤n):(PyData.tuple ds).depth≤n+1:=by
 have key:∀ds:List PyData,(∀d∈ds,d.depth≤n)→PyData.depthAll ds≤n:=by
  intro ds
  induction ds with
  | nil=>intro _;rw [PyData.depthAll];exact Nat.zero_le _
  | cons d ds ih=>
   intro h
   rw [PyData.depthAll]
   exact Nat.max_le.mpr ⟨h d List.mem_cons_self,ih fun x hx=>h x (List.mem_cons_of_mem _ hx)⟩
 rw [PyData.depth]
 have:=key ds h
 omega
theorem map_encinj {α:Type} [Enc α]:∀xs ys:List α,xs.map (enc (α:=α))=ys.map enc→xs=ys
 | [],[],_=>rfl
 | x::xs,y::ys,h=>by
  rw [List.map_cons,List.map_cons] at h
  injection h with h1 h2
  rw [inj x y h1,map_encinj xs ys h2]
 | [],_::_,h=>by cases h
 | _::_,[],h=>by cases h
instance encL {α:Type} [Enc α]:Enc (List α):=⟨fun xs=> .tup (xs.map enc),fun xs=>by rw [plD];exact tO _ _ fun x _=>pl x,fun xs ys h=>map_encinj xs ys (D.tup.inj h),dep α+1,fun xs=>by
 rw [py,lM]
 refine rJ fun d hd=> ?_
 obtain ⟨x,_,rfl⟩:=List.mem_map.mp hd
 exact dpt x⟩
instance encP {α β:Type} [Enc α] [Enc β]:Enc (α×β):=⟨fun p=> .tup [enc p.1,enc p.2],fun p=>by rw [plD,tQ,tQ,tQ,pl,pl];rfl,fun p q h=>by
 have h:=D.tup.inj h
 injection h with h1 h2
 injection h2 with h2 _
 exact Prod.ext (inj _ _ h1) (inj _ _ h2),max (dep α) (dep β)+1,fun p=>by
 rw [py,pys,pys,pys]
 refine rJ fun d hd=> ?_
 rcases List.mem_cons.mp hd with e | hd
 ·rw [e];exact Nat.le_trans (dpt _) (Nat.le_max_left _ _)
 ·rw [List.mem_singleton.mp hd];exact Nat.le_trans (dpt _) (Nat.le_max_right _ _)⟩
structure T3 (α β γ:Type) where
 a:α
 b:β
 c:γ
instance encT {α β γ:Type} [Enc α] [Enc β] [Enc γ]:Enc (T3 α β γ):=⟨fun p=> .tup [enc p.a,enc p.b,enc p.c],fun p=>by rw [plD,tQ,tQ,tQ,tQ,pl,pl,pl];rfl,fun p q h=>by
 have h:=D.tup.inj h
 injection h with h1 h2
 injection h2 with h2 h3
 injection h3 with h3 _
 cases p
 cases q
 congr 1
 ·exact inj _ _ h1
 ·exact inj _ _ h2
 ·exact inj _ _ h3,max (dep α) (max (dep β) (dep γ))+1,fun p=>by
 rw [py,pys,pys,pys,pys]
 refine rJ fun d hd=> ?_
 rcases List.mem_cons.mp hd with e | hd
 ·rw [e];exact Nat.le_trans (dpt _) (Nat.le_max_left _ _)
 ·rcases List.mem_cons.mp hd with e | hd
  ·rw [e];exact Nat.le_trans (dpt _) (Nat.le_trans (Nat.le_max_left _ _) (Nat.le_max_right _ _))
  ·rw [List.mem_singleton.mp hd];exact Nat.le_trans (dpt _) (Nat.le_trans (Nat.le_max_right _ _) (Nat.le_max_right _ _))⟩
theorem vB {α:Type} [Enc α] (x:α):okD (enc x)=true:=plD_ok _ (pl x)
theorem eqv_enc {α:Type} [Enc α] (x y:α):PyData.eqv (py (enc x)) (py (enc y))=true↔x=y:=(eqv_iff (pl x) (pl y)).trans ⟨inj x y,fun e=>by rw [e]⟩

theorem wF {α:Type} [Enc α] [DecidableEq α] (x y:α):PyData.eqv (py (enc x)) (py (enc y))=decide (x=y):=by
 by_cases h:x=y
 ·rw [decide_eq_true h];exact (eqv_enc x y).mpr h
 ·rw [decide_eq_false h]
  cases e:PyData.eqv (py (enc x)) (py (enc y)) with
  | false=>rfl
  | true=>exact absurd ((eqv_enc x y).mp e) h
section
variable {C:Ctx} {Γ:Gm} {L:Lp} {Q:D→Lp→Prop} {x y:D}
@[irreducible] def rEqA (K:PySem.W.Frag):R2:=fun x y H Q=>rEq x y H Q∨rEqD K x y H Q
theorem yV {X:Cx} (hu:X.A.units+64 < cLine):OpR X (compareOp .Eq) (rEqA X.K):=by
 unfold rEqA
 exact orO op_eq (op_eqD hu)
@[irreducible] def rNeA (K:PySem.W.Frag):R2:=fun x y H Q=>rNe x y H Q∨rNeD K x y H Q
theorem op_neA {X:Cx} (hu:X.A.units+64 < cLine):OpR X (compareOp .NotEq) (rNeA X.K):=by
 unfold rNeA
 exact orO op_ne (op_neD hu)
theorem aAD {i j:Int} (q:Q (.bl (decide (i=j))) L):L2R C (rEqA C.X.K) (.int i) (.int j) L Q:=by
 unfold rEqA
 exact .le (r_eqI q)
theorem aAL {i j:Int} (q:Q (.bl (!decide (i=j))) L):L2R C (rNeA C.X.K) (.int i) (.int j) L Q:=by
 unfold rNeA
 exact .le (r_neI q)
theorem aAU {i j:Str} (q:Q (.bl (decide (i=j))) L):L2R C (rEqA C.X.K) (.str i) (.str j) L Q:=by
 unfold rEqA
 exact .le (r_eqS q)
theorem ne_S {i j:Str} (q:Q (.bl (!decide (i=j))) L):L2R C (rNeA C.X.K) (.str i) (.str j) L Q:=by
 unfold rNeA
 exact .le (r_neS q)
theorem eq_D (hx:okD x=true) (hy:okD y=true) (dx:(py x).depth≤64) (dy:(py y).depth≤64) (q:Q (.bl (PyData.eqv (py x) (py y))) L):L2R C (rEqA C.X.K) x y L Q:=by
 unfold rEqA
 exact .ri (r_eqD hx hy dx dy q)
theorem ne_D (hx:okD x=true) (hy:okD y=true) (dx:(py x).depth≤64) (dy:(py y).depth≤64) (q:Q (.bl (!PyData.eqv (py x) (py y))) L):L2R C (rNeA C.X.K) x y L Q:=by
 unfold rNeA
 exact .ri (r_neD hx hy dx dy q)
theorem eq_E {α:Type} [Enc α] [DecidableEq α] {x y:α} (q:Q (.bl (decide (x=y))) L) (h:dep α≤64:=by decide):L2R C (rEqA C.X.K) (enc x) (enc y) L Q:=by
 exact eq_D (vB x) (vB y) (Nat.le_trans (dpt x) h) (Nat.le_trans (dpt y) h) (by rw [wF];exact q)

theorem ne_E {α:Type} [Enc α] [DecidableEq α] {x y:α} (q:Q (.bl (!decide (x=y))) L) (h:dep α≤64:=by decide):L2R C (rNeA C.X.K) (enc x) (enc y) L Q:=by
 exact ne_D (vB x) (vB y) (Nat.le_trans (dpt x) h) (Nat.le_trans (dpt y) h) (by rw [wF];exact q)
end
end DL
namespace DL
open PySem PySem.Spec PyProof.Rows L2
section
variable {C:Ctx} {Γ:Gm} {L:Lp} {e a b c o tg iter elt:Expr} {es:List Expr} {pos p p1 p2:Pos} {st:Stmt} {sts:List Stmt} {E:AEnds} {Q:D→Lp→Prop} {x y:D}
@[irreducible] def rLtA (K:PySem.W.Frag):R2:=fun x y H Q=>rI0 (fun i j=> .bl (decide (i < j))) x y H Q∨(fun x y H Q=>rLtS x y H Q∨rLtD K x y H Q) x y H Q
theorem op_ltA {X:Cx} (hu:X.A.units+64 < cLine):OpR X (compareOp .Lt) (rLtA X.K):=by
 unfold rLtA
 exact orO op_lt (orO op_lt_str (op_ltD hu))
theorem aA2 {i j:Int} (q:Q (.bl (decide (i < j))) L):L2R C (rLtA C.X.K) (.int i) (.int j) L Q:=by
 unfold rLtA
 exact .le (aA6 q)
theorem lt_S {i j:Str} (q:Q (.bl (decide (i.cps.toList < j.cps.toList))) L):L2R C (rLtA C.X.K) (.str i) (.str j) L Q:=by
 unfold rLtA
 exact .ri (.le (r_ltS q))
abbrev rIsN:R2:=fun x y H Q=>y= .non∧Q (.bl (decide (x= .non))) H
def isN:D→Bool
 | .non=>true
 | _=>false
theorem is_N (q:Q (.bl (isN x)) L):L2R C rIsN x .non L Q:=fun F vx vy H c rx ry QV go=>by
 refine ⟨ry.nonE,?_⟩
 have e:decide (vx=V.non)=isN x:=by
  cases rx <;> simp [isN]
 rw [e]
 exact go _ _ H L (.bl _) c (.refl L H) q
theorem not_N (q:Q (.bl (!isN x)) L):L2R C rNotN x .non L Q:=fun F vx vy H c rx ry QV go=>by
 refine ⟨ry.nonE,?_⟩
 have e:(!decide (vx=V.non))= !isN x:=by
  cases rx <;> simp [isN]
 rw [e]
 exact go _ _ H L (.bl _) c (.refl L H) q
@[irreducible] def rIxA (K:PySem.W.Frag):R2:=fun x y H Q=>rIxT K x y H Q∨(fun x y H Q=>rIxL K x y H Q∨(fun x y H Q=>rIxS x y H Q∨rGetDT x y H Q) x y H Q) x y H Q
theorem dJ {X:Cx} (hu:X.A.units+1 < cLine):IxR X (rIxA X.K):=by
 unfold rIxA
 exact ix_tup.or (ix_list.or (ix_str.or (ix_dT hu)))
theorem bQ {xs:List D} {i:Int} {d:D} (q:Q d L) (h:atI xs i=some d):L2R C (rIxA C.X.K) (.tup xs) (.int i) L Q:=by
 unfold rIxA
 exact .le (r_ixT h q)
theorem ixa_N {ns:List Int} {i k:Int} (q:Q (.int k) L) (h:atI ns i=some k):L2R C (rIxA C.X.K) (.ilst ns) (.int i) L Q:=by
 unfold rIxA
 exact .ri (.le (r_ixN h q))
@[irreducible] def rSlAA (K:PySem.W.Frag):V→Option Int→Option Int→Hp→VK→Prop:=fun x lo hi H Q=>rSlA K x lo hi H Q∨(fun x lo hi H Q=>rSlL K x lo hi H Q∨rSlS x lo hi H Q) x lo hi H Q
theorem aAZ {X:Cx}:SlR X (rSlAA X.K):=by
 unfold rSlAA
 exact sl_tupA.or (sl_list.or sl_str)
theorem sla_T {xs:List D} {lo hi:Option Int} (q:Q (.tup (cut xs lo hi)) L):LsR C (rSlAA C.X.K) (.tup xs) lo hi L Q:=by
 unfold rSlAA
 exact fun F v H c r QV go=> .inl (s_tup q F v H c r QV go)
theorem sla_L {p:Addr} {xs:List D} {lo hi:Option Int} (hp:L p=some (.lst xs)) (q:∀l,L l=none→Q (.ptr l) (put L l (.lst (cut xs lo hi)))):LsR C (rSlAA C.X.K) (.ptr p) lo hi L Q:=by
 unfold rSlAA
 exact fun F v H c r QV go=> .inr (.inl (s_lst hp q F v H c r QV go))
theorem sla_S {z:Str} {lo hi:Option Int} (q:Q (.str (cutS z lo hi)) L):LsR C (rSlAA C.X.K) (.str z) lo hi L Q:=by
 unfold rSlAA
 exact fun F v H c r QV go=> .inr (.inr (zQ q F v H c r QV go))
@[irreducible] def rLeA:R2:=rI0 fun i j=> .bl (decide (i≤j))
theorem mG {X:Cx}:OpR X (compareOp .LtE) rLeA:=by
 unfold rLeA
 exact op_le
theorem le_I {i j:Int} (q:Q (.bl (decide (i≤j))) L):L2R C rLeA (.int i) (.int j) L Q:=by
 unfold rLeA
 exact aA7 q
@[irreducible] def rGtA:R2:=rI0 fun i j=> .bl (decide (j < i))
theorem op_gtA {X:Cx}:OpR X (compareOp .Gt) rGtA:=by
 unfold rGtA
 exact op_gt
theorem aAN {i j:Int} (q:Q (.bl (decide (j < i))) L):L2R C rGtA (.int i) (.int j) L Q:=by
 unfold rGtA
 exact r_gt q
@[irreducible] def rGeA:R2:=rI0 fun i j=> .bl (decide (j≤i))
theorem op_geA {X:Cx}:OpR X (compareOp .GtE) rGeA:=by
 unfold rGeA
 exact op_ge
theorem ge_I {i j:Int} (q:Q (.bl (decide (j≤i))) L):L2R C rGeA (.int i) (.int j) L Q:=by
 unfold rGeA
 exact r_ge q
@[irreducible] def rSubA:R2:=rI0 fun i j=> .int (i - j)
theorem op_subA {X:Cx}:OpR X (binaryOp .Sub) rSubA:=by
 unfold rSubA
 exact op_sub
theorem xR {i j:Int} (q:Q (.int (i - j)) L):L2R C rSubA (.int i) (.int j) L Q:=by
 unfold rSubA
 exact r_sub q
@[irreducible] def rModA:R2:=rI (fun _ j=>0 < j) fun i j=> .int (i % j)
theorem op_modA {X:Cx}:OpR X (binaryOp .Mod) rModA:=by
 unfold rModA
 exact op_mod
theorem mod_I {i j:Int} (q:Q (.int (i % j)) L) (h:0 < j):L2R C rModA (.int i) (.int j) L Q:=by
 unfold rModA
 exact rR h q
@[irreducible] def rDivA:R2:=rI CDiv fun i j=> .int (i / j)
theorem op_divA {X:Cx}:OpR X (binaryOp .FloorDiv) rDivA:=by
 unfold rDivA
 exact op_fdiv
theorem div_I {i j:Int} (q:Q (.int (i / j)) L) (h:CDiv i j):L2R C rDivA (.int i) (.int j) L Q:=by
 unfold rDivA
 exact yP h q
@[irreducible] def rIsA:R2:=rIsN
theorem op_isA {X:Cx}:OpR X (compareOp .Is) rIsA:=by
 unfold rIsA
 exact op_isN
theorem isa_N (q:Q (.bl (isN x)) L):L2R C rIsA x .non L Q:=by
 unfold rIsA
 exact is_N q
@[irreducible] def rIsNotA:R2:=rNotN
theorem op_isNotA {X:Cx}:OpR X (compareOp .IsNot) rIsNotA:=by
 unfold rIsNotA
 exact op_notN
theorem isnota_N (q:Q (.bl (!isN x)) L):L2R C rIsNotA x .non L Q:=by
 unfold rIsNotA
 exact not_N q
@[irreducible] def rLenA (K:PySem.W.Frag):List V→Hp→VK→Prop:=fun xs H Q=>yR K xs H Q∨(fun xs H Q=>rLenSt xs H Q∨aAq xs H Q) xs H Q
theorem call_lenA {X:Cx}:CallR X (.builtin "len") (rLenA X.K):=by
 unfold rLenA
 exact orC call_len_seq (orC call_len_str call_lenD)
end
end DL
namespace DL
open PySem PySem.Spec PyProof.Rows L2
abbrev cl (x:Str):List Nat:=x.cps.toList
theorem xO (x:Str):(cl x).length=x.length:=Array.length_toList ..
def aAP (ks:List Nat):Bool:=ks.all fun k=>decide (k∈abc)
theorem wdS_cl (x:Str):wdS x=(decide (1≤(cl x).length) && decide ((cl x).length≤8) && aAP (cl x)):=by
 rw [xO]
 rfl
theorem uV {x:Str} (h1:1≤(cl x).length) (h2:(cl x).length≤8) (h3:aAP (cl x)=true):wdS x=true:=by
 rw [wdS_cl,decide_eq_true h1,decide_eq_true h2,h3]
 rfl
theorem wdS_iff {x:Str} (h:wdS x=true):1≤(cl x).length∧(cl x).length≤8∧aAP (cl x)=true:=by
 rw [wdS_cl,Bool.and_eq_true,Bool.and_eq_true] at h
 exact ⟨of_decide_eq_true h.1.1,of_decide_eq_true h.1.2,h.2⟩
theorem qM {a:List Nat} (h:aAP a=true):∀k∈a,k∈abc:=fun k hk=>of_decide_eq_true (List.all_eq_true.mp h k hk)
theorem pP {a:List Nat} (h:∀k∈a,k∈abc):aAP a=true:=List.all_eq_true.mpr fun k hk=>decide_eq_true (h k hk)
theorem wI (ks:List Nat):cl (Txt.join Str.empty (ks.map sgn))=ks:=by
 rw [TL.join_eq]
 have h:=TL.tl_join Str.empty (ks.map sgn)
 have e:∀ks:List Nat,TL.joinL (TL.tl Str.empty) ((ks.map sgn).map TL.tl)=ks:=by
  intro ks
  induction ks with
  | nil=>rfl
  | cons k ks ih=>
   cases ks with
   | nil=>rfl
   | cons k2 ks=>
    show [k]++([]++TL.joinL (TL.tl Str.empty) (((k2::ks).map sgn).map TL.tl))=_
    rw [ih]
    rfl
 exact h.trans (e ks)
theorem cl_rep (x:Str) (n:Nat):cl (vY x n)=(List.replicate n (cl x)).flatten:=by
 unfold vY cl
 simp
theorem cl_app (x y:Str):cl (x++y)=cl x++cl y:=by
 show (x.cps++y.cps).toList=_
 simp
theorem vD (z:Str) (lo hi:Option Int):cl (cutS z lo hi)=cut (cl z) lo hi:=by
 unfold cutS cl cut
 simp
 rfl
theorem cl_sgn (k:Nat):cl (sgn k)= [k]:=rfl
theorem signs_mem {x:Str} {d:D} (h:d∈dR x):∃k,k∈cl x∧d= .str (sgn k):=by
 unfold dR at h
 obtain ⟨k,hk,rfl⟩:=List.mem_map.mp h
 exact ⟨k,hk,rfl⟩
theorem filter_len {α:Type} [DecidableEq α] (l:List α) (nd:l.Nodup):∀ys:List α,l.length≤(l.filter fun x=> !decide (x∈ys)).length+ys.length
 | []=>by
  rw [List.filter_eq_self.mpr (by simp)]
  exact Nat.le_refl _
 | y::ys=>by
  have ih:=filter_len l nd ys
  have e:(l.filter fun x=> !decide (x∈y::ys))=(l.filter fun x=> !decide (x∈ys)).filter fun x=> !decide (x=y):=by
   rw [List.filter_filter]
   congr 1
   funext x
   by_cases h1:x=y <;> by_cases h2:x∈ys <;> simp [h1,h2]
  have nd2:(l.filter fun x=> !decide (x∈ys)).Nodup:=nd.filter _
  have h3:∀m:List α,m.Nodup→m.length≤(m.filter fun x=> !decide (x=y)).length+1:=by
   intro m
   induction m with
   | nil=>intro _;exact Nat.zero_le _
   | cons x m ihm=>
    intro hm
    obtain ⟨h1,h2⟩:=List.nodup_cons.mp hm
    by_cases hx:x=y
    ·rw [List.filter_cons_of_neg (by simp [hx]),List.length_cons]
     have:m.filter (fun x=> !decide (x=y))=m:=List.filter_eq_self.mpr fun z hz=>by
      have:z≠y:=fun e=>h1 (by rw [hx,←e];exact hz)
      simp [this]
     rw [this]
     exact Nat.le_refl _
    ·rw [List.filter_cons_of_pos (by simp [hx]),List.length_cons,List.length_cons]
     have:=ihm h2
     omega
  have:=h3 _ nd2
  rw [e,List.length_cons]
  omega
theorem sum_sgn:∀ks:List Nat,((ks.map sgn).map (·.length)).sum=ks.length
 | []=>rfl
 | k::ks=>by
  rw [List.map_cons,List.map_cons,List.sum_cons,sum_sgn ks,List.length_cons]
  show 1+_=_
  omega
theorem abc_nodup:(abc.map sgn).Nodup:=by decide+kernel
theorem abc_len:abc.length=26:=by decide+kernel
theorem abc_ne:∀ys:List Str,ys.length < 26→∃k r,(abc.map sgn).filter (fun x=> !decide (x∈ys))=sgn k::r∧k∈abc:=fun ys h=>by
 have h1:=filter_len (abc.map sgn) abc_nodup ys
 rw [List.length_map,abc_len] at h1
 cases e:(abc.map sgn).filter (fun x=> !decide (x∈ys)) with
 | nil=>rw [e] at h1;simp at h1;omega
 | cons x r=>
  have hx:x∈(abc.map sgn).filter (fun x=> !decide (x∈ys)):=by rw [e];exact List.mem_cons_self
  obtain ⟨k,hk,rfl⟩:=List.mem_map.mp (List.mem_filter.mp hx).1
  exact ⟨k,r,rfl,hk⟩
section
variable {C:Ctx} {Γ:Gm} {L:Lp} {Q:D→Lp→Prop}
theorem jY (x:Str) (ys:List Str):inV (.str x) (ys.map V.str)=decide (x∈ys):=by
 unfold inV
 rw [List.any_map]
 induction ys with
 | nil=>rfl
 | cons y ys ih=>
  rw [List.any_cons,ih]
  show ((y==x) || _)=_
  by_cases h:x=y
  ·subst h;simp
  ·have:(y==x)=false:=by simpa using fun e=>h e.symm
   rw [this]
   simp [h]
theorem r_inL {p:Addr} {x:Str} {ys:List Str} (hp:L p=some (.lst (ys.map D.str))) (q:Q (.bl (decide (x∈ys))) L):L2R C (rIn C.X.K false) (.str x) (.ptr p) L Q:=fun F vx vy H c rx ry QV go=>by
 obtain ⟨ws,ha,ra,_⟩:=c.at_ p _ hp
 have e:=cX ra
 subst e
 refine ⟨p,_,ry.ptrE,.inl (SqL.of ha),by rw [rx.strE];rfl,by rw [List.all_map];exact List.all_eq_true.mpr fun _ _=>rfl,?_⟩
 rw [rx.strE]
 show QV (.bl (inV (.str x) (ys.map V.str))) H
 rw [jY]
 exact go _ _ H L (.bl _) c (.refl L H) q
theorem r_notInL {p:Addr} {x:Str} {ys:List Str} (hp:L p=some (.lst (ys.map D.str))) (q:Q (.bl (!decide (x∈ys))) L):L2R C (rIn C.X.K true) (.str x) (.ptr p) L Q:=fun F vx vy H c rx ry QV go=>by
 obtain ⟨ws,ha,ra,_⟩:=c.at_ p _ hp
 have e:=cX ra
 subst e
 refine ⟨p,_,ry.ptrE,.inl (SqL.of ha),by rw [rx.strE];rfl,by rw [List.all_map];exact List.all_eq_true.mpr fun _ _=>rfl,?_⟩
 rw [rx.strE]
 show QV (.bl (!inV (.str x) (ys.map V.str))) H
 rw [jY]
 exact go _ _ H L (.bl _) c (.refl L H) q
end
end DL
namespace DL
open PySem PySem.Spec PyProof.Rows L2
theorem jA {C:Ctx} {Γ:Gm} {L:Lp} {E:AEnds} {st:Stmt} {sts:List Stmt} (M:Gm→Lp→Prop) (h:AS C st Γ L {E with nx:=M}) (h2:∀Γ' L',M Γ' L'→ASs C sts Γ' L' E):ASs C (st::sts) Γ L E:=
 aH fun F σ H ok DD go=>h F σ H ok DD ⟨fun s H2 Γ2 L2 o f q=>go.nx s H2 Γ2 L2 o f (h2 _ _ q),go.rt,go.bk,go.ct⟩
def St2 (L:Lp) (p:Addr) (mo:MO) (n:Addr) (x:MO):Lp:=put (put L p mo) n x
theorem St2.p {L:Lp} {p n:Addr} {mo x:MO} (h:n≠p):St2 L p mo n x p=some mo:=by
 unfold St2
 rw [aJ (Ne.symm h),aD]
theorem St2.n {L:Lp} {p n:Addr} {mo x:MO}:St2 L p mo n x n=some x:=aD
theorem St2.putP {L:Lp} {p n:Addr} {mo mo' x:MO} (h:n≠p):put (St2 L p mo n x) p mo'=St2 L p mo' n x:=by
 unfold St2
 rw [fK h,bR]
theorem St2.putN {L:Lp} {p n:Addr} {mo x x':MO}:put (St2 L p mo n x) n x'=St2 L p mo n x':=bR
theorem St2.le {L:Lp} {p n:Addr} {mo x:MO} (h:L n=none) (hn:n≠p):Le (put L p mo) (St2 L p mo n x):=aN (by rw [aJ hn];exact h)
end DL
namespace DL
open PySem PySem.Spec PyProof.Rows L2
end DL
namespace DL
open PySem PySem.Spec PyProof.Rows L2
section
variable {C:Ctx} {Γ:Gm} {L:Lp} {Q:D→Lp→Prop}
end
def hd0 (c:Cell):Wd:=c.headD Str.empty
end DL
namespace DL
open PySem PySem.Spec PyProof.Rows L2
section
variable {C:Ctx} {Γ:Gm} {L:Lp} {e a b c o tg iter elt:Expr} {es:List Expr} {pos p p1 p2:Pos} {st:Stmt} {sts:List Stmt} {E:AEnds} {Q:D→Lp→Prop} {x y d:D} {ds:List D} {kds:List (List Key×D)}
@[irreducible] def rInA (K:PySem.W.Frag):R2:=fun x y H Q=>zU x y H Q∨(fun x y H Q=>rInSign x y H Q∨rIn K false x y H Q) x y H Q
theorem op_inA {X:Cx} (hu:X.A.units+1 < cLine):OpR X (compareOp .In) (rInA X.K):=by
 unfold rInA
 exact orO (op_inDT hu) (orO op_in_sign op_in_seq)
@[irreducible] def rNotInA (K:PySem.W.Frag):R2:=fun x y H Q=>qI x y H Q∨rIn K true x y H Q
theorem op_notInA {X:Cx} (hu:X.A.units+1 < cLine):OpR X (compareOp .NotIn) (rNotInA X.K):=by
 unfold rNotInA
 exact orO (op_notInDT hu) op_notIn_seq
theorem in_W {rs:Rl} {k:List Wd} (hp:DR L d (tbl rs)) (q:Q (.bl (lk rs k).isSome) L):L2R C (rInA C.X.K) (dW k) d L Q:=by
 unfold rInA
 exact .le (r_inW hp q)
theorem notIn_W {rs:Rl} {k:List Wd} (hp:DR L d (tbl rs)) (q:Q (.bl (!(lk rs k).isSome)) L):L2R C (rNotInA C.X.K) (dW k) d L Q:=by
 unfold rNotInA
 exact .le (r_notInW hp q)
theorem in_sign {k:Nat} {z:Str} (q:Q (.bl (decide (k∈z.cps.toList))) L):L2R C (rInA C.X.K) (.str (sgn k)) (.str z) L Q:=by
 unfold rInA
 exact .ri (.le (r_inSign q))
theorem in_L {x:Str} {ys:List Str} (hp:LR L d (ys.map D.str)) (q:Q (.bl (decide (x∈ys))) L):L2R C (rInA C.X.K) (.str x) d L Q:=by
 unfold rInA
 exact .ri (.ri fun F vx vy H c rx ry QV go=>by
 obtain ⟨p,ws,rfl,ha,ra,_⟩:=hp.at_ c ry
 have e:=cX ra
 subst e
 refine ⟨p,_,rfl,.inl (SqL.of ha),by rw [rx.strE];rfl,by rw [List.all_map];exact List.all_eq_true.mpr fun _ _=>rfl,?_⟩
 rw [rx.strE]
 show QV (.bl (inV (.str x) (ys.map V.str))) H
 rw [jY]
 exact go _ _ H L (.bl _) c (.refl L H) q)
theorem in_T {x:Str} {ys:List Str} (q:Q (.bl (decide (x∈ys))) L):L2R C (rInA C.X.K) (.str x) (.tup (ys.map D.str)) L Q:=by
 unfold rInA
 exact .ri (.ri fun F vx vy H c rx ry QV go=>by
 obtain ⟨p,ws,rfl,ha,ra⟩:=ry.tupE
 have e:=cX ra
 subst e
 refine ⟨p,_,rfl,.inr (SqT.of ha),by rw [rx.strE];rfl,by rw [List.all_map];exact List.all_eq_true.mpr fun _ _=>rfl,?_⟩
 rw [rx.strE]
 show QV (.bl (inV (.str x) (ys.map V.str))) H
 rw [jY]
 exact go _ _ H L (.bl _) c (.refl L H) q)
theorem notIn_L {x:Str} {ys:List Str} (hp:LR L d (ys.map D.str)) (q:Q (.bl (!decide (x∈ys))) L):L2R C (rNotInA C.X.K) (.str x) d L Q:=by
 unfold rNotInA
 refine .ri fun F vx vy H c rx ry QV go=> ?_
 obtain ⟨p,ws,rfl,ha,ra,_⟩:=hp.at_ c ry
 have e:=cX ra
 subst e
 refine ⟨p,_,rfl,.inl (SqL.of ha),by rw [rx.strE];rfl,by rw [List.all_map];exact List.all_eq_true.mpr fun _ _=>rfl,?_⟩
 rw [rx.strE]
 show QV (.bl (!inV (.str x) (ys.map V.str))) H
 rw [jY]
 exact go _ _ H L (.bl _) c (.refl L H) q
theorem notIn_T {x:Str} {ys:List Str} (q:Q (.bl (!decide (x∈ys))) L):L2R C (rNotInA C.X.K) (.str x) (.tup (ys.map D.str)) L Q:=by
 unfold rNotInA
 refine .ri fun F vx vy H c rx ry QV go=> ?_
 obtain ⟨p,ws,rfl,ha,ra⟩:=ry.tupE
 have e:=cX ra
 subst e
 refine ⟨p,_,rfl,.inr (SqT.of ha),by rw [rx.strE];rfl,by rw [List.all_map];exact List.all_eq_true.mpr fun _ _=>rfl,?_⟩
 rw [rx.strE]
 show QV (.bl (!inV (.str x) (ys.map V.str))) H
 rw [jY]
 exact go _ _ H L (.bl _) c (.refl L H) q
theorem pD {i:Int} {x:D} (hp:LR L d ds) (q:Q x L) (h:atI ds i=some x):L2R C (rIxA C.X.K) d (.int i) L Q:=by
 unfold rIxA
 exact .ri (.le (lr_ix hp h q))
theorem len_T (q:Q (.int ds.length) L):LcR C (rLenA C.X.K) [.tup ds] L Q:=by
 unfold rLenA
 exact .le (c_lenT q)
theorem len_N {ns:List Int} (q:Q (.int ns.length) L):LcR C (rLenA C.X.K) [.ilst ns] L Q:=by
 unfold rLenA
 exact .le (c_lenN q)
theorem qG (hp:LR L d ds) (q:Q (.int ds.length) L):LcR C (rLenA C.X.K) [d] L Q:=by
 unfold rLenA
 exact .le (lr_len hp q)
theorem len_S {z:Str} (q:Q (.int z.length) L):LcR C (rLenA C.X.K) [.str z] L Q:=by
 unfold rLenA
 exact .ri (.le (zG q))
theorem len_D (hp:DR L d kds) (q:Q (.int kds.length) L):LcR C (rLenA C.X.K) [d] L Q:=by
 unfold rLenA
 exact .ri (.ri (dr_len hp q))
def AL (C:Ctx) (e:Expr) (Γ:Gm) (L:Lp) (R:List D→Lp→Prop):Prop:=AE C e Γ L fun d L2=> ∃L1 p ds,d= .ptr p∧L1 p=none∧L2=put L1 p (.lst ds)∧(ds.length≤sizeLine→R ds L1)
theorem aAk (h:AL C e Γ L fun ds L1=> ∀p,L1 p=none→Q (.ptr p) (put L1 p (.lst ds))):AE C e Γ L Q:=fun F σ H ok QV go=>h F σ H ok QV fun v d H' L' r c f ⟨L1,p,ds,ed,hn,eL,q⟩=>by
 subst ed eL
 obtain ⟨_,_,_,hz⟩:=c.at_ p _ aD
 exact go _ _ H' _ r c f (q hz p hn)
theorem AL.mono {R R':List D→Lp→Prop} (h:AL C e Γ L R) (m:∀ds L1,R ds L1→R' ds L1):AL C e Γ L R':=AE.mono h fun d L2 ⟨L1,p,ds,e1,e2,e3,q⟩=>⟨L1,p,ds,e1,e2,e3,fun z=>m _ _ (q z)⟩
theorem al_disp {R:List D→Lp→Prop} (h:AA C es Γ L fun ds L1=>ds.length≤sizeLine∧R ds L1):AL C (.List es pos) Γ L R:=fL (h.mono fun ds L1 ⟨hz,q⟩=>⟨hz,fun p hp=>⟨L1,p,ds,rfl,hp,rfl,fun _=>q⟩⟩)
theorem nA (hm:C.X.mg "tuple"=none) (h:AL C e Γ L fun ds L1=>Q (.tup ds) L1) (hg:Gl C.X "tuple" :=by rfl) (he:starEach [e] C.X.env= [(false,eval e C.X.env)]:=by rfl):AE C (.Call (.Name "tuple" p) [e] [] pos) Γ L Q:=
 AE.drop (bJ call_tuple_of hm (aC (AE.mono (aAk (Q:=fun d L2=> ∃L1 p ds,d= .ptr p∧L1 p=none∧L2=put L1 p (.lst ds)∧Q (.tup ds) L1) (h.mono fun ds L1 q p hp=>⟨L1,p,ds,rfl,hp,rfl,q⟩)) fun d L2 ⟨L1,p,ds,ed,hn,eL,q⟩=>by
  subst ed eL
  exact aF (c_tupL aD ⟨L1,aN hn,q⟩)) he) (hg:=hg) (he:=he))
theorem wR (hm:C.X.mg "all"=none) (h:AL C e Γ L fun ds L1=> ∃bs:List Bool,ds=bs.map D.bl∧Q (.bl (bs.all id)) L1) (hg:Gl C.X "all" :=by rfl) (he:starEach [e] C.X.env= [(false,eval e C.X.env)]:=by rfl):AE C (.Call (.Name "all" p) [e] [] pos) Γ L Q:=
 AE.drop (bO (cr_all C.calm) hm (aC (AE.mono (aAk (Q:=fun d L2=> ∃L1 p bs,d= .ptr p∧L1 p=none∧L2=put L1 p (.lst (bs.map D.bl))∧Q (.bl (bs.all id)) L1) (h.mono fun ds L1 ⟨bs,e,q⟩ p hp=>⟨L1,p,bs,rfl,hp,by rw [e],q⟩)) fun d L2 ⟨L1,p,ds,ed,hn,eL,q⟩=>by
  subst ed eL
  exact aF (c_all aD ⟨L1,aN hn,q⟩)) he) (hg:=hg) (he:=he))
theorem ae_anyL (hm:C.X.mg "any"=none) (h:AL C e Γ L fun ds L1=> ∃bs:List Bool,ds=bs.map D.bl∧Q (.bl (bs.any id)) L1) (hg:Gl C.X "any" :=by rfl) (he:starEach [e] C.X.env= [(false,eval e C.X.env)]:=by rfl):AE C (.Call (.Name "any" p) [e] [] pos) Γ L Q:=
 AE.drop (bO (cr_any C.calm) hm (aC (AE.mono (aAk (Q:=fun d L2=> ∃L1 p bs,d= .ptr p∧L1 p=none∧L2=put L1 p (.lst (bs.map D.bl))∧Q (.bl (bs.any id)) L1) (h.mono fun ds L1 ⟨bs,e,q⟩ p hp=>⟨L1,p,bs,rfl,hp,by rw [e],q⟩)) fun d L2 ⟨L1,p,ds,ed,hn,eL,q⟩=>by
  subst ed eL
  exact aF (c_any aD ⟨L1,aN hn,q⟩)) he) (hg:=hg) (he:=he))
theorem AL.elim {R:List D→Lp→Prop} (h:AL C e Γ L R):AE C e Γ L fun d L2=> ∃L1 p ds,d= .ptr p∧L1 p=none∧L2=put L1 p (.lst ds)∧ds.length≤sizeLine∧R ds L1:=fun F σ H ok QV go=>h F σ H ok QV fun v d H' L' r c f ⟨L1,p,ds,ed,hn,eL,q⟩=>by
 subst ed eL
 obtain ⟨_,_,_,hz⟩:=c.at_ p _ aD
 exact go _ _ H' _ r c f ⟨L1,p,ds,rfl,hn,rfl,hz,q hz⟩
theorem ae_flst (h:AL C e Γ L fun ds L1=>Q (.flst ds) L1):AE C e Γ L Q:=AE.frz (AE.mono h.elim fun d L2 ⟨L1,p,ds,ed,hn,eL,_,q⟩=>by
 subst ed eL
 refine ⟨.flst ds,L1,?_,q⟩
 have:=frz_lst (C:=C) (aD (L:=L1) (a:=p) (o:= .lst ds))
 rwa [del_put hn] at this)
theorem ai_L {R:List D→(Lp→Prop)→Lp→Prop} (h:AL C e Γ L fun ds L1=>ds.length≤sizeLine→R ds (fun _=>True) L1):AI C tg e Γ L R:=ai_flst (ae_flst (h.mono fun ds L1 q=>⟨ds,rfl,q⟩))
def AVT (C:Ctx) (e:Expr) (Γ:Gm) (L:Lp) (b:Bool):Prop:= ∀Q:Bool→Lp→Prop,Q b L→AT C e Γ L Q
theorem al_lc (own:List (Str×Nat)) {scope:Scope} {ifs:List Expr} {R:List D→Lp→Prop}
  (h:AI C tg iter Γ L fun ds G L1=> ∃I:Nat→List D→Lp→Prop,I 0 [] L1∧(∀i acc L2,I i acc L2→G L2)∧
   (∀i d acc L2,ds[i]? =some d→I i acc L2→∃Γ3 ws,(∀j∈ws,j∈own.map (·.2))∧∀s H Cc cl fp,AG (dH C scope s H Cc cl fp) tg d (dN Γ (own.map (·.2))) Γ3 ws∧
    ATs (dH C scope s H Cc cl fp) ifs Γ3 L2 fun k L3=>(k=true→∀s H Cc cl fp,AE (dH C scope s H Cc cl fp) elt Γ3 L3 fun y L4=>acc.length < sizeLine∧I (i+1) (acc++ [y]) L4)∧(k=false→I (i+1) acc L3))∧
   ∀acc L2,I ds.length acc L2→R acc L2)
  (ok:BlkOk C.X.N C.X.env.scope scope own:=by (dsimp only [vA,dH,cxOf,envOfC,compEnvC,Cx.blk];exact blkOk_by (by decide+kernel))) (hs:∀x,foldedSetIterable iter C.X.env x=pure x:=by intro _;rfl):AL C (.ListComp elt [⟨tg,iter,ifs,0⟩] scope pos) Γ L R:=
 aAd own (fun F σ H okk RV go=>h F σ H okk RV fun J H' L' ds G c f it ⟨I,h1,h2,h3,h4⟩=>go J H' L' ds G c f it ⟨I,h1,h2,h3,fun acc L2 hi p hp=>⟨L2,p,acc,rfl,hp,rfl,fun _=>h4 acc L2 hi⟩⟩) ok hs
theorem tY {own:List (Str×Nat)} {scope:Scope} {ifs:List Expr} {α:Type} {xs:List α} {g f:α→D} {t:α→Bool} {G:Lp→Prop} {L1:Lp} {R:List D→Lp→Prop} {Γ3:α→Gm} {ws:List Nat} (hG:G L1) (hz:xs.length≤sizeLine) (hw:∀j∈ws,j∈own.map (·.2))
  (hf:∀x∈xs,∀s H Cc cl fp,AG (dH C scope s H Cc cl fp) tg (g x) (dN Γ (own.map (·.2))) (Γ3 x) ws∧(∀Q:Bool→Lp→Prop,Q (t x) L1→ATs (dH C scope s H Cc cl fp) ifs (Γ3 x) L1 Q)∧(t x=true→AV (dH C scope s H Cc cl fp) elt (Γ3 x) L1 (f x)))
  (q:R ((xs.filter t).map f) L1):∃I:Nat→List D→Lp→Prop,I 0 [] L1∧(∀i acc L2,I i acc L2→G L2)∧
   (∀i d acc L2,(xs.map g)[i]? =some d→I i acc L2→∃Γ3 ws,(∀j∈ws,j∈own.map (·.2))∧∀s H Cc cl fp,AG (dH C scope s H Cc cl fp) tg d (dN Γ (own.map (·.2))) Γ3 ws∧
    ATs (dH C scope s H Cc cl fp) ifs Γ3 L2 fun k L3=>(k=true→∀s H Cc cl fp,AE (dH C scope s H Cc cl fp) elt Γ3 L3 fun y L4=>acc.length < sizeLine∧I (i+1) (acc++ [y]) L4)∧(k=false→I (i+1) acc L3))∧
   ∀acc L2,I (xs.map g).length acc L2→R acc L2:=by
 refine ⟨fun i acc L2=>acc=((xs.take i).filter t).map f∧L2=L1,⟨rfl,rfl⟩,fun i acc L2 h=>by rw [h.2];exact hG,fun i d acc L2 hd ⟨ea,el⟩=> ?_,fun acc L2 ⟨ea,el⟩=> ?_⟩
 ·subst el
  rw [List.getElem?_map] at hd
  cases ex:xs[i]? with
  | none=>rw [ex] at hd;cases hd
  | some x=>
   rw [ex] at hd
   cases hd
   have hi:=(List.getElem?_eq_some_iff.mp ex).1
   have hm:=List.mem_of_getElem? ex
   have hlen:((xs.take i).filter t).length≤i:=Nat.le_trans (List.length_filter_le _ _) (by rw [List.length_take];omega)
   refine ⟨Γ3 x,ws,hw,fun s H Cc cl fp=>⟨(hf x hm s H Cc cl fp).1,(hf x hm s H Cc cl fp).2.1 _ ⟨fun ht s H Cc cl fp=>(hf x hm s H Cc cl fp).2.2 ht _ ⟨?_,?_,rfl⟩,fun hn=>⟨?_,rfl⟩⟩⟩⟩
   ·rw [ea,List.length_map]
    omega
   ·rw [ea,List.take_add_one,ex,List.filter_append,List.map_append]
    show _=_++([x].filter t).map f
    rw [List.filter_cons_of_pos ht]
    rfl
   ·rw [ea,List.take_add_one,ex,List.filter_append,List.map_append]
    show _=_++([x].filter t).map f
    rw [List.filter_cons_of_neg (by rw [hn];exact Bool.false_ne_true)]
    simp
 ·subst el
  rw [ea,List.length_map,List.take_length]
  exact q
theorem gH (i:Nat) {x:Str} {px:Pos} {scope:Scope} {R:List D→Lp→Prop}
  (h:AI C (.Name x px) iter Γ L fun ds G L1=> ∃(α:Type) (xs:List α) (g f:α→D),ds=xs.map g∧G L1∧ds.length≤sizeLine∧(∀y∈xs,∀s H Cc cl fp,AV (dH C scope s H Cc cl fp) elt ((dN Γ [i]).set i (some (g y))) L1 (f y))∧R (xs.map f) L1)
  (hN:C.X.N[i]? =some x:=by rfl) (hag:∀s H Cc cl fp d Γ,AG (dH C scope s H Cc cl fp) (.Name x px) d Γ (Γ.set i (some d)) [i]:=by (intro _ _ _ _ _ _ _;exact aP _))
  (ok:BlkOk C.X.N C.X.env.scope scope [(x,i)]:=by (dsimp only [vA,dH,cxOf,envOfC,compEnvC,Cx.blk];exact blkOk_by (by decide+kernel))) (hs:∀x,foldedSetIterable iter C.X.env x=pure x:=by intro _;rfl):AL C (.ListComp elt [⟨.Name x px,iter,[],0⟩] scope pos) Γ L R:=
 al_lc [(x,i)] (fun F σ H okk RV go=>h F σ H okk RV fun J H' L' ds G c f it ⟨α,xs,g,f',e,hG,hz,hf,q⟩=>by
  subst e
  rw [List.length_map] at hz
  exact go J H' L' _ G c f it (tY (t:=fun _=>true) hG hz (fun j hj=>hj) (fun y hy s H Cc cl fp=>⟨hag s H Cc cl fp _ _,fun Q q=>pM q,fun _=>hf y hy s H Cc cl fp⟩) (by rw [List.filter_eq_self.mpr fun _ _=>rfl];exact q))) ok hs
theorem al_map2 (i j:Nat) {x y:Str} {px py pt:Pos} {kt:Nat} {scope:Scope} {R:List D→Lp→Prop}
  (h:AI C (.Tuple [.Name x px,.Name y py] kt pt) iter Γ L fun ds G L1=> ∃(α:Type) (xs:List α) (g g' f:α→D),ds=xs.map (fun z=> .tup [g z,g' z])∧G L1∧ds.length≤sizeLine∧(∀z∈xs,∀s H Cc cl fp,AV (dH C scope s H Cc cl fp) elt (((dN Γ [i,j]).set i (some (g z))).set j (some (g' z))) L1 (f z))∧R (xs.map f) L1)
  (hag:∀s H Cc cl fp d d' Γ,AG (dH C scope s H Cc cl fp) (.Tuple [.Name x px,.Name y py] kt pt) (.tup [d,d']) Γ ((Γ.set i (some d)).set j (some d')) [i,j]:=by (intro _ _ _ _ _ _ _ _;exact gU (aU (aP _) (aU (aP _) dM))))
  (ok:BlkOk C.X.N C.X.env.scope scope [(x,i),(y,j)]:=by (dsimp only [vA,dH,cxOf,envOfC,compEnvC,Cx.blk];exact blkOk_by (by decide+kernel))) (hs:∀x,foldedSetIterable iter C.X.env x=pure x:=by intro _;rfl):AL C (.ListComp elt [⟨.Tuple [.Name x px,.Name y py] kt pt,iter,[],0⟩] scope pos) Γ L R:=
 al_lc [(x,i),(y,j)] (fun F σ H okk RV go=>h F σ H okk RV fun J H' L' ds G c f it ⟨α,xs,g,g',f',e,hG,hz,hf,q⟩=>by
  subst e
  rw [List.length_map] at hz
  exact go J H' L' _ G c f it (tY (t:=fun _=>true) hG hz (fun j hj=>hj) (fun y hy s H Cc cl fp=>⟨hag s H Cc cl fp _ _ _,fun Q q=>pM q,fun _=>hf y hy s H Cc cl fp⟩) (by rw [List.filter_eq_self.mpr fun _ _=>rfl];exact q))) ok hs
end
end DL
namespace DL
open PySem PySem.Spec PyProof.Rows L2
section
variable {C:Ctx} {Γ:Gm} {L:Lp} {e a b c o tg iter elt:Expr} {es:List Expr} {pos p p1 p2:Pos} {st:Stmt} {sts:List Stmt} {E:AEnds} {Q:D→Lp→Prop} {x y d:D} {ds:List D} {kds:List (List Key×D)}
end
end DL
namespace DL
open PySem PySem.Spec PyProof.Rows L2
section
variable {C:Ctx} {Γ:Gm} {L:Lp} {a b c e:Expr} {pos:Pos} {Q:D→Lp→Prop}
theorem yD (hu:C.X.A.units+64 < cLine) (h:AE C a Γ L fun x L1=>AE C b Γ L1 fun y L2=>L2R C (rEqA C.X.K) x y L2 Q) (hm:behindInMarks .Eq b=false:=by rfl):AE C (.Compare a [.Eq] [b] pos) Γ L Q:=jB (yV hu) hm h
theorem xZ (hu:C.X.A.units+64 < cLine) {Q:Bool→Lp→Prop} (h:AE C a Γ L fun x L1=>AE C b Γ L1 fun y L2=>L2R C (rEqA C.X.K) x y L2 fun d L3=> ∃k,d= .bl k∧Q k L3) (hm:behindInMarks .Eq b=false:=by rfl):AT C (.Compare a [.Eq] [b] pos) Γ L Q:=gK (yV hu) hm h
theorem aAH (hu:C.X.A.units+64 < cLine) (h:AE C a Γ L fun x L1=>AE C b Γ L1 fun y L2=>L2R C (rNeA C.X.K) x y L2 Q) (hm:behindInMarks .NotEq b=false:=by rfl):AE C (.Compare a [.NotEq] [b] pos) Γ L Q:=jB (op_neA hu) hm h
theorem at_ne (hu:C.X.A.units+64 < cLine) {Q:Bool→Lp→Prop} (h:AE C a Γ L fun x L1=>AE C b Γ L1 fun y L2=>L2R C (rNeA C.X.K) x y L2 fun d L3=> ∃k,d= .bl k∧Q k L3) (hm:behindInMarks .NotEq b=false:=by rfl):AT C (.Compare a [.NotEq] [b] pos) Γ L Q:=gK (op_neA hu) hm h
theorem ae_lt (hu:C.X.A.units+64 < cLine) (h:AE C a Γ L fun x L1=>AE C b Γ L1 fun y L2=>L2R C (rLtA C.X.K) x y L2 Q) (hm:behindInMarks .Lt b=false:=by rfl):AE C (.Compare a [.Lt] [b] pos) Γ L Q:=jB (op_ltA hu) hm h
theorem aAc (hu:C.X.A.units+64 < cLine) {Q:Bool→Lp→Prop} (h:AE C a Γ L fun x L1=>AE C b Γ L1 fun y L2=>L2R C (rLtA C.X.K) x y L2 fun d L3=> ∃k,d= .bl k∧Q k L3) (hm:behindInMarks .Lt b=false:=by rfl):AT C (.Compare a [.Lt] [b] pos) Γ L Q:=gK (op_ltA hu) hm h
theorem ae_le (h:AE C a Γ L fun x L1=>AE C b Γ L1 fun y L2=>L2R C (rLeA) x y L2 Q) (hm:behindInMarks .LtE b=false:=by rfl):AE C (.Compare a [.LtE] [b] pos) Γ L Q:=jB (mG) hm h
theorem at_le {Q:Bool→Lp→Prop} (h:AE C a Γ L fun x L1=>AE C b Γ L1 fun y L2=>L2R C (rLeA) x y L2 fun d L3=> ∃k,d= .bl k∧Q k L3) (hm:behindInMarks .LtE b=false:=by rfl):AT C (.Compare a [.LtE] [b] pos) Γ L Q:=gK (mG) hm h
theorem ae_gt (h:AE C a Γ L fun x L1=>AE C b Γ L1 fun y L2=>L2R C (rGtA) x y L2 Q) (hm:behindInMarks .Gt b=false:=by rfl):AE C (.Compare a [.Gt] [b] pos) Γ L Q:=jB (op_gtA) hm h
theorem xY {Q:Bool→Lp→Prop} (h:AE C a Γ L fun x L1=>AE C b Γ L1 fun y L2=>L2R C (rGtA) x y L2 fun d L3=> ∃k,d= .bl k∧Q k L3) (hm:behindInMarks .Gt b=false:=by rfl):AT C (.Compare a [.Gt] [b] pos) Γ L Q:=gK (op_gtA) hm h
theorem ae_ge (h:AE C a Γ L fun x L1=>AE C b Γ L1 fun y L2=>L2R C (rGeA) x y L2 Q) (hm:behindInMarks .GtE b=false:=by rfl):AE C (.Compare a [.GtE] [b] pos) Γ L Q:=jB (op_geA) hm h
theorem at_ge {Q:Bool→Lp→Prop} (h:AE C a Γ L fun x L1=>AE C b Γ L1 fun y L2=>L2R C (rGeA) x y L2 fun d L3=> ∃k,d= .bl k∧Q k L3) (hm:behindInMarks .GtE b=false:=by rfl):AT C (.Compare a [.GtE] [b] pos) Γ L Q:=gK (op_geA) hm h
theorem ae_in (hu:C.X.A.units+1 < cLine) (h:AE C a Γ L fun x L1=>AE C b Γ L1 fun y L2=>L2R C (rInA C.X.K) x y L2 Q) (hm:behindInMarks .In b=false:=by rfl):AE C (.Compare a [.In] [b] pos) Γ L Q:=jB (op_inA hu) hm h
theorem aAG (hu:C.X.A.units+1 < cLine) {Q:Bool→Lp→Prop} (h:AE C a Γ L fun x L1=>AE C b Γ L1 fun y L2=>L2R C (rInA C.X.K) x y L2 fun d L3=> ∃k,d= .bl k∧Q k L3) (hm:behindInMarks .In b=false:=by rfl):AT C (.Compare a [.In] [b] pos) Γ L Q:=gK (op_inA hu) hm h
theorem ae_nin (hu:C.X.A.units+1 < cLine) (h:AE C a Γ L fun x L1=>AE C b Γ L1 fun y L2=>L2R C (rNotInA C.X.K) x y L2 Q) (hm:behindInMarks .NotIn b=false:=by rfl):AE C (.Compare a [.NotIn] [b] pos) Γ L Q:=jB (op_notInA hu) hm h
theorem at_nin (hu:C.X.A.units+1 < cLine) {Q:Bool→Lp→Prop} (h:AE C a Γ L fun x L1=>AE C b Γ L1 fun y L2=>L2R C (rNotInA C.X.K) x y L2 fun d L3=> ∃k,d= .bl k∧Q k L3) (hm:behindInMarks .NotIn b=false:=by rfl):AT C (.Compare a [.NotIn] [b] pos) Γ L Q:=gK (op_notInA hu) hm h
theorem ae_is (h:AE C a Γ L fun x L1=>AE C b Γ L1 fun y L2=>L2R C (rIsA) x y L2 Q) (hm:behindInMarks .Is b=false:=by rfl):AE C (.Compare a [.Is] [b] pos) Γ L Q:=jB (op_isA) hm h
theorem at_is {Q:Bool→Lp→Prop} (h:AE C a Γ L fun x L1=>AE C b Γ L1 fun y L2=>L2R C (rIsA) x y L2 fun d L3=> ∃k,d= .bl k∧Q k L3) (hm:behindInMarks .Is b=false:=by rfl):AT C (.Compare a [.Is] [b] pos) Γ L Q:=gK (op_isA) hm h
theorem ae_isn (h:AE C a Γ L fun x L1=>AE C b Γ L1 fun y L2=>L2R C (rIsNotA) x y L2 Q) (hm:behindInMarks .IsNot b=false:=by rfl):AE C (.Compare a [.IsNot] [b] pos) Γ L Q:=jB (op_isNotA) hm h
theorem at_isn {Q:Bool→Lp→Prop} (h:AE C a Γ L fun x L1=>AE C b Γ L1 fun y L2=>L2R C (rIsNotA) x y L2 fun d L3=> ∃k,d= .bl k∧Q k L3) (hm:behindInMarks .IsNot b=false:=by rfl):AT C (.Compare a [.IsNot] [b] pos) Γ L Q:=gK (op_isNotA) hm h
theorem qD (h:AE C a Γ L fun x L1=>AE C b Γ L1 fun y L2=>L2R C (rAddA C.X.K) x y L2 Q):AE C (.BinOp a .Add b pos) Γ L Q:=aY op_addA h
theorem sU (h:AE C a Γ L fun x L1=>AE C b Γ L1 fun y L2=>L2R C (rSubA) x y L2 Q):AE C (.BinOp a .Sub b pos) Γ L Q:=aY op_subA h
theorem ae_mul (h:AE C a Γ L fun x L1=>AE C b Γ L1 fun y L2=>L2R C (rMulA) x y L2 Q):AE C (.BinOp a .Mult b pos) Γ L Q:=aY op_mulA h
theorem ae_mod (h:AE C a Γ L fun x L1=>AE C b Γ L1 fun y L2=>L2R C (rModA) x y L2 Q):AE C (.BinOp a .Mod b pos) Γ L Q:=aY op_modA h
theorem ae_div (h:AE C a Γ L fun x L1=>AE C b Γ L1 fun y L2=>L2R C (rDivA) x y L2 Q):AE C (.BinOp a .FloorDiv b pos) Γ L Q:=aY op_divA h
theorem aX {p:Pos} (hm:C.X.mg "len"=none) (h:AE C a Γ L fun x L1=>LcR C (rLenA C.X.K) [x] L1 Q) (hg:Gl C.X "len" :=by rfl) (he:starEach [a] C.X.env= [(false,eval a C.X.env)]:=by rfl):AE C (.Call (.Name "len" p) [a] [] pos) Γ L Q:=bO call_lenA hm (aC (h.mono fun x L1 q=>aF q) he) (hg:=hg) (he:=he)
theorem ae_c_int {p:Pos} (hm:C.X.mg "int"=none) (h:AE C a Γ L fun x L1=>LcR C (aAr) [x] L1 Q) (hg:Gl C.X "int" :=by rfl) (he:starEach [a] C.X.env= [(false,eval a C.X.env)]:=by rfl):AE C (.Call (.Name "int" p) [a] [] pos) Γ L Q:=bJ call_int1 hm (aC (h.mono fun x L1 q=>aF q) he) (hg:=hg) (he:=he)
theorem ae_c_abs {p:Pos} (hm:C.X.mg "abs"=none) (h:AE C a Γ L fun x L1=>LcR C (rAbs) [x] L1 Q) (hg:Gl C.X "abs" :=by rfl) (he:starEach [a] C.X.env= [(false,eval a C.X.env)]:=by rfl):AE C (.Call (.Name "abs" p) [a] [] pos) Γ L Q:=bO call_abs hm (aC (h.mono fun x L1 q=>aF q) he) (hg:=hg) (he:=he)
theorem iJ {p:Pos} (hm:C.X.mg "tuple"=none) (h:AE C a Γ L fun x L1=>LcR C (wZ C.X.K) [x] L1 Q) (hg:Gl C.X "tuple" :=by rfl) (he:starEach [a] C.X.env= [(false,eval a C.X.env)]:=by rfl):AE C (.Call (.Name "tuple" p) [a] [] pos) Γ L Q:=bJ call_tuple_of hm (aC (h.mono fun x L1 q=>aF q) he) (hg:=hg) (he:=he)
theorem uP {p:Pos} (hm:C.X.mg "max"=none) (h:AE C a Γ L fun x L1=>AE C b Γ L1 fun y L2=>LcR C (rMx) [x,y] L2 Q) (hg:Gl C.X "max" :=by rfl) (he:starEach [a,b] C.X.env=(false,eval a C.X.env)::starEach [b] C.X.env:=by rfl) (he2:starEach [b] C.X.env= [(false,eval b C.X.env)]:=by rfl) (hpl:(backTo pos (starEach [b] C.X.env)).any (·.1)=false:=by rfl):AE C (.Call (.Name "max" p) [a,b] [] pos) Γ L Q:=bO (call_max2 C.calm) hm (aC (h.mono fun x L1 q=>aC (q.mono fun y L2 q=>aF q) he2) he) (hg:=hg) (he:=he) (hpl:=hpl)
theorem ae_c_min {p:Pos} (hm:C.X.mg "min"=none) (h:AE C a Γ L fun x L1=>AE C b Γ L1 fun y L2=>LcR C (rMn) [x,y] L2 Q) (hg:Gl C.X "min" :=by rfl) (he:starEach [a,b] C.X.env=(false,eval a C.X.env)::starEach [b] C.X.env:=by rfl) (he2:starEach [b] C.X.env= [(false,eval b C.X.env)]:=by rfl) (hpl:(backTo pos (starEach [b] C.X.env)).any (·.1)=false:=by rfl):AE C (.Call (.Name "min" p) [a,b] [] pos) Γ L Q:=bO (call_min2 C.calm) hm (aC (h.mono fun x L1 q=>aC (q.mono fun y L2 q=>aF q) he2) he) (hg:=hg) (he:=he) (hpl:=hpl)
theorem lA {p:Pos} (hm:C.X.mg "isinstance"=none) (h:AE C a Γ L fun x L1=>AE C b Γ L1 fun y L2=>LcR C (rIsi C.X.K) [x,y] L2 Q) (hg:Gl C.X "isinstance" :=by rfl) (he:starEach [a,b] C.X.env=(false,eval a C.X.env)::starEach [b] C.X.env:=by rfl) (he2:starEach [b] C.X.env= [(false,eval b C.X.env)]:=by rfl) (hpl:(backTo pos (starEach [b] C.X.env)).any (·.1)=false:=by rfl):AE C (.Call (.Name "isinstance" p) [a,b] [] pos) Γ L Q:=bO call_isi hm (aC (h.mono fun x L1 q=>aC (q.mono fun y L2 q=>aF q) he2) he) (hg:=hg) (he:=he) (hpl:=hpl)
theorem ae_lele (h:AE C a Γ L fun x L1=>AE C b Γ L1 fun y L2=>L2R C rLeA x y L2 fun d L3=> ∃k,d= .bl k∧(k=true→AE C c Γ L3 fun z L4=>L2R C rLeA y z L4 Q)∧(k=false→Q (.bl false) L3)) (hm:lastMarks [.LtE,.LtE] [b,c]=false:=by rfl):AE C (.Compare a [.LtE,.LtE] [b,c] pos) Γ L Q:=ae_chain mG mG h (pe_chain mG mG bA bA bA (hm:=hm))
theorem at_lele {Q:Bool→Lp→Prop} (h:AE C a Γ L fun x L1=>AE C b Γ L1 fun y L2=>L2R C rLeA x y L2 fun d L3=> ∃k,d= .bl k∧(k=true→AE C c Γ L3 fun z L4=>L2R C rLeA y z L4 fun d L5=> ∃k,d= .bl k∧Q k L5)∧(k=false→Q false L3)) (hm:lastMarks [.LtE,.LtE] [b,c]=false:=by rfl):AT C (.Compare a [.LtE,.LtE] [b,c] pos) Γ L Q:=at_chain mG mG h (pt_chain mG mG bA bA bA (hm:=hm))
end
end DL
namespace DL
open PySem PySem.Spec PyProof.Rows L2
section
variable {C:Ctx} {Γ:Gm} {L:Lp} {Q:D→Lp→Prop}

theorem eq_W {a b:List Wd} (q:Q (.bl (decide (a=b))) L):L2R C (rEqA C.X.K) (dW a) (dW b) L Q:=eq_E (α:=List Str) q

theorem ne_W {a b:List Wd} (q:Q (.bl (!decide (a=b))) L):L2R C (rNeA C.X.K) (dW a) (dW b) L Q:=ne_E (α:=List Str) q
theorem eq_C {a b:List Cell} (q:Q (.bl (decide (a=b))) L):L2R C (rEqA C.X.K) (dC a) (dC b) L Q:=eq_E (α:=List (List Str)) q
theorem ne_C {a b:List Cell} (q:Q (.bl (!decide (a=b))) L):L2R C (rNeA C.X.K) (dC a) (dC b) L Q:=ne_E (α:=List (List Str)) q
theorem eq_W0 {a:List Wd} (q:Q (.bl a.isEmpty) L):L2R C (rEqA C.X.K) (dW a) (.tup []) L Q:=by
 have h:L2R C (rEqA C.X.K) (dW a) (dW []) L Q:=eq_W (by cases a <;> exact q)
 exact h
theorem uZ {ds:List D} (q:Q (.bl true) L):LcR C (rIsi C.X.K) [.tup ds,.ty "tuple"] L Q:=vG trivial (by exact (by decide+kernel:kitB "tuple" "tuple"=some true)) q
theorem isi_ii {i:Int} (q:Q (.bl true) L):LcR C (rIsi C.X.K) [.int i,.ty "int"] L Q:=vG trivial (by exact (by decide+kernel:kitB "int" "int"=some true)) q
theorem isi_ib {i:Int} (q:Q (.bl false) L):LcR C (rIsi C.X.K) [.int i,.ty "bool"] L Q:=vG trivial (by exact (by decide+kernel:kitB "int" "bool"=some false)) q
theorem isi_ss {x:Str} (q:Q (.bl true) L):LcR C (rIsi C.X.K) [.str x,.ty "str"] L Q:=vG trivial (by exact (by decide+kernel:kitB "str" "str"=some true)) q
theorem isi_is {i:Int} (q:Q (.bl false) L):LcR C (rIsi C.X.K) [.int i,.ty "str"] L Q:=vG trivial (by exact (by decide+kernel:kitB "int" "str"=some false)) q
theorem isi_ts {ds:List D} (q:Q (.bl false) L):LcR C (rIsi C.X.K) [.tup ds,.ty "str"] L Q:=vG trivial (by exact (by decide+kernel:kitB "tuple" "str"=some false)) q
theorem isi_st {x:Str} (q:Q (.bl false) L):LcR C (rIsi C.X.K) [.str x,.ty "tuple"] L Q:=vG trivial (by exact (by decide+kernel:kitB "str" "tuple"=some false)) q
theorem isi_bb {b:Bool} (q:Q (.bl true) L):LcR C (rIsi C.X.K) [.bl b,.ty "bool"] L Q:=vG trivial (by exact (by decide+kernel:kitB "bool" "bool"=some true)) q
end
end DL
namespace DL
open PySem PySem.Spec PyProof.Rows L2
inductive Tg where
 | cmp (op:CmpOp) | bin (op:Operator) | inp (op:Operator)
def Tg.f:Tg→Value→Value→Sem Value
 | .cmp op=>compareOp op
 | .bin op=>binaryOp op
 | .inp op=>inplaceOp op
structure OpJ (C:DL.Ctx) (t:Tg) (Γ:Gm) (x y:D) (L:Lp) (Q:D→Lp→Prop):Prop where
 run:∀Z σ H,Ok C Γ L Z σ H→∀vx vy,Rep C.X.K Z H vx x→Rep C.X.K Z H vy y→∀QV,Go C L Z H Q QV→∀pins s v u,Inv C.X pins σ H s→RelV vx v→RelV vy u→wpAny (model C.X.prog C.X.w) C.X.A (t.f v u) (EP C.X pins σ QV) C.X.xe s
section
variable {C:DL.Ctx} {Γ:Gm} {L:Lp} {a b e:Expr} {pos:Pos} {Q:D→Lp→Prop} {x y:D} {t:Tg}
theorem OpJ.of {r:L2.R2} (ho:OpR C.X t.f r) (h:L2R C r x y L Q):OpJ C t Γ x y L Q:=⟨fun Z σ H ok vx vy rx ry QV go pins s v u I r1 r2=>ho pins s σ H vx vy v u QV I r1 r2 (h Z vx vy H ok.con rx ry QV go)⟩
theorem two_run {pins:List (Addr×Obj)} {σ:L2.St} {Z:Fz} {H:Hp} {s:Shared} {QV:VK} (h:AE C a Γ L fun x L1=>AE C b Γ L1 fun y L2=>OpJ C t Γ x y L2 Q) (ok:Ok C Γ L Z σ H) (go:Go C L Z H Q QV) (I:Inv C.X pins σ H s):
  wpAny (model C.X.prog C.X.w) C.X.A (eval a C.X.env) (fun v s1=>wpAny (model C.X.prog C.X.w) C.X.A (eval b C.X.env) (fun u s2=>wpAny (model C.X.prog C.X.w) C.X.A (t.f v u) (EP C.X pins σ QV) C.X.xe s2) C.X.xe s1) C.X.xe s:=by
 refine thn ((h Z σ H ok (fun vx H1=> ∃x L1 Z1,Rep C.X.K Z1 H1 vx x∧C.Con L1 Z1 H1∧Fr L Z H L1 Z1 H1∧AE C b Γ L1 fun y L2=>OpJ C t Γ x y L2 Q) fun v d H' L' r c f q=>⟨d,L',_,r,c,f,q⟩).run pins s I) fun v s1 ⟨vx,H1,I1,r1,x,L1,Z1,rx,c1,f1,q1⟩=> ?_
 refine thn ((q1 Z1 σ H1 (ok.step c1 f1) (fun vy H2=> ∃y L2 Z2,Rep C.X.K Z2 H2 vy y∧C.Con L2 Z2 H2∧Fr L1 Z1 H1 L2 Z2 H2∧OpJ C t Γ x y L2 Q) fun v d H' L' r c f q=>⟨d,L',_,r,c,f,q⟩).run pins s1 I1) fun u s2 ⟨vy,H2,I2,r2,y,L2,Z2,ry,c2,f2,q2⟩=> ?_
 exact q2.run Z2 σ H2 (ok.step c2 (f1.trans f2)) vx vy (rx.mono f2.mv) ry QV (go.after (f1.trans f2)) pins s2 v u I2 r1 r2
theorem nD {op:Operator} (h:AE C a Γ L fun x L1=>AE C b Γ L1 fun y L2=>OpJ C (.bin op) Γ x y L2 Q):AE C (.BinOp a op b pos) Γ L Q:=fun Z σ H ok QV go=>⟨fun pins s I=>wpAny_BinOp (two_run h ok go I)⟩
theorem uM {op:CmpOp} {Q:Bool→Lp→Prop} (h:AE C a Γ L fun x L1=>AE C b Γ L1 fun y L2=>OpJ C (.cmp op) Γ x y L2 fun d L3=> ∃k,d= .bl k∧Q k L3) (hm:behindInMarks op b=false:=by rfl):AT C (.Compare a [op] [b] pos) Γ L Q:=fun Z σ H ok QV go=>⟨fun pins s I=>by
 refine wpAny_isTrue_Compare1 (thn (two_run (QV:=fun v H'=> ∃k L' Z',v= .bl k∧C.Con L' Z' H'∧Fr L Z H L' Z' H'∧Q k L') h ok (fun v d H' L' r c f ⟨k,ed,q⟩=>⟨k,L',_,by subst ed;exact r.blE,c,f,q⟩) I) fun v s1 hb=>thn hb fun u s2 hc=>thn hc fun w s3 ⟨z,H3,I3,r3,k,L3,Z3,e,c3,f3,q3⟩=> ?_) hm
 subst e
 cases r3
 exact wpAny_truthy_bool ⟨H3,I3,go k H3 L3 c3 f3 q3⟩⟩
theorem j_eqI {i j:Int} (hu:C.X.A.units+64 < cLine) (q:Q (.bl (decide (i=j))) L):OpJ C (.cmp .Eq) Γ (.int i) (.int j) L Q:=OpJ.of (t:= .cmp .Eq) (yV hu) (aAD q)
end
end DL
namespace DL
open PySem PySem.Spec PySem.Calls PyProof.Rows L2
section
variable {prog:Program} {w:World} {A:Around} {E:Value→Shared→Prop} {s:Shared} {K:PySem.W.Frag} {y C:Addr} {oy od:Obj}
structure XcC (K:PySem.W.Frag) (C:Addr):Prop where
 x:XfC K C
 i:SlX.SIsi K C
theorem xc_cls {Q:Option Value→Shared→Prop} (T:XcC K C) (KI:K.In s.heap) (J:PySem.W.InstAt s.heap y oy C (some od)) (h:Q (some (.ref C)) {s with toks:=s.toks+1}):wpAny (model prog w) A (getAttr? (.ref y) "__class__") Q E s:=by
 have hic:(PySem.W.clsIn K C).isSome=true:=by
  obtain ⟨cd,hc,_⟩:=PySem.W.any_some T.x.hdC
  rw [hc]
  rfl
 have hf:PySem.W.findObj K C (some od) "__class__"=some (.bind (.builtin "getset_descriptor.__get__") (.builtin "object.__class__")):=PySem.W.findObj_data hic T.i.ca T.i.cn T.i.ct
 obtain ⟨hh,gg,dd,tt,oo⟩:=s
 have T0:=J.type (M:=model prog w)
 have T1:=PySem.W.looks_findIn (M:=model prog w) KI T.x.ga
 have T2:=PySem.W.looks_findIn (M:=model prog w) KI T.x.gg
 have T3:=PySem.W.looks_find (M:=model prog w) KI J hf
 have sb:PySem.W.Looks (model prog w) hh (isInstance (.ref y) (.type "BaseException")) true:=T0.andThen (PySem.W.looks_subIn KI T.x.exC)
 have n0:(false && onTheHeap (Value.builtin "BaseException.__getattribute__"))=false:=rfl
 have n2:(Value.builtin "BaseException.__getattribute__"==Value.builtin "object.__getattribute__")=false:=by decide+kernel
 have n1:(onTheHeap (Value.ref C) && Value.builtin "BaseException.__getattribute__"==Value.builtin "object.__getattribute__")=false:=by rw [n2];rfl
 unfold getAttr? getAttrBy? getAttrBy
 refine wpAny_bind (wpAny_mkText (wpAny_bind (wpAny_attempt (wpAny_holding (wpAny_bind (T0.at (wpAny_bind (T1.at ?_))))))))
 show wpAny _ _ (if (onTheHeap (Value.ref C) && Value.builtin "BaseException.__getattribute__"==Value.builtin "object.__getattribute__")=true then _ else _) _ _ _
 rw [n1,if_neg Bool.false_ne_true]
 unfold getAttrByItsOwn hookBefore
 refine wpAny_bind ?_
 rw [if_pos (show onTheHeap (Value.ref C)=true from rfl)]
 refine T2.at ?_
 refine wpAny_bind (wpAny_attempt (wpAny_holding ?_))
 unfold callGetattribute
 rw [n0,if_neg Bool.false_ne_true]
 unfold boundAndCalled
 rw [PySem.F.excAttr_ValueError.ga.bind (.ref y)]
 refine wpAny_bind (wpAny_pure ?_)
 show wpAny _ _ (call (.builtin "BaseException.__getattribute__") [.ref y,.str "__class__" tt]) _ _ _
 refine wpAny_call (codeAny_call_builtin PySem.F.excAttr_ValueError.ga.plain PySem.F.entry_bexc_ga ?_)
 refine @PySem.W.check_slot (model prog w) _ _ ⟨hh,gg,dd,tt+1,oo⟩ "BaseException.__getattribute__" "BaseException" "__getattribute__" (.ref y) [.str "__class__" tt] [] _ (by decide+kernel) (by decide+kernel) sb (PySem.F.args_bexc_ga (.ref y) (.str "__class__" tt)) ?_
 unfold Builtin.«object.__getattribute__»
 refine wpAny_bind (wpAny_of_eq (a:=((Value.ref y:Value),[Value.str "__class__" tt])) (by first | rfl | (simp only [slotArgs];rfl)) ?_)
 refine wpAny_bind (wpAny_pure (wpAny_bind (T0.at (wpAny_bind (T3.at ?_)))))
 show wpAny _ _ (holding [Value.builtin "object.__class__"] (call (.builtin "getset_descriptor.__get__") [.builtin "object.__class__",.ref y,.ref C]) >>=ret) _ _ _
 refine wpAny_bind (wpAny_holding (wpAny_call (PySem.W.class_get (s:=⟨hh,gg,dd,tt+1,oo⟩) (ox:=oy) (od:=some od) KI J T.i.cm ?_)))
 refine wpAny_pure ?_
 show wpAny _ _ (handedOut (.ref C)) _ _ _
 rw [PySem.W.handedOut_of (v:= .ref C) rfl]
 first
  | exact wpAny_pure (wpAny_pure h)
  | exact wpAny_pure h
  | exact wpAny_pure (wpAny_bind (wpAny_pure (wpAny_pure h)))
theorem kitx_err (T:XcC K C):PySem.W.KitX K (.ref y) (.ref C) (fun h=>PySem.W.InstAt h y oy C (some od)) where
 ty:=fun _ _ _ J=>J.type
 it:=fun _ _ KI _=>by
  obtain ⟨cd,hc,_⟩:=PySem.W.any_some T.x.hdC
  unfold PySem.W.clsIn at hc
  split at hc
  ·rename_i k1 k2 k3 k4 ho
   intro A' Q' E' s' k q
   unfold isType loadHead
   exact wpAny_bind (wpAny_loadPart (k _ _ (KI _ _ ho)) (wpAny_pure q))
  ·cases hc
 ne:=fun h tp d2 its n sl KI htp=>by
  obtain ⟨cd,hc,_⟩:=PySem.W.any_some T.x.hdC
  refine Bool.eq_false_iff.mpr fun q=> ?_
  have e:C=tp:=Value.ref.inj (beq_iff_eq.mp q)
  subst e
  unfold PySem.W.clsIn at hc
  split at hc
  ·rename_i k1 k2 k3 k4 ho
   have z:=(KI _ _ ho).symm.trans htp
   cases z
  ·cases hc
 ca:=fun KI J k=>xc_cls T KI J k
end
end DL
namespace DL
open PySem PySem.Spec PyProof.Rows L2
inductive TyL (K:PySem.W.Frag) (L:Lp):D→Value→Prop where
 | non:TyL K L .non (.type "NoneType")
 | bl (b:Bool):TyL K L (.bl b) (.type "bool")
 | int (i:Int):TyL K L (.int i) (.type "int")
 | str (x:Str):TyL K L (.str x) (.type "str")
 | tup (ds:List D):TyL K L (.tup ds) (.type "tuple")
 | flst (ds:List D):TyL K L (.flst ds) (.type "list")
 | fdct (kds:List (List Key×D)):TyL K L (.fdct kds) (.type "dict")
 | kdct (kds:List (Key×D)):TyL K L (.kdct kds) (.type "dict")
 | wds (ys:List Str):TyL K L (.wds ys) (.type "tuple")
 | lst {a:Addr} {ds:List D} (h:L a=some (.lst ds)):TyL K L (.ptr a) (.type "list")
 | dct {a:Addr} {kds:List (List Key×D)} (h:L a=some (.dct kds)):TyL K L (.ptr a) (.type "dict")
 | ins {x:D} {Cl:Addr} (c:SlX.SCls K Cl) (i:SlX.SIsi K Cl) (h:nH L x Cl):TyL K L x (.ref Cl)
 | iin {a Cl:Addr} {fs:List (Str×D)} (c:SlX.SCls K Cl) (i:SlX.SIsi K Cl) (h:L a=some (.iin Cl fs)):TyL K L (.ptr a) (.ref Cl)
 | iob {Cl:Addr} {fs:List (Str×D)} (c:SlX.SCls K Cl) (i:SlX.SIsi K Cl):TyL K L (.iob Cl fs) (.ref Cl)
 | exc {a Cl:Addr} {fs:List (Str×D)} (T:XcC K Cl) (h:L a=some (.exc Cl fs)):TyL K L (.ptr a) (.ref Cl)
section
variable {C:DL.Ctx} {Γ:Gm} {L:Lp} {Q:D→Lp→Prop} {x y:D} {t:Value} {Z:Fz} {H:Hp} {pins:List (Addr×Obj)} {σ:L2.St} {s:Shared} {v:V} {u:Value}
theorem exc_inst {a Cl:Addr} {fs:List (Str×D)} (h:L a=some (.exc Cl fs)) (c:C.Con L Z H) (I:Inv C.X pins σ H s):∃oe od dx fvs,PySem.W.InstAt s.heap a oe Cl (some od)∧H dx=some (.xd fvs)∧(∀n v,fvs.lookup n=some v→∃u,RelV v u∧PySem.W.lookIn n od=some (some u))∧Paired (fun (p:Str×V) (q:Str×D)=>p.1=q.1∧Rep C.X.K Z H p.2 q.2) fvs fs:=by
 obtain ⟨dx,fvs,e,_,hd,r⟩:=c.at_ _ _ h
 obtain ⟨⟨oe,vs,e1,e2,e3,e4⟩,_⟩:=(show ObjOk C.X.prog C.X.w H s.heap a (ErO (.ref Cl) (some dx) a) from I.hok a _ e)
 obtain ⟨mA,hns,hr⟩:=(show ObjOk C.X.prog C.X.w H s.heap dx (.xd fvs) from I.hok dx _ hd)
 obtain ⟨od,ho,hl⟩:=lookIn_ns hns
 exact ⟨oe,od,dx,fvs,⟨e1,e2,by unfold PySem.W.notCls;rw [e4] <;> rfl,by rw [e3];exact ho⟩,hd,fun n v lv=>by
  obtain ⟨u,hu,ru⟩:=RelO.some_of (v:=v) (o:=mA n) (by rw [←lv];exact hr n)
  exact ⟨u,ru,by rw [hl,hu]⟩,r⟩
theorem TyL.kit (ty:TyL C.X.K L x t) (c:C.Con L Z H) (r:Rep C.X.K Z H v x) (I:Inv C.X pins σ H s) (ru:RelV v u):∃P:Heap→Prop,PySem.W.KitX C.X.K u t P∧P s.heap∧u≠ .builtin "__main__.__loader__#opaque" :=by
 cases ty with
 | non=>rw [r.nonE] at ru;exact kit_of I ru (.base .non)
 | bl b=>rw [r.blE] at ru;exact kit_of I ru (.base (.bl b))
 | int i=>rw [r.intE] at ru;exact kit_of I ru (.base (.int i))
 | str z=>rw [r.strE] at ru;exact kit_of I ru (.base (.str z))
 | tup ds=>
  obtain ⟨a,ws,rfl,ha,_⟩:=r.tupE
  exact kit_of I ru (.base (.tup ha))
 | flst ds=>
  cases r with
  | flst hl h=>exact kit_of I ru (.base (.lst h))
 | fdct kds=>
  cases r with
  | @fdct a kvs kds o hl h=>
   cases (show u=Value.ref a from ru)
   obtain ⟨_,_,_,xs,_,o,es,ep,h1,h2,_⟩:=(show ObjOk C.X.prog C.X.w H s.heap a (.frz o (.dT kvs)) from I.hok a _ h)
   exact ⟨_,PySem.W.kitx_dict,⟨o,h1,h2.1⟩,fun z=>nomatch z⟩
 | kdct kds=>
  cases r with
  | @kdct a kvs kds o hl h=>
   cases (show u=Value.ref a from ru)
   obtain ⟨_,hg,hx,_⟩:=I.frzK h
   exact ⟨_,PySem.W.kitx_dict,⟨o,hg,hx.1⟩,fun z=>nomatch z⟩
 | wds ys=>
  cases r with
  | @wds a _ o hl h=>exact kit_of I ru (.fTuple h)
 | lst h=>
  obtain ⟨ws,ha,_⟩:=c.at_ _ _ h
  rw [r.ptrE] at ru
  exact kit_of I ru (.base (.lst ha))
 | dct h=>
  obtain ⟨ws,ha,_⟩:=c.at_ _ _ h
  rw [r.ptrE] at ru
  exact kit_of I ru (.base (.dT ha))
 | @ins x Cl hc hi h=>
  obtain ⟨a,dx,vs,rfl,hs⟩:=h.slt c r
  cases (show u=Value.ref a from ru)
  obtain ⟨sl,od,_,J,_⟩:=SlX.slt_inst I hs
  exact ⟨_,OwX.kitx_slt hc.ic (hc.get _) hi.ca hi.cn hi.ct hi.cm,J,fun z=>nomatch z⟩
 | @iin a Cl fs hc hi h=>
  obtain ⟨dx,vfs,hH,_⟩:=c.at_ _ _ h
  rw [r.ptrE] at ru
  cases (show u=Value.ref a from ru)
  obtain ⟨mA,O,_⟩:=ins_get I.hok hH
  obtain ⟨od,J,_⟩:=O.look
  exact ⟨_,OwX.kitx_slt hc.ic (hc.get _) hi.ca hi.cn hi.ct hi.cm,J,fun z=>nomatch z⟩
 | @iob Cl fs hc hi=>
  cases r with
  | @iob a _ dx vfs _ hl h=>
   cases (show u=Value.ref a from ru)
   obtain ⟨mA,O,_⟩:=ins_get I.hok h
   obtain ⟨od,J,_⟩:=O.look
   exact ⟨_,OwX.kitx_slt hc.ic (hc.get _) hi.ca hi.cn hi.ct hi.cm,J,fun z=>nomatch z⟩
 | @exc a Cl fs T h=>
  rw [r.ptrE] at ru
  cases (show u=Value.ref a from ru)
  obtain ⟨oe,od,_,_,J,_⟩:=exc_inst h c I
  exact ⟨_,kitx_err T,J,fun z=>nomatch z⟩
theorem TyL.look (ty:TyL C.X.K L x t) (c:C.Con L Z H) (r:Rep C.X.K Z H v x) (I:Inv C.X pins σ H s) (ru:RelV v u):PySem.W.Looks (model C.X.prog C.X.w) s.heap (typeOf u) t:=by
 obtain ⟨P,k,p,_⟩:=ty.kit c r I ru
 exact k.ty _ _ I.kIn p
end
section
variable {prog:Program} {w:World} {A:Around} {E:Value→Shared→Prop} {s:Shared} {K:PySem.W.Frag} {x C f:Addr} {ox:Obj} {od:Option Obj} {b tb:Value}
end
section
variable {C:DL.Ctx} {Γ:Gm} {L:Lp} {Q:D→Lp→Prop} {x y:D} {t:Value} {Cl g:Addr} {k:Nat} {sp:SpA}
theorem uY {op:Operator} (hc:PySem.W.selfFirst C.X.K Cl=true) (hs:PySem.W.findIn C.X.K (.ref Cl) (PySem.dunder op.info.2)=some (some (.ref g))) (hf:PySem.W.isFn C.X.K (.ref g)=true) (F:FnA C.X.prog C.X.w C.X.K C.X.mg C.X.base k g sp) (hr:Room k C.X.A)
  (ix:nH L x Cl) (iy:nH L y Cl) (q:sp [x,y] L Q (C.R Γ)):OpJ C (.bin op) Γ x y L Q:=⟨fun Z σ H ok vx vy rx ry QV go pins s v u I r1 r2=>by
 obtain ⟨a,dx,vs,rfl,st⟩:=ix.slt ok.con rx
 obtain ⟨b,dy,ws,rfl,st2⟩:=iy.slt ok.con ry
 cases (show v=Value.ref a from r1)
 cases (show u=Value.ref b from r2)
 obtain ⟨sl,od,_,J,_⟩:=SlX.slt_inst I st
 obtain ⟨sl',od',_,J',_⟩:=SlX.slt_inst I st2
 obtain ⟨m,hF⟩:=I.fr
 refine PySem.W.binop_K hF I.ok.mod.kin J J'.type hc hs hf ?_
 refine wpAny_mono (wpAny_call (qX (us:= [.ref a,.ref b]) (vs:= [.ref a,.ref b]) F hr I ok (.cons rfl (.cons rfl .nil)) (.cons rx (.cons ry .nil)) q go)) (fun w s' z=> ?_) fun _ _ x=>x
 obtain ⟨z',H',I',rz,qz⟩:=z
 exact SlX.cmpback rz ⟨z',H',I',rz,qz⟩⟩
@[irreducible] def rIsiA (C:DL.Ctx):List V→Hp→VK→Prop:=fun xs H QV=> ∃(a b:V) (k:Bool),xs= [a,b]∧(∀pins σ s u w,Inv C.X pins σ H s→RelV a u→RelV b w→∃t P,PySem.W.KitX C.X.K u t P∧P s.heap∧u≠ .builtin "__main__.__loader__#opaque"∧PySem.W.kitOne C.X.K t w=some k)∧QV (.bl k) H
theorem call_isA:CallR C.X (.builtin "isinstance") (rIsiA C):=by
 intro pins s σ H xs us Q I r h
 unfold rIsiA at h
 obtain ⟨a,b,k,rfl,hk,q⟩:=h
 obtain ⟨u1,u2,rfl,r1,r2⟩:=vals2 r
 obtain ⟨t,P,Z,p,hx,e⟩:=hk pins σ s u1 u2 I r1 r2
 exact PySem.W.kia_one Z I.kIn p e hx fun tk=>⟨.bl k,H,I.tok tk,rfl,q⟩
theorem zB {b:Bool} (ty:TyL C.X.K L x t) (e:PySem.W.kitOne C.X.K t (.ref Cl)=some b) (q:Q (.bl b) L):LcR C (rIsiA C) [x,.ptr Cl] L Q:=fun Z vs H c r QV go=>by
 obtain ⟨v,w,rfl,r1,r2⟩:=r.twoE
 unfold rIsiA
 refine ⟨v,w,b,rfl,fun pins σ s u w' I ru rw=> ?_,go _ _ H L (.bl _) c (.refl L H) q⟩
 rw [r2.ptrE] at rw
 cases (show w'=Value.ref Cl from rw)
 obtain ⟨P,k,p,hx⟩:=ty.kit c r1 I ru
 exact ⟨t,P,k,p,hx,e⟩
end
end DL
namespace DL
open PySem PySem.Spec PyProof.Rows L2
section
variable {C:DL.Ctx} {Γ:Gm} {L:Lp} {Q:D→Lp→Prop} {x y:D} {t:Value} {Cl g:Addr} {k:Nat} {sp:SpA} {a b e o:Expr} {es:List Expr} {pos p p1:Pos} {E:AEnds}
structure CaJ (C:DL.Ctx) (f:Value) (Γ:Gm) (ds:List D) (L:Lp) (Q:D→Lp→Prop):Prop where
 run:∀Z σ H,Ok C Γ L Z σ H→∀vs,bG C.X.K Z H vs ds→∀QV,Go C L Z H Q QV→∀pins s us,Inv C.X pins σ H s→Vals vs us→wpAny (model C.X.prog C.X.w) C.X.A (call f us) (EP C.X pins σ QV) C.X.xe s
theorem CaJ.of {f:Value} {ds:List D} {r:List V→Hp→VK→Prop} (hc:CallR C.X f r) (h:LcR C r ds L Q):CaJ C f Γ ds L Q:=⟨fun Z σ H ok vs rd QV go pins s us I r=>hc pins s σ H vs us QV I r (h Z vs H ok.con rd QV go)⟩
theorem ae_callBJ {x:Str} {id:String} (hm:C.X.mg x=none) (h:AA C (e::es) Γ L fun ds L1=>CaJ C (.builtin id) Γ ds L1 Q) (hv:bootBuiltins x=some (.builtin id):=by decide+kernel) (hg:Gl C.X x:=by rfl) (hn:x≠"__name__" :=by decide) (hdb:(x==("__debug__" :Str))=false:=by decide)
  (he:starEach (e::es) C.X.env=(false,eval e C.X.env)::starEach es C.X.env:=by rfl) (hpl:(backTo pos (starEach es C.X.env)).any (·.1)=false:=by rfl):AE C (.Call (.Name x p) (e::es) [] pos) Γ L Q:=fun Z σ H ok QV go=>⟨fun pins s I=>by
 refine wpAny_Call_Name_kw (ld_blt I hg hm hv ?_ hn hdb)
 refine PyProof.Rows.callWith_builtin1 (thn ((h Z σ H ok (fun vs H1=> ∃ds L1 Z1,bG C.X.K Z1 H1 vs ds∧C.Con L1 Z1 H1∧Fr L Z H L1 Z1 H1∧CaJ C (.builtin id) Γ ds L1 Q) fun vs ds H1 L1 r1 c1 f1 q1=>⟨ds,L1,_,r1,c1,f1,q1⟩).run pos pins s I) fun us s1 ⟨vs,H1,I1,r1,ds,L1,Z1,rd,c1,f1,q1⟩=> ?_) he hpl
 exact q1.run Z1 σ H1 (ok.step c1 f1) vs rd QV (go.after f1) pins s1 us I1 r1⟩
theorem wQ (hm:C.X.mg "len"=none) (h:AE C a Γ L fun x L1=>CaJ C (.builtin "len") Γ [x] L1 Q) (hg:Gl C.X "len" :=by rfl) (he:starEach [a] C.X.env= [(false,eval a C.X.env)]:=by rfl):AE C (.Call (.Name "len" p) [a] [] pos) Γ L Q:=ae_callBJ hm (aC (h.mono fun x L1 q=>aF q) he) (hg:=hg) (he:=he)
theorem rN (hm:C.X.mg "isinstance"=none) (h:AE C a Γ L fun x L1=>AE C b Γ L1 fun y L2=>LcR C (rIsiA C) [x,y] L2 Q) (hg:Gl C.X "isinstance" :=by rfl) (he:starEach [a,b] C.X.env=(false,eval a C.X.env)::starEach [b] C.X.env:=by rfl) (he2:starEach [b] C.X.env= [(false,eval b C.X.env)]:=by rfl) (hpl:(backTo pos (starEach [b] C.X.env)).any (·.1)=false:=by rfl):AE C (.Call (.Name "isinstance" p) [a,b] [] pos) Γ L Q:=
 bO call_isA hm (aC (h.mono fun x L1 q=>aC (q.mono fun y L2 q2=>aF q2) he2) he) (hg:=hg) (he:=he) (hpl:=hpl)
structure SbJ (C:DL.Ctx) (value slice:Expr) (Γ:Gm) (x y:D) (L:Lp) (Q:D→Lp→Prop):Prop where
 run:∀Z σ H,Ok C Γ L Z σ H→∀vx vy,Rep C.X.K Z H vx x→Rep C.X.K Z H vy y→∀QV,Go C L Z H Q QV→∀pins s v u,Inv C.X pins σ H s→RelV vx v→RelV vy u→wpAny (model C.X.prog C.X.w) C.X.A (subscriptTail value slice v u) (EP C.X pins σ QV) C.X.xe s
theorem SbJ.of {r:R2} (hs:PlainIx b) (hr:IxR C.X r) (h:L2R C r x y L Q):SbJ C a b Γ x y L Q:=⟨fun Z σ H ok vx vy rx ry QV go pins s v u I r1 r2=>hr a b pins s σ H vx vy v u QV I r1 r2 (h Z vx vy H ok.con rx ry QV go) (hs _ _)⟩
theorem xP (h:AE C a Γ L fun x L1=>AE C b Γ L1 fun y L2=>SbJ C a b Γ x y L2 Q):AE C (.Subscript a b pos) Γ L Q:=fun Z σ H ok QV go=>⟨fun pins s I=>by
 refine Subscript_ ?_
 refine thn ((h Z σ H ok (fun vx H1=> ∃x L1 Z1,Rep C.X.K Z1 H1 vx x∧C.Con L1 Z1 H1∧Fr L Z H L1 Z1 H1∧AE C b Γ L1 fun y L2=>SbJ C a b Γ x y L2 Q) fun v d H' L' r c f q=>⟨d,L',_,r,c,f,q⟩).run pins s I) fun v s1 ⟨vx,H1,I1,r1,x,L1,Z1,rx,c1,f1,q1⟩=> ?_
 refine thn ((q1 Z1 σ H1 (ok.step c1 f1) (fun vy H2=> ∃y L2 Z2,Rep C.X.K Z2 H2 vy y∧C.Con L2 Z2 H2∧Fr L1 Z1 H1 L2 Z2 H2∧SbJ C a b Γ x y L2 Q) fun v d H' L' r c f q=>⟨d,L',_,r,c,f,q⟩).run pins s1 I1) fun u s2 ⟨vy,H2,I2,r2,y,L2,Z2,ry,c2,f2,q2⟩=> ?_
 exact q2.run Z2 σ H2 (ok.step c2 (f1.trans f2)) vx vy (rx.mono f2.mv) ry QV (go.after (f1.trans f2)) pins s2 v u I2 r1 r2⟩
structure StJ (C:DL.Ctx) (Γ:Gm) (x i v:D) (L:Lp) (Q:Lp→Prop):Prop where
 run:∀Z σ H,Ok C Γ L Z σ H→∀vx vi vv,Rep C.X.K Z H vx x→Rep C.X.K Z H vi i→Rep C.X.K Z H vv v→∀QV:Hp→Prop,(∀{Z'} H' L',C.Con L' Z' H'→Fr L Z H L' Z' H'→Q L'→QV H')→∀pins s ux ui uv,Inv C.X pins σ H s→RelV vx ux→RelV vi ui→RelV vv uv→
  wpAny (model C.X.prog C.X.w) C.X.A (setItem ux ui uv) (fun _ s'=> ∃H',Inv C.X pins σ H' s'∧QV H') C.X.xe s
theorem wN (h:AE C e Γ L fun v L1=>AE C o Γ L1 fun x L2=>AE C b Γ L2 fun i L3=>StJ C Γ x i v L3 fun L4=>E.nx Γ L4)
  (hs:swapsWith e (some (.Subscript o b p1)) pos.line C.X.env=pure false:=by rfl):AS C (.Assign [.Subscript o b p1] e pos) Γ L E:=fun Z σ H ok DD go=>⟨fun pins s I=>by
 refine wpAny_Assign_Subscript ?_ hs
 refine thn ((h Z σ H ok (fun vv H1=> ∃v L1 Z1,Rep C.X.K Z1 H1 vv v∧C.Con L1 Z1 H1∧Fr L Z H L1 Z1 H1∧AE C o Γ L1 fun x L2=>AE C b Γ L2 fun i L3=>StJ C Γ x i v L3 fun L4=>E.nx Γ L4) fun v d H' L' r c f q=>⟨d,L',_,r,c,f,q⟩).run pins s I) fun uv s1 ⟨vv,H1,I1,r1,v,L1,Z1,rv,c1,f1,q1⟩=> ?_
 refine thn ((q1 Z1 σ H1 (ok.step c1 f1) (fun vx H2=> ∃x L2 Z2,Rep C.X.K Z2 H2 vx x∧C.Con L2 Z2 H2∧Fr L1 Z1 H1 L2 Z2 H2∧AE C b Γ L2 fun i L3=>StJ C Γ x i v L3 fun L4=>E.nx Γ L4) fun v d H' L' r c f q=>⟨d,L',_,r,c,f,q⟩).run pins s1 I1) fun ux s2 ⟨vx,H2,I2,r2,x,L2,Z2,rx,c2,f2,q2⟩=> ?_
 refine thn ((q2 Z2 σ H2 (ok.step c2 (f1.trans f2)) (fun vi H3=> ∃i L3 Z3,Rep C.X.K Z3 H3 vi i∧C.Con L3 Z3 H3∧Fr L2 Z2 H2 L3 Z3 H3∧StJ C Γ x i v L3 fun L4=>E.nx Γ L4) fun v d H' L' r c f q=>⟨d,L',_,r,c,f,q⟩).run pins s2 I2) fun ui s3 ⟨vi,H3,I3,r3,i,L3,Z3,ri,c3,f3,q3⟩=> ?_
 have f13:=(f1.trans f2).trans f3
 refine thn (q3.run Z3 σ H3 (ok.step c3 f13) vx vi vv (rx.mono f3.mv) ri ((rv.mono f2.mv).mono f3.mv) (fun H4=>DD.nx σ H4) (fun H4 L4 c4 f4 q4=>go.nx σ H4 Γ L4 (ok.step c4 (f13.trans f4)) (f13.trans f4) q4) pins s3 ux ui uv I3 r2 r3 r1) fun _ s4 ⟨H4,I4,q4⟩=> ?_
 exact ⟨σ,H4,I4,q4⟩⟩
end
end DL
namespace DL
open PySem PySem.Spec PyProof.Rows L2
section
variable {X:Cx} {pins:List (Addr×Obj)} {σ:L2.St} {H:Hp} {s:Shared} {Z:Fz}
mutual
theorem Rep.nst (I:Inv X pins σ H s):∀(d:D) (v:V) (u:Value),okN d=true→Rep X.K Z H v d→RelV v u→NestedIs s.heap (nk d) u
 | .non,_,u,_,r,ru=>by
  rw [r.nonE] at ru
  cases (show u=Value.none from ru)
  rw [nk]
  exact .none
 | .bl b,_,u,_,r,ru=>by
  rw [r.blE] at ru
  cases (show u=Value.bool b from ru)
  rw [nk]
  exact .bool rfl
 | .int i,_,u,_,r,ru=>by
  rw [r.intE] at ru
  obtain ⟨t,rfl⟩:=ru
  rw [nk]
  exact .int i t
 | .str x,_,u,_,r,ru=>by
  rw [r.strE] at ru
  obtain ⟨t,rfl⟩:=ru
  rw [nk]
  exact .text x t
 | .tup ds,_,u,h,r,ru=>by
  obtain ⟨a,vs,rfl,ha,ra⟩:=r.tupE
  cases (show u=Value.ref a from ru)
  rw [okN] at h
  obtain ⟨its,rv,⟨o,ho,hc,n,hd⟩,_⟩:=I.tuple (SqT.of ha)
  rw [nk]
  exact .tup ho hc hd (by simpa using bG.nst I ds vs its h ra rv)
 | .ty _,_,_,h,_,_=>by simp [okN] at h
 | .ptr _,_,_,h,_,_=>by simp [okN] at h
 | .ilst _,_,_,h,_,_=>by simp [okN] at h
 | .obj _ _,_,_,h,_,_=>by simp [okN] at h
 | .flst _,_,_,h,_,_=>by simp [okN] at h
 | .fdct _,_,_,h,_,_=>by simp [okN] at h
 | .kdct _,_,_,h,_,_=>by simp [okN] at h
 | .wds _,_,_,h,_,_=>by simp [okN] at h
 | .iob _ _,_,_,h,_,_=>by simp [okN] at h
 | .tk ds,_,u,h,r,ru=>by
  obtain ⟨a,vs,rfl,ha,ra,_⟩:=r.tkE
  cases (show u=Value.ref a from ru)
  rw [okN] at h
  obtain ⟨its,rv,⟨o,ho,hc,n,hd⟩,_⟩:=I.tuple ha.sq
  rw [nk]
  exact .tup ho hc hd (by simpa using bG.nst I ds vs its h ra rv)
theorem bG.nst (I:Inv X pins σ H s):∀(ds:List D) (vs:List V) (us:List Value),aAi ds=true→bG X.K Z H vs ds→Vals vs us→NestedAll s.heap (nks ds) us
 | [],_,_,_,.nil,.nil=>by rw [nks];exact .nil
 | d::ds,_,_,h,.cons r t,.cons ru tu=>by
  rw [aAi,Bool.and_eq_true] at h
  rw [nks]
  exact .cons (Rep.nst I d _ _ h.1 r ru) (bG.nst I ds _ _ h.2 t tu)
end
end
def aAj (kds:List (D×D)) (k:D):Option D:=(kds.find? fun x=>decide (nk x.1=nk k)).map (·.2)
def rY (kds:List (D×D)) (k d:D):List (D×D):=if (aAj kds k).isSome=true then kds.map fun x=>if nk x.1=nk k then (x.1,d) else x else kds++ [(k,d)]
abbrev EnR (K:PySem.W.Frag) (F:Fz) (H:Hp) (x:NestedKey×Addr×Value) (q:D×D):Prop:=x.1=nk q.1∧okN q.1=true∧(nk q.1).depth≤8∧Rep K F H (.ref x.2.1) q.1∧∃v,RelV v x.2.2∧Rep K F H v q.2
theorem xK {K:PySem.W.Frag} {F:Fz} {H:Hp} (k:D):∀{xs:List (NestedKey×Addr×Value)} {kds:List (D×D)},Paired (EnR K F H) xs kds→
  (atKey xs (nk k)=none∧aAj kds k=none)∨∃p d v,atKey xs (nk k)=some p∧aAj kds k=some d∧RelV v p.2∧Rep K F H v d
 | _,_,.nil=> .inl ⟨rfl,rfl⟩
 | _,_,.cons (a:=x) (b:=q) r t=>by
  obtain ⟨e,_,_,_,v,rv,rd⟩:=r
  unfold atKey aAj
  rw [List.find?_cons,List.find?_cons,e]
  by_cases h:nk q.1=nk k
  ·rw [decide_eq_true h]
   exact .inr ⟨x.2,q.2,v,rfl,rfl,rv,rd⟩
  ·rw [decide_eq_false h]
   exact xK k t
theorem enr_put {K:PySem.W.Frag} {F:Fz} {H:Hp} {k d:D} {b:Addr} {v:V} {u:Value} (hk:okN k=true) (h8:(nk k).depth≤8) (rk:Rep K F H (.ref b) k) (rv:RelV v u) (rd:Rep K F H v d) {xs:List (NestedKey×Addr×Value)} {kds:List (D×D)} (h:Paired (EnR K F H) xs kds):
  Paired (EnR K F H) (storedH xs (nk k) b u) (rY kds k d):=by
 have key:∀{xs:List (NestedKey×Addr×Value)} {kds:List (D×D)},Paired (EnR K F H) xs kds→Paired (EnR K F H) (xs.map (putAt (nk k) u)) (kds.map fun x=>if nk x.1=nk k then (x.1,d) else x):=by
  intro xs kds h
  induction h with
  | nil=>exact .nil
  | @cons x q xs kds r t ih=>
   refine .cons ?_ ih
   obtain ⟨e,h1,h2,h3,h4⟩:=r
   by_cases h:nk q.1=nk k
   ·have e1:putAt (nk k) u x=(x.1,x.2.1,u):=by unfold putAt;rw [if_pos (e.trans h)]
    have e2:(if nk q.1=nk k then (q.1,d) else q)=(q.1,d):=if_pos h
    show EnR K F H (putAt (nk k) u x) (if nk q.1=nk k then (q.1,d) else q)
    rw [e1,e2]
    exact ⟨e,h1,h2,h3,v,rv,rd⟩
   ·have e1:putAt (nk k) u x=x:=by unfold putAt;rw [if_neg (fun z=>h (e.symm.trans z))]
    have e2:(if nk q.1=nk k then (q.1,d) else q)=q:=if_neg h
    show EnR K F H (putAt (nk k) u x) (if nk q.1=nk k then (q.1,d) else q)
    rw [e1,e2]
    exact ⟨e,h1,h2,h3,h4⟩
 have app:∀{xs:List (NestedKey×Addr×Value)} {kds:List (D×D)},Paired (EnR K F H) xs kds→Paired (EnR K F H) (xs++ [(nk k,b,u)]) (kds++ [(k,d)]):=by
  intro xs kds h
  induction h with
  | nil=>exact .cons ⟨rfl,hk,h8,rk,v,rv,rd⟩ .nil
  | cons r t ih=>exact .cons r ih
 unfold storedH rY
 rcases xK k h with ⟨e1,e2⟩ | ⟨p,d',v',e1,e2,_⟩
 ·rw [e1,e2]
  exact app h
 ·rw [e1,e2]
  exact key h
theorem ndPut_len (kds:List (D×D)) (k d:D):(rY kds k d).length≤kds.length+1:=by
 unfold rY
 split
 ·rw [List.length_map];omega
 ·rw [List.length_append];exact Nat.le_refl _
section
variable {C:DL.Ctx} {Γ:Gm} {L:Lp} {Q:D→Lp→Prop} {pos:Pos} {kds:List (D×D)} {a:Addr} {k d:D} {Z:Fz} {H:Hp} {pins:List (Addr×Obj)} {σ:L2.St} {s:Shared}
theorem rC {xs:List (NestedKey×Addr×Value)} (I:Inv C.X pins σ H s) (e:H a=some (ndO C.X.prog C.X.w a xs)) (r:Paired (EnR C.X.K Z H) xs kds):
  xs.length≤sizeLine∧(a==sysModules)=false∧s.heap.DictOfH (nestedKind C.X.prog C.X.w) a xs:=by
 obtain ⟨⟨h1,h2,o,es,ep,g1,g2,g3,g4,g5⟩,_⟩:=I.hok a _ e
 refine ⟨h1,h2,o,es,ep,g1,g2,g3,g4,fun x hx=> ?_,g5⟩
 have key:∀{xs:List (NestedKey×Addr×Value)} {kds:List (D×D)},Paired (EnR C.X.K Z H) xs kds→∀x∈xs,(nestedKind C.X.prog C.X.w).is s.heap x.1 x.2.1:=by
  intro xs kds h
  induction h with
  | nil=>exact fun x hx=>nomatch hx
  | cons r t ih=>
   intro x hx
   rcases List.mem_cons.mp hx with rfl | hx
   ·obtain ⟨e,h1,h2,h3,_⟩:=r
    rw [e]
    exact ⟨Rep.nst I _ _ _ h1 h3 rfl,h2⟩
   ·exact ih x hx
 exact key r x hx
theorem zW {P:Program} {w:World} {H':Hp} {h':Heap} {xs:List (NestedKey×Addr×Value)} (hz:xs.length≤sizeLine) (hd:(a==sysModules)=false) (h:h'.DictOfH (nestedKind P w) a xs):ObjOk P w H' h' a (ndO P w a xs):=by
 obtain ⟨o,es,ep,g1,g2,g3,g4,g5,g6⟩:=h
 refine ⟨⟨hz,hd,o,es,ep,g1,g2,g3,g4,g6⟩,⟨o,g1⟩,fun h1 h2 z kk=> ?_⟩
 obtain ⟨z1,z2,o',es',ep',k1,k2,k3,k4,k5⟩:=z
 exact ⟨z1,z2,o',es',ep',kk _ k1,k2,k3,k4,k5⟩
theorem zR (hu:C.X.A.units+16 < cLine):(nestedKind C.X.prog C.X.w).room C.X.A.in1:=by
 show C.X.A.in1.units+8 < cLine
 have:C.X.A.in1.units≤C.X.A.units+1:=Nat.le_refl _
 omega
theorem wW {v:V} {u:Value} (hk:∃es,k= .tup es) (r:Rep C.X.K Z H v k) (ru:RelV v u):∃b,v= .ref b∧u= .ref b:=by
 obtain ⟨es,rfl⟩:=hk
 obtain ⟨b,vs,rfl,_⟩:=r.tupE
 exact ⟨b,rfl,ru⟩
theorem j_ninN (hu:C.X.A.units+16 < cLine) (ha:L a=some (.nd kds)) (ht:∃es,k= .tup es) (hk:okN k=true) (h8:(nk k).depth≤8) (q:Q (.bl (!(aAj kds k).isSome)) L):OpJ C (.cmp .NotIn) Γ k (.ptr a) L Q:=⟨fun Z σ H ok vx vy rx ry QV go pins s v u I r1 r2=>by
 obtain ⟨xs,e,rr⟩:=ok.con.at_ a _ ha
 obtain ⟨b,rfl,rfl⟩:=wW ht rx r1
 rw [ry.ptrE] at r2
 cases (show u=Value.ref a from r2)
 obtain ⟨hz,hd,hm⟩:=rC I e rr
 have e2:(atKey xs (nk k)).isSome=(aAj kds k).isSome:=by
  rcases xK k rr with ⟨e1,e2⟩ | ⟨p,d,v,e1,e2,_⟩ <;> rw [e1,e2] <;> rfl
 rw [←e2] at q
 refine notIn_keyed (kvs:=pairsH xs) (zR hu) ⟨Rep.nst I _ _ _ hk rx rfl,h8⟩ hd ⟨xs,hm,rfl⟩ ?_
 rw [valueAt_pairsH,Option.isSome_map]
 exact ⟨.bl _,H,I.tok _,rfl,go _ _ H L (.bl _) ok.con (.refl L H) q⟩⟩
theorem sb_N {va sl:Expr} (hu:C.X.A.units+16 < cLine) (ha:L a=some (.nd kds)) (ht:∃es,k= .tup es) (hk:okN k=true) (h8:(nk k).depth≤8) (hd:aAj kds k=some d) (q:Q d L) (hs:PlainIx sl):SbJ C va sl Γ (.ptr a) k L Q:=⟨fun Z σ H ok vx vy rx ry QV go pins s v u I r1 r2=>by
 obtain ⟨xs,e,rr⟩:=ok.con.at_ a _ ha
 obtain ⟨b,rfl,rfl⟩:=wW ht ry r2
 rw [rx.ptrE] at r1
 cases (show v=Value.ref a from r1)
 obtain ⟨hz,hd2,hm⟩:=rC I e rr
 rcases xK k rr with ⟨e1,e2⟩ | ⟨p,d',v',e1,e2,rv,rd⟩
 ·rw [hd] at e2;cases e2
 ·rw [hd] at e2
  cases e2
  exact tail_any hm.typeIs slot_dict_getitem.lookup (wpAny_getItem_heap (zR hu) ⟨Rep.nst I _ _ _ hk ry rfl,h8⟩ hm e1 ⟨v',H,I.tok _,rv,go _ _ H L rd ok.con (.refl L H) q⟩) (hs _ _)⟩
theorem st_N {QL:Lp→Prop} (hu:C.X.A.units+16 < cLine) (ha:L a=some (.nd kds)) (ht:∃es,k= .tup es) (hk:okN k=true) (h8:(nk k).depth≤8) (hz:kds.length < sizeLine) (q:QL (put L a (.nd (rY kds k d)))):StJ C Γ (.ptr a) k d L QL:=⟨fun Z σ H ok vx vi vv rx ri rv QV go pins s ux ui uv I r1 r2 r3=>by
 obtain ⟨xs,e,rr⟩:=ok.con.at_ a _ ha
 obtain ⟨b,rfl,rfl⟩:=wW ht ri r2
 rw [rx.ptrE] at r1
 cases (show ux=Value.ref a from r1)
 obtain ⟨hz1,hd,hm⟩:=rC I e rr
 have hl:xs.length=kds.length:=Paired.length rr
 refine wpAny_setItem_heap (hsz:=by omega) (zR hu) ⟨Rep.nst I _ _ _ hk ri rfl,h8⟩ hm fun h' hm' hs=> ?_
 have rr2:=enr_put hk h8 ri r3 rv rr
 have hl2:(storedH xs (nk k) b uv).length≤sizeLine:=by
  rw [Paired.length rr2]
  have:=ndPut_len kds k d
  omega
 have hx:∃q,h'.get? a=some q:=let ⟨o,_,_,ho,_⟩:=hm';⟨o,ho⟩
 have I2:=d_write (ob:=ndO C.X.prog C.X.w a (storedH xs (nk k) b uv)) (t':=s.toks+(nestedKind C.X.prog C.X.w).draws (nk k)) I (by rw [e];exact True.intro) hs hx (zW hl2 hd hm')
 have f2:Fr L Z H (put L a (.nd (rY kds k d))) Z (upd H a (ndO C.X.prog C.X.w a (storedH xs (nk k) b uv))):=Fr.write ok.con ha
 refine ⟨_,I2,go _ (put L a (.nd (rY kds k d))) (ok.con.write (mo':= .nd (rY kds k d)) ha ⟨_,upd_same,Paired.mono rr2 fun p q ⟨z1,z2,z3,z4,v,z5,z6⟩=>⟨z1,z2,z3,z4.mono f2.mv,v,z5,z6.mono f2.mv⟩⟩) f2 q⟩⟩
end
end DL
namespace DL
open PySem PySem.Spec PyProof.Rows L2
mutual
theorem xG:∀d:D,okD d=true→okN d=true
 | .non,_=>by rw [okN]
 | .bl _,_=>by rw [okN]
 | .int _,_=>by rw [okN]
 | .str _,_=>by rw [okN]
 | .tup ds,h=>by rw [okN];rw [okD] at h;exact okNs_of ds h
 | .ty _,h=>by simp [okD] at h
 | .ptr _,h=>by simp [okD] at h
 | .ilst _,h=>by simp [okD] at h
 | .obj _ _,h=>by simp [okD] at h
 | .flst _,h=>by simp [okD] at h
 | .fdct _,h=>by simp [okD] at h
 | .kdct _,h=>by simp [okD] at h
 | .wds _,h=>by simp [okD] at h
 | .iob _ _,h=>by simp [okD] at h
 | .tk _,h=>by simp [okD] at h
theorem okNs_of:∀ds:List D,oM ds=true→aAi ds=true
 | [],_=>by rw [aAi]
 | d::ds,h=>by
  rw [oM,Bool.and_eq_true] at h
  rw [aAi,xG d h.1,okNs_of ds h.2]
  rfl
end
section
variable {C:DL.Ctx} {Γ:Gm} {L:Lp} {Q:D→Lp→Prop} {pos:Pos} {kds:List (D×D)} {a:Addr} {k d:D} {ke ve:Expr}
theorem ae_nd0 (q:∀p,L p=none→Q (.ptr p) (put L p (.nd []))):AE C (.Dict [] [] pos) Γ L Q:=fun Z σ H ok QV go=>⟨fun pins s I=>by
 have hn:H s.heap.objs.size=none:=I.hok.fresh (Nat.le_refl _)
 have hd:(s.heap.objs.size==sysModules)=false:=beq_eq_false_iff_ne.mpr (Ne.symm (Nat.ne_of_lt I.big))
 have I1:Inv C.X pins σ (upd H s.heap.objs.size (ndO C.X.prog C.X.w s.heap.objs.size [])) {s with heap:=s.heap.push {cls:= .type "dict",data:= .dict #[]},toks:=s.toks}:=I.laid (fun _ _ q=>Heap.get?_push_of_some _ q) (Nat.le_refl _) (zW (Nat.zero_le _) hd (Heap.DictOfH.new s.heap))
 exact wpAny_Dict_empty ⟨.ref s.heap.objs.size,_,I1,rfl,go _ _ _ (put L s.heap.objs.size (.nd [])) (.ptr _) (ok.con.newL hn ⟨[],upd_same,.nil⟩) (.newL hn) (q _ (ok.con.free hn))⟩⟩
theorem dict_one {prog:Program} {w:World} {A:Around} {E:Value→Shared→Prop} {s:Shared} {env:Env} {Qv:Value→Shared→Prop} (hu:(nestedKind prog w).room A)
  (h:wpAny (model prog w) A (evalPairs [(eval ke env,do let x ←eval ve env;standAt pos;pure x)]) (fun vs s₁=> ∃ps,CarriesH (nestedKind prog w) s₁.heap vs ps∧s₁.heap.DictOfH (nestedKind prog w) s.heap.objs.size []∧
   ∀h' tk,h'.DictOfH (nestedKind prog w) s.heap.objs.size (storedAllH [] ps)→Heap.SameBut s.heap.objs.size s₁.heap h'→Qv (.ref s.heap.objs.size) {s₁ with heap:=h',toks:=tk}) E
   {s with heap:=s.heap.push {cls:= .type "dict",data:= .dict #[]}}) (hs:(evalEachOpt [some ke] env).zip ((evalEach [ve] env).map fun v=>do let x ←v;standAt pos;pure x)= [(some (eval ke env),do let x ←eval ve env;standAt pos;pure x)]:=by rfl):
  wpAny (model prog w) A (eval (.Dict [some ke] [ve] pos) env) Qv E s:=by
 have e:=dictDisplay_pairs [(eval ke env,(do let x ←eval ve env;standAt pos;pure x:Sem Value))] (by simp) (by show 1 < 17;decide)
 rw [arm_eval_Dict,hs]
 rw [show ([(some (eval ke env),(do let x ←eval ve env;standAt pos;pure x:Sem Value))]:List (Option (Sem Value)×Sem Value))= [(eval ke env,(do let x ←eval ve env;standAt pos;pure x:Sem Value))].map (fun p=>(some p.1,p.2)) from rfl,e]
 refine wpAny_bind (wpAny_standAt (wpAny_bind (wpAny_subDictH (knd:=nestedKind prog w) hu (by show 1≤15;decide) (wpAny_mono h (fun vs s₁ ⟨ps,hc,hm,hq⟩=>⟨ps,hc,hm,fun h' tk z1 z2=>wpAny_pure (hq h' tk z1 z2)⟩) fun _ _ x=>x))))
theorem ae_nd1 (hu:C.X.A.units+16 < cLine) (h:AE C ke Γ L fun k L1=>AE C ve Γ L1 fun d L2=>(∃es,k= .tup es)∧okN k=true∧(nk k).depth≤8∧∀p,L2 p=none→Q (.ptr p) (put L2 p (.nd [(k,d)])))
  (hs:(evalEachOpt [some ke] C.X.env).zip ((evalEach [ve] C.X.env).map fun v=>do let x ←v;standAt pos;pure x)= [(some (eval ke C.X.env),do let x ←eval ve C.X.env;standAt pos;pure x)]:=by rfl):AE C (.Dict [some ke] [ve] pos) Γ L Q:=fun Z σ H ok QV go=>⟨fun pins s I=>by
 have hn:H s.heap.objs.size=none:=I.hok.fresh (Nat.le_refl _)
 have hd:(s.heap.objs.size==sysModules)=false:=beq_eq_false_iff_ne.mpr (Ne.symm (Nat.ne_of_lt I.big))
 have I1:Inv C.X pins σ (upd H s.heap.objs.size (ndO C.X.prog C.X.w s.heap.objs.size [])) {s with heap:=s.heap.push {cls:= .type "dict",data:= .dict #[]},toks:=s.toks}:=I.laid (fun _ _ q=>Heap.get?_push_of_some _ q) (Nat.le_refl _) (zW (Nat.zero_le _) hd (Heap.DictOfH.new s.heap))
 refine dict_one (zR (C:=C) hu |> fun z=>by
  have:C.X.A.units+8 < cLine:=by omega
  exact this) ?_ hs
 have ok1:Ok C Γ L Z σ (upd H s.heap.objs.size (ndO C.X.prog C.X.w s.heap.objs.size [])):=ok.step (ok.con.new hn) (.new hn)
 refine evalPairs_cons (thn ((h Z σ _ ok1 (fun v G=> ∃k L1 Z1,Rep C.X.K Z1 G v k∧C.Con L1 Z1 G∧Fr L Z (upd H s.heap.objs.size (ndO C.X.prog C.X.w s.heap.objs.size [])) L1 Z1 G∧AE C ve Γ L1 fun d L2=>(∃es,k= .tup es)∧okN k=true∧(nk k).depth≤8∧∀p,L2 p=none→Q (.ptr p) (put L2 p (.nd [(k,d)]))) fun v d H' L' r c f q=>⟨d,L',_,r,c,f,q⟩).run pins _ I1) fun u1 s1 ⟨v1,G1,J1,r1,k,L1,Z1,rk,c1,f1,q1⟩=> ?_)
 refine wpAny_bind (thn ((q1 Z1 σ G1 (ok1.step c1 f1) (fun v G=> ∃d L2 Z2,Rep C.X.K Z2 G v d∧C.Con L2 Z2 G∧Fr L1 Z1 G1 L2 Z2 G∧(∃es,k= .tup es)∧okN k=true∧(nk k).depth≤8∧∀p,L2 p=none→Q (.ptr p) (put L2 p (.nd [(k,d)]))) fun v d H' L' r c f q=>⟨d,L',_,r,c,f,q⟩).run pins _ J1) fun u2 s2 ⟨v2,G2,J2,r2,d,L2,Z2,rd,c2,f2,ht,hk,h8,q2⟩=> ?_)
 refine wpAny_bind (wpAny_standAt (wpAny_pure (evalPairs_nil ?_)))
 have rk2:=rk.mono f2.mv
 obtain ⟨b,rfl,rfl⟩:=wW ht rk2 r1
 have e2:G2 s.heap.objs.size=some (ndO C.X.prog C.X.w s.heap.objs.size []):=by
  have nL:L s.heap.objs.size=none:=ok.con.free hn
  have g1:=f1.keep _ _ upd_same (fun y z=>by unfold ndO at z;cases z) nL
  refine f2.keep _ _ g1 (fun y z=>by unfold ndO at z;cases z) ?_
  cases e:L1 s.heap.objs.size with
  | none=>rfl
  | some o=>
   rcases f1.dom _ (by rw [e];simp) with z | z
   ·exact absurd nL z
   ·rw [upd_same] at z;cases z
 obtain ⟨hz,_,hm⟩:=rC (Z:=Z2) (kds:= []) J2 e2 .nil
 refine ⟨[(nk k,b,u2)],⟨rfl,rfl,⟨Rep.nst J2 _ _ _ hk rk2 rfl,h8⟩,trivial⟩,hm,fun h' tk hm' hs'=> ?_⟩
 have hx:∃q,h'.get? s.heap.objs.size=some q:=let ⟨o,_,_,ho,_⟩:=hm';⟨o,ho⟩
 have hm':h'.DictOfH (nestedKind C.X.prog C.X.w) s.heap.objs.size [(nk k,b,u2)]:=hm'
 have I3:=d_write (ob:=ndO C.X.prog C.X.w s.heap.objs.size [(nk k,b,u2)]) (t':=tk) J2 (by rw [e2];exact True.intro) hs' hx (zW (by show 1≤sizeLine;decide) hd hm')
 have n2:L2 s.heap.objs.size=none:=by
  cases e:L2 s.heap.objs.size with
  | none=>rfl
  | some o=>
   rcases (f1.trans f2).dom _ (by rw [e];simp) with z | z
   ·exact absurd (ok.con.free hn) z
   ·rw [upd_same] at z;cases z
 have nz:¬Z2 s.heap.objs.size:=fun z=>by
  rcases (f1.trans f2).off _ z with y | y | y
  ·exact ok.con.nf hn y
  ·exact y (ok.con.free hn)
  ·rw [upd_same] at y;cases y
 have nx:∀{c:Addr} {o:HO},G2 c=some o→(∀y,o≠ndO C.X.prog C.X.w s.heap.objs.size y)→c≠s.heap.objs.size:=fun {c o} e n z=>by rw [z,e2] at e;exact n _ (Option.some.inj e).symm
 have st:Stay G2 (upd G2 s.heap.objs.size (ndO C.X.prog C.X.w s.heap.objs.size [(nk k,b,u2)])):=⟨fun c vs e=>by rw [upd_ne (nx e fun y z=>by unfold ndO at z;cases z)];exact e,fun c o xs e=>by rw [upd_ne (nx e fun y z=>by unfold ndO at z;cases z)];exact e,fun c e=>by rw [upd_ne (nx e fun y z=>by unfold ndO at z;cases z)];exact e⟩
 have mv:Mv Z2 G2 Z2 (upd G2 s.heap.objs.size (ndO C.X.prog C.X.w s.heap.objs.size [(nk k,b,u2)])):=⟨st,fun _ z=>z,fun c o z e=>by rw [upd_ne (show c≠s.heap.objs.size from fun y=>nz (by rw [←y];exact z))];exact e⟩
 refine ⟨.ref s.heap.objs.size,_,I3,rfl,go (F':=Z2) _ _ _ (put L2 s.heap.objs.size (.nd [(k,d)])) (.ptr _) ⟨fun c o e=> ?_,fun c z=> ?_⟩ ⟨fun c o e no nL=> ?_,fun c z=> ?_,?_,fun c z=> ?_,?_,?_,?_⟩ (q2 _ n2)⟩
 ·by_cases hc:c=s.heap.objs.size
  ·subst hc
   rw [aD] at e
   cases e
   exact ⟨_,upd_same,.cons ⟨rfl,hk,h8,rk2.mono mv,v2,r2,rd.mono mv⟩ .nil⟩
  ·rw [aJ hc] at e
   exact (c2.at_ c o e).mono mv (upd_ne hc)
 ·obtain ⟨z1,o,z2,z3,z4⟩:=c2.fz c z
  have hc:c≠s.heap.objs.size:=fun y=>nz (by rw [←y];exact z)
  exact ⟨by rw [aJ hc];exact z1,o,by rw [upd_ne hc];exact z2,z3,z4⟩
 ·have hc:c≠s.heap.objs.size:=fun y=>by rw [y,hn] at e;cases e
  rw [upd_ne hc]
  exact (f1.trans f2).keep c o (by rw [upd_ne hc];exact e) no nL
 ·exact dY ((f1.trans f2).live c (dY z))
 ·have s0:Stay H (upd H s.heap.objs.size (ndO C.X.prog C.X.w s.heap.objs.size [])):=(Fr.new (L:=L) (F:=Z) hn).stay
  exact (s0.trans (f1.trans f2).stay).trans st
 ·by_cases hc:c=s.heap.objs.size
  ·exact .inr (by rw [hc];exact hn)
  ·rw [aJ hc] at z
   rcases (f1.trans f2).dom c z with y | y
   ·exact .inl y
   ·rw [upd_ne hc] at y;exact .inr y
 ·exact (f1.trans f2).fz
 ·intro c o z e
  have hc:c≠s.heap.objs.size:=fun y=>by rw [y,hn] at e;cases e
  rw [upd_ne hc]
  exact (f1.trans f2).fk c o z (by rw [upd_ne hc];exact e)
 ·intro c z
  rcases (f1.trans f2).off c z with y | y | y
  ·exact .inl y
  ·exact .inr (.inl y)
  ·by_cases hc:c=s.heap.objs.size
   ·exact .inr (.inr (by rw [hc];exact hn))
   ·rw [upd_ne hc] at y;exact .inr (.inr y)⟩
end
end DL
namespace DL
open PySem PySem.Spec PyProof.Rows L2
section
variable {C:DL.Ctx} {Γ:Gm} {L:Lp} {Q:D→Lp→Prop} {pos p p2 apos:Pos} {e o ke ve:Expr} {es:List Expr}
theorem aa_star {Q:List D→Lp→Prop} (h:AE C e Γ L fun d L1=> ∃xs,(d= .tup xs∨LR L1 d xs)∧AA C es Γ L1 fun ds L2=>Q (xs++ds) L2) (hs:starEach (.Starred e p::es) C.X.env=(true,eval e C.X.env)::starEach es C.X.env:=by rfl):AA C (.Starred e p::es) Γ L Q:=fun F σ H ok QV go=>
 zP (StX.pa_star bA mW hs) (h _ σ H ok _ fun v d H1 L1 r c f ⟨xs,hd,q⟩=>by
  rcases hd with rfl | hd
  ·obtain ⟨a,vs,rfl,ha,ra⟩:=r.tupE
   exact ⟨a,vs,rfl,.inl (SqT.of ha),q _ σ H1 (ok.step c f) _ fun ws ds H2 L2 r2 c2 f2 q2=>go (vs++ws) (xs++ds) H2 L2 ((ra.mono f2.mv).append r2) c2 (f.trans f2) q2⟩
  ·obtain ⟨a,vs,rfl,ha,ra,_⟩:=hd.at_ c r
   exact ⟨a,vs,rfl,.inr (SqL.of ha),q _ σ H1 (ok.step c f) _ fun ws ds H2 L2 r2 c2 f2 q2=>go (vs++ws) (xs++ds) H2 L2 ((ra.mono f2.mv).append r2) c2 (f.trans f2) q2⟩)
theorem rgV_ints (n:Int):rgV 0 n=((List.range n.toNat).map fun (i:Nat)=>(i:Int)).map V.int:=by
 unfold rgV
 rw [List.map_map,Int.sub_zero]
 refine List.map_congr_left fun i _=> ?_
 show V.int (0+(i:Int))=V.int i
 rw [Int.zero_add]
theorem reps_of_ints {K:PySem.W.Frag} {F:Fz} {H:Hp}:∀ns:List Int,bG K F H (ns.map V.int) (ns.map D.int)
 | []=> .nil
 | n::ns=> .cons (.int n) (reps_of_ints ns)
theorem ae_listRange {x1:Pos} (hm:C.X.mg "list"=none) (hm2:C.X.mg "range"=none) (h:AE C e Γ L fun d L1=> ∃n:Int,d= .int n∧0≤n∧n≤16777216∧∀p,L1 p=none→Q (.ptr p) (put L1 p (.lst ((List.range n.toNat).map fun (i:Nat)=> .int (i:Int)))))
  (hg:Gl C.X "list" :=by rfl) (hg2:Gl C.X "range" :=by rfl) (na:starEach [e] C.X.env=(false,eval e C.X.env)::starEach [] C.X.env:=by rfl)
  (nb:starEach [.Call (.Name "range" p2) [e] [] x1] C.X.env=(false,eval (.Call (.Name "range" p2) [e] [] x1) C.X.env)::starEach [] C.X.env:=by rfl):AE C (.Call (.Name "list" p) [.Call (.Name "range" p2) [e] [] x1] [] pos) Γ L Q:=fun F σ H ok QV go=>
 dO (pe_listRg C.calm hg hm (prg_1 hg2 hm2 bA na) nb) (h _ σ H ok _ fun v d H1 L1 r c f ⟨n,ed,h0,h1,q⟩=>by
  subst ed
  refine ⟨n,r.intE,.of_le (Int.le_refl _) h1 (by omega) h0,fun q' hq=> ?_⟩
  have e2:((List.range n.toNat).map fun (i:Nat)=>D.int (i:Int))=((List.range n.toNat).map fun (i:Nat)=>(i:Int)).map D.int:=by rw [List.map_map];rfl
  refine go _ _ _ (put L1 q' (.lst ((List.range n.toNat).map fun (i:Nat)=> .int (i:Int)))) (.ptr q') (c.newL hq ⟨rgV 0 n,upd_same,?_,?_⟩) (f.trans (.newL hq)) (q q' (c.free hq))
  ·rw [rgV_ints,e2]
   exact reps_of_ints _
  ·rw [List.length_map,List.length_range,dF]
   omega)
def pQ (kds:List (Key×D)) (k:Key):Option D:=(kds.find? fun kv=>decide (kv.1=k)).map (·.2)
def uW (kds:List (Key×D)) (k:Key) (v:D):List (Key×D):=
 if kds.any (fun kv=>decide (kv.1=k)) then kds.map fun kv=>if kv.1=k then (kv.1,v) else kv else kds++ [(k,v)]
abbrev KKs (K:PySem.W.Frag) (F:Fz) (H:Hp):List (Key×V)→List (Key×D)→Prop:=Paired fun p q=>p.1=q.1∧Rep K F H p.2 q.2
theorem KKs.val {K:PySem.W.Frag} {F:Fz} {H:Hp} {kvs:List (Key×V)} {kds:List (Key×D)} (r:KKs K F H kvs kds) (k:Key):
  (valV kvs k=none∧pQ kds k=none)∨∃v d,valV kvs k=some v∧pQ kds k=some d∧Rep K F H v d:=by
 induction r with
 | nil=>exact .inl ⟨rfl,rfl⟩
 | @cons p q ps qs h t ih=>
  obtain ⟨h1,h2⟩:=h
  by_cases e:p.1=k
  ·refine .inr ⟨p.2,q.2,valV_pos e,?_,h2⟩
   unfold pQ
   rw [List.find?_cons_of_pos (by simpa using h1.symm.trans e)]
   rfl
  ·have e2:pQ (q::qs) k=pQ qs k:=by
    unfold pQ
    rw [List.find?_cons_of_neg (by simpa using fun z=>e (h1.trans z))]
   rw [valV_neg e,e2]
   exact ih
theorem KKs.put {K:PySem.W.Frag} {F:Fz} {H:Hp} {kvs:List (Key×V)} {kds:List (Key×D)} (r:KKs K F H kvs kds) (k:Key) {v:V} {d:D} (rv:Rep K F H v d):KKs K F H (putK kvs k v) (uW kds k d):=by
 have ea:(kvs.any fun kv=>decide (kv.1=k))=kds.any fun kv=>decide (kv.1=k):=by
  induction r with
  | nil=>rfl
  | @cons p q ps qs h t ih=>rw [List.any_cons,List.any_cons,ih,h.1]
 have k1:∀{kvs:List (Key×V)} {kds:List (Key×D)},KKs K F H kvs kds→KKs K F H (kvs.map fun kv=>if kv.1=k then (kv.1,v) else kv) (kds.map fun kv=>if kv.1=k then (kv.1,d) else kv):=by
  intro kvs kds r
  induction r with
  | nil=>exact .nil
  | @cons p q ps qs h t ih=>
   rw [List.map_cons,List.map_cons]
   refine .cons ?_ ih
   by_cases e:p.1=k
   ·rw [if_pos e,if_pos (h.1.symm.trans e)]
    exact ⟨h.1,rv⟩
   ·rw [if_neg e,if_neg (fun z=>e (h.1.trans z))]
    exact h
 have k2:∀{kvs:List (Key×V)} {kds:List (Key×D)},KKs K F H kvs kds→KKs K F H (kvs++ [(k,v)]) (kds++ [(k,d)]):=by
  intro kvs kds r
  induction r with
  | nil=>exact .cons ⟨rfl,rv⟩ .nil
  | cons h t ih=>exact .cons h ih
 unfold putK uW
 rw [ea]
 split
 ·exact k1 r
 ·exact k2 r
theorem KKs.mono {K:PySem.W.Frag} {F F':Fz} {H H':Hp} {kvs:List (Key×V)} {kds:List (Key×D)} (s:Mv F H F' H') (r:KKs K F H kvs kds):KKs K F' H' kvs kds:=Paired.mono r fun _ _ z=>⟨z.1,z.2.mono s⟩
theorem KKs.len {K:PySem.W.Frag} {F:Fz} {H:Hp} {kvs:List (Key×V)} {kds:List (Key×D)} (r:KKs K F H kvs kds):kvs.length=kds.length:=Paired.length r
theorem valK_put (kds:List (Key×D)) (k j:Key) (y:D):pQ (uW kds k y) j=if j=k then some y else pQ kds j:=by
 have hmap:∀kds:List (Key×D),pQ (kds.map fun kv=>if kv.1=k then (kv.1,y) else kv) j=(pQ kds j).map fun x=>if j=k then y else x:=by
  intro kds
  induction kds with
  | nil=>rfl
  | cons q qs ih=>
   unfold pQ at ih ⊢
   rw [List.map_cons]
   by_cases e:q.1=k
   ·rw [if_pos e]
    by_cases e2:q.1=j
    ·rw [List.find?_cons_of_pos (by simpa using e2),List.find?_cons_of_pos (by simpa using e2)]
     simp [e2 ▸e]
    ·rw [List.find?_cons_of_neg (by simpa using e2),List.find?_cons_of_neg (by simpa using e2)]
     exact ih
   ·rw [if_neg e]
    by_cases e2:q.1=j
    ·rw [List.find?_cons_of_pos (by simpa using e2),List.find?_cons_of_pos (by simpa using e2)]
     simp [show ¬j=k from fun z=>e (e2.trans z)]
    ·rw [List.find?_cons_of_neg (by simpa using e2),List.find?_cons_of_neg (by simpa using e2)]
     exact ih
 have hany:∀kds:List (Key×D),(kds.any fun kv=>decide (kv.1=k))=(pQ kds k).isSome:=by
  intro kds
  induction kds with
  | nil=>rfl
  | cons q qs ih=>
   unfold pQ at ih ⊢
   rw [List.any_cons,ih]
   by_cases e:q.1=k
   ·rw [List.find?_cons_of_pos (by simpa using e)]
    simp [e]
   ·rw [List.find?_cons_of_neg (by simpa using e)]
    simp [e]
 unfold uW
 rw [hany]
 by_cases e:j=k
 ·subst e
  rw [if_pos rfl]
  by_cases hs:(pQ kds j).isSome=true
  ·rw [if_pos hs,hmap]
   obtain ⟨z,ez⟩:=Option.isSome_iff_exists.mp hs
   rw [ez]
   simp
  ·rw [if_neg hs]
   unfold pQ at hs ⊢
   rw [List.find?_append]
   have:(kds.find? fun kv=>decide (kv.1=j))=none:=by
    cases ez:kds.find? fun kv=>decide (kv.1=j) with
    | none=>rfl
    | some z=>rw [ez] at hs;simp at hs
   rw [this]
   simp
 ·rw [if_neg e]
  by_cases hs:(pQ kds k).isSome=true
  ·rw [if_pos hs,hmap]
   cases pQ kds j <;> simp [e]
  ·rw [if_neg hs]
   unfold pQ
   rw [List.find?_append]
   cases kds.find? fun kv=>decide (kv.1=j) with
   | none=>simp [show ¬k=j from fun z=>e z.symm]
   | some z=>rfl
variable {kds:List (Key×D)} {a:Addr} {k:Key} {d:D}
theorem uA {K:PySem.W.Frag} {F:Fz} {H:Hp} {v:V} (r:Rep K F H v (keyD k)):v=kV k:=by
 cases k with
 | inl i=>exact r.intE
 | inr x=>exact r.strE
theorem yZ {F:Fz} {H:Hp} (c:C.Con L F H) (ha:L a=some (.kd kds)):∃kvs,H a=some (.dK kvs)∧KKs C.X.K F H kvs kds:=c.at_ a _ ha
theorem j_ninK (hu:C.X.A.units+1 < cLine) (ha:L a=some (.kd kds)) (q:Q (.bl (!(pQ kds k).isSome)) L):OpJ C (.cmp .NotIn) Γ (keyD k) (.ptr a) L Q:=⟨fun Z σ H ok vx vy rx ry QV go pins s v u I r1 r2=>by
 obtain ⟨kvs,e,rr⟩:=yZ ok.con ha
 rw [ry.ptrE] at r2
 cases (show u=Value.ref a from r2)
 rw [uA rx] at r1
 refine d_notIn hu I (.k e) r1 fun s' I'=> ?_
 have e2:(valV kvs k).isSome=(pQ kds k).isSome:=by rcases rr.val k with ⟨h1,h2⟩ | ⟨_,_,h1,h2,_⟩ <;> rw [h1,h2] <;> rfl
 exact ⟨.bl _,H,I',rfl,by rw [e2];exact go _ _ H L (.bl _) ok.con (.refl L H) q⟩⟩
theorem sb_K {va sl:Expr} (hu:C.X.A.units+1 < cLine) (ha:L a=some (.kd kds)) (hd:pQ kds k=some d) (q:Q d L) (hs:PlainIx sl):SbJ C va sl Γ (.ptr a) (keyD k) L Q:=⟨fun Z σ H ok vx vy rx ry QV go pins s v u I r1 r2=>by
 obtain ⟨kvs,e,rr⟩:=yZ ok.con ha
 rw [rx.ptrE] at r1
 cases (show v=Value.ref a from r1)
 rw [uA ry] at r2
 rcases rr.val k with ⟨h1,h2⟩ | ⟨v',d',h1,h2,rv⟩
 ·rw [hd] at h2;cases h2
 ·rw [hd] at h2
  cases h2
  refine tail_any (dict_typeIs I (.k (k:=k) e)) slot_dict_getitem.lookup (d_getItem hu I (v:=v') (by rw [←h1];exact .k e) r2 fun w s' I' rw'=>⟨v',H,I',rw',go _ _ H L rv ok.con (.refl L H) q⟩) (hs _ _)⟩
theorem st_K {QL:Lp→Prop} (hu:C.X.A.units+1 < cLine) (ha:L a=some (.kd kds)) (hz:kds.length < sizeLine) (q:QL (put L a (.kd (uW kds k d)))):StJ C Γ (.ptr a) (keyD k) d L QL:=⟨fun Z σ H ok vx vi vv rx ri rv QV go pins s ux ui uv I r1 r2 r3=>by
 obtain ⟨kvs,e,rr⟩:=yZ ok.con ha
 rw [rx.ptrE] at r1
 cases (show ux=Value.ref a from r1)
 rw [uA ri] at r2
 have s:=Mv.write (o:= .dK (putK kvs k vv)) ok.con ha
 refine d_setItem hu I (.k e (by rw [rr.len];exact hz)) r2 r3 fun s' I'=>⟨_,I',go _ (put L a (.kd (uW kds k d))) (ok.con.write ha ⟨_,upd_same,(rr.put k rv).mono s⟩) (.write ok.con ha) q⟩⟩
theorem ae_kdI (h:AE C ke Γ L fun x L1=> ∃k,x=keyD k∧AE C ve Γ L1 fun d L2=> ∀p,L2 p=none→Q (.ptr p) (put L2 p (.kd [(k,d)])))
  (hp:PPs C.X pos [some ke] [ve] [(WE C.X ke,WE C.X ve)]:=by exact pps_cons bA bA pps_nil):AE C (.Dict [some ke] [ve] pos) Γ L Q:=fun Z σ H ok QV go=>
 dO (pe_disp hp rfl rfl (by simp) (by show 1≤15;decide)) fun q hq=>by
  have ok1:Ok C Γ L Z σ (upd H q (.dK [])):=ok.step (ok.con.new hq) (.new hq)
  have keep:∀{Z' Z2:Fz} {L' L2:Lp} {H1 H2:Hp},Fr L Z (upd H q (.dK [])) L' Z' H1→Fr L' Z' H1 L2 Z2 H2→H2 q=some (.dK [])∧L2 q=none∧¬Z2 q:=fun {Z' Z2 L' L2 H1 H2} f1 f2=>by
   have nL:L q=none:=ok.con.free hq
   have f:=f1.trans f2
   refine ⟨f.keep _ _ upd_same (fun y z=>nomatch z) nL,?_,fun z=> ?_⟩
   ·cases e:L2 q with
    | none=>rfl
    | some o=>
     rcases f.dom _ (by rw [e];simp) with z | z
     ·exact absurd nL z
     ·rw [upd_same] at z;cases z
   ·rcases f.off _ z with z | z | z
    ·exact ok.con.nf hq z
    ·exact z nL
    ·rw [upd_same] at z;cases z
  show (WE C.X ke) σ _ _
  refine h _ σ _ ok1 _ fun vk x H1 L1 r1 c1 f1 ⟨k,ex,q1⟩=> ?_
  subst ex
  refine q1 _ σ H1 (ok1.step c1 f1) _ fun {Z2} vd d H2 L2 r2 c2 f2 q2=> ?_
  obtain ⟨g1,g2,g3⟩:=keep f1 f2
  refine ⟨g1,[(k,vd)],by rw [uA r1];rfl,by show 1≤15;decide,?_⟩
  have em:mergeK [] [(k,vd)]= [(k,vd)]:=rfl
  rw [em]
  have st:Stay H2 (upd H2 q (.dK [(k,vd)])):=⟨fun b vs e=>by rw [upd_ne (fun z=>by rw [z,g1] at e;cases e)];exact e,fun b ob u e=>by rw [upd_ne (fun z=>by rw [z,g1] at e;cases e)];exact e,fun b e=>by rw [upd_ne (fun z=>by rw [z,g1] at e;cases e)];exact e⟩
  have mv:Mv Z2 H2 Z2 (upd H2 q (.dK [(k,vd)])):=⟨st,fun _ z=>z,fun b o z e=>by rw [upd_ne (fun y=>by rw [y] at z;exact g3 z)];exact e⟩
  have cc:C.Con (put L2 q (.kd [(k,d)])) Z2 (upd H2 q (.dK [(k,vd)])):=⟨fun b o e=>by
   by_cases eb:b=q
   ·subst eb
    rw [aD] at e
    cases e
    exact ⟨_,upd_same,.cons ⟨rfl,r2.mono mv⟩ .nil⟩
   ·rw [aJ eb] at e
    exact (c2.at_ b o e).mono mv (upd_ne eb),fun b z=>by
   have eb:b≠q:=fun y=>by rw [y] at z;exact g3 z
   rw [aJ eb,upd_ne eb]
   exact c2.fz b z⟩
  have ff:Fr L Z H (put L2 q (.kd [(k,d)])) Z2 (upd H2 q (.dK [(k,vd)])):=by
   have f0:Fr L Z H L Z (upd H q (.dK [])):= .new hq
   have f:=f0.trans (f1.trans f2)
   refine ⟨fun b o e n1 n2=> ?_,fun b z=>dY (f.live b z),f.stay.trans st,fun b z=> ?_,f.fz,fun b o z e=> ?_,f.off⟩
   ·rw [upd_ne (fun z=>by rw [z,hq] at e;cases e)]
    exact f.keep b o e n1 n2
   ·by_cases eb:b=q
    ·exact .inr (by rw [eb];exact hq)
    ·rw [aJ eb] at z
     exact f.dom b z
   ·rw [upd_ne (fun y=>by rw [y,hq] at e;cases e)]
    exact f.fk b o z e
  exact go _ _ _ _ (.ptr q) cc ff (q2 q g2)
end
end DL
namespace DL
open PySem PySem.Spec PyProof.Rows L2
section
variable {C:DL.Ctx} {Γ:Gm} {L:Lp} {e e2:Expr} {pos:Pos}
theorem as_setMap (n i:Nat) {E:AEnds} {x y:Str} {px py spos:Pos} {scope:Scope} {elt iter:Expr}
  (h:AI C (.Name x px) iter Γ L fun ds G L1=> ∃(α:Type) (xs:List α) (g f:α→D),ds=xs.map g∧G L1∧ds.length≤sizeLine∧(∀y∈xs,∀s H Cc cl fp,AV (dH C scope s H Cc cl fp) elt ((dN Γ [i]).set i (some (g y))) L1 (f y))∧∀p,L1 p=none→E.nx (Γ.set n (some (.ptr p))) (put L1 p (.lst (xs.map f))))
  (hag:∀s H Cc cl fp d Γ,AG (dH C scope s H Cc cl fp) (.Name x px) d Γ (Γ.set i (some d)) [i]:=by (intro _ _ _ _ _ _ _;exact aP _))
  (hy:C.X.N[n]? =some y:=by rfl) (hyl:C.X.env.scope.names.lookup y=some .local:=by rfl) (hsw:swapsWith (.ListComp elt [⟨.Name x px,iter,[],0⟩] scope pos) (some (.Name y py)) spos.line C.X.env=pure true:=by exact sw_true rfl rfl rfl (by decide+kernel))
  (ok:BlkOk C.X.N C.X.env.scope scope [(x,i)]:=by (dsimp only [vA,dH,cxOf,envOfC,compEnvC,Cx.blk];exact blkOk_by (by decide+kernel))) (hs:∀x,foldedSetIterable iter C.X.env x=pure x:=by intro _;rfl):AS C (.Assign [.Name y py] (.ListComp elt [⟨.Name x px,iter,[],0⟩] scope pos) spos) Γ L E:=
 as_setLc n [(x,i)] (fun F σ H okk RV go=>h F σ H okk RV fun J H' L' ds G c f it ⟨α,xs,g,f',e,hG,hz,hf,q⟩=>by
  subst e
  rw [List.length_map] at hz
  exact go J H' L' _ G c f it (tY (R:=fun acc L2=> ∀p,L2 p=none→E.nx (Γ.set n (some (.ptr p))) (put L2 p (.lst acc))) (t:=fun _=>true) hG hz (fun j hj=>hj) (fun y hy s H Cc cl fp=>⟨hag s H Cc cl fp _ _,fun Q q=>pM q,fun _=>hf y hy s H Cc cl fp⟩) (by rw [List.filter_eq_self.mpr fun _ _=>rfl];exact q))) hy hyl hsw ok hs
end
end DL
namespace DL
open PySem PySem.Spec PyProof.Rows L2
end DL
namespace DL
open PySem PySem.Spec PyProof.Rows L2
abbrev sX (elt t0 i0 t1 i1:Expr) (scope:Scope) (pos:Pos):Expr:= .SetComp elt [⟨t0,i0,[],0⟩,⟨t1,i1,[],0⟩] scope pos
theorem sx_out (elt t0 i0 t1 i1:Expr) (scope:Scope) (pos:Pos) (it acc:Value) (env:Env):
  compTurn (sX elt t0 i0 t1 i1 scope pos) 0 it acc env=(do
   standAt i0.pos
   match ←pyNext it with
   | none=>pure (.done .next)
   | some v=>
    letOwnedTupleGo t0 it v
    assign t0 env v
    let src ←eval i1 env
    standAt i1.pos
    let src ←foldedSetIterable i1 env src
    let _ ←runOwn (.compStart (sX elt t0 i0 t1 i1 scope pos) 1 (←holding [src] (pyIter src)) acc env) env
    again (.compLoop (sX elt t0 i0 t1 i1 scope pos) 0 it acc env)):=by rfl
theorem sx_in (elt t0 i0 t1 i1:Expr) (scope:Scope) (pos:Pos) (it acc:Value) (env:Env):
  compTurn (sX elt t0 i0 t1 i1 scope pos) 1 it acc env=(do
   standAt i1.pos
   match ←pyNext it with
   | none=>pure (.done .next)
   | some v=>
    letOwnedTupleGo t1 it v
    assign t1 env v
    (do let y ←eval elt env;standAt elt.pos;let _ ←call (.builtin "set.add") [acc,y])
    again (.compLoop (sX elt t0 i0 t1 i1 scope pos) 1 it acc env)):=by rfl
section
variable {prog:Program} {w:World} {A:Around} {R:Result→Shared→Prop} {s:Shared} {elt t0 i0 t1 i1:Expr} {scope:Scope} {pos:Pos} {it acc:Value} {env:Env}
abbrev Nt (prog:Program) (w:World) (A:Around) (env:Env) (R:Result→Shared→Prop):Value→Shared→Prop:=notedBy (model prog w) A env fun e s'=>R (.error e) s'
theorem sx_loop0 (hs:∀x,foldedSetIterable i1 env x=pure x) (J:Nat→Shared→Prop)
  (go:∀n s,J n s→wpAny (model prog w) A (pyNext it) (fun r a1=>match r with
   | none=>R (.ok .next) a1
   | some v => wpAny (model prog w) A (letOwnedTupleGo t0 it v) (fun _ a2 => wpAny (model prog w) A (assign t0 env v) (fun _ a3 =>
     wpAny (model prog w) A (eval i1 env) (fun x a4=>wpAny (model prog w) A (pyIter x) (fun it1 a5=>
       codeAny (model prog w) A (.compStart (sX elt t0 i0 t1 i1 scope pos) 1 it1 acc env) (fun r s'=>match r with
        | .ok _=> ∃m,m < n∧J m s'
        | .error _=>False) a5) (Nt prog w A env R) a4) (Nt prog w A env R) a3) (Nt prog w A env R) a2) (Nt prog w A env R) a1) (Nt prog w A env R) s)
  (n:Nat) (h:J n s):codeAny (model prog w) A (.compLoop (sX elt t0 i0 t1 i1 scope pos) 0 it acc env) R s:=by
 refine codeAny_loop rfl J (fun n s hJ=> ?_) n h
 show wpAny _ A ((compTurn (sX elt t0 i0 t1 i1 scope pos) 0 it acc env).onRaise (fun x=>do noteFrame x env;theTreesLotGoes x)) _ _ s
 refine wpAny_noted ?_
 rw [sx_out]
 refine wpAny_bind (wpAny_standAt (wpAny_bind (wpAny_mono (go n s hJ) (fun r a1 g1=> ?_) fun _ _ z=>z)))
 cases r with
 | none=>exact wpAny_pure g1
 | some v=>
  refine wpAny_bind (wpAny_mono g1 (fun _ a2 g2=>wpAny_bind (wpAny_mono g2 (fun _ a3 g3=>wpAny_bind (wpAny_mono g3 (fun x a4 g4=> ?_) fun _ _ z=>z)) fun _ _ z=>z)) fun _ _ z=>z)
  refine wpAny_bind (wpAny_standAt (wpAny_bind (wpAny_of_eq (hs x) (wpAny_bind (wpAny_holding (wpAny_mono g4 (fun it1 a5 g5=> ?_) fun _ _ z=>z))))))
  refine wpAny_bind (wpAny_runOwn ?_)
  rw [Around.mark_none]
  refine codeAny_mono g5 fun r s' hr=> ?_
  cases r with
  | ok f=>exact wpAny_pure ⟨rfl,hr⟩
  | error e=>exact hr.elim
theorem sx_loop1 (J:Nat→Shared→Prop)
  (go:∀n s,J n s→wpAny (model prog w) A (pyNext it) (fun r a1=>match r with
   | none=>R (.ok .next) a1
   | some v => wpAny (model prog w) A (letOwnedTupleGo t1 it v) (fun _ a2 => wpAny (model prog w) A (assign t1 env v) (fun _ a3 =>
     wpAny (model prog w) A (eval elt env) (fun x a4=>wpAny (model prog w) A (call (.builtin "set.add") [acc,x]) (fun _ a5=> ∃m,m < n∧J m a5) (Nt prog w A env R) a4) (Nt prog w A env R) a3) (Nt prog w A env R) a2) (Nt prog w A env R) a1) (Nt prog w A env R) s)
  (n:Nat) (h:J n s):codeAny (model prog w) A (.compLoop (sX elt t0 i0 t1 i1 scope pos) 1 it acc env) R s:=by
 refine codeAny_loop rfl J (fun n s hJ=> ?_) n h
 show wpAny _ A ((compTurn (sX elt t0 i0 t1 i1 scope pos) 1 it acc env).onRaise (fun x=>do noteFrame x env;theTreesLotGoes x)) _ _ s
 refine wpAny_noted ?_
 rw [sx_in]
 refine wpAny_bind (wpAny_standAt (wpAny_bind (wpAny_mono (go n s hJ) (fun r a1 g1=> ?_) fun _ _ z=>z)))
 cases r with
 | none=>exact wpAny_pure g1
 | some v=>
  refine wpAny_bind (wpAny_mono g1 (fun _ a2 g2=>wpAny_bind (wpAny_mono g2 (fun _ a3 g3=> ?_) fun _ _ z=>z)) fun _ _ z=>z)
  exact wpAny_bind (wpAny_bind (wpAny_mono g3 (fun x a4 g4=>wpAny_bind (wpAny_standAt (wpAny_bind (wpAny_mono g4 (fun _ a5 g5=>wpAny_pure (wpAny_pure ⟨rfl,g5⟩)) fun _ _ z=>z)))) fun _ _ z=>z))
theorem sx_start1 (h0:codeAny (model prog w) A (.compLoop (sX elt t0 i0 t1 i1 scope pos) 1 it acc env) R s)
  (h:wpAny (model prog w) A (pyIter it) (fun it' s'=>codeAny (model prog w) A (.compLoop (sX elt t0 i0 t1 i1 scope pos) 1 it' acc env) R s') (Nt prog w A env R) s):
  codeAny (model prog w) A (.compStart (sX elt t0 i0 t1 i1 scope pos) 1 it acc env) R s:=by
 refine codeAny_of_tree ?_
 show wpAny _ _ ((compStart (sX elt t0 i0 t1 i1 scope pos) 1 it acc env).onRaise (fun x=>do noteFrame x env;standAt theWindowsPlace)) _ _ s
 refine wpAny_notedAt ?_
 unfold compStart
 show wpAny _ _ (ask >>=_) _ _ s
 refine wpAny_bind (wpAny_askSetting (wpAny_ite ?_))
 split
 ·first
   | exact wpAny_bind (wpAny_pure (wpAny_pure (And.intro rfl h0)))
   | exact wpAny_pure (And.intro rfl h0)
 ·first
   | exact wpAny_bind (wpAny_rule (wpAny_bind (wpAny_standAt (wpAny_bind (wpAny_mono h (fun jt a1 g1=>wpAny_pure (And.intro rfl g1)) fun _ _ z=>z)))))
   | (refine wpAny_bind (wpAny_rule ?_);show wpAny _ _ (standAt i1.pos >>=_) _ _ s;exact wpAny_bind (wpAny_standAt (wpAny_bind (wpAny_mono h (fun jt a1 g1=>wpAny_pure (And.intro rfl g1)) fun _ _ z=>z))))
end
section
variable {P:Program} {w:World} {A:Around} {E:Value→Shared→Prop} {s:Shared} {a:Addr} {S:Str→Bool} {n:Nat}
theorem setX_add {k:Str} {tk:Tok} {Q:Value→Shared→Prop} (R:cV w s.heap a S n) (room:n+1 < scanBound)
  (hQ:∀h',Heap.SameBut a s.heap h'→cV w h' a (fun j=>S j || decide (j=k)) (if S k=true then n else n+1)→Q .none {s with heap:=h',toks:=s.toks+1}):
  wpAny (model P w) A (call (.builtin "set.add") [.ref a,.str k tk]) Q E s:=by
 have so:s.heap.SetOf (strKind P w) a S n:=cV.setOf R
 refine wpAny_call_entry F.slot_set_add so.typeIs F.entry_set_add ?_ (F.args_set_add_2 _ _)
 unfold Builtin.«set.add» Builtin.Frozenset.oneOther
 simp only [List.isEmpty_nil,bind_assoc]
 unfold Builtin.Frozenset.addrOf setAdd
 refine wpAny_bind (wpAny_pure ?_)
 refine wpAny_bind (wpAny_pure ?_)
 refine wpAny_bind (wpAny_holding (wpAny_bind ((strKind P w).pyHash (k:=k) (Froz.is_str k tk) ?_)))
 refine qW (s:={s with toks:=s.toks+1}) R room fun h' sb r=> ?_
 show wpAny _ _ (ret Value.none) _ _ _
 exact wpAny_pure ⟨_,rfl,hQ h' sb r⟩
end
abbrev lB (w:World) (a:Addr) (S:Str→Bool) (n:Nat):HO:= .ext fun h=>cV w h a S n
theorem addX_ok {X:Cx} {pins:List (Addr×Obj)} {σ:L2.St} {H:Hp} {s:Shared} {E:Value→Shared→Prop} {t:Addr} {S:Str→Bool} {n:Nat} {y:Str} {tk:Tok} {Q:Value→Shared→Prop} (I:Inv X pins σ H s) (ht:H t=some (lB X.w t S n)) (room:n+1 < scanBound)
  (h:∀s',Inv X pins σ (upd H t (lB X.w t (fun j=>S j || decide (j=y)) (if S y=true then n else n+1))) s'→Q .none s'):wpAny (model X.prog X.w) X.A (call (.builtin "set.add") [.ref t,.str y tk]) Q E s:=by
 have R:cV X.w s.heap t S n:=(I.hok t _ ht).1
 refine setX_add R room fun h' sb new=> ?_
 have he:∃u,h'.get? t=some u:=by
  obtain ⟨o,_,_,_,ho,_⟩:=new
  exact ⟨o,ho⟩
 exact h _ (I.write (e:=t) (t':=s.toks+1) (by rw [ht];trivial) (.inl rfl) (fun b u hb hu=>(sb.2 b hb).trans hu) he (qH new))
end DL
namespace DL
open PySem PySem.Spec PyProof.Rows L2
section
variable {X:Cx}
def tSX (w:World) (wi:TI) (g:TG) (wi1:TI) (g1:TG) (te:TE) (vs vs1:List Nat):TE:=fun σ H Q=>wi σ H fun J H1=> ∀t,H1 t=none→∃W:Nat→Nat→Hp→Prop,(∃m,W 0 m (upd H1 t (lB w t (fun _=>false) 0)))∧∀i m H,W i m H→
 (J.stop i H∧Q (.ref t) H)∨(J.go i H∧∃Nx:Hp→Prop,(∀H',Nx H'→∃m',m' < m∧W (i+1) m' H')∧∀x H',J.yld i H x H'→g x (wipe σ vs) H' fun σ2 H2=>wipe σ2 vs=wipe σ vs∧
  wi1 σ2 H2 fun J1 H4=> ∃W1:Nat→Nat→Hp→Prop,(∃m,W1 0 m H4)∧∀j k H,W1 j k H→
   (J1.stop j H∧Nx H)∨(J1.go j H∧∃Nx1:Hp→Prop,(∀H',Nx1 H'→∃k',k' < k∧W1 (j+1) k' H')∧∀x H',J1.yld j H x H'→g1 x (wipe σ2 vs1) H' fun σ3 H5=>wipe σ3 vs1=wipe σ2 vs1∧
    te σ3 H5 fun y H7=> ∃(c:Str) (S:Str→Bool) (n:Nat),y= .str c∧H7 t=some (lB w t S n)∧n+1 < scanBound∧Nx1 (upd H7 t (lB w t (fun j=>S j || decide (j=c)) (if S c=true then n else n+1)))))
abbrev BE (X:Cx) (scope:Scope) (p:Cx→Prop):Prop:= ∀(s:Shared) (H:Hp) (a:Addr) (cl:List (Str×Addr)) (fp:List Addr),p (X.blk s H scope (compEnvC scope cl a X.env) fp)
theorem sx_core {pins:List (Addr×Obj)} {s:Shared} {σ:L2.St} {H:Hp} {Q:VK} {elt tg iter tg1 iter1:Expr} {scope:Scope} {own:List (Str×Nat)} {vs1:List Nat} {pos p2:Pos} {wi wi1:TI} {g g1:TG} {te:TE} {use:Option (Value→Sem Unit)} {Qf:Value→Shared→Prop}
  (hc:X.calm=true) (hN:X.N.Nodup) (I:Inv X pins σ H s) (hi:PI X tg iter wi) (ok:BlkOk X.N X.env.scope scope own) (hv:∀i∈vs1,i∈own.map (·.2))
  (hg:BE X scope fun X=>PG X tg g) (he:BE X scope fun X=>PE X elt te) (hi1:BE X scope fun X=>PI X tg1 iter1 wi1) (hg1:BE X scope fun X=>PG X tg1 g1) (hs:∀x,foldedSetIterable iter X.env x=pure x) (hs1:∀env x,foldedSetIterable iter1 env x=pure x)
  (h:tSX X.w wi g wi1 g1 te (own.map (·.2)) vs1 σ H Q)
  (fine:∀t a s' m H',Inv X pins σ H' s'→Q (.ref t) H'→s'.heap.Ns a m→FpOk X pins H' a→compPost (model X.prog X.w) X.A X.xe use Qf (.ref t) a (.ok .next) s'):
  wpAny (model X.prog X.w) X.A (comprehension (sX elt tg iter tg1 iter1 scope pos) scope X.env p2 (newSet (.type "set")) false (eval iter X.env) use) Qf X.xe s:=by
 have free:∀y∈scope.names,y.2= .free→∃c,X.env.cells.lookup y.1=some c:=fun y hy e=>(ok.free y hy e).elim (fun k=>I.ok.has _ (.inl k)) fun k=>I.ok.has _ (.inr k)
 refine wpAny_comprehension_free (use:=use) rfl hs (closure_ok free) ok.kind (fun y hy e=>by rw [ok.uniq y hy,e]) (thn (hi.run pins s σ H _ I h) fun _ _ hx=>thn hx fun _ b2 h2=> ?_)
 obtain ⟨it,fp,tn,J,H2,e,I2,T,st2,f2,q⟩:=h2
 subst e
 refine PpSet.newSet_ok (newEnv_comp ?_)
 generalize ht:b2.heap.objs.size=t
 have htn:H2 t=none:=I2.hok.fresh (Nat.le_of_eq ht)
 obtain ⟨W,⟨m0,w0⟩,turn⟩:=q t htn
 generalize hb3:({b2 with heap:=b2.heap.push (fO X.w)}:Shared)=b3
 have e3:b3.heap=b2.heap.push (fO X.w):=by rw [←hb3]
 have up:∀b o,b2.heap.get? b=some o→b3.heap.get? b=some o:=fun b o z=>by rw [e3];exact Heap.get?_push_of_some _ z
 have I3:Inv X pins σ (upd H2 t (lB X.w t (fun _=>false) 0)) b3:=by
  subst hb3
  refine I2.laid (t':=b2.toks) up (Nat.le_of_eq ht) (qH (oX ?_))
  rw [←ht]
  exact Heap.get?_push_size _ rfl
 have lt:∀b∈fp,b < b2.heap.objs.size:=fun b hb=>let ⟨o,z,_⟩:=T.obj _ _ st2 b hb;Heap.lt_size z
 have f3:∀b∈fp,FpOk X pins (upd H2 t (lB X.w t (fun _=>false) 0)) b∧b < b3.heap.objs.size:=fun b hb=>
  ⟨⟨(upd_ne (by rw [←ht];exact Nat.ne_of_lt (lt b hb))).trans (f2 b hb).1,(f2 b hb).2⟩,by rw [e3,Heap.size_push];exact Nat.lt_succ_of_lt (lt b hb)⟩
 have st3:tn 0 b3.heap:=T.keep _ _ _ st2 fun b _ o z=>up b o z
 have I4:=block_start I3 ok hN f3
 generalize hcl:cellsFrom (b3.heap.objs.size+1) scope.names (cloFrom X.env.cells scope.names [])=cl at I4 ⊢
 have pg:=hg b3 (upd H2 t (lB X.w t (fun _=>false) 0)) b3.heap.objs.size cl fp
 have pe:=he b3 (upd H2 t (lB X.w t (fun _=>false) 0)) b3.heap.objs.size cl fp
 have pi1:=hi1 b3 (upd H2 t (lB X.w t (fun _=>false) 0)) b3.heap.objs.size cl fp
 have pg1:=hg1 b3 (upd H2 t (lB X.w t (fun _=>false) 0)) b3.heap.objs.size cl fp
 show codeAny _ _ (.compStart (sX elt tg iter tg1 iter1 scope pos) 0 (.ref it) (.ref t) (compEnvC scope cl b3.heap.objs.size X.env)) (compPost (model X.prog X.w) X.A X.xe use Qf (.ref t) b3.heap.objs.size) {b3 with heap:=pushCells (b3.heap.push {cls:= .type "dict",data:= .dict #[]}) scope.names}
 have nfp:∀b∈fp,(upd H2 t (lB X.w t (fun _=>false) 0)) b=none:=fun b hb=>(f3 b hb).1.1
 generalize hce:compEnvC scope cl b3.heap.objs.size X.env=ce at I4 pg pe pi1 pg1 ⊢
 have cL:ce.locals=b3.heap.objs.size:=by subst hce;rfl
 generalize hH3:upd H2 t (lB X.w t (fun _=>false) 0)=H3 at I3 I4 pg pe pi1 pg1 w0 nfp f3
 generalize hb4:({b3 with heap:=pushCells (b3.heap.push {cls:= .type "dict",data:= .dict #[]}) scope.names}:Shared)=b4 at I4 ⊢
 have st4:tn 0 b4.heap:=T.keep _ _ _ st3 fun b _ o z=>by subst hb4;exact pushCells_keeps _ _ _ _ (Heap.get?_push_of_some _ z)
 generalize hY:X.blk b3 H3 scope ce fp=Y at I4 pg pe pi1 pg1
 have yp:Y.prog=X.prog:=by subst hY;rfl
 have yw:Y.w=X.w:=by subst hY;rfl
 have yA:Y.A=X.A:=by subst hY;rfl
 have ye:Y.env=ce:=by subst hY;rfl
 have stat:∀{σ':L2.St} {H':Hp} {s':Shared},Inv Y [] σ' H' s'→(∀b∈fp,H' b=none)→∀b∈fp,FpOk Y [] H' b:=fun {σ' H' s'} I' hn b hb=>by
  subst hY
  exact ⟨hn b hb,(I'.ok.exf b hb).1,I'.ok.exfs b hb,.inl hb,fun x c z=>(I'.ok.exf b hb).2 x c z,fun p hp=>absurd (show p∈([]:List (Addr×Obj))++ [] from hp) (by simp)⟩
 subst hY
 have loop:codeAny (model X.prog X.w) X.A (.compLoop (sX elt tg iter tg1 iter1 scope pos) 0 (.ref it) (.ref t) ce) (compPost (model X.prog X.w) X.A X.xe use Qf (.ref t) b3.heap.objs.size) b4:=by
  refine sx_loop0 (hs1 ce) (fun n s'=> ∃i H',Inv (X.blk b3 H3 scope ce fp) [] (wipe σ (own.map (·.2))) H' s'∧tn i s'.heap∧(∀b∈fp,H' b=none)∧W i n H') ?_ m0 ⟨0,H3,I4,st4,nfp,w0⟩
  rintro n b5 ⟨i,H5,I5,st5,n5,w5⟩
  rcases turn i n H5 w5 with ⟨stop,qq⟩ | ⟨go,Nx,hNx,step⟩
  ·refine thnF (T.done (X.blk b3 H3 scope ce fp) rfl rfl rfl hc i [] b5 _ H5 (fun _ _=>False) I5 (stat I5 n5) st5 stop) fun r b6 ⟨hr,I6⟩=> ?_
   subst hr
   have I7:Inv X pins σ H5 b6:=I3.call' (ch:=fp) I6.os I6.base I6.hok I6.bare fun b hb=>let z:=(f3 b hb).1.2;⟨z.2.2.1,z.1,z.2.2.2.1,z.2.2.2.2⟩
   have n0:H5 b3.heap.objs.size=none:=by
    have z:H5 ce.locals=none:=I6.free
    rwa [cL] at z
   obtain ⟨m,hn,_⟩:=I6.loc
   have hn:b6.heap.Ns ce.locals m:=hn
   rw [cL] at hn
   exact fine t b3.heap.objs.size b6 m H5 I7 qq hn (I3.fpOk (Nat.le_refl _) n0)
  ·refine thnF (T.item (X.blk b3 H3 scope ce fp) rfl rfl rfl hc i [] b5 _ H5 (fun _ _=>False) I5 (stat I5 n5) st5 go) fun r b6 ⟨u,hr,h6⟩=> ?_
   subst hr
   refine thnF h6 fun _ b7 ⟨x,H7,I7,r7,y7,st7,n7⟩=> ?_
   refine thnF (pg.run _ b7 _ H7 x u _ (I7.pinned (stat I7 n7) (T.obj _ _ st7)) r7 (step x H7 y7)) fun _ b8 ⟨σ8,H8,I8,hw8,q8⟩=> ?_
   have fin:∀{σ9:L2.St} {s':Shared} {H':Hp},Inv (X.blk b3 H3 scope ce fp) ([]++pinsAt fp b7.heap) σ9 H' s'→(wipe σ (own.map (·.2))).length=σ9.length→(∀(j:Nat) v,(wipe σ (own.map (·.2)))[j]? =some (some v)→σ9[j]? =some (some v))→Nx H'→
     ∃m,m < n∧∃i H',Inv (X.blk b3 H3 scope ce fp) [] (wipe σ (own.map (·.2))) H' s'∧tn i s'.heap∧(∀b∈fp,H' b=none)∧W i m H':=fun {σ9 s' H'} I' hl hk nx=>by
    obtain ⟨m',hm,w'⟩:=hNx H' nx
    have pin:∀b∈fp,∀o,b7.heap.get? b=some o→s'.heap.get? b=some o∧H' b=none:=fun b hb o z=>
     have z:=I'.pin (b,o) (List.mem_append_right _ (List.mem_append_right _ (mem_pinsAt hb z)))
     ⟨z.1,z.2.1⟩
    exact ⟨m',hm,i+1,H',(I'.unpinned (pins:= [])).weak hl hk,T.keep _ _ _ st7 fun b hb o z=>(pin b hb o z).1,fun b hb=>let ⟨o,z,_⟩:=T.obj _ _ st7 b hb;(pin b hb o z).2,w'⟩
   have hl8:(wipe σ (own.map (·.2))).length=σ8.length:=by rw [←hw8,wipe_length]
   have hk9:∀(j:Nat) v,(wipe σ (own.map (·.2)))[j]? =some (some v)→(wipe σ8 vs1)[j]? =some (some v):=fun j v z=>by
    rw [←hw8] at z
    obtain ⟨z1,z2⟩:=wipe_some z
    rw [wipe_out fun k=>z2 (hv j k)]
    exact z1
   refine thnF (pi1.run _ b8 σ8 H8 _ I8 q8) fun _ _ hx=>thnF hx fun _ c1 h11=> ?_
   obtain ⟨it1,fp1,tn1,J1,H11,e1,I11,T1,st11,f11,W1,⟨m1,w1⟩,turn1⟩:=h11
   subst e1
   have stat1:∀{H':Hp},(∀b∈fp1,H' b=none)→∀b∈fp1,FpOk (X.blk b3 H3 scope ce fp) ([]++pinsAt fp b7.heap) H' b:=fun hn b hb=>⟨hn b hb,(f11 b hb).2⟩
   have loop1:codeAny (model X.prog X.w) X.A (.compLoop (sX elt tg iter tg1 iter1 scope pos) 1 (.ref it1) (.ref t) ce)
     (fun r s'=>match r with
      | .ok _=> ∃m,m < n∧∃i H',Inv (X.blk b3 H3 scope ce fp) [] (wipe σ (own.map (·.2))) H' s'∧tn i s'.heap∧(∀b∈fp,H' b=none)∧W i m H'
      | .error _=>False) c1:=by
    refine sx_loop1 (fun k s'=> ∃j H',Inv (X.blk b3 H3 scope ce fp) ([]++pinsAt fp b7.heap) (wipe σ8 vs1) H' s'∧tn1 j s'.heap∧(∀b∈fp1,H' b=none)∧W1 j k H') ?_ m1 ⟨0,H11,I11.weak (wipe_length _ _) (fun j v z=>(wipe_some z).1),st11,fun b hb=>(f11 b hb).1,w1⟩
    rintro k c2 ⟨j,H12,I12,st12,n12,w12⟩
    rcases turn1 j k H12 w12 with ⟨stop1,nx1⟩ | ⟨go1,Nx1,hNx1,step1⟩
    ·refine thnF (T1.done (X.blk b3 H3 scope ce fp) rfl rfl rfl hc j _ c2 (wipe σ8 vs1) H12 (fun _ _=>False) I12 (stat1 n12) st12 stop1) fun r c3 ⟨hr,I13⟩=> ?_
     subst hr
     exact fin I13 (hl8.trans (wipe_length σ8 vs1).symm) hk9 nx1
    ·refine thnF (T1.item (X.blk b3 H3 scope ce fp) rfl rfl rfl hc j _ c2 (wipe σ8 vs1) H12 (fun _ _=>False) I12 (stat1 n12) st12 go1) fun r c3 ⟨u1,hr,h13⟩=> ?_
     subst hr
     refine thnF h13 fun _ c4 ⟨x1,H14,I14,r14,y14,st14,n14⟩=> ?_
     refine thnF (pg1.run _ c4 (wipe σ8 vs1) H14 x1 u1 _ (I14.pinned (stat1 n14) (T1.obj _ _ st14)) r14 (step1 x1 H14 y14)) fun _ c5 ⟨σ15,H15,I15,hw15,q15⟩=> ?_
     refine thnF (pe.run _ c5 σ15 H15 _ I15 q15) fun z c7 ⟨yv,H17,I17,r17,tx,S0,k0,ey,ht17,hz17,nx⟩=> ?_
     subst ey
     obtain ⟨tk,rfl⟩:=r17
     refine addX_ok (X:=X.blk b3 H3 scope ce fp) I17 ht17 hz17 fun c8 I'=> ?_
     obtain ⟨m',hm,w'⟩:=hNx1 _ nx
     have pin:∀b∈fp1,∀o,c4.heap.get? b=some o→c8.heap.get? b=some o∧upd H17 t (lB X.w t (fun j=>S0 j || decide (j=tx)) (if S0 tx=true then k0 else k0+1)) b=none:=fun b hb o z=>
      have z:=I'.pin (b,o) (List.mem_append_right _ (List.mem_append_right _ (mem_pinsAt hb z)))
      ⟨z.1,z.2.1⟩
     exact ⟨m',hm,j+1,_,I'.unpinned.weak (by rw [←hw15,wipe_length]) (fun j v z=>by rw [←hw15] at z;exact (wipe_some z).1),T1.keep _ _ _ st14 fun b hb o z=>(pin b hb o z).1,fun b hb=>let ⟨o,z,_⟩:=T1.obj _ _ st14 b hb;(pin b hb o z).2,w'⟩
   exact sx_start1 loop1 (T1.self X.A 0 _ _ _ st11 loop1)
 exact PpSet.codeAny_compStart_set loop (T.self X.A 0 _ _ _ st4 loop)
theorem pe_sx {elt tg iter tg1 iter1:Expr} {scope:Scope} {own:List (Str×Nat)} {vs1:List Nat} {pos:Pos} {wi wi1:TI} {g g1:TG} {te:TE} (hc:X.calm=true) (hN:X.N.Nodup) (hi:PI X tg iter wi) (ok:BlkOk X.N X.env.scope scope own) (hv:∀i∈vs1,i∈own.map (·.2))
  (hg:BE X scope fun X=>PG X tg g) (he:BE X scope fun X=>PE X elt te) (hi1:BE X scope fun X=>PI X tg1 iter1 wi1) (hg1:BE X scope fun X=>PG X tg1 g1) (hs:∀x,foldedSetIterable iter X.env x=pure x:=by intro _;rfl) (hs1:∀env x,foldedSetIterable iter1 env x=pure x:=by intro _ _;rfl):
  PE X (.SetComp elt [⟨tg,iter,[],0⟩,⟨tg1,iter1,[],0⟩] scope pos) (tSX X.w wi g wi1 g1 te (own.map (·.2)) vs1):=by
 refine ⟨fun pins s σ H Q I h=> ?_⟩
 rw [PpSet.eval_SetComp]
 refine sx_core hc hN I hi ok hv hg he hi1 hg1 hs hs1 h fun t a s' m H' I' q hn ⟨f0,f1,f2,f3,f4,f5⟩=>⟨m,hn,fun h2 sb=>⟨.ref t,H',?_,rfl,q⟩⟩
 exact I'.turned (t':=s'.toks) (fun b o hb e=>(sb.2 b hb).trans e) f0 f1 f3 f4 f5
end
end DL
namespace DL
open PySem PySem.Spec PyProof.Rows L2
abbrev wiB (C:Ctx) (scope:Scope) (tg iter:Expr):TI:=fun σ H R=> ∀s H0 Cc cl fp,WI (dH C scope s H0 Cc cl fp).X tg iter σ H R
theorem Stay.ext {H:Hp} {p:Addr} {f:Heap→Prop} {o:HO} (h:H p=some (.ext f)):Stay H (upd H p o):=
 ⟨fun a vs e=>by rw [upd_ne (fun q=>by rw [q,h] at e;cases e)];exact e,fun a ob u e=>by rw [upd_ne (fun q=>by rw [q,h] at e;cases e)];exact e,fun a e=>by rw [upd_ne (fun q=>by rw [q,h] at e;cases e)];exact e⟩
section
variable {C:Ctx} {Γ:Gm} {L:Lp} {elt tg iter tg1 iter1:Expr} {pos:Pos} {Q:D→Lp→Prop}
def Two (C:Ctx) (scope:Scope) (Γ:Gm) (L:Lp) (tg tg1 iter1 elt:Expr) (vs vs1:List Nat) (d:D) (ys:List D):Prop:= ∃Γ3 ws,(∀j∈ws,j∈vs)∧∀s H Cc cl fp,AG (dH C scope s H Cc cl fp) tg d (dN Γ vs) Γ3 ws∧AV (dH C scope s H Cc cl fp) iter1 Γ3 L (.tup ys)∧
 ∀y∈ys,∃Γ5 ws1,(∀j∈ws1,j∈vs1)∧∀s H Cc cl fp,AG (dH C scope s H Cc cl fp) tg1 y (dN Γ3 vs1) Γ5 ws1∧AV (dH C scope s H Cc cl fp) elt Γ5 L y
theorem ae_sx (own:List (Str×Nat)) (vs1:List Nat) {scope:Scope}
  (h:AI C tg iter Γ L fun ds G L1=>G L1∧∃xss:List (List Str),ds=xss.map (fun xs=>D.tup (xs.map D.str))∧xss.flatten.length+1 < scanBound∧(∀xs∈xss,Two C scope Γ L1 tg tg1 iter1 elt (own.map (·.2)) vs1 (.tup (xs.map D.str)) (xs.map D.str))∧
   ∀t n,L1 t=none→n≤xss.flatten.length→Q (.ptr t) (put L1 t (.txs (fun k=>decide (k∈xss.flatten)) n)))
  (ok:BlkOk C.X.N C.X.env.scope scope own:=by (dsimp only [vA,dH,cxOf,envOfC,compEnvC,Cx.blk];exact blkOk_by (by decide+kernel))) (hv:∀i∈vs1,i∈own.map (·.2):=by decide) (hs:∀x,foldedSetIterable iter C.X.env x=pure x:=by intro _;rfl) (hs1:∀env x,foldedSetIterable iter1 env x=pure x:=by intro _ _;rfl):
  AE C (.SetComp elt [⟨tg,iter,[],0⟩,⟨tg1,iter1,[],0⟩] scope pos) Γ L Q:=fun F σ H okk QV go=>by
 refine dO (pe_sx (wi:=WI C.X tg iter) (g:=gB C scope tg) (wi1:=wiB C scope tg1 iter1) (g1:=gB C scope tg1) (te:=teB C scope elt) C.calm C.nd xV ok hv (fun s H0 Cc cl fp=>⟨fun pins s1 σ1 H1 v u Q1 I r q=>(q s H0 Cc cl fp).run pins s1 u I r⟩) (fun s H0 Cc cl fp=>⟨fun pins s1 σ1 H1 Q1 I q=>(q s H0 Cc cl fp).run pins s1 I⟩) (fun s H0 Cc cl fp=>⟨fun pins s1 σ1 H1 Q1 I q=>(q s H0 Cc cl fp).run pins s1 I⟩) (fun s H0 Cc cl fp=>⟨fun pins s1 σ1 H1 v u Q1 I r q=>(q s H0 Cc cl fp).run pins s1 u I r⟩) hs hs1) ?_
 refine h _ σ H okk _ fun {F1} J H1 L1 ds G c1 f1 it ⟨hG,xss,eds,hz,hb,q⟩=> ?_
 subst eds
 intro t ht
 have f1t:=c1.nf ht
 have l1t:=c1.free ht
 refine ⟨fun i m H2=>m=xss.length - i∧i≤xss.length∧∃F2 n,C.Con L1 F2 H2∧Fr L1 F1 H1 L1 F2 H2∧¬F2 t∧H2 t=some (lB C.X.w t (fun k=>decide (k∈(xss.take i).flatten)) n)∧n≤(xss.take i).flatten.length∧∀k∈(xss.take i).flatten,SOk k,
  ⟨xss.length,by simp,Nat.zero_le _,F1,0,c1.new ht,.new ht,f1t,by rw [upd_same];rfl,Nat.zero_le _,fun _ z=>nomatch z⟩,?_⟩
 rintro i m H2 ⟨rfl,hi,F2,n,c2,f2,f2t,h2t,hn,hS⟩
 obtain ⟨k1,k2,k3⟩:=it i H2 L1 f2 c2 hG
 rw [List.length_map] at k1 k2 k3
 by_cases hlt:i < xss.length
 ·refine .inr ⟨k1 hlt,fun H3=> ∃F2 n,C.Con L1 F2 H3∧Fr L1 F1 H1 L1 F2 H3∧¬F2 t∧H3 t=some (lB C.X.w t (fun k=>decide (k∈(xss.take (i+1)).flatten)) n)∧n≤(xss.take (i+1)).flatten.length∧∀k∈(xss.take (i+1)).flatten,SOk k,fun H3 hN=>⟨xss.length - (i+1),by omega,rfl,hlt,hN⟩,fun x H' y=> ?_⟩
  obtain ⟨d,hd,rd,hH⟩:=k3 x H' y hlt
  rw [List.getElem?_map,List.getElem?_eq_getElem hlt] at hd
  cases hd
  have etk:xss.take (i+1)=xss.take i++ [xss[i]]:=by rw [List.take_add_one,List.getElem?_eq_getElem hlt];rfl
  have eln:xss.flatten.length=(xss.take (i+1)).flatten.length+(xss.drop (i+1)).flatten.length:=by rw [←List.length_append,←List.flatten_append,List.take_append_drop]
  rw [etk,List.flatten_append] at eln ⊢
  have hm:xss[i]∈xss:=List.getElem_mem hlt
  generalize xss[i]=xs at*
  have exs: [xs].flatten=xs:=by simp
  rw [exs] at eln ⊢
  generalize (xss.take i).flatten=pre at*
  have fH:Fr L1 F2 H2 L1 F2 H':=by
   rcases hH with e | ⟨T,vs,nT,e⟩
   ·rw [e];exact .refl L1 H2
   ·rw [e];exact .new nT
  have cH:C.Con L1 F2 H':=by
   rcases hH with e | ⟨T,vs,nT,e⟩
   ·rw [e];exact c2
   ·rw [e];exact c2.new nT
  obtain ⟨_,_,h3t⟩:=fH.hid h2t (fun _ z=>nomatch z) l1t f2t
  have slw:Sl C.X.K F2 H' (wipe σ (own.map (·.2))) (dN Γ (own.map (·.2))):=(okk.sl.mono ((f1.trans f2).trans fH).mv).wipe _
  obtain ⟨Γ3,ws,hws,hbody⟩:=hb xs hm
  intro s0 H0 Cc cl fp
  refine (hbody s0 H0 Cc cl fp).1 _ _ H' x slw rd _ fun σ3 sl3 but=>⟨But.wiped but hws,?_⟩
  intro s1 H01 Cc1 cl1 fp1
  refine oN (pi_tup bA) ((hbody s1 H01 Cc1 cl1 fp1).2.1 (fun d L'=>d= .tup (xs.map D.str)∧L'=L1) ⟨rfl,rfl⟩ _ σ3 H' ⟨sl3,cH,⟨fun _ _ _ _ _ _ _ _ _ _ _ z=>z.elim,True.intro⟩⟩ _ fun {F4} v d H4 L4 r4 c4 f4 ⟨ed,eL⟩=> ?_)
  subst ed eL
  obtain ⟨a,vs,rfl,ha,ra⟩:=r4.tupE
  obtain ⟨_,f4t,h4t⟩:=f4.hid h3t (fun _ z=>nomatch z) l1t f2t
  have fr4:=(f2.trans fH).trans f4
  have hvl:vs.length=xs.length:=by rw [ra.length,List.length_map]
  refine ⟨a,rfl,⟨vs,SqT.of ha⟩,fun j k H5=>k=xs.length - j∧j≤xs.length∧∃F5 n,C.Con L4 F5 H5∧Fr L4 F1 H1 L4 F5 H5∧Mv F4 H4 F5 H5∧¬F5 t∧H5 t=some (lB C.X.w t (fun k=>decide (k∈pre++xs.take j)) n)∧n≤(pre++xs.take j).length∧∀k∈pre++xs.take j,SOk k,
   ⟨xs.length,by simp,Nat.zero_le _,F4,n,c4,fr4,⟨.refl H4,fun _ z=>z,fun _ _ _ z=>z⟩,f4t,by rw [h4t,List.take_zero,List.append_nil],by simpa using hn,by simpa using hS⟩,?_⟩
  rintro j k H5 ⟨rfl,hj,F5,n5,c5,f5,m5,f5t,h5t,hn5,hS5⟩
  have sq:SqT C.X.K H5 a vs:=SqT.of (m5.stay.tup _ _ ha)
  by_cases hjl:j < xs.length
  ·refine .inr ⟨⟨vs,vs[j]'(by omega),sq,List.getElem?_eq_getElem _⟩,fun H6=> ∃F5 n,C.Con L4 F5 H6∧Fr L4 F1 H1 L4 F5 H6∧Mv F4 H4 F5 H6∧¬F5 t∧H6 t=some (lB C.X.w t (fun k=>decide (k∈pre++xs.take (j+1))) n)∧n≤(pre++xs.take (j+1)).length∧∀k∈pre++xs.take (j+1),SOk k,fun H6 hN=>⟨xs.length - (j+1),by omega,rfl,hjl,hN⟩,fun x6 H6 y6=> ?_⟩
   obtain ⟨e6,y6⟩:=y6
   subst e6
   obtain ⟨d6,hd6,rd6⟩:=ra.getV (y6 vs sq)
   rw [List.getElem?_map,List.getElem?_eq_getElem hjl] at hd6
   cases hd6
   obtain ⟨Γ5,ws1,hws1,hin⟩:=(hbody s1 H01 Cc1 cl1 fp1).2.2 (.str xs[j]) (List.mem_map.mpr ⟨_,List.getElem_mem hjl,rfl⟩)
   intro s2 H02 Cc2 cl2 fp2
   refine (hin s2 H02 Cc2 cl2 fp2).1 _ _ H6 x6 (((sl3.mono f4.mv).mono m5).wipe vs1) (rd6.mono m5) _ fun σ7 sl7 but7=>⟨But.wiped but7 hws1,?_⟩
   intro s3 H03 Cc3 cl3 fp3
   refine (hin s3 H03 Cc3 cl3 fp3).2 (fun d L'=>d= .str xs[j]∧L'=L4) ⟨rfl,rfl⟩ _ σ7 H6 ⟨sl7,c5,⟨fun _ _ _ _ _ _ _ _ _ _ _ z=>z.elim,True.intro⟩⟩ _ fun {F8} v8 d8 H8 L8 r8 c8 f8 ⟨ed,eL⟩=> ?_
   subst ed eL
   obtain ⟨_,f8t,h8t⟩:=f8.hid h5t (fun _ z=>nomatch z) l1t f5t
   have ev:v8= .str xs[j]:=by cases r8;rfl
   have so:SOk xs[j]:=r8.bnd
   have et:xs.take (j+1)=xs.take j++ [xs[j]]:=by rw [List.take_add_one,List.getElem?_eq_getElem hjl];rfl
   have st:=Stay.ext (o:=lB C.X.w t (fun k=>decide (k∈pre++xs.take (j+1))) (if decide (xs[j]∈pre++xs.take j)=true then n5 else n5+1)) h8t
   have hl5:(pre++xs.take j).length≤pre.length+j:=by rw [List.length_append,List.length_take];omega
   have ef:(fun k=>decide (k∈pre++xs.take j) || decide (k=xs[j]))=fun k=>decide (k∈pre++xs.take (j+1)):=by
    funext k
    rw [et]
    generalize xs.take j=zs
    generalize xs[j]=z
    simp [Bool.or_assoc]
   rw [List.length_append] at eln
   refine ⟨xs[j],_,n5,ev,h8t,by omega,F8,_,?_,?_,?_,f8t,by rw [upd_same,ef],?_,?_⟩
   ·rw [ef];exact c8.hid st l1t f8t
   ·rw [ef];exact (f5.trans f8).hidw ht f1t st
   ·rw [ef];exact (m5.trans f8.mv).trans (.hid st f8t)
   ·rw [et,←List.append_assoc,List.length_append]
    show _≤_+1
    split <;> omega
   ·intro k hk
    rw [et,←List.append_assoc] at hk
    rcases List.mem_append.mp hk with hk | hk
    ·exact hS5 k hk
    ·rw [List.mem_singleton.mp hk];exact so
  ·have e:j=xs.length:=by omega
   subst e
   rw [List.take_length] at h5t hn5 hS5
   exact .inl ⟨⟨vs,sq,by omega⟩,F5,n5,c5,f5,f5t,h5t,hn5,hS5⟩
 ·have e:i=xss.length:=by omega
  subst e
  rw [List.take_length] at h2t hn hS
  exact .inl ⟨k2 rfl,go _ _ H2 (put L1 t (.txs (fun k=>decide (k∈xss.flatten)) n)) (.ptr t) (c2.shw f2t ⟨h2t,fun k hk=>hS k (of_decide_eq_true hk)⟩) ((f1.trans f2).shw (f1.nul ht)) (q t n l1t hn)⟩
end
end DL
namespace DL
open PySem PySem.Spec PyProof.Rows L2
section
variable {C:Ctx} {Γ:Gm} {L:Lp} {elt tg iter tg1 iter1 e:Expr} {pos:Pos} {Q:D→Lp→Prop} {kds:List (List Key×D)} {E:AEnds} {d:D}
end
end DL
namespace GQ2
open PySem PySem.SeqAt GQ
open AutoSeq1 (wpAny_loadPart')
open MeetsSeq MeetsSeq2 MeetsSeq3 SeqRoads2
section
variable {prog:Program} {w:World} {A:Around} {R:Result→Shared→Prop}
end
section
variable {prog:Program} {w:World} {A:Around} {E:Value→Shared→Prop} {s:Shared}
end
end GQ2
namespace DL
open PySem PySem.Spec PyProof.Rows L2
structure EqI (C:DL.Ctx) (k:Nat) (Γ:Gm) (x y:D) (L:Lp) (Q:Bool→Lp→Prop):Prop where
 run:∀A,Sub C.X k A→∀Z σ H,Ok C Γ L Z σ H→∀vx vy,Rep C.X.K Z H vx x→Rep C.X.K Z H vy y→∀QB:Bool→Hp→Prop,(∀{Z'} b H' L',C.Con L' Z' H'→Fr L Z H L' Z' H'→Q b L'→QB b H')→∀pins s v u,Inv C.X pins σ H s→RelV vx v→RelV vy u→
  wpAny (model C.X.prog C.X.w) A (eqBool v u) (fun r s'=> ∃H',Inv C.X pins σ H' s'∧QB r H') C.X.xe s
def aA9 (C:DL.Ctx) (k:Nat) (Γ:Gm):List D→List D→Lp→(Bool→Lp→Prop)→Prop
 | [],[],L,Q=>Q true L
 | x::xs,y::ys,L,Q=>EqI C k Γ x y L fun b L1=>(b=true→aA9 C k Γ xs ys L1 Q)∧(b=false→Q false L1)
 | _,_,_,_=>False
section
variable {C:DL.Ctx} {Γ:Gm} {L:Lp} {x y:D} {k:Nat} {Cl g:Addr} {sp:SpA} {t:Value}
theorem aA9.same:∀{xs ys:List D} {L:Lp} {Q:Bool→Lp→Prop},aA9 C k Γ xs ys L Q→xs.length=ys.length∨xs≠ []:=fun {xs ys} _ _ h=>by
 cases xs with
 | nil=>
  cases ys with
  | nil=>exact .inl rfl
  | cons=>exact h.elim
 | cons=>exact .inr (fun z=>nomatch z)
end
end DL
namespace DL
open PySem PySem.Spec PyProof.Rows L2
section
variable {P:Program} {w:World} {A:Around} {E:Value→Shared→Prop} {s:Shared}
set_option maxHeartbeats 3200000 in
theorem call_setX_tup {l:Addr} {items:Array Value} (xs:List Str) {Q:Value→Shared→Prop} (hh:A.handled=none) (hl:s.heap.IsTuple l items) (hit:StrsAre items.toList xs) (hb:xs.length+1 < scanBound)
  (h:∀(h':Heap) (tk c:Nat),cV w h' s.heap.objs.size (fun j=>decide (j∈xs)) c→c≤xs.length→(∀b o,s.heap.get? b=some o→h'.get? b=some o)→Q (.ref s.heap.objs.size) {s with heap:=h',toks:=tk}):
  wpAny (model P w) A (call (.type "set") [.ref l]) Q E s:=by
 have hisz:items.size=xs.length:=by rw [←StrsAre.len_eq hit,Array.length_toList]
 obtain ⟨ol,hol,hcl,nl,hdl⟩:=id hl
 refine call_set_via (T:="tuple") (fun h'=> ∃c,cV w h' s.heap.objs.size (fun j=>decide (j∈xs)) c∧c≤xs.length∧∀b o,s.heap.get? b=some o→h'.get? b=some o) hol hcl PySem.F.sub_tuple_set PySem.F.sub_tuple_frozenset (by decide) (fun R E1 hR=> ?_) fun h' tk ⟨c,a1,a2,a3⟩=>h h' tk c a1 a2 a3
 have hS:(s.heap.push (fO w)).get? s.heap.objs.size=some (fO w):=Heap.get?_push_size _ rfl
 have hl1:(s.heap.push (fO w)).IsTuple l items:=⟨_,Heap.get?_push_of_some _ hol,hcl,nl,hdl⟩
 refine wpAny_pyIter_tuple hl1 ?_
 have hlS:l < s.heap.objs.size:=Heap.lt_size hol
 have hh3:A.in1.in1.in1.handled=none:=by simp [hh]
 have hz1:(s.heap.push (fO w)).objs.size=s.heap.objs.size+1:=Heap.size_push ..
 have hneI:l≠(s.heap.push (fO w)).objs.size:=by
  rw [hz1];exact Nat.ne_of_lt (Nat.lt_succ_of_lt hlS)
 have hSf:s.heap.objs.size∉ [(s.heap.push (fO w)).objs.size,l]:=by
  rw [hz1];simp only [List.mem_cons,List.not_mem_nil,or_false,not_or]
  exact ⟨Nat.ne_of_lt (Nat.lt_succ_self _),Nat.ne_of_gt hlS⟩
 have hval:∀(i:Nat) (v:Value),items[i]? =some v→∃k t,xs[i]? =some k∧v= .str k t:=fun i v hv=>by
  have hi:i < xs.length:=by rw [←hisz];exact (Array.getElem?_eq_some_iff.mp hv).1
  obtain ⟨t,e⟩:=SS.strs_at hit i v (by rw [Array.getElem?_toList];exact hv)
  refine ⟨xs[i],t,List.getElem?_eq_getElem hi,?_⟩
  rw [e,List.getD_eq_getElem?_getD,List.getElem?_eq_getElem hi] <;> rfl
 refine setX_loop ((Walks.tuple hh3 _ l hneI items).toS) s.heap.objs.size
  hSf xs hisz hb hval (items.size - 0) 0 _ (by omega) (Nat.zero_le _)
  ⟨⟨_,Heap.get?_push_size _ rfl,rfl,rfl⟩,(hl1.at fun o z=>Heap.get?_push_of_some _ z)⟩ ?hS0 ?hR
 case hS0=>
  refine ⟨0,Nat.le_refl 0,(oX (Heap.get?_push_of_some _ hS)).congr fun k=> ?_⟩
  simp
 case hR=>
  intro s' c' hm hc' hS'
  refine hR s' hm.gens hm.drawn hm.os ⟨c',hS',by rw [hisz] at hc';exact hc',fun b o e=> ?_⟩
  have hb0:b < s.heap.objs.size:=Heap.lt_size e
  refine hm.heap b o ?_ (Heap.get?_push_of_some _ (Heap.get?_push_of_some _ e))
  rw [hz1]
  simp only [List.mem_cons,List.not_mem_nil,or_false,not_or]
  exact ⟨Nat.ne_of_lt hb0,Nat.ne_of_lt (Nat.lt_succ_of_lt hb0)⟩
end
section
variable {X:Cx}
abbrev rSetT (K:PySem.W.Frag) (w:World):List V→Hp→VK→Prop:=fun vs H Q=> ∃(l:Addr) (xs:List Str),vs= [.ref l]∧SqT K H l (xs.map V.str)∧xs.length+1 < scanBound∧
 ∀a n,H a=none→n≤xs.length→Q (.ref a) (upd H a (.ext fun h=>cV w h a (fun k=>decide (k∈xs)) n))
theorem cr_setT (hc:X.calm=true):CallR X (.type "set") (rSetT X.K X.w):=fun pins s σ H vs us Q I r ⟨l,xs,ev,hl,hb,q⟩=>by
 subst ev
 obtain ⟨u,rfl,ru⟩:=vals1 r
 obtain rfl:u=Value.ref l:=ru
 obtain ⟨its,rv,pl,hz⟩:=I.tuple hl
 have hn:H s.heap.objs.size=none:=I.hok.fresh (Nat.le_refl _)
 refine call_setX_tup (P:=X.prog) (w:=X.w) xs (I.ok.hd hc) pl (by simpa using strs_vals rv) hb fun h' tk c R hle k=> ?_
 exact ⟨.ref s.heap.objs.size,_,I.laid (t':=tk) k (Nat.le_refl _) (qH R),rfl,q _ c hn hle⟩
end
section
variable {C:DL.Ctx} {Γ:Gm} {L:Lp} {Q:D→Lp→Prop} {x y:D}
theorem LR.dp {ds:List D} {F:Fz} {H:Hp} {v:V} (h:LR L x ds) (c:C.Con L F H) (r:Rep C.X.K F H v x) (ok:oM ds=true):Dp C.X.K H v (.list (pys ds))∧(PyData.list (pys ds)).canLay0=true:=by
 obtain ⟨a,vs,rfl,ha,ra,_⟩:=h.at_ c r
 obtain ⟨h1,h2⟩:=bG.dp ds vs ok ra
 exact ⟨.lst (SqL.of ha) h1,by rw [PyData.canLay0];exact h2⟩
theorem dep_list {α:Type} [Enc α] (xs:List α) (h:Enc.dep α≤63):(PyData.list (pys (xs.map (Enc.enc (α:=α))))).depth≤64:=by
 have:=rJ (ds:=pys (xs.map (Enc.enc (α:=α)))) (n:=63) fun d hd=>by
  rw [lM] at hd
  obtain ⟨z,_,rfl⟩:=List.mem_map.mp hd
  exact Nat.le_trans (Enc.dpt z) h
 have e:(PyData.list (pys (xs.map (Enc.enc (α:=α))))).depth=(PyData.tuple (pys (xs.map (Enc.enc (α:=α))))).depth:=by simp only [PyData.depth]
 rw [e]
 exact this
theorem ne_B {a b:Bool} (q:Q (.bl (a !=b)) L):L2R C (rNeA C.X.K) (.bl a) (.bl b) L Q:=by
 refine ne_D rfl rfl (by cases a <;> decide) (by cases b <;> decide) ?_
 have e:(!PyData.eqv (py (.bl a)) (py (.bl b)))=(a !=b):=by cases a <;> cases b <;> decide
 rw [e]
 exact q
end
end DL
namespace DL
open PySem PySem.Spec PyProof.Rows L2
theorem Rep.wdsE {K:PySem.W.Frag} {F:Fz} {H:Hp} {v:V} {ys:List Str} (r:Rep K F H v (.wds ys)):∃a o,v= .ref a∧F a∧H a=some (.frz o (.tup (ys.map V.str)))∧o.dict=none∧ys.length≤sizeLine∧∀y∈ys,SOk y:=by
 cases r with
 | wds hl h ho hz hs=>exact ⟨_,_,rfl,hl,h,ho,hz,hs⟩
theorem reps_strs_of {K:PySem.W.Frag} {F:Fz} {H:Hp}:∀{ys:List Str},(∀y∈ys,SOk y)→bG K F H (ys.map V.str) (ys.map D.str)
 | [],_=> .nil
 | y::ys,h=> .cons (.str y (h y List.mem_cons_self)) (reps_strs_of fun z hz=>h z (List.mem_cons_of_mem _ hz))
def TS (d:D) (xs:List D):Prop:=d= .tup xs∨∃ys,d= .wds ys∧xs=ys.map .str
theorem TS.u (ys:List Str):TS (.wds ys) (ys.map .str):= .inr ⟨ys,rfl,rfl⟩
theorem TS.t (xs:List D):TS (.tup xs) xs:= .inl rfl
theorem TS.at_ {K:PySem.W.Frag} {F:Fz} {H:Hp} {v:V} {d:D} {xs:List D} (h:TS d xs) (r:Rep K F H v d):∃a vs,v= .ref a∧bG K F H vs xs∧xs.length≤sizeLine∧SqT K H a vs∧∀{F' H'},Mv F H F' H'→SqT K H' a vs:=by
 rcases h with rfl | ⟨ys,rfl,rfl⟩
 ·have hb:=r.bnd
  obtain ⟨a,vs,rfl,ha,ra⟩:=r.tupE
  exact ⟨a,vs,rfl,ra,hb,SqT.of ha,fun m=>SqT.of (m.stay.tup _ _ ha)⟩
 ·obtain ⟨a,o,rfl,fa,ha,_,hz,hs⟩:=r.wdsE
  exact ⟨a,_,rfl,reps_strs_of hs,by rw [List.length_map];exact hz,.inl (.inr ⟨o,ha⟩),fun m=> .inl (.inr ⟨o,m.fk _ _ fa ha⟩)⟩
section
variable {C:DL.Ctx} {Γ:Gm} {L:Lp} {Q:D→Lp→Prop} {pos p p2 apos:Pos} {e e2 o tg:Expr} {es:List Expr} {ys:List Str} {d:D} {xs:List D}
abbrev rTupW (K:PySem.W.Frag):List V→Hp→VK→Prop:=fun xs H Q=> ∃p,∃ys:List Str,xs= [.ref p]∧SqL K H p (ys.map V.str)∧∀l o,H l=none→o.dict=none→Q (.ref l) (upd H l (.frz o (.tup (ys.map V.str))))
theorem call_tupW {X:Cx}:CallR X (.type "tuple") (rTupW X.K):=by
 intro pins s σ H xs us Q I r h
 obtain ⟨p,ys,rfl,hq,q⟩:=h
 obtain ⟨u,rfl,rx⟩:=r.one
 cases rx
 obtain ⟨its,r',pl,hz⟩:=I.list hq
 have hlen:=r'.length
 refine call_tuple_list pl.isList (fun h' kp=> ?_) (by simp only [List.size_toArray] <;> omega)
 have I1:Inv X pins σ H {s with heap:=h'}:=I.kept (t':=s.toks) kp
 have hg:(h'.push {cls:= .type "tuple",data:= .seq its.toArray}).get? h'.objs.size=some {cls:= .type "tuple",data:= .seq its.toArray}:=Heap.get?_push_size _ rfl
 have I2:Inv X pins σ (upd H h'.objs.size (.frz {cls:= .type "tuple",data:= .seq its.toArray} (.tup (ys.map V.str)))) {s with heap:=h'.push {cls:= .type "tuple",data:= .seq its.toArray}}:=
  I1.laid (t':=s.toks) (fun b o e=>Heap.get?_push_of_some _ e) (Nat.le_refl _) (show ObjOk X.prog X.w _ _ _ (.frz _ (.tup (ys.map V.str))) from ⟨hg,hz,its,r',IsTup.new _ _⟩)
 exact ⟨.ref h'.objs.size,_,I2,rfl,q _ _ (I1.hok.fresh (Nat.le_refl _)) rfl⟩
theorem frzNew {F:Fz} {H:Hp} {l:Addr} {ob:Obj} {u:HO} (c:C.Con L F H) (hl:H l=none):C.Con L (fun b=>F b∨b=l) (upd H l (.frz ob u))∧Fr L F H L (fun b=>F b∨b=l) (upd H l (.frz ob u)):=by
 have f0:Fr L F H L F (upd H l (.frz ob u)):= .new hl
 have c0:=c.new (o:= .frz ob u) hl
 have mv:Mv F (upd H l (.frz ob u)) (fun b=>F b∨b=l) (upd H l (.frz ob u)):=⟨.refl _,fun b z=> .inl z,fun b o z e=>e⟩
 refine ⟨⟨fun b o e=>(c0.at_ b o e).mono mv rfl,fun b z=> ?_⟩,f0.keep,f0.live,f0.stay,f0.dom,fun b z=> .inl z,fun b o z e=>f0.fk b o z e,fun b z=> ?_⟩
 ·rcases z with z | z
  ·exact c0.fz b z
  ·rw [z]
   exact ⟨c.free hl,.frz ob u,upd_same,fun y e=>(by cases e),fun e=>(by cases e)⟩
 ·rcases z with z | z
  ·exact .inl z
  ·rw [z]
   exact .inr (.inr hl)
theorem c_tupW {p:Addr} (hp:L p=some (.lst (ys.map .str))) (q:Q (.wds ys) L):LcR C (rTupW C.X.K) [.ptr p] L Q:=fun F vs H c r0 QV go=>by
 obtain ⟨v,rfl,r⟩:=r0.oneE
 obtain ⟨ws,ha,ra,hz⟩:=c.at_ p _ hp
 have hs:=oY ra
 have ev:=cX ra
 subst ev
 refine ⟨p,ys,by rw [r.ptrE],SqL.of ha,fun l ob hl ho=> ?_⟩
 obtain ⟨c2,f2⟩:=frzNew (ob:=ob) (u:= .tup (ys.map V.str)) c hl
 exact go _ _ _ L (.wds (.inr rfl) upd_same ho (by rw [List.length_map] at hz;exact hz) hs) c2 f2 q
theorem ae_tupW (hm:C.X.mg "tuple"=none) (h:AL C e Γ L fun ds L1=> ∃ys,ds=ys.map .str∧Q (.wds ys) L1) (hg:Gl C.X "tuple" :=by rfl) (he:starEach [e] C.X.env= [(false,eval e C.X.env)]:=by rfl):AE C (.Call (.Name "tuple" p) [e] [] pos) Γ L Q:=
 AE.drop (bJ call_tupW hm (aC (AE.mono (aAk (Q:=fun d L2=> ∃L1 p ys,d= .ptr p∧L1 p=none∧L2=put L1 p (.lst (ys.map .str))∧Q (.wds ys) L1) (h.mono fun ds L1 ⟨ys,e,q⟩ p hp=>⟨L1,p,ys,rfl,hp,by rw [e],q⟩)) fun d L2 ⟨L1,p,ds,ed,hn,eL,q⟩=>by
  subst ed eL
  exact aF (c_tupW aD ⟨L1,aN hn,q⟩)) he) (hg:=hg) (he:=he))
theorem ae_tupWp (hm:C.X.mg "tuple"=none) (h:AE C e Γ L fun d L1=> ∃a ys,d= .ptr a∧L1 a=some (.lst (ys.map .str))∧Q (.wds ys) L1) (hg:Gl C.X "tuple" :=by rfl) (he:starEach [e] C.X.env= [(false,eval e C.X.env)]:=by rfl):AE C (.Call (.Name "tuple" p) [e] [] pos) Γ L Q:=
 bJ call_tupW hm (aC (h.mono fun d L2 ⟨a,ys,ed,ha,q⟩=>by
  subst ed
  exact aF (c_tupW ha q)) he) (hg:=hg) (he:=he)
theorem zX (q:Q (.int ys.length) L):LcR C (rLenA C.X.K) [.wds ys] L Q:=by
 unfold rLenA
 exact .le fun F vs H c r0 QV go=>by
  obtain ⟨v,rfl,r⟩:=r0.oneE
  obtain ⟨a,vs,rfl,rs,hz,hq,_⟩:=(TS.u ys).at_ r
  refine ⟨a,vs,rfl,.inr hq,?_⟩
  rw [rs.length,List.length_map]
  exact go _ _ H L (.int _) c (.refl L H) q
theorem in_U {x:Str} (q:Q (.bl (decide (x∈ys))) L):L2R C (rInA C.X.K) (.str x) (.wds ys) L Q:=by
 unfold rInA
 exact .ri (.ri fun F vx vy H c rx ry QV go=>by
 obtain ⟨p,ws,rfl,ra,_,hq,_⟩:=(TS.u ys).at_ ry
 have e:=cX ra
 subst e
 refine ⟨p,_,rfl,.inr hq,by rw [rx.strE];rfl,by rw [List.all_map];exact List.all_eq_true.mpr fun _ _=>rfl,?_⟩
 rw [rx.strE]
 show QV (.bl (inV (.str x) (ys.map V.str))) H
 rw [jY]
 exact go _ _ H L (.bl _) c (.refl L H) q)
theorem ixa_U {i:Int} (q:Q d L) (h:atI (ys.map D.str) i=some d):L2R C (rIxA C.X.K) (.wds ys) (.int i) L Q:=by
 unfold rIxA
 exact .le fun F vx vy H c rx ry QV go=>by
  obtain ⟨a,vs,rfl,ra,_,hq,_⟩:=(TS.u ys).at_ rx
  obtain ⟨v,h1,h2⟩:=qK ra h
  exact ⟨a,vs,i,v,rfl,ry.intE,hq,h1,go _ _ H L h2 c (.refl L H) q⟩
theorem sla_U {lo hi:Option Int} (q:∀d2,TS d2 (cut (ys.map D.str) lo hi)→Q d2 L):LsR C (rSlAA C.X.K) (.wds ys) lo hi L Q:=by
 unfold rSlAA
 exact fun F v H c r QV go=> .inl (by
  obtain ⟨a,vs,rfl,ra,hz,hq,_⟩:=(TS.u ys).at_ r
  refine ⟨a,vs,rfl,hq,fun h=> ?_,fun _ p hp=> ?_⟩
  ·rw [ra.length] at h
   exact go _ _ H L r c (.refl L H) (q _ (by rw [cut_whole h];exact .u ys))
  ·exact go _ _ _ L (Rep.tupI upd_same ((ra.cut lo hi).mono (.new hp)) (Nat.le_trans (wH _ lo hi) hz)) (c.new hp) (.new hp) (q _ (.t _)))
theorem isi_U (q:Q (.bl true) L):LcR C (rIsi C.X.K) [.wds ys,.ty "tuple"] L Q:=fun F vs H c r QV go=>by
 obtain ⟨v,w,rfl,r1,r2⟩:=r.twoE
 rw [r2.tyE]
 obtain ⟨a,ob,rfl,_,ha,_⟩:=r1.wdsE
 exact ⟨.ref a,.ty "tuple",.type "tuple",.type "tuple",true,rfl,.ty "tuple",.fTuple ha,kit_ty (by exact (by decide+kernel:kitB "tuple" "tuple"=some true)),go _ _ H L (.bl _) c (.refl L H) q⟩
theorem uR {Q:List D→Lp→Prop} (h:AE C e Γ L fun d L1=> ∃xs,TS d xs∧AA C es Γ L1 fun ds L2=>Q (xs++ds) L2) (hs:starEach (.Starred e p::es) C.X.env=(true,eval e C.X.env)::starEach es C.X.env:=by rfl):AA C (.Starred e p::es) Γ L Q:=fun F σ H ok QV go=>
 zP (StX.pa_star bA mW hs) (h _ σ H ok _ fun v d H1 L1 r c f ⟨xs,hd,q⟩=>by
  obtain ⟨a,vs,rfl,ra,_,hq,_⟩:=hd.at_ r
  exact ⟨a,vs,rfl,.inl hq,q _ σ H1 (ok.step c f) _ fun ws ds H2 L2 r2 c2 f2 q2=>go (vs++ws) (xs++ds) H2 L2 ((ra.mono f2.mv).append r2) c2 (f.trans f2) q2⟩)
theorem yC {R:List D→(Lp→Prop)→Lp→Prop} (h:AE C e Γ L fun d L1=> ∃ds,TS d ds∧(ds.length≤sizeLine→R ds (fun _=>True) L1)):AI C tg e Γ L R:=fun F σ H ok RV go=>
 oN (pi_tup bA) (h _ σ H ok _ fun v d H1 L1 r c f ⟨ds,ht,q⟩=>by
  obtain ⟨a,vs,rfl,ra,hz,hq0,hqs⟩:=ht.at_ r
  refine ⟨a,rfl,⟨vs,hq0⟩,go _ H1 L1 ds (fun _=>True) c f (fun i H2 L2 s2 c2 _=> ?_) (q hz)⟩
  have hq:SqT C.X.K H2 a vs:=hqs s2.mv
  refine ⟨fun hi=>⟨vs,vs[i]'(by rw [ra.length];exact hi),hq,List.getElem?_eq_getElem _⟩,fun hi=>⟨vs,hq,by rw [ra.length,hi];exact Nat.le_refl _⟩,fun x H' y hi=> ?_⟩
  obtain ⟨e1,y⟩:=y
  subst e1
  obtain ⟨d,hd,rd⟩:=ra.getV (y vs hq)
  exact ⟨d,hd,rd.mono s2.mv,.inl rfl⟩)
theorem ai_zipTS {tpos:Pos} {elts:List Expr} {kk:Nat} {R:List D→(Lp→Prop)→Lp→Prop} (hm:C.X.mg "zip"=none) (h:AA C [e,e2] Γ L fun ds L1=> ∃d1 d2 xs ys,ds= [d1,d2]∧TS d1 xs∧TS d2 ys∧(xs.length≤sizeLine→R (yH xs ys) (fun _=>True) L1)) (hg:Gl C.X "zip" :=by rfl)
  (hs:starEach [e,e2] C.X.env=(false,eval e C.X.env)::starEach [e2] C.X.env:=by rfl) (hpl:(backTo pos (starEach [e2] C.X.env)).any (·.1)=false:=by rfl):AI C (.Tuple elts kk tpos) (.Call (.Name "zip" p) [e,e2] [] pos) Γ L R:=fun F σ H ok RV go=>
 oN (RZ.pi_zipA hg hm mW hs hpl) (h _ σ H ok _ fun vs ds H1 L1 r c f ⟨d1,d2,xs,ys,ed,t1,t2,q⟩=>by
  subst ed
  obtain ⟨v,w,rfl,r1,r2⟩:=r.twoE
  obtain ⟨x,vx,rfl,rx,hz,hx,kx⟩:=t1.at_ r1
  obtain ⟨y,vy,rfl,ry,_,hy,ky⟩:=t2.at_ r2
  refine ⟨x,y,vx,vy,rfl,.inr ⟨hx,hy,go _ H1 L1 _ _ c f (fun i H L s cc g=> ?_) (q hz)⟩⟩
  have hx':=kx s.mv
  have hy':=ky s.mv
  have hl:(yH xs ys).length=min xs.length ys.length:=by unfold yH;simp
  have l1:=rx.length
  have l2:=ry.length
  rw [hl]
  refine ⟨fun h=> ?_,fun h=>⟨vx,vy,hx',hy',?_⟩,fun v H' yy hi=> ?_⟩
  ·have h1:i < vx.length:=by rw [l1];exact Nat.lt_of_lt_of_le h (Nat.min_le_left _ _)
   have h2:i < vy.length:=by rw [l2];exact Nat.lt_of_lt_of_le h (Nat.min_le_right _ _)
   exact ⟨vx,vy,vx[i],vy[i],hx',hy',List.getElem?_eq_getElem h1,List.getElem?_eq_getElem h2⟩
  ·omega
  ·obtain ⟨T,x1,y1,e1,nT,e2,k1,k2⟩:=yy
   subst e1 e2
   obtain ⟨d1,g1,q1⟩:=rx.getV (k1 vx hx')
   obtain ⟨d2,g2,q2⟩:=ry.getV (k2 vy hy')
   have s2:Mv _ H1 _ (upd H T (.tup [x1,y1])):=s.mv.trans (.new nT)
   refine ⟨.tup [d1,d2],?_,Rep.tupI upd_same (.cons (q1.mono s2) (.cons (q2.mono s2) .nil)) (by show 2≤sizeLine;decide),.inr ⟨T,_,nT,rfl⟩⟩
   unfold yH
   rw [List.getElem?_zipWith,g1,g2])
theorem idx_first {z:Str} (hz:z∈ys):ys[ys.idxOf z]? =some z∧∀m,m < ys.idxOf z→ys[m]?≠some z:=by
 have hi:=List.idxOf_lt_length_iff.mpr hz
 refine ⟨by rw [List.getElem?_eq_getElem hi,List.getElem_idxOf],fun m hm e=> ?_⟩
 obtain ⟨hm2,e2⟩:=List.getElem?_eq_some_iff.mp e
 have:=List.not_of_lt_findIdx (xs:=ys) (p:=(· ==z)) (i:=m) hm
 rw [e2] at this
 simp at this
theorem ae_idxU (h:AE C o Γ L fun x L1=> ∃ys,x= .wds ys∧AE C e Γ L1 fun y L2=> ∃z,y= .str z∧z∈ys∧Q (.int (ys.idxOf z:Nat)) L2)
  (hbase:attributeBase o "index" C.X.env (eval o C.X.env)=eval o C.X.env:=by rfl)
  (hfew:((backTo pos (starEach [e] C.X.env)).all (fun x=> !x.1) && (backToKw pos (keywordEach [] C.X.env)).all (fun x=>x.1.isSome)
   && decide ([e].length+([]:List Keyword).length+(if ([]:List Keyword).isEmpty then 0 else 1) < 30))=true:=by rfl)
  (hline:(apos.endLine==pos.line)=true:=by rfl) (hs:starEach [e] C.X.env=(false,eval e C.X.env)::starEach [] C.X.env:=by rfl) (hplain:(backTo pos (starEach [] C.X.env)).any (·.1)=false:=by rfl):AE C (.Call (.Attribute o "index" apos) [e] [] pos) Γ L Q:=fun Z σ H ok QV go=>⟨fun pins s I=>by
 refine wpAny_Call_method_late hbase hfew hline rfl (thn ((h Z σ H ok (fun v H1=> ∃x L1 Z1,Rep C.X.K Z1 H1 v x∧C.Con L1 Z1 H1∧Fr L Z H L1 Z1 H1∧∃ys,x= .wds ys∧AE C e Γ L1 fun y L2=> ∃z,y= .str z∧z∈ys∧Q (.int (ys.idxOf z:Nat)) L2) fun v d H' L' r c f q=>⟨d,L',_,r,c,f,q⟩).run pins s I) fun v s1 ⟨vx,H1,I1,r1,x,L1,Z1,rx,c1,f1,ys,ex,q1⟩=> ?_)
 subst ex
 obtain ⟨a,ob,rfl,fa,ha,hd,hz,hso⟩:=rx.wdsE
 cases (show v=Value.ref a from r1)
 obtain ⟨hg,_,its,rv,p0⟩:=(show ObjOk C.X.prog C.X.w H1 s1.heap a (.frz ob (.tup (ys.map V.str))) from I1.hok a _ ha)
 obtain ⟨o2,g2,hcl,_⟩:=p0
 rw [hg] at g2
 cases g2
 refine ⟨"tuple","tuple.index",PySem.F.plainAttrs_tuple,PySem.F.slot_tuple_index,PySem.F.type_tuple_index,⟨ob,hg,hcl⟩,fun b eb=>by cases eb;exact ⟨ob,hg,hd⟩,?_⟩
 have hB:AA C [e] Γ L1 fun ds L2=> ∃z,ds= [.str z]∧z∈ys∧Q (.int (ys.idxOf z:Nat)) L2:=aC (q1.mono fun y L2 q=>by
  obtain ⟨z,ey,q⟩:=q
  exact aF ⟨z,by rw [ey],q⟩) hs
 have hA:=(hB Z1 σ H1 (ok.step c1 f1) (fun vs H2=> ∃z L2 Z2,bG C.X.K Z2 H2 vs [.str z]∧C.Con L2 Z2 H2∧Fr L1 Z1 H1 L2 Z2 H2∧z∈ys∧Q (.int (ys.idxOf z:Nat)) L2) fun vs ds H2 L2 r c f ⟨z,ed,hz,q⟩=>⟨z,L2,_,by rw [←ed];exact r,c,f,hz,q⟩).run pos pins s1 I1
 rw [hs] at hA ⊢
 refine Calls.callWith_builtin (by show (false || (backTo pos (starEach [] C.X.env)).any (·.1))=false;rw [hplain] <;> rfl) (Calls.evalArgs_plain ?_)
 refine thn hA fun us s2 ⟨vs,H2,I2,r2,z,L2,Z2,rz,c2,f2,hz2,q2⟩=> ?_
 obtain ⟨v2,rfl,rz1⟩:=rz.oneE
 rw [rz1.strE] at r2
 obtain ⟨h1,h2⟩:=idx_first hz2
 exact mt_tup_index pins s2 σ H2 (.ref a) [.str z] (.ref a) us QV I2 rfl r2 ⟨a,ys,z,ys.idxOf z,rfl,rfl,.inl (.inr ⟨ob,f2.fk _ _ fa ha⟩),h1,h2,go _ _ H2 L2 (.int _) c2 (f1.trans f2) q2⟩⟩
theorem c_setU (hb:ys.length+1 < scanBound) (q:∀l n,L l=none→n≤ys.length→Q (.ptr l) (put L l (.txs (fun k=>decide (k∈ys)) n))):LcR C (rSetT C.X.K C.X.w) [.wds ys] L Q:=fun F vs H c r0 QV go=>by
 obtain ⟨v,rfl,r⟩:=r0.oneE
 obtain ⟨a,ob,rfl,fa,ha,_,hz,hs⟩:=r.wdsE
 exact ⟨a,ys,rfl,.inl (.inr ⟨ob,ha⟩),hb,fun l n hl hn=>go _ _ _ (put L l (.txs (fun k=>decide (k∈ys)) n)) (.ptr l) (c.newL hl ⟨upd_same,fun k hk=>hs k (of_decide_eq_true hk)⟩) (.newL hl) (q l n (c.free hl) hn)⟩
end
end DL
namespace DL
open PySem PySem.Spec PyProof.Rows L2
set_option maxHeartbeats 1000000 in
theorem mts_enum1 {x:Value} {oI:Obj} {Hx:Heap→Prop} (B:Begins x oI Hx):
  Meets (Builtin.«enumerate.__new__» ⟨[.type "enumerate",x],[]⟩) (fun _ R s=>Hx s.heap∧
   R (.ok (.ret (.ref (s.heap.push oI).objs.size))) {s with heap:=(s.heap.push oI).push ⟨.type "enumerate",none,.fields #[.none,.bool false,.ref s.heap.objs.size,rawInt 0,.none,.none],#[]⟩}):= .of_wp fun P w Ar R s ⟨hx,hr⟩=>by
 obtain ⟨hp,g,d,tk,os⟩:=s
 have hsb:=sub_enumerate
 have beg:∀{Ar':Around} {Ee:Value→Shared→Prop} {Qq:Value→Shared→Prop},Qq (.ref hp.objs.size) ⟨hp.push oI,g,d,tk,os⟩→wpAny (model P w) Ar' (pyIter x) Qq Ee ⟨hp,g,d,tk,os⟩:=fun q=>B.iter P w _ _ ⟨hp,g,d,tk,os⟩ _ hx q
 wp_walk
 refine wpAny_stack_any fun st=>wpAny_pure ?_
 split
 ·rename_i cc _ _ _ _ _
  cases (cc==Value.type "enumerate") <;> (wp_walk using beg;exact ⟨_,rfl,hr⟩)
 ·wp_walk using beg
  exact ⟨_,rfl,hr⟩
theorem enum1_call {P:Program} {w:World} {Ar:Around} {Er:Value→Shared→Prop} {s:Shared} {x:Value} {oI:Obj} {Hx:Heap→Prop} {Qq:Value→Shared→Prop} (B:Begins x oI Hx) (hx:Hx s.heap)
  (hq:∀G,IsEnum G (s.heap.objs.size+1) s.heap.objs.size 0 .none→G.get? s.heap.objs.size=some oI→(∀b o,s.heap.get? b=some o→G.get? b=some o)→Qq (.ref (s.heap.objs.size+1)) {s with heap:=G}):
  wpAny (model P w) Ar (call (.type "enumerate") [x]) Qq Er s:=by
 refine callType_new F.called_enumerate (by decide) (F.typeCall_enumerate_1 _) (F.newCall_enumerate_1 _) (fun ob=>F.args_object_init_2 ob _) F.entry_enumerate_new (mts_enum1 B) ⟨hx,?_⟩
 have e1:(s.heap.push oI).objs.size=s.heap.objs.size+1:=Heap.size_push ..
 show _∧_
 rw [e1]
 have ge:IsEnum ((s.heap.push oI).push ⟨.type "enumerate",none,.fields #[.none,.bool false,.ref s.heap.objs.size,rawInt 0,.none,.none],#[]⟩) (s.heap.objs.size+1) s.heap.objs.size 0 .none:=e1 ▸Heap.get?_push_size (s.heap.push oI) (o:=⟨.type "enumerate",none,.fields #[.none,.bool false,.ref s.heap.objs.size,rawInt 0,.none,.none],#[]⟩) rfl
 exact ⟨⟨_,ge,rfl⟩,hq _ ge (Heap.get?_push_of_some _ (Heap.get?_push_size _ B.free)) fun b o y=>Heap.get?_push_of_some _ (Heap.get?_push_of_some _ y)⟩
def Item (K:PySem.W.Frag) (a:Addr):It where
 go:=fun i H=> ∃(xs:List V) (x:V),SqT K H a xs∧xs[i]? =some x
 yld:=fun i H v H'=> ∃T x,v= .ref T∧H T=none∧H'=upd H T (.tup [.int (i:Nat),x])∧∀xs,SqT K H a xs→xs[i]? =some x
 stop:=fun i H=> ∃xs:List V,SqT K H a xs∧xs.length=i
theorem turn_enumTu {P:Program} {w:World} {K:PySem.W.Frag} {elts:List Expr} {kk:Nat} {tpos:Pos} (a e it:Addr) (hne:e≠it) (hea:e≠a) (hia:a≠it):
  Turn P w K (.Tuple elts kk tpos) (Item K a) [e,it] e (fun i h=>(∃old,IsEnum h e it ((i:Nat):Int) old)∧h.IsTupleIter it a i) where
 mem:=List.mem_cons_self
 obj:=fun i h ⟨⟨old,he⟩,o,ho,hc,hd⟩ b hb=>by
  rcases List.mem_cons.mp hb with rfl | hb
  ·exact ⟨_,he,fun v q=>nomatch q⟩
  ·rw [List.mem_singleton.mp hb]
   exact ⟨o,ho,fun v q=>by rw [hd] at q;cases q⟩
 keep:=fun i h h' ⟨⟨old,he⟩,hi⟩ k=>⟨⟨old,k e (by simp) _ he⟩,hi.at fun o q=>k it (by simp) o q⟩
 item:=by
  intro X hP hw hK hc i pins s σ H E I hf st hg
  subst hP hw hK
  obtain ⟨⟨old,he⟩,hit⟩:=st
  obtain ⟨xs,x,hq,hx⟩:=hg
  obtain ⟨its,rv,p,hz⟩:=I.tuple hq
  obtain ⟨u,hu,ru⟩:=rv.get hx
  have lte:e < s.heap.objs.size:=Heap.lt_size he
  have lti:it < s.heap.objs.size:=by obtain ⟨_,q,_⟩:=hit;exact Heap.lt_size q
  have hlt:i < its.toArray.size:=by
   have:=(List.getElem?_eq_some_iff.mp hu).1
   simpa using this
  have DD:=Draws.tuple (prog:=X.prog) (w:=X.w) (A:=X.A.in1) (I.ok.hd hc) it a hia its.toArray
  refine wpAny_pyNext_enum_itemD DD he ⟨hit,p⟩ hlt hne (by simp [hne,hea]) fun u2 h' tk hu2 ho st' hT hsz hk=> ?_
  have eu:u2=u:=by
   have:its.toArray[i]? =some u:=by simpa using hu
   rw [this] at hu2
   exact (Option.some.inj hu2).symm
  subst eu
  refine ⟨_,rfl,wpAny_letOwnedTupleGo_enum (s:={s with heap:=h',toks:=tk+1}) ho fun h'' he' sb=> ?_⟩
  have gT:h''.get? s.heap.objs.size=some {cls:= .type "tuple",data:= .seq #[.int i tk,u2]}:=(sb.2 _ (Nat.ne_of_gt lte)).trans hT
  have okT:ObjOk X.prog X.w (upd H s.heap.objs.size (.tup [.int (i:Nat),x])) h'' s.heap.objs.size (.tup [.int (i:Nat),x]):=⟨Nat.le_of_ble_eq_true rfl,[.int i tk,u2],.cons ⟨_,rfl⟩ (.cons ru .nil),⟨_,gT,rfl,_,rfl⟩⟩
  have I1:Inv X pins σ (upd H s.heap.objs.size (.tup [.int (i:Nat),x])) {s with heap:=h'',toks:=tk+1}:=
   I.turnedNew (t':=tk+1) (ch:= [e,it]) (fun b ob hb q=>(sb.2 b fun z=>hb (z ▸List.mem_cons_self)).trans (hk b ob (fun z=>hb (z ▸List.mem_cons_self)) (fun z=>hb (z ▸List.mem_cons_of_mem _ List.mem_cons_self)) q)) hf (Nat.le_refl _) okT
  refine ⟨.ref s.heap.objs.size,_,I1,rfl,⟨_,x,rfl,I.hok.fresh (Nat.le_refl _),rfl,fun ys hy=>by rw [I.tuple_inj hy hq];exact hx⟩,⟨⟨u2,?_⟩,st'.1.at fun o q=>(sb.2 it (Ne.symm hne)).trans q⟩,fun b hb=> ?_⟩
  ·rw [show ((i+1:Nat):Int)=(i:Int)+1 from by omega]
   exact he'
  ·have hb':b < s.heap.objs.size:=by
    rcases List.mem_cons.mp hb with z | z
    ·exact z ▸lte
    ·exact List.mem_singleton.mp z ▸lti
   rw [upd_ne (Nat.ne_of_lt hb')]
   exact (hf b hb).1
 done:=by
  intro X hP hw hK hc i pins s σ H E I hf st hg
  subst hP hw hK
  obtain ⟨⟨old,he⟩,hit⟩:=st
  obtain ⟨xs,hq,hx⟩:=hg
  obtain ⟨its,rv,p,hz⟩:=I.tuple hq
  have DD:=Draws.tuple (prog:=X.prog) (w:=X.w) (A:=X.A.in1) (I.ok.hd hc) it a hia its.toArray
  obtain ⟨f0,f1,f2,f3,f4,f5⟩:=hf it (by simp)
  have en:i=its.toArray.size:=by rw [List.size_toArray,←rv.length,hx]
  subst en
  exact wpAny_pyNext_enum_endD DD he ⟨hit,p⟩ fun h' eb=>⟨rfl,I.turned (t':=s.toks) (fun b o hb q=>eb b o hb q) f0 f1 f3 f4 f5⟩
 self:=fun A i s Q E ⟨⟨_,he⟩,_⟩ h=>wpAny_pyIter_enum he h
section
variable {C:DL.Ctx} {Γ:Gm} {L:Lp} {pos p:Pos} {e e2:Expr}
theorem pi_enumT {X:Cx} {e:Expr} {ta:TA} {p pos tpos:Pos} {elts:List Expr} {kk:Nat} (hg:Gl X "enumerate") (hm:X.mg "enumerate"=none) (ha:PA X [e] ta) (hs:starEach [e] X.env= [(false,eval e X.env)]:=by rfl):
  PI X (.Tuple elts kk tpos) (.Call (.Name "enumerate" p) [e] [] pos) (fun σ H R=>ta σ H fun vs H1=> ∃a xs,vs= [.ref a]∧SqT X.K H1 a xs∧R (Item X.K a) H1):=by
 refine ⟨fun pins s σ H R I h=>Call_ (ld_blt I hg hm boot_enumerate (PyProof.Rows.callWith_type1 (thn (ha.run pos pins s σ H _ I h) fun us s1 ⟨vs,H1,I1,r1,a,xs,ex,hq,q⟩=> ?_) hs rfl))⟩
 subst ex
 obtain ⟨u,rfl,ru⟩:=r1.one
 cases (show u=Value.ref a from ru)
 obtain ⟨its,rv,pt,hz⟩:=I1.tuple hq
 have ptl:a < s1.heap.objs.size:=by obtain ⟨o,ho,_⟩:=id pt;exact Heap.lt_size ho
 refine enum1_call (begins_tuple a its.toArray) pt fun G he hi hk=>wpAny_pyIter_enum he ?_
 have I2:Inv X pins σ H1 {s1 with heap:=G}:=I1.kept (t':=s1.toks) hk
 refine ⟨s1.heap.objs.size+1,[s1.heap.objs.size+1,s1.heap.objs.size],_,_,H1,rfl,I2,turn_enumTu a (s1.heap.objs.size+1) s1.heap.objs.size (Nat.succ_ne_self _) (Nat.ne_of_gt (Nat.lt_succ_of_lt ptl)) (Nat.ne_of_lt ptl),⟨⟨.none,he⟩,⟨_,hi,rfl,rfl⟩⟩,fun b hb=> ?_,q⟩
 have hle:s1.heap.objs.size≤b:=by
  rcases List.mem_cons.mp hb with z | z
  ·rw [z];exact Nat.le_succ _
  ·rw [List.mem_singleton.mp z];exact Nat.le_refl _
 exact I1.fpOk hle (I1.hok.fresh hle)
def pJ (xs:List D):List D:=xs.zipIdx.map fun q=> .tup [.int (q.2:Nat),q.1]
theorem iU (xs:List D):(pJ xs).length=xs.length:=by unfold pJ;simp
theorem rH {xs:List D} {i:Nat} {d:D} (h:xs[i]? =some d):(pJ xs)[i]? =some (.tup [.int (i:Nat),d]):=by
 unfold pJ
 rw [List.getElem?_map,List.getElem?_zipIdx,h]
 simp
theorem nY {xs:List D} {i:Nat} {d:D} (h:(pJ xs)[i]? =some d):∃x,xs[i]? =some x∧d= .tup [.int (i:Nat),x]:=by
 cases e:xs[i]? with
 | none=>
  have:=List.getElem?_eq_none_iff.mp e
  rw [List.getElem?_eq_none (by rw [iU];exact this)] at h
  cases h
 | some x=>
  rw [rH e] at h
  exact ⟨x,rfl,(Option.some.inj h).symm⟩
theorem ai_enumT {tpos:Pos} {elts:List Expr} {kk:Nat} {R:List D→(Lp→Prop)→Lp→Prop} (hm:C.X.mg "enumerate"=none) (h:AE C e Γ L fun d L1=> ∃xs,TS d xs∧(xs.length≤sizeLine→R (pJ xs) (fun _=>True) L1)) (hg:Gl C.X "enumerate" :=by rfl) (hs:starEach [e] C.X.env= [(false,eval e C.X.env)]:=by rfl):
  AI C (.Tuple elts kk tpos) (.Call (.Name "enumerate" p) [e] [] pos) Γ L R:=fun F σ H ok RV go=>
 have hB:AA C [e] Γ L fun ds L1=> ∃d xs,ds= [d]∧TS d xs∧(xs.length≤sizeLine→R (pJ xs) (fun _=>True) L1):=aC (h.mono fun d L1 q=>by
  obtain ⟨xs,t,q⟩:=q
  exact aF ⟨d,xs,rfl,t,q⟩) hs
 oN (pi_enumT hg hm mW hs) (hB _ σ H ok _ fun vs ds H1 L1 r c f ⟨d,xs,ed,ht,q⟩=>by
  subst ed
  obtain ⟨v,rfl,r1⟩:=r.oneE
  obtain ⟨a,vx,rfl,rx,hz,hx,kx⟩:=ht.at_ r1
  refine ⟨a,vx,rfl,hx,go _ H1 L1 _ _ c f (fun i H L s cc g=> ?_) (q hz)⟩
  have hx':=kx s.mv
  rw [iU]
  refine ⟨fun h=> ?_,fun h=>⟨vx,hx',by rw [rx.length,h]⟩,fun v H' yy hi=> ?_⟩
  ·have h1:i < vx.length:=by rw [rx.length];exact h
   exact ⟨vx,vx[i],hx',List.getElem?_eq_getElem h1⟩
  ·obtain ⟨T,x1,e1,nT,e2,k1⟩:=yy
   subst e1 e2
   obtain ⟨d1,g1,q1⟩:=rx.getV (k1 vx hx')
   have s2:Mv _ H1 _ (upd H T (.tup [.int (i:Nat),x1])):=s.mv.trans (.new nT)
   exact ⟨_,rH g1,Rep.tupI upd_same (.cons (.int _) (.cons (q1.mono s2) .nil)) (by show 2≤sizeLine;decide),.inr ⟨T,_,nT,rfl⟩⟩)
theorem ai_enumL {tpos:Pos} {elts:List Expr} {kk:Nat} {R:List D→(Lp→Prop)→Lp→Prop} (hm:C.X.mg "enumerate"=none) (h:AE C e Γ L fun d L1=> ∃a xs,d= .ptr a∧L1 a=some (.lst xs)∧(xs.length≤sizeLine→R (pJ xs) (fun L=>L a=some (.lst xs)) L1)) (hg:Gl C.X "enumerate" :=by rfl) (hs:starEach [e] C.X.env= [(false,eval e C.X.env)]:=by rfl):
  AI C (.Tuple elts kk tpos) (.Call (.Name "enumerate" p) [e] [] pos) Γ L R:=fun F σ H ok RV go=>
 have hB:AA C [e] Γ L fun ds L1=> ∃a xs,ds= [.ptr a]∧L1 a=some (.lst xs)∧(xs.length≤sizeLine→R (pJ xs) (fun L=>L a=some (.lst xs)) L1):=aC (h.mono fun d L1 q=>by
  obtain ⟨a,xs,ed,t,q⟩:=q
  exact aF ⟨a,xs,by rw [ed],t,q⟩) hs
 oN (pi_enum hg hm mW hs) (hB _ σ H ok _ fun vs ds H1 L1 r c f ⟨a,xs,ed,ha,q⟩=>by
  subst ed
  obtain ⟨v,rfl,r1⟩:=r.oneE
  obtain ⟨vx,hx,rx,hz⟩:=c.at_ a _ ha
  refine ⟨a,vx,by rw [r1.ptrE],SqL.of hx,go _ H1 L1 _ _ c f (fun i H L s cc g=> ?_) (q hz)⟩
  obtain ⟨us,hb,rb,_⟩:=cc.at_ a _ g
  rw [iU]
  refine ⟨fun h=> ?_,fun h=>⟨us,SqL.of hb,by rw [rb.length,h];exact Nat.le_refl _⟩,fun v H' yy hi=> ?_⟩
  ·have h1:i < us.length:=by rw [rb.length];exact h
   exact ⟨us,us[i],SqL.of hb,List.getElem?_eq_getElem h1⟩
  ·obtain ⟨T,x1,e1,nT,e2,k1⟩:=yy
   subst e1 e2
   obtain ⟨d1,g1,q1⟩:=rb.getV (k1 us (SqL.of hb))
   exact ⟨_,rH g1,Rep.tupI upd_same (.cons (.int _) (.cons (q1.mono (.new nT)) .nil)) (by show 2≤sizeLine;decide),.inr ⟨T,_,nT,rfl⟩⟩)
structure Ap2 (z TI TO i1 i2 a b:Addr):Prop where
 S:ZipSep2 z TI TO i1 i2 [i1,a] [i2,b]
 ai:a≠i1
 bi:b≠i2
theorem ai_zipLL {tpos:Pos} {elts:List Expr} {kk:Nat} {R:List D→(Lp→Prop)→Lp→Prop} (hm:C.X.mg "zip"=none) (h:AA C [e,e2] Γ L fun ds L1=> ∃a b xs ys,ds= [.ptr a,.ptr b]∧L1 a=some (.lst xs)∧L1 b=some (.lst ys)∧(xs.length≤sizeLine→R (yH xs ys) (fun L=>L a=some (.lst xs)∧L b=some (.lst ys)) L1)) (hg:Gl C.X "zip" :=by rfl)
  (hs:starEach [e,e2] C.X.env=(false,eval e C.X.env)::starEach [e2] C.X.env:=by rfl) (hpl:(backTo pos (starEach [e2] C.X.env)).any (·.1)=false:=by rfl):AI C (.Tuple elts kk tpos) (.Call (.Name "zip" p) [e,e2] [] pos) Γ L R:=fun F σ H ok RV go=>
 oN (pi_zip hg hm mW hs hpl) (h _ σ H ok _ fun vs ds H1 L1 r c f ⟨a,b,xs,ys,ed,ha,hb,q⟩=>by
  subst ed
  obtain ⟨v,w,rfl,r1,r2⟩:=r.twoE
  obtain ⟨vx,hx,rx,hz⟩:=c.at_ a _ ha
  obtain ⟨vy,hy,ry,_⟩:=c.at_ b _ hb
  refine ⟨a,b,vx,vy,by rw [r1.ptrE,r2.ptrE],SqL.of hx,SqL.of hy,go _ H1 L1 _ _ c f (fun i H L s cc g=> ?_) (q hz)⟩
  obtain ⟨us,hu,ru,_⟩:=cc.at_ a _ g.1
  obtain ⟨ws,hw,rw',_⟩:=cc.at_ b _ g.2
  have hl:(yH xs ys).length=min xs.length ys.length:=by unfold yH;simp
  have l1:=ru.length
  have l2:=rw'.length
  rw [hl]
  refine ⟨fun h=> ?_,fun h=>⟨us,ws,SqL.of hu,SqL.of hw,by omega⟩,fun v H' yy hi=> ?_⟩
  ·have h1:i < us.length:=by omega
   have h2:i < ws.length:=by omega
   exact ⟨us,ws,us[i],ws[i],SqL.of hu,SqL.of hw,List.getElem?_eq_getElem h1,List.getElem?_eq_getElem h2⟩
  ·obtain ⟨T,x1,y1,e1,nT,e2,k1,k2⟩:=yy
   subst e1 e2
   obtain ⟨d1,g1,q1⟩:=ru.getV (k1 us (SqL.of hu))
   obtain ⟨d2,g2,q2⟩:=rw'.getV (k2 ws (SqL.of hw))
   refine ⟨.tup [d1,d2],?_,Rep.tupI upd_same (.cons (q1.mono (.new nT)) (.cons (q2.mono (.new nT)) .nil)) (by show 2≤sizeLine;decide),.inr ⟨T,_,nT,rfl⟩⟩
   unfold yH
   rw [List.getElem?_zipWith,g1,g2])
end
end DL
namespace DL
open PySem PySem.Spec PyProof.Rows L2
section
variable {C:DL.Ctx} {Γ:Gm} {L:Lp} {Q:D→Lp→Prop} {pos p p2 apos:Pos} {e o fe:Expr} {es:List Expr} {d x y:D} {k:Nat} {g pm Cl:Addr} {mc:Value} {sp:SpA} {m:Str} {pl:Sem Bool}
theorem ae_cmeth (r:ClX.CRead C.X.K Cl mc) (c:ClX.CMet C.X.K Cl mc m pm g) (F:FnA C.X.prog C.X.w C.X.K C.X.mg C.X.base k g sp) (hr:Room k C.X.A) (h:AE C o Γ L fun y L1=>y= .ptr Cl∧AA C (e::es) Γ L1 fun ds L2=>sp (.ptr Cl::ds) L2 Q (C.R Γ))
  (hst:starEach (e::es) C.X.env=(false,eval e C.X.env)::starEach es C.X.env:=by rfl) (hpl:(backTo pos (starEach es C.X.env)).any (·.1)=false:=by rfl)
  (ht:eval (.Call (.Attribute o m apos) (e::es) [] pos) C.X.env=(do
   let ov ←eval o C.X.env
   standAt apos.atName
   let (f,first) ←holding [ov] (getMethod ov m pl)
   callWith pos f first (backTo pos (starEach (e::es) C.X.env)) (backToKw pos (keywordEach [] C.X.env))):=by rfl):AE C (.Call (.Attribute o m apos) (e::es) [] pos) Γ L Q:=fun Z σ H ok QV go=>by
 refine ⟨fun pins s I=> ?_⟩
 refine PySem.W.methodCall_KW (pl:=pl) (thn ((h _ σ H ok (fun v H1=> ∃L1 Z1,v= .ref Cl∧C.Con L1 Z1 H1∧Fr L Z H L1 Z1 H1∧AA C (e::es) Γ L1 fun ds L2=>sp (.ptr Cl::ds) L2 Q (C.R Γ)) (fun v y H1 L1 r cc f ⟨hi,q⟩=>⟨L1,_,by subst hi;exact r.ptrE,cc,f,q⟩)).run pins s I) fun u s1 ⟨v,H1,I1,ry,L1,Z1,ev,c1,f1,q⟩=> ?_) ht
 subst ev
 obtain rfl:u=Value.ref Cl:=ry
 refine ClX.getmethcm_ok I1 r c fun s2 I2=> ?_
 refine ClX.callwith_cm I2 (ClX.base_none I1 (Nat.le_refl _)) c.fi (thn ((q _ σ H1 (ok.step c1 f1) (fun vs H2=> ∃ds L2 Z2,bG C.X.K Z2 H2 vs ds∧C.Con L2 Z2 H2∧Fr L1 Z1 H1 L2 Z2 H2∧sp (.ptr Cl::ds) L2 Q (C.R Γ)) (fun vs ds H2 L2 r cc f q=>⟨ds,L2,_,r,cc,f,q⟩)).run pos _ s2 I2) fun us s3 ⟨vs,H2,I3,rv,ds,L2,Z2,rd,c2,f2,q2⟩=>⟨⟨ClX.pin_at I3,I3.kIn⟩,?_⟩) hst hpl
 have z:=wpAny_call (PySem.W.method_call (ClX.pin_at I3) (qX (us:= .ref Cl::us) (vs:= .ref Cl::vs) F hr I3 (ok.step c2 (f1.trans f2)) (.cons rfl rv) (.cons (.ptr Cl) rd) q2 (go.after (f1.trans f2))))
 exact thn z fun _ _ y=>ClX.unpinE y
theorem ae_makeV (M:Mk C.X.K Cl g) (F:FnA C.X.prog C.X.w C.X.K C.X.mg C.X.base k g sp) (hr:Room (k+1) C.X.A) {z:Str} (h:AE C (.Name z p) Γ L fun y L1=>y= .ptr Cl∧AA C (e::es) Γ L1 fun ds L2=> ∀x,L2 x=none→sp (.ptr x::ds) (put L2 x (.ins Cl [])) (fun v L3=>v= .non∧Q (.ptr x) L3) (C.R Γ))
  (he:starEach (e::es) C.X.env=(false,eval e C.X.env)::starEach es C.X.env:=by rfl) (hpl:(backTo pos (starEach es C.X.env)).any (·.1)=false:=by rfl):AE C (.Call (.Name z p) (e::es) [] pos) Γ L Q:=fun Z σ H ok QV go=>by
 refine ⟨fun pins s I=> ?_⟩
 refine wpAny_Call_Name_kw (thn ((h _ σ H ok (fun v H1=> ∃L1 Z1,v= .ref Cl∧C.Con L1 Z1 H1∧Fr L Z H L1 Z1 H1∧AA C (e::es) Γ L1 fun ds L2=> ∀x,L2 x=none→sp (.ptr x::ds) (put L2 x (.ins Cl [])) (fun v L3=>v= .non∧Q (.ptr x) L3) (C.R Γ)) (fun v y H1 L1 r cc f ⟨hi,q⟩=>⟨L1,_,by subst hi;exact r.ptrE,cc,f,q⟩)).run pins s I) fun u s0 ⟨v,H0,I0,ry,L0,Z0,ev,c0,f0,q⟩=> ?_)
 subst ev
 obtain rfl:u=Value.ref Cl:=ry
 refine PySem.W.callWith_K (h₀:=C.X.base) I0.ok.mod.kin M.kp (thn ((q _ σ H0 (ok.step c0 f0) (fun vs H1=> ∃ds L1 Z1,bG C.X.K Z1 H1 vs ds∧C.Con L1 Z1 H1∧Fr L0 Z0 H0 L1 Z1 H1∧∀x,L1 x=none→sp (.ptr x::ds) (put L1 x (.ins Cl [])) (fun v L2=>v= .non∧Q (.ptr x) L2) (C.R Γ)) (fun vs ds H1 L1 r c f q=>⟨ds,L1,_,r,c,f,q⟩)).run pos pins s0 I0) fun us s1 ⟨vs,H1,I1,r,ds,L1,Z1,rd,c1,f1,q⟩=>⟨I1.kIn,?_⟩) he hpl
 exact run_makeA M F hr I1 (ok.step c1 (f0.trans f1)) r rd q (go.after (f0.trans f1))
theorem ae_invO (hs:PySem.W.findIn C.X.K (.ref Cl) "__invert__"=some (some (.ref g))) (hf:PySem.W.isFn C.X.K (.ref g)=true) (F:FnA C.X.prog C.X.w C.X.K C.X.mg C.X.base k g sp) (hr:Room k C.X.A) (h:AE C e Γ L fun y L1=>nH L1 y Cl∧sp [y] L1 Q (C.R Γ)):AE C (.UnaryOp .Invert e pos) Γ L Q:=fun Z σ H ok QV go=>⟨fun pins s I=>by
 refine UnaryOp_ (thn ((h _ σ H ok (fun v H1=> ∃y L1 Z1,Rep C.X.K Z1 H1 v y∧C.Con L1 Z1 H1∧Fr L Z H L1 Z1 H1∧nH L1 y Cl∧sp [y] L1 Q (C.R Γ)) (fun v y H1 L1 r cc f ⟨hi,q⟩=>⟨y,L1,_,r,cc,f,hi,q⟩)).run pins s I) fun u s1 ⟨v,H1,I1,ry,y,L1,Z1,rep,c1,f1,hi,q⟩=> ?_)
 obtain ⟨a,dx,ws,ea,st⟩:=hi.slt c1 rep
 subst ea
 obtain rfl:u=Value.ref a:=ry
 obtain ⟨sl,od,_,J,_⟩:=SlX.slt_inst I1 st
 obtain ⟨mm,hF⟩:=I1.fr
 exact PySem.W.ksp_inv hF I1.ok.mod.kin J hs hf (wpAny_call (qX (us:= [.ref a]) (vs:= [.ref a]) F hr I1 (ok.step c1 f1) (.cons rfl .nil) (.cons rep .nil) q (go.after f1)))⟩
open PySem.W in
theorem tupOp {P:Program} {w:World} {Ar:Around} {Er:Value→Shared→Prop} {s:Shared} {K:Frag} {a Cl Lc g:Addr} {h0:Heap} {mm:Str→Option Value} {oa:Obj} {da:Option Obj} {op:Operator} {b:Value} {rc:Option Value} {Qv:Value→Shared→Prop} (Fh:PyProof.Rows.Fr h0 Lc s.heap mm) (K0:K.In h0) (Ia:InstAt s.heap a oa Cl da)
  (tb:Looks (model P w) s.heap (typeOf b) (.type "tuple")) (cf:selfFirst K Cl=true) (mh:findIn K (.ref Cl) (PySem.dunder op.info.2)=some (some (.ref g))) (fg:isFn K (.ref g)=true) (rh:findIn K (.ref Cl) (dunderR op.info.2)=some rc) (rp:rc=none∨∃z:Addr,rc=some (.ref z))
  (t1:findIn K (.type "tuple") (PySem.dunder op.info.2)=some none) (t2:findIn K (.type "tuple") (dunderR op.info.2)=some none) (ts:subIn K (.type "tuple") (.ref Cl)=some false)
  (h:wpAny (model P w) Ar (call (.ref g) [.ref a,b]) (PySem.W.CmpBack Qv) Er s):wpAny (model P w) Ar (binaryOp op (.ref a) b) Qv Er s:=by
 have KS:=K0.keeps Fh.keep
 obtain ⟨cd,tl,e1,e2⟩:=ksp_first cf
 rcases ei:op.info with ⟨sy,n⟩
 rw [ei] at mh rh t1 t2
 dsimp only at mh rh t1 t2
 have run:=ksp_try KS Ia mh fg h
 obtain ⟨hh,gg,dd,tk,os⟩:=s
 have k1:Looks (model P w) hh (typeOf (.ref a)) (.ref Cl):=Ia.type
 have k2:Looks (model P w) hh (typeOf b) (.type "tuple"):=tb
 have k3:Looks (model P w) hh (fillsNumberSlot (.ref Cl) n) true:=fills_K KS e1 e2 mh
 have k4:Looks (model P w) hh (fillsNumberSlot (.type "tuple") n) false:=ksp_fillsT KS t1 t2
 have k5:Looks (model P w) hh (isSubtype (.type "tuple") (.ref Cl)) false:=looks_subIn KS ts
 have k6:Looks (model P w) hh (numberSlotInPython (.ref Cl) n) true:=ksp_inPy KS mh rh rp
 have k7:Looks (model P w) hh (numberSlotInPython (.type "tuple") n) false:=Looks.of_pure rfl
 have k8:Looks (model P w) hh (typeLookup (.type "tuple") (dunderR n)) none:=looks_findIn KS t2
 have ne:(Value.ref Cl==Value.type "tuple")=false:=Bool.eq_false_iff.mpr fun q=>by cases beq_iff_eq.mp q
 simp only [binaryOp,ei]
 refine wpAny_holding (wpAny_bind ?_)
 unfold binaryOp1
 refine wpAny_bind (k1.at (wpAny_bind (k2.at (wpAny_bind (k3.at ?_)))))
 simp only [ne,Bool.false_eq_true,if_false]
 ksp_lk
 refine wpAny_mono run (fun r s' ⟨v,er,hq⟩=> ?_) fun _ _ z=>z
 subst er
 ksp_lk
 exact hq
theorem j_binT {op:Operator} {ds:List D} {rc:Option Value} (hc:PySem.W.selfFirst C.X.K Cl=true) (hs:PySem.W.findIn C.X.K (.ref Cl) (PySem.dunder op.info.2)=some (some (.ref g))) (hf:PySem.W.isFn C.X.K (.ref g)=true) (rh:PySem.W.findIn C.X.K (.ref Cl) (dunderR op.info.2)=some rc) (rp:rc=none∨∃z:Addr,rc=some (.ref z))
  (t1:PySem.W.findIn C.X.K (.type "tuple") (PySem.dunder op.info.2)=some none) (t2:PySem.W.findIn C.X.K (.type "tuple") (dunderR op.info.2)=some none) (ts:PySem.W.subIn C.X.K (.type "tuple") (.ref Cl)=some false)
  (F:FnA C.X.prog C.X.w C.X.K C.X.mg C.X.base k g sp) (hr:Room k C.X.A) (ix:nH L x Cl) (q:sp [x,.tup ds] L Q (C.R Γ)):OpJ C (.bin op) Γ x (.tup ds) L Q:=⟨fun Z σ H ok vx vy rx ry QV go pins s v u I r1 r2=>by
 obtain ⟨a,dx,vs,rfl,st⟩:=ix.slt ok.con rx
 obtain ⟨b,ws,rfl,hb,_⟩:=ry.tupE
 cases (show v=Value.ref a from r1)
 cases (show u=Value.ref b from r2)
 obtain ⟨sl,od,_,J,_⟩:=SlX.slt_inst I st
 obtain ⟨mm,hF⟩:=I.fr
 obtain ⟨its,rv,⟨o,ho,hcl,_⟩,_⟩:=I.tuple (SqT.of hb)
 refine tupOp hF I.ok.mod.kin J (fun Ar Qt Et st kk qq=>wpAny_typeOf_ref (kk _ _ ho) (by rw [hcl];exact qq)) hc hs hf rh rp t1 t2 ts ?_
 refine wpAny_mono (wpAny_call (qX (us:= [.ref a,.ref b]) (vs:= [.ref a,.ref b]) F hr I ok (.cons rfl (.cons rfl .nil)) (.cons rx (.cons ry .nil)) q go)) (fun w s' z=> ?_) fun _ _ x=>x
 obtain ⟨z',H',I',rz,qz⟩:=z
 exact SlX.cmpback rz ⟨z',H',I',rz,qz⟩⟩
end
end DL
namespace DL
open PySem PySem.Spec PyProof.Rows L2
def wrt (rs:Rl) (cs:List Cell) (a:Nat):List Cell:=if aAS rs cs a=0 then [cs.getD a []] else (lk rs (kAt rs cs a)).getD []
def one (ws:List Wd):List Cell:=ws.map fun w=> [w]
end DL
namespace DL
open PySem PySem.Spec PyProof.Rows L2
def wait (rs:Rl) (cs:List Cell) (a:Nat):Bool:=decide (cs.length - a < 3) && match wAt cs a (cs.length - a) with | some ws=>rs.any fun r=>decide (cs.length - a < r.1.length) && decide (r.1.take (cs.length - a)=ws) | none=>false
def goes (w:Bool) (rs:Rl) (cs:List Cell) (a:Nat):Bool:=decide (a < cs.length) && (w || !wait rs cs a)
def rwG (w:Bool) (rs:Rl) (cs:List Cell):Nat→Nat→List Cell×Nat
 | 0,a=>([],a)
 | n+1,a=>if goes w rs cs a then (wrt rs cs a++(rwG w rs cs n (a+max 1 (aAS rs cs a))).1,(rwG w rs cs n (a+max 1 (aAS rs cs a))).2) else ([],a)
def rw2 (w:Bool) (rs:Rl) (cs:List Cell):List Cell×List Cell:=((rwG w rs cs cs.length 0).1,cs.drop (rwG w rs cs cs.length 0).2)
end DL
namespace DL
open PySem PySem.Spec PyProof.Rows L2
def thrS (wh:Bool) (acc:List (List Wd)×List Cell) (q:Rl×List Wd):List (List Wd)×List Cell:=(acc.1++ [(rw2 wh q.1 (one q.2++acc.2)).2.map hd0],(rw2 wh q.1 (one q.2++acc.2)).1)
def thr (wh:Bool) (qs:List (Rl×List Wd)) (cs:List Cell):List (List Wd)×List Cell:=qs.foldl (thrS wh) ([],cs)
end DL
namespace DL
abbrev rP:=Bool×List Nat×Nat
abbrev Rws:=List rP
def rowAt (rows:Rws) (s:Nat):rP:=rows.getD s (false,[],0)
def gl (r:rP):Option Nat→Nat
 | none=>r.2.2
 | some c=>r.2.1.getD c 0
structure MOk (n:Nat) (rows:Rws):Prop where
 len:∀r∈rows,r.2.1.length=n
 go:∀r∈rows,∀g∈r.2.1,g < rows.length
 oth:∀r∈rows,r.2.2 < rows.length
theorem gJ {rows:Rws} {s:Nat} (h:s < rows.length):rows[s]? =some (rowAt rows s):=by
 unfold rowAt
 rw [List.getD_eq_getElem?_getD,List.getElem?_eq_getElem h]
 rfl
theorem cD {rows:Rws} {s:Nat} (h:s < rows.length):rowAt rows s∈rows:=List.mem_of_getElem? (gJ h)
theorem MOk.gl {n:Nat} {rows:Rws} (h:MOk n rows) {s:Nat} (hs:s < rows.length) (c:Option Nat) (hc:∀k,c=some k→k < n):DL.gl (rowAt rows s) c < rows.length:=by
 have hm:=cD hs
 cases c with
 | none=>exact h.oth _ hm
 | some k=>
  refine h.go _ hm _ ?_
  have hk:k < (rowAt rows s).2.1.length:=by rw [h.len _ hm];exact hc k rfl
  show (rowAt rows s).2.1.getD k 0∈_
  rw [List.getD_eq_getElem?_getD,List.getElem?_eq_getElem hk]
  exact List.getElem_mem hk
def gQ {α:Type} [DecidableEq α] (o:List α) (g:α):List α:=if g∈o then o else o++ [g]
def ddp {α:Type} [DecidableEq α] (xs:List α):List α:=xs.foldl gQ []
theorem addO_nodup {α:Type} [DecidableEq α] {o:List α} {g:α} (h:o.Nodup):(gQ o g).Nodup:=by
 unfold gQ
 split
 ·exact h
 ·rename_i hg
  exact List.nodup_append.mpr ⟨h,by simp,fun a ha b hb e=>hg (by rw [List.mem_singleton.mp hb] at e;rw [←e];exact ha)⟩
theorem mD {α:Type} [DecidableEq α] {o:List α} {g x:α}:x∈gQ o g↔x∈o∨x=g:=by
 unfold gQ
 split
 ·rename_i hg
  exact ⟨.inl,fun h=>h.elim id fun e=>e ▸hg⟩
 ·simp
theorem addO_pre {α:Type} [DecidableEq α] (o:List α) (g:α):∃t,gQ o g=o++t:=by
 unfold gQ
 split
 ·exact ⟨[],by simp⟩
 ·exact ⟨[g],rfl⟩
theorem lX {α:Type} [DecidableEq α]:∀(xs o:List α),o.Nodup→(xs.foldl gQ o).Nodup
 | [],_,h=>h
 | x::xs,o,h=>lX xs _ (addO_nodup h)
theorem kE {α:Type} [DecidableEq α]:∀(xs o:List α) {x:α},x∈xs.foldl gQ o↔x∈o∨x∈xs
 | [],o,x=>by simp
 | y::xs,o,x=>by
  rw [List.foldl_cons,kE xs,mD,List.mem_cons,or_assoc]
theorem iZ {α:Type} [DecidableEq α]:∀(xs o:List α),∃t,xs.foldl gQ o=o++t
 | [],o=>⟨[],by simp⟩
 | x::xs,o=>by
  obtain ⟨t,h⟩:=addO_pre o x
  obtain ⟨u,h2⟩:=iZ xs (gQ o x)
  exact ⟨t++u,by rw [List.foldl_cons,h2,h,List.append_assoc]⟩
theorem dU {α:Type} [DecidableEq α] (xs:List α):(ddp xs).Nodup:=lX xs [] .nil
theorem bW {α:Type} [DecidableEq α] {xs:List α} {x:α}:x∈ddp xs↔x∈xs:=by
 unfold ddp
 rw [kE]
 simp
theorem qJ {α:Type} [DecidableEq α] (xs:List α) (x:α):ddp (xs++ [x])=gQ (ddp xs) x:=by
 unfold ddp
 rw [List.foldl_append]
 rfl
theorem jZ {α:Type} [DecidableEq α] {xs:List α} {x:α} (h:x∈xs):xs[xs.idxOf x]? =some x:=by
 have:=List.idxOf_lt_length_iff.mpr h
 rw [List.getElem?_eq_getElem this,List.getElem_idxOf]
theorem gG {α:Type} [DecidableEq α] {xs:List α} (hn:xs.Nodup) {i:Nat} {x:α} (h:xs[i]? =some x):xs.idxOf x=i:=by
 obtain ⟨hi,e⟩:=List.getElem?_eq_some_iff.mp h
 rw [←e]
 exact hn.idxOf_getElem i hi
theorem idx_inj {α:Type} [DecidableEq α] {xs:List α} {x y:α} (hx:x∈xs) (hy:y∈xs) (h:xs.idxOf x=xs.idxOf y):x=y:=by
 have:=jZ hx
 rw [h,jZ hy] at this
 exact (Option.some.inj this).symm
theorem rF {α:Type} [DecidableEq α] {xs ys:List α} {x:α} (h:x∈xs):(xs++ys).idxOf x=xs.idxOf x:=by
 rw [List.idxOf_append,if_pos h]
def cG (cols:List Nat):List (Option Nat):=cols.map some++ [none]
def uU (cols:List Nat) (r:rP) (o:List Nat):List Nat:=((cG cols).map (gl r)).foldl gQ o
def xF (cols:List Nat) (rows:Rws):Nat→Nat→List Nat→List Nat
 | 0,_,o=>o
 | n+1,k,o=>match o[k]? with
  | none=>o
  | some s=>xF cols rows n (k+1) (uU cols (rowAt rows s) o)
def orderOf (cols:List Nat) (rows:Rws) (first:Nat):List Nat:=xF cols rows (rows.length+1) 0 [first]
def qY (cols:List Nat) (o:List Nat) (r:rP):rP:=(r.1,cols.map fun c=>o.idxOf (gl r (some c)),o.idxOf r.2.2)
def bD (cols:List Nat) (rows:Rws) (first:Nat):Rws:=(orderOf cols rows first).map fun s=>qY cols (orderOf cols rows first) (rowAt rows s)
theorem dZ:∀{n:Nat} {xs:List Nat},xs.Nodup→(∀x∈xs,x < n)→xs.length≤n
 | 0,[],_,_=>Nat.le_refl _
 | 0,x::_,_,h=>absurd (h x List.mem_cons_self) (Nat.not_lt_zero _)
 | n+1,xs,hn,h=>by
  by_cases hm:n∈xs
  ·have h1:(xs.erase n).length≤n:=dZ (hn.erase n) fun x hx=>by
    have h2:=h x (List.mem_of_mem_erase hx)
    have h3:x≠n:=fun e=>by rw [e,hn.mem_erase_iff] at hx;exact hx.1 rfl
    omega
   rw [List.length_erase_of_mem hm] at h1
   omega
  ·exact Nat.le_succ_of_le (dZ hn fun x hx=>by
    have h2:=h x hx
    have h3:x≠n:=fun e=>hm (e ▸hx)
    omega)
structure OrdI (cols:List Nat) (rows:Rws) (first k:Nat) (o:List Nat):Prop where
 nd:o.Nodup
 lt:∀s∈o,s < rows.length
 zero:o[0]? =some first
 kl:k≤o.length
 cl:∀(i s:Nat),i < k→o[i]? =some s→∀c∈cG cols,gl (rowAt rows s) c∈o
section
variable {n:Nat} {cols:List Nat} {rows:Rws} {first k:Nat} {o:List Nat}
theorem uI (hc:∀c∈cols,c < n) {c:Option Nat} (h:c∈cG cols):∀k,c=some k→k < n:=fun k e=>by
 subst e
 unfold cG at h
 rcases List.mem_append.mp h with h | h
 ·obtain ⟨x,hx,e⟩:=List.mem_map.mp h
  cases e
  exact hc _ hx
 ·simp at h
theorem rA (hM:MOk n rows) (hc:∀c∈cols,c < n) (h:OrdI cols rows first k o) {s:Nat} (hs:o[k]? =some s):OrdI cols rows first (k+1) (uU cols (rowAt rows s) o):=by
 obtain ⟨t,ht⟩:=iZ ((cG cols).map (gl (rowAt rows s))) o
 have hsl:=h.lt s (List.mem_of_getElem? hs)
 have hkl:=(List.getElem?_eq_some_iff.mp hs).1
 have up:∀x,x∈o→x∈uU cols (rowAt rows s) o:=fun x hx=>by unfold uU;rw [kE];exact .inl hx
 refine ⟨lX _ _ h.nd,fun x hx=> ?_,?_,?_,fun i u hi hu c hcc=> ?_⟩
 ·unfold uU at hx
  rw [kE] at hx
  rcases hx with hx | hx
  ·exact h.lt x hx
  ·obtain ⟨c,hcc,rfl⟩:=List.mem_map.mp hx
   exact hM.gl hsl c (uI hc hcc)
 ·unfold uU
  rw [ht,List.getElem?_append_left (by omega)]
  exact h.zero
 ·unfold uU
  rw [ht,List.length_append]
  omega
 ·have hio:i < o.length:=by omega
  unfold uU at hu
  rw [ht,List.getElem?_append_left hio] at hu
  by_cases e:i=k
  ·subst e
   rw [hs] at hu
   cases hu
   unfold uU
   rw [kE]
   exact .inr (List.mem_map_of_mem hcc)
  ·exact up _ (h.cl i u (by omega) hu c hcc)
theorem ordW_end (hM:MOk n rows) (hc:∀c∈cols,c < n):∀(m k:Nat) (o:List Nat),OrdI cols rows first k o→rows.length < k+m→OrdI cols rows first (xF cols rows m k o).length (xF cols rows m k o)
 | 0,k,o,h,hm=>by
  have:=dZ h.nd h.lt
  have:=h.kl
  omega
 | m+1,k,o,h,hm=>by
  unfold xF
  cases e:o[k]? with
  | none=>
   have hk:=List.getElem?_eq_none_iff.mp e
   have:k=o.length:=Nat.le_antisymm h.kl hk
   rw [←this]
   exact h
  | some s=>exact ordW_end hM hc m (k+1) _ (rA hM hc h e) (by omega)
theorem jX (hM:MOk n rows) (hc:∀c∈cols,c < n) (hf:first < rows.length):OrdI cols rows first (orderOf cols rows first).length (orderOf cols rows first):=
 ordW_end hM hc _ 0 [first] ⟨by simp,fun s hs=>by rw [List.mem_singleton.mp hs];exact hf,rfl,Nat.zero_le _,fun i s hi=>absurd hi (Nat.not_lt_zero _)⟩ (by omega)
end
def fG (rows:Rws) (s:Nat) (c:Option Nat):Nat:=gl (rowAt rows s) c
def eX {W:Type} [DecidableEq W] (words:List W) (w:W):Option Nat:=if w∈words then some (words.idxOf w) else none
def nJ {W:Type} [DecidableEq W] (words:List W) (rows:Rws):Nat→List W→Nat
 | s,[]=>s
 | s,w::t=>nJ words rows (fG rows s (eX words w)) t
def fB {W:Type} [DecidableEq W] (words:List W) (rows:Rws) (s:Nat) (t:List W):Bool:=(rowAt rows (nJ words rows s t)).1
theorem cY {W:Type} [DecidableEq W] {words:List W} {w:W}:∀k,eX words w=some k→k < words.length:=fun k e=>by
 unfold eX at e
 split at e
 ·cases e
  exact List.idxOf_lt_length_iff.mpr (by assumption)
 ·cases e
theorem rO {W:Type} [DecidableEq W] {ws vs:List W} {rows qows:Rws} (R:Nat→Nat→Prop) (h1:∀i j,R i j→(rowAt rows i).1=(rowAt qows j).1) (h2:∀i j w,R i j→R (fG rows i (eX ws w)) (fG qows j (eX vs w))):∀(t:List W) (i j:Nat),R i j→fB ws rows i t=fB vs qows j t
 | [],i,j,h=>h1 i j h
 | w::t,i,j,h=>rO R h1 h2 t _ _ (h2 i j w h)
end DL
namespace DL
theorem cU {α:Type} [DecidableEq α]:∀{xs ys:List α},xs.Nodup→(∀x∈xs,x∈ys)→xs.length≤ys.length
 | [],_,_,_=>Nat.zero_le _
 | x::xs,ys,hn,h=>by
  obtain ⟨n1,n2⟩:=List.nodup_cons.mp hn
  have hx:=h x List.mem_cons_self
  have:=cU (xs:=xs) (ys:=ys.erase x) n2 fun y hy=>(List.mem_erase_of_ne (fun e=>n1 (e ▸hy):y≠x)).mpr (h y (List.mem_cons_of_mem _ hy))
  rw [List.length_erase_of_mem hx] at this
  have:0 < ys.length:=List.length_pos_of_mem hx
  rw [List.length_cons]
  omega
def num {α:Type} [DecidableEq α] (xs:List α):List Nat:=xs.map fun x=>(ddp xs).idxOf x
section
variable {α β:Type} [DecidableEq α] [DecidableEq β]
theorem fold_map {f:α→β}:∀(xs o:List α),(∀x∈o++xs,∀y∈o++xs,f x=f y→x=y)→(xs.map f).foldl gQ (o.map f)=(xs.foldl gQ o).map f
 | [],o,_=>rfl
 | x::xs,o,h=>by
  have e:gQ (o.map f) (f x)=(gQ o x).map f:=by
   unfold gQ
   by_cases hx:x∈o
   ·rw [if_pos hx,if_pos (List.mem_map_of_mem hx)]
   ·rw [if_neg hx,if_neg (fun z=>by
     obtain ⟨y,hy,e⟩:=List.mem_map.mp z
     exact hx ((h y (List.mem_append_left _ hy) x (List.mem_append_right _ List.mem_cons_self) e) ▸hy)),List.map_append]
    rfl
  rw [List.map_cons,List.foldl_cons,List.foldl_cons,e]
  refine fold_map xs (gQ o x) fun a ha b hb=>h a ?_ b ?_
  ·rcases List.mem_append.mp ha with ha | ha
   ·rcases mD.mp ha with ha | rfl
    ·exact List.mem_append_left _ ha
    ·exact List.mem_append_right _ List.mem_cons_self
   ·exact List.mem_append_right _ (List.mem_cons_of_mem _ ha)
  ·rcases List.mem_append.mp hb with ha | ha
   ·rcases mD.mp ha with ha | rfl
    ·exact List.mem_append_left _ ha
    ·exact List.mem_append_right _ List.mem_cons_self
   ·exact List.mem_append_right _ (List.mem_cons_of_mem _ ha)
theorem ddp_map {f:α→β} {xs:List α} (h:∀x∈xs,∀y∈xs,f x=f y→x=y):ddp (xs.map f)=(ddp xs).map f:=fold_map xs [] h
theorem idx_map {f:α→β} {l:List α} (hn:(l.map f).Nodup) {x:α} (hx:x∈l):(l.map f).idxOf (f x)=l.idxOf x:=
 gG hn (by rw [List.getElem?_map,jZ hx];rfl)
theorem num_map {f:α→β} {xs:List α} (h:∀x∈xs,∀y∈xs,f x=f y→x=y):num (xs.map f)=num xs:=by
 unfold num
 rw [List.map_map]
 refine List.map_congr_left fun x hx=> ?_
 show (ddp (xs.map f)).idxOf (f x)=_
 have hn:=dU (xs.map f)
 rw [ddp_map h] at hn ⊢
 exact idx_map hn (bW.mpr hx)
theorem wA (xs:List α):(num xs).length=xs.length:=List.length_map ..
theorem num_inj {xs:List α} {x y:α} (hx:x∈xs) (hy:y∈xs) (h:(ddp xs).idxOf x=(ddp xs).idxOf y):x=y:=idx_inj (bW.mpr hx) (bW.mpr hy) h
theorem ddp_num (xs:List α):ddp (num xs)=List.range (ddp xs).length:=by
 unfold num
 rw [ddp_map fun x hx y hy h=>num_inj hx hy h]
 refine List.ext_getElem? fun i=> ?_
 rw [List.getElem?_map]
 by_cases hi:i < (ddp xs).length
 ·rw [List.getElem?_eq_getElem hi,List.getElem?_range hi]
  show some ((ddp xs).idxOf (ddp xs)[i])=_
  rw [(dU xs).idxOf_getElem i hi]
 ·rw [List.getElem?_eq_none (by omega),List.getElem?_eq_none (by simp;omega)]
  rfl
theorem num_num (xs:List α):num (num xs)=num xs:=num_map fun x hx y hy h=>num_inj hx hy h
theorem num_lt {xs:List α} {i:Nat} (h:i∈num xs):i < (ddp xs).length:=by
 obtain ⟨x,hx,rfl⟩:=List.mem_map.mp h
 exact List.idxOf_lt_length_iff.mpr (bW.mpr hx)
theorem refine_le {f:α→β} (ys:List α):(ddp (ys.map f)).length≤(ddp ys).length:=by
 have:=cU (dU (ys.map f)) (ys:=(ddp ys).map f) fun x hx=>by
  obtain ⟨y,hy,rfl⟩:=List.mem_map.mp (bW.mp hx)
  exact List.mem_map_of_mem (bW.mpr hy)
 rw [List.length_map] at this
 exact this
theorem refine_inj {f:α→β} {ys:List α} (h:(ddp ys).length≤(ddp (ys.map f)).length):∀x∈ys,∀y∈ys,f x=f y→x=y:=fun x hx y hy e=>by
 by_cases hxy:x=y
 ·exact hxy
 ·have:=cU (dU (ys.map f)) (ys:=((ddp ys).erase y).map f) fun z hz=>by
   obtain ⟨u,hu,rfl⟩:=List.mem_map.mp (bW.mp hz)
   by_cases huy:u=y
   ·rw [huy,←e]
    exact List.mem_map_of_mem ((List.mem_erase_of_ne hxy).mpr (bW.mpr hx))
   ·exact List.mem_map_of_mem ((List.mem_erase_of_ne huy).mpr (bW.mpr hu))
  rw [List.length_map,List.length_erase_of_mem (bW.mpr hy)] at this
  have:=List.length_pos_of_mem (bW.mpr hy)
  omega
end
abbrev Sgn:=Bool×Nat×List Nat×Nat
def sg (bl:List Nat) (r:rP) (b:Nat):Sgn:=(r.1,b,r.2.1.map (fun g=>bl.getD g 0),bl.getD r.2.2 0)
def signs (bl:List Nat) (rows:Rws):List Sgn:=(rows.zip bl).map fun q=>sg bl q.1 q.2
def aAb (rows:Rws):Nat→List Nat→Nat→List Nat
 | 0,bl,_=>bl
 | n+1,bl,cnt=>if (ddp (signs bl rows)).length=cnt then num (signs bl rows) else aAb rows n (num (signs bl rows)) (ddp (signs bl rows)).length
def cZ (rows:Rws):List Nat:=aAb rows (rows.length+1) (rows.map fun _=>0) 0
theorem qT {bl:List Nat} {rows:Rws} (h:bl.length=rows.length):(signs bl rows).length=rows.length:=by
 unfold signs
 rw [List.length_map,List.length_zip,h]
 omega
theorem sgs_snd {bl:List Nat} {rows:Rws} (h:bl.length=rows.length):(signs bl rows).map (·.2.1)=bl:=by
 unfold signs
 rw [List.map_map]
 show (rows.zip bl).map (fun q=>q.2)=bl
 exact List.map_snd_zip (by omega)
theorem qU {bl:List Nat} {rows:Rws} (h:bl.length=rows.length) {i:Nat} (hi:i < rows.length):(signs bl rows)[i]? =some (sg bl (rowAt rows i) (bl.getD i 0)):=by
 unfold signs
 rw [List.getElem?_map]
 have e:(rows.zip bl)[i]? =some (rowAt rows i,bl.getD i 0):=by
  rw [List.getElem?_zip_eq_some]
  refine ⟨gJ hi,?_⟩
  rw [List.getD_eq_getElem?_getD,List.getElem?_eq_getElem (by omega:i < bl.length)]
  rfl
 rw [e]
 rfl
structure Stab (rows:Rws) (bl:List Nat):Prop where
 len:bl.length=rows.length
 can:num bl=bl
 sig:∀i j,i < rows.length→j < rows.length→bl.getD i 0=bl.getD j 0→sg bl (rowAt rows i) (bl.getD i 0)=sg bl (rowAt rows j) (bl.getD j 0)
structure Way (rows:Rws) (bl:List Nat) (cnt:Nat):Prop where
 len:bl.length=rows.length
 can:0 < cnt→num bl=bl∧(ddp bl).length=cnt
theorem signs_step {rows:Rws} {bl:List Nat} (h:bl.length=rows.length):Way rows (num (signs bl rows)) (ddp (signs bl rows)).length:=
 ⟨by rw [wA,qT h],fun _=>⟨num_num _,by rw [ddp_num,List.length_range]⟩⟩
theorem signs_end {rows:Rws} {bl:List Nat} {cnt:Nat} (hne:rows≠ []) (w:Way rows bl cnt) (h:(ddp (signs bl rows)).length=cnt):num (signs bl rows)=bl∧Stab rows bl:=by
 have hl:=List.length_pos_iff.mpr hne
 have h0:0 < cnt:=by
  rw [←h]
  have:0 < (signs bl rows).length:=by rw [qT w.len];exact hl
  obtain ⟨x,hx⟩:=List.exists_mem_of_length_pos this
  exact List.length_pos_of_mem (bW.mpr hx)
 obtain ⟨c1,c2⟩:=w.can h0
 have hs:=sgs_snd w.len
 have hinj:∀x∈signs bl rows,∀y∈signs bl rows,x.2.1=y.2.1→x=y:=refine_inj (f:=fun x:Sgn=>x.2.1) (by rw [hs,c2,h];exact Nat.le_refl _)
 have e:num (signs bl rows)=bl:=by rw [←num_map (f:=fun x:Sgn=>x.2.1) hinj,hs,c1]
 exact ⟨e,⟨w.len,c1,fun i j hi hj hij=>hinj _ (List.mem_of_getElem? (qU w.len hi)) _ (List.mem_of_getElem? (qU w.len hj)) hij⟩⟩
theorem oW {rows:Rws} {bl:List Nat} {cnt:Nat} (w:Way rows bl cnt):cnt≤(ddp (signs bl rows)).length:=by
 by_cases h0:0 < cnt
 ·obtain ⟨c1,c2⟩:=w.can h0
  have:=refine_le (f:=fun x:Sgn=>x.2.1) (signs bl rows)
  rw [sgs_snd w.len,c2] at this
  exact this
 ·omega
theorem signs_le {rows:Rws} {bl:List Nat} (h:bl.length=rows.length):(ddp (signs bl rows)).length≤rows.length:=by
 rw [←qT h]
 exact cU (dU _) fun x hx=>bW.mp hx
theorem blkW_ok {rows:Rws} (hne:rows≠ []):∀(n:Nat) (bl:List Nat) (cnt:Nat),Way rows bl cnt→rows.length < cnt+n→Stab rows (aAb rows n bl cnt)
 | 0,bl,cnt,w,h=>by
  have:=oW w
  have:=signs_le w.len
  omega
 | n+1,bl,cnt,w,h=>by
  unfold aAb
  by_cases e:(ddp (signs bl rows)).length=cnt
  ·rw [if_pos e]
   obtain ⟨e1,e2⟩:=signs_end hne w e
   rw [e1]
   exact e2
  ·rw [if_neg e]
   have:=oW w
   exact blkW_ok hne n _ _ (signs_step w.len) (by omega)
theorem way0 (rows:Rws):Way rows (rows.map fun _=>0) 0:=⟨List.length_map ..,fun h=>absurd h (Nat.lt_irrefl _)⟩
theorem oA {rows:Rws} (hne:rows≠ []):Stab rows (cZ rows):=blkW_ok hne _ _ _ (way0 rows) (by omega)
def iT (bl:List Nat) (r:rP):rP:=(r.1,r.2.1.map (fun g=>bl.getD g 0),bl.getD r.2.2 0)
def pH (bl:List Nat) (acc:Rws) (q:rP×Nat):Rws:=if q.2=acc.length then acc++ [iT bl q.1] else acc
def kJ (rows:Rws) (bl:List Nat):Rws:=(rows.zip bl).foldl (pH bl) []
structure FoldI (rows:Rws) (bl:List Nat) (i:Nat) (acc:Rws):Prop where
 len:acc.length=(ddp (bl.take i)).length
 row:∀b,b < acc.length→∃s,s < i∧bl[s]? =some b∧acc[b]? =some (iT bl (rowAt rows s))
theorem can_take {bl:List Nat} (h:num bl=bl) {i b:Nat} (hb:bl[i]? =some b):b≤(ddp (bl.take i)).length∧(b < (ddp (bl.take i)).length→b∈bl.take i)∧(b=(ddp (bl.take i)).length→b∉bl.take i):=by
 have hi:=(List.getElem?_eq_some_iff.mp hb).1
 obtain ⟨t,ht⟩:=iZ (bl.drop i) (ddp (bl.take i))
 have e:ddp bl=ddp (bl.take i)++t:=by
  rw [←ht]
  unfold ddp
  rw [←List.foldl_append,List.take_append_drop]
 have hbi:(ddp bl).idxOf b=b:=by
  have h2:(num bl)[i]? =some ((ddp bl).idxOf b):=by
   unfold num
   rw [List.getElem?_map,hb]
   rfl
  rw [h,hb] at h2
  exact (Option.some.inj h2).symm
 have hmem:∀x,x∈bl.take i↔x∈ddp (bl.take i):=fun x=>bW.symm
 have hin:b∈bl.take i∨b∉bl.take i:=Decidable.em _
 rcases hin with hin | hin
 ·have h1:b < (ddp (bl.take i)).length:=by
   rw [←hbi,e,rF ((hmem b).mp hin)]
   exact List.idxOf_lt_length_iff.mpr ((hmem b).mp hin)
  exact ⟨by omega,fun _=>hin,fun z=>by omega⟩
 ·have h1:b=(ddp (bl.take i)).length:=by
   have h2:ddp (bl.take (i+1))=ddp (bl.take i)++ [b]:=by
    rw [List.take_add_one,hb]
    show ddp (_++ [b])=_
    rw [qJ]
    unfold gQ
    rw [if_neg (fun z=>hin ((hmem b).mpr z))]
   obtain ⟨t2,ht2⟩:=iZ (bl.drop (i+1)) (ddp (bl.take (i+1)))
   have e2:ddp bl=ddp (bl.take (i+1))++t2:=by
    rw [←ht2]
    unfold ddp
    rw [←List.foldl_append,List.take_append_drop]
   have h3:(ddp bl)[(ddp (bl.take i)).length]? =some b:=by
    rw [e2,h2,List.append_assoc,List.getElem?_append_right (Nat.le_refl _),Nat.sub_self]
    rfl
   rw [←hbi]
   exact gG (dU bl) h3
  exact ⟨by omega,fun z=>by omega,fun _=>hin⟩
theorem foldI_step {rows:Rws} {bl:List Nat} (hl:bl.length=rows.length) (h:num bl=bl) {i:Nat} {acc:Rws} (F:FoldI rows bl i acc) (hi:i < rows.length):FoldI rows bl (i+1) (pH bl acc (rowAt rows i,bl.getD i 0)):=by
 have hib:i < bl.length:=by omega
 have hb:bl[i]? =some (bl.getD i 0):=by rw [List.getD_eq_getElem?_getD,List.getElem?_eq_getElem hib];rfl
 obtain ⟨h1,h2,h3⟩:=can_take h hb
 generalize bl.getD i 0=b at hb h1 h2 h3
 have ed:ddp (bl.take (i+1))=gQ (ddp (bl.take i)) b:=by
  rw [List.take_add_one,hb]
  exact qJ _ _
 unfold pH
 show FoldI _ _ _ (if b=acc.length then _ else _)
 by_cases e:b=acc.length
 ·rw [if_pos e]
  have hn:=h3 (by rw [e,F.len])
  refine ⟨?_,fun c hc=> ?_⟩
  ·rw [List.length_append,ed]
   unfold gQ
   rw [if_neg (fun z=>hn (bW.mp z)),List.length_append,F.len]
   rfl
  ·rw [List.length_append,List.length_singleton] at hc
   by_cases hca:c < acc.length
   ·obtain ⟨s,k1,k2,k3⟩:=F.row c hca
    exact ⟨s,by omega,k2,by rw [List.getElem?_append_left hca];exact k3⟩
   ·have:c=acc.length:=by omega
    subst this
    refine ⟨i,by omega,by rw [hb,e],?_⟩
    rw [List.getElem?_append_right (Nat.le_refl _),Nat.sub_self]
    rfl
 ·rw [if_neg e]
  have hin:=h2 (by rw [F.len] at e;omega)
  refine ⟨?_,fun c hc=> ?_⟩
  ·rw [ed]
   unfold gQ
   rw [if_pos (bW.mpr hin),F.len]
  ·obtain ⟨s,k1,k2,k3⟩:=F.row c hc
   exact ⟨s,by omega,k2,k3⟩
theorem zip_get {rows:Rws} {bl:List Nat} (hl:bl.length=rows.length) {i:Nat} (hi:i < rows.length):(rows.zip bl)[i]? =some (rowAt rows i,bl.getD i 0):=by
 rw [List.getElem?_zip_eq_some]
 exact ⟨gJ hi,by rw [List.getD_eq_getElem?_getD,List.getElem?_eq_getElem (by omega:i < bl.length)];rfl⟩
theorem pG {rows:Rws} {bl:List Nat} (hl:bl.length=rows.length) (h:num bl=bl):∀i,i≤rows.length→FoldI rows bl i (((rows.zip bl).take i).foldl (pH bl) [])
 | 0,_=>⟨rfl,fun b hb=>absurd hb (Nat.not_lt_zero _)⟩
 | i+1,hi=>by
  rw [List.take_add_one,zip_get hl (by omega),List.foldl_append]
  exact foldI_step hl h (pG hl h i (by omega)) (by omega)
theorem lY {rows:Rws} {bl:List Nat} (hl:bl.length=rows.length) (h:num bl=bl):FoldI rows bl rows.length (kJ rows bl):=by
 have:=pG hl h rows.length (Nat.le_refl _)
 rw [List.take_of_length_le (by rw [List.length_zip];omega)] at this
 exact this
end DL
namespace DL
section
variable {n:Nat} {cols:List Nat} {rows:Rws} {first:Nat}
theorem getD_some {α:Type} {xs:List α} {i:Nat} {x d:α} (h:xs[i]? =some x):xs.getD i d=x:=by
 rw [List.getD_eq_getElem?_getD,h]
 rfl
theorem lL:(bD cols rows first).length=(orderOf cols rows first).length:=List.length_map ..
theorem nR {i s:Nat} (h:(orderOf cols rows first)[i]? =some s):rowAt (bD cols rows first) i=qY cols (orderOf cols rows first) (rowAt rows s):=by
 unfold rowAt bD
 exact getD_some (by rw [List.getElem?_map,h];rfl)
theorem tK (hM:MOk n rows) (hc:∀c∈cols,c < n) (hf:first < rows.length) {i s:Nat} (h:(orderOf cols rows first)[i]? =some s):
  (orderOf cols rows first)[gl (rowAt (bD cols rows first) i) none]? =some (gl (rowAt rows s) none)∧∀(j c:Nat),cols[j]? =some c→(orderOf cols rows first)[gl (rowAt (bD cols rows first) i) (some j)]? =some (gl (rowAt rows s) (some c)):=by
 have O:=jX hM hc hf
 have hi:=(List.getElem?_eq_some_iff.mp h).1
 rw [nR h]
 have cl:=O.cl i s hi h
 refine ⟨jZ (cl none (List.mem_append_right _ List.mem_cons_self)),fun j c hj=> ?_⟩
 have e:gl (qY cols (orderOf cols rows first) (rowAt rows s)) (some j)=(orderOf cols rows first).idxOf (gl (rowAt rows s) (some c)):=by
  show (cols.map fun c=>_).getD j 0=_
  exact getD_some (by rw [List.getElem?_map,hj];rfl)
 rw [e]
 exact jZ (cl (some c) (List.mem_append_left _ (List.mem_map_of_mem (List.mem_of_getElem? hj))))
theorem jW (hM:MOk n rows) (hc:∀c∈cols,c < n) (hf:first < rows.length):MOk cols.length (bD cols rows first)∧0 < (bD cols rows first).length∧(bD cols rows first).length≤rows.length:=by
 have O:=jX hM hc hf
 have h0:=(List.getElem?_eq_some_iff.mp O.zero).1
 refine ⟨⟨fun r hr=> ?_,fun r hr g hg=> ?_,fun r hr=> ?_⟩,by rw [lL];exact h0,by rw [lL];exact dZ O.nd O.lt⟩
 ·obtain ⟨s,_,rfl⟩:=List.mem_map.mp hr
  exact List.length_map ..
 ·obtain ⟨s,hs,rfl⟩:=List.mem_map.mp hr
  obtain ⟨i,hi⟩:=List.getElem?_of_mem hs
  obtain ⟨c,hcc,rfl⟩:=List.mem_map.mp hg
  rw [lL]
  exact List.idxOf_lt_length_iff.mpr (O.cl i s (List.getElem?_eq_some_iff.mp hi).1 hi _ (List.mem_append_left _ (List.mem_map_of_mem hcc)))
 ·obtain ⟨s,hs,rfl⟩:=List.mem_map.mp hr
  obtain ⟨i,hi⟩:=List.getElem?_of_mem hs
  rw [lL]
  exact List.idxOf_lt_length_iff.mpr (O.cl i s (List.getElem?_eq_some_iff.mp hi).1 hi none (List.mem_append_right _ List.mem_cons_self))
end
section
variable {W:Type} [DecidableEq W] {ws:List W} {rows:Rws} {first:Nat}
theorem oZ (hM:MOk ws.length rows) (hf:first < rows.length) (t:List W):fB ws (bD (List.range ws.length) rows first) 0 t=fB ws rows first t:=by
 have hc:∀c∈List.range ws.length,c < ws.length:=fun c h=>List.mem_range.mp h
 have O:=jX hM hc hf
 refine rO (fun i s=>(orderOf (List.range ws.length) rows first)[i]? =some s) (fun i s h=> ?_) (fun i s w h=> ?_) t 0 first O.zero
 ·rw [nR h]
  rfl
 ·obtain ⟨h1,h2⟩:=tK hM hc hf h
  unfold fG
  cases e:eX ws w with
  | none=>exact h1
  | some c=>exact h2 c c (List.getElem?_range (cY c e))
end
section
variable {n:Nat} {rows:Rws} {bl:List Nat}
theorem gl_fold {r:rP} {c:Option Nat} (hc:∀k,c=some k→k < r.2.1.length):gl (iT bl r) c=bl.getD (gl r c) 0:=by
 cases c with
 | none=>rfl
 | some k=>
  have hk:=hc k rfl
  show (r.2.1.map fun g=>bl.getD g 0).getD k 0=bl.getD (r.2.1.getD k 0) 0
  rw [getD_some (x:=bl.getD (r.2.1[k]'hk) 0) (by rw [List.getElem?_map,List.getElem?_eq_getElem hk];rfl),getD_some (x:=r.2.1[k]'hk) (List.getElem?_eq_getElem hk)]
theorem msg_fold {bl:List Nat} {r q:rP} {a b:Nat} (h:sg bl r a=sg bl q b):iT bl r=iT bl q:=by
 unfold sg at h
 injection h with h1 h2
 injection h2 with h2 h3
 injection h3 with h3 h4
 unfold iT
 rw [h1,h3,h4]
theorem zH {s:Nat} (hl:bl.length=rows.length) (hs:s < rows.length):bl[s]? =some (bl.getD s 0):=by
 rw [List.getD_eq_getElem?_getD,List.getElem?_eq_getElem (by omega:s < bl.length)]
 rfl
theorem wM (S:Stab rows bl) {s:Nat} (hs:s < rows.length):bl.getD s 0 < (kJ rows bl).length:=by
 have F:=lY S.len S.can
 rw [F.len,List.take_of_length_le (by rw [S.len];exact Nat.le_refl _)]
 have hm:bl.getD s 0∈num bl:=by rw [S.can];exact List.mem_of_getElem? (zH S.len hs)
 exact num_lt hm
theorem fold_row (S:Stab rows bl) {s:Nat} (hs:s < rows.length):rowAt (kJ rows bl) (bl.getD s 0)=iT bl (rowAt rows s):=by
 have F:=lY S.len S.can
 obtain ⟨s0,k1,k2,k3⟩:=F.row _ (wM S hs)
 unfold rowAt at*
 rw [getD_some k3]
 have h2:bl.getD s0 0=bl.getD s 0:=getD_some k2
 exact msg_fold (S.sig s0 s k1 hs h2)
theorem fold_ok (hM:MOk n rows) (S:Stab rows bl):MOk n (kJ rows bl):=by
 have F:=lY S.len S.can
 have key:∀r∈kJ rows bl,∃s,s < rows.length∧r=iT bl (rowAt rows s):=fun r hr=>by
  obtain ⟨b,hb⟩:=List.getElem?_of_mem hr
  obtain ⟨s0,k1,k2,k3⟩:=F.row b (List.getElem?_eq_some_iff.mp hb).1
  rw [hb] at k3
  exact ⟨s0,k1,Option.some.inj k3⟩
 refine ⟨fun r hr=> ?_,fun r hr g hg=> ?_,fun r hr=> ?_⟩
 ·obtain ⟨s,hs,rfl⟩:=key r hr
  show (List.map _ _).length=_
  rw [List.length_map,hM.len _ (cD hs)]
 ·obtain ⟨s,hs,rfl⟩:=key r hr
  obtain ⟨g0,hg0,rfl⟩:=List.mem_map.mp hg
  exact wM S (hM.go _ (cD hs) g0 hg0)
 ·obtain ⟨s,hs,rfl⟩:=key r hr
  exact wM S (hM.oth _ (cD hs))
theorem aA3 (hne:rows≠ []) (S:Stab rows bl):bl.getD 0 0=0:=by
 have h:=S.can
 have hl:=S.len
 cases bl with
 | nil=>rfl
 | cons b t=>
  have h2:(num (b::t))[0]? =some ((ddp (b::t)).idxOf b):=rfl
  rw [h] at h2
  obtain ⟨u,hu⟩:=iZ t (gQ [] b)
  have e:ddp (b::t)= [b]++u:=hu
  rw [e,rF (List.mem_singleton.mpr rfl)] at h2
  have:([b]:List Nat).idxOf b=0:=by simp
  rw [this] at h2
  show b=0
  exact Option.some.inj h2
theorem lN {W:Type} [DecidableEq W] {ws:List W} (hM:MOk ws.length rows) (S:Stab rows bl) {s:Nat} (hs:s < rows.length) (t:List W):fB ws (kJ rows bl) (bl.getD s 0) t=fB ws rows s t:=by
 refine rO (fun b s=>s < rows.length∧b=bl.getD s 0) (fun b s h=> ?_) (fun b s w h=> ?_) t _ s ⟨hs,rfl⟩
 ·obtain ⟨h1,rfl⟩:=h
  rw [fold_row S h1]
  rfl
 ·obtain ⟨h1,rfl⟩:=h
  unfold fG
  have hc:∀k,eX ws w=some k→k < ws.length:=cY
  refine ⟨hM.gl h1 _ hc,?_⟩
  rw [fold_row S h1,gl_fold fun k e=>by rw [hM.len _ (cD h1)];exact hc k e]
end
def tells (n:Nat) (rows:Rws):List Nat:=(List.range n).filter fun c=>rows.any fun r=>decide (r.2.1.getD c 0≠r.2.2)
def bU {W:Type} (ws:List W) (rows:Rws) (first:Nat):List W×Rws:=
 let r1:=bD (List.range ws.length) rows first
 let r2:=kJ r1 (cZ r1)
 ((tells ws.length r2).filterMap fun c=>ws[c]?,bD (tells ws.length r2) r2 0)
section
variable {W:Type} [DecidableEq W] {ws:List W} {rows:Rws} {first:Nat}
theorem nO {n:Nat} {rows:Rws}:∀c∈tells n rows,c < n:=fun c h=>List.mem_range.mp (List.mem_filter.mp h).1
theorem tells_not {n:Nat} {rows:Rws} {c:Nat} (hc:c < n) (h:c∉tells n rows) {s:Nat} (hs:s < rows.length):gl (rowAt rows s) (some c)=gl (rowAt rows s) none:=by
 by_cases e:gl (rowAt rows s) (some c)=gl (rowAt rows s) none
 ·exact e
 ·refine absurd (List.mem_filter.mpr ⟨List.mem_range.mpr hc,List.any_eq_true.mpr ⟨_,cD hs,decide_eq_true e⟩⟩) h
theorem tells_nodup {n:Nat} {rows:Rws}:(tells n rows).Nodup:=List.nodup_range.sublist List.filter_sublist
theorem fm_get {ws:List W}:∀{cs:List Nat},(∀c∈cs,c < ws.length)→∀j:Nat,(cs.filterMap fun c=>ws[c]?)[j]? =cs[j]?.bind fun c=>ws[c]?
 | [],_,j=>by simp
 | c::cs,h,j=>by
  have hc:=h c List.mem_cons_self
  rw [List.filterMap_cons,List.getElem?_eq_getElem hc]
  cases j with
  | zero=>simp [List.getElem?_eq_getElem hc]
  | succ j=>simpa using fm_get (fun d hd=>h d (List.mem_cons_of_mem _ hd)) j
theorem fm_len {ws:List W}:∀{cs:List Nat},(∀c∈cs,c < ws.length)→(cs.filterMap fun c=>ws[c]?).length=cs.length
 | [],_=>rfl
 | c::cs,h=>by
  rw [List.filterMap_cons,List.getElem?_eq_getElem (h c List.mem_cons_self)]
  simpa using fm_len fun d hd=>h d (List.mem_cons_of_mem _ hd)
theorem fm_nodup {ws:List W} (hw:ws.Nodup):∀{cs:List Nat},(∀c∈cs,c < ws.length)→cs.Nodup→(cs.filterMap fun c=>ws[c]?).Nodup
 | [],_,_=> .nil
 | c::cs,h,hn=>by
  have hc:=h c List.mem_cons_self
  obtain ⟨n1,n2⟩:=List.nodup_cons.mp hn
  rw [List.filterMap_cons,List.getElem?_eq_getElem hc]
  refine List.nodup_cons.mpr ⟨fun hm=> ?_,fm_nodup hw (fun d hd=>h d (List.mem_cons_of_mem _ hd)) n2⟩
  obtain ⟨d,hd,e⟩:=List.mem_filterMap.mp hm
  have e2:ws[c]? =some ws[c]:=List.getElem?_eq_getElem hc
  have h1:=gG hw e
  have h2:=gG hw e2
  rw [h1] at h2
  exact n1 (h2 ▸hd)
theorem tell_lang (hw:ws.Nodup) (hM:MOk ws.length rows) (hf:first < rows.length) (t:List W):fB ((tells ws.length rows).filterMap fun c=>ws[c]?) (bD (tells ws.length rows) rows first) 0 t=fB ws rows first t:=by
 have hc:=nO (n:=ws.length) (rows:=rows)
 have O:=jX hM hc hf
 have hv:=fm_nodup hw hc tells_nodup
 refine rO (fun i s=>(orderOf (tells ws.length rows) rows first)[i]? =some s) (fun i s h=> ?_) (fun i s w h=> ?_) t 0 first O.zero
 ·rw [nR h]
  rfl
 ·obtain ⟨h1,h2⟩:=tK hM hc hf h
  have hs:=O.lt s (List.mem_of_getElem? h)
  unfold fG
  by_cases hm:w∈(tells ws.length rows).filterMap fun c=>ws[c]?
  ·obtain ⟨j,hj⟩:=List.getElem?_of_mem hm
   have hj2:=hj
   rw [fm_get hc] at hj2
   cases e:(tells ws.length rows)[j]? with
   | none=>rw [e] at hj2;cases hj2
   | some c=>
    rw [e] at hj2
    have hj3:ws[c]? =some w:=hj2
    have e1:eX ((tells ws.length rows).filterMap fun c=>ws[c]?) w=some j:=by
     unfold eX
     rw [if_pos hm,gG hv hj]
    have e2:eX ws w=some c:=by
     unfold eX
     rw [if_pos (List.mem_of_getElem? hj3),gG hw hj3]
    rw [e1,e2]
    exact h2 j c e
  ·have e1:eX ((tells ws.length rows).filterMap fun c=>ws[c]?) w=none:=if_neg hm
   rw [e1]
   cases e2:eX ws w with
   | none=>exact h1
   | some c=>
    have hc2:=cY c e2
    have hw2:ws[c]? =some w:=by
     unfold eX at e2
     split at e2
     ·rename_i hin
      cases e2
      exact jZ hin
     ·cases e2
    rw [tells_not hc2 (fun hin=>hm (List.mem_filterMap.mpr ⟨c,hin,hw2⟩)) hs]
    exact h1
theorem lV (hw:ws.Nodup) (hM:MOk ws.length rows) (hf:first < rows.length) (t:List W):fB (bU ws rows first).1 (bU ws rows first).2 0 t=fB ws rows first t:=by
 obtain ⟨o1,o2,o3⟩:=jW hM (cols:=List.range ws.length) (fun c h=>List.mem_range.mp h) hf
 rw [List.length_range] at o1
 have hne:bD (List.range ws.length) rows first≠ []:=List.length_pos_iff.mp o2
 have S:=oA hne
 have o4:=fold_ok o1 S
 have h0:=aA3 hne S
 have h1:=wM S o2
 rw [h0] at h1
 rw [←oZ hM hf t,←lN o1 S o2 t,h0]
 exact tell_lang hw o4 h1 t
theorem tW (hw:ws.Nodup) (hM:MOk ws.length rows) (hf:first < rows.length):(bU ws rows first).1.Sublist ws∧MOk (bU ws rows first).1.length (bU ws rows first).2∧0 < (bU ws rows first).2.length∧(bU ws rows first).2.length≤rows.length:=by
 obtain ⟨o1,o2,o3⟩:=jW hM (cols:=List.range ws.length) (fun c h=>List.mem_range.mp h) hf
 rw [List.length_range] at o1
 have hne:bD (List.range ws.length) rows first≠ []:=List.length_pos_iff.mp o2
 have S:=oA hne
 have o4:=fold_ok o1 S
 have h0:=aA3 hne S
 have h1:=wM S o2
 rw [h0] at h1
 obtain ⟨p1,p2,p3⟩:=jW o4 (cols:=tells ws.length (kJ (bD (List.range ws.length) rows first) (cZ (bD (List.range ws.length) rows first)))) nO h1
 have F:=lY S.len S.can
 have hle:(kJ (bD (List.range ws.length) rows first) (cZ (bD (List.range ws.length) rows first))).length≤(bD (List.range ws.length) rows first).length:=by
  rw [F.len,List.take_of_length_le (by rw [S.len];exact Nat.le_refl _),←S.len]
  exact cU (dU _) fun x hx=>bW.mp hx
 refine ⟨?_,?_,p2,by show (bD _ _ 0).length≤_;omega⟩
 ·have key:∀n (f:Nat→Bool),n≤ws.length→(((List.range n).filter f).filterMap fun c=>ws[c]?).Sublist (ws.take n):=by
   intro n f
   induction n with
   | zero=>intro _;simp
   | succ n ih=>
    intro hn
    have hx:n < ws.length:=hn
    rw [List.range_succ,List.filter_append,List.filterMap_append,List.take_add_one,List.getElem?_eq_getElem hx]
    refine (ih (by omega)).append ?_
    by_cases hfn:f n=true
    ·simp [List.filter_cons,hfn,List.getElem?_eq_getElem hx]
    ·simp [List.filter_cons,hfn]
  have:=key ws.length (fun c=>(kJ (bD (List.range ws.length) rows first) (cZ (bD (List.range ws.length) rows first))).any fun r=>decide (r.2.1.getD c 0≠r.2.2)) (Nat.le_refl _)
  rw [List.take_length] at this
  exact this
 ·show MOk ((tells _ _).filterMap _).length _
  rw [fm_len nO]
  exact p1
end
end DL
namespace DL
section
variable {W:Type} [DecidableEq W]
end
end DL
namespace DL
open PySem PySem.Spec PyProof.Rows L2
section
variable {C:DL.Ctx} {Γ:Gm} {L:Lp} {Q:D→Lp→Prop} {kds:List (D×D)} {a:Addr}
theorem wJ (ha:L a=some (.nd kds)) (q:Q (.int kds.length) L):CaJ C (.builtin "len") Γ [.ptr a] L Q:=⟨fun Z σ H ok vs rd QV go pins s us I r=>by
 obtain ⟨vx,rfl,rx⟩:=rd.oneE
 obtain ⟨u,rfl,ru⟩:=r.one
 rw [rx.ptrE] at ru
 cases (show u=Value.ref a from ru)
 obtain ⟨xs,e,rr⟩:=ok.con.at_ a _ ha
 obtain ⟨hz,hd,hm⟩:=rC I e rr
 have hl:xs.length=kds.length:=Paired.length rr
 refine call_len_dictH hd hm (by rw [dF] at hz;omega) ?_
 rw [hl]
 exact ⟨.int ((kds.length:Nat):Int),H,I.tok _,⟨_,rfl⟩,go _ _ H L (.int _) ok.con (.refl L H) q⟩⟩
end
section
variable {α:Type} [DecidableEq α]
def yI (f:α→D) (ks:List α):List (D×D):=ks.zipIdx.map fun q=>(f q.1,.int (q.2:Nat))
theorem lZ (f:α→D) (ks:List α):(yI f ks).length=ks.length:=by unfold yI;simp
theorem mX {f:α→D} (hf:∀x y,nk (f x)=nk (f y)→x=y) (ks:List α) (x:α):aAj (yI f ks) (f x)=if x∈ks then some (.int (ks.idxOf x:Nat)) else none:=by
 have key:∀(ks:List α) (n:Nat),(((ks.zipIdx n).map fun q=>(f q.1,D.int (q.2:Nat))).find? fun y=>decide (nk y.1=nk (f x))).map (·.2)=if x∈ks then some (.int ((n+ks.idxOf x:Nat):Int)) else none:=by
  intro ks
  induction ks with
  | nil=>intro n;rfl
  | cons k ks ih=>
   intro n
   rw [List.zipIdx_cons,List.map_cons]
   by_cases e:k=x
   ·subst e
    rw [List.find?_cons_of_pos (by simp),if_pos List.mem_cons_self]
    simp
   ·rw [List.find?_cons_of_neg (by simpa using fun z=>e (hf _ _ z)),ih (n+1)]
    by_cases hm:x∈ks
    ·rw [if_pos hm,if_pos (List.mem_cons_of_mem _ hm),List.idxOf_cons,show (k==x)=false from by simpa using e]
     show some (D.int ((n+1+ks.idxOf x:Nat):Int))=some (D.int ((n+(ks.idxOf x+1):Nat):Int))
     rw [show n+1+ks.idxOf x=n+(ks.idxOf x+1) from by omega]
    ·rw [if_neg hm,if_neg (by simp [hm,Ne.symm e])]
 have:=key ks 0
 rw [Nat.zero_add] at this
 exact this
theorem dNum_put {f:α→D} (hf:∀x y,nk (f x)=nk (f y)→x=y) {ks:List α} {x:α} (h:x∉ks):rY (yI f ks) (f x) (.int (ks.length:Nat))=yI f (ks++ [x]):=by
 unfold rY
 rw [mX hf,if_neg h]
 unfold yI
 rw [List.zipIdx_append,List.map_append]
 simp
end
end DL
namespace DL
open PySem PySem.Spec PyProof.Rows L2
section
variable {C:Ctx} {Γ:Gm} {L:Lp} {pos:Pos}
theorem as_setFilt (n i:Nat) {E:AEnds} {x y:Str} {px py spos:Pos} {scope:Scope} {elt iter c:Expr}
  (h:AI C (.Name x px) iter Γ L fun ds G L1=> ∃(α:Type) (xs:List α) (g:α→D) (t:α→Bool) (f:α→D),ds=xs.map g∧G L1∧ds.length≤sizeLine∧(∀y∈xs,∀s H Cc cl fp,AVT (dH C scope s H Cc cl fp) c ((dN Γ [i]).set i (some (g y))) L1 (t y)∧(t y=true→AV (dH C scope s H Cc cl fp) elt ((dN Γ [i]).set i (some (g y))) L1 (f y)))∧∀p,L1 p=none→E.nx (Γ.set n (some (.ptr p))) (put L1 p (.lst ((xs.filter t).map f))))
  (hag:∀s H Cc cl fp d Γ,AG (dH C scope s H Cc cl fp) (.Name x px) d Γ (Γ.set i (some d)) [i]:=by (intro _ _ _ _ _ _ _;exact aP _))
  (hy:C.X.N[n]? =some y:=by rfl) (hyl:C.X.env.scope.names.lookup y=some .local:=by rfl) (hsw:swapsWith (.ListComp elt [⟨.Name x px,iter,[c],0⟩] scope pos) (some (.Name y py)) spos.line C.X.env=pure true:=by exact sw_true rfl rfl rfl (by decide+kernel))
  (ok:BlkOk C.X.N C.X.env.scope scope [(x,i)]:=by (dsimp only [vA,dH,cxOf,envOfC,compEnvC,Cx.blk];exact blkOk_by (by decide+kernel))) (hs:∀x,foldedSetIterable iter C.X.env x=pure x:=by intro _;rfl):AS C (.Assign [.Name y py] (.ListComp elt [⟨.Name x px,iter,[c],0⟩] scope pos) spos) Γ L E:=
 as_setLc n [(x,i)] (fun F σ H okk RV go=>h F σ H okk RV fun J H' L' ds G cc f it ⟨α,xs,g,t,f',e,hG,hz,hf,q⟩=>by
  subst e
  rw [List.length_map] at hz
  exact go J H' L' _ G cc f it (tY (R:=fun acc L2=> ∀p,L2 p=none→E.nx (Γ.set n (some (.ptr p))) (put L2 p (.lst acc))) (t:=t) hG hz (fun j hj=>hj) (fun y hy s H Cc cl fp=>⟨hag s H Cc cl fp _ _,fun Q q=>ats_one ((hf y hy s H Cc cl fp).1 Q q),(hf y hy s H Cc cl fp).2⟩) q)) hy hyl hsw ok hs
end
end DL
namespace DL
open PySem PySem.Spec PyProof.Rows L2
def toS (x:Str):List (Int ⊕ List Nat):=PySem.W.keyToks (.str x)
section
variable {C:Ctx} {Γ:Gm} {L:Lp} {Q:D→Lp→Prop} {pos p p2:Pos} {e:Expr}
end
end DL
namespace DL
open PySem PySem.Spec PyProof.Rows L2
section
variable {C:Ctx} {Γ:Gm} {L:Lp} {pos:Pos} {elt iter c:Expr}
end
end DL
namespace DL
open PySem PySem.Spec PyProof.Rows L2
theorem sok_string {s:String} (h:s.length≤sizeLine):SOk (Str.ofString s):=by
 rw [Str.ofString_eq_toList]
 refine ⟨by show ((s.toList.map Char.toNat).toArray).size≤_;rw [List.size_toArray,List.length_map];exact h,?_⟩
 unfold PyData.strOk
 rw [Array.all_eq_true']
 intro c hc
 obtain ⟨ch,_,rfl⟩:=List.mem_map.mp (List.mem_toArray.mp hc)
 have h1:=ch.valid
 refine decide_eq_true ?_
 show ch.val.toNat < 0x110000
 rcases h1 with h1 | h1
 ·have:ch.val.toNat < 0xd800:=h1
  omega
 ·exact h1.2
def aA5 (n:Nat):Str:=Str.ofString (toString (n:Int))
theorem repI_ok {n:Nat} (h:n < 10 ^ 100):SOk (aA5 n):=by
 refine sok_string ?_
 have e:toString (n:Int)=n.repr:=rfl
 rw [e]
 exact Nat.le_trans ((Nat.length_repr_le_iff (by decide)).mpr h) (by decide)
abbrev rReprI:List V→Hp→VK→Prop:=fun xs H Q=> ∃i:Int,xs= [.int i]∧i.natAbs.log2 < 1920∧Q (.str (toString i)) H
section
variable {C:Ctx} {L:Lp} {Q:D→Lp→Prop}
theorem c_reprI {n:Nat} (hn:n < 10 ^ 100) (q:Q (.str (aA5 n)) L):LcR C rReprI [.int (n:Nat)] L Q:=fun F vs H c r0 QV go=>by
 obtain ⟨v,rfl,r⟩:=r0.oneE
 refine ⟨(n:Int),by rw [r.intE],?_,go _ _ H L (.str _ (repI_ok hn)) c (.refl L H) q⟩
 show n.log2 < 1920
 by_cases h0:n=0
 ·rw [h0];decide
 ·exact (Nat.log2_lt h0).mpr (Nat.lt_of_lt_of_le hn (by decide+kernel))
end
end DL
namespace DL
open PySem PySem.Spec PyProof.Rows L2
section
variable {C:Ctx} {Γ:Gm} {L:Lp} {e o1 b1 o2 b2:Expr} {pos p1 p2 pt:Pos} {kt:Nat} {E:AEnds}
end
end DL
namespace DL
section
variable {W:Type} [DecidableEq W] {ws:List W} {rows:Rws} {first:Nat}
theorem col_word (hw:ws.Nodup) {c:Nat} {w:W} (h:ws[c]? =some w):eX ws w=some c:=by
 unfold eX
 rw [if_pos (List.mem_of_getElem? h),gG hw h]
theorem lO {x:W} (h:x∉ws):eX ws x=none:=if_neg h
theorem col_mem {w:W} (h:w∈ws):eX ws w=some (ws.idxOf w):=if_pos h
theorem tG:∀(u t:List W) (s:Nat),nJ ws rows s (u++t)=nJ ws rows (nJ ws rows s u) t
 | [],_,_=>rfl
 | w::u,t,s=>tG u t _
theorem qL (u t:List W) (s:Nat):fB ws rows s (u++t)=fB ws rows (nJ ws rows s u) t:=by
 unfold fB
 rw [tG]
theorem vX (hM:MOk ws.length rows):∀(u:List W) (s:Nat),s < rows.length→nJ ws rows s u < rows.length
 | [],_,h=>h
 | w::u,s,h=>vX hM u _ (hM.gl h _ cY)
def sW (ws:List W) (rows:Rws) (bl:List Nat):Prop:= ∀i j,i < rows.length→j < rows.length→(∀t,fB ws rows i t=fB ws rows j t)→bl.getD i 0=bl.getD j 0
theorem num_get {α:Type} [DecidableEq α] {xs:List α} {i:Nat} {x:α} (h:xs[i]? =some x):(num xs).getD i 0=(ddp xs).idxOf x:=by
 unfold num
 exact getD_some (by rw [List.getElem?_map,h];rfl)
theorem coarse_step (hw:ws.Nodup) {x:W} (hx:x∉ws) (hM:MOk ws.length rows) {bl:List Nat} (hl:bl.length=rows.length) (h:sW ws rows bl):sW ws rows (num (signs bl rows)):=fun i j hi hj he=>by
 rw [num_get (qU hl hi),num_get (qU hl hj)]
 congr 1
 have st:∀w,bl.getD (fG rows i (eX ws w)) 0=bl.getD (fG rows j (eX ws w)) 0:=fun w=>h _ _ (hM.gl hi _ cY) (hM.gl hj _ cY) fun t=>he (w::t)
 have h1:(rowAt rows i).1=(rowAt rows j).1:=he []
 have h3:bl.getD (rowAt rows i).2.2 0=bl.getD (rowAt rows j).2.2 0:=by
  have:=st x
  rw [lO hx] at this
  exact this
 have h2:(rowAt rows i).2.1.map (fun g=>bl.getD g 0)=(rowAt rows j).2.1.map (fun g=>bl.getD g 0):=by
  apply List.ext_getElem?
  intro c
  rw [List.getElem?_map,List.getElem?_map]
  have li:=hM.len _ (cD hi)
  have lj:=hM.len _ (cD hj)
  by_cases hc:c < ws.length
  ·have hcw:ws[c]? =some ws[c]:=List.getElem?_eq_getElem hc
   have:=st ws[c]
   rw [col_word hw hcw] at this
   have gi:(rowAt rows i).2.1[c]? =some ((rowAt rows i).2.1.getD c 0):=by
    rw [List.getD_eq_getElem?_getD,List.getElem?_eq_getElem (by omega)];rfl
   have gj:(rowAt rows j).2.1[c]? =some ((rowAt rows j).2.1.getD c 0):=by
    rw [List.getD_eq_getElem?_getD,List.getElem?_eq_getElem (by omega)];rfl
   rw [gi,gj]
   show some _=some _
   congr 1
  ·rw [List.getElem?_eq_none (by omega),List.getElem?_eq_none (by omega)]
 unfold sg
 rw [h1,h2,h3,h i j hi hj he]
theorem coarse_blk (hw:ws.Nodup) {x:W} (hx:x∉ws) (hM:MOk ws.length rows):∀(n:Nat) (bl:List Nat) (cnt:Nat),bl.length=rows.length→sW ws rows bl→sW ws rows (aAb rows n bl cnt)
 | 0,bl,cnt,_,h=>h
 | n+1,bl,cnt,hl,h=>by
  have h1:=coarse_step hw hx hM hl h
  unfold aAb
  split
  ·exact h1
  ·exact coarse_blk hw hx hM n _ _ (by rw [wA,qT hl]) h1
theorem coarse_ok (hw:ws.Nodup) {x:W} (hx:x∉ws) (hM:MOk ws.length rows):sW ws rows (cZ rows):=
 coarse_blk hw hx hM _ _ _ (List.length_map ..) fun i j hi hj _=>by
  have z:∀s,s < rows.length→(rows.map fun _=>0).getD s 0=0:=fun s hs=>getD_some (by rw [List.getElem?_map,gJ hs];rfl)
  rw [z i hi,z j hj]
def Apart (ws:List W) (rows:Rws):Prop:= ∀i j,i < rows.length→j < rows.length→(∀t,fB ws rows i t=fB ws rows j t)→i=j
theorem fold_at {bl:List Nat} (S:Stab rows bl) {b:Nat} (h:b < (kJ rows bl).length):∃s,s < rows.length∧bl.getD s 0=b:=by
 obtain ⟨s,hs,hb,_⟩:=(lY S.len S.can).row b h
 exact ⟨s,hs,getD_some hb⟩
theorem fold_apart (hM:MOk ws.length rows) {bl:List Nat} (S:Stab rows bl) (h:sW ws rows bl):Apart ws (kJ rows bl):=fun i j hi hj he=>by
 obtain ⟨a,ha,rfl⟩:=fold_at S hi
 obtain ⟨b,hb,rfl⟩:=fold_at S hj
 exact h a b ha hb fun t=>by rw [←lN hM S ha,←lN hM S hb,he]
theorem ord_way (hw:ws.Nodup) {x:W} (hx:x∉ws):∀(n k:Nat) (o:List Nat),(∀s∈o,∃u,nJ ws rows first u=s)→∀s∈xF (List.range ws.length) rows n k o,∃u,nJ ws rows first u=s
 | 0,_,o,h=>h
 | n+1,k,o,h=>by
  unfold xF
  cases e:o[k]? with
  | none=>exact h
  | some s=>
   refine ord_way hw hx n (k+1) _ fun g hg=> ?_
   unfold uU at hg
   rw [kE] at hg
   rcases hg with hg | hg
   ·exact h g hg
   ·obtain ⟨c,hc,rfl⟩:=List.mem_map.mp hg
    obtain ⟨u,hu⟩:=h s (List.mem_of_getElem? e)
    obtain ⟨w,hwc⟩:∃w,eX ws w=c:=by
     unfold cG at hc
     rcases List.mem_append.mp hc with hc | hc
     ·obtain ⟨j,hj,rfl⟩:=List.mem_map.mp hc
      have hj:=List.mem_range.mp hj
      exact ⟨ws[j],col_word hw (List.getElem?_eq_getElem hj)⟩
     ·rw [List.mem_singleton.mp hc]
      exact ⟨x,lO hx⟩
    refine ⟨u++ [w],?_⟩
    rw [tG,hu]
    show fG rows s (eX ws w)=_
    rw [hwc]
    rfl
theorem reach_way (hw:ws.Nodup) {x:W} (hx:x∉ws) (hM:MOk ws.length rows) (hf:first < rows.length) {i:Nat} (hi:i < (bD (List.range ws.length) rows first).length):∃u,∀t,fB ws (bD (List.range ws.length) rows first) i t=fB ws rows first (u++t):=by
 have hc:∀c∈List.range ws.length,c < ws.length:=fun c h=>List.mem_range.mp h
 rw [lL] at hi
 have hs:=List.getElem?_eq_getElem hi
 generalize (orderOf (List.range ws.length) rows first)[i]=s at hs
 obtain ⟨u,hu⟩:=ord_way hw hx (rows.length+1) 0 [first] (fun s hs=>⟨[],(List.mem_singleton.mp hs).symm⟩) s (List.mem_of_getElem? hs)
 refine ⟨u,fun t=> ?_⟩
 rw [qL,hu]
 refine rO (fun i s=>(orderOf (List.range ws.length) rows first)[i]? =some s) (fun i s h=> ?_) (fun i s w h=> ?_) t i s hs
 ·rw [nR h]
  rfl
 ·obtain ⟨h1,h2⟩:=tK hM hc hf h
  unfold fG
  cases e:eX ws w with
  | none=>exact h1
  | some c=>exact h2 c c (List.getElem?_range (cY c e))
def rZ (ws:List W) (rows:Rws) (first:Nat):Rws:=kJ (bD (List.range ws.length) rows first) (cZ (bD (List.range ws.length) rows first))
structure FoldF (ws:List W) (rows:Rws) (first:Nat):Prop where
 ok:MOk ws.length (rZ ws rows first)
 pos:0 < (rZ ws rows first).length
 apart:Apart ws (rZ ws rows first)
 lang:∀t,fB ws (rZ ws rows first) 0 t=fB ws rows first t
 way:∀b,b < (rZ ws rows first).length→∃u,∀t,fB ws (rZ ws rows first) b t=fB ws rows first (u++t)
theorem foldF_ok (hw:ws.Nodup) {x:W} (hx:x∉ws) (hM:MOk ws.length rows) (hf:first < rows.length):FoldF ws rows first:=by
 obtain ⟨o1,o2,o3⟩:=jW hM (cols:=List.range ws.length) (fun c h=>List.mem_range.mp h) hf
 rw [List.length_range] at o1
 have hne:bD (List.range ws.length) rows first≠ []:=List.length_pos_iff.mp o2
 have S:=oA hne
 have h0:=aA3 hne S
 have h1:=wM S o2
 rw [h0] at h1
 refine ⟨fold_ok o1 S,h1,fold_apart o1 S (coarse_ok hw hx o1),fun t=> ?_,fun b hb=> ?_⟩
 ·rw [←oZ hM hf t,←lN o1 S o2 t,h0]
  rfl
 ·obtain ⟨s,hs,rfl⟩:=fold_at S hb
  obtain ⟨u,hu⟩:=reach_way hw hx hM hf hs
  refine ⟨u,fun t=> ?_⟩
  rw [←hu t]
  exact lN o1 S hs t
structure PairM (ws:List W) (p:Rws) (vs:List W) (q:Rws) (z:Nat×Nat):Prop where
 l1:z.1 < p.length
 l2:z.2 < q.length
 eq:∀t,fB ws p z.1 t=fB vs q z.2 t
variable {p q:Rws} {vs:List W}
theorem PairM.step (hM1:MOk ws.length p) (hM2:MOk vs.length q) {z:Nat×Nat} (h:PairM ws p vs q z) (w:W):PairM ws p vs q (gl (rowAt p z.1) (eX ws w),gl (rowAt q z.2) (eX vs w)):=
 ⟨hM1.gl h.l1 _ cY,hM2.gl h.l2 _ cY,fun t=>h.eq (w::t)⟩
theorem PairM.snd (A1:Apart ws p) {y z:Nat×Nat} (h:PairM ws p vs q y) (h2:PairM ws p vs q z) (e:y.2=z.2):y=z:=by
 have:y.1=z.1:=A1 _ _ h.l1 h2.l1 fun t=>by rw [h.eq,h2.eq,e]
 exact Prod.ext this e
end
end DL
namespace DL
section
variable {W:Type} [DecidableEq W] {ws vs xs:List W} {p q:Rws} {f:Bool→Bool→Bool}
def vL (n a b:Nat):Nat:=a*n+b
theorem uF {n a b:Nat} (h:b < n):vL n a b / n=a:=by
 unfold vL
 rw [Nat.mul_comm,Nat.mul_add_div (by omega),Nat.div_eq_of_lt h]
 rfl
theorem uD {n a b:Nat} (h:b < n):vL n a b % n=b:=by
 unfold vL
 rw [Nat.mul_comm,Nat.mul_add_mod,Nat.mod_eq_of_lt h]
theorem uE {m n a b:Nat} (ha:a < m) (hb:b < n):vL n a b < m*n:=by
 unfold vL
 have:(a+1)*n≤m*n:=Nat.mul_le_mul_right n ha
 rw [Nat.add_mul,Nat.one_mul] at this
 omega
def uX (ws vs xs:List W) (p q:Rws) (f:Bool→Bool→Bool) (s:Nat):rP:=
 (f (rowAt p (s / q.length)).1 (rowAt q (s % q.length)).1,xs.map fun w=>vL q.length (gl (rowAt p (s / q.length)) (eX ws w)) (gl (rowAt q (s % q.length)) (eX vs w)),vL q.length (gl (rowAt p (s / q.length)) none) (gl (rowAt q (s % q.length)) none))
def pB (ws vs xs:List W) (p q:Rws) (f:Bool→Bool→Bool):Rws:=(List.range (p.length*q.length)).map (uX ws vs xs p q f)
theorem jO:(pB ws vs xs p q f).length=p.length*q.length:=by unfold pB;rw [List.length_map,List.length_range]
theorem qZ {s:Nat} (h:s < p.length*q.length):rowAt (pB ws vs xs p q f) s=uX ws vs xs p q f s:=by
 unfold pB
 conv=>lhs;unfold rowAt
 exact getD_some (by rw [List.getElem?_map,List.getElem?_range h];rfl)
theorem div_in {s:Nat} (h:s < p.length*q.length):s / q.length < p.length∧s % q.length < q.length:=by
 have hq:0 < q.length:=by
  apply Classical.byContradiction
  intro z
  have:q.length=0:=by omega
  rw [this,Nat.mul_zero] at h
  omega
 exact ⟨(Nat.div_lt_iff_lt_mul hq).mpr h,Nat.mod_lt _ hq⟩
theorem tM (h1:MOk ws.length p) (h2:MOk vs.length q):MOk xs.length (pB ws vs xs p q f):=by
 have key:∀r∈pB ws vs xs p q f,∃s,s < p.length*q.length∧r=uX ws vs xs p q f s:=fun r hr=>by
  obtain ⟨s,hs,rfl⟩:=List.mem_map.mp hr
  exact ⟨s,List.mem_range.mp hs,rfl⟩
 refine ⟨fun r hr=> ?_,fun r hr g hg=> ?_,fun r hr=> ?_⟩ <;> obtain ⟨s,hs,rfl⟩:=key r hr <;> obtain ⟨ha,hb⟩:=div_in hs
 ·exact List.length_map ..
 ·rw [jO]
  obtain ⟨w,_,rfl⟩:=List.mem_map.mp hg
  exact uE (h1.gl ha _ cY) (h2.gl hb _ cY)
 ·rw [jO]
  exact uE (h1.gl ha _ fun k e=>by cases e) (h2.gl hb _ fun k e=>by cases e)
theorem prodA_step (h1:MOk ws.length p) (h2:MOk vs.length q) (hx:∀w,w∉xs→w∉ws∧w∉vs) {a b:Nat} (ha:a < p.length) (hb:b < q.length) (w:W):
  fG (pB ws vs xs p q f) (vL q.length a b) (eX xs w)=vL q.length (fG p a (eX ws w)) (fG q b (eX vs w)):=by
 unfold fG
 rw [qZ (uE ha hb)]
 unfold uX
 rw [uF hb,uD hb]
 by_cases hw:w∈xs
 ·rw [col_mem hw]
  show (xs.map _).getD (xs.idxOf w) 0=_
  exact getD_some (by rw [List.getElem?_map,jZ hw];rfl)
 ·obtain ⟨h3,h4⟩:=hx w hw
  rw [lO hw,lO h3,lO h4]
  rfl
theorem prodA_lang (h1:MOk ws.length p) (h2:MOk vs.length q) (hx:∀w,w∉xs→w∉ws∧w∉vs):∀(t:List W) (a b:Nat),a < p.length→b < q.length→fB xs (pB ws vs xs p q f) (vL q.length a b) t=f (fB ws p a t) (fB vs q b t)
 | [],a,b,ha,hb=>by
  show (rowAt (pB ws vs xs p q f) (vL q.length a b)).1=_
  rw [qZ (uE ha hb)]
  unfold uX
  rw [uF hb,uD hb]
  rfl
 | w::t,a,b,ha,hb=>by
  show fB xs (pB ws vs xs p q f) (fG (pB ws vs xs p q f) (vL q.length a b) (eX xs w)) t=f (fB ws p (fG p a (eX ws w)) t) (fB vs q (fG q b (eX vs w)) t)
  rw [prodA_step h1 h2 hx ha hb w]
  exact prodA_lang h1 h2 hx t _ _ (h1.gl ha _ cY) (h2.gl hb _ cY)
def qF (ws vs xs:List W) (p q:Rws) (f:Bool→Bool→Bool):Rws:=bD (List.range xs.length) (pB ws vs xs p q f) 0
theorem sideM_lang (h1:MOk ws.length p) (h2:MOk vs.length q) (hx:∀w,w∉xs→w∉ws∧w∉vs) (hp:0 < p.length) (hq:0 < q.length) (t:List W):fB xs (qF ws vs xs p q f) 0 t=f (fB ws p 0 t) (fB vs q 0 t):=by
 unfold qF
 rw [oZ (tM h1 h2) (by rw [jO];exact Nat.mul_pos hp hq)]
 have:=prodA_lang (f:=f) h1 h2 hx t 0 0 hp hq
 unfold vL at this
 rw [Nat.zero_mul,Nat.add_zero] at this
 exact this
theorem sideM_ok (h1:MOk ws.length p) (h2:MOk vs.length q) (hp:0 < p.length) (hq:0 < q.length):MOk xs.length (qF ws vs xs p q f)∧0 < (qF ws vs xs p q f).length∧(qF ws vs xs p q f).length≤p.length*q.length:=by
 have:=jW (tM (f:=f) (xs:=xs) h1 h2) (cols:=List.range xs.length) (fun c h=>List.mem_range.mp h) (first:=0) (by rw [jO];exact Nat.mul_pos hp hq)
 rw [List.length_range,jO] at this
 exact this
end
end DL
namespace DU
open PySem PySem.Spec PyProof.Rows L2 TS
structure Msk (m:Nat):Prop where
 all:∀j,j≤m→∃b,b≤m∧lcgN m b=j
 rnd:lcgN m (m+1)=0
def chk (m:Nat):Bool:=((List.range (m+1)).all fun j=>(List.range (m+1)).any fun b=>lcgN m b==j) && (lcgN m (m+1)==0)
theorem Msk.of {m:Nat} (h:chk m=true):Msk m:=by
 unfold chk at h
 rw [Bool.and_eq_true] at h
 refine ⟨fun j hj=> ?_,eq_of_beq h.2⟩
 obtain ⟨b,hb,e⟩:=List.any_eq_true.mp (List.all_eq_true.mp h.1 j (List.mem_range.mpr (by omega)))
 exact ⟨b,by have:=List.mem_range.mp hb;omega,eq_of_beq e⟩
theorem msk7:Msk 7:= .of (by decide+kernel)
theorem msk31:Msk 31:= .of (by decide+kernel)
theorem msk127:Msk 127:= .of (by decide+kernel)
theorem Msk.per {m:Nat} (h:Msk m):∀k,lcgN m (m+1+k)=lcgN m k
 | 0=>h.rnd
 | k+1=>congrArg (fun x=>(x*5+1) % (m+1)) (h.per k)
theorem Msk.from_ {m:Nat} (h:Msk m) {i j:Nat} (hi:i≤m) (hj:j≤m):∃k,k≤m∧lcgI m i k=j:=by
 obtain ⟨a,ha,rfl⟩:=h.all i hi
 obtain ⟨b,hb,rfl⟩:=h.all j hj
 by_cases c:a≤b
 ·exact ⟨b - a,by omega,by rw [lcgN_add,show a+(b - a)=b by omega]⟩
 ·exact ⟨m+1+b - a,by omega,by rw [lcgN_add,show a+(m+1+b - a)=m+1+b by omega,h.per]⟩
theorem free_one {m:Nat} (owner:Array (Option Nat)):∀(f n i b:Nat),n < f→i≤m→oAt owner (itL m i b n).1=none→∃j,SetTable.layClean.free m owner f i b=some j∧j≤m∧oAt owner j=none
 | 0,_,_,_,hn,_,_=>absurd hn (Nat.not_lt_zero _)
 | f+1,n,i,b,hn,hi,hfree=>by
  rw [free_succ]
  have hb:=runEnd_bd hi
  cases hfd:(List.range (SetTable.runEnd m i+1 - i)).find? fun k=>(oAt owner (i+k)).isNone with
  | some k=>
   have h1:=List.find?_some hfd
   have h2:=List.mem_range.mp (List.mem_of_find?_eq_some hfd)
   refine ⟨i+k,rfl,by omega,?_⟩
   cases e:oAt owner (i+k) with
   | none=>rfl
   | some x=>rw [e] at h1;cases h1
  | none=>
   cases n with
   | zero=>
    have h1:=List.find?_eq_none.mp hfd 0 (List.mem_range.mpr (by omega))
    have h2:oAt owner (i+0)=none:=hfree
    rw [h2] at h1
    exact absurd rfl h1
   | succ n=>
    exact free_one owner f n _ _ (by omega) (Nat.le_of_lt_succ (Nat.mod_lt _ (Nat.succ_pos _))) hfree
theorem free_any {m:Nat} (hm:Msk m) (owner:Array (Option Nat)) (h:Int) {j:Nat} (hj:j≤m) (hf:oAt owner j=none):
  ∃j',SetTable.layClean.free m owner (SetTable.turns m) (SetTable.bits h % (m+1)) (SetTable.bits h)=some j'∧j'≤m∧oAt owner j'=none:=by
 obtain ⟨k,hk,e⟩:=hm.from_ (runI_le m (SetTable.bits h) 12) hj
 refine free_one owner _ (12+k) _ _ (by unfold SetTable.turns;omega) (Nat.le_of_lt_succ (Nat.mod_lt _ (Nat.succ_pos _))) ?_
 rw [itL_run]
 show oAt owner (runI m (SetTable.bits h) (12+k))=none
 rw [runI_tail (bits_lt h),e]
 exact hf
structure Ow (m n:Nat) (owner:Array (Option Nat)):Prop where
 sz:owner.size=m+1
 all:∀k,k < n→∃j,j≤m∧oAt owner j=some k
 ps:∃ps:List Nat,ps.length=n∧∀j,j≤m→oAt owner j≠none→j∈ps
theorem Ow.step {m n:Nat} (hm:Msk m) {owner:Array (Option Nat)} (W:Ow m n owner) (hl:n≤m) (h:Int):
  ∃j,SetTable.layClean.free m owner (SetTable.turns m) (SetTable.bits h % (m+1)) (SetTable.bits h)=some j∧Ow m (n+1) (owner.setIfInBounds j (some n)):=by
 obtain ⟨ps,hps,hin⟩:=W.ps
 obtain ⟨j0,h0,hn0⟩:=st_missing ps (m+1) (by omega)
 have hj0:oAt owner j0=none:=Classical.byContradiction fun z=>hn0 (hin j0 (by omega) z)
 obtain ⟨j,e1,e2,e3⟩:=free_any hm owner h (show j0≤m by omega) hj0
 have hjs:j < owner.size:=by rw [W.sz];omega
 refine ⟨j,e1,⟨by rw [Array.size_setIfInBounds];exact W.sz,fun k hk=> ?_,j::ps,by rw [List.length_cons,hps],fun i hi z=> ?_⟩⟩
 ·by_cases c:k=n
  ·exact ⟨j,e2,by rw [c];exact oAt_set_self _ hjs⟩
  ·obtain ⟨i,hi,e⟩:=W.all k (by omega)
   refine ⟨i,hi,?_⟩
   rw [oAt_set_ne _ (fun z=>by rw [z,e3] at e;cases e)]
   exact e
 ·by_cases c:i=j
  ·rw [c];exact List.mem_cons_self
  ·rw [oAt_set_ne _ c] at z
   exact List.mem_cons_of_mem _ (hin i hi z)
theorem fold_any {m:Nat} (hm:Msk m):∀(rest:List Int) (n:Nat) (owner:Array (Option Nat)),Ow m n owner→n+rest.length≤m→∃owner',rest.foldl (stepF m) (some (owner,n))=some (owner',n+rest.length)∧Ow m (n+rest.length) owner'
 | [],n,owner,W,_=>⟨owner,rfl,W⟩
 | h::rest,n,owner,W,hl=>by
  rw [List.length_cons] at hl
  obtain ⟨j,e,W'⟩:=W.step hm (by omega) h
  obtain ⟨o',f,W2⟩:=fold_any hm rest (n+1) _ W' (by omega)
  refine ⟨o',?_,?_⟩
  ·rw [List.foldl_cons,stepF_some e,f,List.length_cons]
   congr 2
   omega
  ·rw [List.length_cons,show n+(rest.length+1)=n+1+rest.length by omega]
   exact W2
theorem laid_any {m:Nat} (hm:Msk m) {finger moves:Nat} {led plain:Bool} {hs:Array Int} (hn:hs.size≤m):
  ∃t order,SetTable.laid m finger moves led plain hs=some (t,order)∧order.toList.Perm (List.range hs.size)∧t.place.size=hs.size∧Ris t.place.toList∧t.mask=m∧t.dummies= #[]∧t.led=led∧t.plain=plain∧t.finger=finger:=by
 obtain ⟨owner,f,W⟩:=fold_any hm hs.toList 0 (Array.replicate (m+1) none) ⟨by simp,fun k hk=>absurd hk (Nat.not_lt_zero _),[],rfl,fun j hj z=>absurd (oAt_init hj) z⟩ (by rw [Nat.zero_add];exact hn)
 rw [Nat.zero_add,Array.length_toList] at f W
 have e:SetTable.layClean m hs=some owner:=by rw [layClean_eq,f];rfl
 have ris:=ris_live (fun j=>owner.getD j none) (List.range (m+1)) (by
  unfold Ris
  first | exact List.pairwise_lt_range | exact List.pairwise_lt_range _)
 have nd:((liveOf m owner).map (·.1)).Nodup:=List.Pairwise.imp (fun h=>Nat.ne_of_lt h) ris.1
 have hlen:(liveOf m owner).length=hs.size:=by
  obtain ⟨ps,p1,p2⟩:=W.ps
  have a:=nat_nodup_len ((liveOf m owner).map (·.1)) ps nd fun x hx=>by
   obtain ⟨q,hq,rfl⟩:=List.mem_map.mp hx
   obtain ⟨b1,b2⟩:=(mem_live W.sz).1 (show (q.1,q.2)∈liveOf m owner from hq)
   exact p2 q.1 b1 (by rw [b2];exact fun z=>nomatch z)
  have b:=nat_nodup_len (List.range hs.size) ((liveOf m owner).map (·.2)) List.nodup_range fun k hk=>by
   obtain ⟨j,b1,b2⟩:=W.all k (List.mem_range.mp hk)
   exact List.mem_map.mpr ⟨(j,k),(mem_live W.sz).2 ⟨b1,b2⟩,rfl⟩
  rw [List.length_map,p1] at a
  rw [List.length_map,List.length_range] at b
  omega
 have er:SetTable.laid m finger moves led plain hs=some ({mask:=m,place:=((liveOf m owner).map (·.1)).toArray,dummies:= #[],finger,led,moves,plain},((liveOf m owner).map (·.2)).toArray):=by
  unfold SetTable.laid
  rw [e]
  rfl
 refine ⟨_,_,er,?_,?_,ris.1,rfl,rfl,rfl,rfl,rfl⟩
 ·refine perm_range hs.size _ ?_ fun k hk=> ?_
  ·show ((liveOf m owner).map (·.2)).length=hs.size
   rw [List.length_map]
   exact hlen
  ·obtain ⟨j,b1,b2⟩:=W.all k hk
   exact List.mem_map.mpr ⟨(j,k),(mem_live W.sz).2 ⟨b1,b2⟩,rfl⟩
 ·show (((liveOf m owner).map (·.1)).toArray).size=_
  rw [List.size_toArray,List.length_map]
  exact hlen
end DU
namespace DU
open PySem PySem.Spec PyProof.Rows L2 TS DL
def szChk (k:Nat):Bool:=chk (SetTable.sizeAbove k - 1) && decide (k < SetTable.sizeAbove k) && decide (SetTable.sizeAbove k≤128)
theorem sz_all:∀k:Fin 81,szChk k.val=true:=by decide+kernel
theorem aAl {k:Nat} (h:k≤80):Msk (SetTable.sizeAbove k - 1)∧k < SetTable.sizeAbove k∧SetTable.sizeAbove k≤128:=by
 have z:=sz_all ⟨k,by omega⟩
 unfold szChk at z
 rw [Bool.and_eq_true,Bool.and_eq_true] at z
 exact ⟨.of z.1.1,of_decide_eq_true z.1.2,of_decide_eq_true z.2⟩
theorem pick_all {α:Type} (xs:List α):(List.range xs.length).filterMap (fun i=>xs[i]?)=xs:=by
 have key:∀n,n≤xs.length→(List.range n).filterMap (fun i=>xs[i]?)=xs.take n:=by
  intro n
  induction n with
  | zero=>intro _;rfl
  | succ n ih=>
   intro hn
   rw [List.range_succ,List.filterMap_append,ih (by omega),List.take_add_one,List.filterMap_cons_some (List.getElem?_eq_getElem (show n < xs.length by omega)),List.getElem?_eq_getElem (show n < xs.length by omega)]
   rfl
 rw [key _ (Nat.le_refl _),List.take_length]
theorem order_any {α:Type} (es:Array α) (order:Array Nat) (hp:order.toList.Perm (List.range es.size)):(order.filterMap (es[·]?)).toList.Perm es.toList:=by
 rw [Array.toList_filterMap]
 have h:(order.toList.filterMap fun i=>es[i]?)=order.toList.filterMap fun i=>es.toList[i]? :=by
  congr 1
  funext i
  rw [Array.getElem?_toList]
 rw [show (order.toList.filterMap fun x=>es[x]?)=_ from h]
 have z:=hp.filterMap fun i=>es.toList[i]?
 rw [←Array.length_toList,pick_all] at z
 exact z
section
variable {P:Program} {w:World} {A:Around} {E:Value→Shared→Prop} {s:Shared} {a:Addr} {S:Str→Bool} {n:Nat}
theorem relay_raw {ob:Obj} {es:Array (Int×Value)} {ep:Nat} {t:SetTable} (hob:s.heap.get? a=some ob) (hd:ob.data= .set es ep t) (hf:t.fits es.size=true) {wanted:Nat} (hw:wanted≤80) (hn:es.size≤wanted) {Q:Unit→Shared→Prop}
  (hQ:∀(es':Array (Int×Value)) (t':SetTable),es'.toList.Perm es.toList→t'.place.size=es.size→Ris t'.place.toList→t'.mask=SetTable.sizeAbove wanted - 1→t'.dummies= #[]→t'.led=t.led→Q () {s with heap:=s.heap.update a (Obj.putSet es' t')}):wpAny (model P w) A (setRelay a wanted) Q E s:=by
 obtain ⟨k1,k2,k3⟩:=aAl hw
 obtain ⟨t',order,e,hp,hs,hr,hm,hdm,hl,_,_⟩:=laid_any k1 (finger:=t.finger) (moves:=t.movedTo (SetTable.sizeAbove wanted - 1)) (led:=t.led) (plain:=t.plain) (hs:=es.map (·.1)) (by rw [Array.size_map];omega)
 rw [Array.size_map] at hp hs
 have pm:=order_any es order hp
 have hz:(order.filterMap (es[·]?)).size=es.size:=by rw [←Array.length_toList,pm.length_eq,Array.length_toList]
 have e2:t.relaid (es.map (·.1)) wanted=some (t',order):=e
 rw [setRelay_eq]
 refine wpAny_bind (wpAny_setState_of hob hd hf ?_)
 dsimp only
 refine wp_if_neg (by rw [sizeLine_eq];omega) ?_
 try refine wpAny_bind (wpAny_pure ?_)
 rw [e2]
 dsimp only
 refine wpAny_bind ?_
 refine wp_if_neg (by rw [hz];simp) ?_
 try refine wpAny_bind (wpAny_pure ?_)
 refine wpAny_pure ?_
 dsimp only
 refine wpAny_storeSet_of hob hd ?_ (by rw [hz,sizeLine_eq];omega)
 exact hQ _ t' pm hs hr hm hdm hl
theorem fits_of {t:SetTable} {k:Nat} (h1:t.place.size=k) (h2:t.dummies= #[]) (h3:k≤t.mask):t.fits k=true:=by
 unfold SetTable.fits SetTable.fill
 rw [h2,h1,Bool.and_eq_true,beq_iff_eq,decide_eq_true_eq]
 exact ⟨rfl,h3⟩
theorem cV.perm {h:Heap} {ob:Obj} {es es':Array (Int×Value)} {ep:Nat} {t':SetTable} (hob:h.get? a=some ob) (hx:ob.ExactSet) (hd:ob.data= .set es' ep t') (g:∀e∈es.toList,TxE w e) (nd:(es.toList.map txOf).Nodup) (hm:∀k,S k=true↔k∈es.toList.map txOf) (hb:es.size < scanBound) (hn:es.size=n)
  (pm:es'.toList.Perm es.toList) (hf:t'.fits es.size=true) (hr:Ris t'.place.toList) (hl:w.params.followText "set-order"=true∨t'.led=true):cV w h a S n:=by
 have hz:es'.size=es.size:=by rw [←Array.length_toList,pm.length_eq,Array.length_toList]
 exact ⟨ob,es',ep,t',hob,hx,hd,fun e he=>g e (pm.mem_iff.mp he),(pm.map txOf).nodup_iff.mpr nd,fun k=>(hm k).trans (pm.map txOf).mem_iff.symm,by rw [hz];exact hb,by rw [hz];exact hf,by rw [hz];exact hn,hr,hl⟩
theorem room_x (R:cV w s.heap a S n) {more:Nat} (hm:n+more≤40) {Q:Unit→Shared→Prop} (hQ:∀h',Heap.SameBut a s.heap h'→cV w h' a S n→Q () {s with heap:=h'}):wpAny (model P w) A (setRoomFor a more) Q E s:=by
 have R0:=R
 obtain ⟨ob,es,ep,t,hob,hx,hd,g,nd,hmm,hb,hf,hn,hr,hl⟩:=R
 unfold setRoomFor
 refine wpAny_bind (wpAny_setState_of hob hd hf ?_)
 dsimp only
 have hps:t.place.size=es.size:=by
  unfold SetTable.fits at hf
  rw [Bool.and_eq_true,beq_iff_eq] at hf
  exact hf.1
 unfold SetTable.roomFor
 by_cases c:(t.fill+more)*5≥t.mask*3
 ·rw [if_pos c]
  dsimp only
  rw [hps]
  refine relay_raw hob hd hf (by omega) (by omega) fun es' t' pm k1 k2 k3 k4 k5=> ?_
  have hw:=aAl (k:=(es.size+more)*2) (by omega)
  refine hQ _ (Heap.SameBut.update ..) (cV.perm (L2.store_at hob hd) hx rfl g nd hmm hb hn pm (fits_of k1 k4 (by rw [k3];omega)) k2 (hl.imp id fun z=>by rw [k5];exact z))
 ·rw [if_neg c]
  dsimp only
  exact wpAny_pure (hQ _ (.refl a s.heap) R0)
end
end DU
namespace DU
open PySem PySem.Spec PyProof.Rows L2 TS DL
theorem mU (s o:Addr) (each:Sem Unit):setMerge s o each=(do
  if s==o then return
  let (eo,epoch,to) ←setState o
  if eo.isEmpty then return
  setRoomFor s eo.size
  let (_,_,ts) ←setState s
  match ts.road to with
  | .slotForSlot=>storeSet s eo {to with finger:=ts.finger,led:=ts.led && to.led,moves:=ts.moves,plain:=ts.plain && to.plain}
  | .clean=>
   let (es,t) ←(do
    let some (t,order):=SetTable.laid ts.mask ts.finger ts.moves (led:=ts.led && to.led) (plain:=ts.plain && to.plain) (eo.map (·.1)) | unsupported "internal:set-table-without-room"
    let es':=order.filterMap (eo[·]?)
    if es'.size !=eo.size then unsupported "internal:set-table-lost-an-element"
    pure (es',t):Sem (Array (Int×Value)×SetTable))
   storeSet s es t
  | .oneByOne=>
   for (h,x) in ←setWalkUnseen o [s] (some s) do
    let _ ←holding [x] (setAddHashed s x h)
    each
    if (←setState o).2.1 !=epoch then unsupported "set.changed-during-merge"):=by rfl
section
variable {P:Program} {w:World} {A:Around} {E:Value→Shared→Prop} {s:Shared} {a r:Addr} {S:Str→Bool} {n:Nat}
theorem merge_new {each:Sem Unit} (R:cV w s.heap a S n) (hn:n≤20) (hra:r≠a) {o1:Obj} {t1:SetTable} {ep1:Nat} (ho1:s.heap.get? r=some o1) (hx1:o1.ExactSet) (hd1:o1.data= .set #[] ep1 t1)
  (hp1:t1.place.size=0) (hdm1:t1.dummies= #[]) (hm1:t1.mask=7) (hl1:w.params.followText "set-order"=true∨t1.led=true) {Q:Unit→Shared→Prop} (hQ:∀h',Heap.SameBut r s.heap h'→cV w h' r S n→Q () {s with heap:=h'}):wpAny (model P w) A (setMerge r a each) Q E s:=by
 obtain ⟨ob,es,ep,t,hob,hx,hd,g,nd,hm,hb,hf,hen,hr,hl⟩:=R
 rw [mU]
 refine wp_if_neg (by simpa using hra) ?_
 refine wpAny_bind (wpAny_setState_of hob hd hf ?_)
 dsimp only
 by_cases c:es.isEmpty=true
 ·refine wp_if_pos c (wpAny_pure ?_)
  have es0:es= #[]:=by simpa using c
  refine hQ _ (.refl r s.heap) ?_
  exact cV.perm (es:=es) ho1 hx1 hd1 g nd hm hb hen (by rw [es0]) (by rw [es0];exact fits_of hp1 hdm1 (Nat.zero_le _)) (by
   have:t1.place.toList= []:=List.eq_nil_of_length_eq_zero (by rw [Array.length_toList];exact hp1)
   rw [this]
   exact List.Pairwise.nil) hl1
 ·refine wp_if_neg c ?_
  have hf1:t1.fits (#[]:Array (Int×Value)).size=true:=fits_of hp1 hdm1 (Nat.zero_le _)
  have tail:∀(h':Heap) (ep2:Nat) (t2:SetTable),Heap.SameBut r s.heap h'→h'.get? r=some {o1 with data:= .set #[] ep2 t2}→t2.place.size=0→t2.dummies= #[]→Msk t2.mask→es.size≤t2.mask→(w.params.followText "set-order"=true∨t2.led=true)→
    wpAny (model P w) A (do
     let (_,_,ts) ←setState r
     match ts.road t with
     | .slotForSlot=>storeSet r es {t with finger:=ts.finger,led:=ts.led && t.led,moves:=ts.moves,plain:=ts.plain && t.plain}
     | .clean=>
      let (es,t) ←(do
       let some (t,order):=SetTable.laid ts.mask ts.finger ts.moves (led:=ts.led && t.led) (plain:=ts.plain && t.plain) (es.map (·.1)) | unsupported "internal:set-table-without-room"
       let es':=order.filterMap (es[·]?)
       if es'.size !=es.size then unsupported "internal:set-table-lost-an-element"
       pure (es',t):Sem (Array (Int×Value)×SetTable))
      storeSet r es t
     | .oneByOne=>
      for (h,x) in ←setWalkUnseen a [r] (some r) do
       let _ ←holding [x] (setAddHashed r x h)
       each
       if (←setState a).2.1 !=ep then unsupported "set.changed-during-merge") Q E {s with heap:=h'}:=by
   intro h' ep2 t2 sb ho2 q1 q2 q3 q4 q5
   have hf2:t2.fits (#[]:Array (Int×Value)).size=true:=fits_of q1 q2 (Nat.zero_le _)
   have hfill:t2.fill=0:=by unfold SetTable.fill;rw [q1,q2];rfl
   refine wpAny_bind (wpAny_setState_of ho2 rfl hf2 ?_)
   dsimp only
   have hroad:t2.road t=if t2.mask==t.mask && t.dummies.isEmpty then .slotForSlot else .clean:=by
    unfold SetTable.road
    rw [hfill]
    rfl
   rw [hroad]
   have hled:w.params.followText "set-order"=true∨(t2.led && t.led)=true:=by
    rcases hl with h | h
    ·exact .inl h
    ·rcases q5 with h2 | h2
     ·exact .inl h2
     ·exact .inr (by rw [h,h2];rfl)
   have hz:es.size≤sizeLine:=fits_of_scanBound hb
   by_cases cc:(t2.mask==t.mask && t.dummies.isEmpty)=true
   ·rw [if_pos cc]
    try dsimp only
    refine wpAny_storeSet_of ho2 rfl ?_ hz
    exact hQ _ (sb.trans (Heap.SameBut.update ..)) (cV.perm (L2.store_at ho2 rfl) hx1 rfl g nd hm hb hen (List.Perm.refl _) hf hr hled)
   ·rw [if_neg cc]
    try dsimp only
    obtain ⟨t',order,e,hp,hs,hr',hm',hdm,hl',_,_⟩:=laid_any q3 (finger:=t2.finger) (moves:=t2.moves) (led:=t2.led && t.led) (plain:=t2.plain && t.plain) (hs:=es.map (·.1)) (by rw [Array.size_map];exact q4)
    rw [Array.size_map] at hp hs
    have pm:=order_any es order hp
    have hz2:(order.filterMap (es[·]?)).size=es.size:=by rw [←Array.length_toList,pm.length_eq,Array.length_toList]
    refine wpAny_bind ?_
    rw [e]
    dsimp only
    refine wp_if_neg (by rw [hz2];simp) ?_
    try refine wpAny_bind (wpAny_pure ?_)
    refine wpAny_pure ?_
    dsimp only
    refine wpAny_storeSet_of ho2 rfl ?_ (by rw [hz2];exact hz)
    exact hQ _ (sb.trans (Heap.SameBut.update ..)) (cV.perm (L2.store_at ho2 rfl) hx1 rfl g nd hm hb hen pm (fits_of hs hdm (by rw [hm'];exact q4)) hr' (hled.imp id fun z=>by rw [hl'];exact z))
  refine wpAny_bind ?_
  unfold setRoomFor
  refine wpAny_bind (wpAny_setState_of ho1 hd1 hf1 ?_)
  dsimp only
  have hfill1:t1.fill=0:=by unfold SetTable.fill;rw [hp1,hdm1];rfl
  unfold SetTable.roomFor
  by_cases c2:(t1.fill+es.size)*5≥t1.mask*3
  ·rw [if_pos c2]
   dsimp only
   rw [hp1]
   have hw:=aAl (k:=(0+es.size)*2) (by omega)
   refine relay_raw ho1 hd1 hf1 (by omega) (Nat.zero_le _) fun es' t' pm k1 k2 k3 k4 k5=> ?_
   have e0:es'= #[]:=by
    have:=pm.length_eq
    simpa using this
   subst e0
   refine tail _ _ t' (Heap.SameBut.update ..) (L2.store_at ho1 hd1) k1 k4 (by rw [k3];exact hw.1) (by rw [k3];omega) (hl1.imp id fun z=>by rw [k5];exact z)
  ·rw [if_neg c2]
   dsimp only
   refine wpAny_pure ?_
   refine tail s.heap ep1 t1 (.refl r s.heap) ?_ hp1 hdm1 (by rw [hm1];exact msk7) (by rw [hm1] at c2 ⊢;rw [hfill1] at c2;omega) hl1
   rw [ho1]
   congr 1
   cases o1
   simp at hd1 ⊢
   exact hd1
end
end DU
namespace DU
open PySem PySem.Spec PyProof.Rows L2 TS DL
theorem setWalk_eq (a:Addr):setWalk a=(do
  let (es,epoch,t) ←setState a
  if ←setsByText then return pickOrder ((←ask).params.setOrder a epoch) es
  if (!t.plain && es.size > 1) then return (←drawOrder es.size es.toList).toArray
  (do if !t.led && es.size > 1 then unsupported "set:maker-not-led" :Sem Unit)
  return es):=by rfl
section
variable {P:Program} {w:World} {A:Around} {E:Value→Shared→Prop} {s:Shared} {a r:Addr} {S T:Str→Bool} {n m:Nat}
structure Wk (w:World) (S:Str→Bool) (n:Nat) (es:Array (Int×Value)):Prop where
 g:∀e∈es.toList,TxE w e
 m:∀k,S k=true↔k∈es.toList.map txOf
 z:es.size=n
theorem Wk.perm {es es':Array (Int×Value)} (h:Wk w S n es) (p:es'.toList.Perm es.toList):Wk w S n es':=
 ⟨fun e he=>h.g e (p.mem_iff.mp he),fun k=>(h.m k).trans (p.map txOf).mem_iff.symm,by rw [←Array.length_toList,p.length_eq,Array.length_toList];exact h.z⟩
theorem walk_x (R:cV w s.heap a S n) {Q:Array (Int×Value)→Shared→Prop} (hQ:∀es d,Wk w S n es→Q es {s with drawn:=d}):wpAny (model P w) A (setWalk a) Q E s:=by
 obtain ⟨ob,es,ep,t,hob,hx,hd,g,nd,hm,hb,hf,hn,hr,hl⟩:=R
 have W:Wk w S n es:=⟨g,hm,hn⟩
 rw [setWalk_eq]
 refine wpAny_bind (wpAny_setState_of hob hd hf ?_)
 dsimp only
 refine wpAny_bind (wpAny_byText ?_)
 by_cases c:w.params.followText "set-order"=true
 ·refine wp_if_pos c ?_
  refine wpAny_bind (wpAny_askSetting (wpAny_pure ?_))
  exact hQ _ s.drawn (W.perm (pick_perm _ _))
 ·refine wp_if_neg c ?_
  split
  ·refine wpAny_bind (drawOrder_at _ _ _ _ (by rw [Array.length_toList];exact Nat.le_refl _) fun ys d p=>wpAny_pure ?_)
   exact hQ _ d (W.perm (by simpa using p))
  ·have hl2:t.led=true:=hl.resolve_left c
   refine wpAny_bind ?_
   rw [hl2]
   refine wp_if_neg (by simp) (wpAny_pure (wpAny_pure ?_))
   exact hQ _ s.drawn W
theorem quiet_x (R:cV w s.heap a S n) (R2:cV w s.heap r T m) {Q:Bool→Shared→Prop} (h:Q true s):wpAny (model P w) A (setsQuiet [a,r]) Q E s:=by
 have hall:∀x∈ [a,r],∃S n,cV w s.heap x S n:=fun x hx=>by
  rcases List.mem_cons.mp hx with rfl | hx
  ·exact ⟨_,_,R⟩
  ·rw [List.mem_singleton.mp hx];exact ⟨_,_,R2⟩
 unfold setsQuiet
 refine wpAny_bind (wpAny_forIn_list _ (fun rest b s'=>s'=s∧b.1=none∧∀x∈rest,∃S n,cV w s.heap x S n) _ ?_ ?_ _ _ ⟨rfl,rfl,hall⟩)
 ·rintro x rest b s' ⟨rfl,hb,hx⟩
  obtain ⟨S',n',ob,es,ep,t,hob,_,hd,g,_,_,_,hf,_⟩:=hx x List.mem_cons_self
  unfold setEntries
  refine wpAny_bind (wpAny_bind (wpAny_setState_of hob hd hf (wpAny_pure ?_)))
  refine wpAny_bind (wpAny_forIn_array' _ (fun rest2 b2 s2=>s2=s'∧b2.1=none∧∀e∈rest2,TxE w e) _ ?_ ?_ _ _ ⟨rfl,rfl,g⟩)
  ·rintro ⟨hh,v⟩ rest2 b2 s2 ⟨rfl,hb2,hg⟩
   obtain ⟨k,tk,e1,_⟩:=hg _ List.mem_cons_self
   have e1:v= .str k tk:=e1
   subst e1
   exact wpAny_pure ⟨rfl,rfl,fun e he=>hg e (List.mem_cons_of_mem _ he)⟩
  ·rintro ⟨b2,u2⟩ s2 ⟨rfl,hb2,_⟩
   obtain rfl:b2=none:=hb2
   exact wpAny_pure ⟨rfl,rfl,fun y hy=>hx y (List.mem_cons_of_mem _ hy)⟩
 ·rintro ⟨b,u⟩ s' ⟨rfl,hb,_⟩
  obtain rfl:b=none:=hb
  exact wpAny_pure h
theorem unseen_x (R:cV w s.heap a S n) (R2:cV w s.heap r T m) {Q:Array (Int×Value)→Shared→Prop} (hQ:∀es d h',Wk w S n es→Heap.SameBut r s.heap h'→cV w h' r T m→Q es {s with heap:=h',drawn:=d}):wpAny (model P w) A (setWalkUnseen a [r] (some r)) Q E s:=by
 have R0:=R
 have R20:=R2
 obtain ⟨ob,es,ep,t,hob,hx,hd,g,nd,hm,hb,hf,hn,hr,hl⟩:=R
 have W:Wk w S n es:=⟨g,hm,hn⟩
 have wk:wpAny (model P w) A (setWalk a) Q E s:=walk_x R0 fun es d W=>hQ es d s.heap W (.refl r s.heap) R20
 unfold setWalkUnseen
 refine wpAny_bind (wpAny_setState_of hob hd hf ?_)
 dsimp only
 refine wpAny_bind (wpAny_byText ?_)
 split
 ·first | exact wk | (refine wpAny_bind (wpAny_mono wk (fun x s' h=>wpAny_pure h) fun _ _ h=>h))
 ·rename_i hc
  refine wpAny_bind (quiet_x R0 R20 ?_)
  refine wp_if_neg (by simp) ?_
  refine wpAny_bind (wpAny_rule ?_)
  obtain ⟨ob2,es2,ep2,t2,hob2,hx2,hd2,g2,nd2,hm2,hb2,hf2,hn2,hr2,hl2⟩:=R2
  try dsimp only
  refine wpAny_bind (wpAny_setState_of hob2 hd2 hf2 ?_)
  dsimp only
  split
  ·refine wpAny_bind (wpAny_storeSet_of hob2 hd2 ?_ (fits_of_scanBound hb2))
   refine wpAny_pure (hQ es s.drawn _ W (Heap.SameBut.update ..) ?_)
   refine cV.perm (L2.store_at hob2 hd2) hx2 rfl g2 nd2 hm2 hb2 hn2 (List.Perm.refl _) hf2 hr2 ?_
   rcases hl with h | h
   ·exact .inl h
   ·rcases hl2 with h2 | h2
    ·exact .inl h2
    ·exact .inr (by show (t2.led && t.led)=true;rw [h,h2];rfl)
  ·exact wpAny_pure (hQ es s.drawn s.heap W (.refl r s.heap) R20)
end
end DU
namespace DU
open PySem PySem.Spec PyProof.Rows L2 TS DL
section
variable {P:Program} {w:World} {A:Around} {E:Value→Shared→Prop} {s:Shared} {a r:Addr} {S T:Str→Bool} {n m:Nat}
theorem xT {h h':Heap} {b:Addr} (sb:Heap.SameBut r h h') (hne:b≠r):h'.get? b=h.get? b:=sb.2 b hne
theorem merge_x {each:Sem Unit} (R:cV w s.heap a S n) (R2:cV w s.heap r T m) (hm0:0 < m) (hnm:n+m≤40) (hra:r≠a) (heach:∀(s':Shared) (Q:Unit→Shared→Prop),s'.heap.get? a=s.heap.get? a→Q () s'→wpAny (model P w) A each Q E s')
  {Q:Unit→Shared→Prop} (hQ:∀h' d c,Heap.SameBut r s.heap h'→c≤n+m→cV w h' r (fun k=>T k || S k) c→Q () {s with heap:=h',drawn:=d}):wpAny (model P w) A (setMerge r a each) Q E s:=by
 have R0:=R
 obtain ⟨ob,es,ep,t,hob,hx,hd,g,nd,hm,hb,hf,hn,hr,hl⟩:=R
 rw [mU]
 refine wp_if_neg (by simpa using hra) ?_
 refine wpAny_bind (wpAny_setState_of hob hd hf ?_)
 dsimp only
 by_cases c:es.isEmpty=true
 ·refine wp_if_pos c (wpAny_pure ?_)
  have es0:es= #[]:=by simpa using c
  refine hQ s.heap s.drawn m (.refl r s.heap) (by omega) (R2.congr fun k=> ?_)
  have:S k=false:=by
   cases e:S k with
   | false=>rfl
   | true=>
    have:=(hm k).mp e
    rw [es0] at this
    simp at this
  rw [this,Bool.or_false]
 ·refine wp_if_neg c ?_
  refine wpAny_bind (room_x R2 (by omega) fun h1 sb1 R21=> ?_)
  have R21':=R21
  obtain ⟨ob2,es2,ep2,t2,hob2,hx2,hd2,g2,nd2,hm2,hb2,hf2,hn2,hr2,hl2⟩:=R21
  refine wpAny_bind (wpAny_setState_of hob2 hd2 hf2 ?_)
  dsimp only
  have hroad:t2.road t= .oneByOne:=by
   unfold SetTable.road
   have:t2.fill≠0:=by
    unfold SetTable.fits at hf2
    rw [Bool.and_eq_true,beq_iff_eq] at hf2
    unfold SetTable.fill
    omega
   rw [if_pos (by simpa using this)]
  rw [hroad]
  dsimp only
  have Ra:cV w h1 a S n:=R0.at fun o e=>by rw [xT sb1 (Ne.symm hra)];exact e
  refine wpAny_bind (unseen_x (s:={s with heap:=h1}) Ra R21' fun es' d h2 W sb2 R22=> ?_)
  refine wpAny_bind (wpAny_forIn_array' _ (fun rest b s'=> ∃done c,es'.toList=done++rest∧c≤m+done.length∧Heap.SameBut r s.heap s'.heap∧cV w s'.heap r (fun k=>T k || decide (k∈done.map txOf)) c∧s'={s with heap:=s'.heap,drawn:=d}) _ ?_ ?_ _ _ ⟨[],m,rfl,by simp,sb1.trans sb2,R22.congr fun k=>by simp,rfl⟩)
  ·rintro ⟨hh,v⟩ rest b s' ⟨done,c',e1,hc,sb,R3,es'e⟩
   have hmem:(hh,v)∈es'.toList:=by rw [e1];exact List.mem_append_right _ List.mem_cons_self
   have hlen:done.length+rest.length+1=n:=by
    have:=congrArg List.length e1
    rw [Array.length_toList,W.z,List.length_append,List.length_cons] at this
    omega
   obtain ⟨k,tk,ek,eh⟩:=W.g _ hmem
   have ek:v= .str k tk:=ek
   have eh:hh=hashStr w k:=eh
   subst ek eh
   have hsa:s'.heap.get? a=s.heap.get? a:=xT sb (Ne.symm hra)
   refine wpAny_bind (wpAny_holding (qW R3 (by show c'+1 < 4096;omega) fun h3 sb3 R4=> ?_))
   refine wpAny_bind (heach _ _ ((xT sb3 (Ne.symm hra)).trans hsa) ?_)
   refine wpAny_bind (wpAny_setState_of (o:=ob) (es:=es) (ep:=ep) (t:=t) ?_ hd hf ?_)
   ·show h3.get? a=some ob
    rw [xT sb3 (Ne.symm hra),hsa,hob]
   refine wp_if_neg (by simp) (wpAny_pure ?_)
   refine ⟨done++ [(hashStr w k,.str k tk)],_,by rw [e1,List.append_assoc];rfl,?_,sb.trans sb3,R4.congr fun j=> ?_,by rw [es'e]⟩
   ·rw [List.length_append,List.length_singleton]
    split <;> omega
   ·have:txOf (hashStr w k,Value.str k tk)=k:=rfl
    rw [List.map_append,List.map_singleton,this,Bool.or_assoc]
    congr 1
    by_cases z1:j∈done.map txOf
    ·rw [decide_eq_true z1,decide_eq_true (List.mem_append_left _ z1)];rfl
    ·by_cases z2:j=k
     ·rw [decide_eq_true z2,decide_eq_true (List.mem_append_right _ (List.mem_singleton.mpr z2)),Bool.or_true]
     ·rw [decide_eq_false z1,decide_eq_false z2,decide_eq_false fun z=>(List.mem_append.mp z).elim z1 fun z=>z2 (List.mem_singleton.mp z)];rfl
  ·rintro b s' ⟨done,c',e1,hc,sb,R3,es'e⟩
   rw [List.append_nil] at e1
   have hlen:done.length=n:=by rw [←e1,Array.length_toList];exact W.z
   refine wpAny_pure ?_
   rw [es'e]
   refine hQ _ d c' sb (by omega) (R3.congr fun k=> ?_)
   congr 1
   have:=W.m k
   rw [e1] at this
   cases e:S k with
   | true=>rw [decide_eq_true (this.mp e)]
   | false=>rw [decide_eq_false (fun z=>by rw [this.mpr z] at e;cases e)]
end
end DU
namespace DU
open PySem PySem.Spec PyProof.Rows L2 TS DL
def unionOf (id:String) (l:Addr) (r:Value):Sem Value:=do
 let result ←Builtin.Frozenset.copyOf l
 if r != .ref l then holding [result] (Builtin.Frozenset.updateFrom id (←Builtin.Frozenset.addrOf result) r)
 return result
theorem or_eq:Builtin.«frozenset.__or__» =(fun args=>do
  let (self,other) ←Builtin.Frozenset.slot1 "__or__" args
  let (l,r):=if false then (other,self) else (self,other)
  if !(←Builtin.Frozenset.isAnySet l <&&> Builtin.Frozenset.isAnySet r) then
   rule s!"frozenset.{"__or__"}.declined"
   return ←ret .notImplemented
  ret (←unionOf s!"frozenset.{"__or__"}" (←Builtin.Frozenset.addrOf l) r)):=by rfl
theorem mQ:Slot "set" "__or__" "set.__or__" :=
 .of (owner:="set") (n:="__or__") (by rw [typeLookup_type,builtinLookup_eq_fast];kernel_rfl) (by decide+kernel) (by decide+kernel) (by decide+kernel)
  (by first | exact .inl (by decide+kernel) | exact .inr (by decide+kernel)) (by rw [isSubtype_type];kernel_rfl)
theorem set_or_entry:entryFor table "set.__or__"=some Builtin.«frozenset.__or__» :=entryFor_alias (id':="frozenset.__or__") (by kernel_rfl) rfl (by decide+kernel) (by kernel_rfl)
theorem set_or_args (a b:Value):argsOk "set.__or__" ⟨[a,b],[]⟩:=by unfold argsOk;kernel_rfl
theorem set_or_fills:fillsNumberSlot (.type "set") "or"=pure true:=
 fillsNumberSlot_of (id:="set.__or__") (r:=some (.builtin "set.__ror__")) (by show typeLookup (.type "set") "__or__"=_;rw [typeLookup_type,builtinLookup_eq_fast];kernel_rfl) (by decide+kernel) (by show typeLookup (.type "set") "__ror__"=_;rw [typeLookup_type,builtinLookup_eq_fast];kernel_rfl)
end DU
namespace DU
open PySem PySem.Spec PyProof.Rows L2 TS DL
section
variable {P:Program} {w:World} {A:Around} {E:Value→Shared→Prop} {s:Shared} {a b r:Addr} {S T:Str→Bool} {n m:Nat}
theorem yM (R:cV w s.heap a S n):s.TypeIs (.ref a) "set" :=by
 obtain ⟨ob,es,ep,t,hob,hx,_⟩:=R
 exact ⟨ob,hob,hx.1⟩
theorem uO (R:cV w s.heap a S n) {Q:Bool→Shared→Prop} (h:Q true s):wpAny (model P w) A (Builtin.Frozenset.isAnySet (.ref a)) Q E s:=by
 unfold Builtin.Frozenset.isAnySet orM
 refine wpAny_bind (wpAny_isInstance (yM R) sub_set_self ?_)
 exact wpAny_pure h
theorem merge_nil {each:Sem Unit} (R:cV w s.heap a S 0) (hra:r≠a) {Q:Unit→Shared→Prop} (h:Q () s):wpAny (model P w) A (setMerge r a each) Q E s:=by
 obtain ⟨ob,es,ep,t,hob,hx,hd,g,nd,hm,hb,hf,hn,_⟩:=R
 rw [mU]
 refine wp_if_neg (by simpa using hra) ?_
 refine wpAny_bind (wpAny_setState_of hob hd hf ?_)
 dsimp only
 exact wp_if_pos (by simpa using hn) (wpAny_pure h)
theorem copy_x (R:cV w s.heap a S n) (hn:n≤20) {Q:Value→Shared→Prop} (hQ:∀h',Heap.SameBut s.heap.objs.size (s.heap.push {cls:= .type "set",dict:=none,data:= .set #[] 0 (.fresh 0 0 (!w.params.followText "set-order"))}) h'→
  (n=0→h'=s.heap.push {cls:= .type "set",dict:=none,data:= .set #[] 0 (.fresh 0 0 (!w.params.followText "set-order"))})→cV w h' s.heap.objs.size S n→Q (.ref s.heap.objs.size) {s with heap:=h'}):wpAny (model P w) A (Builtin.Frozenset.copyOf a) Q E s:=by
 have hra:s.heap.objs.size≠a:=by
  obtain ⟨ob,es,ep,t,hob,_⟩:=R
  exact Ne.symm (Nat.ne_of_lt (Heap.lt_size hob))
 unfold Builtin.Frozenset.copyOf Builtin.Frozenset.baseOf
 refine wpAny_bind (wpAny_bind (wpAny_isInstance (yM R) sub_set_self ?_))
 refine wpAny_pure ?_
 refine wpAny_bind (PpSet.newSet_ok ?_)
 refine wpAny_bind (m:=Builtin.Frozenset.addrOf _) (wpAny_pure ?_)
 have R1:cV w (s.heap.push {cls:= .type "set",dict:=none,data:= .set #[] 0 (.fresh 0 0 (!w.params.followText "set-order"))}) a S n:=R.at fun o e=>Heap.get?_push_of_some _ e
 have hnew:(s.heap.push {cls:= .type "set",dict:=none,data:= .set #[] 0 (.fresh 0 0 (!w.params.followText "set-order"))}).get? s.heap.objs.size=some {cls:= .type "set",dict:=none,data:= .set #[] 0 (.fresh 0 0 (!w.params.followText "set-order"))}:=Heap.get?_push_size _ rfl
 by_cases h0:n=0
 ·subst h0
  refine wpAny_bind (merge_nil (s:={s with heap:=_}) R1 hra ?_)
  refine wpAny_pure (hQ _ (.refl _ _) (fun _=>rfl) ?_)
  have hS:∀k,S k=false:=fun k=>by
   obtain ⟨ob,es,ep,t,hob,hx,hd,g,nd,hm,hb,hf,hn,_⟩:=R
   cases e:S k with
   | false=>rfl
   | true=>
    have:=(hm k).mp e
    have es0:es= #[]:=by simpa using hn
    rw [es0] at this
    simp at this
  exact (oX hnew).congr hS
 ·refine wpAny_bind (merge_new (s:={s with heap:=_}) R1 hn hra hnew ⟨rfl,rfl,rfl⟩ rfl rfl rfl rfl ?_ fun h' sb R2=> ?_)
  ·show _∨(!w.params.followText "set-order")=true
   cases w.params.followText "set-order"
   ·exact .inr rfl
   ·exact .inl rfl
  ·exact wpAny_pure (hQ h' sb (fun z=>absurd z h0) R2)
theorem unch_x {id:String} {ep:Nat} {ob:Obj} {es:Array (Int×Value)} {t:SetTable} (hob:s.heap.get? b=some ob) (hd:ob.data= .set es ep t) (hf:t.fits es.size=true) {Q:Unit→Shared→Prop} (h:Q () s):wpAny (model P w) A (Builtin.Frozenset.unchanged id b ep) Q E s:=by
 unfold Builtin.Frozenset.unchanged
 refine wpAny_bind (wpAny_setEpoch_of hob hd hf ?_)
 exact wp_if_neg (by simp) (wpAny_pure h)
theorem union_x {id:String} (R:cV w s.heap a S n) (R2:cV w s.heap b T m) (hab:a≠b) (hn:n≤20) (hm:m≤20) {Q:Value→Shared→Prop}
  (hQ:∀h' d c,(∀x o,s.heap.get? x=some o→h'.get? x=some o)→c≤n+m→cV w h' s.heap.objs.size (fun k=>S k || T k) c→Q (.ref s.heap.objs.size) {s with heap:=h',drawn:=d}):wpAny (model P w) A (unionOf id a (.ref b)) Q E s:=by
 have hrb:s.heap.objs.size≠b:=by
  obtain ⟨ob,es,ep,t,hob,_⟩:=R2
  exact Ne.symm (Nat.ne_of_lt (Heap.lt_size hob))
 unfold unionOf
 refine wpAny_bind (copy_x R hn fun h1 sb h0 R1=> ?_)
 have old:∀x o,s.heap.get? x=some o→h1.get? x=some o:=fun x o e=>by
  rw [xT sb (Nat.ne_of_lt (Heap.lt_size e))]
  exact Heap.get?_push_of_some _ e
 have R21:cV w h1 b T m:=R2.at fun o e=>old _ _ e
 have hne:(Value.ref b !=Value.ref a)=true:=by
  rw [bne_iff_ne]
  exact fun e=>hab (by injection e with e;exact e.symm)
 refine wp_if_pos hne ?_
 refine wpAny_bind (m:=Builtin.Frozenset.addrOf _) (wpAny_pure ?_)
 have fin:∀h2 d c,Heap.SameBut s.heap.objs.size h1 h2→c≤n+m→cV w h2 s.heap.objs.size (fun k=>S k || T k) c→Q (.ref s.heap.objs.size) {s with heap:=h2,drawn:=d}:=fun h2 d c sb2 hc R3=>hQ h2 d c (fun x o e=>by
  rw [xT sb2 (Nat.ne_of_lt (Heap.lt_size e))]
  exact old x o e) hc R3
 refine wpAny_bind (wpAny_holding ?_)
 unfold Builtin.Frozenset.updateFrom
 refine wpAny_bind (uO (s:={s with heap:=h1}) R21 ?_)
 refine wp_if_pos rfl ?_
 have R21':=R21
 obtain ⟨ob,es,ep,t,hob,hx,hd,g,nd,hmm,hb,hf,hmn,hr,hl⟩:=R21'
 have step:wpAny (model P w) A (Builtin.Frozenset.merge id s.heap.objs.size b) (fun _ s'=> ∃h2 d c,Heap.SameBut s.heap.objs.size h1 h2∧c≤n+m∧cV w h2 s.heap.objs.size (fun k=>S k || T k) c∧s'={s with heap:=h2,drawn:=d}) E {s with heap:=h1}:=by
  unfold Builtin.Frozenset.merge
  refine wpAny_bind (wpAny_setEpoch_of (s:={s with heap:=h1}) hob hd hf ?_)
  by_cases z:n=0
  ·obtain rfl:=h0 z
   subst z
   refine merge_new (s:={s with heap:=_}) R21 hm hrb (Heap.get?_push_size _ rfl) ⟨rfl,rfl,rfl⟩ rfl rfl rfl rfl ?_ fun h' sb2 R3=>⟨h',s.drawn,m,sb2,by omega,R3.congr fun k=> ?_,rfl⟩
   ·show _∨(!w.params.followText "set-order")=true
    cases w.params.followText "set-order"
    ·exact .inr rfl
    ·exact .inl rfl
   ·have hS:S k=false:=by
     obtain ⟨ob,es,ep,t,hob,hx,hd,g,nd,hm',hb,hf,hn',_⟩:=R
     cases e:S k with
     | false=>rfl
     | true=>
      have:=(hm' k).mp e
      have es0:es= #[]:=by simpa using hn'
      rw [es0] at this
      simp at this
    rw [hS]
    rfl
  ·refine merge_x (s:={s with heap:=h1}) R21 R1 (by omega) (by omega) hrb (fun s' Q' hs q=>unch_x (by rw [hs];exact hob) hd hf q) fun h' d c sb2 hc R3=>⟨h',d,c,sb2,by omega,R3,rfl⟩
 refine wpAny_bind (m:=Builtin.Frozenset.addrOf _) (wpAny_pure ?_)
 refine wpAny_mono step (fun _ s' ⟨h2,d,c,sb2,hc,R3,e⟩=> ?_) fun _ _ h=>h
 subst e
 exact wpAny_pure (fin h2 d c sb2 hc R3)
end
end DU
namespace DU
open PySem PySem.Spec PyProof.Rows L2 TS DL
section
variable {P:Program} {w:World} {A:Around} {E:Value→Shared→Prop} {s:Shared} {a b r:Addr} {S T:Str→Bool} {n m:Nat}
theorem slot1_ab:Builtin.Frozenset.slot1 "__or__" ⟨[.ref a,.ref b],[]⟩=pure (.ref a,.ref b):=by
 unfold Builtin.Frozenset.slot1 slotArgs
 rfl
theorem or_x (R:cV w s.heap a S n) (R2:cV w s.heap b T m) (hab:a≠b) (hn:n≤20) (hm:m≤20) {Q:Value→Shared→Prop}
  (hQ:∀h' d c,(∀x o,s.heap.get? x=some o→h'.get? x=some o)→c≤n+m→cV w h' s.heap.objs.size (fun k=>S k || T k) c→Q (.ref s.heap.objs.size) {s with heap:=h',drawn:=d}):wpAny (model P w) A (binaryOp .BitOr (.ref a) (.ref b)) Q E s:=by
 refine wpAny_binaryOp_same (T:="set") (id:="set.__or__") (yM R) (yM R2) set_or_fills mQ ?_
 refine wpAny_call (codeAny_call_builtin mQ.plain set_or_entry (mQ.check _ _ _ _ _ _ _ _ (yM R) (set_or_args _ _) ?_))
 rw [or_eq]
 dsimp only
 rw [slot1_ab]
 refine wpAny_bind (wpAny_pure ?_)
 simp only [Bool.false_eq_true,if_false]
 unfold andM
 refine wpAny_bind (wpAny_bind (uO R ?_))
 show wpAny (model P w) A.in1 (Builtin.Frozenset.isAnySet (.ref b)) _ _ _
 refine uO R2 ?_
 refine wp_if_neg (by simp) ?_
 refine wpAny_bind (m:=Builtin.Frozenset.addrOf _) (wpAny_pure ?_)
 refine wpAny_bind (union_x R R2 hab hn hm fun h' d c old hc R3=> ?_)
 exact wpAny_pure ⟨fun e=>(nomatch e),hQ h' d c old hc R3⟩
end
abbrev rOrX (w:World):R2:=fun x y H Q=> ∃(a b:Addr) (S T:Str→Bool) (n m:Nat),x= .ref a∧y= .ref b∧a≠b∧n≤20∧m≤20∧H a=some (.ext fun h=>cV w h a S n)∧H b=some (.ext fun h=>cV w h b T m)∧
 ∀p c,H p=none→c≤n+m→Q (.ref p) (upd H p (.ext fun h=>cV w h p (fun k=>S k || T k) c))
theorem op_orX {X:Cx}:OpR X (binaryOp .BitOr) (rOrX X.w):=fun pins s σ H x y v u Q I rx ry ⟨a,b,S,T,n,m,ex,ey,hab,hn,hm,ha,hb,q⟩=>by
 subst ex ey
 obtain rfl:v=Value.ref a:=rx
 obtain rfl:u=Value.ref b:=ry
 have R:cV X.w s.heap a S n:=(I.hok a _ ha).1
 have R2:cV X.w s.heap b T m:=(I.hok b _ hb).1
 have hnew:H s.heap.objs.size=none:=I.hok.fresh (Nat.le_refl _)
 refine or_x R R2 hab hn hm fun h' d c old hc R3=> ?_
 have J:Inv X pins σ (upd H s.heap.objs.size (.ext fun h=>cV X.w h s.heap.objs.size (fun k=>S k || T k) c)) {s with heap:=h',gens:=s.gens,drawn:=d,toks:=s.toks}:=
  I.call (ch:= []) (Un.laid old (Nat.le_refl _) hnew) (I.hok.laid old (Nat.le_refl _) (qH R3)) I.bare (fun _ z=>nomatch z)
 exact ⟨.ref s.heap.objs.size,_,J,rfl,q _ c hnew hc⟩
section
variable {C:DL.Ctx} {Γ:Gm} {L:Lp} {Q:D→Lp→Prop}
theorem or_X {p z:Addr} {S T:Str→Bool} {n m:Nat} (hp:L p=some (.txs S n)) (hz:L z=some (.txs T m)) (hne:p≠z) (hn:n≤20) (hm:m≤20) (q:∀l c,L l=none→c≤n+m→Q (.ptr l) (put L l (.txs (fun k=>S k || T k) c))):L2R C (rOrX C.X.w) (.ptr p) (.ptr z) L Q:=fun F vx vy H c rx ry QV go=>by
 obtain ⟨h1,s1⟩:=c.at_ p _ hp
 obtain ⟨h2,s2⟩:=c.at_ z _ hz
 refine ⟨p,z,S,T,n,m,rx.ptrE,ry.ptrE,hne,hn,hm,h1,h2,fun l k hl hk=> ?_⟩
 exact go _ _ _ (put L l (.txs (fun k=>S k || T k) k)) (.ptr l) (c.newL hl ⟨upd_same,fun x hx=>(Bool.or_eq_true _ _ ▸hx).elim (s1 x) (s2 x)⟩) (.newL hl) (q l k (c.free hl) hk)
end
end DU
namespace DL
open PySem PySem.Spec PyProof.Rows L2
def aAX (K:PySem.W.Frag) (fld:Str):Sp:=fun vs H Q _=> ∃(a C:Addr) (y:V),vs= [.ref a,y]∧OexC K C∧PySem.W.findIn K (.ref C) fld=some none∧H a=some (exo a C none)∧∀dx,H dx=none→dx≠a→Q .non (upd (upd H dx (exd dx [(fld,y)])) a (exo a C (some dx)))
theorem vis_par {N ps:List Str} {sc:Scope} (S:FnScope N ps sc) {x:Str} (h:x∈ps):Vis sc x:=(S.par x h).elim .inl fun z=> .inr (.inl z)
theorem fn_we {P:Program} {w:World} {K:PySem.W.Frag} {mg:Str→Option Value} {base:Heap} {x qual:Str} {st:Stmt} {f:Addr} {fd:FuncData} {v fld:Str} {p1 p2 p3 pos:Pos} (F:FunX K x qual st f fd) (S:FnScope ["self",v] ["self",v] (defScope st))
  (hbd:defBody st= [.Assign [.Attribute (.Name "self" p1) fld p2] (.Name v p3) pos]) (hd:(v==("__debug__" :Str))=false) (hcd2:(v==("__classdict__" :Str))=false):FnOk P w K mg base (L2.CX P w) 1 f fd ["self",v] (aAX K fld):=by
 obtain ⟨oc,od,dV,kV,doc,pm,an,cdv,ct,osl,rfl,lk,hcd⟩:=F.ex
 refine fn_of (k:=0) lk hcd S (fun vs H Q E ⟨a,C,y,e,_⟩=>by rw [e];rfl) fun A outer s H vs Q E hr ⟨a,C,y,e,T,hno,ha,q⟩=> ?_
 subst e
 rw [hbd]
 refine ⟨_,pss_one (ps_ost (pe_var (i:=0) rfl (vis_par S List.mem_cons_self)) (pe_var (i:=1) rfl (vis_par S (List.mem_cons_of_mem _ List.mem_cons_self)) hd hcd2)),?_⟩
 exact ⟨y,rfl,.ref a,rfl,a,C,rfl,T,hno,.inl ⟨ha,fun dx h1 h2=>q dx h1 h2⟩⟩
end DL
namespace DL
open PySem PySem.Spec PyProof.Rows L2
open PySem.W (ksEnv ksFn ks_superIn clsIn mroIn nsIn typeIn fnIn codeIn)
def cxS (P:Program) (w:World) (K:PySem.W.Frag) (mg:Str→Option Value) (base:Heap) (N:List Str) (qual:Str) (scope:Scope) (f:Addr) (cdv:Value) (cc:Addr) (A:Around) (outer:List Env) (s:Shared) (H:Hp):Cx where
 prog:=P
 w:=w
 K:=K
 mg:=mg
 base:=base
 A:=A.deeper (ksEnv qual scope s.heap.objs.size f cdv cc)
 N:=N
 s_0:=s
 H_0:=H
 env:=ksEnv qual scope s.heap.objs.size f cdv cc
 outer:=outer
 stack:=ksEnv qual scope s.heap.objs.size f cdv cc::outer
 ex:= []
 calm:=true
 fn:=fun _=>false
 pn:= []
 xe:=fun _ _=>False
structure SuSc (sc:Scope) (v:Str):Prop where
 kind:sc.kind= .function
 co:sc.isCoroutine=false
 gen:sc.isGenerator=false
 slf:sc.names.lookup ("self" :Str)=some .local
 par:sc.names.lookup v=some .local
 sup:sc.names.lookup ("super" :Str)=some .globalImplicit
 cls:sc.names.lookup ("__class__" :Str)=some .free
 nocell:∀x∈sc.names,x.2≠ .cell
 only:∀x∈sc.names,x.2= .free→x.1=("__class__" :Str)
 ne:("self" :Str)≠v
 d1:(v==("__debug__" :Str))=false
 d2:(v==("__classdict__" :Str))=false
theorem inv_su {P:Program} {w:World} {K:PySem.W.Frag} {mg:Str→Option Value} {base:Heap} {qual v:Str} {scope:Scope} {f:Addr} {cdv:Value} {cc:Addr} {A:Around} {outer:List Env} {s:Shared} {H:Hp} {h0:Heap} {tk:Nat} {u1 u2:Value} {v1 v2:V} {oc:Obj} {w0:Option Value} (S:SuSc scope v) (hd:A.handled=none) (e0:Env0 P w K mg base A outer s H)
  (hc:K.lookup cc=some oc) (hcd:oc.data= .cell w0) (hns:h0.Ns s.heap.objs.size (fun x=>((["self",v]:List Str).zip [u1,u2]).reverse.lookup x)) (hk:∀b o,s.heap.get? b=some o→h0.get? b=some o) (r1:RelV v1 u1) (r2:RelV v2 u2):
  Inv (cxS P w K mg base ["self",v] qual scope f cdv cc A outer s H) [] [some v1,some v2] H {s with heap:=h0,toks:=tk}:=by
 have noA:∀b:Addr,b∉(cxS P w K mg base ["self",v] qual scope f cdv cc A outer s H).ex:=fun b z=>absurd (show b∈([]:List Addr) from z) (by simp)
 have one:∀{x:Str} {c:Addr},([(("__class__" :Str),cc)]:List (Str×Addr)).lookup x=some c→x=("__class__" :Str)∧c=cc:=fun {x c} h=>by
  rw [List.lookup_cons] at h
  cases e:x==("__class__" :Str) with
  | true=>rw [e] at h;exact ⟨eq_of_beq e,(Option.some.inj h).symm⟩
  | false=>rw [e] at h;cases h
 have bc:base.get? cc=some oc:=e0.mod.kin _ _ hc
 have sc:=e0.bs _ _ bc
 refine ⟨⟨e0.mod,S.kind,rfl,rfl,Nat.le_refl _,fun y z c h1 h2=>(one h1).1.trans (one h2).1.symm,fun y hy=> ?_,(fun y c h=>Bool.noConfusion h),fun _=>hd,Around.frames_deeper e0.frames,.inr ⟨rfl,rfl⟩,fun b z=>absurd z (noA b),e0.bs,e0.bsz,fun b _ _=>noA b,fun b z=>absurd z (noA b),e0.funs,e0.frf⟩,
  rfl,e0.bare,Un.kept hk,⟨_,hns,fun i y z h1 h2 h3=> ?_⟩,fun y c h=> ?_,e0.hok.fresh (Nat.le_refl _),fun y c h=> ?_,fun p hp=>absurd (show p∈([]:List (Addr×Obj)) from hp) (by simp),e0.hok.kept hk,rfl⟩
 ·have hy:scope.names.lookup y=some .cell∨scope.names.lookup y=some .free:=hy
  rcases hy with hy | hy
  ·exact absurd rfl (S.nocell _ (PySem.mem_of_lookup hy))
  ·have:y=("__class__" :Str):=S.only _ (PySem.mem_of_lookup hy) rfl
   subst this
   exact ⟨cc,rfl⟩
 ·match i,h1,h2 with
  | 0,h1,h2=>
   cases h1
   cases h2
   refine ⟨u1,r1,.inl ⟨S.slf,?_⟩⟩
   show List.lookup ("self" :Str) [(v,u2),(("self" :Str),u1)]=some u1
   have e1:(("self" :Str)==v)=false:=by simpa using S.ne
   rw [List.lookup_cons,e1]
   rfl
  | 1,h1,h2=>
   cases h1
   cases h2
   refine ⟨u2,r2,.inl ⟨S.par,?_⟩⟩
   show List.lookup v [(v,u2),(("self" :Str),u1)]=some u2
   rw [List.lookup_cons,beq_self_eq_true]
  | i+2,h1,h2=>simp [cxS] at h1
 ·obtain ⟨_,rfl⟩:=one h
  exact ⟨w0,oc,hk _ _ sc.1,hcd⟩
 ·obtain ⟨_,rfl⟩:=one h
  exact sc.2
def aAY (K:PySem.W.Frag) (C:Addr) (fld:Str):Sp:=fun vs H Q _=> ∃(a:Addr) (y:V),vs= [.ref a,y]∧H a=some (exo a C none)∧∀dx,H dx=none→dx≠a→Q .non (upd (upd (upd H dx (exd dx [("value",y)])) a (exo a C (some dx))) dx (exd dx [(fld,y),("value",y)]))
set_option maxHeartbeats 1000000 in
theorem fn_su {P:Program} {w:World} {K:PySem.W.Frag} {mg:Str→Option Value} {base:Heap} {name qual v fld:Str} {params:Arguments} {scope:Scope} {dV kV doc pm ct oc ccl cl:Value} {an od cdd cld:Option Addr} {osl ccs csl:Array (Option Value)} {f f2 C cc cda:Addr} {fd2:FuncData} {vsc:Array Value} {file:Str} {tf:Tok} {cdC:ClassData} {ar:Arg}
  {p0 p1 p2 p3 p4 p5 q1 q2 q3 q4:Pos} {body:List Stmt} (hbd:body= [.Expr (.Call (.Attribute (.Call (.Name "super" p0) [] [] p1) "__init__" p2) [.Name v p3] [] p4) p5,.Assign [.Attribute (.Name "self" q1) fld q2] (.Name v q3) q4])
  (lk:K.lookup f=some ⟨oc,od,.func (ksFn name qual params body scope dV kV doc pm an (.ref cda) ct cc),osl⟩) (hcd:codeIn K (.ref cda) qual=true) (S:SuSc scope v) (hp:(params.posonlyargs++params.args).head? =some ar) (hself:ar.arg="self")
  (hcode:K.lookup cda=some ⟨ccl,cdd,.fields vsc,ccs⟩) (hvs:vsc[2]? =some (.str file tf)) (hfile:((P.main.file:Str)==file)=true) (hcell:K.lookup cc=some ⟨cl,cld,.cell (some (.ref C)),csl⟩) (hC:clsIn K C=some cdC) (hsub:mroIn K C (.ref C)=some true)
  (hop:nsIn K cStatics "thirdparty.any"=some none) (hm:ks_superIn K C C "__init__"=some (some (.ref f2))) (ht:typeIn K (.ref f2)=some (.type "function")) (hfn:fnIn K f2=true) (htop:(P.main.scope.names.lookup ("super" :Str)).isSome=false) (hsu:mg "super"=none)
  (F2:FnOk P w K mg base (L2.CX P w) 1 f2 fd2 ["self","value"] (aAX K "value")) (hb2:Binds K fd2 ["self","value"] []) (T:OexC K C) {pl:Addr→Sem Bool}
  (he:∀L',eval (.Call (.Attribute (.Call (.Name "super" p0) [] [] p1) "__init__" p2) [.Name v p3] [] p4) (ksEnv qual scope L' f (.ref cda) cc)=(do
   let ov ←attributeBase (.Call (.Name "super" p0) [] [] p1) "__init__" (ksEnv qual scope L' f (.ref cda) cc) (eval (.Call (.Name "super" p0) [] [] p1) (ksEnv qual scope L' f (.ref cda) cc))
   standAt p2.atName
   let (g,first) ←holding [ov] (getMethod ov "__init__" (pl L'))
   callWith p4 g first (backTo p4 (starEach [.Name v p3] (ksEnv qual scope L' f (.ref cda) cc))) []))
  (n1:PySem.W.findIn K (.ref C) "value"=some none) (n2:PySem.W.findIn K (.ref C) fld=some none):
  FnOk P w K mg base (L2.CX P w) 3 f (ksFn name qual params body scope dV kV doc pm an (.ref cda) ct cc) ["self",v] (aAY K C fld):=by
 refine ⟨fun vs H Q E ⟨a,y,e,_⟩=>by rw [e];rfl,fun A outer s H args us vs Q E hr e0 hb r hsp=> ?_⟩
 obtain ⟨a,y,rfl,ha,q⟩:=hsp
 match us,r with
 | [u1,u2],.cons r1 (.cons r2 .nil)=>
 have hu1:u1= .ref a:=r1
 have KX:K.In s.heap:=e0.mod.kin.keeps fun b o e=>(e0.bs b o e).1
 have lim:s.heap.NoLimit:=e0.mod.nolimit.keeps fun b o e=>(e0.bs b o e).1
 have hloc:∀z∈(["self",v]:List Str).zip [u1,u2],scope.names.lookup z.1=some .local:=fun z hz=>by
  rcases List.mem_cons.mp hz with rfl | hz
  ·exact S.slf
  ·rw [List.mem_singleton.mp hz];exact S.par
 refine PySem.ks_codeAny_call_defAt (fd:=ksFn name qual params body scope dV kV doc pm an (.ref cda) ct cc) (body:=body) (binds:=(["self",v]:List Str).zip [u1,u2]) hr.depth (KX _ _ lk) rfl lim (PySem.W.codeRec_of KX hcd) rfl hb S.nocell hloc (fun h0 hns hk0=> ?_) S.co S.gen S.kind
 have I0:Inv (cxS P w K mg base ["self",v] qual scope f (.ref cda) cc A outer s H) [] [some (.ref a),some y] H {s with heap:=h0,toks:=s.toks+2}:=inv_su S hr.hd e0 hcell rfl hns hk0 r1 r2
 have fin:∀{s':Shared} {H':Hp} {σ':L2.St} {pins:List (Addr×Obj)},Inv (cxS P w K mg base ["self",v] qual scope f (.ref cda) cc A outer s H) pins σ' H' s'→Q .non H'→CE outer P w H s Q .none s':=fun {s' H' σ' pins} J qq=>⟨.non,H',J.os,J.bare,J.base,J.hok,rfl,qq⟩
 have goal:_root_.PySem.wpAt (model P w) (A.deeper (ksEnv qual scope s.heap.objs.size f (.ref cda) cc)) (.func body (ksEnv qual scope s.heap.objs.size f (.ref cda) cc)) (execs body (ksEnv qual scope s.heap.objs.size f (.ref cda) cc))
   (fun fl s'=>CR (L2.CX P w) outer P w H s Q E (.ok (.ret (match fl with | .ret u=>u | _=> .none))) s') (fun e s'=>False) {s with heap:=h0,toks:=s.toks+2}:=by
  have kb:∀b o,base.get? b=some o→h0.get? b=some o:=fun b o e=>hk0 _ _ (e0.bs b o e).1
  have X0:K.In h0:=e0.mod.kin.keeps kb
  obtain ⟨mb,g1,g2⟩:=e0.mod.blt
  obtain ⟨t1,hx⟩:=exo_at I0.hok ha
  obtain ⟨oD,hD1,hD2⟩:∃oD,h0.get? C=some oD∧oD.data= .cls cdC:=by
   unfold clsIn at hC
   split at hC
   ·rename_i c d cd' sl ho
    cases hC
    exact ⟨_,X0 _ _ ho,rfl⟩
   ·cases hC
  rw [hbd]
  refine PySem.ks_wpAt_execs_cons (PySem.ks_wpAt_Expr_any (PySem.ks_wpAt_MethodCall ?_ (he _)) (by simp [interactive,S.kind]))
  refine PySem.ks_wpAt_super_base (env:=ksEnv qual scope s.heap.objs.size f (.ref cda) cc) S.sup S.cls rfl rfl (X0 _ _ lk) rfl hp rfl (X0 _ _ hcode) rfl hvs hfile htop ?_
  refine PySem.W.ks_loadName_global S.kind S.sup (Calls.loadGlobal_builtin (env:=ksEnv qual scope s.heap.objs.size f (.ref cda) cc) (e0.mod.glob.keeps kb) hsu (g1.keeps kb) ((g2 "super" (by decide)).trans (by decide+kernel)) ⟨rfl,?_⟩)
  refine wpAny_loadName_free S.kind S.cls rfl ⟨_,X0 _ _ hcell,rfl⟩ ?_
  rw [hself]
  refine wpAny_loadName_local (v:= .ref a) S.kind S.slf hns ?_ ?_
  ·show List.lookup ("self" :Str) [(v,u2),(("self" :Str),u1)]=some (.ref a)
   have e1:(("self" :Str)==v)=false:=by simpa using S.ne
   rw [List.lookup_cons,e1,hu1]
   rfl
  refine PySem.ks_wpAny_isType_cls hD1 hD2 ⟨rfl,?_⟩
  refine PySem.ks_wpAny_call_super hD1 hD2 hx rfl (fun c z=>nomatch z) (PySem.W.looks_mroIn X0 hsub) (fun h1 e1 k1=> ?_)
  have I1:=I0.kept (t':=s.toks+2) k1
  have X1:K.In h1:=X0.keeps k1
  have hmro:PySem.W.Looks (model P w) h1 (mroOf (.ref C)) cdC.mro:=(PySem.W.looks_clsIn X1 hC).andThen .now
  have hm':PySem.W.alongIn K "__init__" ((cdC.mro.dropWhile (· != .ref C)).drop 1)=some (some (.ref f2)):=by
   unfold ks_superIn at hm
   rw [hC] at hm
   exact hm
  obtain ⟨of,hof,hofc⟩:∃of,h1.get? f2=some of∧of.cls= .type "function" :=by
   have ht':(K.lookup f2).map (·.cls)=some (.type "function"):=ht
   cases z:K.lookup f2 with
   | none=>rw [z] at ht';cases ht'
   | some of=>rw [z] at ht';exact ⟨of,X1 _ _ z,Option.some.inj ht'⟩
  have hxC:a≠C:=fun z=>by
   rw [z,hD1] at hx
   have:=Option.some.inj hx
   rw [this] at hD2
   cases hD2
  refine PySem.ks_wpAny_getMethod_super e1 (PySem.W.looks_opaque X1 hop) hmro rfl X1 hm' hof hofc hxC rfl ?_
  have k2:∀b o,h1.get? b=some o→(h1.push {cls:= .type "method",data:= .fields #[.ref f2,.ref a]}).get? b=some o:=fun b o e=>Heap.get?_push_of_some _ e
  have I2:=I1.kept (t':=s.toks+2+1) k2
  have hq2:(h1.push {cls:= .type "method",data:= .fields #[.ref f2,.ref a]}).get? h1.objs.size=some (PySem.W.methodObj (.ref f2) (.ref a)):=Heap.get?_push_size h1 rfl
  have nq:H h1.objs.size=none:=I1.hok.fresh (Nat.le_refl _)
  have I2p:=I2.pins_of (pins':= [(h1.objs.size,PySem.W.methodObj (.ref f2) (.ref a))]) fun p hp=>by
   have:p=(h1.objs.size,PySem.W.methodObj (.ref f2) (.ref a)):=by simpa [cxS] using hp
   subst this
   refine ⟨hq2,nq,Nat.ne_of_gt I1.lt,I1.nofs (Nat.le_refl _),fun v z=>by cases z⟩
  have va:PA (cxS P w K mg base ["self",v] qual scope f (.ref cda) cc A outer s H) [.Name v p3] _:=pa_cons (pe_var (i:=1) rfl (.inl S.par) S.d1 S.d2) pa_nil
  refine PySem.W.callWith_M (h₀:=base) (L:=s.heap.objs.size) (news:= [(h1.objs.size,PySem.W.methodObj (.ref f2) (.ref a))]) e0.mod.kin (fun p hp=> ?_) List.mem_cons_self hfn ?_ rfl rfl
  ·rw [List.mem_singleton.mp hp]
   exact ⟨hq2,Nat.ne_of_gt I1.lt,by
    cases z:base.get? h1.objs.size with
    | none=>rfl
    | some o=>exact absurd (Heap.lt_size (k1 _ _ (kb _ _ z))) (Nat.lt_irrefl _)⟩
  refine thn (va.run p4 _ _ _ H (fun vs H3=>vs= [y]∧H3=H) I2p ⟨y,rfl,rfl,rfl⟩) fun us s3 ⟨vs3,H3,I3,r3,ev,eH⟩=> ?_
  rw [ev] at r3
  rw [eH] at I3
  obtain ⟨p1',p2',_⟩:=I3.pin (h1.objs.size,PySem.W.methodObj (.ref f2) (.ref a)) (by simp [cxS])
  refine ⟨⟨p1',I3.kIn⟩,?_⟩
  refine wpAny_call (PySem.W.method_call p1' ?_)
  obtain ⟨u3,rfl,r4⟩:=vals1 r3
  have b2:=hb2 s3 [.ref a,u3] I3.kIn rfl
  refine codeAny_mono (F2.run _ _ s3 H ⟨[.ref a,u3],[]⟩ [.ref a,u3] [.ref a,y] (fun z H'=>z= .non∧∃dx,H dx=none∧dx≠a∧H'=upd (upd H dx (exd dx [("value",y)])) a (exo a C (some dx))) (fun _ _ _=>False) ((hr.deeper _).mono (by omega)) I3.env0 b2 (.cons rfl (.cons r4 .nil)) ⟨a,C,y,rfl,T,n1,ha,fun dx hd1 hd2=>⟨rfl,dx,hd1,hd2,rfl⟩⟩) fun r s4 hq=> ?_
  cases r with
  | error er=>exact (passL (X:=cxS P w K mg base ["self",v] qual scope f (.ref cda) cc A outer s H) _ _ _ _ er s4 I3 hq).elim
  | ok fl=>
   cases fl with
   | ret u4=>
    obtain ⟨v4,H4,I4,r4,e4,dx,hd1,hd2,eH4⟩:=I3.after hq
    rw [eH4] at I4
    show _root_.PySem.wpAt _ _ _ (execs [_] _) _ _ _
    have ps:PSs (cxS P w K mg base ["self",v] qual scope f (.ref cda) cc A outer s H) [.Assign [.Attribute (.Name "self" q1) fld q2] (.Name v q3) q4] _:=pss_one (ps_ost (pe_var (i:=0) rfl (.inl S.slf)) (pe_var (i:=1) rfl (.inl S.par) S.d1 S.d2))
    refine wpAt_of_wpAny (wpAny_mono (ps.run _ s4 _ _ {nx:=fun _ H'=>Q .non H',rt:=fun _ _=>False} I4 ?_) (fun fl s5 z=> ?_) fun e s5 z=>z)
    ·exact ⟨y,rfl,.ref a,rfl,a,C,rfl,T,n2,.inr ⟨dx,[("value",y)],upd_same,by rw [upd_ne hd2];exact upd_same,by show 1≤900;decide,q dx hd1 hd2⟩⟩
    ·cases fl with
     | next=>
      obtain ⟨σ5,H5,I5,q5⟩:=z
      exact fin I5 q5
     | ret u5=>
      obtain ⟨_,_,_,_,_,z⟩:=z
      exact z.elim
     | brk=>
      obtain ⟨_,_,_,z⟩:=z
      exact z.elim
     | cont=>
      obtain ⟨_,_,_,z⟩:=z
      exact z.elim
   | next=>exact hq.elim
   | brk=>exact hq.elim
   | cont=>exact hq.elim
 exact PySem.ks_wpAt_mono goal (fun fl s' z=>z) fun e s' z=>z.elim
end DL
namespace DL
open PySem PySem.Spec PyProof.Rows L2
def spG (K:PySem.W.Frag) (C:Addr) (ns:List Str):Sp:=fun vs H Q _=> ∃(a:Addr) (y:V),vs= [.ref a,y]∧H a=some (exo a C none)∧∀(dx:Addr) (H':Hp),H dx=none→dx≠a→H' a=some (exo a C (some dx))→H' dx=some (exd dx (ns.map fun n=>(n,y)))→(∀b,b≠a→b≠dx→H' b=H b)→Q .non H'
theorem spG_we {K:PySem.W.Frag} {C:Addr} {fld:Str} (T:OexC K C) (n1:PySem.W.findIn K (.ref C) fld=some none) {vs:List V} {H:Hp} {Q:VK} {E:XK} (h:spG K C [fld] vs H Q E):aAX K fld vs H Q E:=by
 obtain ⟨a,y,e,ha,q⟩:=h
 exact ⟨a,C,y,e,T,n1,ha,fun dx h1 h2=>q dx _ h1 h2 upd_same (by rw [upd_ne h2];exact upd_same) fun b h3 h4=>by rw [upd_ne h3,upd_ne h4]⟩
theorem spG_su {K:PySem.W.Frag} {C:Addr} {fld:Str} {vs:List V} {H:Hp} {Q:VK} {E:XK} (h:spG K C [fld,"value"] vs H Q E):aAY K C fld vs H Q E:=by
 obtain ⟨a,y,e,ha,q⟩:=h
 exact ⟨a,y,e,ha,fun dx h1 h2=>q dx _ h1 h2 (by rw [upd_ne (Ne.symm h2)];exact upd_same) upd_same fun b h3 h4=>by rw [upd_ne h4,upd_ne h3,upd_ne h4]⟩
structure Err1 (P:Program) (w:World) (K:PySem.W.Frag) (mg:Str→Option Value) (base:Heap) (x:Str) (Cl:Addr) (k:Nat) (ns:List Str):Prop where
 T:OexC K Cl
 nm:mg x=some (.ref Cl)
 ex:∃(fI:Addr) (fd:FuncData) (v:Str),PySem.W.findIn K (.ref Cl) "__init__"=some (some (.ref fI))∧PySem.W.typeIn K (.ref fI)=some (.type "function")∧Binds K fd ["self",v] []∧FnOk P w K mg base (L2.CX P w) k fI fd ["self",v] (spG K Cl ns)
theorem Fr.newF {L:Lp} {F:Fz} {H:Hp} {p:Addr} {o:HO} {c:Prop} (h:H p=none):Fr L F H L (fun b=>F b∨(b=p∧c)) (upd H p o):=
 ⟨fun a u e _ _=>by rw [upd_ne (ne_of_none e h)];exact e,fun a z=>dY z,.new h,fun _ z=> .inl z,fun _ z=> .inl z,fun a u _ e=>by rw [upd_ne (ne_of_none e h)];exact e,fun a z=>z.elim .inl fun z=> .inr (.inr (by rw [z.1];exact h))⟩
theorem Con.newF {P:Program} {w:World} {K:PySem.W.Frag} {L:Lp} {F:Fz} {H:Hp} {p:Addr} {o:HO} {c:Prop} (x:Con P w K L F H) (h:H p=none) (h1:∀y,o≠ .own y) (h2:c→o≠ .xd []):Con P w K L (fun b=>F b∨(b=p∧c)) (upd H p o):=⟨fun a u e=>by
 obtain ⟨z,q,_⟩:=(x.at_ a u e).some
 exact (x.at_ a u e).mono (Fr.newF (L:=L) h).mv (upd_ne (ne_of_none q h)),fun a z=>by
 rcases z with z | ⟨z,hc⟩
 ·obtain ⟨n,u,e,q⟩:=x.fz a z
  exact ⟨n,u,by rw [upd_ne (ne_of_none e h)];exact e,q⟩
 ·rw [z]
  exact ⟨x.free h,o,upd_same,h1,h2 hc⟩⟩
section
variable {C:DL.Ctx} {Γ:Gm} {L:Lp} {e:Expr} {x:Str} {p pos:Pos} {k:Nat} {Cl:Addr} {ns:List Str} {E:AEnds}
def AM (C:DL.Ctx) (e:Expr) (Γ:Gm) (L:Lp) (Q:Value→List (Str×D)→Lp→Prop):Prop:= ∀F σ H,Ok C Γ L F σ H→∀QX:XK,(∀{F'} cls d H' L' fs,C.Con L' F' H'→Fr L F H L' F' H'→yJ C.X.K F' H' d fs→Q cls fs L'→QX cls (some d) H')→∃t,PMk C.X e t∧t σ H QX
theorem am_err {Q:Value→List (Str×D)→Lp→Prop} (E1:Err1 C.X.prog C.X.w C.X.K C.X.mg C.X.base x Cl k ns) (hr:Room (k+1) C.X.A) (h:AE C e Γ L fun d L1=>Q (.ref Cl) (ns.map fun n=>(n,d)) L1) (hg:Gl C.X x:=by rfl) (hdb:(x==("__debug__" :Str))=false:=by decide)
  (he:starEach [e] C.X.env= [(false,eval e C.X.env)]:=by rfl):AM C (.Call (.Name x p) [e] [] pos) Γ L Q:=fun F σ H ok QX go=>by
 obtain ⟨fI,fd,v,iC,tI,hb,F1⟩:=E1.ex
 refine ⟨_,pmk_oex E1.T iC tI F1 hr hb (dvs:= []) .nil passL hg E1.nm mW hdb he rfl,?_⟩
 have hA:AA C [e] Γ L fun ds L1=> ∃d,ds= [d]∧Q (.ref Cl) (ns.map fun n=>(n,d)) L1:=aC (h.mono fun d L1 q=>aF ⟨d,rfl,q⟩) he
 refine hA F σ H ok _ fun {F1} vs ds H1 L1 r c f ⟨d,ed,q⟩=> ?_
 subst ed
 obtain ⟨y,rfl,ry⟩:=r.oneE
 refine ⟨by show 1≤1000;decide,fun a ha=>⟨a,y,rfl,upd_same,fun dx H' h1 h2 h3 h4 h5=>⟨rfl,dx,_,h3,h4,?_,?_⟩⟩⟩
 ·rw [upd_ne h2] at h1
  exact h1
 ·rw [upd_ne h2] at h1
  have e1:upd (L2.del H' a) dx (.xd (ns.map fun n=>(n,y)))=upd H1 dx (.xd (ns.map fun n=>(n,y))):=by
   funext b
   by_cases hb:b=dx
   ·rw [hb,upd_same,upd_same]
   ·rw [upd_ne hb,upd_ne hb]
    by_cases hb2:b=a
    ·rw [hb2,L2.del_same,ha]
    ·rw [L2.del_ne hb2,h5 b hb2 hb,upd_ne hb2]
  rw [e1]
  refine go (F':=fun b=>F1 b∨(b=dx∧ns≠ [])) (.ref Cl) dx _ L1 (ns.map fun n=>(n,d)) (c.newF h1 (fun _ z=>nomatch z) fun hn z=> ?_) (f.trans (.newF h1)) ⟨_,?_,upd_same,?_⟩ q
  ·cases ns with
   | nil=>exact hn rfl
   | cons a l=>cases z
  ·cases ns with
   | nil=>exact .inl rfl
   | cons a l=>exact .inr (.inr ⟨rfl,fun z=>nomatch z⟩)
  have key:∀l:List Str,Paired (fun (p:Str×V) (q:Str×D)=>p.1=q.1∧Rep C.X.K (fun b=>F1 b∨(b=dx∧ns≠ [])) (upd H1 dx (.xd (ns.map fun n=>(n,y)))) p.2 q.2) (l.map fun n=>(n,y)) (l.map fun n=>(n,d)):=by
   intro l
   induction l with
   | nil=>exact .nil
   | cons n l ih=>exact .cons ⟨rfl,ry.mono (Fr.newF (L:=L) h1).mv⟩ ih
  exact key ns
theorem as_raise (h:AM C e Γ L (C.R Γ)):AS C (.Raise (some e) none pos) Γ L E:=fun F σ H ok DD go=>by
 obtain ⟨t,hp,q⟩:=h F σ H ok (fun cls d H'=>C.W cls d σ H') fun {F'} cls d H' L' fs c f xd r=>ok.lr.of cls d σ H' Γ L' fs (ok.sl.mono f.mv) c f xd r
 exact lF (ps_raise C.calm C.tk hp) q
end
end DL
namespace DL
open PySem PySem.Spec PyProof.Rows L2
abbrev Sui:=Addr→Value→Option Addr→L2.TS
abbrev offN (i:Nat) (a:Addr) (cls:Value) (d:Option Addr) (D:Ends):Ends:={nx:=fun τ G=>D.nx (τ.set i none) G∨D.nx (τ.set i none) (upd G a (ErO cls d a)),rt:=D.rt,bk:=fun τ G=>D.bk (τ.set i none) G,ct:=fun τ G=>D.ct (τ.set i none) G}
def wCl (K:PySem.W.Frag) (W0:WX) (D:Ends):List (Value×Nat×Sui)→WX
 | []=>W0
 | q::r=>fun cls d τ G=> ∃yes:Bool,PySem.W.exmOne K cls q.1=some yes∧(yes=true→∀a,G a=none→q.2.2 a cls d (offN q.2.1 a cls d D) (τ.set q.2.1 (some (.ref a))) G)∧(yes=false→wCl K W0 D r cls d τ G)
inductive Cls (X:Cx):List ExceptHandler→List (Value×Nat×Sui)→Prop
 | nil:Cls X [] []
 | cons {x n : Str} {c : Value} {i : Nat} {S : Sui} {b : Stmt} {bs : List Stmt} {p1 p2 : Pos} {hs : List ExceptHandler} {l : List (Value × Nat × Sui)} (hc : Names X x c) (hi : X.N[i]? = some n) (hn : X.env.kindOf n = some .local)
   (su:∀a oe cls d pn,Zc cls d oe→(∃fv,oe.data= .fields fv)→PSs (X.suite a ((a,oe)::pn)) (b::bs) (S a cls d)) (r:Cls X hs l):Cls X (.ExceptHandler (some (.Name x p1)) (some n) (b::bs) p2::hs) ((c,i,S)::l)
section
variable {X:Cx} {body:List Stmt} {h0:ExceptHandler} {hs:List ExceptHandler} {l:List (Value×Nat×Sui)} {pos:Pos} {tb:WX→L2.TS} {W0:WX}
theorem not_frame {B h:Heap} {l:List Env} {a:Addr} {o:Obj} {fv:Array Value} (ff:h.FunFrames B l) (e:h.get? a=some o) (dd:o.data= .fields fv):a∉frs l:=fun hm=>by
 obtain ⟨_,o2,e2,no⟩:=ff.mem hm
 rw [e] at e2
 cases e2
 exact no _ dd
theorem Inv.know {pins:List (Addr×Obj)} {σ:L2.St} {H:Hp} {s:Shared} {a:Addr} {o:Obj} {ob:HO} (I:Inv X ((a,o)::pins) σ H s) (n0:X.s_0.heap.get? a=none) (hp:∀p∈X.pn++pins,p.1≠a) (new:ObjOk X.prog X.w (upd H a ob) s.heap a ob):Inv X pins σ (upd H a ob) s:=by
 obtain ⟨ea,na,nL,nF,nc⟩:=I.pin (a,o) (List.mem_append_right _ List.mem_cons_self)
 have ne0:∀b u,X.s_0.heap.get? b=some u→b≠a:=fun b u e z=>by rw [z,n0] at e;cases e
 refine ⟨I.ok,I.os,I.bare,⟨I.base.keep,I.base.slot,fun b u e n hx=> ?_,I.base.there,fun b xs e=> ?_,fun b u xs e=> ?_,fun b ps e=> ?_⟩,I.loc,I.cell,?_,fun x c e=> ?_,fun p hq=> ?_,I.hok.laidN (fun _ _ q=>q) na new,I.len⟩
 ·rw [upd_ne (ne0 b u e)]
  exact I.base.free b u e n hx
 ·have q:=I.base.tups b xs e
  rw [upd_ne (ne_of_none q na)]
  exact q
 ·have q:=I.base.frzs b u xs e
  rw [upd_ne (ne_of_none q na)]
  exact q
 ·obtain ⟨m,q⟩:=I.base.tbls b ps e
  exact ⟨m,by rw [upd_ne (ne_of_none q na)];exact q⟩
 ·rw [upd_ne (Ne.symm nL)]
  exact I.free
 ·obtain ⟨v,o2,e2,d2⟩:=I.cell x c e
  have hc:c≠a:=fun z=>by
   rw [z,ea] at e2
   cases e2
   exact nc v d2
  rw [upd_ne hc]
  exact I.freeC x c e
 ·obtain ⟨k1,k2,k3,k4,k5⟩:=I.pin p (by
   rcases List.mem_append.mp hq with z | z
   ·exact List.mem_append_left _ z
   ·exact List.mem_append_right _ (List.mem_cons_of_mem _ z))
  exact ⟨k1,by rw [upd_ne (hp p hq)];exact k2,k3,k4,k5⟩
theorem ps_tryA (hex:X.ex= []) (hs0:X.stack=X.env::X.outer) (hf:X.env.frame=some X.env.locals) (hN:X.N.Nodup) (tk:Takes X W0)
  (hb:∀(W:WX) (pn:List (Addr×Obj)) (xe:Value→Shared→Prop),Takes (X.tr pn xe) W→PassesOwn (model X.prog X.w) X.A X.env xe→PSs (X.tr pn xe) body (tb W)) (hh:Cls X (h0::hs) l):
  PS X (.Try body (h0::hs) [] [] pos) (fun D τ G=>tb (wCl X.K W0 D l) D τ G):=⟨fun pins s τ G D I h=>by
 have ok:=I.ok
 refine wpAny_Try_except (wpAny_mono ((hb (wCl X.K W0 D l) (X.pn++pins) (fun e z=>wpAny (model X.prog X.w) X.A (noteFrame e X.env) (fun _ z2=>wpAny (model X.prog X.w) X.A (setFlight e none) (fun _ z3=>wpAny (model X.prog X.w) X.A (handleBy e X.env (h0::hs)) (SP X pins D) X.xe z3) X.xe z2) X.xe z)
  (fun u z xx=> ?_) PassesOwn.looking).run [] s τ G D (I.toTry _) h) (fun fl z q=> ?_) fun e z q=>q)
 ·obtain ⟨a,B,sI,pins',τ2,G2,cls,d,rfl,J',nb,up,sky,na,os,ag,wi⟩:=xx
  have J:Inv X pins τ2 G2 sI:=J'.ofTry ok
  refine Sky.land Zc.steady (by rw [ok.frames,hs0]) hf (show Sky B (X.env::X.outer) a (Zc cls d) X.env.locals z.heap by rw [←hs0];exact sky) fun h3 f3 u3=> ?_
  have J3:Inv X pins τ2 G2 {z with heap:=h3}:=J.landed nb f3.1 (up.trans u3) os ag
  obtain ⟨o3,fv3,g3,z3,k3⟩:=f3.there
  have out:=not_frame f3.2.2.1 g3 k3
  have nL:a≠X.env.locals:=fun e=>out (List.mem_filterMap.mpr ⟨X.env,List.mem_cons_self,by rw [hf,e]⟩)
  have nF:a∉X.fs:=fun hm=>by
   obtain ⟨v,hv,q⟩:=List.mem_filterMap.mp hm
   exact out (List.mem_filterMap.mpr ⟨v,List.mem_cons_of_mem _ hv,q⟩)
  have S3:=J3.suite g3 k3 na nL nF
  have nI:sI.heap.get? a=none:=by
   cases e:sI.heap.get? a with
   | none=>rfl
   | some o=>
    have z:=nb a o e (by rw [hs0];exact out)
    rw [f3.2.1] at z
    cases z
  have n0:X.s_0.heap.get? a=none:=by
   cases e:X.s_0.heap.get? a with
   | none=>rfl
   | some o=>
    obtain ⟨o',z⟩:=J.base.there a o e (by rw [hex];simp)
    rw [nI] at z
    cases z
  have pna:∀p∈X.pn++pins,p.1≠a:=fun p hp z=>by
   have q:=(J.pin p hp).1
   rw [z,nI] at q
   cases q
  have turn:∀{hs':List ExceptHandler} {l':List (Value×Nat×Sui)},Cls X hs' l'→wCl X.K W0 D l' cls d τ2 G2→wpAny (model X.prog X.w) X.A (handleBy (.ref a) X.env hs') (SP X pins D) X.xe {z with heap:=h3}:=by
   intro hs' l' hk
   induction hk with
   | nil=>
    intro q
    refine wpAny_handleBy_nil ?_
    obtain ⟨_,_,_,o,fv,T,oT,fT,e1,_,e3,e4,_⟩:=id f3
    unfold PySem.passOn
    refine wpAny_bind (wpAny_field e1 e3 e4 ?_)
    rw [if_neg (by simp:¬((Value.ref T==Value.none)=true))]
    have up4:wpAny (model X.prog X.w) X.A (setFlight (.ref a) X.env.frame) (fun _ z4=>wpAny (model X.prog X.w) X.A (throw (.ref a):Sem Flow) (SP X pins D) X.xe z4) X.xe {z with heap:=h3}:=by
     rw [hf]
     exact HandSPX.setFlight_upZ f3 fun h4 k4 u4=>wpAny_throw (tk _ _ ⟨a,B,sI,pins,τ2,G2,cls,d,rfl,J,nb,(up.trans u3).trans u4,.inr (.inr (by rw [hs0];exact k4)),na,os,ag,q⟩)
    first
     | exact wpAny_bind (wpAny_pure (wpAny_bind up4))
     | exact wpAny_bind up4
   | @cons x n c i S b bs p1 p2 hs2 l2 hc hi hn su r ih=>
    intro q
    obtain ⟨yes,hm,hy,hno⟩:=q
    refine wpAny_handleBy_cons (codeAny_handlers_test ?_) (by intro q;cases q)
    have look:=PySem.W.exm_one (M:=model X.prog X.w) J3.kIn (show PySem.W.Looks (model X.prog X.w) h3 (typeOf (.ref a)) cls from fun A Q E s k q=>wpAny_typeOf_ref (k _ _ g3) (by rw [z3.1];exact q)) hm
    have load:∀{Q:Value→Shared→Prop} {E:Value→Shared→Prop},Q c {z with heap:=h3}→wpAny (model X.prog X.w) (X.A.mark (some (.ref a))) (eval (.Name x p1) X.env) Q E {z with heap:=h3}:=fun {Q E} q=>by
     obtain ⟨hg,hd,hm | ⟨hm,hv,hnn⟩⟩:=hc
     ·exact ld_glob (X:=X.suite a ((a,o3)::(X.pn++pins))) S3 hg hm q hd
     ·exact ld_blt (X:=X.suite a ((a,o3)::(X.pn++pins))) S3 hg hm hv q hnn hd
    refine load (look.here ?_)
    cases yes with
    | false=>
     show wpAny _ X.A (handleBy (.ref a) X.env hs2) _ _ _
     exact ih (hno rfl)
    | true=>
     refine codeAny_handlers_suite_as (HandSPX.lands_againZ f3 fun h4 f4 u4=> ?_)
     have J4:Inv X pins τ2 G2 {z with heap:=h4}:=J.landed nb f4.1 ((up.trans u3).trans u4) os ag
     obtain ⟨o4,fv4,g4,z4,k4⟩:=f4.there
     refine store_ok (X:=X.suite a ((a,o4)::(X.pn++pins))) (v:= .ref a) (J4.suite g4 k4 na nL nF) hN hi (.inl hn) rfl (fun s5 S5=> ?_) (.inr hn)
     refine wpAny_mono ((su a o4 cls d (X.pn++pins) z4 ⟨_,k4⟩).run [] s5 _ G2 _ S5 (hy rfl a na)) (fun fl s6 q6=> ?_) (fun _ _ e=>e.elim)
     have off:∀{τ6:L2.St} {G6:Hp} {Q:Shared→Prop},Inv (X.suite a ((a,o4)::(X.pn++pins))) [] τ6 G6 s6→(∀s7,Inv X pins (τ6.set i none) G6 s7→Q s7)→wpAny (model X.prog X.w) X.A (do bindName X.env n .none;unbindBehindTheSuite X.env n p2) (fun _ s7=>Q s7) X.xe s6:=fun {τ6 G6 Q} S6 hq=>gone_ok (S6.unsuite ok) hN hi hn hq
     cases fl with
     | ret u=>
      obtain ⟨v6,τ6,G6,S6,r6,q6⟩:=q6
      exact off S6 fun s7 J7=>⟨_,_,_,J7,r6,q6⟩
     | next=>
      obtain ⟨τ6,G6,S6,q6⟩:=q6
      rcases q6 with q6 | q6
      ·exact off S6 fun s7 J7=>⟨_,_,J7,q6⟩
      ·have J6:Inv X ((a,o4)::pins) τ6 G6 s6:=(S6.unsuite ok).pins_of fun p hp=>by
        refine S6.pin p (List.mem_append_left _ ?_)
        rcases List.mem_cons.mp hp with e | h
        ·rw [e];exact List.mem_cons_self
        ·exact List.mem_cons_of_mem _ (List.mem_append_right _ h)
       refine gone_ok J6 hN hi hn fun s7 J7=>⟨_,_,Inv.know J7 n0 pna ?_,q6⟩
       have g7:=(J7.pin (a,o4) (List.mem_append_right _ List.mem_cons_self)).1
       exact ⟨⟨o4,fv4,g7,z4.1,z4.2,k4⟩,⟨o4,g7⟩,fun _ _ ⟨u,v,e,r⟩ k=>⟨u,v,k u e,r⟩⟩
     | brk=>
      obtain ⟨τ6,G6,S6,q6⟩:=q6
      exact off S6 fun s7 J7=>⟨_,_,J7,q6⟩
     | cont=>
      obtain ⟨τ6,G6,S6,q6⟩:=q6
      exact off S6 fun s7 J7=>⟨_,_,J7,q6⟩
  exact turn hh wi
 ·cases fl with
  | next=>
   obtain ⟨τ2,G2,J,q⟩:=q
   exact wpAny_execs_nil ⟨τ2,G2,J.ofTry ok,q⟩
  | brk=>
   obtain ⟨τ2,G2,J,q⟩:=q
   exact ⟨τ2,G2,J.ofTry ok,q⟩
  | cont=>
   obtain ⟨τ2,G2,J,q⟩:=q
   exact ⟨τ2,G2,J.ofTry ok,q⟩
  | ret u=>
   obtain ⟨v,τ2,G2,J,r,q⟩:=q
   exact ⟨v,τ2,G2,J.ofTry ok,r,q⟩⟩
end
end DL
namespace DL
open PySem PySem.Spec PyProof.Rows L2
theorem yJ.mono {K:PySem.W.Frag} {L L':Lp} {F F':Fz} {H H':Hp} {d:Addr} {fs:List (Str×D)} (x:yJ K F H d fs) (f:Fr L F H L' F' H') (hd:L d=none):yJ K F' H' d fs:=by
 obtain ⟨fv,hz,h,p⟩:=x
 exact ⟨fv,hz.imp id (f.fz d),f.keep d _ h (fun y z=>nomatch z) hd,Paired.mono p fun _ _ z=>⟨z.1,z.2.mono f.mv⟩⟩
theorem yJ.off {P:Program} {w:World} {K:PySem.W.Frag} {L:Lp} {F:Fz} {H:Hp} {d:Addr} {fs:List (Str×D)} (x:yJ K F H d fs) (c:Con P w K L F H):L d=none:=by
 cases e:L d with
 | none=>rfl
 | some mo=>
  obtain ⟨fv,_,h,p⟩:=x
  have z:=c.at_ d mo e
  cases mo with
  | lst ds=>obtain ⟨vs,q,_⟩:=z;rw [h] at q;cases q
  | dct ks=>obtain ⟨vs,q,_⟩:=z;rw [h] at q;cases q
  | ins C gs=>
   obtain ⟨dx,vs,q,_⟩:=z
   rcases q with ⟨q,_⟩ | ⟨q,_⟩
   ·rw [h] at q;cases q
   ·rw [h] at q;unfold SlX.SlO at q;cases q
  | set S n=>have q:H d=_:=z;rw [h] at q;cases q
  | txs S n=>have q:H d=_:=z.1;rw [h] at q;cases q
  | kd kds=>obtain ⟨kvs,q,_⟩:=z;rw [h] at q;cases q
  | nd kds=>obtain ⟨xs,q,_⟩:=z;rw [h] at q;unfold ndO at q;cases q
  | iin Ci fi=>obtain ⟨dx',vfs,q,_⟩:=z;rw [h] at q;cases q
  | tab n=>obtain ⟨ps,q,_⟩:=z;rw [h] at q;cases q
  | exc Ci fi=>obtain ⟨dx',vfs,q,_⟩:=z;rw [h] at q;unfold ErO at q;cases q
theorem yJ.get {K:PySem.W.Frag} {F:Fz} {H:Hp} {d:Addr} {fs:List (Str×D)} {f:Str} {x:D} (h:yJ K F H d fs) (e:fs.lookup f=some x):∃fv v,H d=some (.xd fv)∧fv.lookup f=some v∧Rep K F H v x:=by
 obtain ⟨fv,_,h,p⟩:=h
 have key:∀{fv:List (Str×V)} {fs:List (Str×D)},Paired (fun (p:Str×V) (q:Str×D)=>p.1=q.1∧Rep K F H p.2 q.2) fv fs→fs.lookup f=some x→∃v,fv.lookup f=some v∧Rep K F H v x:=by
  intro fv
  induction fv with
  | nil=>intro fs p e;cases p;cases e
  | cons a fv ih=>
   intro fs p e
   cases p with
   | cons q t=>
    rename_i b fs
    obtain ⟨a1,a2⟩:=a
    obtain ⟨b1,b2⟩:=b
    obtain ⟨q1,q2⟩:=q
    dsimp only at q1 q2
    subst q1
    rw [List.lookup_cons] at e ⊢
    cases z:f==a1 with
    | true=>rw [z] at e;cases e;exact ⟨a2,rfl,q2⟩
    | false=>rw [z] at e;exact ih t e
 obtain ⟨v,h1,h2⟩:=key p e
 exact ⟨fv,v,h,h1,h2⟩
section
variable {X:Cx} {dd:Addr} {fs:List (Str×D)} {Γ:Gm} {L:Lp} {e:Expr} {es:List Expr} {pos:Pos} {d:D} {ds:List D}
end
def tctx (C:DL.Ctx) (pn:List (Addr×Obj)) (xe:Value→Shared→Prop) (W:WX) (R:Gm→Value→List (Str×D)→Lp→Prop) (tk:Takes (C.X.tr pn xe) W) (po:PassesOwn (model C.X.prog C.X.w) C.X.A C.X.env xe):DL.Ctx where
 X:=C.X.tr pn xe
 W:=W
 R:=R
 tk:=tk
 po:=po
 calm:=C.calm
 nd:=C.nd
 T:=C.T
 tfr:=C.tfr
 tle:=C.tle
abbrev Cz:=Value×Nat×Nat×Expr
inductive ClsD (C:DL.Ctx):List ExceptHandler→List Cz→Prop
 | nil:ClsD C [] []
 | cons {x n y : Str} {c : Value} {i j : Nat} {e : Expr} {p1 p2 p3 p4 : Pos} {hs : List ExceptHandler} {l : List Cz} (hc : Names C.X x c) (hi : C.X.N[i]? = some n) (hn : C.X.env.kindOf n = some .local) (hj : C.X.N[j]? = some y) (hy : C.X.env.scope.names.lookup y = some .local) (hij : i ≠ j)
   (sw:swapsWith e (some (.Name y p3)) p4.line C.X.env=pure false) (r:ClsD C hs l):ClsD C (.ExceptHandler (some (.Name x p1)) (some n) [.Assign [.Name y p3] e p4] p2::hs) ((c,i,j,e)::l)
theorem Sl.setN {K:PySem.W.Frag} {F:Fz} {H:Hp} {σ:L2.St} {Γ:Gm} (x:Sl K F H σ Γ) (i:Nat):Sl K F H (σ.set i none) (Γ.set i none):=by
 refine ⟨by rw [List.length_set,List.length_set];exact x.len,fun k d e=> ?_⟩
 by_cases h:i=k
 ·subst h
  by_cases hl:i < Γ.length
  ·rw [List.getElem?_set_self hl] at e;cases e
  ·rw [List.getElem?_eq_none (by rw [List.length_set];omega)] at e;cases e
 ·rw [List.getElem?_set_ne h] at e ⊢
  exact x.get k d e
theorem set_off {α:Type} (l:List α) {i j:Nat} (h:i≠j) (x y z:α):((l.set i x).set j y).set i z=(l.set j y).set i z:=by
 rw [List.set_comm _ _ h,List.set_set]
end DL
namespace DL
open PySem PySem.Spec PyProof.Rows L2
def FnG (P:Program) (w:World) (K:PySem.W.Frag) (mg:Str→Option Value) (base:Heap) (k:Nat) (f:Addr) (sp:SpA):Prop:=
 ∀(A:Around) (outer:List Env) (s:Shared) (H:Hp) (us:List Value) (vs:List V) (Q:VK) (E:XK),Room k A→A.guards=some []→Env0 P w K mg base A outer s H→Vals vs us→aAR P w K sp vs H Q E→codeAny (model P w) A (.call (.ref f) ⟨us,[]⟩) (CR (L2.CX P w) outer P w H s Q E) s
structure DefG (P:Program) (w:World) (K:PySem.W.Frag) (mg:Str→Option Value) (base:Heap) (x:Str) (k:Nat) (sp:SpA):Prop where
 ex:∃f,mg x=some (.ref f)∧PySem.W.keepIn K (.ref f)=true∧FnG P w K mg base k f sp
theorem guards_deeper (A:Around) (env:Env):(A.deeper env).guards=A.guards:=by
 first | rfl | simp [Around.deeper]
section
variable {P:Program} {w:World} {K:PySem.W.Frag} {mg:Str→Option Value} {base:Heap} {x qual:Str} {st:Stmt} {f:Addr} {fd:FuncData} {N ps:List Str} {k:Nat} {sp:SpA}
end
end DL
namespace DL
open PySem PySem.Spec PyProof.Rows L2
section
variable {C:DL.Ctx} {Γ:Gm} {L:Lp} {e:Expr} {es:List Expr} {p pos:Pos} {Q:D→Lp→Prop} {x:Str} {k:Nat} {sp:SpA}
end
end DL
namespace DL
open PySem PySem.Spec PyProof.Rows L2
def aAA:Key→PyData
 | .inl i=> .int i
 | .inr x=> .str x
mutual
def pyE:D→PyData
 | .non=> .none
 | .bl b=> .bool b
 | .int i=> .int i
 | .str x=> .str x
 | .tup ds=> .tuple (yS ds)
 | .flst ds=> .list (yS ds)
 | .kdct kds=> .dict (yU kds)
 | .ty _=> .none
 | .ptr _=> .none
 | .ilst _=> .none
 | .obj _ _=> .none
 | .fdct _=> .none
 | .wds _=> .none
 | .tk _=> .none
 | .iob _ _=> .none
def yS:List D→List PyData
 | []=> []
 | d::ds=>pyE d::yS ds
def yU:List (Key×D)→List (PyData×PyData)
 | []=> []
 | (k,d)::r=>(aAA k,pyE d)::yU r
end
mutual
def okE:D→Bool
 | .non=>true
 | .bl _=>true
 | .int _=>true
 | .str _=>true
 | .tup ds=>yW ds
 | .flst ds=>yW ds
 | .kdct kds=>aAv kds
 | .ty _=>false
 | .ptr _=>false
 | .ilst _=>false
 | .obj _ _=>false
 | .fdct _=>false
 | .wds _=>false
 | .tk _=>false
 | .iob _ _=>false
def yW:List D→Bool
 | []=>true
 | d::ds=>okE d && yW ds
def aAv:List (Key×D)→Bool
 | []=>true
 | (_,d)::r=>okE d && aAv r
end
mutual
theorem okE_okD:∀d:D,okD d=true→okE d=true
 | .non,_=>by rw [okE]
 | .bl _,_=>by rw [okE]
 | .int _,_=>by rw [okE]
 | .str _,_=>by rw [okE]
 | .tup ds,h=>by rw [okE];rw [okD] at h;exact okEs_okD ds h
 | .ty _,h=>by simp [okD] at h
 | .ptr _,h=>by simp [okD] at h
 | .ilst _,h=>by simp [okD] at h
 | .obj _ _,h=>by simp [okD] at h
 | .flst _,h=>by simp [okD] at h
 | .fdct _,h=>by simp [okD] at h
 | .kdct _,h=>by simp [okD] at h
 | .wds _,h=>by simp [okD] at h
 | .tk _,h=>by simp [okD] at h
 | .iob _ _,h=>by simp [okD] at h
theorem okEs_okD:∀ds:List D,oM ds=true→yW ds=true
 | [],_=>by rw [yW]
 | d::ds,h=>by
  rw [oM,Bool.and_eq_true] at h
  rw [yW,okE_okD d h.1,okEs_okD ds h.2]
  rfl
end
section
variable {X:Cx} {pins:List (Addr×Obj)} {σ:L2.St} {H:Hp} {s:Shared} {Z:Fz}
theorem Inv.nsys (I:Inv X pins σ H s) (hs:∃o,X.base.get? sysModules=some o) {a:Addr} {u:HO} (ha:H a=some u):a≠sysModules:=fun e=>by
 obtain ⟨o,ho⟩:=hs
 have:=(I.bs _ _ ho).2
 rw [←e,ha] at this
 cases this
theorem key_reads {h:Heap} {k:Key} {v:Value} (e:keyIs k v=true):Reads h v (aAA k) []:=by
 rcases keyIs_shape e with ⟨i,t,rfl,rfl⟩ | ⟨x,t,rfl,rfl⟩
 ·exact .int i t
 ·exact .str x t
mutual
theorem Rep.rd (I:Inv X pins σ H s) (hs:∃o,X.base.get? sysModules=some o):∀(d:D) (v:V) (u:Value),okE d=true→Rep X.K Z H v d→RelV v u→∃as,Reads s.heap u (pyE d) as∧sysModules∉as
 | .non,_,u,_,r,ru=>by
  rw [r.nonE] at ru
  cases (show u=Value.none from ru)
  rw [pyE]
  exact ⟨[],.none,by simp⟩
 | .bl b,_,u,_,r,ru=>by
  rw [r.blE] at ru
  cases (show u=Value.bool b from ru)
  rw [pyE]
  exact ⟨[],.bool b,by simp⟩
 | .int i,_,u,_,r,ru=>by
  rw [r.intE] at ru
  obtain ⟨t,rfl⟩:=ru
  rw [pyE]
  exact ⟨[],.int i t,by simp⟩
 | .str x,_,u,_,r,ru=>by
  rw [r.strE] at ru
  obtain ⟨t,rfl⟩:=ru
  rw [pyE]
  exact ⟨[],.str x t,by simp⟩
 | .tup ds,_,u,h,r,ru=>by
  obtain ⟨a,vs,rfl,ha,ra⟩:=r.tupE
  cases (show u=Value.ref a from ru)
  rw [okE] at h
  obtain ⟨its,rv,⟨o,ho,hc,n,hd⟩,_⟩:=I.tuple (SqT.of ha)
  obtain ⟨as,h1,h2⟩:=bG.rd I hs ds vs its h ra rv
  rw [pyE]
  exact ⟨as,.tuple ho hc hd (by simpa using h1),h2⟩
 | .flst ds,_,u,h,r,ru=>by
  cases r with
  | @flst a vs _ hl ha hz hn hi=>
   cases (show u=Value.ref a from ru)
   rw [okE] at h
   obtain ⟨its,rv,⟨o,n,ho,hc,hd,hdt⟩,_⟩:=I.list (SqL.of ha)
   obtain ⟨as,h1,h2⟩:=bG.rd I hs ds vs its h (bG.of_get hn hi) rv
   rw [pyE]
   refine ⟨a::as,.list ho hc hdt (by simpa using h1),fun z=> ?_⟩
   rcases List.mem_cons.mp z with e | e
   ·exact Inv.nsys I hs ha e.symm
   ·exact h2 e
 | .kdct kds,_,u,h,r,ru=>by
  cases r with
  | @kdct a kvs _ o hl ha hn he hi=>
   cases (show u=Value.ref a from ru)
   rw [okE] at h
   obtain ⟨_,hg,hx,es,ep,vs,hdt,hsz,kv,_,_,h1,h2,h3,h4,h5,h6⟩:=I.frzK ha
   rw [hg] at h1
   cases h1
   rw [hdt] at h3
   cases h3
   obtain ⟨as,bs,g1,g2,g3,g4⟩:=Repk.rd I hs kds kvs vs es.toList h hn he hi kv h5
   rw [pyE]
   refine ⟨_,.dict hg hx.1 hdt g1 g2,fun z=> ?_⟩
   rcases List.mem_append.mp z with z | z
   ·rcases List.mem_cons.mp z with e | e
    ·exact Inv.nsys I hs ha e.symm
    ·exact g3 e
   ·exact g4 z
 | .ty _,_,_,h,_,_=>by simp [okE] at h
 | .ptr _,_,_,h,_,_=>by simp [okE] at h
 | .ilst _,_,_,h,_,_=>by simp [okE] at h
 | .obj _ _,_,_,h,_,_=>by simp [okE] at h
 | .fdct _,_,_,h,_,_=>by simp [okE] at h
 | .wds _,_,_,h,_,_=>by simp [okE] at h
 | .tk _,_,_,h,_,_=>by simp [okE] at h
 | .iob _ _,_,_,h,_,_=>by simp [okE] at h
theorem bG.rd (I:Inv X pins σ H s) (hs:∃o,X.base.get? sysModules=some o):∀(ds:List D) (vs:List V) (us:List Value),yW ds=true→bG X.K Z H vs ds→Vals vs us→∃as,ReadsAll s.heap us (yS ds) as∧sysModules∉as
 | [],_,_,_,r,rv=>by
  cases r
  cases rv
  rw [yS]
  exact ⟨[],.nil,by simp⟩
 | d::ds,_,_,h,r,rv=>by
  rw [yW,Bool.and_eq_true] at h
  cases r with
  | cons r1 r2=>
   cases rv with
   | cons v1 v2=>
    obtain ⟨as,a1,a2⟩:=Rep.rd I hs d _ _ h.1 r1 v1
    obtain ⟨bs,b1,b2⟩:=bG.rd I hs ds _ _ h.2 r2 v2
    rw [yS]
    exact ⟨as++bs,.cons a1 b1,fun z=>(List.mem_append.mp z).elim a2 b2⟩
theorem Repk.rd (I:Inv X pins σ H s) (hs:∃o,X.base.get? sysModules=some o):∀(kds:List (Key×D)) (kvs:List (Key×V)) (vs:List (Key×Value)) (es:List DictEntry),aAv kds=true→kvs.length=kds.length→(∀(i:Nat) (v:Key×V) (d:Key×D),kvs[i]? =some v→kds[i]? =some d→v.1=d.1)→
  (∀(i:Nat) (v:Key×V) (d:Key×D),kvs[i]? =some v→kds[i]? =some d→Rep X.K Z H v.2 d.2)→KV kvs vs→Pairs (mixKind X.prog X.w) es vs→∃as bs,ReadsAll s.heap (es.map (·.key)) ((yU kds).map (·.1)) as∧ReadsAll s.heap (es.map (·.val)) ((yU kds).map (·.2)) bs∧sysModules∉as∧sysModules∉bs
 | [],[],_,_,_,_,_,_,kv,pr=>by
  cases kv
  cases pr
  rw [yU]
  exact ⟨[],[],.nil,.nil,by simp,by simp⟩
 | [],_::_,_,_,_,hl,_,_,_,_=>by simp at hl
 | (k,d)::kds,[],_,_,_,hl,_,_,_,_=>by simp at hl
 | (k,d)::kds,v::kvs,_,_,h,hl,he,hi,kv,pr=>by
  rw [aAv,Bool.and_eq_true] at h
  cases kv with
  | @cons _ q _ _ r1 r2=>
   cases pr with
   | cons p1 p0 p2=>
    obtain ⟨as,bs,g1,g2,g3,g4⟩:=Repk.rd I hs kds kvs _ _ h.2 (by simpa using hl) (fun i x y e1 e2=>he (i+1) x y (by simpa using e1) (by simpa using e2)) (fun i x y e1 e2=>hi (i+1) x y (by simpa using e1) (by simpa using e2)) r2 p2
    have ek:v.1=k:=he 0 v (k,d) rfl rfl
    have rk:=key_reads (h:=s.heap) (show keyIs q.1 _=true from p1)
    rw [←r1.1,ek] at rk
    obtain ⟨cs,c1,c2⟩:=Rep.rd I hs d v.2 q.2 h.1 (hi 0 v (k,d) rfl rfl) r1.2
    rw [yU]
    refine ⟨[]++as,cs++bs,.cons rk g1,.cons ?_ g2,by simpa using g3,fun z=>(List.mem_append.mp z).elim c2 g4⟩
    show Reads s.heap _ (pyE d) cs
    dsimp only
    rw [p0]
    exact c1
end
end
section
variable {C:DL.Ctx} {Γ:Gm} {L:Lp} {Q:D→Lp→Prop}
end
end DL
namespace DL
open PySem PySem.Spec PyProof.Rows L2
def Sg (x:Str):Prop:= ∀c∈x.cps.toList,c < 0x110000
theorem sg_ok {x:Str}:PyData.strOk x=true↔Sg x:=by
 unfold PyData.strOk Sg
 rw [Array.all_eq_true']
 simp
theorem lK {a b:Str} (ha:Sg a) (hb:Sg b):Sg (a++b):=fun c hc=>by
 have e:(a++b).cps.toList=a.cps.toList++b.cps.toList:=by show (a.cps++b.cps).toList=_;simp
 rw [e] at hc
 exact (List.mem_append.mp hc).elim (ha c) (hb c)
theorem chr_lt (c:Char):c.toNat < 0x110000:=by
 have:=c.valid
 rcases this with h | h
 ·have:c.toNat < 0xd800:=h
  omega
 ·exact h.2
theorem lC (s:String):Sg (Str.ofString s):=fun c hc=>by
 have e:(Str.ofString s).cps.toList=s.toList.map Char.toNat:=by
  unfold Str.ofString
  simp [cpsOfBytes_string]
 rw [e] at hc
 obtain ⟨z,_,rfl⟩:=List.mem_map.mp hc
 exact chr_lt z
theorem vU:∀(ts:List Str),(∀t∈ts,Sg t)→Sg (Str.join ", " ts)
 | [],_=>fun c hc=>absurd hc (by show c∉([]:List Nat);simp)
 | [x],h=>h x List.mem_cons_self
 | x::y::r,h=>lK (lK (h x List.mem_cons_self) (lC ", ")) (vU (y::r) fun t ht=>h t (List.mem_cons_of_mem _ ht))
theorem sg_from:∀(ts:List Str) (k:Nat) (acc:Str),Sg acc→(∀t∈ts,Sg t)→Sg (textFrom k acc ts)
 | [],_,_,ha,_=>ha
 | t::ts,k,acc,ha,h=>by
  unfold textFrom
  refine sg_from ts (k+1) _ (lK (lK ha ?_) (h t List.mem_cons_self)) fun x hx=>h x (List.mem_cons_of_mem _ hx)
  exact lC _
theorem sg_char {q c:Nat} (hq:q < 0x110000) (hc:c < 0x110000):∀z∈Builtin.Str.reprChar q c,z < 0x110000:=by
 intro z hz
 have hex:∀n,∀z∈(List.replicate (n - ((Nat.toDigits 16 c).map Char.toNat).length) 48++(Nat.toDigits 16 c).map Char.toNat),z < 0x110000:=fun n z hz=>by
  rcases List.mem_append.mp hz with h | h
  ·rw [(List.mem_replicate.mp h).2];decide
  ·obtain ⟨x,_,rfl⟩:=List.mem_map.mp h
   exact chr_lt x
 unfold Builtin.Str.reprChar at hz
 dsimp only at hz
 split at hz
 ·simp only [List.mem_cons,List.not_mem_nil,or_false] at hz
  rcases hz with rfl | rfl
  ·decide
  ·exact hc
 split at hz
 ·simp only [List.mem_cons,List.not_mem_nil,or_false] at hz
  rcases hz with rfl | rfl <;> decide
 split at hz
 ·simp only [List.mem_cons,List.not_mem_nil,or_false] at hz
  rcases hz with rfl | rfl <;> decide
 split at hz
 ·simp only [List.mem_cons,List.not_mem_nil,or_false] at hz
  rcases hz with rfl | rfl <;> decide
 split at hz
 ·rw [List.mem_singleton.mp hz];exact hc
 split at hz
 ·rcases List.mem_append.mp hz with h | h
  ·simp only [List.mem_cons,List.not_mem_nil,or_false] at h
   rcases h with rfl | rfl <;> decide
  ·exact hex 2 z h
 split at hz
 ·rcases List.mem_append.mp hz with h | h
  ·simp only [List.mem_cons,List.not_mem_nil,or_false] at h
   rcases h with rfl | rfl <;> decide
  ·exact hex 4 z h
 ·rcases List.mem_append.mp hz with h | h
  ·simp only [List.mem_cons,List.not_mem_nil,or_false] at h
   rcases h with rfl | rfl <;> decide
  ·exact hex 8 z h
theorem sg_fold {q:Nat} (hq:q < 0x110000):∀(l:List Nat) (acc:Array Nat),(∀c∈l,c < 0x110000)→(∀c∈acc.toList,c < 0x110000)→∀c∈(l.foldl (fun out c=>out++(Builtin.Str.reprChar q c).toArray) acc).toList,c < 0x110000
 | [],_,_,ha=>ha
 | x::l,acc,hl,ha=>by
  rw [List.foldl_cons]
  refine sg_fold hq l _ (fun c hc=>hl c (List.mem_cons_of_mem _ hc)) fun c hc=> ?_
  rw [Array.toList_append] at hc
  rcases List.mem_append.mp hc with h | h
  ·exact ha c h
  ·exact sg_char hq (hl x List.mem_cons_self) c h
theorem sg_repr {x:Str} (h:Sg x):Sg (reprText x):=by
 have hq:reprQuote x < 0x110000:=by unfold reprQuote;split <;> decide
 intro c hc
 unfold reprText at hc
 rw [Array.toList_push,←Array.foldl_toList] at hc
 rcases List.mem_append.mp hc with hc | hc
 ·exact sg_fold hq _ _ h (fun c hc=>by simp at hc;rw [hc];exact hq) c hc
 ·rw [List.mem_singleton.mp hc];exact hq
mutual
def sgD:PyData→Bool
 | .none=>true
 | .bool _=>true
 | .int _=>true
 | .str x=>PyData.strOk x
 | .list xs=>aAh xs
 | .tuple xs=>aAh xs
 | .dict kvs=>aAn kvs
def aAh:List PyData→Bool
 | []=>true
 | x::xs=>sgD x && aAh xs
def aAn:List (PyData×PyData)→Bool
 | []=>true
 | (k,v)::r=>sgD k && sgD v && aAn r
end
mutual
theorem tD:∀d:PyData,sgD d=true→Sg d.shown
 | .none,_=>by rw [PyData.shown];exact lC "None"
 | .bool b,_=>by rw [PyData.shown];cases b <;> exact lC _
 | .int i,_=>by rw [PyData.shown];exact lC _
 | .str x,h=>by
  rw [sgD] at h
  rw [PyData.shown]
  exact sg_repr (sg_ok.mp h)
 | .list xs,h=>by
  rw [sgD] at h
  rw [PyData.shown]
  exact lK (sg_from _ 0 _ (lC "[") (mO xs h)) (lC "]")
 | .tuple xs,h=>by
  rw [sgD] at h
  rw [PyData.shown]
  exact lK (lK (lC "(") (vU _ (mO xs h))) (lC _)
 | .dict kvs,h=>by
  rw [sgD] at h
  rw [PyData.shown]
  exact lK (lK (lC "{") (vU _ (sg_shownKv kvs h))) (lC "}")
theorem mO:∀xs:List PyData,aAh xs=true→∀t∈PyData.shownAll xs,Sg t
 | [],_,t,ht=>by rw [PyData.shownAll] at ht;cases ht
 | x::xs,h,t,ht=>by
  rw [aAh,Bool.and_eq_true] at h
  rw [PyData.shownAll] at ht
  rcases List.mem_cons.mp ht with rfl | ht
  ·exact tD x h.1
  ·exact mO xs h.2 t ht
theorem sg_shownKv:∀kvs:List (PyData×PyData),aAn kvs=true→∀t∈PyData.shownKv kvs,Sg t
 | [],_,t,ht=>by rw [PyData.shownKv] at ht;cases ht
 | (k,v)::r,h,t,ht=>by
  rw [aAn,Bool.and_eq_true,Bool.and_eq_true] at h
  rw [PyData.shownKv] at ht
  rcases List.mem_cons.mp ht with rfl | ht
  ·exact lK (lK (tD k h.1.1) (lC ": ")) (tD v h.1.2)
  ·exact sg_shownKv r h.2 t ht
end
end DL
namespace DL
open PySem PySem.Spec PyProof.Rows L2
section
variable {C:DL.Ctx} {L:Lp} {Q:D→Lp→Prop} {d:D}
end
end DL
namespace DL
open PySem PySem.Spec PyProof.Rows L2
structure ErX (P:Program) (w:World) (K:PySem.W.Frag) (mg:Str→Option Value) (base:Heap) (x:Str) (Cl:Addr) (k:Nat) (ns:List Str):Prop where
 e:Err1 P w K mg base x Cl k ns
 xf:XfC K Cl
 no:∀n∈ns,PySem.W.findIn K (.ref Cl) n=some none
 xm:PySem.W.exmOne K (.ref Cl) (.ref Cl)=some true
section
variable {P:Program} {w:World} {K:PySem.W.Frag} {mg:Str→Option Value} {base:Heap} {x:Str} {Cl f:Addr} {fd:FuncData} {v fld:Str}
theorem er_we (F:FnOk P w K mg base (L2.CX P w) 1 f fd ["self",v] (aAX K fld)) (hb:Binds K fd ["self",v] []) (T:OexC K Cl) (nm:mg x=some (.ref Cl)) (hI:PySem.W.findIn K (.ref Cl) "__init__"=some (some (.ref f))) (hT:PySem.W.typeIn K (.ref f)=some (.type "function"))
  (no:PySem.W.findIn K (.ref Cl) fld=some none) (xf:XfC K Cl) (xm:PySem.W.exmOne K (.ref Cl) (.ref Cl)=some true):ErX P w K mg base x Cl 1 [fld]:=
 ⟨⟨T,nm,f,fd,v,hI,hT,hb,F.imp fun vs H Q E h=>spG_we T no h⟩,xf,fun n hn=>by rw [List.mem_singleton.mp hn];exact no,xm⟩
theorem er_su (F:FnOk P w K mg base (L2.CX P w) 3 f fd ["self",v] (aAY K Cl fld)) (hb:Binds K fd ["self",v] []) (T:OexC K Cl) (nm:mg x=some (.ref Cl)) (hI:PySem.W.findIn K (.ref Cl) "__init__"=some (some (.ref f))) (hT:PySem.W.typeIn K (.ref f)=some (.type "function"))
  (n1:PySem.W.findIn K (.ref Cl) "value"=some none) (n2:PySem.W.findIn K (.ref Cl) fld=some none) (xf:XfC K Cl) (xm:PySem.W.exmOne K (.ref Cl) (.ref Cl)=some true):ErX P w K mg base x Cl 3 [fld,"value"]:=
 ⟨⟨T,nm,f,fd,v,hI,hT,hb,F.imp fun vs H Q E h=>spG_su h⟩,xf,fun n hn=>by
  rcases List.mem_cons.mp hn with rfl | hn
  ·exact n2
  ·rw [List.mem_singleton.mp hn];exact n1,xm⟩
theorem FnA.or {k:Nat} {g:Addr} {s1 s2:SpA} (h1:FnA P w K mg base k g s1) (h2:FnA P w K mg base k g s2):FnA P w K mg base k g fun ds L Q R=>s1 ds L Q R∨s2 ds L Q R:=by
 intro A outer s H us vs Q E hr e0 r h
 obtain ⟨ds,L,Z,Q',R',rd,c,hs | hs,q1,q2⟩:=h
 ·exact h1 A outer s H us vs Q E hr e0 r ⟨ds,L,Z,Q',R',rd,c,hs,q1,q2⟩
 ·exact h2 A outer s H us vs Q E hr e0 r ⟨ds,L,Z,Q',R',rd,c,hs,q1,q2⟩
theorem FnA.weak {k:Nat} {g:Addr} {s1 s2:SpA} (h1:FnA P w K mg base k g s1) (hi:∀ds L Q R,s2 ds L Q R→s1 ds L Q R):FnA P w K mg base k g s2:=by
 intro A outer s H us vs Q E hr e0 r h
 obtain ⟨ds,L,Z,Q',R',rd,c,hs,q1,q2⟩:=h
 exact h1 A outer s H us vs Q E hr e0 r ⟨ds,L,Z,Q',R',rd,c,hi _ _ _ _ hs,q1,q2⟩
end
section
variable {C:DL.Ctx} {Γ:Gm} {L:Lp} {Q:D→Lp→Prop}
end
end DL
namespace DL
open PySem PySem.Spec PyProof.Rows L2
abbrev IFs (K:PySem.W.Frag) (F:Fz) (H:Hp):List (Str×V)→List (Str×D)→Prop:=Paired (fun (p:Str×V) (q:Str×D)=>p.1=q.1∧Rep K F H p.2 q.2)
theorem ifs_look {K:PySem.W.Frag} {F:Fz} {H:Hp} {f:Str} {d:D}:∀{vfs:List (Str×V)} {fs:List (Str×D)},IFs K F H vfs fs→fs.lookup f=some d→∃v,vfs.lookup f=some v∧Rep K F H v d
 | _,_,.nil,h=>by cases h
 | (g,x)::r,(g',y)::r',.cons hh t,h=>by
  obtain ⟨e,hr⟩:=hh
  have e:g=g':=e
  subst e
  by_cases hg:f=g
  ·have hb:(f==g)=true:=beq_iff_eq.mpr hg
   simp only [List.lookup,hb] at h ⊢
   cases h
   exact ⟨x,rfl,hr⟩
  ·have hb:(f==g)=false:=beq_eq_false_iff_ne.mpr hg
   simp only [List.lookup,hb] at h ⊢
   exact ifs_look t h
theorem ifs_of {K:PySem.W.Frag} {F:Fz} {H:Hp}:∀{vfs:List (Str×V)} {fs:List (Str×D)},vfs.length=fs.length→(∀(i:Nat) (v:Str×V) (d:Str×D),vfs[i]? =some v→fs[i]? =some d→v.1=d.1∧Rep K F H v.2 d.2)→IFs K F H vfs fs
 | [],[],_,_=> .nil
 | [],_::_,h,_=>by simp at h
 | _::_,[],h,_=>by simp at h
 | v::vs,d::ds,h,hi=> .cons (hi 0 v d rfl rfl) (ifs_of (by simpa using h) fun i x y h1 h2=>hi (i+1) x y (by simpa using h1) (by simpa using h2))
def IsI (L:Lp) (x:D) (Cl:Addr) (fs:List (Str×D)):Prop:=(∃a,x= .ptr a∧L a=some (.iin Cl fs))∨x= .iob Cl fs
theorem IsI.fz {L:Lp} {Cl:Addr} {fs:List (Str×D)}:IsI L (.iob Cl fs) Cl fs:= .inr rfl
theorem IsI.st {L:Lp} {a Cl:Addr} {fs:List (Str×D)} (h:L a=some (.iin Cl fs)):IsI L (.ptr a) Cl fs:= .inl ⟨a,rfl,h⟩
section
variable {C:Ctx} {Γ:Gm} {L:Lp} {e o fe value:Expr} {es:List Expr} {pos p pos' apos np:Pos} {Q:D→Lp→Prop} {E:AEnds} {x f m:Str} {k:Nat} {sp:SpA} {Cl g:Addr} {fs:List (Str×D)}
theorem IsI.at_ {F:Fz} {H:Hp} {v:V} {x:D} (h:IsI L x Cl fs) (c:C.Con L F H) (r:Rep C.X.K F H v x):∃a dx vfs,v= .ref a∧H a=some (.ins Cl dx vfs)∧IFs C.X.K F H vfs fs:=by
 rcases h with ⟨a,rfl,ha⟩ | rfl
 ·obtain ⟨dx,vfs,h,r2⟩:=c.at_ a _ ha
  exact ⟨a,dx,vfs,r.ptrE,h,r2⟩
 ·cases r with
  | iob hl h hn he hi=>exact ⟨_,_,_,rfl,h,ifs_of hn fun i v d h1 h2=>⟨he i v d h1 h2,hi i v d h1 h2⟩⟩
end
end DL
namespace DL
open PySem PySem.Spec PyProof.Rows L2
def RK (C:DL.Ctx) (E:AEnds) (c:Value) (i j:Nat):Gm→Value→List (Str×D)→Lp→Prop:=fun Γ cls fs L=> ∃yes:Bool,PySem.W.exmOne C.X.K cls c=some yes∧(yes=true→i < Γ.length∧∃Cl,cls= .ref Cl∧∀a,L a=none→E.nx ((Γ.set j (some (.ptr a))).set i none) (put L a (.exc Cl fs)))∧(yes=false→C.R Γ cls fs L)
theorem as_tryK {C:DL.Ctx} {Γ:Gm} {L:Lp} {E:AEnds} {body:List Stmt} {x n y:Str} {c:Value} {p1 p2 p3 p4 p5 pos:Pos} (i j:Nat) (hc:Names C.X x c)
  (h:∀pn xe W tk po,ASs (tctx C pn xe W (RK C E c i j) tk po) body Γ L E)
  (hi:C.X.N[i]? =some n:=by rfl) (hn:C.X.env.kindOf n=some .local:=by rfl) (hj:C.X.N[j]? =some y:=by rfl) (hy:C.X.env.scope.names.lookup y=some .local:=by rfl) (hij:i≠j:=by decide)
  (hdb:(n==("__debug__" :Str))=false:=by decide) (hcd:(n==("__classdict__" :Str))=false:=by decide) (sw:swapsWith (.Name n p5) (some (.Name y p3)) p4.line C.X.env=pure false:=by rfl)
  (hst:C.X.stack=C.X.env::C.X.outer:=by rfl) (hf:C.X.env.frame=some C.X.env.locals:=by rfl) (hex:C.X.ex= []:=by rfl):
  AS C (.Try body [.ExceptHandler (some (.Name x p1)) (some n) [.Assign [.Name y p3] (.Name n p5) p4] p2] [] [] pos) Γ L E:=fun F σ H ok DD go=>by
 refine lF (ps_tryA (tb:=fun W D τ G=> ∀pn xe,Takes (C.X.tr pn xe) W→PassesOwn (model C.X.prog C.X.w) C.X.A C.X.env xe→WSs (C.X.tr pn xe) body D τ G) (l:= [(c,i,fun a cls d D σ H=> ∀oe pn,Zc cls d oe→(∃fv,oe.data= .fields fv)→WSs (C.X.suite a ((a,oe)::pn)) [.Assign [.Name y p3] (.Name n p5) p4] D σ H)]) hex hst hf C.nd C.tk (fun W pn xe tk po=>⟨fun pins s τ G D I q=>(q pn xe tk po).run pins s I⟩)
  (.cons hc hi hn (fun a oe cls d pn hz hf=>⟨fun pins s σ H D I h=>(h oe pn hz hf).run pins s I⟩) .nil)) fun pn xe tk po=> ?_
 refine h pn xe _ tk po F σ H ⟨ok.sl,ok.con,⟨fun {F'} cls d σ' H' Γ' L' fs sl con f xd r=> ?_,ok.lr.tk⟩⟩ DD ⟨fun s H2 Γ2 L2 o f q=>go.nx s H2 Γ2 L2 ⟨o.sl,o.con,ok.lr.step f⟩ f q,go.rt,fun s H2 Γ2 L2 o f q=>go.bk s H2 Γ2 L2 ⟨o.sl,o.con,ok.lr.step f⟩ f q,fun s H2 Γ2 L2 o f q=>go.ct s H2 Γ2 L2 ⟨o.sl,o.con,ok.lr.step f⟩ f q⟩
 obtain ⟨yes,hm,h1,h2⟩:=r
 refine ⟨yes,hm,fun ey a ha oe pn hz hfd=> ?_,fun ey=>ok.lr.of cls d σ' H' Γ' L' fs sl con f xd (h2 ey)⟩
 obtain ⟨hil,Cl,ec,hnx⟩:=h1 ey
 subst ec
 have sl2:=sl.set i (.ptr a)
 have hlt:i < σ'.length:=by
  rw [sl.len]
  exact hil
 refine wV (pss_one (ps_set (X:=C.X.suite a ((a,oe)::pn)) C.nd hj (.inl hy) (pe_var (X:=C.X.suite a ((a,oe)::pn)) hi (.inl hn) hdb hcd) sw (.inr hy))) ⟨.ref a,List.getElem?_set_self hlt,?_⟩
 have s2:=(((sl.set i (.ptr a)).set j (.ptr a)).setN i)
 rw [set_off Γ' hij] at s2
 obtain ⟨fvs,hzf,hd,pr⟩:=xd
 have hda:d≠a:=fun z=>by rw [z,ha] at hd;cases hd
 have at_:At C.X.prog C.X.w C.X.K F' (upd H' a (ErO (.ref Cl) (some d) a)) a (.exc Cl fs):=⟨d,fvs,upd_same,hzf,by rw [upd_ne hda];exact hd,Paired.mono pr fun _ _ z=>⟨z.1,z.2.mono (Mv.new ha)⟩⟩
 have f2:DL.Fr L' F' H' (put L' a (.exc Cl fs)) F' (upd H' a (ErO (.ref Cl) (some d) a)):=Fr.newL ha
 exact .inr (go.nx _ _ _ _ ⟨s2.mono f2.mv,con.newL ha at_,ok.lr.step (f.trans f2)⟩ (f.trans f2) (hnx a (con.free ha)))
section
variable {C:DL.Ctx} {Γ:Gm} {L:Lp} {e:Expr} {f:Str} {pos:Pos} {Q:D→Lp→Prop}
theorem ae_fldX (h:AE C e Γ L fun x L1=> ∃a Cl fs d,x= .ptr a∧L1 a=some (.exc Cl fs)∧XfC C.X.K Cl∧PySem.W.findIn C.X.K (.ref Cl) f=some none∧fs.lookup f=some d∧Q d L1) (hb:attributeBase e f C.X.env (eval e C.X.env)=eval e C.X.env:=by rfl):AE C (.Attribute e f pos) Γ L Q:=fun F σ H ok QV go=>by
 refine ⟨fun pins s I=>attr_of hb (thn ((h F σ H ok (fun v H1=> ∃x L1 F1,Rep C.X.K F1 H1 v x∧C.Con L1 F1 H1∧Fr L F H L1 F1 H1∧∃a Cl fs d,x= .ptr a∧L1 a=some (.exc Cl fs)∧XfC C.X.K Cl∧PySem.W.findIn C.X.K (.ref Cl) f=some none∧fs.lookup f=some d∧Q d L1) fun v x H1 L1 r c f q=>⟨x,L1,_,r,c,f,q⟩).run pins s I) fun u s1 ⟨v,H1,I1,rv,x,L1,F1,r1,c1,f1,a,Cl,fs,d,ex,hL,T,hno,hl,q⟩=> ?_)⟩
 subst ex
 rw [r1.ptrE] at rv
 obtain rfl:u=Value.ref a:=rv
 obtain ⟨oe,od,dx,fvs,J,_,lk,pr⟩:=exc_inst hL c1 I1
 obtain ⟨y,hy,ry⟩:=ifs_look pr hl
 obtain ⟨w,rw_,lw⟩:=lk f y hy
 exact HandSPX.exc_get I1.kIn J T.ga T.gg T.exC (PySem.W.findObj_own T.hdC hno rfl lw) (handed_of rw_) ⟨y,H1,I1.tok _,rw_,go y d H1 L1 ry c1 f1 q⟩
end
end DL
namespace DL
open PySem PySem.Spec PyProof.Rows L2
section
open PySem.W
end
section
variable {C:DL.Ctx} {Γ:Gm} {L:Lp} {Q:D→Lp→Prop} {x:D} {k:Nat} {g g2 Cl:Addr} {sp:SpA}
end
end DL
namespace DL
open PySem PySem.Spec PyProof.Rows L2
def vK (fd:FuncData) (ps:List Str) (pv:Str):Prop:= ∀us rest:List Value,us.length=ps.length→bindArgs fd ⟨us++rest,[]⟩=(newTuple rest >>=fun t=>pure (ps.zip us++ [(pv,t)]))
theorem Fun.bindsS {K:PySem.W.Frag} {x qual:Str} {st:Stmt} {f:Addr} {fd:FuncData} {ps:List Str} {pv:Str} (F:Fun K x qual st f fd)
  (h:∀(kV doc pm:Value) (an:Option Addr) (cdv ct:Value),vK (PySem.W.fnOf x qual (defArgs st) (defBody st) (defScope st) .none kV doc pm an cdv ct) ps pv):vK fd ps pv:=by
 obtain ⟨oc,od,kV,doc,pm,an,cdv,ct,osl,rfl,lk,hcd⟩:=F.ex
 exact h kV doc pm an cdv ct
theorem bindsS1 {fd:FuncData} {p1 pv:Str} (h0:∀a,bindArgs fd ⟨[a],[]⟩=(newTuple [] >>=fun t=>pure [(p1,a),(pv,t)])) (h1:∀a r rs,bindArgs fd ⟨a::r::rs,[]⟩=(newTuple (r::rs) >>=fun t=>pure [(p1,a),(pv,t)])):vK fd [p1] pv:=
 StX.bind_star1 (B:=fun us=>bindArgs fd ⟨us,[]⟩) h0 h1
theorem bG.cutS {K:PySem.W.Frag} {Z:Fz} {H:Hp}:∀{ws rest:List D} {vs:List V},bG K Z H vs (ws++rest)→∃v1 v2,vs=v1++v2∧bG K Z H v1 ws∧bG K Z H v2 rest
 | [],_,vs,r=>⟨[],vs,rfl,.nil,r⟩
 | _::ws,rest,_,.cons a r=>by
  obtain ⟨v1,v2,e,r1,r2⟩:=bG.cutS (ws:=ws) (rest:=rest) r
  exact ⟨_::v1,v2,by rw [e];rfl,.cons a r1,r2⟩
def spS (n:Nat) (sp:SpA):SpA:=fun ds L Q R=> ∃ws rest,ds=ws++rest∧ws.length=n∧rest.length≤sizeLine∧sp (ws++ [.tup rest]) L Q R
theorem fnAS {P:Program} {w:World} {K:PySem.W.Frag} {mg:Str→Option Value} {base:Heap} {x qual:Str} {st:Stmt} {f:Addr} {fd:FuncData} {N ps:List Str} {pv:Str} {k:Nat} {sp:SpA} (F:FunX K x qual st f fd) (S:FnScope N (ps++ [pv]) (defScope st)) (hb:vK fd ps pv)
  (hbody:∀(cdv:Value) (A:Around) (outer:List Env) (s:Shared) (H:Hp) (E:XK) (ds:List D) (L:Lp) (Q:D→Lp→Prop) (R:Value→List (Str×D)→Lp→Prop),Room k (A.deeper (envOfC qual (defScope st) s.heap.objs.size f cdv))→sp ds L Q R→
   ASs (vA P w K mg base N qual (defScope st) f cdv A outer s H E S.nd R) (defBody st) (qO N ds) L (sG Q)):FnA P w K mg base (k+1) f (spS ps.length sp):=by
 obtain ⟨oc,od,dV,kV,doc,pm,an,cdv,ct,osl,rfl,lk,hcd⟩:=F.ex
 have G:=StX.fn_star (P:=P) (w:=w) (mg:=mg) (base:=base) (k:=k) (sp:=aAR P w K sp) lk hcd S StX.cxUp hb fun A outer s H vs Q E hr ⟨ds,L,Z,Q',R',r,c,h,hq,he⟩=>by
  refine ⟨_,mF,hbody cdv A outer s H E ds L Q' R' hr h _ (L2.start N vs) H ⟨nQ r,c,⟨fun cls d σ' H' Γ' L' fs _ c' f' xd q=>he cls fs L' q d H' xd c' f',True.intro⟩⟩ _ ⟨?_,?_,?_,?_⟩⟩
  ·rintro Z' σ' H' Γ' L' ok' f' ⟨L2,le,q⟩
   exact hq .non L2 q .non H' .non (ok'.con.le le) (f'.leR le)
  ·rintro Z' v d H' L' rv c' f' ⟨L2,le,q⟩
   exact hq d L2 q v H' rv (c'.le le) (f'.leR le)
  ·rintro _ _ _ _ _ _ _ z
   exact z.elim
  ·rintro _ _ _ _ _ _ _ z
   exact z.elim
 refine G.imp ?_
 rintro vs H Q E ⟨ds,L,Z,Q',R',r,c,⟨ws,rest,eds,hl,hz,h⟩,hq,he⟩
 subst eds
 obtain ⟨v1,v2,ev,r1,r2⟩:=r.cutS
 subst ev
 refine ⟨v1,v2,rfl,r1.length.trans hl,by rw [r2.length];exact hz,fun p hp=> ?_⟩
 refine ⟨ws++ [.tup rest],L,Z,Q',R',bG.append (r1.mono (.new hp)) (.cons (.tupI upd_same (r2.mono (.new hp)) hz) .nil),c.new hp,h,fun d L' q v H' rv c' f'=>hq d L' q v H' rv c' ((Fr.new hp).trans f'),fun cls fs L' q d H' xd c' f'=>he cls fs L' q d H' xd c' ((Fr.new hp).trans f')⟩
end DL
namespace DL
open PySem PySem.Spec PyProof.Rows L2
section
variable {C:Ctx} {L:Lp} {Q:D→Lp→Prop} {ys:List Str}
end
end DL
namespace DL
open PySem PySem.Spec PyProof.Rows L2
section
variable {C:Ctx} {L:Lp} {Q:D→Lp→Prop} {x y:D}
theorem any_enc {α:Type} [Enc α] [DecidableEq α] (z:α):∀xs:List α,((pys (xs.map Enc.enc)).any fun d=>PyData.eqv d (py (Enc.enc z)))=decide (z∈xs)
 | []=>rfl
 | x::xs=>by
  rw [List.map_cons,pys,List.any_cons,any_enc z xs,wF]
  by_cases h:x=z
  ·subst h
   rw [decide_eq_true rfl,Bool.true_or]
   exact (decide_eq_true (List.mem_cons_self (a:=x) (l:=xs))).symm
  ·rw [decide_eq_false h,Bool.false_or]
   by_cases h2:z∈xs
   ·rw [decide_eq_true h2,decide_eq_true (List.mem_cons_of_mem _ h2)]
   ·rw [decide_eq_false h2,decide_eq_false fun h3=>by
     rcases List.mem_cons.mp h3 with e | e
     ·exact h e.symm
     ·exact h2 e]
end
end DL
namespace DL
open PySem PySem.Spec PyProof.Rows L2
section
variable {C:Ctx} {L:Lp} {Q:D→Lp→Prop}
end
end DL
namespace DL
open PySem PySem.Spec PyProof.Rows L2
section
variable {C:Ctx} {Γ:Gm} {L:Lp} {Q:D→Lp→Prop} {x:D} {o e:Expr} {pos apos:Pos} {α:Type} [Enc α] [DecidableEq α]
end
end DL
namespace DL
open PySem PySem.Spec PyProof.Rows L2
section
variable {C:DL.Ctx} {Γ:Gm} {L:Lp} {Q:D→Lp→Prop} {pos:Pos} {k1 v1 k2 v2 k3 v3 k4 v4:Expr}
end
end DL
namespace DL
open PySem PySem.Spec PyProof.Rows L2
section
variable {C:DL.Ctx} {Γ:Gm} {L:Lp} {Q:D→Lp→Prop} {x y:D} {Cl g:Addr} {k:Nat} {sp:SpA} {a e:Expr} {es:List Expr} {pos p:Pos}
end
end DL
namespace DL
open PySem PySem.Spec PyProof.Rows L2
section
variable {C:DL.Ctx} {L:Lp} {Q:D→Lp→Prop} {ys zs:List Str} {x y:D}
end
end DL
namespace DL
open PySem PySem.Spec PyProof.Rows L2
abbrev aAs (K:PySem.W.Frag):R2:=fun x y H Q=> ∃(a:PyData) (bs:List PyData),(Dp K H x a∧SeqAt.shaped a=true)∧(Dp K H y (.tuple bs)∧SeqAt.shaped (.tuple bs)=true)∧Q (.bl (bs.any fun z=>PyData.eqv z a)) H
theorem op_inTd {X:Cx} (hu:X.A.units+65 < cLine):OpR X (compareOp .In) (aAs X.K):=fun pins s σ H x y v u Q I rx ry ⟨a,bs,⟨ha,sa⟩,⟨hb,sb⟩,q⟩=>by
 obtain ⟨_,ra⟩:=Dp.reads I a x v ha rx
 obtain ⟨_,rb⟩:=Dp.reads I (.tuple bs) y u hb ry
 have hd:PyData.depth a≤64:=SeqAt.depth_of_shaped sa
 refine SeqAt.in_tuple_reads rb ra (SeqAt.canLay_of_shaped sb) (SeqAt.canLay_of_shaped sa) ?_ ⟨.bl _,H,I,rfl,q⟩
 have:=Nat.min_le_right (PyData.depthAll bs) a.depth
 omega
section
variable {C:DL.Ctx} {L:Lp} {Q:D→Lp→Prop}
theorem in_ET {α:Type} [Enc α] [DecidableEq α] {z:α} {xs:List α} (q:Q (.bl (decide (z∈xs))) L) (h:Enc.dep α≤63:=by decide):L2R C (aAs C.X.K) (Enc.enc z) (.tup (xs.map Enc.enc)) L Q:=fun F vx vy H c rx ry QV go=>by
 obtain ⟨a1,a2⟩:=Rep.dp _ vx (vB z) rx
 obtain ⟨b1,b2⟩:=Rep.dp (.tup (xs.map Enc.enc)) vy (by rw [okD];exact vZ _ (tO _ _ fun z _=>Enc.pl z)) ry
 rw [py] at b1 b2
 refine ⟨_,_,⟨a1,jF a2 (Nat.le_trans (Enc.dpt z) (by omega))⟩,⟨b1,jF b2 ?_⟩,?_⟩
 ·have e1:(PyData.tuple (pys (xs.map (Enc.enc (α:=α))))).depth=(PyData.list (pys (xs.map (Enc.enc (α:=α))))).depth:=by
   simp only [PyData.depth]
  exact Nat.le_trans (Nat.le_of_eq e1) (dep_list xs h)
 ·rw [any_enc]
  exact go _ _ H L (.bl _) c (.refl L H) q
end
end DL
namespace DL
open PySem PySem.Spec PyProof.Rows L2
section
variable {C:DL.Ctx} {L:Lp} {Q:D→Lp→Prop}
end
structure NI (L M:Lp) (p:Addr) (mo:MO):Prop where
 le:∀a u,L a=some u→a≠p→M a=some u
 p:M p=some mo
section
variable {L M:Lp} {p n:Addr} {mo mo' o:MO}
theorem NI.refl (h:L p=some mo):NI L L p mo:=⟨fun _ _ e _=>e,h⟩
theorem NI.fin (h:NI L M p mo):Le (put L p mo) M:=fun a u e=>by
 by_cases ea:a=p
 ·subst ea
  rw [aD] at e
  rw [←e]
  exact h.p
 ·rw [aJ ea] at e
  exact h.le a u e ea
theorem NI.new (h:NI L M p mo) (hn:M n=none):NI L (put M n o) p mo:=⟨fun a u e ha=>by
 have:=h.le a u e ha
 rw [aJ (aO this hn)]
 exact this,by rw [aJ (aO h.p hn)];exact h.p⟩
theorem NI.pot (h:NI L M p mo):NI L (put M p mo') p mo':=⟨fun a u e ha=>by rw [aJ ha];exact h.le a u e ha,aD⟩
theorem NI.own (h:NI L M p mo) (hn:L n=none) (hp:n≠p):NI L (put M n o) p mo:=⟨fun a u e ha=>by
 rw [aJ (aO e hn)]
 exact h.le a u e ha,by rw [aJ hp.symm];exact h.p⟩
theorem NI.none (h:NI L M p mo) (hn:M n=none):L n=none:=by
 cases e:L n with
 | none=>rfl
 | some u=>
  by_cases hp:n=p
  ·subst hp
   rw [h.p] at hn
   cases hn
  ·rw [h.le n u e hp] at hn
   cases hn
theorem NI.ne (h:NI L M p mo) (hn:M n= .none):n≠p:=fun e=>by
 subst e
 rw [h.p] at hn
 cases hn
end
end DL
namespace DL
open PySem PySem.Spec PyProof.Rows L2
section
variable {C:DL.Ctx} {Γ:Gm} {L:Lp} {Q:D→Lp→Prop} {kds:List (D×D)} {a:Addr}
end
end DL
namespace DL
open PySem PySem.Spec PyProof.Rows L2
end DL
namespace DL
open PySem PySem.Spec PyProof.Rows L2
def bg (rss:List Rl) (cs:List Cell):List (List Wd)×List Cell:=thr false (rss.map fun r=>(r,[])) cs
end DL
namespace DL
open PySem PySem.Spec PyProof.Rows L2
end DL
namespace DL
open PySem PySem.Spec PyProof.Rows L2
abbrev Pd:=List (List Wd)
structure RowC where
 p:Pd
 q:Pd
 a:List Cell
 b:List Cell
deriving DecidableEq
def dRow (r:RowC):D:= .tup [dC r.p,dC r.q,dC r.a,dC r.b]
section
variable (r1 r2:List Rl)
def sameR (r:RowC):Bool:=decide (r.a++(thr true (r1.zip r.p) []).2=r.b++(thr true (r2.zip r.q) []).2)
end
def pfx (rs:Rl):List (List Wd):= []::rs.flatMap fun r=> [r.1.take 1,r.1.take 2]
def aA4:List Rl→List Pd
 | []=> [[]]
 | rs::rss=>(pfx rs).flatMap fun x=>(aA4 rss).map (x:: ·)
structure RowOk (r1 r2:List Rl) (r:RowC):Prop where
 p:r.p∈aA4 r1
 q:r.q∈aA4 r2
 one:r.a= []∨r.b= []
 same:sameR r1 r2 r=true
theorem RowOk.inj {r1 r2:List Rl} {r s:RowC} (h:RowOk r1 r2 r) (k:RowOk r1 r2 s) (ep:r.p=s.p) (eq:r.q=s.q):r=s:=by
 obtain ⟨p,q,a,b⟩:=r
 obtain ⟨p',q',a',b'⟩:=s
 cases ep
 cases eq
 have h1:=of_decide_eq_true h.same
 have h2:=of_decide_eq_true k.same
 have h3:=h.one
 have h4:=k.one
 dsimp only at h1 h2 h3 h4
 generalize (thr true (r1.zip p) []).2=f at h1 h2
 generalize (thr true (r2.zip q) []).2=g at h1 h2
 have l1:=congrArg List.length h1
 have l2:=congrArg List.length h2
 simp only [List.length_append] at l1 l2
 rcases h3 with rfl | rfl <;> rcases h4 with rfl | rfl
 ·have:b=b':=by
   rw [List.nil_append] at h1 h2
   rw [h1] at h2
   exact List.append_cancel_right h2
  rw [this]
 ·have e1:b= []:=List.length_eq_zero_iff.mp (by simp at l1 l2;omega)
  have e2:a'= []:=List.length_eq_zero_iff.mp (by simp at l1 l2;omega)
  rw [e1,e2]
 ·have e1:a= []:=List.length_eq_zero_iff.mp (by simp at l1 l2;omega)
  have e2:b'= []:=List.length_eq_zero_iff.mp (by simp at l1 l2;omega)
  rw [e1,e2]
 ·have:a=a':=by
   rw [List.nil_append] at h1 h2
   rw [←h2] at h1
   exact List.append_cancel_right h1
  rw [this]
end DL
namespace DL
open PySem PySem.Spec PyProof.Rows L2
structure RuN (rs:Rl):Prop where
 len:rs.length≤6
 key:∀r∈rs,kyD (dW r.1)=true
 cel:∀r∈rs,csD (dC r.2)=true
 nd:(rs.map (·.1)).Nodup
theorem RuN.ne {rs:Rl} (h:RuN rs):∀r∈rs,r.1≠ []:=fun r hr e=>by
 have:=(kyD_iff (h.key r hr)).2.1
 rw [e] at this
 exact absurd this (by decide)
theorem RuOk.n {rs:Rl} (h:RuOk rs):RuN rs:=⟨h.len,h.key,h.cel,riseK_nodup h.up⟩
theorem RuN.r2 {rs:Rl} (h:RuN rs):RL2 rs:=fun r hr=>(csD_iff (h.cel r hr)).1
end DL
namespace DL
open PySem PySem.Spec PyProof.Rows L2
theorem nks_map {α:Type} (f:α→D):∀xs:List α,nks (xs.map f)=xs.map fun x=>nk (f x)
 | []=>by rw [List.map_nil,nks];rfl
 | x::xs=>by rw [List.map_cons,nks,nks_map f xs];rfl
theorem aAx (ws:List Wd):nk (dW ws)= .tup (ws.map .text):=by
 unfold dW
 rw [nk,nks_map]
 exact congrArg NestedKey.tup (List.map_congr_left fun x _=>by rw [nk])
theorem map_inj2 {α β:Type} {f:α→β} (hf:∀x y,f x=f y→x=y):∀{xs ys:List α},xs.map f=ys.map f→xs=ys
 | [],[],_=>rfl
 | [],_::_,h=>by cases h
 | _::_,[],h=>by cases h
 | x::xs,y::ys,h=>by
  injection h with h1 h2
  rw [hf x y h1,map_inj2 hf h2]
theorem nk_dW_inj {a b:List Wd} (h:nk (dW a)=nk (dW b)):a=b:=by
 rw [aAx,aAx] at h
 exact map_inj2 (fun x y e=>NestedKey.text.inj e) (NestedKey.tup.inj h)
theorem nkd_all {n:Nat}:∀{ks:List NestedKey},(∀k∈ks,k.depth≤n)→NestedKey.depthAll ks≤n
 | [],_=>by rw [NestedKey.depthAll];exact Nat.zero_le _
 | k::ks,h=>by
  rw [NestedKey.depthAll]
  have h1:=h k List.mem_cons_self
  have h2:=nkd_all fun x hx=>h x (List.mem_cons_of_mem _ hx)
  omega
theorem nkd_dW (ws:List Wd):(nk (dW ws)).depth≤1:=by
 rw [aAx,NestedKey.depth]
 have:=nkd_all (n:=0) (ks:=ws.map .text) fun k hk=>by
  obtain ⟨x,_,rfl⟩:=List.mem_map.mp hk
  rw [NestedKey.depth]
  exact Nat.le_refl _
 omega
def dTx (ts:List (RowC×List Wd)):List (D×D):=ts.map fun x=>(dRow x.1,dW x.2)
end DL
namespace DL
open PySem PySem.Spec PyProof.Rows L2
section
variable {C:DL.Ctx} {Γ:Gm} {L:Lp} {Q:D→Lp→Prop} {kds:List (D×D)} {a:Addr}
end
def ltD (x y:D):Bool:=PySem.W.dataLt (py x) (py y)
theorem yX (x y:D):leD x y= !ltD y x:=rfl
theorem leD_trans (a b c:D) (h1:leD a b=true) (h2:leD b c=true):leD a c=true:=by
 rw [yX,Bool.not_eq_true'] at*
 cases h:ltD c a with
 | false=>rfl
 | true=>
  rcases (listOrd itemOrd).negTrans _ (PySem.W.keyToks (py b)) _ h with z | z
  ·exact absurd (show ltD c b=true from z) (by rw [h2];decide)
  ·exact absurd (show ltD b a=true from z) (by rw [h1];decide)
theorem leD_total (a b:D):(leD a b || leD b a)=true:=by
 rw [yX,yX]
 cases h:ltD b a with
 | false=>rfl
 | true=>
  cases h2:ltD a b with
  | false=>rfl
  | true=>
   have t:=(listOrd itemOrd).trans _ _ _ h h2
   have i:=(listOrd itemOrd).irrefl (PySem.W.keyToks (py b))
   have t2:(listOrd itemOrd).blt (PySem.W.keyToks (py b)) (PySem.W.keyToks (py b))=true:=t
   rw [t2] at i
   cases i
end DL
namespace DV
open PySem PySem.Spec PyProof.Rows L2
section
variable {P:Program} {w:World}
abbrev Nk (P:Program) (w:World) (h:Heap) (k:NestedKey) (a:Addr):Prop:=(nestedKind P w).is h k a
abbrev nh (w:World) (k:NestedKey):Int:=NestedKey.hash w k
def yG (P:Program) (w:World) (n:Nat) (s:Shared) (v:Value):Prop:= ∀(A:Around) (E:Value→Shared→Prop) (Q:Bool→Shared→Prop),Q false s→wpAny (model P w) A (ofAClassStatement n v) Q E s
def sV (P:Program) (w:World) (n:Nat) (s:Shared) (v:Value):Prop:= ∀(A:Around) (E:Value→Shared→Prop) (Q:Bool→Shared→Prop),(∀b,Q b s)→wpAny (model P w) A (hashByValue n v) Q E s
theorem tV {n:Nat} {s:Shared} {v:Value} (e:ofAClassStatement n v=pure false):yG P w n s v:=fun A E Q q=>by rw [e];exact wpAny_pure q
theorem rG {n:Nat} {s:Shared} {v:Value} {b:Bool} (e:hashByValue n v=pure b):sV P w n s v:=fun A E Q q=>by rw [e];exact wpAny_pure (q b)
theorem noCls_tup {n m:Nat} {s:Shared} {a:Addr} {o:Obj} {vs:Array Value} (ho:s.heap.get? a=some o) (hc:o.cls= .type "tuple") (hd:o.data= .seq vs m) (hv:∀v∈vs.toList,yG P w n s v):yG P w (n+1) s (.ref a):=fun A E Q q=>by
 have hT:s.TypeIs (.ref a) "tuple" :=⟨o,ho,hc⟩
 have e:(("tuple" :String)=="tuple")=true:=by decide
 unfold ofAClassStatement;refine wpAny_bind (wpAny_typeOf hT ?_);dsimp only
 simp only [e,if_true,Bool.not_true,Bool.false_eq_true,if_false]
 show wpAny _ _ (seqItems? (.ref a) >>=_) _ _ s
 refine wpAny_bind (wpAny_seqItems ho hd (wpAny_bind ?_));show wpAny _ _ (forIn vs _ _) _ _ s
 rw [←Array.forIn_toList];refine wpAny_forIn_list _ (fun l r s'=>r.1=none∧s'=s∧∀v∈l,yG P w n s v) _ ?_ ?_ _ _ ⟨rfl,rfl,hv⟩
 ·rintro v l r s' ⟨e1,rfl,all⟩;refine wpAny_bind (all v List.mem_cons_self _ _ _ ?_)
  simp only [Bool.false_eq_true,if_false];exact wpAny_pure ⟨rfl,rfl,fun u hu=>all u (List.mem_cons_of_mem _ hu)⟩
 ·rintro ⟨r1,r2⟩ s' ⟨e1,rfl,_⟩;simp only at e1;subst e1;exact wpAny_pure q
theorem hvTold_tup {n m:Nat} {s:Shared} {a:Addr} {o:Obj} {vs:Array Value} (ho:s.heap.get? a=some o) (hc:o.cls= .type "tuple") (hd:o.data= .seq vs m) (hv:∀v∈vs.toList,sV P w n s v):sV P w (n+1) s (.ref a):=fun A E Q q=>by
 have hT:s.TypeIs (.ref a) "tuple" :=⟨o,ho,hc⟩
 unfold hashByValue;refine wpAny_bind (wpAny_specialOf hT F.slot_tuple_hash.lookup ?_)
 show wpAny _ _ (seqItems? (.ref a) >>=_) _ _ s
 refine wpAny_bind (wpAny_seqItems ho hd (wpAny_bind ?_));show wpAny _ _ (forIn vs _ _) _ _ s
 rw [←Array.forIn_toList];refine wpAny_forIn_list _ (fun l r s'=>r.1=none∧s'=s∧∀v∈l,sV P w n s v) _ ?_ ?_ _ _ ⟨rfl,rfl,hv⟩
 ·rintro v l r s' ⟨e1,rfl,all⟩;refine wpAny_bind (all v List.mem_cons_self _ _ _ fun b=> ?_)
  cases b
  ·simp only [Bool.not_false,if_true];exact wpAny_pure (wpAny_pure (q _))
  ·simp only [Bool.not_true,Bool.false_eq_true,if_false];exact wpAny_pure ⟨rfl,rfl,fun u hu=>all u (List.mem_cons_of_mem _ hu)⟩
 ·rintro ⟨r1,r2⟩ s' ⟨e1,rfl,_⟩;simp only at e1;subst e1;exact wpAny_pure (q _)
mutual
theorem rB:∀(k:NestedKey) (v:Value) (n:Nat) (s:Shared),NestedIs s.heap k v→k.depth≤n→yG P w n s v
 | .none,_,n,s,x,_=>by cases x;exact tV (by cases n <;> rfl)
 | .num i,_,n,s,x,_=>by cases x <;> exact tV (by cases n <;> rfl)
 | .text y,_,n,s,x,_=>by cases x;exact tV (by cases n <;> rfl)
 | .tup ks,_,n,s,x,hn=>by
  cases x with
  | tup g1 g2 g3 g4=>
   rw [NestedKey.depth] at hn
   match n,hn with
   | m+1,hn=>exact noCls_tup g1 g2 g3 (noCls_keys ks _ m s g4 (Nat.le_of_succ_le_succ hn))
theorem noCls_keys:∀(ks:List NestedKey) (vs:List Value) (n:Nat) (s:Shared),NestedAll s.heap ks vs→NestedKey.depthAll ks≤n→∀v∈vs,yG P w n s v
 | [],_,n,s,x,_,v,hv=>by cases x;cases hv
 | k::ks,_,n,s,x,hn,v,hv=>by
  cases x with
  | cons x1 x2=>
   rw [NestedKey.depthAll] at hn
   rcases List.mem_cons.mp hv with rfl | hv
   ·exact rB k _ n s x1 (Nat.le_trans (Nat.le_max_left _ _) hn)
   ·exact noCls_keys ks _ n s x2 (Nat.le_trans (Nat.le_max_right _ _) hn) v hv
end
mutual
theorem pF:∀(k:NestedKey) (v:Value) (n:Nat) (s:Shared),NestedIs s.heap k v→k.depth≤n→sV P w n s v
 | .none,_,n,s,x,_=>by cases x;exact rG (b:=true) (by cases n <;> rfl)
 | .num i,_,n,s,x,_=>by cases x <;> exact rG (b:=true) (by cases n <;> rfl)
 | .text y,_,n,s,x,_=>by cases x;exact rG (b:=false) (by cases n <;> rfl)
 | .tup ks,_,n,s,x,hn=>by
  cases x with
  | tup g1 g2 g3 g4=>
   rw [NestedKey.depth] at hn
   match n,hn with
   | m+1,hn=>exact hvTold_tup g1 g2 g3 (hvTold_keys ks _ m s g4 (Nat.le_of_succ_le_succ hn))
theorem hvTold_keys:∀(ks:List NestedKey) (vs:List Value) (n:Nat) (s:Shared),NestedAll s.heap ks vs→NestedKey.depthAll ks≤n→∀v∈vs,sV P w n s v
 | [],_,n,s,x,_,v,hv=>by cases x;cases hv
 | k::ks,_,n,s,x,hn,v,hv=>by
  cases x with
  | cons x1 x2=>
   rw [NestedKey.depthAll] at hn
   rcases List.mem_cons.mp hv with rfl | hv
   ·exact pF k _ n s x1 (Nat.le_trans (Nat.le_max_left _ _) hn)
   ·exact hvTold_keys ks _ n s x2 (Nat.le_trans (Nat.le_max_right _ _) hn) v hv
end
end
section
variable {P:Program} {w:World} {A:Around} {E:Value→Shared→Prop} {s:Shared}
theorem unseen {k:NestedKey} {b:Addr} {Q:Bool→Shared→Prop} (kb:Nk P w s.heap k b) {ys:List Value} (all:∀y∈ys,∃j c,y=Value.ref c∧Nk P w s.heap j c) (q:Q false s):wpAny (model P w) A (searchCouldBeSeen (.ref b) ys) Q E s:=by
 unfold searchCouldBeSeen
 refine wpAny_bind (wpAny_forIn_list _ (fun l r s'=>r.1=none∧s'=s∧∀y∈l,∃j c,y=Value.ref c∧Nk P w s.heap j c) _ ?_ ?_ _ _ ⟨rfl,rfl,all⟩)
 ·rintro v l r s' ⟨e1,rfl,al⟩
  obtain ⟨j,c,rfl,kc⟩:=al v List.mem_cons_self
  have al2:∀y∈l,∃j c,y=Value.ref c∧Nk P w s'.heap j c:=fun y hy=>al y (List.mem_cons_of_mem _ hy)
  dsimp only
  by_cases hv:(b==c || (carriedByValue (.ref b) && carriedByValue (.ref c)))=true
  ·exact wp_if_pos hv (wpAny_pure ⟨rfl,rfl,al2⟩)
  ·refine wp_if_neg hv (wpAny_bind ((nestedKind P w).quiet kb ?_));simp only [Bool.not_true,Bool.false_eq_true,if_false]
   refine wpAny_bind ((nestedKind P w).quiet kc ?_);simp only [Bool.not_true,Bool.false_eq_true,if_false]
   refine wpAny_bind (rB k _ 8 s' kb.1 kb.2 _ _ _ ?_);simp only [Bool.false_eq_true,if_false]
   refine wpAny_bind (rB j _ 8 s' kc.1 kc.2 _ _ _ ?_);simp only [Bool.false_eq_true,if_false]
   exact wpAny_pure ⟨rfl,rfl,al2⟩
 ·rintro ⟨r1,r2⟩ s' ⟨e1,rfl,_⟩;simp only at e1;subst e1;exact wpAny_pure q
end
end DV
namespace DV
open PySem PySem.Spec PyProof.Rows L2 DU
def orb (m:Nat):Nat→Nat→List Nat
 | 0,_=> []
 | n+1,x=>x::orb m n ((x*5+1) % (m+1))
theorem orb_get (m:Nat):∀n a b,b < n→(orb m n (lcgN m a))[b]? =some (lcgN m (a+b))
 | 0,_,_,h=>absurd h (Nat.not_lt_zero _)
 | n+1,a,0,_=>rfl
 | n+1,a,b+1,h=>by
  have:=orb_get m n (a+1) b (by omega)
  show (orb m n (lcgN m (a+1)))[b]? =_
  rw [this,show a+1+b=a+(b+1) by omega]
def chk2 (m:Nat):Bool:=((List.range (m+1)).all fun j=>(orb m (m+1) 0).contains j) && (lcgN m (m+1)==0)
theorem orb_len (m:Nat):∀n x,(orb m n x).length=n
 | 0,_=>rfl
 | n+1,x=>congrArg (· +1) (orb_len m n _)
theorem msk_of {m:Nat} (h:chk2 m=true):Msk m:=by
 unfold chk2 at h
 rw [Bool.and_eq_true] at h
 refine ⟨fun j hj=> ?_,eq_of_beq h.2⟩
 have hc:=List.all_eq_true.mp h.1 j (List.mem_range.mpr (by omega))
 obtain ⟨b,hb⟩:=List.getElem?_of_mem (List.contains_iff_mem.mp hc)
 have hl:=(List.getElem?_eq_some_iff.mp hb).1
 rw [orb_len] at hl
 have e:=orb_get m (m+1) 0 b hl
 rw [show lcgN m 0=0 from rfl,hb,Nat.zero_add] at e
 exact ⟨b,by omega,(Option.some.inj e).symm⟩
theorem msk511:Msk 511:=msk_of (by decide+kernel)
def Mk (m:Nat):Prop:=m=7∨m=31∨m=127∨m=511
theorem Mk.msk {m:Nat} (h:Mk m):Msk m:=by rcases h with rfl | rfl | rfl | rfl <;> first | exact msk7 | exact msk31 | exact msk127 | exact msk511
theorem Mk.odd {m:Nat} (h:Mk m):m % 2=1:=by rcases h with rfl | rfl | rfl | rfl <;> rfl
theorem Mk.le {m:Nat} (h:Mk m):m≤511:=by rcases h with rfl | rfl | rfl | rfl <;> decide
theorem yL (m:Nat) (h:Int) (k:Nat):way m h k≤m:=by
 have hi:SetTable.bits h % (m+1)≤m:=Nat.le_of_lt_succ (Nat.mod_lt _ (Nat.succ_pos _))
 have r:=runEnd_bd hi
 have q:=nth_in (m:=m) k (runAt m (SetTable.bits h % (m+1)) (SetTable.bits h)) (show SetTable.bits h % (m+1)+(SetTable.runEnd m (SetTable.bits h % (m+1)) - SetTable.bits h % (m+1))≤m by omega)
 show (nth m (runAt m (SetTable.bits h % (m+1)) (SetTable.bits h)) k).j≤m
 omega
theorem meets {m:Nat} (hm:Msk m) (h:Int) {j:Nat} (hj:j≤m):∃n,n≤m+12∧runI m (SetTable.bits h) n=j:=by
 obtain ⟨k,hk,e⟩:=hm.from_ (runI_le m (SetTable.bits h) 12) hj
 exact ⟨12+k,by omega,(runI_tail (bits_lt h) k).trans e⟩
theorem meets_way {m:Nat} (hm:Msk m) (h:Int) {j:Nat} (hj:j≤m):∃k,k < 10*SetTable.turns m∧way m h k=j:=by
 obtain ⟨n,hn,e⟩:=meets hm h hj
 obtain ⟨k,hk,e2⟩:=run_nth m (SetTable.bits h) n
 exact ⟨k,by unfold SetTable.turns;omega,(congrArg SetTable.Probe.j e2).trans e⟩
structure Tb (t:SetTable) (hs:List Int):Prop where
 ris:Ris t.place.toList
 dm:t.dummies= #[]
 sz:t.place.size=hs.length
 mok:Mk t.mask
 bd:∀x∈t.place.toList,x≤t.mask
 reach:∀(i:Nat) (h:Int) (j:Nat),hs[i]? =some h→t.place.toList[i]? =some j→∃k,way t.mask h k=j∧∀k',k' < k→way t.mask h k'∈t.place.toList
section
variable {t:SetTable} {hs:List Int} {h:Int} {K:Nat}
theorem Tb.first (T:Tb t hs) (hl:hs.length≤t.mask) (h:Int):∃K,K < 10*SetTable.turns t.mask∧way t.mask h K∉t.place.toList∧∀k,k < K→way t.mask h k∈t.place.toList:=by
 obtain ⟨j,hj,hn⟩:=st_missing t.place.toList (t.mask+1) (by rw [Array.length_toList,T.sz];omega)
 obtain ⟨k,hk,e⟩:=meets_way T.mok.msk h (show j≤t.mask by omega)
 obtain ⟨K,h1,h2,h3⟩:=st_least (p:=fun k=>way t.mask h k∉t.place.toList) k (by rw [e];exact hn)
 exact ⟨K,by omega,h2,fun k' hk'=>Classical.byContradiction fun c=>h3 k' hk' c⟩
theorem Tb.before (T:Tb t hs) {i j:Nat} (hK:way t.mask h K∉t.place.toList) (hi:hs[i]? =some h) (hj:t.place.toList[i]? =some j):∃k,k < K∧way t.mask h k=j:=by
 obtain ⟨k,e,hb⟩:=T.reach i h j hi hj
 refine ⟨k,Classical.byContradiction fun c=> ?_,e⟩
 by_cases c2:k=K
 ·rw [←c2,e] at hK
  exact hK (List.mem_of_getElem? hj)
 ·exact hK (hb K (by omega))
theorem Tb.put (T:Tb t hs) (hK:way t.mask h K∉t.place.toList) (hb:∀k,k < K→way t.mask h k∈t.place.toList):
  (t.put (way t.mask h K)).2=SetTable.below t.place (way t.mask h K)∧SetTable.below t.place (way t.mask h K)≤hs.length∧
  Tb (t.put (way t.mask h K)).1 (hs.take (SetTable.below t.place (way t.mask h K))++h::hs.drop (SetTable.below t.place (way t.mask h K)))∧
  (t.put (way t.mask h K)).1.mask=t.mask∧(t.put (way t.mask h K)).1.led=t.led∧(t.put (way t.mask h K)).1.plain=t.plain∧(t.put (way t.mask h K)).1.moves=t.moves∧(t.put (way t.mask h K)).1.finger=t.finger∧
  (t.put (way t.mask h K)).1.fill=hs.length+1:=by
 have hle:=yL t.mask h K
 have self:∃k,way t.mask h k=way t.mask h K∧∀k',k' < k→way t.mask h k'∈t.place.toList:=⟨K,rfl,hb⟩
 generalize way t.mask h K=j at hK hle self ⊢
 have c1:=(below_cut T.ris j).1
 have np:t.place[SetTable.below t.place j]?≠some j:=fun e=>hK (List.mem_of_getElem? (by rw [Array.getElem?_toList];exact e))
 have ip:SetTable.below t.place j≤t.place.toList.length:=by rw [Array.length_toList];exact c1
 have ih:SetTable.below t.place j≤hs.length:=by rw [←T.sz];exact c1
 have places:=put_place t j
 have grown:(t.put j).1.place.size=hs.length+1:=by
  rw [←Array.length_toList,places,len_ins _ ip,Array.length_toList,T.sz]
 have still:∀x∈t.place.toList,x∈(t.put j).1.place.toList:=fun x hx=>by rw [places];exact mem_ins.2 (.inr hx)
 have more:∀{h':Int} {j':Nat},(∃k,way t.mask h' k=j'∧∀k',k' < k→way t.mask h' k'∈t.place.toList)→∃k,way t.mask h' k=j'∧∀k',k' < k→way t.mask h' k'∈(t.put j).1.place.toList:=fun ⟨k,e,z⟩=>⟨k,e,fun k' hk'=>still _ (z k' hk')⟩
 refine ⟨rfl,ih,⟨ris_insert T.ris np,put_dm T.dm j,by rw [len_ins _ ih];exact grown,T.mok,fun x hx=> ?_,fun i h' j' g1 g2=> ?_⟩,rfl,rfl,rfl,rfl,rfl,?_⟩
 ·rw [places] at hx
  rcases mem_ins.1 hx with rfl | z
  ·exact hle
  ·exact T.bd x z
 ·rw [tins_get hs ih] at g1
  rw [places,tins_get _ ip] at g2
  refine more ?_
  rcases Nat.lt_trichotomy i (SetTable.below t.place j) with c | c | c
  ·rw [if_pos c] at g1 g2
   exact T.reach i h' j' g1 g2
  ·rw [if_neg (by omega),if_pos c] at g1 g2
   rw [←Option.some.inj g1,←Option.some.inj g2]
   exact self
  ·rw [if_neg (by omega),if_neg (by omega)] at g1 g2
   exact T.reach (i - 1) h' j' g1 g2
 ·show (t.put j).1.place.size+(t.put j).1.dummies.size=hs.length+1
  rw [grown,put_dm T.dm j]
  rfl
end
theorem find_way {m:Nat} (hm:Msk m) (ow:Array (Option Nat)) (h:Int) {j:Nat} (hj:j≤m) (hf:oAt ow j=none):
  ∃K,SetTable.layClean.free m ow (SetTable.turns m) (SetTable.bits h % (m+1)) (SetTable.bits h)=some (way m h K)∧oAt ow (way m h K)=none∧∀k,k < K→oAt ow (way m h k)≠none:=by
 obtain ⟨n,hn,e⟩:=meets hm h hj
 have hw:way m h (off m (SetTable.bits h % (m+1)) (SetTable.bits h) n)=j:=by
  show (nth m (runAt m (SetTable.bits h % (m+1)) (SetTable.bits h)) (off m (SetTable.bits h % (m+1)) (SetTable.bits h) n)).j=j
  rw [nth_off,itL_run]
  exact e
 obtain ⟨K,k1,k2,k3⟩:=st_least (p:=fun k=>oAt ow (way m h k)=none) (off m (SetTable.bits h % (m+1)) (SetTable.bits h) n) (by rw [hw];exact hf)
 refine ⟨K,free_spec m ow (SetTable.turns m) n _ _ K (by unfold SetTable.turns;omega) k1 (fun k hk=> ?_) (Option.isNone_iff_eq_none.mpr k2),k2,k3⟩
 cases z:oAt ow (nth m (runAt m (SetTable.bits h % (m+1)) (SetTable.bits h)) k).j with
 | none=>exact absurd z (k3 k hk)
 | some _=>rfl
theorem own_more {m:Nat} (hm:Msk m) {done:List Int} {ow:Array (Option Nat)} (W:Own m done ow) (hl:done.length≤m) (h:Int):
  ∃j,SetTable.layClean.free m ow (SetTable.turns m) (SetTable.bits h % (m+1)) (SetTable.bits h)=some j∧Own m (done++ [h]) (ow.setIfInBounds j (some done.length)):=by
 obtain ⟨ps,hps,hin⟩:=W.ps
 obtain ⟨j0,h0,hn0⟩:=st_missing ps (m+1) (by omega)
 obtain ⟨K,e1,e2,e3⟩:=find_way hm ow h (show j0≤m by omega) (Classical.byContradiction fun z=>hn0 (hin j0 (by omega) z))
 have hle:=yL m h K
 have self:=oAt_set_self (owner:=ow) (some done.length) (show way m h K < ow.size by rw [W.sz];omega)
 have keep:∀i,oAt ow i≠none→oAt (ow.setIfInBounds (way m h K) (some done.length)) i≠none:=fun i hi=>by
  by_cases c:i=way m h K
  ·rw [c,self];exact fun z=>nomatch z
  ·rw [oAt_set_ne _ c];exact hi
 have old:∀{j k:Nat},oAt ow j=some k→oAt (ow.setIfInBounds (way m h K) (some done.length)) j=some k:=fun {j k} e=>by
  rw [oAt_set_ne _ fun z=>by rw [z,e2] at e;cases e]
  exact e
 refine ⟨_,e1,⟨by rw [Array.size_setIfInBounds];exact W.sz,fun j k hj e=> ?_,fun k hk=> ?_,way m h K::ps,by simp [hps],fun j hj e=> ?_⟩⟩
 ·by_cases c:j=way m h K
  ·rw [c,self] at e
   rw [←Option.some.inj e]
   exact ⟨h,K,by simp,c.symm,fun i hi=>keep _ (e3 i hi)⟩
  ·rw [oAt_set_ne _ c] at e
   obtain ⟨h',K',a1,a2,a3⟩:=W.at_ j k hj e
   exact ⟨h',K',by rw [List.getElem?_append_left (List.getElem?_eq_some_iff.mp a1).1];exact a1,a2,fun i hi=>keep _ (a3 i hi)⟩
 ·rw [List.length_append,List.length_singleton] at hk
  rcases Nat.lt_or_ge k done.length with c | c
  ·obtain ⟨j,hj,e⟩:=W.all k c
   exact ⟨j,hj,old e⟩
  ·rw [show k=done.length by omega]
   exact ⟨_,hle,self⟩
 ·by_cases c:j=way m h K
  ·rw [c];exact List.mem_cons_self
  ·rw [oAt_set_ne _ c] at e
   exact List.mem_cons_of_mem _ (hin j hj e)
theorem own_all {m:Nat} (hm:Msk m):∀(rest done:List Int) (ow:Array (Option Nat)),Own m done ow→done.length+rest.length≤m→∃ow',rest.foldl (stepF m) (some (ow,done.length))=some (ow',(done++rest).length)∧Own m (done++rest) ow'
 | [],done,ow,W,_=>⟨ow,by rw [List.append_nil];rfl,by rw [List.append_nil];exact W⟩
 | h::rest,done,ow,W,hl=>by
  rw [List.length_cons] at hl
  obtain ⟨j,e,W'⟩:=own_more hm W (by omega) h
  obtain ⟨ow',f,W2⟩:=own_all hm rest (done++ [h]) _ W' (by rw [List.length_append,List.length_singleton];omega)
  rw [List.append_assoc] at f W2
  exact ⟨ow',by rw [List.foldl_cons,stepF_some e];rw [List.length_append] at f;exact f,W2⟩
theorem relaid_tb (t:SetTable) {hs:Array Int} {wanted M:Nat} (hw:SetTable.sizeAbove wanted - 1=M) (hM:Mk M) (hn:hs.size≤M):
  ∃t' order,t.relaid hs wanted=some (t',order)∧order.toList.Perm (List.range hs.size)∧Tb t' (order.toList.map fun i=>hs.getD i 0)∧t'.mask=M∧t'.led=t.led∧t'.plain=t.plain∧t'.dummies= #[]:=by
 obtain ⟨ow,f,W⟩:=own_all hM.msk hs.toList [] _ (Own.init M) (by rw [Array.length_toList];show 0+hs.size≤M;omega)
 rw [List.nil_append] at W
 have e:SetTable.layClean M hs=some ow:=by rw [layClean_eq,show hs.toList.foldl (stepF M) (some (Array.replicate (M+1) none,0))=_ from f];rfl
 have hr:t.relaid hs wanted=some (tabOf t M ow,((liveOf M ow).map (·.2)).toArray):=by rw [relaid_eq,hw,e];rfl
 have ris:=ris_live (fun j=>ow.getD j none) (List.range (M+1)) (by unfold Ris;first | exact List.pairwise_lt_range | exact List.pairwise_lt_range _)
 have r1:Ris ((liveOf M ow).map (·.1)):=ris.1
 have nd:((liveOf M ow).map (·.1)).Nodup:=List.Pairwise.imp (fun h=>Nat.ne_of_lt h) r1
 have live:∀{q:Nat×Nat},q∈liveOf M ow→q.1≤M∧oAt ow q.1=some q.2:=fun {q} hq=>(mem_live W.sz).1 (show (q.1,q.2)∈liveOf M ow from hq)
 have seat:∀k,k < hs.size→k∈(liveOf M ow).map (·.2):=fun k hk=>by
  obtain ⟨j,b1,b2⟩:=W.all k (by rw [Array.length_toList];exact hk)
  exact List.mem_map.mpr ⟨(j,k),(mem_live W.sz).2 ⟨b1,b2⟩,rfl⟩
 have hlen:(liveOf M ow).length=hs.size:=by
  obtain ⟨ps,p1,p2⟩:=W.ps
  have a:=nat_nodup_len ((liveOf M ow).map (·.1)) ps nd fun x hx=>by
   obtain ⟨q,hq,rfl⟩:=List.mem_map.mp hx
   exact p2 q.1 (live hq).1 (by rw [(live hq).2];exact fun z=>nomatch z)
  have b:=nat_nodup_len (List.range hs.size) ((liveOf M ow).map (·.2)) List.nodup_range fun k hk=>seat k (List.mem_range.mp hk)
  have hz:hs.toList.length=hs.size:=Array.length_toList
  rw [List.length_map,p1] at a
  rw [List.length_map,List.length_range] at b
  omega
 refine ⟨_,_,hr,perm_range hs.size _ (by show ((liveOf M ow).map (·.2)).length=_;rw [List.length_map];exact hlen) seat,⟨r1,rfl,?_,hM,fun x hx=> ?_,fun i h j g1 g2=> ?_⟩,rfl,rfl,rfl,rfl⟩
 ·show ((liveOf M ow).map (·.1)).toArray.size=(((liveOf M ow).map (·.2)).map fun i=>hs.getD i 0).length
  rw [List.size_toArray,List.length_map,List.length_map,List.length_map]
 ·obtain ⟨q,hq,rfl⟩:=List.mem_map.mp (show x∈(liveOf M ow).map (·.1) from hx)
  exact (live hq).1
 ·have g1:(((liveOf M ow).map (·.2)).map fun i=>hs.getD i 0)[i]? =some h:=g1
  have g2:((liveOf M ow).map (·.1))[i]? =some j:=g2
  rw [List.getElem?_map,List.getElem?_map] at g1
  rw [List.getElem?_map] at g2
  obtain ⟨q,hq,rfl⟩:=Option.map_eq_some_iff.mp g2
  rw [hq] at g1
  have g1:hs.getD q.2 0=h:=Option.some.inj g1
  obtain ⟨b1,b2⟩:=live (List.mem_of_getElem? hq)
  obtain ⟨h0,K,a1,a2,a3⟩:=W.at_ q.1 q.2 b1 b2
  have e0:h0=h:=by
   rw [←g1,Array.getD_eq_getD_getElem?,←Array.getElem?_toList,a1]
   rfl
  rw [←e0]
  refine ⟨K,a2,fun k' hk'=> ?_⟩
  show way M h0 k'∈(liveOf M ow).map (·.1)
  obtain ⟨k2,z⟩:=Option.ne_none_iff_exists'.mp (a3 k' hk')
  exact List.mem_map.mpr ⟨(way M h0 k',k2),(mem_live W.sz).2 ⟨yL M h0 k',z⟩,rfl⟩
end DV
namespace DV
open PySem PySem.Spec PyProof.Rows L2
theorem size_308:SetTable.sizeAbove (SetTable.grown 77)=512:=by decide+kernel
def enN (w:World) (L:List (Addr×NestedKey)):List (Int×Value):=L.map fun p=>(nh w p.2,Value.ref p.1)
structure SN (P:Program) (w:World) (h:Heap) (a:Addr) (L:List (Addr×NestedKey)) (es:Array (Int×Value)) (ep:Nat) (t:SetTable):Prop where
 ob:∃o,h.get? a=some o∧o.ExactSet∧o.data= .set es ep t
 en:es.toList=enN w L
 tb:Tb t (L.map fun p=>nh w p.2)
 nd:(L.map (·.2)).Nodup
 ks:∀p∈L,Nk P w h p.2 p.1
 ld:w.params.followText "set-order"=true∨t.led=true
 rm:L.length*5 < t.mask*3
 few:L.length < 300
section
variable {P:Program} {w:World} {A:Around} {E:Value→Shared→Prop} {s:Shared} {a:Addr} {L:List (Addr×NestedKey)} {es:Array (Int×Value)} {ep:Nat} {t:SetTable}
theorem nZ (h:es.toList=enN w L):es.size=L.length:=by
 rw [←Array.length_toList,h];exact List.length_map ..
theorem zY (h:es.toList=enN w L) {i:Nat} {p:Addr×NestedKey} (e:L[i]? =some p):es[i]? =some (nh w p.2,Value.ref p.1):=by
 rw [←Array.getElem?_toList,h];show (L.map _)[i]? =_;rw [List.getElem?_map,e];rfl
theorem fit_of {n:Nat} (h1:t.place.size=n) (h2:t.dummies= #[]) (h3:n≤t.mask):t.fits n=true:=by
 unfold SetTable.fits SetTable.fill;rw [h2,Bool.and_eq_true,beq_iff_eq,decide_eq_true_eq]
 exact ⟨h1,by show t.place.size+0≤t.mask;omega⟩
theorem SN.sz (R:SN P w s.heap a L es ep t):t.place.size=es.size:=by
 have:=R.tb.sz;rw [List.length_map] at this;rw [this,nZ R.en]
theorem SN.fit (R:SN P w s.heap a L es ep t):t.fits es.size=true:=fit_of R.sz R.tb.dm (by have h1:=R.rm;rw [nZ R.en];omega)
theorem SN.ngw (R:SN P w s.heap a L es ep t):¬t.gaveWay=true:=by
 unfold SetTable.gaveWay;rw [R.tb.mok.odd];decide
abbrev pr (t:SetTable) (g:Int) (c:Nat):SetTable.Probe:=nth t.mask (runAt t.mask (SetTable.bits g % (t.mask+1)) (SetTable.bits g)) c
theorem pr_dummy (t:SetTable) (g:Int) (c:Nat):(pr t g c).dummy=none:=by
 have go:∀(n:Nat) (p:SetTable.Probe),p.dummy=none→(nth t.mask p n).dummy=none:=fun n=>by
  induction n with
  | zero=>exact fun p h=>h
  | succ n ih=>exact fun p h=>ih (adv t.mask p) (by unfold adv;split <;> exact h)
 exact go c _ rfl
theorem pr_add (t:SetTable) (g:Int) (c q:Nat):nth t.mask (pr t g c) q=pr t g (c+q):=(nth_add t.mask c _ q).symm
theorem seek (R:SN P w s.heap a L es ep t) {x:Addr} {k:NestedKey} (kx:Nk P w s.heap k x) {g:Int} (eg:nh w k=g) (hu:(nestedKind P w).room A) {K:Nat} (hKf:K < 10*SetTable.turns t.mask)
  (hK:way t.mask g K∉t.place.toList) (hKb:∀c,c < K→way t.mask g c∈t.place.toList) {Q:SetFound→Shared→Prop}
  (qin:k∈L.map (·.2)→Q (.there none) s) (qout:k∉L.map (·.2)→Q (.free (way t.mask g K) false) s):
  ∀(f c:Nat) (st:Option SetTable.Probe),st.getD (t.probeStart g)=pr t g c→c≤K→K - c < f→
   (∀(i:Nat) p,L[i]? =some p→p.2=k→∃c',c≤c'∧c' < K∧t.place.toList[i]? =some (way t.mask g c'))→
   wpAny (model P w) A (setSearchFrom a (.ref x) g true f st) Q E s:=by
 intro f;induction f with
 | zero=>exact fun c st _ _ z=>absurd z (Nat.not_lt_zero _)
 | succ f ih=>
  intro c st est hc hf hre
  obtain ⟨o,ho,hex,hd⟩:=R.ob
  have hj:∀q,(nth t.mask (pr t g c) q).j=way t.mask g (c+q):=fun q=>congrArg SetTable.Probe.j (pr_add t g c q)
  have hat:∀(i:Nat) p,L[i]? =some p→(fun i=>(es[i]?.map (·.1)).getD 0) i=nh w p.2:=fun i p hp=>by show (es[i]?.map (·.1)).getD 0=_;rw [zY R.en hp];rfl
  have spec:=go_spec t R.tb.ris R.tb.dm (fun i=>(es[i]?.map (·.1)).getD 0) g (10*SetTable.turns t.mask) (K - c) _ (pr_dummy t g c) (by omega) (fun q hq=>by rw [hj];exact hKb (c+q) (by omega)) (by rw [hj,Nat.add_sub_cancel' hc];exact hK)
  rw [setSearchFrom_succ];refine wpAny_bind (wpAny_setState_of ho hd R.fit ?_);dsimp only;refine wp_if_neg R.ngw ?_
  try refine wpAny_bind (wpAny_pure ?_)
  rcases spec with ⟨q,i,hq,hi,hh,hno,hpr⟩ | ⟨hno,hpr⟩
  ·have hpr2:t.probe (fun i=>(es[i]?.map (·.1)).getD 0) g (st.getD (t.probeStart g))=some (.candidate (way t.mask g (c+q)) i (pr t g (c+(q+1)))):=by rw [est,←hj,←pr_add];exact hpr
   rw [hpr2];dsimp only;rw [hj] at hi
   have hil:i < L.length:=by
    have h1:=(List.getElem?_eq_some_iff.mp hi).1;rw [Array.length_toList,R.sz,nZ R.en] at h1;exact h1
   obtain ⟨p,hp⟩:∃p,L[i]? =some p:=⟨_,List.getElem?_eq_getElem hil⟩
   have pm:p∈L:=List.mem_of_getElem? hp
   have rest:wpAny (model P w) A (searchRest a (.ref x) g true f es t (way t.mask g (c+q)) i (pr t g (c+(q+1)))) Q E s:=by
    unfold searchRest;rw [zY R.en hp];dsimp only
    refine wpAny_bind (wpAny_holding ((nestedKind P w).eqBool hu (R.ks p pm) kx ?_));refine wpAny_bind (wpAny_setState_of ho hd R.fit ?_);dsimp only
    by_cases hkk:p.2=k
    ·exact wp_if_pos (by simp [hkk]) (wpAny_pure (qin (List.mem_map.mpr ⟨p,pm,hkk⟩)))
    ·refine wp_if_neg (by simp [hkk]) ?_
     try refine wpAny_bind (wpAny_pure ?_)
     rw [sameMem];dsimp only
     have hsl:t.slot (way t.mask g (c+q))= .live i:=slot_live R.tb.ris hi
     simp only [if_true,hsl,zY R.en hp];refine wpAny_bind (wpAny_isSame_ref_self (wpAny_bind (wpAny_pure ?_)));simp only [if_true]
     refine wp_if_neg (by simp [hkk]) (ih (c+(q+1)) _ rfl (by omega) (by omega) fun i0 p0 h0 hk0=> ?_)
     obtain ⟨c',a1,a2,a3⟩:=hre i0 p0 h0 hk0
     refine ⟨c',?_,a2,a3⟩
     rcases Nat.lt_trichotomy c' (c+q) with z | z | z
     ·exact absurd ((hat i0 p0 h0).trans ((congrArg (nh w) hk0).trans eg)) (hno (c' - c) i0 (by omega) (by rw [hj,Nat.add_sub_cancel' a1];exact a3))
     ·rw [z] at a3;have s0:=slot_live R.tb.ris a3;rw [hsl] at s0;injection s0 with s0
      rw [←s0,hp] at h0;exact absurd ((congrArg Prod.snd (Option.some.inj h0)).trans hk0) hkk
     ·omega
   by_cases hl:t.led=true
   ·refine wp_if_neg (by simp [hl]) ?_
    try refine wpAny_bind (wpAny_pure ?_)
    exact rest
   ·refine wp_if_pos (by simp [hl]) (wpAny_bind (unseen kx (fun y hy=> ?_) ?_))
    ·obtain ⟨e,he,ee⟩:=List.mem_map.mp hy
     have he2 : e ∈ es.toList := by have h1 : e ∈ es ∧ e.1 = g := by simpa using he
                                    simpa using h1.1
     rw [R.en] at he2;obtain ⟨p2,hp2,e2⟩:=List.mem_map.mp he2
     exact ⟨p2.2,p2.1,by rw [←ee,←e2],R.ks p2 hp2⟩
    ·refine wp_if_neg (by decide) ?_
     try refine wpAny_bind (wpAny_pure ?_)
     exact rest
  ·have hpr2:t.probe (fun i=>(es[i]?.map (·.1)).getD 0) g (st.getD (t.probeStart g))=some (.empty (way t.mask g K) none):=by
    have e2:way t.mask g K=(nth t.mask (pr t g c) (K - c)).j:=by rw [hj,Nat.add_sub_cancel' hc]
    rw [est,e2];exact hpr
   rw [hpr2];dsimp only
   refine wpAny_pure (qout fun hm=> ?_)
   obtain ⟨p0,h0,hk0⟩:=List.mem_map.mp hm
   obtain ⟨i0,h00⟩:=List.getElem?_of_mem h0
   obtain ⟨c',a1,a2,a3⟩:=hre i0 p0 h00 hk0
   exact hno (c' - c) i0 (by omega) (by rw [hj,Nat.add_sub_cancel' a1];exact a3) ((hat i0 p0 h00).trans ((congrArg (nh w) hk0).trans eg))
theorem seek0 (R:SN P w s.heap a L es ep t) {x:Addr} {k:NestedKey} (kx:Nk P w s.heap k x) {g:Int} (eg:nh w k=g) (hu:(nestedKind P w).room A) {Q:SetFound→Shared→Prop} (qin:k∈L.map (·.2)→Q (.there none) s)
  (qout:∀K,k∉L.map (·.2)→way t.mask g K∉t.place.toList→(∀c,c < K→way t.mask g c∈t.place.toList)→Q (.free (way t.mask g K) false) s):wpAny (model P w) A (setSearch a (.ref x) g true) Q E s:=by
 have h0:=R.rm
 obtain ⟨K,hKf,hK,hKb⟩:=R.tb.first (by rw [List.length_map];omega) g
 have big:K < 100000:=Nat.lt_of_lt_of_le hKf (by unfold SetTable.turns;rcases R.tb.mok with e | e | e | e <;> omega)
 refine seek R kx eg hu hKf hK hKb qin (fun z=>qout K z hK hKb) 100000 0 none rfl (Nat.zero_le _) (by omega) fun i p hp hk=> ?_
 have hi:(L.map fun p=>nh w p.2)[i]? =some g:=by rw [List.getElem?_map,hp,←eg,←hk];rfl
 obtain ⟨j,hj⟩:∃j,t.place.toList[i]? =some j:=⟨_,List.getElem?_eq_getElem (by rw [Array.length_toList,R.sz,nZ R.en];exact (List.getElem?_eq_some_iff.mp hp).1)⟩
 obtain ⟨c,hc,e⟩:=R.tb.before hK hi hj
 exact ⟨c,Nat.zero_le _,hc,by rw [hj,e]⟩
theorem Nk.beside {h h':Heap} {k:NestedKey} {b:Addr} {o:Obj} (kb:Nk P w h k b) (ho:h.get? a=some o) (hd:o.data= .set es ep t) (hs:Heap.SameBut a h h'):Nk P w h' k b:=
 nestedKind_stays.stays (fun c ob vs n hc e=>(hs.2 c fun z=>by subst z;rw [ho] at hc;cases hc;rw [hd] at e;cases e).trans hc) kb
theorem put_perm' {α:Type} (L:List α) (p:Nat) (x:α):(L.take p++x::L.drop p).Perm (x::L):=by
 have h:=(List.perm_middle (a:=x) (l₁:=L.take p) (l₂:=L.drop p));rwa [List.take_append_drop] at h
theorem enN_put (p:Nat) (x:Addr) (k:NestedKey):enN w (L.take p++(x,k)::L.drop p)=(enN w L).take p++(nh w k,Value.ref x)::(enN w L).drop p:=by
 unfold enN;rw [List.map_append,List.map_cons,List.map_take,List.map_drop]
theorem uC {α β:Type} {es:Array α} {L:List β} {f:β→α} (h:es.toList=L.map f):∀l:List Nat,l.filterMap (fun i=>es[i]?)=(l.filterMap fun i=>L[i]?).map f
 | []=>rfl
 | i::l=>by
  have e:es[i]? =(L[i]?).map f:=by rw [←Array.getElem?_toList,h,List.getElem?_map]
  cases q:L[i]? with
  | none=>rw [List.filterMap_cons_none (by rw [e,q];rfl),List.filterMap_cons_none q];exact uC h l
  | some v=>rw [List.filterMap_cons_some (by rw [e,q];rfl),List.filterMap_cons_some q,List.map_cons,uC h l]
theorem filt_len {α:Type} {L:List α}:∀l:List Nat,(∀i∈l,i < L.length)→∀{γ:Type} (f:α→γ) (d:γ) (v:Nat→γ),(∀i x,L[i]? =some x→v i=f x)→(l.filterMap fun i=>L[i]?).map f=l.map v
 | [],_,_,_,_,_,_=>rfl
 | i::l,h,_,f,d,v,hv=>by
  have hi:=h i List.mem_cons_self
  rw [List.filterMap_cons_some (List.getElem?_eq_getElem hi),List.map_cons,List.map_cons,filt_len l (fun j hj=>h j (List.mem_cons_of_mem _ hj)) f d v hv,hv i _ (List.getElem?_eq_getElem hi)]
theorem reorder (order:Array Nat) (hr:es.toList=enN w L) (hp:order.toList.Perm (List.range L.length)):
  ∃L2,(order.filterMap (es[·]?)).toList=enN w L2∧L2.Perm L∧(L2.map fun p=>nh w p.2)=order.toList.map fun i=>(es.map (·.1)).getD i 0:=by
 refine ⟨order.toList.filterMap fun i=>L[i]?,?_,?_,?_⟩
 ·rw [Array.toList_filterMap];exact uC hr _
 ·have h1:=hp.filterMap fun i=>L[i]?
  rwa [List.filterMap_getElem?_range_length] at h1
 ·refine filt_len (L:=L) order.toList (fun i hi=>List.mem_range.mp (hp.mem_iff.mp hi)) (fun p=>nh w p.2) 0 _ fun i x hx=> ?_
  have e5:(es.map (·.1))[i]? =some (nh w x.2):=by rw [Array.getElem?_map,zY hr hx];rfl
  simp [Array.getD_eq_getD_getElem?,e5]
theorem relay {o:Obj} (ho:s.heap.get? a=some o) (hex:o.ExactSet) (hd:o.data= .set es ep t) (hr:es.toList=enN w L) (hsz:t.place.size=es.size) (hdm:t.dummies= #[]) (hfl:es.size≤t.mask)
  (nd:(L.map (·.2)).Nodup) (ks:∀p∈L,Nk P w s.heap p.2 p.1) (ld:w.params.followText "set-order"=true∨t.led=true) (few:L.length < 300) {wanted M:Nat} (hw:SetTable.sizeAbove wanted - 1=M) (hM:Mk M) (hw2:SetTable.sizeAbove wanted≤512) (hn:L.length*5 < M*3)
  {Q:Unit→Shared→Prop} (q:∀h' L' es' ep' t',Heap.SameBut a s.heap h'→SN P w h' a L' es' ep' t'→L'.Perm L→Q () {s with heap:=h'}):wpAny (model P w) A (setRelay a wanted) Q E s:=by
 have hsl:=nZ hr
 obtain ⟨t',order,e,hp,T,em,el,_,edm⟩:=relaid_tb t (hs:=es.map (·.1)) (wanted:=wanted) hw hM (by rw [Array.size_map,hsl];omega)
 rw [Array.size_map,hsl] at hp
 obtain ⟨L2,r1,r2,r3⟩:=reorder order hr hp
 rw [←r3] at T
 have hs2:(order.filterMap (es[·]?)).size=es.size:=by rw [nZ r1,r2.length_eq,hsl]
 rw [setRelay_eq];refine wpAny_bind (wpAny_setState_of ho hd (fit_of hsz hdm hfl) ?_);dsimp only
 refine wp_if_neg (by rw [sizeLine_eq];omega) ?_
 try refine wpAny_bind (wpAny_pure ?_)
 rw [e];dsimp only;refine wpAny_bind (wp_if_neg (by rw [hs2];simp) ?_)
 try refine wpAny_bind (wpAny_pure ?_)
 refine wpAny_pure ?_;dsimp only
 refine wpAny_storeSet_of ho hd ?_ (by rw [hs2,hsl,sizeLine_eq];omega)
 have sb:Heap.SameBut a s.heap (s.heap.update a (Obj.putSet (order.filterMap (es[·]?)) t')):=Heap.SameBut.update ..
 exact q _ L2 _ (ep+1) t' sb ⟨⟨_,store_at ho hd,⟨hex.1,hex.2.1,hex.2.2⟩,rfl⟩,r1,T,(r2.map (·.2)).nodup_iff.mpr nd,fun p hpm=>(ks p (r2.mem_iff.mp hpm)).beside ho hd sb,by rw [el];exact ld,by rw [r2.length_eq,em];exact hn,by rw [r2.length_eq];exact few⟩ r2
theorem addKey (R:SN P w s.heap a L es ep t) {x:Addr} {k:NestedKey} (kx:Nk P w s.heap k x) (hu:(nestedKind P w).room A) (hfew:L.length+1 < 300) {Q:Bool→Shared→Prop}
  (q:∀b h' L' es' ep' t',Heap.SameBut a s.heap h'→SN P w h' a L' es' ep' t'→(k∈L.map (·.2)→L'=L)→(k∉L.map (·.2)→L'.Perm ((x,k)::L))→Q b {s with heap:=h'}):
  wpAny (model P w) A (setAddHashed a (.ref x) (nh w k)) Q E s:=by
 obtain ⟨o,ho,hex,hd⟩:=R.ob
 have hsl:=nZ R.en
 have hroom:=R.rm
 unfold setAddHashed;refine wpAny_holding ?_
 rw [show (100000:Nat)=99999+1 from rfl,setAddHashedIn_succ];refine wpAny_bind (wpAny_setState_of ho hd R.fit ?_);dsimp only;refine wp_if_neg (by simp [byScan,Value.scannable]) ?_
 try refine wpAny_bind (wpAny_pure ?_)
 refine wpAny_bind (seek0 R kx rfl hu (fun hm=> ?_) fun K hm hK hb=> ?_) <;> dsimp only
 ·exact wpAny_pure (q false s.heap L es ep t (Heap.SameBut.refl a s.heap) R (fun _=>rfl) fun z=>absurd hm z)
 refine wpAny_bind (wpAny_setState_of ho hd R.fit ?_);dsimp only
 obtain ⟨q1,q2,q3,q4,q5,_,_,_,q9⟩:=R.tb.put hK hb
 generalize hpt:t.put (way t.mask (nh w k) K)=pt at q1 q3 q4 q5 q9 ⊢
 obtain ⟨t1,p⟩:=pt;dsimp only at q1 q3 q4 q5 q9 ⊢;subst q1
 have hin:(SetTable.insertAt es (SetTable.below t.place (way t.mask (nh w k) K)) (nh w k,Value.ref x)).toList=enN w (L.take (SetTable.below t.place (way t.mask (nh w k) K))++(x,k)::L.drop (SetTable.below t.place (way t.mask (nh w k) K))):=by rw [SetTable.toList_insertAt,enN_put,R.en]
 generalize hpp:SetTable.below t.place (way t.mask (nh w k) K)=p at q2 q3 hin ⊢
 have pm:=put_perm' L p (x,k)
 have hlen:(L.take p++(x,k)::L.drop p).length=L.length+1:=pm.length_eq
 have hhs:(L.take p++(x,k)::L.drop p).map (fun p=>nh w p.2)=(L.map fun p=>nh w p.2).take p++nh w k::(L.map fun p=>nh w p.2).drop p:=by rw [List.map_append,List.map_cons,List.map_take,List.map_drop]
 rw [←hhs] at q3
 have nd1:((L.take p++(x,k)::L.drop p).map (·.2)).Nodup:=(pm.map (·.2)).nodup_iff.mpr (List.nodup_cons.mpr ⟨hm,R.nd⟩)
 have hes:=(nZ hin).trans hlen
 generalize SetTable.insertAt es p (nh w k,Value.ref x)=es1 at hin hes ⊢
 generalize L.take p++(x,k)::L.drop p=L1 at pm hlen q3 nd1 hin
 -- by value or not, the table differs in that mark alone
 have go:∀pl:Bool,wpAny (model P w) A (do
   storeSet a es1 (if pl=true then t1 else {t1 with plain:=false})
   if (!false && (if pl=true then t1 else {t1 with plain:=false}).tooFull)=true then setRelay a (SetTable.grown (es.size+1))
   return true) Q E s:=fun pl=>by
  obtain ⟨t2,ht2,f1,f2,f3,f4,f5⟩:∃t2:SetTable,(if pl=true then t1 else {t1 with plain:=false})=t2∧Tb t2 (L1.map fun p=>nh w p.2)∧t2.mask=t1.mask∧t2.led=t1.led∧t2.fill=t1.fill∧t2.tooFull=t1.tooFull:=by
   cases pl
   ·exact ⟨{t1 with plain:=false},rfl,⟨q3.ris,q3.dm,q3.sz,q3.mok,q3.bd,q3.reach⟩,rfl,rfl,rfl,rfl⟩
   ·exact ⟨t1,rfl,q3,rfl,rfl,rfl,rfl⟩
  rw [ht2];refine wpAny_bind (wpAny_storeSet_of ho hd ?_ (by rw [hes,sizeLine_eq];omega))
  have sb:Heap.SameBut a s.heap (s.heap.update a (Obj.putSet es1 t2)):=Heap.SameBut.update ..
  have ho1:=store_at (es':=es1) (t':=t2) ho hd
  generalize s.heap.update a (Obj.putSet es1 t2)=h1 at sb ho1 ⊢
  have ks1:∀p∈L1,Nk P w h1 p.2 p.1:=fun p hp=>by
   rcases List.mem_cons.mp (pm.mem_iff.mp hp) with e | hp
   ·rw [e];exact kx.beside ho hd sb
   ·exact (R.ks p hp).beside ho hd sb
  have ld1:w.params.followText "set-order"=true∨t2.led=true:=by rw [f3,q5];exact R.ld
  by_cases hf:t2.tooFull=true
  ·have hfull:(L.length+1)*5≥t1.mask*3:=by
    have h:=hf;rw [f5] at h;unfold SetTable.tooFull at h;rw [decide_eq_true_eq,q9,List.length_map] at h;exact h
   have c2:(t.mask=7∧L.length=4)∨(t.mask=31∧L.length=18)∨(t.mask=127∧L.length=76):=by
    rw [q4] at hfull
    rcases R.tb.mok with e | e | e | e <;> rw [e] at hfull hroom
    ·exact .inl ⟨e,by omega⟩
    ·exact .inr (.inl ⟨e,by omega⟩)
    ·exact .inr (.inr ⟨e,by omega⟩)
    ·omega
   have sz2:t2.place.size=es1.size:=by have h:=f1.sz;rw [List.length_map,hlen] at h;rw [h,hes]
   have on:∀M,SetTable.sizeAbove (SetTable.grown (L.length+1)) - 1=M→Mk M→SetTable.sizeAbove (SetTable.grown (L.length+1))≤512→(L.length+1)*5 < M*3→wpAny (model P w) A (setRelay a (SetTable.grown (L.length+1))) (fun _ s'=>wpAny (model P w) A (pure true) Q E s') E {s with heap:=h1}:=fun M b1 b2 b3 b4=>
    relay (s:={s with heap:=h1}) ho1 ⟨hex.1,hex.2.1,hex.2.2⟩ rfl hin sz2 f1.dm (by rw [hes,f2,q4];rcases c2 with ⟨e,e2⟩ | ⟨e,e2⟩ | ⟨e,e2⟩ <;> omega) nd1 ks1 ld1 (by rw [hlen];exact hfew) b1 b2 b3 (by rw [hlen];exact b4) fun h2 L2 es2 ep2 t3 sb2 R2 pm2=>wpAny_pure (q true h2 L2 es2 ep2 t3 (sb.trans sb2) R2 (fun z=>absurd z hm) fun _=>pm2.trans pm)
   rw [hsl]
   dsimp only;refine wp_if_pos (by simp [hf]) (wpAny_bind ?_)
   rcases c2 with ⟨_,e2⟩ | ⟨_,e2⟩ | ⟨_,e2⟩
   ·exact on 31 (by rw [e2,size_20]) (.inr (.inl rfl)) (by rw [e2,size_20];decide) (by omega)
   ·exact on 127 (by rw [e2,size_76]) (.inr (.inr (.inl rfl))) (by rw [e2,size_76];decide) (by omega)
   ·exact on 511 (by rw [e2,size_308]) (.inr (.inr (.inr rfl))) (by rw [e2,size_308];decide) (by omega)
  ·dsimp only;refine wp_if_neg (by simp [hf]) (wpAny_pure (q true h1 L1 es1 (ep+1) t2 sb ⟨⟨_,ho1,⟨hex.1,hex.2.1,hex.2.2⟩,rfl⟩,hin,f1,nd1,ks1,ld1,?_,by rw [hlen];exact hfew⟩ (fun z=>absurd z hm) fun _=>pm))
   have h:=hf;rw [f5] at h;unfold SetTable.tooFull at h;rw [decide_eq_true_eq,q9,List.length_map] at h;rw [hlen,f2];omega
 have tail:∀pl:Bool,wpAny (model P w) A (do
   let byValue:Bool:=pl
   storeSet a es1 (if byValue=true then t1 else {t1 with plain:=false})
   if (!false && (if byValue=true then t1 else {t1 with plain:=false}).tooFull)=true then setRelay a (SetTable.grown (es.size+1))
   return true) Q E s:=go
 by_cases hpl:t1.plain=true
 ·first
   | (refine wpAny_bind ?_;refine wp_if_pos hpl ?_;exact pF k _ 8 s kx.1 kx.2 _ _ _ fun b=>tail b)
   | exact wp_if_pos hpl (wpAny_bind (pF k _ 8 s kx.1 kx.2 _ _ _ fun b=>tail b))
 ·first
   | (refine wpAny_bind ?_;refine wp_if_neg hpl ?_;exact wpAny_pure (tail true))
   | exact wp_if_neg hpl (wpAny_bind (wpAny_pure (tail true)))
   | exact wp_if_neg hpl (tail true)
end
end DV
namespace DV
open PySem PySem.Spec PyProof.Rows L2
structure Had (ks:List (Addr×NestedKey)) (i:Nat) (L:List (Addr×NestedKey)):Prop where
 all:∀k,k∈L.map (·.2)↔k∈(ks.take i).map (·.2)
 sub:∀p∈L,p∈ks
 len:L.length≤i
section
variable {P:Program} {w:World} {A:Around} {E:Value→Shared→Prop} {s:Shared} {a:Addr}
theorem Nk.stay {h h':Heap} {k:NestedKey} {b:Addr} (x:Nk P w h k b) (kk:∀c o,h.get? c=some o→h'.get? c=some o):Nk P w h' k b:=nestedKind_stays.stays (fun c o _ _ e _=>kk c o e) x
theorem SN.stay {h h':Heap} {L:List (Addr×NestedKey)} {es:Array (Int×Value)} {ep:Nat} {t:SetTable} (R:SN P w h a L es ep t) (ha:∀o,h.get? a=some o→h'.get? a=some o) (hk:∀p∈L,Nk P w h' p.2 p.1):SN P w h' a L es ep t:=
 ⟨let ⟨o,ho,r⟩:=R.ob;⟨o,ha o ho,r⟩,R.en,R.tb,R.nd,hk,R.ld,R.rm,R.few⟩
theorem sn_fresh {h:Heap} (ho:h.get? a=some (DL.fO w)):SN P w h a [] #[] 0 (.fresh 0 0 (!w.params.followText "set-order")):=
 ⟨⟨_,ho,⟨rfl,rfl,rfl⟩,rfl⟩,rfl,⟨List.Pairwise.nil,rfl,rfl,.inl rfl,(fun x hx=>by cases hx),(fun i g j hi=>by simp at hi)⟩,List.nodup_nil,(fun p hp=>nomatch hp),by
  show _∨(!w.params.followText "set-order")=true;cases w.params.followText "set-order" <;> first | exact .inl rfl | exact .inr rfl,by show 0*5 < 7*3;decide,by show 0 < 300;decide⟩
end
end DV
namespace DV
open PySem PySem.Spec PyProof.Rows L2 DL
section
variable {C:DL.Ctx} {Γ:Gm} {L:Lp} {Q:D→Lp→Prop} {a:Expr} {p p2 pos q:Pos}
end
end DV
namespace DV
open PySem PySem.Spec PyProof.Rows L2 DL
theorem pickAll {R:Addr×NestedKey→D→Prop}:∀{L:List (Addr×NestedKey)},(∀p∈L,∃d,R p d)→∃es:List D,Paired R L es
 | [],_=>⟨[],.nil⟩
 | p::L,h=>by
  obtain ⟨d,hd⟩:=h p List.mem_cons_self
  obtain ⟨es,he⟩:=pickAll (L:=L) fun q hq=>h q (List.mem_cons_of_mem _ hq)
  exact ⟨d::es,.cons hd he⟩
theorem paired_mem {α β:Type} {R:α→β→Prop}:∀{xs:List α} {ys:List β},Paired R xs ys→∀y∈ys,∃x∈xs,R x y
 | _,_,.nil,y,hy=>nomatch hy
 | x::xs,y'::ys,.cons h t,y,hy=>by
  rcases List.mem_cons.mp hy with rfl | hy
  ·exact ⟨x,List.mem_cons_self,h⟩
  ·obtain ⟨z,hz,hr⟩:=paired_mem t y hy
   exact ⟨z,List.mem_cons_of_mem _ hz,hr⟩
theorem paired_keys {R:Addr×NestedKey→D→Prop} (hR:∀p d,R p d→nk d=p.2):∀{L:List (Addr×NestedKey)} {es:List D},Paired R L es→es.map nk=L.map (·.2)
 | _,_,.nil=>rfl
 | p::L,d::es,.cons h t=>by rw [List.map_cons,List.map_cons,hR p d h,paired_keys hR t]
theorem paired_perm {α β:Type} {R:α→β→Prop} {xs xs':List α} (pm:xs'.Perm xs):∀{ys:List β},Paired R xs ys→∃ys',ys'.Perm ys∧Paired R xs' ys':=by
 induction pm with
 | nil=>exact fun h=>by cases h;exact ⟨[],.refl _,.nil⟩
 | cons x p ih=>
  intro ys h
  cases h with
  | cons h t=>
   obtain ⟨ys',p',t'⟩:=ih t
   exact ⟨_::ys',p'.cons _,.cons h t'⟩
 | swap x y l=>
  intro ys h
  cases h with
  | cons h1 t=>
   cases t with
   | cons h2 t=>exact ⟨_::_::_,List.Perm.swap _ _ _,.cons h2 (.cons h1 t)⟩
 | trans p1 p2 ih1 ih2=>
  intro ys h
  obtain ⟨ys1,q1,t1⟩:=ih2 h
  obtain ⟨ys2,q2,t2⟩:=ih1 t1
  exact ⟨ys2,q2.trans q1,t2⟩
theorem pairedM {α β:Type} {R S:α→β→Prop}:∀{xs:List α} {ys:List β},(∀x y,y∈ys→R x y→S x y)→Paired R xs ys→Paired S xs ys
 | _,_,_,.nil=> .nil
 | _::_,_::_,h,.cons r t=> .cons (h _ _ List.mem_cons_self r) (pairedM (fun x y hy=>h x y (List.mem_cons_of_mem _ hy)) t)
theorem perm_map_inv {α β:Type} {f:α→β} {l:List α} {vs:List β} (h:vs.Perm (l.map f)):∃l':List α,vs=l'.map f∧l'.Perm l:=by
 generalize hm:l.map f=ms at h
 induction h generalizing l with
 | nil=>exact ⟨[],rfl,by cases l with | nil=>exact .refl _ | cons _ _=>cases hm⟩
 | cons x p ih=>
  cases l with
  | nil=>cases hm
  | cons y l=>
   obtain ⟨e1,e2⟩:=List.cons.inj hm
   obtain ⟨l',h1,h2⟩:=ih e2
   exact ⟨y::l',by rw [List.map_cons,e1,h1],h2.cons y⟩
 | swap x y l0=>
  cases l with
  | nil=>cases hm
  | cons a l=>
   obtain ⟨e1,e2⟩:=List.cons.inj hm
   cases l with
   | nil=>cases e2
   | cons b l=>
    obtain ⟨e3,e4⟩:=List.cons.inj e2
    exact ⟨b::a::l,by rw [List.map_cons,List.map_cons,e1,e3,e4],List.Perm.swap _ _ _⟩
 | trans p1 p2 ih1 ih2=>
  obtain ⟨l1,h1,h2⟩:=ih2 hm
  obtain ⟨l2,h3,h4⟩:=ih1 h1.symm
  exact ⟨l2,h3,h4.trans h2⟩
theorem paired_map {α β γ:Type} {f:α→γ} {R:γ→β→Prop}:∀{xs:List α} {ys:List β},Paired (fun x y=>R (f x) y) xs ys→Paired R (xs.map f) ys
 | _,_,.nil=> .nil
 | _::_,_::_,.cons h t=> .cons h (paired_map t)
section
variable {C:DL.Ctx} {Γ:Gm} {L:Lp} {Q:D→Lp→Prop} {a:Expr} {p p2 pos q:Pos}
end
end DV
namespace DV
open PySem PySem.Spec PyProof.Rows L2
section
variable {P:Program} {w:World} {A:Around} {E:Value→Shared→Prop} {s:Shared} {a:Addr}
end
end DV
namespace DV
open PySem PySem.Spec PyProof.Rows L2 DL
section
variable {C:DL.Ctx} {Γ:Gm} {L:Lp} {Q:D→Lp→Prop} {a:Expr} {p p2 pos q:Pos}
end
end DV
namespace DV
open PySem PySem.Spec PySem.W PyProof.Rows L2
section
variable {prog:Program} {w:World} {A:Around} {E:Value→Shared→Prop} {s:Shared}
theorem callTupLt {Q:Value→Shared→Prop} {l b:Addr} {p q:Array Value} {e r:Nat→Bool} (hl:s.heap.IsTuple l p) (hb:s.heap.IsTuple b q)
  (he:∀j (x:j < p.size) (y:j < q.size),SeqAt.EqAt A.in1 s p[j] q[j] (e j)) (hr:∀j (x:j < p.size) (y:j < q.size),e j=false→SeqAt.RcLt A.in1 s p[j] q[j] (r j))
  (h:Q (.bool (SeqAt.firstLt e r (decide (p.size < q.size)) (List.range (min p.size q.size)))) s):wpAny (model prog w) A (call (.builtin "tuple.__lt__") [.ref l,.ref b]) Q E s:=by
 obtain ⟨⟨c1,d1,t1,z1⟩,o1,k1,n1,g1⟩:=id hl
 obtain ⟨⟨c2,d2,t2,z2⟩,o2,k2,n2,g2⟩:=id hb
 simp only at k1 g1 k2 g2
 subst k1 g1 k2 g2
 exact call_meets F.slot_tuple_lt ⟨_,o1,rfl⟩ F.entry_tuple_lt (F.args_tuple_lt_2 _ _) (SeqAt.tuple_ltAt l b p q n1 n2 d1 d2 z1 z2 e r) ⟨o1,o2,he,hr,h⟩
theorem ltTup {f:Bool} {xs ys:List PyData} {a b:Value} {as bs:List Addr} {Q:Bool→Shared→Prop} (ra:Reads s.heap a (.tuple xs) as) (rb:Reads s.heap b (.tuple ys) bs) (h:alike (.tuple xs) (.tuple ys)=true) (hu:A.units+min (PyData.tuple xs).depth (PyData.tuple ys).depth < cLine)
  (hq:Q (dataLt (.tuple xs) (.tuple ys)) s):wpAny (model prog w) A (oneLt' f a b) Q E s:=by
 cases f with
 | false=>exact oneLt_alike (f:=false) (fun z=>nomatch z) ra rb h (fun z=>nomatch z) hu hq
 | true=>
  have hal:alikeAll xs ys=true:=by simpa [alike] using h
  cases ra with
  | @tuple l o vs n _ _ h1 h2 h3 h4=>
   cases rb with
   | @tuple l' o' vs' n' _ _ k1 k2 k3 k4=>
    have n1:vs.size=xs.length:=by simpa using SeqAt.ReadsAll.length _ _ _ h4
    have n2:vs'.size=ys.length:=by simpa using SeqAt.ReadsAll.length _ _ _ k4
    rw [dataLt_tuple,←firstLt_toks xs ys hal,←n1,←n2] at hq
    rw [oneLt'_eq]
    simp only [if_true]
    refine wpAny_bind (wpAny_cRoomFor (SeqAt.room_here hu) (wpAny_bind (wpAny_callSpecialIfBound?_slot (T:="tuple") ⟨_,h1,h2⟩ F.slot_tuple_lt (callTupLt (e:=SeqAt.pairEq xs ys) (r:=fun j=>dataLt (xs.getD j .none) (ys.getD j .none)) ⟨_,h1,h2,_,h3⟩ ⟨_,k1,k2,_,k3⟩ (fun j j1 j2=> ?_) (fun j j1 j2 hj=> ?_) (wpAny_truthy_bool hq)))))
    ·have z:=eqAt_alikeAll xs ys A.in1 s vs.toList vs'.toList _ _ h4 k4 hal (SeqAt.room_in hu) j (by simpa using j1) (by simpa using j2)
     simpa using z
    ·have z:=rcLt_alikeAll xs ys A.in1 s vs.toList vs'.toList _ _ h4 k4 hal (SeqAt.room_in hu) j (by simpa using j1) (by simpa using j2) hj
     simpa using z
end
section
variable {s:Shared}
theorem firstsE:∀{vs:List Value} {ds:List PyData},EachIs (fun v d=> ∃as,Reads s.heap v d as) vs ds→(∀d∈ds,∃xs,d=PyData.tuple xs)→∃fs:List (Option Value),fs.length=vs.length∧(PyData.tuple []∈ds→(fs.all fun x=>x.isSome)=false)∧
  ∀{M:Model} {A:Around} {E:Value→Shared→Prop} {Q:List (Option Value)→Shared→Prop},Q fs s→wpAny M A (vs.mapM firstOfTuple') Q E s
 | _,_,.nil,_=>⟨[],rfl,(fun h=>nomatch h),fun {_ _ _ _} h=>by rw [List.mapM_nil];exact wpAny_pure h⟩
 | v::vs,d::ds,.cons ⟨as,r⟩ t,ht=>by
  obtain ⟨fs,h1,h2,h3⟩:=firstsE t fun d hd=>ht d (List.mem_cons_of_mem _ hd)
  obtain ⟨xs,rfl⟩:=ht d List.mem_cons_self
  cases r with
  | @tuple a o us n _ _ ho hc hd hr=>
   refine ⟨us[0]? ::fs,by rw [List.length_cons,List.length_cons,h1],fun hm=> ?_,fun {M A E Q} h=> ?_⟩
   ·rw [List.all_cons]
    rcases List.mem_cons.mp hm with e | hm
    ·injection e with e
     subst e
     have:us.toList= []:=by
      have:=SeqAt.ReadsAll.length _ _ _ hr
      exact List.length_eq_zero_iff.mp (by simpa using this)
     have:us[0]? =none:=by rw [←Array.getElem?_toList,this];rfl
     rw [this]
     rfl
    ·rw [h2 hm,Bool.and_false]
   ·rw [List.mapM_cons]
    refine wpAny_bind ?_
    rw [kas_first_eq]
    refine wpAny_bind (Looks.here (show Looks M s.heap (typeOf (.ref a)) o.cls from (Looks.ld ho).andThen .now) ?_)
    rw [hc,if_neg (by first | decide | simp)]
    exact wpAny_bind (listItems_at ho hd (wpAny_pure (wpAny_bind (h3 (Q:=fun bs s'=>wpAny M A (pure (us[0]? ::bs)) Q E s') (wpAny_pure h)))))
end
section
variable {prog:Program} {w:World} {A:Around} {E:Value→Shared→Prop} {s:Shared}
theorem sortsTup {vs:List Value} {ds:List PyData} (e:EachIs (fun v d=> ∃as,Reads s.heap v d as) vs ds) (hal:AllAlike ds) (ht:∀d∈ds,∃xs,d=PyData.tuple xs) (hu:∀d,d∈ds→A.units+d.depth < cLine):SortsAt prog w A s (dataKind s.heap ds) vs:=by
 by_cases hem:PyData.tuple []∈ds
 ·refine ⟨fun v hv=> ?_,?_⟩
  ·obtain ⟨d,hd,as,r⟩:=e.left v hv
   exact ⟨_,dataKind_some hal hd r⟩
  have lt:∀(f:Bool) (E:Value→Shared→Prop) (x y:Value) (a b:(dataKind s.heap ds).α) {Q:Bool→Shared→Prop},(dataKind s.heap ds).keyOf x=some a→(dataKind s.heap ds).keyOf y=some b→Q ((dataKind s.heap ds).blt a b) s→wpAny (model prog w) A (oneLt' f x y) Q E s:=by
   intro f E x y a b Q ha hb hq
   obtain ⟨d,as,hd,ra,rfl⟩:=dataKind_inv ha
   obtain ⟨d',as',hd',rb,rfl⟩:=dataKind_inv hb
   have hdd:=hal d hd d' hd'
   have room:A.units+min d.depth d'.depth < cLine:=Nat.lt_of_le_of_lt (Nat.add_le_add_left (Nat.min_le_left _ _) _) (hu d hd)
   obtain ⟨x1,rfl⟩:=ht d hd
   obtain ⟨x2,rfl⟩:=ht d' hd'
   exact ltTup ra rb hdd room hq
  obtain ⟨fs,f1,f2,f3⟩:=firstsE e ht
  have hall:=f2 hem
  have h1:(fs.toArray.all fun x=>x.isSome)=false:=by rw [List.all_toArray];exact hall
  by_cases hf:(fs.toArray[0]?.bind id).isSome=true
  ·refine ⟨general',fun E x y a b Q ha hb hq=>lt false E x y a b ha hb hq,fun h2 E Q hq=> ?_⟩
   rw [kat_kind_eq,List.mapM_toArray,map_eq_pure_bind]
   refine wpAny_bind (wpAny_bind (f3 (wpAny_pure ?_)))
   rw [if_neg (by rw [h1];decide),if_pos hf]
   exact wpAny_pure hq
  ·refine ⟨oneType',fun E x y a b Q ha hb hq=>lt true E x y a b ha hb hq,fun h2 E Q hq=> ?_⟩
   rw [kat_kind_eq,List.mapM_toArray,map_eq_pure_bind]
   refine wpAny_bind (wpAny_bind (f3 (wpAny_pure ?_)))
   rw [if_neg (by rw [h1];decide),if_neg hf]
   have hT:∀v∈vs,Looks (model prog w) s.heap (typeOf v) (Value.type "tuple"):=fun v hv=>by
    obtain ⟨d,hd,as,r⟩:=e.left v hv
    obtain ⟨xs,rfl⟩:=ht d hd
    exact looks_reads r
   rw [oneTypeOnly'_eq,List.mapM_toArray,map_eq_pure_bind]
   refine wpAny_bind (wpAny_bind (wpAny_bind (kas_mapM (r:=Value.type "tuple") _ (fun v hv Q' hq=>(hT v hv).here hq) (wpAny_pure ?_))))
   have ha2:((List.map (fun _=>Value.type "tuple") vs).toArray.all fun x=>x==Value.type "tuple")=true:=by
    rw [List.all_toArray,List.all_map]
    exact List.all_eq_true.mpr fun _ _=>beq_self_eq_true (Value.type "tuple")
   have h0:(List.map (fun _=>Value.type "tuple") vs).toArray[0]? =some (Value.type "tuple"):=by
    cases vs with
    | nil=>simp at h2
    | cons v vs=>simp
   rw [h0]
   simp only [ha2,if_true]
   exact wpAny_pure (wpAny_pure hq)
 ·exact SortsAt.data e hal (.inl fun d hd=>by
   obtain ⟨xs,rfl⟩:=ht d hd
   cases xs with
   | nil=>exact absurd hd hem
   | cons x r=>exact ⟨x,r,rfl⟩) hu
theorem sortCall {β:Type} {bs:List β} {enc:β→PyData} {R:Value→β→Prop} {vs:List Value} {a:Addr} {n:Nat} {Q:Value→Shared→Prop} (ho:s.heap.get? a=some (seqObj "list" vs.toArray n)) (e:EachIs R vs bs) (er:EachIs (fun v b=> ∃as,Reads s.heap v (enc b) as∧a∉as) vs bs)
  (hal:AllAlike (bs.map enc)) (ht:∀d∈bs.map enc,∃xs,d=PyData.tuple xs) (hL:bs.length≤sizeLine) (hu:∀b,b∈bs→A.units+1+(enc b).depth < cLine)
  (h:∀out,out.length=bs.length→EachIs R out (bs.mergeSort (dataLe false enc))→Q .none {s with heap:=sortedHeap s.heap a vs (List.toArray out)}):wpAny (model prog w) A (call (.builtin "list.sort") [.ref a]) Q E s:=by
 have e2:EachIs (fun v b=> ∃as,Reads (sortingHeap s.heap a vs) v (enc b) as) vs bs:=each_keepBut (h':=sortingHeap s.heap a vs) (fun _ _ hb q=>sortingHeap_old hb q) (fun o q=>by rw [ho] at q;rw [←Option.some.inj q]) hal er
 have S:=sortsTup (prog:=prog) (w:=w) (A:=A.in1) (s:={s with heap:=sortingHeap s.heap a vs}) (each_map (R:=fun v d=> ∃as,Reads (sortingHeap s.heap a vs) v d as) enc e2) hal ht fun d hd=>by
  obtain ⟨b,hb,rfl⟩:=List.mem_map.mp hd
  have:=hu b hb
  simp only [Around.in1_units]
  omega
 exact wpAny_call_entry slot_list_sort ⟨_,ho,rfl⟩ entry_list_sort (list_sort_vals (κ:=dataKind (sortingHeap s.heap a vs) (bs.map enc)) ho S (by rw [e.length];exact hL) ⟨.none,rfl,h _ (by rw [sortVals_length false rfl];exact e.length) (sortVals_data false e e2 hal)⟩) (args_list_sort _)
end
end DV
namespace DL
open PySem PySem.Spec PyProof.Rows L2
section
variable {X:Cx}
def tSG (ini:Addr→HO) (add:Addr→V→Hp→(Hp→Prop)→Prop) (wi:TI) (g:TG) (wi1:TI) (g1:TG) (te:TE) (vs vs1:List Nat):TE:=fun σ H Q=>wi σ H fun J H1=> ∀t,H1 t=none→∃W:Nat→Nat→Hp→Prop,(∃m,W 0 m (upd H1 t (ini t)))∧∀i m H,W i m H→
 (J.stop i H∧Q (.ref t) H)∨(J.go i H∧∃Nx:Hp→Prop,(∀H',Nx H'→∃m',m' < m∧W (i+1) m' H')∧∀x H',J.yld i H x H'→g x (wipe σ vs) H' fun σ2 H2=>wipe σ2 vs=wipe σ vs∧
  wi1 σ2 H2 fun J1 H4=> ∃W1:Nat→Nat→Hp→Prop,(∃m,W1 0 m H4)∧∀j k H,W1 j k H→
   (J1.stop j H∧Nx H)∨(J1.go j H∧∃Nx1:Hp→Prop,(∀H',Nx1 H'→∃k',k' < k∧W1 (j+1) k' H')∧∀x H',J1.yld j H x H'→g1 x (wipe σ2 vs1) H' fun σ3 H5=>wipe σ3 vs1=wipe σ2 vs1∧
    te σ3 H5 fun y H7=>add t y H7 Nx1))
structure SetK (X:Cx) (ini:Addr→HO) (add:Addr→V→Hp→(Hp→Prop)→Prop):Prop where
 new:∀{H:Hp} {h:Heap} {t:Addr},h.get? t=some (fO X.w)→ObjOk X.prog X.w H h t (ini t)
 put:∀{Y:Cx} {pins:List (Addr×Obj)} {σ:L2.St} {H:Hp} {s:Shared} {t:Addr} {y:V} {u:Value} {Nx:Hp→Prop},Y.prog=X.prog→Y.w=X.w→Y.K=X.K→Y.A=X.A→Inv Y pins σ H s→RelV y u→add t y H Nx→
  wpAny (model X.prog X.w) X.A (call (.builtin "set.add") [.ref t,u]) (fun _ s'=> ∃H',Inv Y pins σ H' s'∧Nx H') (fun _ _=>False) s
theorem sg_core {pins:List (Addr×Obj)} {s:Shared} {σ:L2.St} {H:Hp} {Q:VK} {elt tg iter tg1 iter1:Expr} {scope:Scope} {own:List (Str×Nat)} {vs1:List Nat} {pos p2:Pos} {wi wi1:TI} {g g1:TG} {te:TE} {ini:Addr→HO} {add:Addr→V→Hp→(Hp→Prop)→Prop} {use:Option (Value→Sem Unit)} {Qf:Value→Shared→Prop}
  (sk:SetK X ini add) (hc:X.calm=true) (hN:X.N.Nodup) (I:Inv X pins σ H s) (hi:PI X tg iter wi) (ok:BlkOk X.N X.env.scope scope own) (hv:∀i∈vs1,i∈own.map (·.2))
  (hg:BE X scope fun X=>PG X tg g) (he:BE X scope fun X=>PE X elt te) (hi1:BE X scope fun X=>PI X tg1 iter1 wi1) (hg1:BE X scope fun X=>PG X tg1 g1) (hs:∀x,foldedSetIterable iter X.env x=pure x) (hs1:∀env x,foldedSetIterable iter1 env x=pure x)
  (h:tSG ini add wi g wi1 g1 te (own.map (·.2)) vs1 σ H Q)
  (fine:∀t a s' m H',Inv X pins σ H' s'→Q (.ref t) H'→s'.heap.Ns a m→FpOk X pins H' a→compPost (model X.prog X.w) X.A X.xe use Qf (.ref t) a (.ok .next) s'):
  wpAny (model X.prog X.w) X.A (comprehension (sX elt tg iter tg1 iter1 scope pos) scope X.env p2 (newSet (.type "set")) false (eval iter X.env) use) Qf X.xe s:=by
 have free:∀y∈scope.names,y.2= .free→∃c,X.env.cells.lookup y.1=some c:=fun y hy e=>(ok.free y hy e).elim (fun k=>I.ok.has _ (.inl k)) fun k=>I.ok.has _ (.inr k)
 refine wpAny_comprehension_free (use:=use) rfl hs (closure_ok free) ok.kind (fun y hy e=>by rw [ok.uniq y hy,e]) (thn (hi.run pins s σ H _ I h) fun _ _ hx=>thn hx fun _ b2 h2=> ?_)
 obtain ⟨it,fp,tn,J,H2,e,I2,T,st2,f2,q⟩:=h2
 subst e
 refine PpSet.newSet_ok (newEnv_comp ?_)
 generalize ht:b2.heap.objs.size=t
 have htn:H2 t=none:=I2.hok.fresh (Nat.le_of_eq ht)
 obtain ⟨W,⟨m0,w0⟩,turn⟩:=q t htn
 generalize hb3:({b2 with heap:=b2.heap.push (fO X.w)}:Shared)=b3
 have e3:b3.heap=b2.heap.push (fO X.w):=by rw [←hb3]
 have up:∀b o,b2.heap.get? b=some o→b3.heap.get? b=some o:=fun b o z=>by rw [e3];exact Heap.get?_push_of_some _ z
 have I3:Inv X pins σ (upd H2 t (ini t)) b3:=by
  subst hb3
  refine I2.laid (t':=b2.toks) up (Nat.le_of_eq ht) (sk.new ?_)
  rw [←ht]
  exact Heap.get?_push_size _ rfl
 have lt:∀b∈fp,b < b2.heap.objs.size:=fun b hb=>let ⟨o,z,_⟩:=T.obj _ _ st2 b hb;Heap.lt_size z
 have f3:∀b∈fp,FpOk X pins (upd H2 t (ini t)) b∧b < b3.heap.objs.size:=fun b hb=>
  ⟨⟨(upd_ne (by rw [←ht];exact Nat.ne_of_lt (lt b hb))).trans (f2 b hb).1,(f2 b hb).2⟩,by rw [e3,Heap.size_push];exact Nat.lt_succ_of_lt (lt b hb)⟩
 have st3:tn 0 b3.heap:=T.keep _ _ _ st2 fun b _ o z=>up b o z
 have I4:=block_start I3 ok hN f3
 generalize hcl:cellsFrom (b3.heap.objs.size+1) scope.names (cloFrom X.env.cells scope.names [])=cl at I4 ⊢
 have pg:=hg b3 (upd H2 t (ini t)) b3.heap.objs.size cl fp
 have pe:=he b3 (upd H2 t (ini t)) b3.heap.objs.size cl fp
 have pi1:=hi1 b3 (upd H2 t (ini t)) b3.heap.objs.size cl fp
 have pg1:=hg1 b3 (upd H2 t (ini t)) b3.heap.objs.size cl fp
 show codeAny _ _ (.compStart (sX elt tg iter tg1 iter1 scope pos) 0 (.ref it) (.ref t) (compEnvC scope cl b3.heap.objs.size X.env)) (compPost (model X.prog X.w) X.A X.xe use Qf (.ref t) b3.heap.objs.size) {b3 with heap:=pushCells (b3.heap.push {cls:= .type "dict",data:= .dict #[]}) scope.names}
 have nfp:∀b∈fp,(upd H2 t (ini t)) b=none:=fun b hb=>(f3 b hb).1.1
 generalize hce:compEnvC scope cl b3.heap.objs.size X.env=ce at I4 pg pe pi1 pg1 ⊢
 have cL:ce.locals=b3.heap.objs.size:=by subst hce;rfl
 generalize hH3:upd H2 t (ini t)=H3 at I3 I4 pg pe pi1 pg1 w0 nfp f3
 generalize hb4:({b3 with heap:=pushCells (b3.heap.push {cls:= .type "dict",data:= .dict #[]}) scope.names}:Shared)=b4 at I4 ⊢
 have st4:tn 0 b4.heap:=T.keep _ _ _ st3 fun b _ o z=>by subst hb4;exact pushCells_keeps _ _ _ _ (Heap.get?_push_of_some _ z)
 generalize hY:X.blk b3 H3 scope ce fp=Y at I4 pg pe pi1 pg1
 have yp:Y.prog=X.prog:=by subst hY;rfl
 have yw:Y.w=X.w:=by subst hY;rfl
 have yA:Y.A=X.A:=by subst hY;rfl
 have ye:Y.env=ce:=by subst hY;rfl
 have stat:∀{σ':L2.St} {H':Hp} {s':Shared},Inv Y [] σ' H' s'→(∀b∈fp,H' b=none)→∀b∈fp,FpOk Y [] H' b:=fun {σ' H' s'} I' hn b hb=>by
  subst hY
  exact ⟨hn b hb,(I'.ok.exf b hb).1,I'.ok.exfs b hb,.inl hb,fun x c z=>(I'.ok.exf b hb).2 x c z,fun p hp=>absurd (show p∈([]:List (Addr×Obj))++ [] from hp) (by simp)⟩
 subst hY
 have loop:codeAny (model X.prog X.w) X.A (.compLoop (sX elt tg iter tg1 iter1 scope pos) 0 (.ref it) (.ref t) ce) (compPost (model X.prog X.w) X.A X.xe use Qf (.ref t) b3.heap.objs.size) b4:=by
  refine sx_loop0 (hs1 ce) (fun n s'=> ∃i H',Inv (X.blk b3 H3 scope ce fp) [] (wipe σ (own.map (·.2))) H' s'∧tn i s'.heap∧(∀b∈fp,H' b=none)∧W i n H') ?_ m0 ⟨0,H3,I4,st4,nfp,w0⟩
  rintro n b5 ⟨i,H5,I5,st5,n5,w5⟩
  rcases turn i n H5 w5 with ⟨stop,qq⟩ | ⟨go,Nx,hNx,step⟩
  ·refine thnF (T.done (X.blk b3 H3 scope ce fp) rfl rfl rfl hc i [] b5 _ H5 (fun _ _=>False) I5 (stat I5 n5) st5 stop) fun r b6 ⟨hr,I6⟩=> ?_
   subst hr
   have I7:Inv X pins σ H5 b6:=I3.call' (ch:=fp) I6.os I6.base I6.hok I6.bare fun b hb=>let z:=(f3 b hb).1.2;⟨z.2.2.1,z.1,z.2.2.2.1,z.2.2.2.2⟩
   have n0:H5 b3.heap.objs.size=none:=by
    have z:H5 ce.locals=none:=I6.free
    rwa [cL] at z
   obtain ⟨m,hn,_⟩:=I6.loc
   have hn:b6.heap.Ns ce.locals m:=hn
   rw [cL] at hn
   exact fine t b3.heap.objs.size b6 m H5 I7 qq hn (I3.fpOk (Nat.le_refl _) n0)
  ·refine thnF (T.item (X.blk b3 H3 scope ce fp) rfl rfl rfl hc i [] b5 _ H5 (fun _ _=>False) I5 (stat I5 n5) st5 go) fun r b6 ⟨u,hr,h6⟩=> ?_
   subst hr
   refine thnF h6 fun _ b7 ⟨x,H7,I7,r7,y7,st7,n7⟩=> ?_
   refine thnF (pg.run _ b7 _ H7 x u _ (I7.pinned (stat I7 n7) (T.obj _ _ st7)) r7 (step x H7 y7)) fun _ b8 ⟨σ8,H8,I8,hw8,q8⟩=> ?_
   have fin:∀{σ9:L2.St} {s':Shared} {H':Hp},Inv (X.blk b3 H3 scope ce fp) ([]++pinsAt fp b7.heap) σ9 H' s'→(wipe σ (own.map (·.2))).length=σ9.length→(∀(j:Nat) v,(wipe σ (own.map (·.2)))[j]? =some (some v)→σ9[j]? =some (some v))→Nx H'→
     ∃m,m < n∧∃i H',Inv (X.blk b3 H3 scope ce fp) [] (wipe σ (own.map (·.2))) H' s'∧tn i s'.heap∧(∀b∈fp,H' b=none)∧W i m H':=fun {σ9 s' H'} I' hl hk nx=>by
    obtain ⟨m',hm,w'⟩:=hNx H' nx
    have pin:∀b∈fp,∀o,b7.heap.get? b=some o→s'.heap.get? b=some o∧H' b=none:=fun b hb o z=>
     have z:=I'.pin (b,o) (List.mem_append_right _ (List.mem_append_right _ (mem_pinsAt hb z)))
     ⟨z.1,z.2.1⟩
    exact ⟨m',hm,i+1,H',(I'.unpinned (pins:= [])).weak hl hk,T.keep _ _ _ st7 fun b hb o z=>(pin b hb o z).1,fun b hb=>let ⟨o,z,_⟩:=T.obj _ _ st7 b hb;(pin b hb o z).2,w'⟩
   have hl8:(wipe σ (own.map (·.2))).length=σ8.length:=by rw [←hw8,wipe_length]
   have hk9:∀(j:Nat) v,(wipe σ (own.map (·.2)))[j]? =some (some v)→(wipe σ8 vs1)[j]? =some (some v):=fun j v z=>by
    rw [←hw8] at z
    obtain ⟨z1,z2⟩:=wipe_some z
    rw [wipe_out fun k=>z2 (hv j k)]
    exact z1
   refine thnF (pi1.run _ b8 σ8 H8 _ I8 q8) fun _ _ hx=>thnF hx fun _ c1 h11=> ?_
   obtain ⟨it1,fp1,tn1,J1,H11,e1,I11,T1,st11,f11,W1,⟨m1,w1⟩,turn1⟩:=h11
   subst e1
   have stat1:∀{H':Hp},(∀b∈fp1,H' b=none)→∀b∈fp1,FpOk (X.blk b3 H3 scope ce fp) ([]++pinsAt fp b7.heap) H' b:=fun hn b hb=>⟨hn b hb,(f11 b hb).2⟩
   have loop1:codeAny (model X.prog X.w) X.A (.compLoop (sX elt tg iter tg1 iter1 scope pos) 1 (.ref it1) (.ref t) ce)
     (fun r s'=>match r with
      | .ok _=> ∃m,m < n∧∃i H',Inv (X.blk b3 H3 scope ce fp) [] (wipe σ (own.map (·.2))) H' s'∧tn i s'.heap∧(∀b∈fp,H' b=none)∧W i m H'
      | .error _=>False) c1:=by
    refine sx_loop1 (fun k s'=> ∃j H',Inv (X.blk b3 H3 scope ce fp) ([]++pinsAt fp b7.heap) (wipe σ8 vs1) H' s'∧tn1 j s'.heap∧(∀b∈fp1,H' b=none)∧W1 j k H') ?_ m1 ⟨0,H11,I11.weak (wipe_length _ _) (fun j v z=>(wipe_some z).1),st11,fun b hb=>(f11 b hb).1,w1⟩
    rintro k c2 ⟨j,H12,I12,st12,n12,w12⟩
    rcases turn1 j k H12 w12 with ⟨stop1,nx1⟩ | ⟨go1,Nx1,hNx1,step1⟩
    ·refine thnF (T1.done (X.blk b3 H3 scope ce fp) rfl rfl rfl hc j _ c2 (wipe σ8 vs1) H12 (fun _ _=>False) I12 (stat1 n12) st12 stop1) fun r c3 ⟨hr,I13⟩=> ?_
     subst hr
     exact fin I13 (hl8.trans (wipe_length σ8 vs1).symm) hk9 nx1
    ·refine thnF (T1.item (X.blk b3 H3 scope ce fp) rfl rfl rfl hc j _ c2 (wipe σ8 vs1) H12 (fun _ _=>False) I12 (stat1 n12) st12 go1) fun r c3 ⟨u1,hr,h13⟩=> ?_
     subst hr
     refine thnF h13 fun _ c4 ⟨x1,H14,I14,r14,y14,st14,n14⟩=> ?_
     refine thnF (pg1.run _ c4 (wipe σ8 vs1) H14 x1 u1 _ (I14.pinned (stat1 n14) (T1.obj _ _ st14)) r14 (step1 x1 H14 y14)) fun _ c5 ⟨σ15,H15,I15,hw15,q15⟩=> ?_
     refine thnF (pe.run _ c5 σ15 H15 _ I15 q15) fun z c7 ⟨yv,H17,I17,r17,had⟩=> ?_
     refine thnF (sk.put (Y:=X.blk b3 H3 scope ce fp) rfl rfl rfl rfl I17 r17 had) fun _ c8 ⟨H18,I',nx⟩=> ?_
     obtain ⟨m',hm,w'⟩:=hNx1 _ nx
     have pin:∀b∈fp1,∀o,c4.heap.get? b=some o→c8.heap.get? b=some o∧H18 b=none:=fun b hb o z=>
      have z:=I'.pin (b,o) (List.mem_append_right _ (List.mem_append_right _ (mem_pinsAt hb z)))
      ⟨z.1,z.2.1⟩
     exact ⟨m',hm,j+1,_,I'.unpinned.weak (by rw [←hw15,wipe_length]) (fun j v z=>by rw [←hw15] at z;exact (wipe_some z).1),T1.keep _ _ _ st14 fun b hb o z=>(pin b hb o z).1,fun b hb=>let ⟨o,z,_⟩:=T1.obj _ _ st14 b hb;(pin b hb o z).2,w'⟩
   exact sx_start1 loop1 (T1.self X.A 0 _ _ _ st11 loop1)
 exact PpSet.codeAny_compStart_set loop (T.self X.A 0 _ _ _ st4 loop)
theorem pe_sg {ini:Addr→HO} {add:Addr→V→Hp→(Hp→Prop)→Prop} {elt tg iter tg1 iter1:Expr} {scope:Scope} {own:List (Str×Nat)} {vs1:List Nat} {pos:Pos} {wi wi1:TI} {g g1:TG} {te:TE} (sk:SetK X ini add) (hc:X.calm=true) (hN:X.N.Nodup) (hi:PI X tg iter wi) (ok:BlkOk X.N X.env.scope scope own) (hv:∀i∈vs1,i∈own.map (·.2))
  (hg:BE X scope fun X=>PG X tg g) (he:BE X scope fun X=>PE X elt te) (hi1:BE X scope fun X=>PI X tg1 iter1 wi1) (hg1:BE X scope fun X=>PG X tg1 g1) (hs:∀x,foldedSetIterable iter X.env x=pure x:=by intro _;rfl) (hs1:∀env x,foldedSetIterable iter1 env x=pure x:=by intro _ _;rfl):
  PE X (.SetComp elt [⟨tg,iter,[],0⟩,⟨tg1,iter1,[],0⟩] scope pos) (tSG ini add wi g wi1 g1 te (own.map (·.2)) vs1):=by
 refine ⟨fun pins s σ H Q I h=> ?_⟩
 rw [PpSet.eval_SetComp]
 refine sg_core sk hc hN I hi ok hv hg he hi1 hg1 hs hs1 h fun t a s' m H' I' q hn ⟨f0,f1,f2,f3,f4,f5⟩=>⟨m,hn,fun h2 sb=>⟨.ref t,H',?_,rfl,q⟩⟩
 exact I'.turned (t':=s'.toks) (fun b o hb e=>(sb.2 b hb).trans e) f0 f1 f3 f4 f5
end
end DL
namespace DL
open PySem PySem.Spec PyProof.Rows L2
section
variable {P:Program} {w:World} {A:Around} {E:Value→Shared→Prop} {s:Shared} {a x:Addr} {k:List Int} {M:List (Addr×List Int)} {es:Array (Int×Value)} {ep:Nat} {tb:SetTable}
end
section
variable {X:Cx}
end
end DL
namespace DL
open PySem PySem.Spec PyProof.Rows L2
def AJ (C:Ctx) (tg iter:Expr) (Γ:Gm) (L:Lp) (R:List D→Lp→Prop):Prop:= ∀F σ H,Ok C Γ L F σ H→∀RV:It→Hp→Prop,(∀{F'} J H' L' ds,C.Con L' F' H'→Fr L F H L' F' H'→(∀L0 F0 H0,aAW C J ds (fun _=>True) L0 F0 H0)→R ds L'→RV J H')→WI C.X tg iter σ H RV
section
variable {C:Ctx} {Γ:Gm} {L:Lp} {elt tg iter tg1 iter1 e:Expr} {pos p pos1:Pos} {Q:D→Lp→Prop}
theorem aj_range1 {p:Pos} {R:List D→Lp→Prop} (hm:C.X.mg "range"=none) (h:AE C e Γ L fun d L1=> ∃j:Int,d= .int j∧ -(2 ^ 62)≤j∧j < 2 ^ 62∧R (pU 0 j.toNat) L1) (hg:Gl C.X "range" :=by rfl) (hs:starEach [e] C.X.env= [(false,eval e C.X.env)]:=by rfl):
  AJ C tg (.Call (.Name "range" p) [e] [] pos) Γ L R:=fun F σ H ok RV go=>
 oN (pi_range1 hg hm (pa_cons bA pa_nil hs) hs) (h _ σ H ok _ fun v d H1 L1 r c f ⟨j,ed,h1,h2,q⟩=>by
  subst ed
  exact ⟨j,by rw [r.intE],h1,h2,go _ H1 L1 _ c f (fun _ _ _=>itr_is rfl) q⟩)
abbrev wjB (C:Ctx) (scope:Scope) (tg iter:Expr):TI:=fun σ H R=> ∀s H0 Cc cl fp,WI (dH C scope s H0 Cc cl fp).X tg iter σ H R
structure Few (M:List (Addr×List Int)) (H:Hp) (i:Nat):Prop where
 len:M.length=i
 all:∀q∈M,q.2= []∧H q.1=some (.tup [])
theorem Few.mono {M:List (Addr×List Int)} {H H':Hp} {i:Nat} (f:Few M H i) (s:Stay H H'):Few M H' i:=⟨f.len,fun q hq=>⟨(f.all q hq).1,s.tup _ _ (f.all q hq).2⟩⟩
end
end DL
namespace DV
open PySem PySem.Spec PyProof.Rows L2
section
variable {P:Program} {w:World} {h:Heap} {a:Addr} {L:List (Addr×NestedKey)}
structure SN0 (P:Program) (w:World) (h:Heap) (a:Addr) (L:List (Addr×NestedKey)):Prop where
 ex:∃es ep t,(∃o,h.get? a=some o∧o.ExactSet∧o.data= .set es ep t)∧es.toList=enN w L∧Tb t (L.map fun p=>nh w p.2)∧(L.map (·.2)).Nodup∧(w.params.followText "set-order"=true∨t.led=true)∧L.length*5 < t.mask*3∧L.length < 300
def SNO (P:Program) (w:World) (a:Addr) (L:List (Addr×NestedKey)):HO:= .ext fun h=>SN0 P w h a L
theorem SN.t0 {es:Array (Int×Value)} {ep:Nat} {t:SetTable} (R:SN P w h a L es ep t):SN0 P w h a L:=⟨es,ep,t,R.ob,R.en,R.tb,R.nd,R.ld,R.rm,R.few⟩
theorem SN0.full (R:SN0 P w h a L) (hk:∀p∈L,Nk P w h p.2 p.1):∃es ep t,SN P w h a L es ep t:=by
 obtain ⟨es,ep,t,h1,h2,h3,h4,h5,h6,h7⟩:=R.ex
 exact ⟨es,ep,t,h1,h2,h3,h4,hk,h5,h6,h7⟩
theorem sno_new {H:Hp} (R:SN0 P w h a L):ObjOk P w H h a (SNO P w a L):=by
 have ⟨es,ep,t,⟨o,ho,r⟩,q⟩:=R.ex
 refine ⟨R,⟨o,ho⟩,fun h1 h2 p k=> ?_⟩
 have ⟨es',ep',t',⟨o',ho',r'⟩,q'⟩:=SN0.ex p
 exact ⟨es',ep',t',⟨o',k o' ho',r'⟩,q'⟩
end
section
variable {P:Program} {w:World} {A:Around} {E:Value→Shared→Prop} {s:Shared} {a x:Addr} {k:NestedKey} {M:List (Addr×NestedKey)} {es:Array (Int×Value)} {ep:Nat} {t:SetTable}
theorem setN_add {Q:Value→Shared→Prop} (R:SN P w s.heap a M es ep t) (kx:Nk P w s.heap k x) (hu:A.units+16 < cLine) (few:M.length+1 < 300)
  (hQ:∀h' tk M' es' ep' t',Heap.SameBut a s.heap h'→SN P w h' a M' es' ep' t'→(k∈M.map (·.2)→M'=M)→(k∉M.map (·.2)→M'.Perm ((x,k)::M))→Q .none {s with heap:=h',toks:=tk}):
  wpAny (model P w) A (call (.builtin "set.add") [.ref a,.ref x]) Q E s:=by
 obtain ⟨o,ho,hex,hd⟩:=R.ob
 refine wpAny_call_entry F.slot_set_add ⟨o,ho,hex.1⟩ F.entry_set_add ?_ (F.args_set_add_2 _ _)
 unfold Builtin.«set.add» Builtin.Frozenset.oneOther
 simp only [List.isEmpty_nil,bind_assoc]
 unfold Builtin.Frozenset.addrOf setAdd
 refine wpAny_bind (wpAny_pure ?_)
 refine wpAny_bind (wpAny_pure ?_)
 have hu1:(nestedKind P w).room A.in1:=by
  show A.in1.units+8 < cLine
  simp only [Around.in1_units];omega
 refine wpAny_bind (wpAny_holding (wpAny_bind ((nestedKind P w).pyHash hu1 kx ?_)))
 refine addKey (s:={s with toks:=s.toks+(nestedKind P w).draws k}) R kx hu1 few fun b h' M' es' ep' tb' sb R' c1 c2=> ?_
 show wpAny _ _ (ret Value.none) _ _ _
 exact wpAny_pure ⟨_,rfl,hQ h' _ M' es' ep' tb' sb R' c1 c2⟩
end
end DV
namespace DV
open PySem PySem.Spec PyProof.Rows L2 DL
section
variable {X:Cx}
def GdN (d:D):Prop:=(∃es,d= .tup es)∧okN d=true∧(nk d).depth≤8∧okD d=true∧(py d).depth≤64
def zN (X:Cx) (Z:Fz) (H:Hp) (M:List (Addr×NestedKey)) (items:List D):Prop:= ∀p∈M,∃d∈items,nk d=p.2∧Rep X.K Z H (.ref p.1) d
theorem zN.mono {Z Z':Fz} {H H':Hp} {M:List (Addr×NestedKey)} {items:List D} (h:zN X Z H M items) (m:Mv Z H Z' H'):zN X Z' H' M items:=fun p hp=>by
 obtain ⟨d,h1,h2,h3⟩:=h p hp
 exact ⟨d,h1,h2,h3.mono m⟩
theorem zN.sub {Z:Fz} {H:Hp} {M:List (Addr×NestedKey)} {items items':List D} (h:zN X Z H M items) (m:∀d∈items,d∈items'):zN X Z H M items':=fun p hp=>by
 obtain ⟨d,h1,h2⟩:=h p hp
 exact ⟨d,m d h1,h2⟩
def addN (X:Cx) (t:Addr) (y:V) (H:Hp) (Nx:Hp→Prop):Prop:= ∃b d Z M items,y= .ref b∧GdN d∧Rep X.K Z H (.ref b) d∧H t=some (SNO X.prog X.w t M)∧zN X Z H M items∧(∀e∈items,GdN e)∧M.length+1 < 300∧
 ∀M',(nk d∈M.map (·.2)→M'=M)→(nk d∉M.map (·.2)→M'.Perm ((b,nk d)::M))→Nx (upd H t (SNO X.prog X.w t M'))
theorem nk_of {Y:Cx} {pins:List (Addr×Obj)} {σ:L2.St} {H:Hp} {s:Shared} (I:Inv Y pins σ H s) {Z:Fz} {b:Addr} {d:D} (g:GdN d) (r:Rep Y.K Z H (.ref b) d):Nk Y.prog Y.w s.heap (nk d) b:=⟨Rep.nst I d _ _ g.2.1 r rfl,g.2.2.1⟩
theorem setK_N (hu:X.A.units+16 < cLine):SetK X (fun t=>SNO X.prog X.w t []) (addN X) where
 new:=fun {H h t} hg=>sno_new (sn_fresh (P:=X.prog) hg).t0
 put:=by
  intro Y pins σ H s t y u Nx e1 e2 e3 e4 I r ⟨b,d,Z,M,items,ey,hd,hb,ht,hm,hi,few,nx⟩
  subst ey
  obtain rfl:u=Value.ref b:=r
  have R0:SN0 X.prog X.w s.heap t M:=(I.hok t _ ht).1
  have kk:∀{q:Addr} {e:D},GdN e→Rep X.K Z H (.ref q) e→Nk X.prog X.w s.heap (nk e) q:=fun {q e} g h=>by
   have z:=nk_of (Y:=Y) I (Z:=Z) g (by rw [e3];exact h)
   rwa [e1,e2] at z
  obtain ⟨es,ep,tb,R⟩:=R0.full fun p hp=>by
   obtain ⟨e,h1,h2,h3⟩:=hm p hp
   rw [←h2]
   exact kk (hi e h1) h3
  refine setN_add R (kk hd hb) hu few fun h' tk M' es' ep' tb' sb R' c1 c2=> ?_
  obtain ⟨o',ho',_⟩:=R'.ob
  have ob:∀H',ObjOk Y.prog Y.w H' h' t (SNO X.prog X.w t M'):=fun H'=>by rw [e1,e2];exact sno_new R'.t0
  exact ⟨_,I.write (e:=t) (t':=tk) (by rw [ht];trivial) (.inl rfl) (fun b u hb hu=>(sb.2 b hb).trans hu) ⟨o',ho'⟩ (ob _),nx M' c1 c2⟩
abbrev rSortN (X:Cx):List V→Hp→VK→Prop:=fun vs H Q=> ∃(a:Addr) (M:List (Addr×NestedKey)) (Z:Fz) (items:List D),vs= [.ref a]∧H a=some (SNO X.prog X.w a M)∧zN X Z H M items∧(∀d∈items,GdN d)∧(∀es:List D,(∀d∈es,d∈items)→PySem.W.AllAlike (es.map py))∧
 ∀(l:Addr) (es:List D) (ys:List V),H l=none→(∀d∈es,d∈items)→(es.map nk).Nodup→(∀k,k∈es.map nk↔k∈M.map (·.2))→es.length < 300→bG X.K Z H ys (es.mergeSort leD)→Q (.ref l) (upd H l (.lst ys))
set_option maxHeartbeats 3200000 in
theorem cr_sortSN (hc:X.calm=true) (hu:X.A.units+100 < cLine):CallR X (.builtin "sorted") (rSortN X):=fun pins s1 σ H1 vs us QV I1 r ⟨a,LL,Z1,ds,ev,ha,hpk,hds,hsrt,q1⟩=>by
 subst ev
 obtain ⟨u,rfl,ru⟩:=vals1 r
 obtain rfl:u=Value.ref a:=ru
 have R0:SN0 X.prog X.w s1.heap a LL:=(I1.hok a _ ha).1
 obtain ⟨es,ep,t,hS⟩:=R0.full fun p hp=>by
  obtain ⟨e,h1,h2,h3⟩:=hpk p hp
  rw [←h2]
  exact nk_of I1 (hds e h1) h3
 obtain ⟨o,ho,hex,hdt⟩:=hS.ob
 have I2:=I1
 obtain ⟨es0,hes0⟩:=pickAll (R:=fun p d=>(d∈ds∧nk d=p.2)∧∃x,RelV x (Value.ref p.1)∧Rep X.K Z1 H1 x d) fun p hp=>by
  obtain ⟨d,h1,h2,h3⟩:=hpk p hp
  exact ⟨d,⟨h1,h2⟩,V.ref p.1,rfl,h3⟩
 have m0:∀d∈es0,d∈ds:=fun d hd0=>by
  obtain ⟨p,_,h1,_⟩:=paired_mem hes0 d hd0
  exact h1.1
 have k0:es0.map nk=LL.map (·.2):=paired_keys (fun p d h=>h.1.2) hes0
 have nd0:(es0.map nk).Nodup:=by rw [k0];exact hS.nd
 have hL2:LL.length < 300:=hS.few
 refine PySem.Calls.call_function_entry PyProof.Rows.kind_sorted PyProof.Rows.plain_sorted PyProof.Rows.entry_sorted (PyProof.Rows.args_sorted1 _) ?_
 unfold Builtin.«sorted»
 refine wpAny_bind (m:=checkCount "sorted" 1 1 _) (wpAny_pure ?_)
 refine wpAny_bind (L2.collect_set (s:=s1) (A:=X.A.in1) (I2.ok.hd hc) ⟨o,ho,hex.1,hdt⟩ (SN.fit hS) (by rw [nZ hS.en];unfold scanBound;omega) hS.tb.ris hS.ld fun s2 vs k1 hz2 g1 o1 pm=> ?_)
 have hen:es.toList.map (·.2)=LL.map fun p=>Value.ref p.1:=by rw [hS.en];unfold enN;rw [List.map_map];rfl
 rw [hen] at pm
 obtain ⟨LP,hLP,pp⟩:=perm_map_inv pm
 subst hLP
 obtain ⟨es1,pe1,hes1⟩:=paired_perm pp hes0
 have m1:∀d∈es1,d∈ds:=fun d hd1=>m0 d (pe1.mem_iff.mp hd1)
 have hal:=hsrt es1 m1
 have hes2:Paired (fun (v:Value) (d:D)=>(∃x,RelV x v∧Rep X.K Z1 H1 x d)∧∃as,Reads s1.heap v (py d) as) (LP.map fun p=>Value.ref p.1) es1:=by
  refine paired_map (f:=fun p:Addr×NestedKey=>Value.ref p.1) (pairedM ?_ hes1)
  intro p d hdm ⟨_,x,rx,rp⟩
  exact ⟨⟨x,rx,rp⟩,Dp.reads I2 _ _ _ (Rep.dp _ _ (hds d (m1 d hdm)).2.2.2.1 rp).1 rx⟩
 have hvl:(LP.map fun p=>Value.ref p.1).length < 300:=by rw [List.length_map,pp.length_eq];exact hL2
 have hlz:(LP.map fun p=>Value.ref p.1).length≤sizeLine:=by rw [dF];omega
 refine wpAny_bind (wpAny_newList ?_ hlz)
 generalize hvs:(LP.map fun p=>Value.ref p.1)=vs at hes2 hvl hlz ⊢
 have hoL:(s2.heap.push (seqObj "list" vs.toArray 0)).get? s2.heap.objs.size=some (seqObj "list" vs.toArray 0):=Heap.get?_push_size _ rfl
 have er:PySem.W.EachIs (fun v d=> ∃as,Reads (s2.heap.push (seqObj "list" vs.toArray 0)) v (py d) as∧s2.heap.objs.size∉as) vs es1:=by
  refine iV (Paired.mono hes2 fun v d zz=> ?_)
  obtain ⟨as,ra⟩:=zz.2
  have ra2:=PyProof.Rows.Reads.keeps (fun b o e=>k1 b o e) ra
  refine ⟨as,PyProof.Rows.Reads.keeps (fun _ _=>Heap.get?_push_of_some _) ra2,fun hm=> ?_⟩
  obtain ⟨o,ho⟩:=PyProof.On.reads_mem_get ra2 _ hm
  exact absurd (Heap.lt_size ho) (Nat.lt_irrefl _)
 show wpAny _ _ _ _ _ {s2 with heap:=s2.heap.push (seqObj "list" vs.toArray 0)}
 have hel:es1.length=vs.length:=(Paired.length hes2).symm
 refine wpAny_bind (wpAny_holding (sortCall (s:={s2 with heap:=s2.heap.push (seqObj "list" vs.toArray 0)}) (R:=fun v d=> ∃x,RelV x v∧Rep X.K Z1 H1 x d) (enc:=py) (bs:=es1) (n:=0) hoL (iV (Paired.mono hes2 fun _ _ z=>z.1)) er hal (fun d hd=>by
  obtain ⟨b,hb,rfl⟩:=List.mem_map.mp hd
  obtain ⟨zs,rfl⟩:=(hds b (m1 b hb)).1
  exact ⟨_,by rw [py]⟩) (by
  rw [hel];exact hlz) (fun b hb=>by have:=(hds b (m1 b hb)).2.2.2.2;show X.A.units+1+1+_ < _;omega) fun out hlo hout=> ?_))
 have back:∀{out:List Value} {ds:List D},Paired (fun (v:Value) (d:D)=> ∃x,RelV x v∧Rep X.K Z1 H1 x d) out ds→∃ys,Vals ys out∧bG X.K Z1 H1 ys ds:=by
  intro out ds h
  induction h with
  | nil=>exact ⟨[],.nil,.nil⟩
  | cons h1 h2 ih=>
   obtain ⟨x,e1,e2⟩:=h1
   obtain ⟨ys,e3,e4⟩:=ih
   exact ⟨x::ys,.cons e1 e3,.cons e2 e4⟩
 obtain ⟨ys,v1,v2⟩:=back (mV hout)
 obtain ⟨e',he'⟩:=PyProof.Rows.sortedHeap_at (vs:=vs) (out:=List.toArray out) hoL
 have hl4:ys.length≤sizeLine:=by
  rw [v1.length,hlo,hel]
  exact hlz
 have hnew:H1 s2.heap.objs.size=none:=I2.hok.fresh hz2
 have key:∀h3,(∀b u,s2.heap.get? b=some u→h3.get? b=some u)→h3.get? s2.heap.objs.size=some (seqObj "list" (List.toArray out) e')→
   EP X pins σ QV (.ref s2.heap.objs.size) {s2 with heap:=h3}:=fun h3 kk3 hg3=>by
  have J:Inv X pins σ (upd H1 s2.heap.objs.size (.lst ys)) {s1 with heap:=h3,gens:=s2.gens,drawn:=s2.drawn,toks:=s2.toks}:=
   I2.call (ch:= []) (Un.laid (fun b u e=>kk3 b u (k1 b u e)) hz2 hnew) (I2.hok.laid (fun b u e=>kk3 b u (k1 b u e)) hz2 ⟨hl4,out,e',v1,by simpa using hg3⟩) (by rw [g1];exact I2.bare) (fun _ z=>nomatch z)
  have e:({s2 with heap:=h3}:Shared)={s1 with heap:=h3,gens:=s2.gens,drawn:=s2.drawn,toks:=s2.toks}:=by
   clear I2 I1 R0 hS ho k1 hz2 g1
   cases s2
   cases s1
   cases o1
   rfl
  rw [e]
  exact ⟨.ref s2.heap.objs.size,_,J,rfl,q1 _ es1 ys hnew m1 (by rw [(pe1.map nk).nodup_iff];exact nd0) (fun k=>by rw [(pe1.map nk).mem_iff,k0]) (by rw [hel];exact hvl) v2⟩
 refine wpAny_pure ⟨_,rfl,key _ (fun b u eb=> ?_) he'⟩
 have hb':b < s2.heap.objs.size:=Heap.lt_size eb
 rw [PyProof.Rows.sortedHeap_old (Nat.ne_of_lt hb') (by rw [size_push'];exact Nat.lt_succ_of_lt hb')]
 exact Heap.get?_push_of_some _ eb
end
end DV
namespace DV
open PySem PySem.Spec PyProof.Rows L2 DL
structure HasN (X:Cx) (Z:Fz) (H:Hp) (M:List (Addr×NestedKey)) (items:List D):Prop where
 mem:zN X Z H M items
 all:∀k,k∈M.map (·.2)↔k∈items.map nk
 len:M.length≤items.length
theorem HasN.mono {X:Cx} {Z Z':Fz} {H H':Hp} {M:List (Addr×NestedKey)} {items:List D} (h:HasN X Z H M items) (m:Mv Z H Z' H'):HasN X Z' H' M items:=⟨h.mem.mono m,h.all,h.len⟩
theorem HasN.add {X:Cx} {Z:Fz} {H:Hp} {M M':List (Addr×NestedKey)} {items:List D} {b:Addr} {y:D} (h:HasN X Z H M items) (r:Rep X.K Z H (.ref b) y) (c1:nk y∈M.map (·.2)→M'=M) (c2:nk y∉M.map (·.2)→M'.Perm ((b,nk y)::M)):HasN X Z H M' (items++ [y]):=by
 have hs:zN X Z H M (items++ [y]):=h.mem.sub fun d hd=>List.mem_append_left _ hd
 have hl:(items++ [y]).length=items.length+1:=by rw [List.length_append];rfl
 have ha:∀k,k∈(items++ [y]).map nk↔k∈M.map (·.2)∨k=nk y:=fun k=>by
  rw [List.map_append,List.mem_append,←h.all]
  show _∨k∈ [nk y]↔_
  rw [List.mem_singleton]
 by_cases c:nk y∈M.map (·.2)
 ·rw [c1 c]
  exact ⟨hs,fun k=>by rw [ha];exact ⟨.inl,fun z=>z.elim id fun e=>e ▸c⟩,by rw [hl];exact Nat.le_succ_of_le h.len⟩
 ·have pm:=c2 c
  refine ⟨fun p hp=> ?_,fun k=> ?_,by rw [hl,pm.length_eq];exact Nat.succ_le_succ h.len⟩
  ·rcases List.mem_cons.mp (pm.mem_iff.mp hp) with rfl | hp
   ·exact ⟨y,List.mem_append_right _ List.mem_cons_self,rfl,r⟩
   ·exact hs p hp
  ·rw [ha,(pm.map (·.2)).mem_iff]
   show k∈nk y::_↔_
   rw [List.mem_cons]
   exact Or.comm
section
variable {C:DL.Ctx} {Γ:Gm} {L:Lp} {elt tg iter tg1 iter1 e:Expr} {pos p pos1:Pos} {Q:D→Lp→Prop}
set_option maxHeartbeats 3200000 in
theorem ae_sortN2 (own:List (Str×Nat)) (vs1:List Nat) {scope:Scope} (hm:C.X.mg "sorted"=none) (hu:C.X.A.units+100 < cLine)
  (h:AI C tg iter Γ L fun ds G L1=>G L1∧∃kf:Nat→List D,((List.range ds.length).flatMap kf).length < 299∧(∀i d,ds[i]? =some d→∃Γ3 ws,(∀j∈ws,j∈own.map (·.2))∧∀s H Cc cl fp,AG (dH C scope s H Cc cl fp) tg d (dN Γ (own.map (·.2))) Γ3 ws∧
   AJ (dH C scope s H Cc cl fp) tg1 iter1 Γ3 L1 fun ds1 L3=>L3=L1∧ds1.length=(kf i).length∧∀(j:Nat) (d1 y:D),ds1[j]? =some d1→(kf i)[j]? =some y→∃Γ5 ws1,(∀j∈ws1,j∈vs1)∧∀s H Cc cl fp,AG (dH C scope s H Cc cl fp) tg1 d1 (dN Γ3 vs1) Γ5 ws1∧AV (dH C scope s H Cc cl fp) elt Γ5 L1 y)∧
   (∀y∈(List.range ds.length).flatMap kf,GdN y)∧(∀es:List D,(∀d∈es,d∈(List.range ds.length).flatMap kf)→PySem.W.AllAlike (es.map py))∧
   ∀(l:Addr) (es:List D),L1 l=none→(∀d∈es,d∈(List.range ds.length).flatMap kf)→(es.map nk).Nodup→(∀k,k∈es.map nk↔k∈((List.range ds.length).flatMap kf).map nk)→Q (.ptr l) (put L1 l (.lst (es.mergeSort leD))))
  (ok:BlkOk C.X.N C.X.env.scope scope own:=by (dsimp only [vA,dH,cxOf,envOfC,compEnvC,Cx.blk];exact blkOk_by (by decide+kernel))) (hv:∀i∈vs1,i∈own.map (·.2):=by decide) (hs:∀x,foldedSetIterable iter C.X.env x=pure x:=by intro _;rfl) (hs1:∀env x,foldedSetIterable iter1 env x=pure x:=by intro _ _;rfl)
  (hg:Gl C.X "sorted" :=by rfl) (hdb:(("sorted" :Str)==("__debug__" :Str))=false:=by decide)
  (he:starEach [Expr.SetComp elt [⟨tg,iter,[],0⟩,⟨tg1,iter1,[],0⟩] scope pos1] C.X.env=(false,eval (Expr.SetComp elt [⟨tg,iter,[],0⟩,⟨tg1,iter1,[],0⟩] scope pos1) C.X.env)::starEach [] C.X.env:=by rfl) (hpl:(backTo pos (starEach [] C.X.env)).any (·.1)=false:=by rfl):
  AE C (.Call (.Name "sorted" p) [.SetComp elt [⟨tg,iter,[],0⟩,⟨tg1,iter1,[],0⟩] scope pos1] [] pos) Γ L Q:=fun F σ H okk QV go=>by
 refine dO (pe_callB (cr_sortSN C.calm hu) hg hm (by decide+kernel) (pa_cons (pe_sg (setK_N (by omega)) (wi:=WI C.X tg iter) (g:=gB C scope tg) (wi1:=wjB C scope tg1 iter1) (g1:=gB C scope tg1) (te:=teB C scope elt) C.calm C.nd xV ok hv (fun s H0 Cc cl fp=>⟨fun pins s1 σ1 H1 v u Q1 I r q=>(q s H0 Cc cl fp).run pins s1 u I r⟩) (fun s H0 Cc cl fp=>⟨fun pins s1 σ1 H1 Q1 I q=>(q s H0 Cc cl fp).run pins s1 I⟩) (fun s H0 Cc cl fp=>⟨fun pins s1 σ1 H1 Q1 I q=>(q s H0 Cc cl fp).run pins s1 I⟩) (fun s H0 Cc cl fp=>⟨fun pins s1 σ1 H1 v u Q1 I r q=>(q s H0 Cc cl fp).run pins s1 u I r⟩) hs hs1) pa_nil he) (by decide) hdb he hpl) ?_
 refine h _ σ H okk _ fun {F1} J H1 L1 ds G c1 f1 it ⟨hG,kf,hfew,hb,hgd,hsrt,q⟩=> ?_
 intro t ht
 have f1t:=c1.nf ht
 have l1t:=c1.free ht
 have fls:∀i,(List.range (i+1)).flatMap kf=(List.range i).flatMap kf++kf i:=fun i=>by rw [List.range_succ,List.flatMap_append];simp
 have fsub:∀i,i < ds.length→∀j,∀d∈(List.range i).flatMap kf++(kf i).take j,d∈(List.range ds.length).flatMap kf:=fun i hi j d hd=>by
  rcases List.mem_append.mp hd with hd | hd
  ·obtain ⟨a,ha,hd⟩:=List.mem_flatMap.mp hd
   exact List.mem_flatMap.mpr ⟨a,List.mem_range.mpr (Nat.lt_trans (List.mem_range.mp ha) hi),hd⟩
  ·exact List.mem_flatMap.mpr ⟨i,List.mem_range.mpr hi,List.mem_of_mem_take hd⟩
 have flen:∀n,n≤ds.length→((List.range n).flatMap kf).length≤((List.range ds.length).flatMap kf).length:=fun n hn=>by
  have e:List.range n=(List.range ds.length).take n:=by rw [List.take_range,Nat.min_eq_left hn]
  obtain ⟨z,hz⟩:=List.take_prefix n (List.range ds.length)
  rw [←hz,List.flatMap_append,List.length_append,←e]
  exact Nat.le_add_right _ _
 refine ⟨fun i m H2=>m=ds.length - i∧i≤ds.length∧∃F2 M,C.Con L1 F2 H2∧Fr L1 F1 H1 L1 F2 H2∧¬F2 t∧H2 t=some (SNO C.X.prog C.X.w t M)∧HasN C.X F2 H2 M ((List.range i).flatMap kf),⟨ds.length,by simp,Nat.zero_le _,F1,[],c1.new ht,.new ht,f1t,upd_same,⟨(fun p hp=>nomatch hp),fun k=>by simp,Nat.zero_le _⟩⟩,?_⟩
 rintro i m H2 ⟨rfl,hi,F2,M,c2,f2,f2t,h2t,few⟩
 obtain ⟨k1,k2,k3⟩:=it i H2 L1 f2 c2 hG
 by_cases hlt:i < ds.length
 ·refine .inr ⟨k1 hlt,fun H3=> ∃F2 M,C.Con L1 F2 H3∧Fr L1 F1 H1 L1 F2 H3∧¬F2 t∧H3 t=some (SNO C.X.prog C.X.w t M)∧HasN C.X F2 H3 M ((List.range (i+1)).flatMap kf),fun H3 hN=>⟨ds.length - (i+1),by omega,rfl,hlt,hN⟩,fun x H' y=> ?_⟩
  obtain ⟨d,hd,rd,hH⟩:=k3 x H' y hlt
  have fH:Fr L1 F2 H2 L1 F2 H':=by
   rcases hH with e | ⟨T,vs,nT,e⟩
   ·rw [e];exact .refl L1 H2
   ·rw [e];exact .new nT
  have cH:C.Con L1 F2 H':=by
   rcases hH with e | ⟨T,vs,nT,e⟩
   ·rw [e];exact c2
   ·rw [e];exact c2.new nT
  obtain ⟨_,_,h3t⟩:=fH.hid h2t (fun _ z=>nomatch z) l1t f2t
  have slw:Sl C.X.K F2 H' (wipe σ (own.map (·.2))) (dN Γ (own.map (·.2))):=(okk.sl.mono ((f1.trans f2).trans fH).mv).wipe _
  obtain ⟨Γ3,ws,hws,hbody⟩:=hb i d hd
  intro s0 H0 Cc cl fp
  refine (hbody s0 H0 Cc cl fp).1 _ _ H' x slw rd _ fun σ3 sl3 but=>⟨But.wiped but hws,?_⟩
  intro s1 H01 Cc1 cl1 fp1
  refine (hbody s1 H01 Cc1 cl1 fp1).2 _ σ3 H' ⟨sl3,cH,⟨fun _ _ _ _ _ _ _ _ _ _ _ z=>z.elim,True.intro⟩⟩ _ fun {F4} J1 H4 L4 ds1 c4 f4 it1 ⟨eL,hl1,hin⟩=> ?_
  subst eL
  obtain ⟨_,f4t,h4t⟩:=f4.hid h3t (fun _ z=>nomatch z) l1t f2t
  have fr4:=(f2.trans fH).trans f4
  have few4:HasN C.X F4 H4 M ((List.range i).flatMap kf):=few.mono (fH.trans f4).mv
  refine ⟨fun j k H5=>k=ds1.length - j∧j≤ds1.length∧∃F5 M,C.Con L4 F5 H5∧Fr L4 F1 H1 L4 F5 H5∧Mv F4 H4 F5 H5∧¬F5 t∧H5 t=some (SNO C.X.prog C.X.w t M)∧HasN C.X F5 H5 M ((List.range i).flatMap kf++(kf i).take j),⟨ds1.length,by simp,Nat.zero_le _,F4,M,c4,fr4,⟨.refl H4,fun _ z=>z,fun _ _ _ z=>z⟩,f4t,h4t,by rw [List.take_zero,List.append_nil];exact few4⟩,?_⟩
  rintro j k H5 ⟨rfl,hj,F5,M5,c5,f5,m5,f5t,h5t,few5⟩
  obtain ⟨k4,k5,k6⟩:=it1 L4 F5 H5 j H5 L4 (.refl L4 H5) c5 True.intro
  by_cases hjl:j < ds1.length
  ·refine .inr ⟨k4 hjl,fun H6=> ∃F5 M,C.Con L4 F5 H6∧Fr L4 F1 H1 L4 F5 H6∧Mv F4 H4 F5 H6∧¬F5 t∧H6 t=some (SNO C.X.prog C.X.w t M)∧HasN C.X F5 H6 M ((List.range i).flatMap kf++(kf i).take (j+1)),fun H6 hN=>⟨ds1.length - (j+1),by omega,rfl,hjl,hN⟩,fun x6 H6 y6=> ?_⟩
   obtain ⟨d6,hd6,rd6,hH6⟩:=k6 x6 H6 y6 hjl
   have fH6:Fr L4 F5 H5 L4 F5 H6:=by
    rcases hH6 with e | ⟨T,vs,nT,e⟩
    ·rw [e];exact .refl L4 H5
    ·rw [e];exact .new nT
   have cH6:C.Con L4 F5 H6:=by
    rcases hH6 with e | ⟨T,vs,nT,e⟩
    ·rw [e];exact c5
    ·rw [e];exact c5.new nT
   obtain ⟨_,_,h6t⟩:=fH6.hid h5t (fun _ z=>nomatch z) l1t f5t
   have hjk:j < (kf i).length:=by rw [←hl1];exact hjl
   have hyi:(kf i)[j]? =some (kf i)[j]:=List.getElem?_eq_getElem hjk
   have hym:(kf i)[j]∈(List.range ds.length).flatMap kf:=List.mem_flatMap.mpr ⟨i,List.mem_range.mpr hlt,List.getElem_mem hjk⟩
   have etk:(kf i).take (j+1)=(kf i).take j++ [(kf i)[j]]:=by rw [List.take_add_one,hyi];rfl
   generalize (kf i)[j]=y at hyi hym etk
   obtain ⟨Γ5,ws1,hws1,hel⟩:=hin j d6 y hd6 hyi
   intro s2 H02 Cc2 cl2 fp2
   refine (hel s2 H02 Cc2 cl2 fp2).1 _ _ H6 x6 ((((sl3.mono f4.mv).mono m5).mono fH6.mv).wipe vs1) rd6 _ fun σ7 sl7 but7=>⟨But.wiped but7 hws1,?_⟩
   intro s3 H03 Cc3 cl3 fp3
   refine (hel s3 H03 Cc3 cl3 fp3).2 (fun d L'=>d=y∧L'=L4) ⟨rfl,rfl⟩ _ σ7 H6 ⟨sl7,cH6,⟨fun _ _ _ _ _ _ _ _ _ _ _ z=>z.elim,True.intro⟩⟩ _ fun {F8} v8 d8 H8 L8 r8 c8 f8 ⟨ed,eL⟩=> ?_
   subst ed eL
   obtain ⟨_,f8t,h8t⟩:=f8.hid h6t (fun _ z=>nomatch z) l1t f5t
   have gy:=hgd d8 hym
   obtain ⟨b,rfl⟩:∃b,v8=V.ref b:=by
    obtain ⟨es,e⟩:=gy.1
    subst e
    obtain ⟨b,vs,rfl,_⟩:=r8.tupE
    exact ⟨b,rfl⟩
   have few8:=few5.mono (fH6.trans f8).mv
   have hml:M5.length+1 < 300:=by
    have h1:=few5.len
    have h2:((List.range i).flatMap kf++(kf i).take j).length≤((List.range (i+1)).flatMap kf).length:=by
     rw [fls,List.length_append,List.length_append,List.length_take]
     omega
    have h3:=flen (i+1) hlt
    omega
   refine ⟨b,d8,F8,M5,_,rfl,gy,r8,h8t,few8.mem,fun e he=>hgd e (fsub i hlt j e he),hml,fun M' c1' c2'=> ?_⟩
   have st:=Stay.ext (o:=SNO C.X.prog C.X.w t M') h8t
   refine ⟨F8,M',c8.hid st l1t f8t,((f5.trans fH6).trans f8).hidw ht f1t st,((m5.trans fH6.mv).trans f8.mv).trans (.hid st f8t),f8t,upd_same,?_⟩
   rw [etk,←List.append_assoc]
   exact (few8.add r8 c1' c2').mono (.hid st f8t)
  ·obtain rfl:j=ds1.length:=by omega
   refine .inl ⟨k5 rfl,F5,M5,c5,f5,f5t,h5t,?_⟩
   rw [fls]
   rw [hl1,List.take_length] at few5
   exact few5
 ·obtain rfl:i=ds.length:=by omega
  exact .inl ⟨k2 rfl,t,M,F2,_,rfl,h2t,few.mem,hgd,hsrt,fun l es ys hl m1 nd kk hfe rr=>go _ _ _ (put L1 l (.lst (es.mergeSort leD))) (.ptr l) (c2.newL hl ⟨ys,upd_same,rr.mono (.new hl),by rw [List.length_mergeSort,dF];omega⟩) ((f1.trans f2).trans (.newL hl)) (q l es (c2.free hl) m1 nd fun k=>(kk k).trans (few.all k))⟩
end
end DV
namespace DL
open PySem PySem.Spec PyProof.Rows L2
section
variable {C:DL.Ctx} {Γ:Gm} {L:Lp} {Q:D→Lp→Prop} {t:Addr} {rs:Rl} {k:List Wd} {z:List Cell} {Z:Fz} {H:Hp} {pins:List (Addr×Obj)} {σ:L2.St} {s:Shared}
theorem key_tup {v:V} (r:Rep C.X.K Z H v (dW k)):∃b,v= .ref b∧H b=some (.tup ((kS k).map kV)):=by
 obtain ⟨b,vs,rfl,hb,rv⟩:=r.tupE
 refine ⟨b,rfl,?_⟩
 have key:∀{vs:List V} {ws:List Wd},bG C.X.K Z H vs (ws.map D.str)→vs=(kS ws).map kV:=by
  intro vs ws h
  induction ws generalizing vs with
  | nil=>cases h;rfl
  | cons w ws ih=>
   cases h with
   | cons h1 h2=>rw [h1.strE,ih h2];rfl
 rw [hb,key rv]
end
end DL
namespace DL
open PySem PySem.Spec PyProof.Rows L2
section
variable {C:DL.Ctx} {Γ:Gm} {L:Lp} {Q:D→Lp→Prop}
theorem ae_get2T {o e g:Expr} {apos cpos:Pos} (hu:C.X.A.units+1 < cLine) (h:AE C o Γ L fun x L1=> ∃t kds,x= .ptr t∧L1 t=some (.dct kds)∧AE C e Γ L1 fun y L2=>AE C g Γ L2 fun d L3=> ∃kds k,y=dW k∧L3 t=some (.dct kds)∧Q ((valD kds (kS k)).getD d) L3)
  (m:M2 C.X o "get" apos e g cpos:=by exact ⟨rfl,rfl,rfl,rfl⟩):AE C (.Call (.Attribute o "get" apos) [e,g] [] cpos) Γ L Q:=fun Z σ H ok QV go=>
 dO (pe_dget2 hu bA bA bA m) (h Z σ H ok _ fun {Z1} vx x H1 L1 rx c1 f1 ⟨t,kds,ex,ht0,q1⟩=>by
  subst ex
  obtain ⟨kvs0,e0,_⟩:=c1.at_ t _ ht0
  refine ⟨t,rx.ptrE,.inr ⟨kvs0,.inl e0⟩,q1 Z1 σ H1 (ok.step c1 f1) _ fun {Z2} vy y H2 L2 ry c2 f2 q2=> ?_⟩
  refine q2 Z2 σ H2 (ok.step c2 (f1.trans f2)) _ fun {Z3} vd d H3 L3 rd c3 f3 ⟨kds,k,ey,ht,q⟩=> ?_
  subst ey
  obtain ⟨b,rfl,hb⟩:=key_tup (C:=C) (ry.mono f3.mv)
  obtain ⟨kvs,e,rr,hK⟩:=c3.at_ t _ ht
  refine ⟨valV kvs (kS k),DGet.t e hb,?_⟩
  have f:=(f1.trans f2).trans f3
  rcases KDs.val rr (kS k) with ⟨e1,e2⟩ | ⟨v,d',e1,e2,rv⟩
  ·rw [e2] at q
   rw [e1]
   exact go _ _ H3 L3 rd c3 f q
  ·rw [e2] at q
   rw [e1]
   exact go _ _ H3 L3 rv c3 f q)
end
def tU (ks:List (List Wd)):List (List Key×D):=ks.zipIdx.map fun p=>(kS p.1,D.int (p.2:Nat))
theorem numT_snoc (ks:List (List Wd)) (k:List Wd):tU (ks++ [k])=tU ks++ [(kS k,.int (ks.length:Nat))]:=by
 unfold tU
 rw [List.zipIdx_append,List.map_append]
 simp
theorem numT_len (ks:List (List Wd)):(tU ks).length=ks.length:=by unfold tU;simp
theorem numT_val (ks:List (List Wd)) (k:List Wd):valD (tU ks) (kS k)=if k∈ks then some (.int (ks.idxOf k:Nat)) else none:=by
 have key:∀(ks:List (List Wd)) (n:Nat),(((ks.zipIdx n).map fun p=>(kS p.1,D.int (p.2:Nat))).find? fun y=>decide (y.1=kS k)).map (·.2)=if k∈ks then some (.int ((n+ks.idxOf k:Nat):Int)) else none:=by
  intro ks
  induction ks with
  | nil=>intro n;simp
  | cons a ks ih=>
   intro n
   rw [List.zipIdx_cons,List.map_cons,List.find?_cons]
   by_cases h:a=k
   ·subst h
    rw [decide_eq_true rfl]
    simp
   ·have h1:decide ((kS a:List Key)=kS k)=false:=decide_eq_false fun e=>h (zA e)
    have h2:¬k=a:=fun e=>h e.symm
    rw [h1]
    dsimp only
    rw [show (List.find? (fun y=>decide (y.1=kS k)) (List.map (fun p=>(kS p.1,D.int (p.2:Nat))) (ks.zipIdx (n+1)))).map (·.2)=_ from ih (n+1)]
    by_cases hm:k∈ks
    ·rw [if_pos hm,if_pos (List.mem_cons_of_mem _ hm),List.idxOf_cons,show (a==k)=false from beq_eq_false_iff_ne.mpr h]
     dsimp only [cond]
     congr 2
     omega
    ·rw [if_neg hm,if_neg fun z=>(List.mem_cons.mp z).elim h2 hm]
 have:=key ks 0
 simp only [Nat.zero_add] at this
 exact this
theorem numT_put {ks:List (List Wd)} {k:List Wd} (h:k∉ks):putD (tU ks) (kS k) (.int (ks.length:Nat))=tU (ks++ [k]):=by
 unfold putD
 have h1:((tU ks).any fun kv=>decide (kv.1=kS k))=false:=by
  rw [List.any_eq_false]
  intro kv hkv
  unfold tU at hkv
  obtain ⟨p,hp,rfl⟩:=List.mem_map.mp hkv
  intro z
  have:=zA (of_decide_eq_true z)
  rw [←this] at h
  exact h (List.mem_of_getElem? (List.mem_zipIdx_iff_getElem?.mp hp))
 rw [h1,numT_snoc]
 rfl
end DL
namespace DL
variable {W:Type} [DecidableEq W]
theorem idx_getL {α:Type} [BEq α] [LawfulBEq α] {xs:List α} {x:α} (h:x∈xs):xs[xs.idxOf x]? =some x:=by
 have hl:=List.idxOf_lt_length_of_mem h
 rw [List.getElem?_eq_getElem hl,List.getElem_idxOf hl]
theorem idx_headL {α:Type} [BEq α] [LawfulBEq α]:∀{xs:List α} {x:α},xs[0]? =some x→xs.idxOf x=0
 | [],_,h=>nomatch h
 | y::xs,x,h=>by
  cases h
  rw [List.idxOf_cons,beq_self_eq_true]
  rfl
structure Bgn (us bs:List (List W)):Prop where
 nd:bs.Nodup
 mem:∀t,t∈bs↔t= []∨∃u∈us,t <+:u
 hd:bs[0]? =some []
abbrev memD (b:List W) (us:List (List W)):Decidable (b∈us):=inferInstance
def idT (bs:List (List W)) (t:List W):Nat:=if t∈bs then bs.idxOf t else bs.length
def eZ (us bs:List (List W)) (xs:List W):Rws:=(bs.map fun b=>(decide (b∈us),xs.map fun x=>idT bs (b++ [x]),bs.length))++ [(false,xs.map fun _=>bs.length,bs.length)]
section
variable {us bs:List (List W)} {xs:List W}
theorem idT_le (t:List W):idT bs t≤bs.length:=by
 unfold idT
 split
 ·exact List.idxOf_le_length
 ·exact Nat.le_refl _
theorem jP:(eZ us bs xs).length=bs.length+1:=by unfold eZ;simp
theorem onlyR_ok:MOk xs.length (eZ us bs xs):=by
 have key:∀r∈eZ us bs xs,r.2.1.length=xs.length∧(∀g∈r.2.1,g≤bs.length)∧r.2.2≤bs.length:=fun r hr=>by
  unfold eZ at hr
  rcases List.mem_append.mp hr with h | h
  ·obtain ⟨b,_,rfl⟩:=List.mem_map.mp h
   refine ⟨List.length_map ..,fun g hg=> ?_,Nat.le_refl _⟩
   obtain ⟨x,_,rfl⟩:=List.mem_map.mp hg
   exact idT_le _
  ·rw [List.mem_singleton.mp h]
   refine ⟨List.length_map ..,fun g hg=> ?_,Nat.le_refl _⟩
   obtain ⟨x,_,rfl⟩:=List.mem_map.mp hg
   exact Nat.le_refl _
 exact ⟨fun r hr=>(key r hr).1,fun r hr g hg=>by rw [jP];exact Nat.lt_succ_of_le ((key r hr).2.1 g hg),fun r hr=>by rw [jP];exact Nat.lt_succ_of_le (key r hr).2.2⟩
theorem onlyR_in {b:List W} (h:b∈bs):rowAt (eZ us bs xs) (bs.idxOf b)=(decide (b∈us),xs.map fun x=>idT bs (b++ [x]),bs.length):=by
 unfold rowAt eZ
 have hl:=List.idxOf_lt_length_of_mem h
 rw [List.getD_eq_getElem?_getD,List.getElem?_append_left (by rw [List.length_map];exact hl),List.getElem?_map,idx_getL h]
 rfl
theorem onlyR_out:rowAt (eZ us bs xs) bs.length=(false,xs.map fun _=>bs.length,bs.length):=by
 unfold rowAt eZ
 rw [List.getD_eq_getElem?_getD,List.getElem?_append_right (by rw [List.length_map];exact Nat.le_refl _),List.length_map,Nat.sub_self]
 rfl
theorem onlyR_run (B:Bgn us bs) (hx:∀k,k∈xs↔∃u∈us,k∈u):∀(t b:List W),nJ xs (eZ us bs xs) (idT bs b) t=idT bs (b++t)
 | [],b=>by rw [List.append_nil];rfl
 | w::t,b=>by
  have step:fG (eZ us bs xs) (idT bs b) (eX xs w)=idT bs (b++ [w]):=by
   unfold fG
   have up:b++ [w]∈bs→b∈bs∧w∈xs:=fun h=>by
    rcases (B.mem _).mp h with e | ⟨u,hu,hp⟩
    ·exact absurd e (by simp)
    ·exact ⟨(B.mem _).mpr (.inr ⟨u,hu,List.IsPrefix.trans (List.prefix_append b [w]) hp⟩),(hx w).mpr ⟨u,hu,hp.subset (List.mem_append_right _ List.mem_cons_self)⟩⟩
   by_cases hb:b∈bs
   ·have e1:idT bs b=bs.idxOf b:=if_pos hb
    rw [e1,onlyR_in hb]
    by_cases hw:w∈xs
    ·have e2:eX xs w=some (xs.idxOf w):=if_pos hw
     rw [e2]
     show (xs.map fun x=>idT bs (b++ [x])).getD (xs.idxOf w) _=_
     rw [List.getD_eq_getElem?_getD,List.getElem?_map,jZ hw]
     rfl
    ·have e2:eX xs w=none:=if_neg hw
     rw [e2]
     have e3:idT bs (b++ [w])=bs.length:=if_neg fun h=>hw (up h).2
     rw [e3]
     rfl
   ·have e1:idT bs b=bs.length:=if_neg hb
    have e3:idT bs (b++ [w])=bs.length:=if_neg fun h=>hb (up h).1
    rw [e1,onlyR_out,e3]
    by_cases hw:w∈xs
    ·have e2:eX xs w=some (xs.idxOf w):=if_pos hw
     rw [e2]
     show (xs.map fun _=>bs.length).getD (xs.idxOf w) _=_
     rw [List.getD_eq_getElem?_getD,List.getElem?_map,jZ hw]
     rfl
    ·have e2:eX xs w=none:=if_neg hw
     rw [e2]
     rfl
  show nJ xs (eZ us bs xs) (fG (eZ us bs xs) (idT bs b) (eX xs w)) t=_
  rw [step,onlyR_run B hx t (b++ [w]),List.append_assoc]
  rfl
theorem onlyR_acc (B:Bgn us bs) (hx:∀k,k∈xs↔∃u∈us,k∈u) (t:List W):fB xs (eZ us bs xs) 0 t=decide (t∈us):=by
 have h0:idT bs []=0:=by
  have:([]:List W)∈bs:=(B.mem _).mpr (.inl rfl)
  unfold idT
  rw [if_pos this]
  exact idx_headL B.hd
 have e:=onlyR_run B hx t []
 rw [h0,List.nil_append] at e
 unfold fB
 rw [e]
 by_cases h:t∈bs
 ·have e1:idT bs t=bs.idxOf t:=if_pos h
  rw [e1,onlyR_in h]
 ·have e1:idT bs t=bs.length:=if_neg h
  rw [e1,onlyR_out]
  exact (decide_eq_false fun hu=>h ((B.mem _).mpr (.inr ⟨t,hu,List.prefix_refl t⟩))).symm
end
end DL
namespace DL
open PySem PySem.Spec PyProof.Rows L2
inductive ClD:D→Value→Prop where
 | ty (n:String):ClD (.ty n) (.type n)
 | own (a:Addr):ClD (.ptr a) (.ref a)
section
variable {C:DL.Ctx} {Γ:Gm} {L:Lp} {Q:D→Lp→Prop} {x:D} {t:Value} {a b:Expr} {p pos:Pos}
end
theorem kit_self {K:PySem.W.Frag} {a:Addr}:PySem.W.kitOne K (.ref a) (.ref a)=some true:=by
 unfold PySem.W.kitOne
 rw [if_pos (beq_self_eq_true _)]
end DL
namespace DL
open PySem PySem.Spec PySem.Calls PyProof.Rows L2
section
variable {X0:Cx} {dd:Addr} {fs:List (Str×D)} {Γ:Gm} {L:Lp} {pos p1 p2 p3:Pos}
end
end DL
namespace DL
open PySem PySem.Spec PyProof.Rows L2
structure LamP (sc scope:Scope) (ps:List Str):Prop where
 kd:scope.kind= .function
 nc:scope.isCoroutine=false
 ng:scope.isGenerator=false
 cl:∀y∈scope.names,y.2≠ .cell
 fr:∀y∈scope.names,y.2= .free→sc.names.lookup y.1=some .cell∨sc.names.lookup y.1=some .free
 pr:∀x∈ps,scope.names.lookup x=some .local
def aAz (sc scope:Scope) (ps:List Str):Bool:=
 decide (scope.kind= .function) && !scope.isCoroutine && !scope.isGenerator && (scope.names.all fun y=> !decide (y.2= .cell) && (!decide (y.2= .free) || decide (sc.names.lookup y.1=some .cell) || decide (sc.names.lookup y.1=some .free))) && ps.all fun x=>decide (scope.names.lookup x=some .local)
theorem pC {sc scope:Scope} {ps:List Str} (h:aAz sc scope ps=true):LamP sc scope ps:=by
 unfold aAz at h
 simp only [Bool.and_eq_true,Bool.or_eq_true,Bool.not_eq_true',decide_eq_true_eq,decide_eq_false_iff_not,List.all_eq_true] at h
 obtain ⟨⟨⟨⟨a,b⟩,c⟩,d⟩,e⟩:=h
 refine ⟨a,b,c,fun y hy=>(d y hy).1,fun y hy q=> ?_,e⟩
 rcases (d y hy).2 with (z | z) | z
 ·exact (z q).elim
 ·exact .inl z
 ·exact .inr z
def FvOk (N:List Str) (scope:Scope) (fv:List (Str×Nat)):Prop:= ∀q∈fv,N[q.2]? =some q.1∧scope.names.lookup q.1=some .free
def xW (ps:List Str) (fv:List (Str×Nat)):List Str:=ps++fv.map (·.1)
def xX {α:Type} (vs:List α) (fv:List (Str×Nat)) (Γ:List (Option α)):List (Option α):=vs.map some++fv.map fun q=>(Γ[q.2]?).join
theorem lamG_cases {α:Type} {vs:List α} {fv:List (Str×Nat)} {Γ:List (Option α)} {i:Nat} {v:α} (h:(xX vs fv Γ)[i]? =some (some v)):(i < vs.length∧vs[i]? =some v)∨∃j q,i=vs.length+j∧fv[j]? =some q∧Γ[q.2]? =some (some v):=by
 unfold xX at h
 by_cases hi:i < vs.length
 ·rw [List.getElem?_append_left (by simpa using hi),List.getElem?_map] at h
  refine .inl ⟨hi,?_⟩
  cases e:vs[i]? with
  | none=>rw [e] at h;cases h
  | some a=>rw [e] at h;cases h;rfl
 ·rw [List.getElem?_append_right (by simpa using hi),List.length_map,List.getElem?_map] at h
  refine .inr ⟨i - vs.length,?_⟩
  cases e:fv[i - vs.length]? with
  | none=>rw [e] at h;cases h
  | some q=>
   refine ⟨q,by omega,rfl,?_⟩
   rw [e] at h
   have h2:(Γ[q.2]?).join=some v:=by simpa using h
   cases e2:Γ[q.2]? with
   | none=>rw [e2] at h2;cases h2
   | some o=>
    rw [e2] at h2
    exact congrArg some h2
theorem tZ {α:Type} {vs:List α} {fv:List (Str×Nat)} {Γ:List (Option α)}:(xX vs fv Γ).length=vs.length+fv.length:=by
 unfold xX
 rw [List.length_append,List.length_map,List.length_map]
theorem lookup_nd {α:Type} {k:Str} {v:α}:∀{l:List (Str×α)},(l.map (·.1)).Nodup→(k,v)∈l→l.lookup k=some v
 | [],_,h=>nomatch h
 | (a,b)::l,nd,h=>by
  rw [List.map_cons,List.nodup_cons] at nd
  rw [List.lookup_cons]
  rcases List.mem_cons.mp h with e | e
  ·cases e
   rw [beq_self_eq_true]
  ·have ne:(k==a)=false:=beq_eq_false_iff_ne.mpr fun z=>nd.1 (by rw [←z];exact List.mem_map.mpr ⟨_,e,rfl⟩)
   rw [ne]
   exact lookup_nd nd.2 e
theorem lookup_zip {α:Type} {ps:List Str} {us:List α} {i:Nat} {k:Str} {u:α} (nd:ps.Nodup) (hl:us.length=ps.length) (h1:ps[i]? =some k) (h2:us[i]? =some u):(ps.zip us).reverse.lookup k=some u:=by
 refine lookup_nd ?_ ?_
 ·rw [List.map_reverse,List.map_fst_zip (by omega)]
  exact List.pairwise_reverse.mpr (nd.imp fun h=>Ne.symm h)
 ·rw [List.mem_reverse]
  exact List.mem_of_getElem? (i:=i) (List.getElem?_zip_eq_some.mpr ⟨h1,h2⟩)
def lcx (X:Cx) (A:Around) (outer:List Env) (s:Shared) (H:Hp) (E:XK) (N:List Str) (scope:Scope) (f c':Addr):Cx:={LamX.lamCx X A outer s H E scope f c' with N:=N}
section
variable {X:Cx} {pins:List (Addr×Obj)} {σ:L2.St} {H HZ:Hp} {s s1:Shared}
theorem inv_lam {A:Around} {outer:List Env} {E:XK} {scope:Scope} {f c':Addr} {h1:Heap} {tk:Nat} {ps:List Str} {fv:List (Str×Nat)} {vs:List V} {us:List Value} (I:Inv X pins σ H s) (P:LamP X.env.scope scope ps) (fo:FvOk X.N scope fv) (nd:(xW ps fv).Nodup) (e0:Env0 X.prog X.w X.K X.mg X.base A outer s1 HZ) (hd:A.handled=none)
  (un:Un (frs X.stack) [] H HZ s.heap s1.heap) (hl:vs.length=ps.length) (r:Vals vs us) (hns:h1.Ns s1.heap.objs.size fun y=>(ps.zip us).reverse.lookup y) (kp:∀b o,s1.heap.get? b=some o→h1.get? b=some o):
  Inv (lcx X A outer s1 HZ E (xW ps fv) scope f c') [] (xX vs fv σ) HZ {s1 with heap:=h1,toks:=tk}:=by
 have ndp:ps.Nodup:=(List.nodup_append.mp nd).1
 have has:∀y∈scope.names,y.2= .free→∃c,X.env.cells.lookup y.1=some c:=fun y hy e=>by
  rcases P.fr y hy e with k | k
  ·exact I.ok.has _ (.inl k)
  ·exact I.ok.has _ (.inr k)
 have was:∀{y:Str} {c:Addr},(cloFrom X.env.cells scope.names []).lookup y=some c→X.env.cells.lookup y=some c:=fun {y c} e=>by
  rcases cloFrom_mem (PySem.mem_of_lookup e) with hm | ⟨a,b⟩
  ·exact absurd hm (by simp)
  ·obtain ⟨c1,hc⟩:=has _ a rfl
   have hc:X.env.cells.lookup y=some c1:=hc
   have ec:c=c1:=by
    rw [b,hc] <;> rfl
   rw [ec,hc]
 have take:∀{y:Str},scope.names.lookup y=some .free→∃c,(cloFrom X.env.cells scope.names []).lookup y=some c:=fun {y} e=>by
  have hy:(y,NameKind.free)∈scope.names:=PySem.mem_of_lookup e
  exact L2.mem_lookup (cloFrom_has (cells:=X.env.cells) (acc:= []) hy)
 have cells:∀{c:Addr} {v:Option Value},H c=none→s.heap.IsCell c v→h1.IsCell c v:=fun {c v} n ⟨o,ho,hv⟩=>by
  obtain ⟨sl,q⟩:=un.any ho n (by simp)
  exact ⟨_,kp _ _ q,hv⟩
 have noex:∀b:Addr,b∉(lcx X A outer s1 HZ E (xW ps fv) scope f c').ex:=fun b z=>nomatch (show b∈([]:List Addr) from z)
 have ok:(lcx X A outer s1 HZ E (xW ps fv) scope f c').Ok:=by
  refine ⟨e0.mod,P.kd,rfl,rfl,Nat.le_refl _,fun y z c a b=>I.ok.inj y z c (was a) (was b),fun y hy=> ?_,fun y c z _=>Bool.noConfusion (show false=true from z),fun _=>hd,Around.frames_deeper e0.frames,.inr ⟨rfl,rfl⟩,
   fun b z=>(noex b z).elim,e0.bs,e0.bsz,fun b _ _=>noex b,fun b z=>(noex b z).elim,e0.funs,e0.frf⟩
  rcases (show scope.names.lookup y=some .cell∨scope.names.lookup y=some .free from hy) with q | q
  ·exact (P.cl _ (PySem.mem_of_lookup q) rfl).elim
  ·exact take q
 refine ⟨ok,rfl,e0.bare,Un.kept kp,⟨_,hns,fun i y v a b z=> ?_⟩,fun y c e=> ?_,e0.hok.fresh (Nat.le_refl _),fun y c e=> ?_,fun q hq=>absurd (show q∈([]:List (Addr×Obj))++ [] from hq) (by simp),e0.hok.kept kp,?_⟩
 ·rcases lamG_cases b with ⟨hi,hv⟩ | ⟨j,q,ei,hq,hv⟩
  ·obtain ⟨u,hu,rv⟩:=r.get hv
   have hp:ps[i]? =some y:=by
    have a:(xW ps fv)[i]? =some y:=a
    unfold xW at a
    rw [List.getElem?_append_left (by omega)] at a
    exact a
   refine ⟨u,rv,.inl ⟨P.pr y (List.mem_of_getElem? hp),?_⟩⟩
   exact lookup_zip ndp (by rw [←r.length];exact hl) hp hu
  ·have hy:q.1=y:=by
    have a:(xW ps fv)[i]? =some y:=a
    unfold xW at a
    rw [ei,hl,List.getElem?_append_right (by omega),Nat.add_sub_cancel_left,List.getElem?_map,hq] at a
    exact Option.some.inj a
   obtain ⟨fo1,fo2⟩:=fo q (List.mem_of_getElem? hq)
   rw [hy] at fo1 fo2
   have inS:=PySem.mem_of_lookup fo2
   obtain ⟨m,_,hlook⟩:=I.loc
   have vis:Vis X.env.scope y:=(P.fr _ inS rfl).elim (fun k=> .inr (.inl k)) fun k=> .inr (.inr k)
   obtain ⟨u,rv,lk⟩:=hlook q.2 y v fo1 hv vis
   obtain ⟨c2,h2⟩:=take fo2
   refine ⟨u,rv,.inr ⟨.inr fo2,c2,h2,?_⟩⟩
   have c1:=was h2
   rcases lk with ⟨k,_⟩ | ⟨_,c3,e3,z3⟩
   ·have k:X.env.scope.names.lookup y=some .local:=k
    rcases P.fr _ inS rfl with k2 | k2 <;> (have k2:X.env.scope.names.lookup y=_:=k2;rw [k2] at k;cases k)
   ·rw [c1] at e3
    cases e3
    exact cells (I.freeC y _ c1) z3
 ·obtain ⟨v,z⟩:=I.cell y c (was e)
  exact ⟨v,cells (I.freeC y c (was e)) z⟩
 ·obtain ⟨v,o,ho,_⟩:=I.cell y c (was e)
  exact un.free c o ho (I.freeC y c (was e)) (by simp)
 ·show (xX vs fv σ).length=(xW ps fv).length
  rw [tZ]
  unfold xW
  rw [List.length_append,List.length_map,hl]
end
end DL
namespace DL
open PySem PySem.Spec PyProof.Rows L2
structure CanCall (P:Program) (w:World) (K:PySem.W.Frag) (mg:Str→Option Value) (base:Heap) (k:Nat) (fs:List Addr) (s0:Shared) (H0:Hp) (T:Lp→Fz→Hp→Prop) (f:Addr) (G:SpA):Prop where
 at_:∀(s:Shared) (H:Hp),Un fs [] H0 H s0.heap s.heap→PySem.W.FnAt f s.heap
 run:∀(A:Around) (outer:List Env) (s:Shared) (L:Lp) (Z:Fz) (H:Hp) (us:List Value) (vs:List V) (ds:List D) (Q:D→Lp→Prop) (R:Value→List (Str×D)→Lp→Prop) (QV:VK) (EV:XK),
  Room k A→Env0 P w K mg base A outer s H→Un fs [] H0 H s0.heap s.heap→T L Z H→Vals vs us→bG K Z H vs ds→Con P w K L Z H→G ds L Q R→
  (∀{Z'} d L',Q d L'→∀v H',Rep K Z' H' v d→Con P w K L' Z' H'→Fr L Z H L' Z' H'→QV v H')→(∀{Z'} cls fs L',R cls fs L'→∀d H',yJ K Z' H' d fs→Con P w K L' Z' H'→Fr L Z H L' Z' H'→EV cls (some d) H')→
  codeAny (model P w) A (.call (.ref f) ⟨us,[]⟩) (CR (L2.CX P w) outer P w H s QV EV) s
theorem CanCall.imp {P:Program} {w:World} {K:PySem.W.Frag} {mg:Str→Option Value} {base:Heap} {k:Nat} {fs:List Addr} {s0:Shared} {H0:Hp} {T:Lp→Fz→Hp→Prop} {f:Addr} {G G':SpA} (c:CanCall P w K mg base k fs s0 H0 T f G) (h:∀ds L Q R,G' ds L Q R→G ds L Q R):CanCall P w K mg base k fs s0 H0 T f G':=
 ⟨c.at_,fun A outer s L Z H us vs ds Q R QV EV hr e un t r rd con g=>c.run A outer s L Z H us vs ds Q R QV EV hr e un t r rd con (h _ _ _ _ g)⟩
abbrev vJ (C:Ctx) (k:Nat) (f:Addr) (G:SpA):Prop:=CanCall C.X.prog C.X.w C.X.K C.X.mg C.X.base k (frs C.X.outer) C.X.s_0 C.X.H_0 C.T f G
def lctx (C:Ctx) (A:Around) (outer:List Env) (s:Shared) (H:Hp) (E:XK) (N:List Str) (nd:N.Nodup) (scope:Scope) (f c':Addr) (R:Value→List (Str×D)→Lp→Prop):Ctx where
 X:=lcx C.X A outer s H E N scope f c'
 W:=fun cls d _ H=>E cls d H
 R:=fun _=>R
 tk:=takes_of rfl rfl rfl rfl
 po:=passes_of rfl
 calm:=rfl
 nd:=nd
structure LamD (C:Ctx) (pa:Arguments) (bd:Expr) (sc:Scope) (k:Nat) (Γ:Gm) (G:SpA):Prop where
 ex:∃(ps:List Str) (fv:List (Str×Nat)) (nd:(xW ps fv).Nodup),LamP C.X.env.scope sc ps∧FvOk C.X.N sc fv∧
  (∀(q:Str) (cl:List (Str×Addr)) (pm cv ctv:Value) (us:List Value),us.length=ps.length→bindArgs (PySem.W.kla_fn "<lambda>" q pa bd sc cl pm cv ctv) ⟨us,[]⟩=pure (ps.zip us))∧
  (∀ds L Q R,G ds L Q R→ds.length=ps.length)∧
  ∀A outer s H E f c' ds L Q R,Room k (A.deeper (LamX.lamEnv C.X sc s.heap.objs.size f c'))→G ds L Q R→AE (lctx C A outer s H E (xW ps fv) nd sc f c' R) bd (xX ds fv Γ) L fun d L'=> ∃L2,Le L2 L'∧Q d L2
def aAJ (X:Cx) (pa:Arguments) (bd:Expr) (sc:Scope) (c':Addr) (o:Obj):Prop:= ∃pm ctv,o=PySem.W.kla_obj "<lambda>" (X.env.qual++ "<lambda>") pa bd sc (cloFrom X.env.cells sc.names []) pm c' ctv
theorem sl_lam {K:PySem.W.Frag} {F:Fz} {H:Hp} {σ:L2.St} {Γ:Gm} {vs:List V} {ds:List D} {fv:List (Str×Nat)} (x:Sl K F H σ Γ) (r:bG K F H vs ds):Sl K F H (xX vs fv σ) (xX ds fv Γ):=by
 refine ⟨by rw [tZ,tZ,r.length],fun i d e=> ?_⟩
 have hl:=r.length
 rcases lamG_cases e with ⟨hi,hd⟩ | ⟨j,q,ei,hq,hd⟩
 ·obtain ⟨v,h1,h2⟩:=r.get hd
  refine ⟨v,?_,h2⟩
  unfold xX
  rw [List.getElem?_append_left (by rw [List.length_map];omega),List.getElem?_map,h1]
  rfl
 ·obtain ⟨v,h1,h2⟩:=x.get _ d hd
  refine ⟨v,?_,h2⟩
  unfold xX
  rw [List.getElem?_append_right (by rw [List.length_map];omega),List.length_map,ei,hl,Nat.add_sub_cancel_left,List.getElem?_map,hq]
  show some ((σ[q.2]?).join)=_
  rw [h1]
  rfl
section
variable {C:Ctx} {Γ:Gm} {L:Lp} {pins:List (Addr×Obj)} {σ:L2.St} {F:Fz} {H:Hp} {s:Shared}
theorem can_lam {pa:Arguments} {bd:Expr} {sc:Scope} {k:Nat} {f c':Addr} {o:Obj} {G:SpA} (I:Inv C.X pins σ H s) (ok:Ok C Γ L F σ H) (hf:s.heap.get? f=some o) (hn:H f=none) (hfr:f∉frs C.X.stack) (clo:aAJ C.X pa bd sc c' o) (hc:F c') (hcc:H c'=some (LamX.CodeO c' (C.X.env.qual++ "<lambda>"))) (lam:LamD C pa bd sc k Γ G):
  CanCall C.X.prog C.X.w C.X.K C.X.mg C.X.base (k+1) (frs C.X.stack) s H (fun L' F' H'=>Fr L F H L' F' H') f G:=by
 obtain ⟨pm,ctv,eo⟩:=clo
 subst eo
 have there:∀{s1:Shared} {H1:Hp},Un (frs C.X.stack) [] H H1 s.heap s1.heap→s1.heap.get? f=_:=fun un=>un.keep f _ hf hn hfr (by simp)
 refine ⟨fun s1 H1 un=>⟨_,_,_,_,there un⟩,fun A outer s1 L1 Z1 H1 us vs ds Q R QV EV hr e0 un fr r rd con g gq ge=> ?_⟩
 obtain ⟨ps,fv,nd,P,fo,hb,hlen,body⟩:=lam.ex
 have hl:vs.length=ps.length:=rd.length.trans (hlen _ _ _ _ g)
 have hul:us.length=ps.length:=by rw [←r.length];exact hl
 obtain ⟨⟨oc,cs,t,ho,hd,hv⟩,_,_⟩:=e0.hok c' _ (fr.fk c' _ hc hcc)
 refine PySem.W.kla_callFunE hr.depth (there un) rfl P.nc P.ng rfl ⟨c',oc,cs,t,rfl,ho,hd,hv⟩ ?_
 have lim:s1.heap.NoLimit:=e0.mod.nolimit.keeps fun b u q=>(e0.bs b u q).1
 show wpAny _ _ (bindArgs (PySem.W.kla_fn "<lambda>" _ pa bd sc _ pm (.ref c') ctv) ⟨us,[]⟩) _ _ _
 rw [hb _ _ _ _ _ us hul]
 refine wpAny_pure (wpAny_newFunctionEnv (fun y hy=>P.cl y hy) (fun y hy=>P.pr y.1 (List.of_mem_zip (a:=y.1) (b:=y.2) hy).1) (fun h1 hns hsb=>⟨lim.fresh _ hsb,?_⟩) P.kd)
 show codeAny _ _ (.expr bd (LamX.lamEnv C.X sc s1.heap.objs.size f c')) _ _
 have kp:∀b u,s1.heap.get? b=some u→h1.get? b=some u:=fun b u q=>hsb.extBut b u (Nat.ne_of_lt (Heap.lt_size q)) (Heap.get?_push_of_some _ q)
 have J:=inv_lam (E:=EV) (f:=f) (c':=c') (tk:=s1.toks+(ps.zip us).length) I P fo nd e0 hr.hd un hl r hns kp
 have okL:Ok (lctx C A outer s1 H1 EV (xW ps fv) nd sc f c' R) (xX ds fv Γ) L1 Z1 (xX vs fv σ) H1:=⟨sl_lam (ok.sl.mono fr.mv) rd,con,⟨fun cls d σ' H' Γ' L' fs _ c2 f2 xd q=>ge cls fs L' q d H' xd c2 f2,True.intro⟩⟩
 have W:=body A outer s1 H1 EV f c' ds L1 Q R (hr.deeper _) g Z1 _ H1 okL QV fun v d H' L' rv c2 f2 ⟨L2,le,q⟩=>gq d L2 q v H' rv (c2.le le) (f2.leR le)
 refine PySem.W.kla_codeExpr (wpAny_mono (W.run [] _ J) (fun v s2 hq=> ?_) fun _ _ z=>z)
 obtain ⟨w2,H2,J2,rv,q⟩:=hq
 exact ⟨w2,H2,J2.os,J2.bare,J2.base,J2.hok,rv,q⟩
end
end DL
namespace DL
open PySem PySem.Spec PyProof.Rows L2
abbrev Tbl (F:Fz) (H:Hp) (q:Str) (ps:Array Value):Prop:=TriplesOk ps.toList∧∀(pos:Pos) (cv:Value),codeAmong pos ps.toList=some cv→∃c,cv= .ref c∧F c∧H c=some (LamX.CodeO c q)
def grown (H:Hp) (P:Addr) (ps:Array Value) (c:Addr) (q:Str):Hp:=upd (upd H P (.tbl ps)) c (LamX.CodeO c q)
section
variable {P:Program} {w:World} {K:PySem.W.Frag} {L:Lp} {F:Fz} {H:Hp} {p c:Addr} {q:Str} {ps more:Array Value}
theorem lW {b:Addr} (h1:b≠p) (h2:b≠c):grown H p ps c q b=H b:=by
 unfold grown
 rw [upd_ne h2,upd_ne h1]
theorem grown_p (h:p≠c):grown H p ps c q p=some (.tbl ps):=by
 unfold grown
 rw [upd_ne h,upd_same]
theorem fr_grown (con:Con P w K L F H) (hp:L p=some (.tab q)) (hH:H p=some (.tbl ps)) (hc:H c=none):Fr L F H L (fun b=>F b∨b=c) (grown H p more c q):=by
 have np:p≠c:=ne_of_none hH hc
 have kp:∀b o,H b=some o→(∀ts,o≠ .tbl ts)→grown H p more c q b=some o:=fun b o e n=>by
  rw [lW (fun z=> ?_) (ne_of_none e hc)]
  ·exact e
  ·rw [z,hH] at e
   exact n ps (Option.some.inj e).symm
 refine ⟨fun a o e _ n=> ?_,fun a n=> ?_,⟨fun a vs e=>kp a _ e fun _ z=>(nomatch z),fun a o xs e=>kp a _ e fun _ z=>(nomatch z),fun a e=>kp a _ e fun _ z=>(nomatch z)⟩,fun a n=> .inl n,fun a z=> .inl z,fun a o z e=> ?_,fun a z=>z.elim .inl fun z=> .inr (.inr (by rw [z];exact hc))⟩
 ·have hap:a≠p:=fun z=>by
   rw [z,hp] at n
   cases n
  rw [lW hap (ne_of_none e hc)]
  exact e
 ·unfold grown
  exact dY (dY n)
 ·have hap:a≠p:=fun z2=>by
   rw [z2] at z
   exact con.nw hp z
  rw [lW hap (ne_of_none e hc)]
  exact e
theorem con_grown (con:Con P w K L F H) (hp:L p=some (.tab q)) (hH:H p=some (.tbl ps)) (hc:H c=none) (ht:Tbl (fun b=>F b∨b=c) (grown H p more c q) q more):Con P w K L (fun b=>F b∨b=c) (grown H p more c q):=by
 have np:p≠c:=ne_of_none hH hc
 have fr:=fr_grown (more:=more) con hp hH hc
 refine ⟨fun a mo e=> ?_,fun a z=> ?_⟩
 ·by_cases ea:a=p
  ·rw [ea,hp] at e
   cases e
   rw [ea]
   exact ⟨more,grown_p np,ht⟩
  ·obtain ⟨u,hu,_⟩:=(con.at_ a mo e).some
   exact (con.at_ a mo e).mono fr.mv (lW ea (ne_of_none hu hc))
 ·rcases z with z | z
  ·obtain ⟨n,o,e,r⟩:=con.fz a z
   exact ⟨n,o,fr.fk a o z e,r⟩
  ·rw [z]
   exact ⟨con.free hc,_,upd_same,fun _ y=>(nomatch (show HO.ext _=HO.own _ from y)),fun y=>(nomatch (show HO.ext _=HO.xd _ from y))⟩
theorem tbl_more {pos:Pos} (hH:H p=some (.tbl ps)) (hc:H c=none) (h:Tbl F H q ps):Tbl (fun b=>F b∨b=c) (grown H p (ps++ #[rawInt pos.line,rawInt pos.col,.ref c]) c q) q (ps++ #[rawInt pos.line,rawInt pos.col,.ref c]):=by
 have e:(ps++ #[rawInt pos.line,rawInt pos.col,Value.ref c]).toList=ps.toList++ [rawInt pos.line,rawInt pos.col,.ref c]:=by simp
 unfold Tbl
 rw [e]
 refine ⟨PySem.TriplesOk_snoc _ _ _ _ h.1,fun p2 cv z=> ?_⟩
 rcases LamX.among_app _ h.1 z with z | z
 ·obtain ⟨d,e1,e2,e3⟩:=h.2 p2 cv z
  refine ⟨d,e1,.inl e2,?_⟩
  rw [lW (fun y=> ?_) (ne_of_none e3 hc)]
  ·exact e3
  ·rw [y,hH] at e3
   exact nomatch (show HO.tbl _=HO.ext _ from Option.some.inj e3)
 ·exact ⟨c,z,.inr rfl,upd_same⟩
end
def Maker (X:Cx) (P:Addr):Prop:= ∃c,X.env.code= .ref c∧LamX.TabB X.base X.mg c P
section
variable {C:Ctx} {Γ:Gm} {L:Lp} {pins:List (Addr×Obj)} {σ:L2.St} {F:Fz} {H:Hp} {s:Shared}
theorem made_lam {P:Addr} {pa:Arguments} {bd:Expr} {sc:Scope} {pos:Pos} {E:Value→Shared→Prop} {Q:Value→Shared→Prop} (I:Inv C.X pins σ H s) (con:C.Con L F H) (mk:Maker C.X P) (hP:L P=some (.tab (C.X.env.qual++ "<lambda>"))) (hdef:defaultsOf pa C.X.env=([],[])) (hcl:∀y∈sc.names,y.2= .free→∃c,C.X.env.cells.lookup y.1=some c)
  (h:∀(F':Fz) (f c':Addr) (o:Obj) (H1:Hp) (s':Shared),Inv C.X ((f,o)::pins) σ H1 s'→C.Con L F' H1→Fr L F H L F' H1→aAJ C.X pa bd sc c' o→F' c'→H1 c'=some (LamX.CodeO c' (C.X.env.qual++ "<lambda>"))→Q (.ref f) s'):
  wpAny (model C.X.prog C.X.w) C.X.A (eval (.Lambda pa bd sc pos) C.X.env) Q E s:=by
 obtain ⟨cm,hcode,TB⟩:=mk
 obtain ⟨ps,hH,ht⟩:=con.at_ P _ hP
 have heapP:s.heap.get? P=some {cls:= .none,data:= .fields ps}:=I.hok P _ hH
 have bP:s.heap.BuiltinsAt C.X.mg P:=TB.bm.keeps I.bk
 have gl:=I.mod.glob.keeps I.bk
 have pinned:∀{H1:Hp} {s1:Shared} {f:Addr} {o:Obj},Inv C.X pins σ H1 s1→s1.heap.get? f=some o→H1 f=none→s.heap.objs.size≤f→(∀v,o.data≠ .cell v)→Inv C.X ((f,o)::pins) σ H1 s1:=fun {H1 s1 f o} J e n ge nc=>J.pins_of fun p hp=>by
  rcases List.mem_cons.mp hp with rfl | hp
  ·exact ⟨e,n,fun z=>Nat.lt_irrefl _ (Nat.lt_of_lt_of_le I.lt (by rw [←z];exact ge)),I.nofs ge,nc⟩
  ·exact J.pin p (List.mem_append_right _ hp)
 refine PySem.W.kla_eval hdef ?_
 cases hit:codeAmong pos ps.toList with
 | some cv=>
  obtain ⟨c',e,fc,hc⟩:=ht.2 pos cv hit
  subst e
  refine PySem.W.kla_makeFunctionHit (mg:=C.X.mg) (c:=cm) (P:=P) (ps:=ps) (closure_ok hcl) I.ok.glob gl hcode (TB.code.keeps I.bk) heapP ht.1 hit bP fun ctv h' tk up sz=> ?_
  have J:Inv C.X pins σ H {s with heap:=h'.push (PySem.W.kla_obj "<lambda>" (C.X.env.qual++ "<lambda>") pa bd sc (cloFrom C.X.env.cells sc.names []) ((C.X.mg "__name__").getD .none) c' ctv),toks:=tk}:=I.kept fun b o q=>Heap.get?_push_of_some _ (up b o q)
  exact h F h'.objs.size c' _ H _ (pinned J (Heap.get?_push_size _ rfl) (I.hok.fresh sz) sz fun _ z=>nomatch z) con (.refl L H) ⟨_,_,rfl⟩ fc hc
 | none=>
  refine PySem.W.kla_makeFunction (mg:=C.X.mg) (c:=cm) (P:=P) (ps:=ps) (closure_ok hcl) I.ok.glob gl hcode (TB.code.keeps I.bk) heapP ht.1 hit TB.gP bP fun c' ctv h' tk ext ge lt rec tb=> ?_
  obtain ⟨c2,oc,vs,t,ec,ho,hd,hv⟩:=rec
  cases ec
  have sz:s.heap.objs.size≤h'.objs.size:=Nat.le_trans ge (Nat.le_of_lt lt)
  have nC:H c'=none:=I.hok.fresh ge
  have J:Inv C.X pins σ (grown H P (ps++ #[rawInt pos.line,rawInt pos.col,.ref c']) c' (C.X.env.qual++ "<lambda>")) {s with heap:=h'.push (PySem.W.kla_obj "<lambda>" (C.X.env.qual++ "<lambda>") pa bd sc (cloFrom C.X.env.cells sc.names []) ((C.X.mg "__name__").getD .none) c' ctv),toks:=tk}:=
   LamX.inv_table (t':=tk) (more:= #[rawInt pos.line,rawInt pos.col,.ref c']) I hH (fun b o n e=>Heap.get?_push_of_some _ (ext b o n e)) (Heap.get?_push_of_some _ tb) ge ⟨oc,vs,t,Heap.get?_push_of_some _ ho,hd,hv⟩
  have nf:grown H P (ps++ #[rawInt pos.line,rawInt pos.col,.ref c']) c' (C.X.env.qual++ "<lambda>") h'.objs.size=none:=by
   rw [lW (Nat.ne_of_gt (Nat.lt_of_lt_of_le (Heap.lt_size heapP) sz)) (Nat.ne_of_gt lt)]
   exact I.hok.fresh sz
  exact h (fun b=>F b∨b=c') h'.objs.size c' _ _ _ (pinned J (Heap.get?_push_size _ rfl) nf sz fun _ z=>nomatch z) (con_grown con hP hH nC (tbl_more hH nC ht)) (fr_grown con hP hH nC) ⟨_,_,rfl⟩ (.inr rfl) upd_same
end
end DL
namespace DL
open PySem PySem.Spec PyProof.Rows L2
def FnC (P:Program) (w:World) (K:PySem.W.Frag) (mg:Str→Option Value) (base:Heap) (k kc:Nat) (g:Addr) (spF:Addr→SpA→SpA):Prop:=
 ∀(A:Around) (outer:List Env) (s:Shared) (L:Lp) (Z:Fz) (H:Hp) (us:List Value) (vs:List V) (ds:List D) (f:Addr) (G:SpA) (Q:D→Lp→Prop) (R:Value→List (Str×D)→Lp→Prop) (QV:VK) (EV:XK),
  Room k A→Env0 P w K mg base A outer s H→Vals vs us→bG K Z H vs ds→Con P w K L Z H→CanCall P w K mg base kc (frs outer) s H (fun L' Z' H'=>Fr L Z H L' Z' H') f G→spF f G ds L Q R→
  (∀{Z'} d L',Q d L'→∀v H',Rep K Z' H' v d→Con P w K L' Z' H'→Fr L Z H L' Z' H'→QV v H')→(∀{Z'} cls fs L',R cls fs L'→∀d H',yJ K Z' H' d fs→Con P w K L' Z' H'→Fr L Z H L' Z' H'→EV cls (some d) H')→
  codeAny (model P w) A (.call (.ref g) ⟨us,[]⟩) (CR (L2.CX P w) outer P w H s QV EV) s
theorem FnC.mono {P:Program} {w:World} {K:PySem.W.Frag} {mg:Str→Option Value} {base:Heap} {j k kc:Nat} {g:Addr} {spF:Addr→SpA→SpA} (F:FnC P w K mg base j kc g spF) (h:j≤k):FnC P w K mg base k kc g spF:=
 fun A outer s L Z H us vs ds f G Q R QV EV hr=>F A outer s L Z H us vs ds f G Q R QV EV (hr.mono h)
structure DefC (P:Program) (w:World) (K:PySem.W.Frag) (mg:Str→Option Value) (base:Heap) (x:Str) (k kc:Nat) (spF:Addr→SpA→SpA):Prop where
 ex:∃g,mg x=some (.ref g)∧PySem.W.keepIn K (.ref g)=true∧FnC P w K mg base k kc g spF
theorem DefC.mono {P:Program} {w:World} {K:PySem.W.Frag} {mg:Str→Option Value} {base:Heap} {x:Str} {j k kc:Nat} {spF:Addr→SpA→SpA} (F:DefC P w K mg base x j kc spF) (h:j≤k):DefC P w K mg base x k kc spF:=by
 obtain ⟨g,h1,h2,h3⟩:=F.ex
 exact ⟨g,h1,h2,h3.mono h⟩
def fctxT (P:Program) (w:World) (K:PySem.W.Frag) (mg:Str→Option Value) (base:Heap) (N:List Str) (qual:Str) (scope:Scope) (f:Addr) (cdv:Value) (A:Around) (outer:List Env) (s:Shared) (H:Hp) (E:XK) (nd:N.Nodup) (R:Value→List (Str×D)→Lp→Prop) (L0:Lp) (Z0:Fz):Ctx where
 X:=cxOf (L2.CX P w) P w K mg base N qual scope f cdv A outer s H E
 W:=fun cls d _ H=>E cls d H
 R:=fun _=>R
 tk:=takes_of rfl rfl rfl rfl
 po:=passes_of rfl
 calm:=rfl
 nd:=nd
 T:=fun L Z H'=>Fr L0 Z0 H L Z H'
 tfr:=fun a b=>a.trans b
 tle:=fun a b=>a.leR b
theorem fnC {P:Program} {w:World} {K:PySem.W.Frag} {mg:Str→Option Value} {base:Heap} {x qual:Str} {st:Stmt} {g:Addr} {fd:FuncData} {N ps:List Str} {k kc:Nat} {spF:Addr→SpA→SpA} (F:FunX K x qual st g fd) (S:FnScope N ps (defScope st)) (hb:Binds K fd ps [])
  (len:∀f G ds L Q R,spF f G ds L Q R→ds.length=ps.length)
  (hbody:∀(cdv:Value) (A:Around) (outer:List Env) (s:Shared) (H:Hp) (E:XK) (ds:List D) (L:Lp) (Z:Fz) (f:Addr) (G:SpA) (Q:D→Lp→Prop) (R:Value→List (Str×D)→Lp→Prop),Room k (A.deeper (envOfC qual (defScope st) s.heap.objs.size g cdv))→spF f G ds L Q R→
   vJ (fctxT P w K mg base N qual (defScope st) g cdv A outer s H E S.nd R L Z) kc f G→ASs (fctxT P w K mg base N qual (defScope st) g cdv A outer s H E S.nd R L Z) (defBody st) (qO N ds) L (sG Q)):FnC P w K mg base (k+1) kc g spF:=by
 intro A outer s L Z H us vs ds f G Q R QV EV hr e0 rv r c cc h gq ge
 obtain ⟨oc,od,dV,kV,doc,pm,an,cdv,ct,osl,rfl,lk,hcd⟩:=F.ex
 have hl:vs.length=ps.length:=r.length.trans (len _ _ _ _ _ _ h)
 have hul:us.length=ps.length:=by rw [←rv.length];exact hl
 have KX:K.In s.heap:=e0.mod.kin.keeps fun b o e=>(e0.bs b o e).1
 have hbt:=hb s us KX (by rw [List.append_nil];exact hul)
 rw [List.append_nil] at hbt
 refine LamX.run_ofS (N:=N) lk hcd S hr e0 hbt rv hl fun hr'=> ?_
 refine ⟨_,mF,hbody cdv A outer s H EV ds L Z f G Q R hr' h cc Z (L2.start N vs) H ⟨nQ r,c,⟨fun cls d σ' H' Γ' L' fs _ c' f' xd q=>ge cls fs L' q d H' xd c' f',.refl L H⟩⟩ _ ⟨?_,?_,?_,?_⟩⟩
 ·rintro Z' σ' H' Γ' L' ok' f' ⟨L2,le,q⟩
  exact gq .non L2 q .non H' .non (ok'.con.le le) (f'.leR le)
 ·rintro Z' v d H' L' rv c' f' ⟨L2,le,q⟩
  exact gq d L2 q v H' rv (c'.le le) (f'.leR le)
 ·rintro _ _ _ _ _ _ _ z
  exact z.elim
 ·rintro _ _ _ _ _ _ _ z
  exact z.elim
section
variable {C:Ctx} {Γ:Gm} {L:Lp} {e:Expr} {es:List Expr} {pos p:Pos} {Q:D→Lp→Prop} {x:Str} {k kc:Nat} {f:Addr} {G:SpA}
theorem vJ.later {pins:List (Addr×Obj)} {σ:L2.St} {Z:Fz} {H:Hp} {s:Shared} (c:vJ C kc f G) (hx:C.X.ex= []) (I:Inv C.X pins σ H s) (ok:Ok C Γ L Z σ H):CanCall C.X.prog C.X.w C.X.K C.X.mg C.X.base kc (frs C.X.stack) s H (fun L' Z' H'=>Fr L Z H L' Z' H') f G:=by
 have far:∀{s':Shared} {H':Hp},Un (frs C.X.stack) [] H H' s.heap s'.heap→HOk C.X.prog C.X.w H' s'.heap→Un (frs C.X.outer) [] C.X.H_0 H' C.X.s_0.heap s'.heap:=fun {s' H'} un hok=>by
  have J:=I.call (h':=s'.heap) (g':=s.gens) (d':=s.drawn) (t':=s.toks) (ch:= []) un hok I.bare fun b z=>absurd z (by simp)
  have b:=J.base
  rw [hx] at b
  exact b
 have near:∀{s':Shared} {H':Hp},Un (frs C.X.stack) [] H H' s.heap s'.heap→Un (frs C.X.outer) [] C.X.H_0 H' C.X.s_0.heap s'.heap:=fun {s' H'} un=>by
  have b:=I.base
  rw [hx] at b
  have old:∀a o,C.X.s_0.heap.get? a=some o→a∈frs C.X.stack→a∈frs C.X.outer:=fun a o e hm=>by
   rcases List.mem_cons.mp (I.stkSub a hm) with z | z
   ·exact absurd (Nat.lt_of_lt_of_le (Heap.lt_size e) (by rw [z];exact I.ok.above)) (Nat.lt_irrefl _)
   ·exact z
  refine ⟨fun a o h1 h2 h3 h4=>un.keep a o (b.keep a o h1 h2 h3 h4) (b.free a o h1 h2 h4) (fun z=>h3 (old a o h1 z)) h4,fun a o h1 h2 h3 h4=> ?_,fun a o h1 h2 h4=> ?_,fun a o h1 h4=> ?_,fun a xs h=>un.tups a xs (b.tups a xs h),fun a o u h=>un.frzs a o u (b.frzs a o u h),fun a ps h=> ?_⟩
  ·obtain ⟨sl,e⟩:=b.slot a o h1 h2 h3 h4
   obtain ⟨sl2,e2⟩:=un.any e (b.free a o h1 h2 h4) h4
   exact ⟨sl2,e2⟩
  ·obtain ⟨o2,e2⟩:=b.there a o h1 h4
   exact un.free a o2 e2 (b.free a o h1 h2 h4) h4
  ·obtain ⟨o2,e2⟩:=b.there a o h1 h4
   exact un.there a o2 e2 h4
  ·obtain ⟨m1,e1⟩:=b.tbls a ps h
   obtain ⟨m2,e2⟩:=un.tbls a _ e1
   exact ⟨m1++m2,by rw [e2,Array.append_assoc]⟩
 exact ⟨fun s' H' un=>c.at_ s' H' (near un),fun A outer s' L' Z' H' us vs ds Q R QV EV hr e0 un fr r rd con g gq ge=>c.run A outer s' L' Z' H' us vs ds Q R QV EV hr e0 (near un) (C.tfr ok.lr.tk fr) r rd con g gq ge⟩
theorem run_can {pins:List (Addr×Obj)} {σ:L2.St} {Z:Fz} {H:Hp} {s:Shared} {us:List Value} {vs:List V} {ds:List D} {QV:VK} (c:vJ C kc f G) (hx:C.X.ex= []) (hr:Room kc C.X.A) (I:Inv C.X pins σ H s) (ok:Ok C Γ L Z σ H) (r:Vals vs us) (rd:bG C.X.K Z H vs ds)
  (h:G ds L Q (C.R Γ)) (go:Go C L Z H Q QV):codeAny (model C.X.prog C.X.w) C.X.A (.call (.ref f) ⟨us,[]⟩) (fun r s'=>match r with | .ok (.ret v)=>EP C.X pins σ QV v s' | .ok _=>False | .error e=>C.X.xe e s') s:=by
 have c2:=vJ.later c hx I ok
 refine codeAny_mono (c2.run C.X.A C.X.stack s L Z H us vs ds Q (C.R Γ) QV (L2.WE C.W σ) hr I.env0 .refl (.refl L H) r rd ok.con h (fun d L' q v H' rv c f=>go v d H' L' rv c f q) fun cls fs L' q d H' xd c f=>ok.lr.of cls d σ H' Γ L' fs (ok.sl.mono f.mv) c f xd q) fun r s' hq=> ?_
 cases r with
 | error e=>exact passAt C.tk σ pins H s e s' I hq
 | ok fl=>
  cases fl with
  | ret u=>exact I.after hq
  | next=>exact False.elim hq
  | brk=>exact False.elim hq
  | cont=>exact False.elim hq
theorem ae_callF0 (i:Nat) (c:vJ C kc f G) (hr:Room kc C.X.A) (hg:Γ[i]? =some (some (.ptr f))) (h:G [] L Q (C.R Γ)) (hx:C.X.ex= []:=by rfl) (hN:C.X.N[i]? =some x:=by rfl) (hv:Vis C.X.env.scope x:=by first | exact Or.inl rfl | exact Or.inr (Or.inl rfl) | exact Or.inr (Or.inr rfl))
  (hd:(x==("__debug__" :Str))=false:=by decide) (hcd:(x==("__classdict__" :Str))=false:=by decide):AE C (.Call (.Name x p) [] [] pos) Γ L Q:=fun Z σ H ok QV go=>by
 refine ⟨fun pins s I=> ?_⟩
 obtain ⟨v,ev,rv⟩:=ok.sl.get i _ hg
 have e2:=rv.ptrE
 subst e2
 refine wpAny_Call_Name_kw (thn ((pe_var (pos:=p) (i:=i) hN hv hd hcd).run pins s σ H (fun v H1=>v= .ref f∧H1=H) I ⟨.ref f,ev,rfl,rfl⟩) fun u s1 ⟨v,H1,I1,r1,q1⟩=> ?_)
 obtain ⟨q1,q2⟩:=q1
 subst q1
 rw [q2] at I1
 obtain rfl:u=Value.ref f:=r1
 refine PySem.W.callWith_F0 (first:= []) (c.at_ s1 H (by have b:=I1.base;rw [hx] at b;exact b)) ?_
 exact wpAny_call (run_can c hx hr I1 ok .nil .nil h go)
theorem run_fnC {g:Addr} {spF:Addr→SpA→SpA} {pins:List (Addr×Obj)} {σ:L2.St} {Z:Fz} {H:Hp} {s:Shared} {us:List Value} {vs:List V} {ds:List D} {QV:VK} (F:FnC C.X.prog C.X.w C.X.K C.X.mg C.X.base k kc g spF) (hr:Room k C.X.A) (I:Inv C.X pins σ H s) (ok:Ok C Γ L Z σ H) (r:Vals vs us) (rd:bG C.X.K Z H vs ds)
  (cc:CanCall C.X.prog C.X.w C.X.K C.X.mg C.X.base kc (frs C.X.stack) s H (fun L' Z' H'=>Fr L Z H L' Z' H') f G) (h:spF f G ds L Q (C.R Γ)) (go:Go C L Z H Q QV):codeAny (model C.X.prog C.X.w) C.X.A (.call (.ref g) ⟨us,[]⟩) (fun r s'=>match r with | .ok (.ret v)=>EP C.X pins σ QV v s' | .ok _=>False | .error e=>C.X.xe e s') s:=by
 refine codeAny_mono (F C.X.A C.X.stack s L Z H us vs ds f G Q (C.R Γ) QV (L2.WE C.W σ) hr I.env0 r rd ok.con cc h (fun d L' q v H' rv c f=>go v d H' L' rv c f q) fun cls fs L' q d H' xd c f=>ok.lr.of cls d σ H' Γ L' fs (ok.sl.mono f.mv) c f xd q) fun r s' hq=> ?_
 cases r with
 | error e=>exact passAt C.tk σ pins H s e s' I hq
 | ok fl=>
  cases fl with
  | ret u=>exact I.after hq
  | next=>exact False.elim hq
  | brk=>exact False.elim hq
  | cont=>exact False.elim hq
theorem ae_callC {spF:Addr→SpA→SpA} (c:vJ C kc f G) (F:DefC C.X.prog C.X.w C.X.K C.X.mg C.X.base x k kc spF) (hr:Room k C.X.A) (h:AA C (e::es) Γ L fun ds L1=>spF f G ds L1 Q (C.R Γ)) (hx:C.X.ex= []:=by rfl) (hg:Gl C.X x:=by rfl) (hdb:(x==("__debug__" :Str))=false:=by decide)
  (he:starEach (e::es) C.X.env=(false,eval e C.X.env)::starEach es C.X.env:=by rfl) (hpl:(backTo pos (starEach es C.X.env)).any (·.1)=false:=by rfl):AE C (.Call (.Name x p) (e::es) [] pos) Γ L Q:=fun Z σ H ok QV go=>by
 refine ⟨fun pins s I=> ?_⟩
 obtain ⟨g,hm,hk,G1⟩:=F.ex
 refine wpAny_Call_Name_kw (ld_glob I hg hm ?_ hdb)
 refine PySem.W.callWith_K (h₀:=C.X.base) I.ok.mod.kin hk (thn ((h _ σ H ok (fun vs H1=> ∃ds L1 Z1,bG C.X.K Z1 H1 vs ds∧C.Con L1 Z1 H1∧Fr L Z H L1 Z1 H1∧spF f G ds L1 Q (C.R Γ)) (fun vs ds H1 L1 r c f q=>⟨ds,L1,_,r,c,f,q⟩)).run pos pins s I) fun us s1 ⟨vs,H1,I1,r,ds,L1,Z1,rd,c1,f1,q⟩=>⟨I1.kIn,?_⟩) he hpl
 exact wpAny_call (run_fnC G1 hr I1 (ok.step c1 f1) r rd (vJ.later c hx I1 (ok.step c1 f1)) q (go.after f1))
def AX (C:Ctx) (pa:Arguments) (bd:Expr) (sc:Scope) (es:List Expr) (Γ:Gm) (L:Lp) (Q:Addr→List D→Lp→Prop):Prop:= ∀F σ H,Ok C Γ L F σ H→∀(QV:List Value→Shared→Prop) (pos:Pos) (pins:List (Addr×Obj)) (s:Shared),Inv C.X pins σ H s→
 (∀{F'} f c' o us vs ds H' L' s',Inv C.X ((f,o)::pins) σ H' s'→aAJ C.X pa bd sc c' o→F' c'→H' c'=some (LamX.CodeO c' (C.X.env.qual++ "<lambda>"))→Vals vs us→bG C.X.K F' H' vs ds→C.Con L' F' H'→Fr L F H L' F' H'→Q f ds L'→QV us s')→
 wpAny (model C.X.prog C.X.w) C.X.A (spliced (backTo pos (starEach es C.X.env))) QV C.X.xe s
theorem vH {P:Addr} {pa:Arguments} {bd:Expr} {sc:Scope} {lpos:Pos} {Q:Addr→List D→Lp→Prop} (mk:Maker C.X P) (hP:L P=some (.tab (C.X.env.qual++ "<lambda>"))) (h:∀f,L f=none→AA C es Γ L fun ds L1=>Q f (.ptr f::ds) L1) (hdef:defaultsOf pa C.X.env=([],[]):=by rfl) (hcl:aAz C.X.env.scope sc []=true:=by rfl)
  (hs:starEach (.Lambda pa bd sc lpos::es) C.X.env=(false,eval (.Lambda pa bd sc lpos) C.X.env)::starEach es C.X.env:=by rfl):AX C pa bd sc (.Lambda pa bd sc lpos::es) Γ L Q:=fun F σ H ok QV pos pins s I go=>by
 rw [hs]
 show wpAny _ _ (spliced ((false,eval (.Lambda pa bd sc lpos) C.X.env)::backTo pos (starEach es C.X.env))) _ _ s
 refine Calls.spliced_cons (made_lam I ok.con mk hP hdef (fun y hy e=> ?_) fun F1 f c' o H1 s1 I1 c1 f1 cl fc hc=> ?_)
 ·rcases (pC hcl).fr y hy e with k | k
  ·exact I.ok.has _ (.inl k)
  ·exact I.ok.has _ (.inr k)
 ·have nf:=(I1.pin (f,o) (List.mem_append_right _ List.mem_cons_self)).2.1
  refine thn ((h f (c1.free nf) F1 σ H1 (ok.step c1 f1) (fun vs H2=> ∃ds L2 F2,bG C.X.K F2 H2 vs ds∧C.Con L2 F2 H2∧Fr L F1 H1 L2 F2 H2∧Q f (.ptr f::ds) L2) fun vs ds H2 L2 r c f q=>⟨ds,L2,_,r,c,f,q⟩).run pos ((f,o)::pins) s1 I1) fun us s2 ⟨vs,H2,I2,r2,ds,L2,F2,rd,c2,f2,q2⟩=> ?_
  exact go f c' o (.ref f::us) (.ref f::vs) (.ptr f::ds) H2 L2 s2 I2 cl (f2.fz c' fc) (f2.fk c' _ fc hc) (.cons rfl r2) (.cons (.ptr f) rd) c2 (f1.trans f2) q2
theorem oJ {spF:Addr→SpA→SpA} {pa:Arguments} {bd:Expr} {sc:Scope} (F:DefC C.X.prog C.X.w C.X.K C.X.mg C.X.base x k (kc+1) spF) (hr:Room k C.X.A) (h:AX C pa bd sc (e::es) Γ L fun f ds L1=> ∃G,LamD C pa bd sc kc Γ G∧spF f G ds L1 Q (C.R Γ)) (hg:Gl C.X x:=by rfl) (hdb:(x==("__debug__" :Str))=false:=by decide)
  (he:starEach (e::es) C.X.env=(false,eval e C.X.env)::starEach es C.X.env:=by rfl) (hpl:(backTo pos (starEach es C.X.env)).any (·.1)=false:=by rfl):AE C (.Call (.Name x p) (e::es) [] pos) Γ L Q:=fun Z σ H ok QV go=>by
 refine ⟨fun pins s I=> ?_⟩
 obtain ⟨g,hm,hk,G1⟩:=F.ex
 refine wpAny_Call_Name_kw (ld_glob I hg hm ?_ hdb)
 refine PySem.W.callWith_K (h₀:=C.X.base) I.ok.mod.kin hk (h Z σ H ok (fun us s1=>C.X.K.In s1.heap∧wpAny (model C.X.prog C.X.w) C.X.A (call (.ref g) us) (EP C.X pins σ QV) C.X.xe s1) pos pins s I fun {Z1} f c' o us vs ds H1 L1 s1 I1 cl fc hc r rd c1 f1 ⟨G,lam,q⟩=>⟨I1.kIn,?_⟩) he hpl
 have ok1:=ok.step c1 f1
 have I0:Inv C.X pins σ H1 s1:=I1.pins_of fun q hq=>I1.pin q (List.mem_append_right _ (List.mem_cons_of_mem _ hq))
 obtain ⟨hf,hn,n1,n2,_⟩:=I1.pin (f,o) (List.mem_append_right _ List.mem_cons_self)
 have hfr:f∉frs C.X.stack:=fun z=>(List.mem_cons.mp (I1.stkSub f z)).elim n1 n2
 exact wpAny_call (run_fnC G1 hr I0 ok1 r rd (can_lam I0 ok1 hf hn hfr cl fc hc lam) q (go.after f1))
end
end DL
namespace DL
open PySem PySem.Spec PyProof.Rows L2
section
variable {C:DL.Ctx} {Γ:Gm} {L:Lp} {E:AEnds} {e b:Expr} {pos p1 p2 p3:Pos} {x k:Str} {cs:List MatchCase} {body:List Stmt}
end
def MkD (base:Heap) (mg:Str→Option Value) (fd:FuncData) (T:Addr):Prop:= ∃c,fd.code= .ref c∧LamX.TabB base mg c T
theorem fnAc {P:Program} {w:World} {K:PySem.W.Frag} {mg:Str→Option Value} {base:Heap} {x qual:Str} {st:Stmt} {g T:Addr} {fd:FuncData} {N ps:List Str} {k:Nat} {sp:SpA} (F:FunX K x qual st g fd) (S:FnScope N ps (defScope st)) (hb:Binds K fd ps []) (mk:MkD base mg fd T)
  (len:∀ds L Q R,sp ds L Q R→ds.length=ps.length)
  (hbody:∀(cdv:Value) (A:Around) (outer:List Env) (s:Shared) (H:Hp) (E:XK) (ds:List D) (L:Lp) (Q:D→Lp→Prop) (R:Value→List (Str×D)→Lp→Prop),Room k (A.deeper (envOfC qual (defScope st) s.heap.objs.size g cdv))→sp ds L Q R→(∃c,cdv= .ref c∧LamX.TabB base mg c T)→
   ASs (vA P w K mg base N qual (defScope st) g cdv A outer s H E S.nd R) (defBody st) (qO N ds) L (sG Q)):FnA P w K mg base (k+1) g sp:=by
 intro A outer s H us vs Q E hr e0 rv ⟨ds,L,Z,Q',R',r,c,h,gq,ge⟩
 obtain ⟨oc,od,dV,kV,doc,pm,an,cdv,ct,osl,rfl,lk,hcd⟩:=F.ex
 have hl:vs.length=ps.length:=r.length.trans (len _ _ _ _ h)
 have hul:us.length=ps.length:=by rw [←rv.length];exact hl
 have KX:K.In s.heap:=e0.mod.kin.keeps fun b o e=>(e0.bs b o e).1
 have hbt:=hb s us KX (by rw [List.append_nil];exact hul)
 rw [List.append_nil] at hbt
 refine LamX.run_ofS (N:=N) lk hcd S hr e0 hbt rv hl fun hr'=> ?_
 refine ⟨_,mF,hbody cdv A outer s H E ds L Q' R' hr' h mk Z (L2.start N vs) H ⟨nQ r,c,⟨fun cls d σ' H' Γ' L' fs _ c' f' xd q=>ge cls fs L' q d H' xd c' f',True.intro⟩⟩ _ ⟨?_,?_,?_,?_⟩⟩
 ·rintro Z' σ' H' Γ' L' ok' f' ⟨L2,le,q⟩
  exact gq .non L2 q .non H' .non (ok'.con.le le) (f'.leR le)
 ·rintro Z' v d H' L' rv c' f' ⟨L2,le,q⟩
  exact gq d L2 q v H' rv (c'.le le) (f'.leR le)
 ·rintro _ _ _ _ _ _ _ z
  exact z.elim
 ·rintro _ _ _ _ _ _ _ z
  exact z.elim
end DL
namespace DL
section
variable {W:Type} [DecidableEq W] {ws vs xs:List W} {p q:Rws} {f g:Bool→Bool→Bool}
end
end DL
namespace DL
open PySem
theorem rise_nd {ys:List Str} (h:yF ys):ys.Nodup:=h.imp fun {a b} h e=>by
 subst e
 exact List.lt_irrefl _ h
theorem uB (l:List Str):∃x:Str,x∉l:=by
 have key:∀l:List Str,∀x∈l,x.cps.toList.headD 0≤(l.map fun x=>x.cps.toList.headD 0).sum:=by
  intro l
  induction l with
  | nil=>intro x hx;cases hx
  | cons y l ih=>
   intro x hx
   rw [List.map_cons,List.sum_cons]
   rcases List.mem_cons.mp hx with rfl | hx
   ·omega
   ·have:=ih x hx
    omega
 refine ⟨⟨#[(l.map fun x=>x.cps.toList.headD 0).sum+1]⟩,fun h=> ?_⟩
 have:=key l _ h
 have e:((⟨#[(l.map fun x=>x.cps.toList.headD 0).sum+1]⟩:Str).cps.toList.headD 0)=(l.map fun x=>x.cps.toList.headD 0).sum+1:=rfl
 omega
section
variable {n:Nat} {cols:List Nat} {rows:Rws} {first:Nat}
end
section
variable {P:Rws} {β γ:Nat→Bool} {ws:List Str} {s:Nat}
variable (hw:yF ws) (hM:MOk ws.length P)
include hw hM
omit hw hM in
end
end DL
namespace DL
open PySem
section
variable {ws xs:List Str} {rows q:Rws} {ks:List Nat}
structure BlowR (ws:List Str) (rows:Rws) (xs:List Str) (ks:List Nat) (k:Nat) (r:rP):Prop where
 acc:r.1=(rowAt rows k).1
 len:r.2.1.length=xs.length
 go:∀(i:Nat) (x:Str),xs[i]? =some x→∃g:Nat,r.2.1[i]? =some g∧ks[g]? =some (fG rows k (eX ws x))
 oth:ks[r.2.2]? =some (fG rows k none)
structure Blow (ws:List Str) (rows:Rws) (xs:List Str) (ks:List Nat) (q:Rws):Prop where
 row:∀(i k:Nat),ks[i]? =some k→BlowR ws rows xs ks k (rowAt q i)
theorem Blow.run (B:Blow ws rows xs ks q) (hx:∀x∈ws,x∈xs):∀(t:List Str) (i k:Nat),ks[i]? =some k→ks[nJ xs q i t]? =some (nJ ws rows k t)
 | [],_,_,h=>h
 | x::t,i,k,h=>by
  have R:=B.row i k h
  show ks[nJ xs q (fG q i (eX xs x)) t]? =some (nJ ws rows (fG rows k (eX ws x)) t)
  refine B.run hx t _ _ ?_
  unfold fG
  by_cases hm:x∈xs
  ·have e:eX xs x=some (xs.idxOf x):=if_pos hm
   obtain ⟨g,h1,h2⟩:=R.go (xs.idxOf x) x (by rw [List.getElem?_eq_getElem (List.idxOf_lt_length_iff.mpr hm),List.getElem_idxOf])
   rw [e]
   show ks[(rowAt q i).2.1.getD (xs.idxOf x) 0]? =_
   rw [DL.getD_some h1]
   exact h2
  ·have e:eX xs x=none:=if_neg hm
   have e2:eX ws x=none:=if_neg fun h=>hm (hx x h)
   rw [e,e2]
   exact R.oth
theorem Blow.lang (B:Blow ws rows xs ks q) (hx:∀x∈ws,x∈xs) {i k:Nat} (h:ks[i]? =some k) (t:List Str):fB xs q i t=fB ws rows k t:=by
 unfold fB
 exact (B.row _ _ (B.run hx t i k h)).acc
end
end DL
namespace DL
open PySem
def goalsR (r:rP):List Nat:=r.2.1++ [r.2.2]
section
variable {rows:Rws} {k K j s:Nat}
structure DistOk (rows:Rws) (d:Nat→Option Nat):Prop where
 p0:∀s,s < rows.length→(d s=some 0↔(rowAt rows s).1=true)
 p1:∀s k,s < rows.length→d s=some (k+1)→∃g∈goalsR (rowAt rows s),d g=some k
 p2:∀s k g,s < rows.length→g∈goalsR (rowAt rows s)→d g=some k→∃j,j≤k+1∧d s=some j
end
def aAM:List Str→List Str→Prop
 | [],_=>True
 | _::_,[]=>False
 | x::t,y::v=>x.cps.toList < y.cps.toList∨x=y∧aAM t v
theorem lex_anti:∀{t v:List Str},t.length=v.length→aAM t v→aAM v t→t=v
 | [],[],_,_,_=>rfl
 | x::t,y::v,hl,h1,h2=>by
  rcases h1 with h1 | ⟨e,h1⟩
  ·rcases h2 with h2 | ⟨e,h2⟩
   ·exact absurd (List.lt_trans h1 h2) (List.lt_irrefl _)
   ·subst e;exact absurd h1 (List.lt_irrefl _)
  ·subst e
   rcases h2 with h2 | ⟨_,h2⟩
   ·exact absurd h2 (List.lt_irrefl _)
   ·rw [lex_anti (Nat.succ.inj hl) h1 h2]
structure LeastT (g:List Str→Bool) (t:List Str):Prop where
 is:g t=true
 wd:∀w∈t,wdS w=true
 mn:∀v,(∀w∈v,wdS w=true)→g v=true→t.length < v.length∨t.length=v.length∧aAM t v
def zL (g:List Str→Bool):Option (List Str)→Prop
 | none=> ∀v,g v=false
 | some t=>LeastT g t
theorem zL.uniq {g h:List Str→Bool} (e:∀v,g v=h v):∀{a b:Option (List Str)},zL g a→zL h b→a=b
 | none,none,_,_=>rfl
 | none,some t,h1,h2=>by
  have:=h1 t
  rw [e,h2.is] at this
  cases this
 | some t,none,h1,h2=>by
  have:=h2 t
  rw [←e,h1.is] at this
  cases this
 | some t,some v,h1,h2=>by
  have a:=h1.mn v h2.wd ((e v).trans h2.is)
  have b:=h2.mn t h1.wd ((e t).symm.trans h1.is)
  rcases a with a | ⟨a1,a2⟩
  ·omega
  ·rcases b with b | ⟨b1,b2⟩
   ·omega
   ·rw [lex_anti a1 a2 b2]
section
variable {rows:Rws} {ws:List Str} {d:Nat→Option Nat} {s:Nat}
structure NamesOk (ws ns:List Str):Prop where
 up:yF ns
 wd:∀x∈ns,wdS x=true
 any:∀y,wdS y=true→∃x∈ns,eX ws x=eX ws y∧¬y.cps.toList < x.cps.toList
 fr:∃y,wdS y=true∧y∉ws
end
end DL
namespace DL
open PySem
end DL
namespace DL
open PySem
section
variable {S:Type} [DecidableEq S]
abbrev LvT (S:Type):=List (List Str×S)
abbrev Lt2 (a b:List Str×S):Prop:=aAM a.1 b.1∧a.1≠b.1
variable {δ:S→Str→S} {s0:S} {ns:List Str}
structure LvI (δ:S→Str→S) (s0:S) (ns:List Str) (n:Nat) (lv:LvT S):Prop where
 is:∀z∈lv,z.1.length=n∧(∀x∈z.1,x∈ns)∧z.2=z.1.foldl δ s0
 cov:∀v:List Str,v.length=n→(∀x∈v,x∈ns)→∃z∈lv,z.2=v.foldl δ s0∧aAM z.1 v
 up:lv.Pairwise Lt2
 nd:(lv.map (·.2)).Nodup
end
end DL
namespace DL
open PySem
def ctR (size rest s:Nat):rP:=(decide (s=rest),[(s+1) % size],s)
def ctM (size rest:Nat):Rws:=(List.range size).map (ctR size rest)
section
variable {size rest s:Nat} {x:Str}
theorem sJ:(ctM size rest).length=size:=by unfold ctM;rw [List.length_map,List.length_range]
theorem ct_row (h:s < size):rowAt (ctM size rest) s=ctR size rest s:=by
 unfold rowAt ctM
 rw [List.getD_eq_getElem?_getD,List.getElem?_map,List.getElem?_range h]
 rfl
theorem ct_ok (h:1≤size):MOk 1 (ctM size rest):=by
 refine ⟨fun r hr=> ?_,fun r hr g hg=> ?_,fun r hr=> ?_⟩
 all_goals
  obtain ⟨s,hs,rfl⟩:=List.mem_map.mp hr
  have hs:=List.mem_range.mp hs
 ·rfl
 ·rw [sJ]
  have hg:g∈ [(s+1) % size]:=hg
  rw [List.mem_singleton.mp hg]
  exact Nat.mod_lt _ (by omega)
 ·rw [sJ];exact hs
theorem ct_step (h:s < size) (y:Str):fG (ctM size rest) s (eX [x] y)=(s+ [y].count x) % size:=by
 unfold fG
 rw [ct_row h]
 by_cases e:y=x
 ·subst e
  have e1:eX [y] y=some 0:=by unfold eX;rw [if_pos (List.mem_singleton.mpr rfl),List.idxOf_cons_self]
  rw [e1,List.count_singleton_self]
  rfl
 ·have e1:eX [x] y=none:=if_neg fun h=>e (List.mem_singleton.mp h)
  rw [e1,List.count_eq_zero.mpr (by simpa using fun h=>e h.symm),Nat.add_zero,Nat.mod_eq_of_lt h]
  rfl
theorem ct_run (h1:1≤size):∀(v:List Str) (s:Nat),s < size→nJ [x] (ctM size rest) s v=(s+v.count x) % size
 | [],s,h=>by rw [List.count_nil,Nat.add_zero,Nat.mod_eq_of_lt h];rfl
 | y::v,s,h=>by
  show nJ [x] (ctM size rest) (fG (ctM size rest) s (eX [x] y)) v=_
  rw [ct_step h,ct_run h1 v _ (Nat.mod_lt _ (by omega)),Nat.mod_add_mod]
  have:(y::v).count x= [y].count x+v.count x:=by
   rw [show y::v= [y]++v from rfl,List.count_append]
  rw [this]
  congr 1
  omega
theorem ct_acc (h1:1≤size) (v:List Str):fB [x] (ctM size rest) 0 v=decide (v.count x % size=rest):=by
 unfold fB
 rw [ct_run h1 v 0 (by omega),Nat.zero_add,ct_row (Nat.mod_lt _ (by omega))]
 rfl
end
end DL
namespace DL
section
variable {W:Type} [DecidableEq W] {ws:List W} {rows:Rws} {first:Nat}
theorem least_up (hw:ws.Nodup) {x:W} (hx:x∉ws) (hM:MOk ws.length rows) (hf:first < rows.length) {N:Nat} (code:List W→Nat) (hN:∀u,code u < N) (hc:∀u v,code u=code v→∀t,fB ws rows first (u++t)=fB ws rows first (v++t)):(bU ws rows first).2.length≤N:=by
 have F:=foldF_ok hw hx hM hf
 have h1:(bU ws rows first).2.length≤(rZ ws rows first).length:=(jW F.ok (cols:=tells ws.length (rZ ws rows first)) nO F.pos).2.2
 refine Nat.le_trans h1 ?_
 have key:∀n,n≤(rZ ws rows first).length→∃cs:List Nat,cs.length=n∧cs.Nodup∧∀c∈cs,c < N∧∃b,b < n∧∃u,code u=c∧∀t,fB ws (rZ ws rows first) b t=fB ws rows first (u++t):=by
  intro n
  induction n with
  | zero=>exact fun _=>⟨[],rfl,.nil,fun c h=>nomatch h⟩
  | succ n ih=>
   intro hn
   obtain ⟨cs,c1,c2,c3⟩:=ih (Nat.le_of_succ_le hn)
   obtain ⟨u,hu⟩:=F.way n hn
   refine ⟨code u::cs,by rw [List.length_cons,c1],List.nodup_cons.mpr ⟨fun hm=> ?_,c2⟩,fun c hc2=> ?_⟩
   ·obtain ⟨_,b,hb,v,ev,hv⟩:=c3 _ hm
    have:=F.apart b n (Nat.lt_trans hb hn) hn fun t=>by rw [hv,hu];exact hc v u ev t
    omega
   ·rcases List.mem_cons.mp hc2 with rfl | hc2
    ·exact ⟨hN u,n,Nat.lt_succ_self n,u,rfl,hu⟩
    ·obtain ⟨d1,b,hb,r⟩:=c3 c hc2
     exact ⟨d1,b,Nat.lt_succ_of_lt hb,r⟩
 obtain ⟨cs,c1,c2,c3⟩:=key _ (Nat.le_refl _)
 rw [←c1]
 exact dZ c2 fun c h=>(c3 c h).1
theorem least_upL {C:Type} [DecidableEq C] (hw:ws.Nodup) {x:W} (hx:x∉ws) (hM:MOk ws.length rows) (hf:first < rows.length) (cs:List C) (code:List W→C) (hN:∀u,code u∈cs) (hc:∀u v,code u=code v→∀t,fB ws rows first (u++t)=fB ws rows first (v++t)):(bU ws rows first).2.length≤cs.length:=
 least_up hw hx hM hf (fun u=>cs.idxOf (code u)) (fun u=>List.idxOf_lt_length_of_mem (hN u)) fun u v e=>hc u v (idx_inj (hN u) (hN v) e)
theorem tX (hw:ws.Nodup) (hM:MOk ws.length rows) (hf:first < rows.length) {us:List (List W)} (h:us.Pairwise fun u v=> ∃t,fB ws rows first (u++t)≠fB ws rows first (v++t)):us.length≤(bU ws rows first).2.length:=by
 obtain ⟨_,o1,o2,_⟩:=tW hw hM hf
 have nd:(us.map fun u=>nJ (bU ws rows first).1 (bU ws rows first).2 0 u).Nodup:=by
  refine List.pairwise_map.mpr (h.imp fun {u v} ⟨t,ht⟩ e=>ht ?_)
  rw [←lV hw hM hf,←lV hw hM hf,qL,qL,e]
 have:=dZ nd fun s hs=>by
  obtain ⟨u,_,rfl⟩:=List.mem_map.mp hs
  exact vX o1 u 0 o2
 rwa [List.length_map] at this
end
end DL
namespace DL
theorem rE {n a b c:Nat} (ha:a < n) (hb:b < n) (h:(c+a) % n=(c+b) % n):a=b:=by
 have key:∀a b,a < n→b < n→a≤b→(c+a) % n=(c+b) % n→a=b:=fun a b ha hb hab h=>by
  have h1:=Nat.sub_mod_eq_zero_of_mod_eq h.symm
  rw [show c+b - (c+a)=b - a by omega,Nat.mod_eq_of_lt (by omega)] at h1
  omega
 rcases Nat.le_total a b with z | z
 ·exact key a b ha hb z h
 ·exact (key b a hb ha z h.symm).symm
theorem rD {n r:Nat} (c:Nat) (hr:r < n):∃a,(c+a) % n=r:=by
 refine ⟨n - c % n+r,?_⟩
 have h1:=Nat.div_add_mod c n
 have h2:=Nat.mod_lt c (show 0 < n by omega)
 have h3:c+(n - c % n+r)=r+n*(c / n+1):=by rw [Nat.mul_succ];omega
 rw [h3,Nat.add_mul_mod_self_left,Nat.mod_eq_of_lt hr]
theorem mod_avoid {n:Nat} (p q r:Nat) (hn:3≤n):∃b,(p+b) % n≠r∧(q+b) % n≠r:=by
 have bad:∀b,¬((p+b) % n≠r∧(q+b) % n≠r)→(p+b) % n=r∨(q+b) % n=r:=fun b h=>by
  by_cases h1:(p+b) % n=r
  ·exact .inl h1
  ·exact .inr (Decidable.not_not.mp fun h2=>h ⟨h1,h2⟩)
 by_cases h0:(p+0) % n≠r∧(q+0) % n≠r
 ·exact ⟨0,h0⟩
 by_cases h1:(p+1) % n≠r∧(q+1) % n≠r
 ·exact ⟨1,h1⟩
 by_cases h2:(p+2) % n≠r∧(q+2) % n≠r
 ·exact ⟨2,h2⟩
 exfalso
 have P:∀a b,a < 3→b < 3→(p+a) % n=r→(p+b) % n=r→a=b:=fun a b ha hb e1 e2=>rE (n:=n) (c:=p) (by omega) (by omega) (e1.trans e2.symm)
 have Q:∀a b,a < 3→b < 3→(q+a) % n=r→(q+b) % n=r→a=b:=fun a b ha hb e1 e2=>rE (n:=n) (c:=q) (by omega) (by omega) (e1.trans e2.symm)
 rcases bad 0 h0 with a0 | a0 <;> rcases bad 1 h1 with a1 | a1 <;> rcases bad 2 h2 with a2 | a2
 ·exact absurd (P 0 1 (by omega) (by omega) a0 a1) (by omega)
 ·exact absurd (P 0 1 (by omega) (by omega) a0 a1) (by omega)
 ·exact absurd (P 0 2 (by omega) (by omega) a0 a2) (by omega)
 ·exact absurd (Q 1 2 (by omega) (by omega) a1 a2) (by omega)
 ·exact absurd (P 1 2 (by omega) (by omega) a1 a2) (by omega)
 ·exact absurd (Q 0 2 (by omega) (by omega) a0 a2) (by omega)
 ·exact absurd (Q 0 1 (by omega) (by omega) a0 a1) (by omega)
 ·exact absurd (Q 0 1 (by omega) (by omega) a0 a1) (by omega)
structure FOk (f:Bool→Bool→Bool):Prop where
 l:(∀b,f true true≠f false b)∨f true false≠f false false
 r:∃a,f a true≠f a false
section
variable {W:Type} [DecidableEq W] {ws:List W} {rows:Rws} {s:Nat} {x y:W}
theorem uJ (h:x≠y) (a b:Nat):(List.replicate a x++List.replicate b y).count x=a∧(List.replicate a x++List.replicate b y).count y=b:=by
 rw [List.count_append,List.count_append,List.count_replicate_self,List.count_replicate_self,List.count_replicate,List.count_replicate]
 have e1:(y==x)=false:=beq_eq_false_iff_ne.mpr fun e=>h e.symm
 have e2:(x==y)=false:=beq_eq_false_iff_ne.mpr h
 rw [e1,e2]
 exact ⟨by simp,by simp⟩
theorem cnt_exact {f:Bool→Bool→Bool} {n1 n2 r1 r2 c1 c2:Nat} (hw:ws.Nodup) {z:W} (hz:z∉ws) (hM:MOk ws.length rows) (hs:s < rows.length) (hl:∀t,fB ws rows s t=f (decide ((c1+t.count x) % n1=r1)) (decide ((c2+t.count y) % n2=r2)))
  (F:FOk f) (h1:3≤n1) (h2:3≤n2) (k1:r1 < n1) (k2:r2 < n2) (hxy:x≠y):(bU ws rows s).2.length=n1*n2:=by
 refine Nat.le_antisymm ?_ ?_
 ·refine least_up hw hz hM hs (fun u=>(u.count x % n1)*n2+u.count y % n2) (fun u=> ?_) fun u v e t=> ?_
  ·have a:=Nat.mod_lt (u.count x) (show 0 < n1 by omega)
   have b:=Nat.mod_lt (u.count y) (show 0 < n2 by omega)
   have:=Nat.mul_le_mul_right n2 (show u.count x % n1+1≤n1 by omega)
   rw [Nat.add_mul,Nat.one_mul] at this
   omega
  ·have hb:=Nat.mod_lt (u.count y) (show 0 < n2 by omega)
   have hb':=Nat.mod_lt (v.count y) (show 0 < n2 by omega)
   have e1:u.count y % n2=v.count y % n2:=by
    have:=congrArg (· % n2) e
    simp only [Nat.mul_add_mod_self_right] at this
    rwa [Nat.mod_mod,Nat.mod_mod] at this
   have e2:u.count x % n1=v.count x % n1:=by
    have e:u.count x % n1*n2+u.count y % n2=v.count x % n1*n2+v.count y % n2:=e
    rw [e1] at e
    exact Nat.eq_of_mul_eq_mul_right (show 0 < n2 by omega) (Nat.add_right_cancel e)
   have m:∀{n a b:Nat} (c d:Nat),a % n=b % n→(c+(a+d)) % n=(c+(b+d)) % n:=fun {n a b} c d h=>by
    rw [show c+(a+d)=a+(c+d) by omega,show c+(b+d)=b+(c+d) by omega,Nat.add_mod,h,←Nat.add_mod]
   rw [hl,hl,List.count_append,List.count_append,List.count_append,List.count_append,m c1 _ e2,m c2 _ e1]
 ·have lo:=tX hw hM hs (us:=(List.range (n1*n2)).map fun k=>List.replicate (k / n2) x++List.replicate (k % n2) y) ?_
  ·rwa [List.length_map,List.length_range] at lo
  refine List.pairwise_map.mpr ?_
  have hp:(List.range (n1*n2)).Pairwise fun a b=>a∈List.range (n1*n2)∧b∈List.range (n1*n2)∧a < b:=List.pairwise_lt_range.imp_of_mem fun ha hb h=>⟨ha,hb,h⟩
  refine hp.imp fun {k k'} ⟨hk,hk',hlt⟩=> ?_
  have hk:=List.mem_range.mp hk
  have hk':=List.mem_range.mp hk'
  have d0:0 < n2:=by omega
  have i1:k / n2 < n1:=Nat.div_lt_of_lt_mul (by rw [Nat.mul_comm];exact hk)
  have i2:k' / n2 < n1:=Nat.div_lt_of_lt_mul (by rw [Nat.mul_comm];exact hk')
  have j1:=Nat.mod_lt k d0
  have j2:=Nat.mod_lt k' d0
  have ek:=Nat.div_add_mod k n2
  have ek':=Nat.div_add_mod k' n2
  have cnt:∀(i j a b:Nat),fB ws rows s ((List.replicate i x++List.replicate j y)++(List.replicate a x++List.replicate b y))=f (decide ((c1+i+a) % n1=r1)) (decide ((c2+j+b) % n2=r2)):=fun i j a b=>by
   rw [hl,List.count_append (l₁:=List.replicate i x++List.replicate j y),List.count_append (l₁:=List.replicate i x++List.replicate j y),(uJ hxy i j).1,(uJ hxy i j).2,(uJ hxy a b).1,(uJ hxy a b).2,Nat.add_assoc,Nat.add_assoc]
  generalize k / n2=i at*
  generalize k' / n2=i' at*
  generalize k % n2=j at*
  generalize k' % n2=j' at*
  by_cases hi:i=i'
  ·have hj:j≠j':=fun e=>by rw [hi,e] at ek;omega
   subst hi
   obtain ⟨a0,ha0⟩:=F.r
   obtain ⟨b,hb⟩:=rD (c2+j) k2
   have hb':(c2+j'+b) % n2≠r2:=fun e=>hj (rE (n:=n2) (c:=c2+b) j1 j2 (by rw [show c2+b+j=c2+j+b by omega,show c2+b+j'=c2+j'+b by omega,hb,e]))
   obtain ⟨a,ha⟩:∃a,decide ((c1+i+a) % n1=r1)=a0:=by
    cases a0 with
    | true=>obtain ⟨a,ha⟩:=rD (c1+i) k1;exact ⟨a,decide_eq_true ha⟩
    | false=>obtain ⟨a,ha,_⟩:=mod_avoid (c1+i) (c1+i) r1 h1;exact ⟨a,decide_eq_false ha⟩
   refine ⟨List.replicate a x++List.replicate b y,?_⟩
   rw [cnt,cnt,ha,decide_eq_true hb,decide_eq_false hb']
   exact ha0
  ·obtain ⟨a,ha⟩:=rD (c1+i) k1
   have ha':(c1+i'+a) % n1≠r1:=fun e=>hi (rE (n:=n1) (c:=c1+a) i1 i2 (by rw [show c1+a+i=c1+i+a by omega,show c1+a+i'=c1+i'+a by omega,ha,e]))
   rcases F.l with h | h
   ·obtain ⟨b,hb⟩:=rD (c2+j) k2
    refine ⟨List.replicate a x++List.replicate b y,?_⟩
    rw [cnt,cnt,decide_eq_true ha,decide_eq_false ha',decide_eq_true hb]
    exact h _
   ·obtain ⟨b,hb,hb'⟩:=mod_avoid (c2+j) (c2+j') r2 h2
    refine ⟨List.replicate a x++List.replicate b y,?_⟩
    rw [cnt,cnt,decide_eq_true ha,decide_eq_false ha',decide_eq_false hb,decide_eq_false hb']
    exact h
end
end DL
namespace DL
section
variable {W:Type} [DecidableEq W] {ws:List W} {rows:Rws} {s:Nat} {x y z:W} {i j k:Nat}
def tri (x y z:W) (i j k:Nat):List (List W):= [List.replicate i x,List.replicate j y,List.replicate k z]
def trP (x y z:W) (i j k:Nat):List (List W):=((List.range i).map fun p=>List.replicate p x)++(((List.range (j - 1)).map fun p=>List.replicate (p+1) y)++((List.range (k - 1)).map fun p=>List.replicate (p+1) z))
theorem trP_len (hi:1≤i) (hj:1≤j) (hk:1≤k):(trP x y z i j k).length+2=i+j+k:=by
 unfold trP
 rw [List.length_append,List.length_append,List.length_map,List.length_map,List.length_map,List.length_range,List.length_range,List.length_range]
 omega
theorem rep_pre {a:Nat} {v:W} {t:List W} (h:t <+:List.replicate a v):∃p,p≤a∧t=List.replicate p v:=by
 have:=List.prefix_iff_eq_take.mp h
 rw [List.take_replicate] at this
 exact ⟨_,Nat.min_le_right _ _,this⟩
theorem wY {a b:Nat} {u v:W} (ha:1≤a) (h:u≠v):List.replicate a u≠List.replicate b v:=fun e=>by
 have h1:u∈List.replicate a u:=List.mem_replicate.mpr ⟨by omega,rfl⟩
 rw [e] at h1
 exact h (List.mem_replicate.mp h1).2
theorem cW {t:List W}:t∈tri x y z i j k↔t=List.replicate i x∨t=List.replicate j y∨t=List.replicate k z:=by
 unfold tri
 simp
theorem tri_pre (hi:1≤i) {t u:List W} (h:t++u∈tri x y z i j k):t∈tri x y z i j k∨t∈trP x y z i j k:=by
 have key:∀{a:Nat} {v:W},t++u=List.replicate a v→t= []∨t=List.replicate a v∨∃p,p < a - 1∧t=List.replicate (p+1) v:=fun {a v} e=>by
  obtain ⟨p,hp,et⟩:=rep_pre (t:=t) (a:=a) (v:=v) (by rw [←e];exact List.prefix_append _ _)
  cases p with
  | zero=>exact .inl et
  | succ p=>
   by_cases h2:p+1=a
   ·exact .inr (.inl (by rw [et,h2]))
   ·exact .inr (.inr ⟨p,by omega,et⟩)
 have nil:([]:List W)∈trP x y z i j k:=List.mem_append_left _ (List.mem_map.mpr ⟨0,List.mem_range.mpr hi,rfl⟩)
 rcases cW.mp h with e | e | e <;> rcases key e with h1 | h1 | ⟨p,hp,h1⟩
 ·exact .inr (h1 ▸nil)
 ·exact .inl (cW.mpr (.inl h1))
 ·exact .inr (List.mem_append_left _ (List.mem_map.mpr ⟨p+1,List.mem_range.mpr (by omega),h1.symm⟩))
 ·exact .inr (h1 ▸nil)
 ·exact .inl (cW.mpr (.inr (.inl h1)))
 ·exact .inr (List.mem_append_right _ (List.mem_append_left _ (List.mem_map.mpr ⟨p,List.mem_range.mpr hp,h1.symm⟩)))
 ·exact .inr (h1 ▸nil)
 ·exact .inl (cW.mpr (.inr (.inr h1)))
 ·exact .inr (List.mem_append_right _ (List.mem_append_right _ (List.mem_map.mpr ⟨p,List.mem_range.mpr hp,h1.symm⟩)))
variable (hxy:x≠y) (hxz:x≠z) (hyz:y≠z) (hi:1≤i) (hj:1≤j) (hk:1≤k)
include hxy hxz hyz hi hj hk
theorem tri_end {t u:List W} (h:t∈tri x y z i j k) (h2:t++u∈tri x y z i j k):u= []:=by
 have key:∀{a b:Nat} {v v':W},1≤a→t=List.replicate a v→t++u=List.replicate b v'→v'=v:=fun {a b v v'} ha e1 e2=>by
  have h1:v∈List.replicate b v':=by rw [←e2,e1];exact List.mem_append_left _ (List.mem_replicate.mpr ⟨by omega,rfl⟩)
  exact (List.mem_replicate.mp h1).2.symm
 have len:∀{a:Nat} {v:W},t=List.replicate a v→t++u=List.replicate a v→u= []:=fun {a v} e1 e2=>by
  have:=congrArg List.length e2
  rw [List.length_append,e1,List.length_replicate] at this
  exact List.length_eq_zero_iff.mp (by omega)
 rcases cW.mp h with e | e | e <;> rcases cW.mp h2 with e2 | e2 | e2
 ·exact len e e2
 ·exact absurd (key hi e e2).symm hxy
 ·exact absurd (key hi e e2).symm hxz
 ·exact absurd (key hj e e2) hxy
 ·exact len e e2
 ·exact absurd (key hj e e2).symm hyz
 ·exact absurd (key hk e e2) hxz
 ·exact absurd (key hk e e2) hyz
 ·exact len e e2
theorem trP_not {t:List W} (h:t∈trP x y z i j k):t∉tri x y z i j k:=fun h2=>by
 have key:∀{p a:Nat} {v v':W},List.replicate p v=List.replicate a v'→1≤a→p=a∧v=v':=fun {p a v v'} e ha=>by
  have h1:=congrArg List.length e
  rw [List.length_replicate,List.length_replicate] at h1
  subst h1
  refine ⟨rfl,Decidable.byContradiction fun hv=>wY ha hv e⟩
 unfold trP at h
 rcases List.mem_append.mp h with h | h
 ·obtain ⟨p,hp,rfl⟩:=List.mem_map.mp h
  have hp:=List.mem_range.mp hp
  rcases cW.mp h2 with e | e | e
  ·have:=(key e hi).1;omega
  ·exact hxy (key e hj).2
  ·exact hxz (key e hk).2
 rcases List.mem_append.mp h with h | h
 ·obtain ⟨p,hp,rfl⟩:=List.mem_map.mp h
  have hp:=List.mem_range.mp hp
  rcases cW.mp h2 with e | e | e
  ·exact hxy (key e hi).2.symm
  ·have:=(key e hj).1;omega
  ·exact hyz (key e hk).2
 ·obtain ⟨p,hp,rfl⟩:=List.mem_map.mp h
  have hp:=List.mem_range.mp hp
  rcases cW.mp h2 with e | e | e
  ·exact hxz (key e hi).2.symm
  ·exact hyz (key e hj).2.symm
  ·have:=(key e hk).1;omega
theorem trP_nodup:(trP x y z i j k).Nodup:=by
 have inj:∀{p q:Nat} {v v':W},List.replicate p v=List.replicate q v'→p=q:=fun {p q v v'} e=>by
  have:=congrArg List.length e
  rwa [List.length_replicate,List.length_replicate] at this
 have blk:∀(f:Nat→Nat) (v:W) (n:Nat),(∀a b,f a=f b→a=b)→((List.range n).map fun p=>List.replicate (f p) v).Nodup:=fun f v n hf=>by
  refine List.pairwise_map.mpr (List.nodup_range.imp fun {a b} h e=>h (hf a b (inj e)))
 unfold trP
 refine List.nodup_append.mpr ⟨blk (fun p=>p) x i fun _ _ h=>h,List.nodup_append.mpr ⟨blk (fun p=>p+1) y _ fun _ _ h=>by omega,blk (fun p=>p+1) z _ fun _ _ h=>by omega,fun a ha b hb e=> ?_⟩,fun a ha b hb e=> ?_⟩
 ·obtain ⟨p,_,rfl⟩:=List.mem_map.mp ha
  obtain ⟨q,_,rfl⟩:=List.mem_map.mp hb
  exact wY (Nat.succ_pos p) hyz e
 ·obtain ⟨p,_,rfl⟩:=List.mem_map.mp ha
  rcases List.mem_append.mp hb with hb | hb
  ·obtain ⟨q,_,rfl⟩:=List.mem_map.mp hb
   exact wY (Nat.succ_pos q) (fun e=>hxy e.symm) e.symm
  ·obtain ⟨q,_,rfl⟩:=List.mem_map.mp hb
   exact wY (Nat.succ_pos q) (fun e=>hxz e.symm) e.symm
theorem trP_way {u:List W} (h:u∈trP x y z i j k):∃e,u++e∈tri x y z i j k∧∀v,v++e∈tri x y z i j k→v=u:=by
 have key:∀{p a:Nat} {w:W},p < a→List.replicate a w∈tri x y z i j k→(∀t,t∈tri x y z i j k→w∈t→t=List.replicate a w)→∃e,List.replicate p w++e∈tri x y z i j k∧∀v,v++e∈tri x y z i j k→v=List.replicate p w:=fun {p a w} hp hm hu=>by
  have ea:List.replicate p w++List.replicate (a - p) w=List.replicate a w:=by rw [List.replicate_append_replicate];congr 1;omega
  refine ⟨List.replicate (a - p) w,by rw [ea];exact hm,fun v hv=> ?_⟩
  have:=hu _ hv (List.mem_append_right _ (List.mem_replicate.mpr ⟨by omega,rfl⟩))
  rw [←ea] at this
  exact List.append_cancel_right this
 have uni:∀{w v:W} {a b:Nat},w≠v→w∈List.replicate b v→False:=fun h hm=>h (List.mem_replicate.mp hm).2
 have ux:∀t,t∈tri x y z i j k→x∈t→t=List.replicate i x:=fun t ht hm=>by
  rcases cW.mp ht with e | e | e
  ·exact e
  ·rw [e] at hm;exact absurd (List.mem_replicate.mp hm).2 hxy
  ·rw [e] at hm;exact absurd (List.mem_replicate.mp hm).2 hxz
 have uy:∀t,t∈tri x y z i j k→y∈t→t=List.replicate j y:=fun t ht hm=>by
  rcases cW.mp ht with e | e | e
  ·rw [e] at hm;exact absurd (List.mem_replicate.mp hm).2.symm hxy
  ·exact e
  ·rw [e] at hm;exact absurd (List.mem_replicate.mp hm).2 hyz
 have uz:∀t,t∈tri x y z i j k→z∈t→t=List.replicate k z:=fun t ht hm=>by
  rcases cW.mp ht with e | e | e
  ·rw [e] at hm;exact absurd (List.mem_replicate.mp hm).2.symm hxz
  ·rw [e] at hm;exact absurd (List.mem_replicate.mp hm).2.symm hyz
  ·exact e
 unfold trP at h
 rcases List.mem_append.mp h with h | h
 ·obtain ⟨p,hp,rfl⟩:=List.mem_map.mp h
  exact key (List.mem_range.mp hp) (cW.mpr (.inl rfl)) ux
 rcases List.mem_append.mp h with h | h
 ·obtain ⟨p,hp,rfl⟩:=List.mem_map.mp h
  have hp:=List.mem_range.mp hp
  exact key (by omega) (cW.mpr (.inr (.inl rfl))) uy
 ·obtain ⟨p,hp,rfl⟩:=List.mem_map.mp h
  have hp:=List.mem_range.mp hp
  exact key (by omega) (cW.mpr (.inr (.inr rfl))) uz
theorem tri_exact (hw:ws.Nodup) {w:W} (hw2:w∉ws) (fr:w≠x∧w≠y∧w≠z) (hM:MOk ws.length rows) (hs:s < rows.length) (hl:∀t,fB ws rows s t=decide (t∈tri x y z i j k)):(bU ws rows s).2.length=i+j+k:=by
 have hlen:=trP_len (x:=x) (y:=y) (z:=z) hi hj hk
 refine Nat.le_antisymm ?_ ?_
 ·have up:=least_upL hw hw2 hM hs ((1,[])::(2,[])::(trP x y z i j k).map fun t=>((0:Nat),t)) (fun t=>if t∈tri x y z i j k then (1,[]) else if t∈trP x y z i j k then (0,t) else (2,[])) (fun t=> ?_) fun u v e t=> ?_
  ·rw [List.length_cons,List.length_cons,List.length_map] at up
   omega
  ·split
   ·exact List.mem_cons_self
   ·split
    ·rename_i h2
     exact List.mem_cons_of_mem _ (List.mem_cons_of_mem _ (List.mem_map.mpr ⟨t,h2,rfl⟩))
    ·exact List.mem_cons_of_mem _ List.mem_cons_self
  ·rw [hl,hl]
   have dead:∀{u:List W},u∉tri x y z i j k→u∉trP x y z i j k→u++t∉tri x y z i j k:=fun {u} h1 h2 h=>(tri_pre hi h).elim h1 h2
   by_cases hu:u∈tri x y z i j k
   ·by_cases hv:v∈tri x y z i j k
    ·refine decide_eq_decide.mpr ⟨fun h=> ?_,fun h=> ?_⟩
     ·rw [tri_end hxy hxz hyz hi hj hk hu h,List.append_nil];exact hv
     ·rw [tri_end hxy hxz hyz hi hj hk hv h,List.append_nil];exact hu
    ·rw [if_pos hu,if_neg hv] at e
     split at e <;> simp at e
   ·rw [if_neg hu] at e
    by_cases hv:v∈tri x y z i j k
    ·rw [if_pos hv] at e
     split at e <;> simp at e
    ·rw [if_neg hv] at e
     by_cases hu2:u∈trP x y z i j k
     ·rw [if_pos hu2] at e
      by_cases hv2:v∈trP x y z i j k
      ·rw [if_pos hv2] at e
       rw [(Prod.mk.inj e).2]
      ·rw [if_neg hv2] at e
       simp at e
     ·by_cases hv2:v∈trP x y z i j k
      ·rw [if_neg hu2,if_pos hv2] at e
       simp at e
      ·rw [decide_eq_false (dead hu hu2),decide_eq_false (dead hv hv2)]
 ·have h0:List.replicate i x∈tri x y z i j k:=cW.mpr (.inl rfl)
  have hd:∀e,[w]++e∉tri x y z i j k:=fun e h=>by
   rcases cW.mp h with z1 | z1 | z1
   ·exact fr.1 (List.mem_replicate.mp (by rw [←z1];exact List.mem_cons_self:w∈List.replicate i x)).2
   ·exact fr.2.1 (List.mem_replicate.mp (by rw [←z1];exact List.mem_cons_self:w∈List.replicate j y)).2
   ·exact fr.2.2 (List.mem_replicate.mp (by rw [←z1];exact List.mem_cons_self:w∈List.replicate k z)).2
  have lo:=tX hw hM hs (us:=trP x y z i j k++ [List.replicate i x,[w]]) ?_
  ·rw [List.length_append] at lo
   have: [List.replicate i x,[w]].length=2:=rfl
   omega
  have dif:∀{u v:List W},(∃e,u++e∈tri x y z i j k∧v++e∉tri x y z i j k)→∃t,fB ws rows s (u++t)≠fB ws rows s (v++t):=fun {u v} ⟨e,h1,h2⟩=>⟨e,by rw [hl,hl,decide_eq_true h1,decide_eq_false h2];decide⟩
  refine List.pairwise_append.mpr ⟨?_,?_,?_⟩
  ·refine List.Pairwise.imp_of_mem (fun {u v} hu hv hne=> ?_) (trP_nodup hxy hxz hyz hi hj hk)
   obtain ⟨e,h1,h2⟩:=trP_way hxy hxz hyz hi hj hk hu
   exact dif ⟨e,h1,fun h=>hne (h2 v h).symm⟩
  ·refine List.pairwise_cons.mpr ⟨fun v hv=> ?_,List.pairwise_singleton _ _⟩
   rw [List.mem_singleton.mp hv]
   exact dif ⟨[],by rw [List.append_nil];exact h0,hd []⟩
  ·intro u hu v hv
   obtain ⟨e,h1,h2⟩:=trP_way hxy hxz hyz hi hj hk hu
   refine dif ⟨e,h1,fun h=> ?_⟩
   rcases List.mem_cons.mp hv with rfl | hv
   ·exact trP_not hxy hxz hyz hi hj hk hu (by rw [←h2 _ h];exact h0)
   ·rw [List.mem_singleton.mp hv] at h
    exact hd e h
end
end DL
namespace DL
open PySem PySem.Spec PyProof.Rows L2
def tTupW (t:TA):TE:=fun σ H Q=>t σ H fun vs H1=> ∃ys:List Str,vs=ys.map V.str∧ys.length≤sizeLine∧∀l o,H1 l=none→o.dict=none→Q (.ref l) (upd H1 l (.frz o (.tup (ys.map V.str))))
theorem pe_tupW {X:Cx} {es:List Expr} {t:TA} {k:Nat} {pos:Pos} (h:PA X es t):PE X (.Tuple es k pos) (tTupW t):=⟨fun pins s σ H Q I hq=>by
 refine wpAny_Tuple_spliced (thn (h.run pos pins s σ H _ I hq) fun us s1 ⟨xs,H1,I1,r,ys,ex,z,q⟩=> ?_)
 subst ex
 have hl:=r.length
 rw [List.length_map] at hl
 refine ⟨by rw [←hl];exact z,?_⟩
 have new:ObjOk X.prog X.w (upd H1 s1.heap.objs.size (.frz {cls:= .type "tuple",data:= .seq us.toArray} (.tup (ys.map V.str)))) (s1.heap.push {cls:= .type "tuple",data:= .seq us.toArray}) s1.heap.objs.size (.frz {cls:= .type "tuple",data:= .seq us.toArray} (.tup (ys.map V.str))):=
  ⟨Heap.get?_push_size _ rfl,by rw [List.length_map];exact z,us,r,⟨_,Heap.get?_push_size _ rfl,rfl,_,rfl⟩⟩
 exact ⟨.ref s1.heap.objs.size,_,I1.laid (t':=s1.toks) (fun b o e=>Heap.get?_push_of_some _ e) (Nat.le_refl _) new,rfl,q _ _ (I1.hok.fresh (Nat.le_refl _)) rfl⟩⟩
section
variable {C:DL.Ctx} {Γ:Gm} {L:Lp} {Q:D→Lp→Prop} {es:List Expr} {k:Nat} {pos:Pos}
theorem ae_tupS (h:AA C es Γ L fun ds L1=> ∃ys:List Str,ds=ys.map .str∧ys.length≤sizeLine∧Q (.wds ys) L1):AE C (.Tuple es k pos) Γ L Q:=fun F σ H ok QV go=>
 dO (pe_tupW mW) (h _ σ H ok _ fun vs ds H1 L1 r c f ⟨ys,ed,hz,q⟩=>by
  subst ed
  refine ⟨ys,cX r,hz,fun l ob hl ho=> ?_⟩
  obtain ⟨c2,f2⟩:=frzNew (ob:=ob) (u:= .tup (ys.map V.str)) c hl
  exact go _ _ _ L1 (.wds (.inr rfl) upd_same ho hz (oY r)) c2 (f.trans f2) q)
end
end DL
namespace DL
open PySem PySem.Spec PyProof.Rows L2
theorem fnGc {P:Program} {w:World} {K:PySem.W.Frag} {mg:Str→Option Value} {base:Heap} {x qual:Str} {st:Stmt} {g T:Addr} {fd:FuncData} {N ps:List Str} {k:Nat} {sp:SpA} (F:FunX K x qual st g fd) (S:FnScope N ps (defScope st)) (hb:Binds K fd ps []) (mk:MkD base mg fd T)
  (len:∀ds L Q R,sp ds L Q R→ds.length=ps.length)
  (hbody:∀(cdv:Value) (A:Around) (outer:List Env) (s:Shared) (H:Hp) (E:XK) (ds:List D) (L:Lp) (Q:D→Lp→Prop) (R:Value→List (Str×D)→Lp→Prop),Room k (A.deeper (envOfC qual (defScope st) s.heap.objs.size g cdv))→(A.deeper (envOfC qual (defScope st) s.heap.objs.size g cdv)).guards=some []→sp ds L Q R→(∃c,cdv= .ref c∧LamX.TabB base mg c T)→
   ASs (vA P w K mg base N qual (defScope st) g cdv A outer s H E S.nd R) (defBody st) (qO N ds) L (sG Q)):FnG P w K mg base (k+1) g sp:=by
 intro A outer s H us vs Q E hr hgd e0 rv ⟨ds,L,Z,Q',R',r,c,h,gq,ge⟩
 obtain ⟨oc,od,dV,kV,doc,pm,an,cdv,ct,osl,rfl,lk,hcd⟩:=F.ex
 have hl:vs.length=ps.length:=r.length.trans (len _ _ _ _ h)
 have hul:us.length=ps.length:=by rw [←rv.length];exact hl
 have KX:K.In s.heap:=e0.mod.kin.keeps fun b o e=>(e0.bs b o e).1
 have hbt:=hb s us KX (by rw [List.append_nil];exact hul)
 rw [List.append_nil] at hbt
 refine LamX.run_ofS (N:=N) lk hcd S hr e0 hbt rv hl fun hr'=> ?_
 refine ⟨_,mF,hbody cdv A outer s H E ds L Q' R' hr' ((guards_deeper _ _).trans hgd) h mk Z (L2.start N vs) H ⟨nQ r,c,⟨fun cls d σ' H' Γ' L' fs _ c' f' xd q=>ge cls fs L' q d H' xd c' f',True.intro⟩⟩ _ ⟨?_,?_,?_,?_⟩⟩
 ·rintro Z' σ' H' Γ' L' ok' f' ⟨L2,le,q⟩
  exact gq .non L2 q .non H' .non (ok'.con.le le) (f'.leR le)
 ·rintro Z' v d H' L' rv c' f' ⟨L2,le,q⟩
  exact gq d L2 q v H' rv (c'.le le) (f'.leR le)
 ·rintro _ _ _ _ _ _ _ z
  exact z.elim
 ·rintro _ _ _ _ _ _ _ z
  exact z.elim
end DL
namespace DL
open PySem PySem.Spec PyProof.Rows L2
def asc (x:Str):Bool:=x.cps.toList.all fun c=>decide (c < 128)
def smI (i:Int):Bool:=decide (-999999999999≤i) && decide (i≤999999999999)
def smK:Key→Bool
 | .inl i=>smI i
 | .inr x=>asc x
mutual
def shw:D→Bool
 | .non=>true
 | .bl _=>true
 | .int i=>smI i
 | .str x=>asc x
 | .tup ds=>aAT ds
 | .flst ds=>aAT ds
 | .kdct kds=>aA0 kds
 | .ty _=>false
 | .ptr _=>false
 | .ilst _=>false
 | .obj _ _=>false
 | .fdct _=>false
 | .wds _=>false
 | .tk _=>false
 | .iob _ _=>false
def aAT:List D→Bool
 | []=>true
 | d::ds=>shw d && aAT ds
def aA0:List (Key×D)→Bool
 | []=>true
 | (k,d)::r=>smK k && shw d && aA0 r
end
structure ShP (d:PyData):Prop where
 lf:d.leavesShort 13=true
 sg:sgD d=true
 sh:d.showable=true
theorem shp_int {i:Int} (h:smI i=true):ShP (.int i):=by
 unfold smI at h
 rw [Bool.and_eq_true] at h
 have h1:=of_decide_eq_true h.1
 have h2:=of_decide_eq_true h.2
 refine ⟨?_,by rw [sgD],?_⟩
 ·rw [PyData.leavesShort]
  exact decide_eq_true (PyData.shown_int_le2 h1 h2)
 ·rw [PyData.showable]
  refine decide_eq_true ?_
  have h3:i.natAbs < 2 ^ 40:=by
   have:(2:Nat) ^ 40=1099511627776:=by decide
   omega
  by_cases hz:i.natAbs=0
  ·rw [hz];decide
  ·have:=(Nat.log2_lt hz).mpr h3
   omega
theorem shp_str {x:Str} (h:asc x=true):ShP (.str x):=by
 unfold asc at h
 have h1:=List.all_eq_true.mp h
 refine ⟨?_,?_,by rw [PyData.showable]⟩
 ·rw [PyData.leavesShort]
  exact List.all_eq_true.mpr fun c hc=>decide_eq_true (Nat.lt_trans (of_decide_eq_true (h1 c hc)) (by decide))
 ·rw [sgD]
  exact sg_ok.mpr fun c hc=>by have:=of_decide_eq_true (h1 c hc);omega
mutual
theorem yO:∀d:D,shw d=true→okE d=true∧ShP (pyE d)
 | .non,_=>by rw [okE,pyE];exact ⟨rfl,by rw [PyData.leavesShort],by rw [sgD],by rw [PyData.showable]⟩
 | .bl b,_=>by rw [okE,pyE];exact ⟨rfl,by rw [PyData.leavesShort],by rw [sgD],by rw [PyData.showable]⟩
 | .int i,h=>by rw [shw] at h;rw [okE,pyE];exact ⟨rfl,shp_int h⟩
 | .str x,h=>by rw [shw] at h;rw [okE,pyE];exact ⟨rfl,shp_str h⟩
 | .tup ds,h=>by
  rw [shw] at h
  obtain ⟨h1,h2,h3,h4⟩:=vR ds h
  rw [okE,pyE]
  exact ⟨h1,by rw [PyData.leavesShort];exact h2,by rw [sgD];exact h3,by rw [PyData.showable];exact h4⟩
 | .flst ds,h=>by
  rw [shw] at h
  obtain ⟨h1,h2,h3,h4⟩:=vR ds h
  rw [okE,pyE]
  exact ⟨h1,by rw [PyData.leavesShort];exact h2,by rw [sgD];exact h3,by rw [PyData.showable];exact h4⟩
 | .kdct kds,h=>by
  rw [shw] at h
  obtain ⟨h1,h2,h3,h4⟩:=shwk_ok kds h
  rw [okE,pyE]
  exact ⟨h1,by rw [PyData.leavesShort];exact h2,by rw [sgD];exact h3,by rw [PyData.showable];exact h4⟩
 | .ty _,h=>by simp [shw] at h
 | .ptr _,h=>by simp [shw] at h
 | .ilst _,h=>by simp [shw] at h
 | .obj _ _,h=>by simp [shw] at h
 | .fdct _,h=>by simp [shw] at h
 | .wds _,h=>by simp [shw] at h
 | .tk _,h=>by simp [shw] at h
 | .iob _ _,h=>by simp [shw] at h
theorem vR:∀ds:List D,aAT ds=true→yW ds=true∧PyData.leavesShortAll 13 (yS ds)=true∧aAh (yS ds)=true∧PyData.showableAll (yS ds)=true
 | [],_=>by rw [yW,yS,PyData.leavesShortAll,aAh,PyData.showableAll];exact ⟨rfl,rfl,rfl,rfl⟩
 | d::ds,h=>by
  rw [aAT,Bool.and_eq_true] at h
  obtain ⟨a0,a1,a2,a3⟩:=yO d h.1
  obtain ⟨b0,b1,b2,b3⟩:=vR ds h.2
  rw [yW,yS,PyData.leavesShortAll,aAh,PyData.showableAll,a0,a1,a2,a3,b0,b1,b2,b3]
  exact ⟨rfl,rfl,rfl,rfl⟩
theorem shwk_ok:∀kds:List (Key×D),aA0 kds=true→aAv kds=true∧PyData.leavesShortKv 13 (yU kds)=true∧aAn (yU kds)=true∧PyData.showableKv (yU kds)=true
 | [],_=>by rw [aAv,yU,PyData.leavesShortKv,aAn,PyData.showableKv];exact ⟨rfl,rfl,rfl,rfl⟩
 | (k,d)::r,h=>by
  rw [aA0,Bool.and_eq_true,Bool.and_eq_true] at h
  obtain ⟨a0,a1,a2,a3⟩:=yO d h.1.2
  obtain ⟨b0,b1,b2,b3⟩:=shwk_ok r h.2
  have hk:ShP (aAA k):=by
   have hh:=h.1.1
   cases k with
   | inl i=>exact shp_int hh
   | inr x=>exact shp_str hh
  obtain ⟨c1,c2,c3⟩:=hk
  rw [aAv,yU,PyData.leavesShortKv,aAn,PyData.showableKv,a0,a1,a2,a3,b0,b1,b2,b3,c1,c2,c3]
  exact ⟨rfl,rfl,rfl,rfl⟩
end
structure Vd (m n:Nat) (d:D):Prop where
 sh:shw d=true
 dp:(pyE d).depth≤m
 bk:(pyE d).bulk≤n
theorem Vd.mono {m n m' n':Nat} {d:D} (h:Vd m n d) (hm:m≤m') (hn:n≤n'):Vd m' n' d:=⟨h.sh,Nat.le_trans h.dp hm,Nat.le_trans h.bk hn⟩
theorem Vd.ok {m n:Nat} {d:D} (h:Vd m n d):okE d=true:=(yO d h.sh).1
section
variable {C:DL.Ctx} {L:Lp} {Q:D→Lp→Prop}
end
end DL
namespace DL
open PySem PySem.Spec PyProof.Rows L2
section
variable {C:DL.Ctx} {Γ:Gm} {L:Lp} {Q:D→Lp→Prop} {pos:Pos}
end
end DL
namespace DL
open PySem PySem.Spec PyProof.Rows L2
section
variable {C:DL.Ctx} {Γ:Gm} {L:Lp} {Q:D→Lp→Prop} {e o:Expr} {pos apos p p2 pos2:Pos}
theorem mul_T {ds:List D} {k:Int} (h2:2≤k) (h3:k≤1000) (hn:ds≠ []) (hz:ds.length≤1000) (q:Q (.tup (List.replicate k.toNat ds).flatten) L):L2R C (rRepT C.X.K) (.tup ds) (.int k) L Q:=fun F vx vy H c rx ry QV go=>by
 obtain ⟨a,vs,rfl,ha,ra⟩:=rx.tupE
 rw [ry.intE]
 have hl:=ra.length
 refine ⟨a,k,vs,rfl,rfl,SqT.of ha,fun z=>hn (by rw [z] at hl;exact List.length_eq_zero_iff.mp hl.symm),h2,h3,by omega,fun t ht=> ?_⟩
 have rr:∀n,bG C.X.K F H (List.replicate n vs).flatten (List.replicate n ds).flatten:=fun n=>by
  induction n with
  | zero=>exact .nil
  | succ n ih=>rw [List.replicate_succ,List.replicate_succ,List.flatten_cons,List.flatten_cons];exact ra.append ih
 have hz3:(List.replicate k.toNat ds).flatten.length≤sizeLine:=by
  rw [List.length_flatten,List.map_replicate,List.sum_replicate_nat,dF]
  have:k.toNat*ds.length≤1000*1000:=Nat.mul_le_mul (by omega) hz
  omega
 exact go _ _ _ L (Rep.tupI upd_same ((rr k.toNat).mono (.new ht)) hz3) (c.new ht) (.new ht) q
theorem j_mulT {ds:List D} {k:Int} (h2:2≤k) (h3:k≤1000) (hn:ds≠ []) (hz:ds.length≤1000) (q:Q (.tup (List.replicate k.toNat ds).flatten) L):OpJ C (.bin .Mult) Γ (.tup ds) (.int k) L Q:=OpJ.of (t:= .bin .Mult) op_repT (mul_T h2 h3 hn hz q)
end
end DL
namespace DL
open PySem PySem.Spec PyProof.Rows L2
abbrev Mks:=List (Addr×Addr×Str)
def L00 (cs:Mks):Lp:=fun b=>(cs.find? fun p=>p.2.1==b).map fun p=>MO.tab p.2.2
def aAI (cs:Mks) (H:Hp):Prop:= ∀b,H b=none∨(H b=some (.tbl #[])∧∃p∈cs,p.2.1=b)∨∃o xs,H b=some (.frz o (.lst xs))
theorem law_spT {P:Program} {w:World} {K:PySem.W.Frag} {H:Hp} {a:Addr} {ns:List Int} {sp:SpA} {cs:Mks} (hO:aAI cs H) (hT:∀p∈cs,H p.2.1=some (.tbl #[])) (hS:SqL K H a (ns.map V.int)) (h:∀Q R,Q (.bl true) (L00 cs)→sp [.ilst ns] (L00 cs) Q R):aAR P w K sp [.ref a] H (fun v _=>v= .bl true) fun _ _ _=>False:=by
 refine ⟨[.ilst ns],L00 cs,fun _=>False,fun d _=>d= .bl true,fun _ _ _=>False,.cons (.ilst ?_) .nil,⟨fun b o e=> ?_,fun b z=>z.elim⟩,h _ _ rfl,fun d L' ed v H' rv _ _=>by subst ed;exact rv.blE,fun _ _ _ z=>z.elim⟩
 ·rcases hS with (q | ⟨o,q⟩) | q
  ·rcases hO a with z | ⟨z,_⟩ | ⟨o,xs,z⟩ <;> rw [q] at z <;> cases z
  ·exact .inl ⟨o,q⟩
  ·exact .inr q
 ·obtain ⟨p,hp,rfl⟩:=Option.map_eq_some_iff.mp (show (cs.find? fun p=>p.2.1==b).map (fun p=>MO.tab p.2.2)=some o from e)
  have ep:p.2.1=b:=beq_iff_eq.mp (List.find?_some (p:=fun p:Addr×Addr×Str=>p.2.1==b) hp)
  refine ⟨#[],by rw [←ep];exact hT p (List.mem_of_find?_eq_some hp),True.intro,fun pos cv z=> ?_⟩
  have z:codeAmong pos []=some cv:=z
  simp [codeAmong] at z
theorem call_lawT {P:Program} {w:World} {K:PySem.W.Frag} {mg mb:Str→Option Value} {CX:CXT} {fa a:Addr} {s₁:Shared} {vs:List Value} {ns:List Int} {cs:Mks}
  (KX:K.In s₁.heap) (hm:s₁.heap.Ns mainGlobals mg) (hb:s₁.heap.Ns builtinsNs mb) (hbb:∀x:Str,x≠"__name__"→mb x=bootBuiltins x) (hlim:s₁.heap.NoLimit) (hg:s₁.gens= #[])
  (tE:∀p∈cs,s₁.heap.get? p.2.1=some {cls:= .none,data:= .fields #[]}) (tN:∀p∈cs,K.lookup p.2.1=none) (tC:∀p∈cs,PySem.W.CodeHd s₁.heap p.1 p.2.1)
  (bmn:∃(bm:Addr) (ob:Obj),mg "__builtins__"=some (.ref bm)∧bm≠builtinsNs∧s₁.heap.get? bm=some ob∧ob.cls= .type "module"∧ob.dict=some builtinsNs∧ob.data= .plain)
  (ha:s₁.heap.get? a=some {cls:= .type "list",data:= .seq vs.toArray}) (hi:IntsAre vs ns) (hl:ns.length≤sizeLine) (hsy:∃mm,s₁.heap.Ns sysModules mm)
  (F:∀(base:Heap) (H:Hp),K.In base→base.Ns mainGlobals mg→(∃o,base.get? sysModules=some o)→(∀p∈cs,LamX.TabB base mg p.1 p.2.1)→Env0 P w K mg base callerA [] s₁ H→aAI cs H→(∀p∈cs,H p.2.1=some (.tbl #[]))→SqL K H a (ns.map V.int)→codeAny (model P w) callerA (.call (.ref fa) ⟨[.ref a],[]⟩) (CR CX [] P w H s₁ (fun v _=>v= .bl true) fun _ _ _=>False) s₁)
  (hX:∀H e s',CX [] H s₁ (fun _ _ _=>False) e s'→False):
  codeAny (model P w) callerA (.call (.ref fa) ⟨[.ref a],[]⟩) (fun r s'=>r= .ok (.ret (.bool true))∧OldK s₁.heap s'.heap∧s'.os=s₁.os∧AllBare s'.gens) s₁:=by
 have rv:=vals_ints hi
 have isTab:∀b:Addr,(∃p∈cs,p.2.1=b)→s₁.heap.get? b=some {cls:= .none,data:= .fields #[]}:=fun b ⟨p,hp,e⟩=>by rw [←e];exact tE p hp
 have notA:¬∃p∈cs,p.2.1=a:=fun z=>by
  have q:=isTab a z
  rw [ha] at q
  cases (show Data.seq vs.toArray _=Data.fields #[] from congrArg Obj.data (Option.some.inj q))
 have main:∀H:Hp,aAI cs H→(∀p∈cs,H p.2.1=some (.tbl #[]))→SqL K H a (ns.map V.int)→HOk P w H s₁.heap→(∀b,H b≠none→b=a∨∃p∈cs,p.2.1=b)→(H a≠none→K.lookup a=none)→
   codeAny (model P w) callerA (.call (.ref fa) ⟨[.ref a],[]⟩) (fun r s'=>r= .ok (.ret (.bool true))∧OldK s₁.heap s'.heap∧s'.os=s₁.os∧AllBare s'.gens) s₁:=by
  intro H hO hT hS hok hA hK
  have out:∀{b:Addr} {o:Obj},s₁.heap.get? b=some o→(H b≠none→False)→(hidT s₁.heap H).get? b=some o:=fun {b o} z nz=>hidT_get z (by
   cases q:H b with
   | none=>rfl
   | some u=>exact (nz (by rw [q];simp)).elim)
  have other:∀{b:Addr} {o:Obj},s₁.heap.get? b=some o→(∀xs n,o.data≠ .seq xs n)→o.data≠ .fields #[]→H b≠none→False:=fun {b o} z n1 n2 nz=>by
   rcases hA b nz with eb | eb
   ·rw [eb,ha] at z
    cases z
    exact n1 _ _ rfl
   ·rw [isTab b eb] at z
    cases z
    exact n2 rfl
  have nsk:∀{b:Addr} {m:Str→Option Value},s₁.heap.Ns b m→(hidT s₁.heap H).Ns b m:=fun {b m} h=>by
   obtain ⟨o,es,ep,z,d,r⟩:=h
   exact ⟨o,es,ep,out z (other z (fun xs n q=>by rw [d] at q;cases q) fun q=>by rw [d] at q;cases q),d,r⟩
  have kb:K.In (hidT s₁.heap H):=fun b o z=>out (KX b o z) fun nz=>by
   rcases hA b nz with eb | ⟨p,hp,eb⟩
   ·rw [eb] at z nz
    rw [hK nz] at z
    cases z
   ·rw [←eb,tN p hp] at z
    cases z
  have md:Mod K mg (hidT s₁.heap H):=⟨kb,nsk hm,⟨mb,nsk hb,hbb⟩,let ⟨mc,h1,h2⟩:=hlim;⟨mc,nsk h1,h2⟩⟩
  have tabs:∀p∈cs,LamX.TabB (hidT s₁.heap H) mg p.1 p.2.1:=fun p hp=>by
   have eT:=tE p hp
   refine ⟨?_,?_,fun z=> ?_⟩
   ·obtain ⟨o,us,fl,tf,fg,tg,iF,tx,tt,z,q1,q2,q3,rest⟩:=tC p hp
    exact ⟨o,us,fl,tf,fg,tg,iF,tx,tt,out z (other z (fun xs n q=>by rw [q2] at q;cases q) fun q=>by rw [q2] at q;cases q;simp at q3),q1,q2,q3,rest⟩
   ·obtain ⟨bm,ob,q1,q2,z,q4,q5,q6⟩:=bmn
    refine ⟨bm,ob,q1,q2,fun e=> ?_,fun e=> ?_,out z (other z (fun xs n q=>by rw [q6] at q;cases q) fun q=>by rw [q6] at q;cases q),q4,q5,q6⟩
    ·obtain ⟨o,es,ep,z2,d,_⟩:=hm
     rw [e,z2] at z
     cases z
     rw [d] at q6
     cases q6
    ·rw [e,eT] at z
     cases z
     cases q6
   ·obtain ⟨o,es,ep,z2,d,_⟩:=hm
    rw [z,eT] at z2
    cases z2
    cases d
  have e0:Env0 P w K mg (hidT s₁.heap H) callerA [] s₁ H:=⟨rfl,md,fun b o z=>of_hidT z,Nat.le_of_eq (hidT_size _ _),trivial,(fun b z=>nomatch z),hok,.of_eq hg⟩
  refine codeAny_mono (F _ H kb (nsk hm) (let ⟨_,z⟩:=hsy;let ⟨o,_,_,e,_⟩:=nsk z;⟨o,e⟩) tabs e0 hO hT hS) fun r s' hr=> ?_
  match r,hr with
  | .error e,hr=>exact (hX H e s' hr).elim
  | .ok (.ret u),⟨v,H',os,bare,un,hok',ru,ev⟩=>
   subst ev
   cases (show u=Value.bool true from ru)
   have same:∀b o,(¬∃p∈cs,p.2.1=b)→s₁.heap.get? b=some o→s'.heap.get? b=some o:=fun b o nb z=>by
    rcases hO b with q | ⟨_,q⟩ | ⟨ob,xs,q⟩
    ·exact un.keep b o z q (fun zz=>nomatch zz) (by simp)
    ·exact (nb q).elim
    ·obtain ⟨e1,_⟩:=hok b _ q
     obtain ⟨e2,_⟩:=hok' b _ (un.frzs b ob _ q)
     rw [z] at e1
     cases e1
     exact e2
   have more:∀p∈cs,∃ps:Array Value,s'.heap.get? p.2.1=some {cls:= .none,data:= .fields ps}:=fun p hp=>by
    obtain ⟨ps,z⟩:=un.tbls _ _ (hT p hp)
    exact ⟨_,hok' _ _ z⟩
   refine ⟨rfl,⟨fun b o z=> ?_,fun b o z=> ?_⟩,os,bare⟩
   ·by_cases hb:∃p∈cs,p.2.1=b
    ·obtain ⟨p,hp,rfl⟩:=hb
     obtain ⟨ps,q⟩:=more p hp
     rw [tE p hp] at z
     cases z
     exact .inr (.inl ⟨((tC p hp).tab (tE p hp)).isCodeTable,rfl,#[],ps,rfl,by simpa using q⟩)
    ·exact .inl (same b o hb z)
   ·by_cases hb:∃p∈cs,p.2.1=b
    ·obtain ⟨p,hp,rfl⟩:=hb
     obtain ⟨ps,q⟩:=more p hp
     exact ⟨_,q⟩
    ·exact ⟨o,same b o hb z⟩
 have dec:∀b:Addr,(∃p∈cs,p.2.1=b)∨¬∃p∈cs,p.2.1=b:=fun b=>Classical.em _
 obtain ⟨T0,t1,t2⟩:∃T0:Hp,(∀p∈cs,T0 p.2.1=some (.tbl #[]))∧∀b,(T0 b=none∧¬∃p∈cs,p.2.1=b)∨(T0 b=some (.tbl #[])∧∃p∈cs,p.2.1=b):=by
  refine ⟨fun b=>if (cs.any fun p=>p.2.1==b)=true then some (.tbl #[]) else none,fun p hp=>if_pos (List.any_eq_true.mpr ⟨p,hp,beq_self_eq_true p.2.1⟩),fun b=> ?_⟩
  by_cases h:(cs.any fun p=>p.2.1==b)=true
  ·obtain ⟨p,hp,e⟩:=List.any_eq_true.mp h
   exact .inr ⟨if_pos h,p,hp,beq_iff_eq.mp e⟩
  ·exact .inl ⟨if_neg h,fun ⟨p,hp,e⟩=>h (List.any_eq_true.mpr ⟨p,hp,by rw [e];exact beq_self_eq_true _⟩)⟩
 have hokT:HOk P w T0 s₁.heap:=fun b u z=>by
  rcases t2 b with ⟨q,_⟩ | ⟨q,q2⟩
  ·rw [q] at z;cases z
  ·rw [q] at z
   cases z
   exact isTab b q2
 have a0:T0 a=none:=by
  rcases t2 a with ⟨q,_⟩ | ⟨_,q⟩
  ·exact q
  ·exact (notA q).elim
 cases hk:K.lookup a with
 | some o=>
  have z:=KX a o hk
  rw [ha] at z
  cases z
  refine main T0 (fun b=> ?_) t1 (.inr ⟨_,vs.toArray,_,hk,rfl,rfl,rfl,by rw [List.size_toArray,hi.length];exact hl,by simpa using rv⟩) hokT (fun b z=> ?_) fun z=>(z a0).elim
  ·rcases t2 b with ⟨q,_⟩ | q
   ·exact .inl q
   ·exact .inr (.inl q)
  ·rcases t2 b with ⟨q,_⟩ | ⟨_,q⟩
   ·exact (z q).elim
   ·exact .inr q
 | none=>
  have at1:upd T0 a (.frz {cls:= .type "list",data:= .seq vs.toArray} (.lst (ns.map V.int))) a=some (.frz {cls:= .type "list",data:= .seq vs.toArray} (.lst (ns.map V.int))):=upd_same
  have at2:∀b,b≠a→upd T0 a (.frz {cls:= .type "list",data:= .seq vs.toArray} (.lst (ns.map V.int))) b=T0 b:=fun b nb=>upd_ne nb
  have neA:∀p∈cs,p.2.1≠a:=fun p hp e=>notA ⟨p,hp,e⟩
  refine main (upd T0 a (.frz {cls:= .type "list",data:= .seq vs.toArray} (.lst (ns.map V.int)))) (fun b=> ?_) (fun p hp=>by rw [at2 _ (neA p hp)];exact t1 p hp) (.inl (.inr ⟨_,at1⟩)) (fun b u z=> ?_) (fun b z=> ?_) fun _=>hk
  ·by_cases eb:b=a
   ·subst eb;exact .inr (.inr ⟨_,_,at1⟩)
   ·rw [at2 b eb]
    rcases t2 b with ⟨q,_⟩ | q
    ·exact .inl q
    ·exact .inr (.inl q)
  ·by_cases eb:b=a
   ·subst eb
    rw [at1] at z
    cases z
    exact ⟨ha,by rw [List.length_map];exact hl,vs,_,rv,ha⟩
   ·rw [at2 b eb] at z
    rcases t2 b with ⟨q,_⟩ | ⟨q,q2⟩
    ·rw [q] at z;cases z
    ·rw [q] at z
     cases z
     exact isTab b q2
  ·by_cases eb:b=a
   ·exact .inl eb
   ·rw [at2 b eb] at z
    rcases t2 b with ⟨q,_⟩ | ⟨_,q⟩
    ·exact (z q).elim
    ·exact .inr q
def aA8 (l:PySem.W.OpenLaw) (w:World) (K:PySem.W.Frag) (k:Nat) (sp:SpA) (cs:Mks) (mg:Str→Option Value) (fa:Addr) (h:Heap):Prop:=
 (∀p∈cs,h.get? p.2.1=some {cls:= .none,data:= .fields #[]})∧(∀p∈cs,K.lookup p.2.1=none)∧(∀p∈cs,PySem.W.CodeHd h p.1 p.2.1)∧∀base:Heap,K.In base→base.Ns mainGlobals mg→(∃o,base.get? sysModules=some o)→(∀p∈cs,LamX.TabB base mg p.1 p.2.1)→FnG l.prog w K mg base k fa sp
theorem walk_T {l:PySem.W.OpenLaw} {n k:Nat} {q:Program} {loose:List Str} {XP:(Str→Option Value)→Heap→Prop} {YP:World→Heap→Prop} {d:DefRec} {K:Params→PySem.W.Frag}
  (hn:l.most=some n) (hn2:n≤sizeLine) (hdf:d.params.defaults= []) (hr:Room k callerA)
  (hY:∀(w:World) (h:Heap),YP w h→(K w.params).In h)
  (F:∀(w:World) (mg:Str→Option Value) (fa:Addr) (h:Heap),YP w h→(K w.params).In h→h.Ns mainGlobals mg→mg d.name=some (.ref fa)→∃(cs:Mks) (sp:SpA),aA8 l w (K w.params) k sp cs mg fa h∧∀(ns:List Int) (Q:D→Lp→Prop) (R:Value→List (Str×D)→Lp→Prop),Q (.bl true) (L00 cs)→sp [.ilst ns] (L00 cs) Q R) (hin:importsNone q=true:=by rfl):
  PySem.W.WalkO q loose XP YP l.row.toRowW d [] (fun f vs=>PySem.call f vs):=by
 refine Att.attach_call hn hdf fun w s₀ s₁ mg mb fa o pm cd doc a vs ns G Y ho hd hcd hmg hobj hints hlen hg=> ?_
 have kx:=hY w _ Y
 obtain ⟨cs,sp,⟨t1,t2,t3,FL⟩,hsp⟩:=F w mg fa _ Y kx G.T.g hmg
 exact call_lawT (CX:=L2.CX l.prog w) kx G.T.g G.T.b G.T.builtins G.T.nolimit hg t1 t2 t3 G.T.bmain hobj hints (Nat.le_trans hlen hn2) (let ⟨mm,z,_⟩:=(G.T.seer hin).mods;⟨mm,z⟩) (fun base H kb hm hsy hT e0 hO hH hS=>FL base kb hm hsy hT callerA [] s₁ H [.ref a] [.ref a] _ _ hr rfl e0 (.cons rfl .nil) (law_spT hO hH hS (hsp ns))) fun H e s' z=>law_cx z
end DL
namespace K
open PySem PySem.Spec PyProof.Rows L2 DL
def top (i : Nat) : Stmt := PySem.Challenge.pw_widenedwords_k26_too_many_states.main.body.getD i (.Pass ⟨0, 0, 0, 0⟩)
def inC (i j:Nat):Stmt:=match top i with | .ClassDef _ _ _ body _ _ _ _ _ _ _=>body.getD j (.Pass ⟨0,0,0,0⟩) | s=>s
abbrev aV:Stmt:=inC 2 0
theorem sc_WideError___init__:FnScope ["self","value"] ["self","value"] (defScope aV):=⟨rfl,rfl,rfl,by decide+kernel,rfl,by decide+kernel,by decide+kernel⟩
abbrev bB:Stmt:=inC 7 0
abbrev eE:Stmt:=top 11
theorem sc_is_integer:FnScope ["value","least","most"] ["value","least","most"] (defScope eE):=⟨rfl,rfl,rfl,by decide+kernel,rfl,by decide+kernel,by decide+kernel⟩
abbrev jJ:Stmt:=top 12
theorem sc_is_word:FnScope ["value","letter"] ["value"] (defScope jJ):=⟨rfl,rfl,rfl,by decide+kernel,rfl,by decide+kernel,by decide+kernel⟩
abbrev jK:Stmt:=top 13
theorem sc_is_text:FnScope ["value","word"] ["value"] (defScope jK):=⟨rfl,rfl,rfl,by decide+kernel,rfl,by decide+kernel,by decide+kernel⟩
abbrev fQ:Stmt:=top 14
theorem sc_is_rising:FnScope ["values","one","other"] ["values"] (defScope fQ):=⟨rfl,rfl,rfl,by decide+kernel,rfl,by decide+kernel,by decide+kernel⟩
abbrev iD:Stmt:=top 15
theorem sc_is_words:FnScope ["value","most"] ["value","most"] (defScope iD):=⟨rfl,rfl,rfl,by decide+kernel,rfl,by decide+kernel,by decide+kernel⟩
abbrev lU:Stmt:=top 19
theorem sc_is_row:FnScope ["row","many","count","goal"] ["row","many","count"] (defScope lU):=⟨rfl,rfl,rfl,by decide+kernel,rfl,by decide+kernel,by decide+kernel⟩
abbrev jL:Stmt:=top 20
theorem sc_is_rows:FnScope ["rows","many","most","row"] ["rows","many","most"] (defScope jL):=⟨rfl,rfl,rfl,by decide+kernel,rfl,by decide+kernel,by decide+kernel⟩
abbrev fV:Stmt:=top 21
theorem sc_column_of:FnScope ["words","word"] ["words","word"] (defScope fV):=⟨rfl,rfl,rfl,by decide+kernel,rfl,by decide+kernel,by decide+kernel⟩
abbrev jM:Stmt:=top 22
theorem sc_goal_of:FnScope ["row","column"] ["row","column"] (defScope jM):=⟨rfl,rfl,rfl,by decide+kernel,rfl,by decide+kernel,by decide+kernel⟩
abbrev cO:Stmt:=top 23
theorem sc_state_behind:FnScope ["words","rows","text","state","word"] ["words","rows","text"] (defScope cO):=⟨rfl,rfl,rfl,by decide+kernel,rfl,by decide+kernel,by decide+kernel⟩
abbrev jH:Stmt:=top 24
theorem sc_reached:FnScope ["columns","rows","first","numbers","order","at","column","goal","found","state","row"] ["columns","rows","first"] (defScope jH):=⟨rfl,rfl,rfl,by decide+kernel,rfl,by decide+kernel,by decide+kernel⟩
abbrev fW:Stmt:=top 25
theorem sc_blocks_of:FnScope ["rows","blocks","count","row","numbers","split","at","sign","goal"] ["rows"] (defScope fW):=⟨rfl,rfl,rfl,by decide+kernel,rfl,by decide+kernel,by decide+kernel⟩
abbrev bY:Stmt:=top 26
theorem sc_least_machine:FnScope ["words","rows","first","every","blocks","folded","at","row","goal","telling","column"] ["words","rows","first"] (defScope bY):=⟨rfl,rfl,rfl,by decide+kernel,rfl,by decide+kernel,by decide+kernel⟩
abbrev fU:Stmt:=top 27
theorem sc_is_either:FnScope ["name","one","other"] ["name","one","other"] (defScope fU):=⟨rfl,rfl,rfl,by decide+kernel,rfl,by decide+kernel,by decide+kernel⟩
abbrev cP:Stmt:=top 28
theorem sc_side_by_side:FnScope ["name","one","other","words","left","word","right","numbers","pairs","rows","here","there","goals","at","column","goal"] ["name","one","other"] (defScope cP):=⟨rfl,rfl,rfl,by decide+kernel,rfl,by decide+kernel,by decide+kernel⟩
abbrev jG:Stmt:=top 38
theorem sc_settled:FnScope ["words","rows","least"] ["words","rows"] (defScope jG):=⟨rfl,rfl,rfl,by decide+kernel,rfl,by decide+kernel,by decide+kernel⟩
abbrev iG:Stmt:=top 39
theorem sc_combined:FnScope ["name","one","other","words","rows"] ["name","one","other"] (defScope iG):=⟨rfl,rfl,rfl,by decide+kernel,rfl,by decide+kernel,by decide+kernel⟩
abbrev bT:Stmt:=inC 40 1
theorem sc_Texts___init__:FnScope ["self","words","rows"] ["self","words","rows"] (defScope bT):=⟨rfl,rfl,rfl,by decide+kernel,rfl,by decide+kernel,by decide+kernel⟩
abbrev iH:Stmt:=inC 40 2
theorem sc_Texts_of:FnScope ["cls","words","rows","least"] ["cls","words","rows"] (defScope iH):=⟨rfl,rfl,rfl,by decide+kernel,rfl,by decide+kernel,by decide+kernel⟩
abbrev eV:Stmt:=inC 40 3
theorem sc_Texts_only:FnScope ["cls","texts","text","words","word","begun","most","numbers","at","rows","goals"] ["cls","texts"] (defScope eV):=⟨rfl,rfl,rfl,by decide+kernel,rfl,by decide+kernel,by decide+kernel⟩
abbrev dG:Stmt:=inC 40 5
theorem sc_Texts_words:FnScope ["self"] ["self"] (defScope dG):=⟨rfl,rfl,rfl,by decide+kernel,rfl,by decide+kernel,by decide+kernel⟩
abbrev eU:Stmt:=inC 40 6
theorem sc_Texts_rows:FnScope ["self"] ["self"] (defScope eU):=⟨rfl,rfl,rfl,by decide+kernel,rfl,by decide+kernel,by decide+kernel⟩
abbrev cC:Stmt:=inC 40 8
theorem sc_Texts___and__:FnScope ["self","other"] ["self","other"] (defScope cC):=⟨rfl,rfl,rfl,by decide+kernel,rfl,by decide+kernel,by decide+kernel⟩
abbrev cR:Stmt:=inC 40 9
theorem sc_Texts___or__:FnScope ["self","other"] ["self","other"] (defScope cR):=⟨rfl,rfl,rfl,by decide+kernel,rfl,by decide+kernel,by decide+kernel⟩
abbrev cA:Stmt:=inC 40 10
theorem sc_Texts___sub__:FnScope ["self","other"] ["self","other"] (defScope cA):=⟨rfl,rfl,rfl,by decide+kernel,rfl,by decide+kernel,by decide+kernel⟩
abbrev bZ:Stmt:=inC 40 11
theorem sc_Texts___xor__:FnScope ["self","other"] ["self","other"] (defScope bZ):=⟨rfl,rfl,rfl,by decide+kernel,rfl,by decide+kernel,by decide+kernel⟩
abbrev bK:Stmt:=inC 40 12
theorem sc_Texts___invert__:FnScope ["self","row"] ["self"] (defScope bK):=⟨rfl,rfl,rfl,by decide+kernel,rfl,by decide+kernel,by decide+kernel⟩
abbrev bF:Stmt:=inC 40 13
theorem sc_Texts___floordiv__:FnScope ["self","other","first","least"] ["self","other"] (defScope bF):=⟨rfl,rfl,rfl,by decide+kernel,rfl,by decide+kernel,by decide+kernel⟩
abbrev eG:Stmt:=top 42
theorem sc__law_pot:FnScope ["_law_script","_law_k","_law_cell","_law_own","_law_mixed"] ["_law_script","_law_k"] (defScope eG):=⟨rfl,rfl,rfl,by decide+kernel,rfl,by decide+kernel,by decide+kernel⟩
abbrev fZ:Stmt:=top 43
theorem sc__law_take:FnScope ["_law_pot_here","_law_upto","_law_digit","_law_prime","_law_mixed"] ["_law_pot_here","_law_upto"] (defScope fZ):=⟨rfl,rfl,rfl,by decide+kernel,rfl,by decide+kernel,by decide+kernel⟩
abbrev jN:Stmt:=top 44
theorem sc__law_of:FnScope ["_law_pot_here","_law_some"] ["_law_pot_here","_law_some"] (defScope jN):=⟨rfl,rfl,rfl,by decide+kernel,rfl,by decide+kernel,by decide+kernel⟩
abbrev fX:Stmt:=top 45
theorem sc__law_word:FnScope ["_law_pot_here","_law_way","_law_many","_law_lap"] ["_law_pot_here"] (defScope fX):=⟨rfl,rfl,rfl,by decide+kernel,rfl,by decide+kernel,by decide+kernel⟩
abbrev eQ:Stmt:=top 46
theorem sc__law_names:FnScope ["_law_pot_here","_law_many","_law_stem","_law_found","_law_spot","_law_lap","_law_word_here","_law_one"] ["_law_pot_here","_law_many"] (defScope eQ):=⟨rfl,rfl,rfl,by decide+kernel,rfl,by decide+kernel,by decide+kernel⟩
abbrev fY:Stmt:=top 47
theorem sc__law_told:FnScope ["_law_call","_law_caught","_law_back","error"] ["_law_call"] (defScope fY):=⟨rfl,rfl,rfl,by decide+kernel,rfl,by decide+kernel,by decide+kernel⟩
abbrev cQ:Stmt:=top 48
theorem sc__law_counter:FnScope ["_law_word_here","_law_size","_law_rest","_law_at"] ["_law_word_here","_law_size","_law_rest"] (defScope cQ):=⟨rfl,rfl,rfl,by decide+kernel,rfl,by decide+kernel,by decide+kernel⟩
abbrev gA:Stmt:=top 49
theorem sc__law_ends:FnScope ["_law_call","_law_many","_law_caught","_law_back"] ["_law_call","_law_many"] (defScope gA):=⟨rfl,rfl,rfl,by decide+kernel,rfl,by decide+kernel,by decide+kernel⟩
abbrev aZ:Stmt:=top 50
theorem sc__law_counters_right:FnScope ["_law_pot_here","_law_names_here","_law_size","_law_times","_law_one","_law_other","_law_many","_law_both"] ["_law_pot_here","_law_names_here"] (defScope aZ):=⟨rfl,rfl,rfl,by decide+kernel,rfl,by decide+kernel,by decide+kernel⟩
abbrev xU:Stmt:=top 51
theorem sc_law:FnScope ["_law_script","_law_pot_here","_law_names_here","_law_sizes","_law_texts","_law_name","_law_size"] ["_law_script"] (defScope xU):=⟨rfl,rfl,rfl,by decide+kernel,rfl,by decide+kernel,by decide+kernel⟩
end K
set_option hygiene false in
local macro_rules | `(tactic| k_get) => `(tactic| first
 | refine aA 0 rfl ?_ | refine aA 1 rfl ?_ | refine aA 2 rfl ?_ | refine aA 3 rfl ?_ | refine aA 4 rfl ?_ | refine aA 5 rfl ?_ | refine aA 6 rfl ?_ | refine aA 7 rfl ?_ | refine aA 8 rfl ?_ | refine aA 9 rfl ?_ | refine aA 10 rfl ?_ | refine aA 11 rfl ?_ | refine aA 12 rfl ?_
 | refine aG ?_ | refine aAe ?_ | refine xQ ?_ | refine gY ?_ | refine bV ?_ | refine fL ?_
 | refine oK ?_ | refine ae_or ?_ | refine oF ?_ | refine zK ?_ | refine qC ?_ | refine oG ?_
 | refine yD (u64 hr) ?_ | refine aAH (u64 hr) ?_ | refine ae_lt (u64 hr) ?_ | refine ae_le ?_ | refine ae_gt ?_ | refine ae_ge ?_ | refine ae_in (u1 hr) ?_ | refine ae_nin (u1 hr) ?_ | refine ae_is ?_ | refine ae_isn ?_
 | refine ae_lele ?_
 | refine qD ?_ | refine sU ?_ | refine ae_mul ?_ | refine ae_mod ?_ | refine ae_div ?_
 | refine kW aAZ ?_ | refine aR (dJ (u1 hr)) ?_
 | refine aX B.len ?_ | refine ae_c_int B.int ?_ | refine ae_c_abs B.abs ?_ | refine uP B.max ?_ | refine ae_c_min B.min ?_ | refine lA B.isinstance ?_
 | refine nA B.tuple (?_:AL _ (.ListComp _ _ _ _) _ _ _) | refine iJ B.tuple ?_ | refine wR B.all ?_ | refine ae_anyL B.any ?_
 | refine aK (by assumption) (hr.mono (by omega)) ?_
 | refine cJ ?_
 | refine iW (T:="tuple") B.tuple (by decide+kernel) ?_ | refine iW (T:="str") B.str (by decide+kernel) ?_ | refine iW (T:="list") B.list (by decide+kernel) ?_ | refine iW (T:="int") B.int (by decide+kernel) ?_ | refine iW (T:="bool") B.bool (by decide+kernel) ?_)
set_option hygiene false in
local macro_rules | `(tactic| k_put) => `(tactic| first
 | refine yE ?_ | refine add_T ?_ ?_ | refine add_S ?_ ?_ | refine xR ?_ | refine aAD ?_ | refine aAL ?_ | refine aAU ?_ | refine ne_S ?_ | refine aA2 ?_ | refine lt_S ?_ | refine le_I ?_ | refine aAN ?_ | refine ge_I ?_
 | refine isa_N ?_ | refine isnota_N ?_ | refine bQ ?_ rfl | refine ixa_N ?_ rfl | refine pD (by assumption) ?_ rfl | refine mod_I ?_ ?_ | refine div_I ?_ ?_ | refine mul_I ?_ ?_ | refine mul_S ?_ ?_ ?_ ?_ | refine in_W (by assumption) ?_ | refine notIn_W (by assumption) ?_ | refine in_sign ?_ | refine in_L (by assumption) ?_ | refine notIn_L (by assumption) ?_ | refine in_T ?_ | refine notIn_T ?_ | refine eq_W0 ?_ | refine eq_W ?_ | refine ne_W ?_ | refine eq_C ?_ | refine ne_C ?_ | refine r_ipI ?_)
set_option hygiene false in
local macro_rules | `(tactic| k_go) => `(tactic| first
 | (show DL.ASs _ _ _ _ _;first | refine aM ?_ | refine aH ?_ | refine bM ?_)
 | (show DL.AS _ _ _ _ _;first | refine aW ?_ | refine dB ?_ | refine gM ?_ | refine aQ 0 ?_ | refine aQ 1 ?_ | refine aQ 2 ?_ | refine aQ 3 ?_ | refine aQ 4 ?_ | refine aQ 5 ?_ | refine aQ 6 ?_ | refine aQ 7 ?_ | refine aQ 8 ?_ | refine aQ 9 ?_ | refine aQ 10 ?_ | refine aQ 11 ?_ | refine pY 0 ip_add rfl ?_ | refine pY 1 ip_add rfl ?_ | refine pY 2 ip_add rfl ?_ | refine pY 3 ip_add rfl ?_ | refine pY 4 ip_add rfl ?_ | refine pY 5 ip_add rfl ?_ | refine pY 6 ip_add rfl ?_ | refine as_retN ?_ | refine as_pass ?_ | refine as_break ?_ | refine as_continue ?_)
 | (show AE _ _ _ _ _;k_get)
 | (show AT _ _ _ _ _;first | refine aAO (?_:AW _ (.BoolOp _ _ _) _ _ _) | refine eY ?_ | refine xZ (u64 hr) ?_ | refine at_ne (u64 hr) ?_ | refine aAc (u64 hr) ?_ | refine at_le ?_ | refine xY ?_ | refine at_ge ?_ | refine aAG (u1 hr) ?_ | refine at_nin (u1 hr) ?_ | refine at_is ?_ | refine at_isn ?_ | refine at_lele ?_ | refine dX ?_)
 | (show AW _ _ _ _ _;first | refine aw_and ?_ | refine uL ?_ | refine aw_and1 ?_ | refine sO ?_)
 | (show AA _ _ _ _ _;first | refine aC ?_ | refine aF ?_)
 | (show AO _ _ _ _ _;first | refine mY ?_ | refine mZ ?_)
 | (show L2R _ _ _ _ _ _;k_put)
 | (show LcR _ _ _ _ _;first | refine len_T ?_ | refine len_N ?_ | refine len_S ?_ | refine qG (by assumption) ?_ | refine len_D (by assumption) ?_ | refine lE ?_ | refine c_intB ?_ | refine aAF ?_ | refine aAE ?_ | refine c_min ?_ | refine c_tupT ?_ | refine sE (by assumption) ?_ | refine uZ ?_ | refine isi_ii ?_ | refine isi_ib ?_ | refine isi_ss ?_ | refine isi_is ?_ | refine isi_ts ?_ | refine isi_st ?_ | refine isi_bb ?_)
 | (show LsR _ _ _ _ _ _ _;first | refine sla_T ?_ | refine sla_S ?_)
 | refine ⟨Nat.le_of_ble_eq_true rfl,?_⟩
 | refine ⟨_,rfl,?_⟩ | refine ⟨_,_,rfl,?_⟩ | refine ⟨_,_,_,rfl,?_⟩ | refine ⟨_,_,_,_,rfl,?_⟩
 | exact ⟨_,.refl _,q⟩)
set_option hygiene false in
local macro_rules | `(tactic| walk) => `(tactic| repeat k_go)
set_option hygiene false in
local macro_rules | `(tactic| k_few) => `(tactic| first | refine ⟨fun _ => ?_, (fun z => Bool.noConfusion z)⟩ | refine ⟨(fun z => Bool.noConfusion z), fun _ => ?_⟩)
set_option hygiene false in
local macro_rules | `(tactic| k_not) => `(tactic| refine ⟨fun hk => ?_, fun hk => ?_⟩)
namespace K
open PySem PySem.Spec PyProof.Rows L2 DL
structure Bl (mg:Str→Option Value):Prop where
 tuple:mg "tuple"=none
 list:mg "list"=none
 len:mg "len"=none
 any:mg "any"=none
 all:mg "all"=none
 range:mg "range"=none
 zip:mg "zip"=none
 isinstance:mg "isinstance"=none
 str:mg "str"=none
 sorted:mg "sorted"=none
 set:mg "set"=none
 dict:mg "dict"=none
 max:mg "max"=none
 min:mg "min"=none
 abs:mg "abs"=none
 int:mg "int"=none
 bool:mg "bool"=none
 sum:mg "sum"=none
 repr:mg "repr"=none
 enumerate:mg "enumerate"=none
def GI (mg:Str→Option Value) (x:Str) (i:Int):Prop:= ∃t,mg x=some (.int i t)
def GS (mg:Str→Option Value) (x y:Str):Prop:= ∃t,mg x=some (.str y t)
section
variable {P:Program} {w:World} {K:PySem.W.Frag} {mg:Str→Option Value} {base:Heap} {f:Addr} {fd:FuncData}
def jT:SpA:=fun ds L Q _=> ∃(i a b:Int),ds= [.int i,.int a,.int b]∧Q (.bl (decide (a≤i) && decide (i≤b))) L
theorem ok_is_integer (F:Fun K "is_integer" "is_integer" eE f fd) (hb:Binds K fd ["value","least","most"] []) (B:Bl mg):FnA P w K mg base 1 f jT:=by
 refine fnA F sc_is_integer hb (fun ds L Q R h=>by obtain ⟨_,_,_,rfl,_⟩:=h;rfl) fun cdv A outer s H E ds L Q R hr h=> ?_
 obtain ⟨i,a,b,rfl,q⟩:=h
 walk
 k_few
 walk
 k_few
 walk
 k_not
 ·rw [hk] at q
  walk
 ·rw [hk] at q
  exact ⟨L,.refl L,q⟩
def oR:SpA:=fun ds L Q _=> ∃x:Str,ds= [.str x]∧wdS x=true∧Q (.bl true) L
theorem ok_is_word (F:Fun K "is_word" "is_word" jJ f fd) (hb:Binds K fd ["value"] []) (B:Bl mg) (g1:GI mg "MOST_LETTERS" 8) (g2:GS mg "LETTERS" "abcdefghijklmnopqrstuvwxyz"):FnA P w K mg base 1 f oR:=by
 refine fnA F sc_is_word hb (fun ds L Q R h=>by obtain ⟨_,rfl,_⟩:=h;rfl) fun cdv A outer s H E ds L Q R hr h=> ?_
 obtain ⟨x,rfl,hw,q⟩:=h
 obtain ⟨t1,g1⟩:=g1
 obtain ⟨t2,g2⟩:=g2
 have hw2:=hw
 unfold wdS at hw2
 rw [Bool.and_eq_true,Bool.and_eq_true] at hw2
 have h1:=of_decide_eq_true hw2.1.1
 have h8:=of_decide_eq_true hw2.1.2
 refine aH (dB (aAO (uL (eY (dX (lA B.isinstance (aA 0 rfl (iW (T:="str") B.str (by decide+kernel) (isi_ss ⟨true,rfl,(fun z=>nomatch z),fun _=>sO (eY ?_)⟩)))))))))
 refine at_chain op_le op_le (aG (bO call_len_str B.len (aC (aA 0 rfl (aF (zG (aA7 ⟨_,rfl,fun h1=>oH g1 (aA7 ⟨_,rfl,?_⟩),fun h1=> ?_⟩))))))) (pt_chain op_le op_le bA bA bA)
 ·refine ⟨fun h2=>absurd h2 (by simp;omega),fun h2=>bM (aM (aW (uQ [("letter",1)] B.all (ai_str (aA 0 rfl ⟨x,rfl,fun hx=>⟨fun d=>match d with | .str z=>decide (z.cps.toList.headD 0∈abc) | _=>false,trivial,?_,each1 (fun j hj=>hj) (fun i d hd s H Cc cl fp=>⟨aP 1,fun Q q=> ?_⟩),L,.refl L,?_⟩⟩)))))⟩
  ·rw [signs_len];exact hx.len
  ·obtain ⟨k,hk,rfl⟩:=signs_get hd
   exact jB op_in_sign rfl (aA 1 rfl (ae_globS g2 (r_inSign q) (hz:=⟨by decide+kernel,by decide+kernel⟩)))
  ·have e:((DL.dR x).all fun d=>match d with | .str z=>decide (z.cps.toList.headD 0∈abc) | _=>false)=true:=by
    unfold DL.dR
    rw [List.all_map]
    exact hw2.2
   rw [e]
   exact q
 ·have:=of_decide_eq_false h1
  omega
def TxS (d:D) (ws:List Str):Prop:=(d= .wds ws∨d=dW ws)∧∀x∈ws,wdS x=true
theorem TxS.ts {d:D} {ws:List Str} (h:TxS d ws):TS d (ws.map .str):=by
 rcases h.1 with rfl | rfl
 ·exact .u ws
 ·exact .t _
theorem TxS.isi {d:D} {ws:List Str} {C:DL.Ctx} {L:Lp} {Q:D→Lp→Prop} (h:TxS d ws) (q:Q (.bl true) L):LcR C (rIsi C.X.K) [d,.ty "tuple"] L Q:=by
 rcases h.1 with rfl | rfl
 ·exact isi_U q
 ·exact uZ q
theorem TxS.len {d:D} {ws:List Str} {C:DL.Ctx} {L:Lp} {Q:D→Lp→Prop} (h:TxS d ws) (q:Q (.int ws.length) L):LcR C (rLenA C.X.K) [d] L Q:=by
 rcases h.1 with rfl | rfl
 ·exact zX q
 ·exact len_T (ds:=ws.map .str) (by rw [List.length_map];exact q)
def jD:SpA:=fun ds L Q _=> ∃(d:D) (ws:List Str),ds= [d]∧TxS d ws∧Q (.bl true) L
theorem ok_is_text (F:Fun K "is_text" "is_text" jK f fd) (hb:Binds K fd ["value"] []) (B:Bl mg) (d1:Def P w K mg base "is_word" 1 oR):FnA P w K mg base 2 f jD:=by
 refine fnA F sc_is_text hb (fun ds L Q R h=>by obtain ⟨_,_,rfl,_⟩:=h;rfl) fun cdv A outer s H E ds L Q R hr h=> ?_
 obtain ⟨d,ws,rfl,hd,q⟩:=h
 refine aM (aW (oK (lA B.isinstance (aA 0 rfl (iW (T:="tuple") B.tuple (by decide+kernel) (hd.isi ⟨_,rfl,fun _=>oF (uQ [("word",1)] B.all (yC (aA 0 rfl ⟨_,hd.ts,fun hz=>⟨fun _=>true,trivial,hz,each1 (fun j hj=>hj) (fun i x hi s H Cc cl fp=>⟨aP 1,fun Q q=> ?_⟩),L,.refl L,?_⟩⟩))),fun z=>nomatch z⟩))))))
 ·rw [List.getElem?_map] at hi
  cases e:ws[i]? with
  | none=>rw [e] at hi;cases hi
  | some y=>
   rw [e] at hi
   cases hi
   exact aK d1 (hr.mono (by omega)) (aC (aA 1 rfl (aF ⟨y,rfl,hd.2 y (List.mem_of_getElem? e),q⟩)))
 ·rw [show (ws.map D.str).all (fun _=>true)=true from List.all_eq_true.mpr fun _ _=>rfl]
  exact q
def lG:SpA:=fun ds L Q _=> ∃ws:List Str,ds= [.wds ws]∧Q (.bl (adj ws)) L
theorem ok_is_rising (F:Fun K "is_rising" "is_rising" fQ f fd) (hb:Binds K fd ["values"] []) (B:Bl mg):FnA P w K mg base 1 f lG:=by
 refine fnA F sc_is_rising hb (fun ds L Q R h=>by obtain ⟨_,rfl,_⟩:=h;rfl) fun cdv A outer s H E ds L Q R hr h=> ?_
 obtain ⟨ws,rfl,q⟩:=h
 refine aM (aW (uQ [("one",1),("other",2)] B.all (ai_zipTS B.zip (aC (aA 0 rfl (aC (kW aAZ (aA 0 rfl (mY (aG ⟨1,rfl,mZ (sla_U fun d2 h2=>aF ⟨_,d2,_,_,rfl,.u ws,h2,fun hz=>⟨ltP,trivial,?_,?_,L,.refl L,?_⟩⟩)⟩))))))))))
 ·unfold yH
  rw [List.length_zipWith]
  exact Nat.le_trans (Nat.min_le_left _ _) hz
 ·intro i d hd
  have:∃x y,d= .tup [.str x,.str y]:=by
   unfold yH at hd
   rw [List.getElem?_zipWith] at hd
   rw [cut_one,←List.map_drop,List.getElem?_map,List.getElem?_map] at hd
   cases e1:ws[i]? with
   | none=>rw [e1] at hd;cases hd
   | some x=>
    cases e2:(ws.drop 1)[i]? with
    | none=>rw [e1,e2] at hd;cases hd
    | some y=>rw [e1,e2] at hd;cases hd;exact ⟨x,y,rfl⟩
  obtain ⟨x,y,rfl⟩:=this
  refine ⟨_,_,?_,fun s H Cc cl fp=>⟨gU (aU (aP 1) (aU (aP 2) dM)),fun Q q=>jB op_lt_str rfl (aA 1 rfl (aA 2 rfl (r_ltS q)))⟩⟩
  intro j hj
  exact hj
 ·rw [cut_one,←List.map_drop,adj_zip]
  exact q
def mJ:SpA:=fun ds L Q _=> ∃(ws:List Str) (m:Nat),ds= [.wds ws,.int m]∧(∀x∈ws,wdS x=true)∧adj ws=true∧ws.length≤m∧Q (.bl true) L
theorem ok_is_words (F:Fun K "is_words" "is_words" iD f fd) (hb:Binds K fd ["value","most"] []) (B:Bl mg) (d1:Def P w K mg base "is_text" 2 jD) (d2:Def P w K mg base "is_rising" 1 lG):FnA P w K mg base 3 f mJ:=by
 refine fnA F sc_is_words hb (fun ds L Q R h=>by obtain ⟨_,_,rfl,_⟩:=h;rfl) fun cdv A outer s H E ds L Q R hr h=> ?_
 obtain ⟨ws,m,rfl,hw,ha,hm,q⟩:=h
 refine aM (aW (oK (aK d1 (hr.mono (by omega)) (aC (aA 0 rfl (aF ⟨_,ws,rfl,⟨.inl rfl,hw⟩,_,rfl,fun _=> ?_,fun z=>nomatch z⟩))))))
 refine oK (ae_le (aX B.len (aA 0 rfl (zX (aA 1 rfl (le_I ⟨_,rfl,fun _=> ?_,fun z=>absurd (of_decide_eq_false z) (by simp;omega)⟩))))))
 refine oF (aK d2 (hr.mono (by omega)) (aC (aA 0 rfl (aF ⟨ws,rfl,L,.refl L,?_⟩))))
 rw [ha]
 exact q
end
end K
namespace K
open PySem PySem.Spec PyProof.Rows L2 DL
def dI (ns:List Nat):D:= .tup (ns.map fun (g:Nat)=> .int (g:Int))
def dRw (r:rP):D:= .tup [.bl r.1,dI r.2.1,.int (r.2.2:Nat)]
def dMw (rows:Rws):D:= .tup (rows.map dRw)
def ci:Option Nat→Int
 | none=> -1
 | some c=>(c:Nat)
theorem getD_mem {α:Type} {xs:List α} {c:Nat} {d:α} (h:c < xs.length):xs[c]? =some (xs.getD c d):=by
 rw [List.getD_eq_getElem?_getD,List.getElem?_eq_getElem h]
 rfl
section
variable {P:Program} {w:World} {K:PySem.W.Frag} {mg:Str→Option Value} {base:Heap} {f:Addr} {fd:FuncData}
def qP:SpA:=fun ds L Q _=> ∃(r:rP) (n c:Nat),ds= [dRw r,.int n,.int c]∧r.2.1.length=n∧n≤1000000∧(∀g∈r.2.1,g < c)∧r.2.2 < c∧Q (.bl true) L
theorem ok_is_row (F:Fun K "is_row" "is_row" lU f fd) (hb:Binds K fd ["row","many","count"] []) (B:Bl mg) (d1:Def P w K mg base "is_integer" 1 jT):FnA P w K mg base 2 f qP:=by
 refine fnA F sc_is_row hb (fun ds L Q R h=>by obtain ⟨_,_,_,rfl,_⟩:=h;rfl) fun cdv A outer s H E ds L Q R hr h=> ?_
 obtain ⟨r,n,c,rfl,hn,hz,hg,ho,q⟩:=h
 have e1:atI ([.bl r.1,dI r.2.1,.int (r.2.2:Nat)]:List D) ((0:Nat):Int)=some (.bl r.1):=atI_nat rfl
 have e2:atI ([.bl r.1,dI r.2.1,.int (r.2.2:Nat)]:List D) ((1:Nat):Int)=some (dI r.2.1):=atI_nat rfl
 have e3:atI ([.bl r.1,dI r.2.1,.int (r.2.2:Nat)]:List D) ((2:Nat):Int)=some (.int (r.2.2:Nat)):=atI_nat rfl
 refine aH (dB (aAO (uL (eY (dX (lA B.isinstance (aA 0 rfl (iW (T:="tuple") B.tuple (by decide+kernel) (uZ ⟨true,rfl,(fun z=>nomatch z),fun _=>sO (at_ne (u64 hr) (aX B.len (aA 0 rfl (len_T (aG (aAL ⟨_,rfl,(fun z=>nomatch z),fun _=>bM ?_⟩))))))⟩)))))))))
 refine aH (dB (aAO (uL (eY (dX (lA B.isinstance (aR (dJ (u1 hr)) (aA 0 rfl (aG (bQ (iW (T:="bool") B.bool (by decide+kernel) (isi_bb ⟨true,rfl,(fun z=>nomatch z),fun _=> ?_⟩)) e1))))))))))
 refine uL (eY (dX (lA B.isinstance (aR (dJ (u1 hr)) (aA 0 rfl (aG (bQ (iW (T:="tuple") B.tuple (by decide+kernel) (uZ ⟨true,rfl,(fun z=>nomatch z),fun _=> ?_⟩)) e2)))))))
 refine sO (at_ne (u64 hr) (aX B.len (aR (dJ (u1 hr)) (aA 0 rfl (aG (bQ (len_T (aA 1 rfl (aAL ⟨_,rfl,fun z=> ?_,fun _=>bM ?_⟩))) e2))))))
 ·rw [List.length_map,hn] at z
  simp at z
 refine aM (aW (wR B.all (gH 3 (ai_L (al_disp (uR (aR (dJ (u1 hr)) (aA 0 rfl (aG (bQ ⟨_,.t _,aC (aR (dJ (u1 hr)) (aA 0 rfl (aG (bQ (aF ⟨?_,fun hz2=> ?_⟩) e3))))⟩ e2))))))))))
 ·rw [List.length_append,List.length_map,hn,dF]
  show n+1≤_
  omega
 have el:(r.2.1.map fun (g:Nat)=>D.int (g:Int))++ [D.int (r.2.2:Nat)]=(r.2.1++ [r.2.2]).map fun (g:Nat)=>D.int (g:Int):=by rw [List.map_append];rfl
 rw [el] at hz2 ⊢
 refine ⟨_,r.2.1++ [r.2.2],fun (g:Nat)=> .int (g:Int),fun _=> .bl true,rfl,trivial,hz2,fun y hy s H Cc cl fp Q q=> ?_,(r.2.1++ [r.2.2]).map fun _=>true,by rw [List.map_map];rfl,L,.refl L,?_⟩
 ·have hyc:y < c:=by
   rcases List.mem_append.mp hy with hy | hy
   ·exact hg y hy
   ·rw [List.mem_singleton.mp hy];exact ho
  refine aK d1 (hr.mono (by omega)) (aC (aA 3 rfl (aC (aG (aC (sU (aA 2 rfl (aG (xR (aF ⟨_,_,_,rfl,?_⟩))))))))))
  rw [decide_eq_true (by omega:(0:Int)≤(y:Int)),decide_eq_true (by omega:(y:Int)≤(c:Int) - 1)]
  exact q
 ·rw [show ((r.2.1++ [r.2.2]).map fun _=>true).all id=true from by rw [List.all_map];exact List.all_eq_true.mpr fun _ _=>rfl]
  exact q
def oU:SpA:=fun ds L Q _=> ∃(rows:Rws) (n m:Nat),ds= [dMw rows,.int n,.int m]∧MOk n rows∧n≤1000000∧0 < rows.length∧rows.length≤m∧Q (.bl true) L
theorem okD_dI (ns:List Nat):okD (dI ns)=true:=by
 unfold dI
 rw [okD]
 exact nW _ _ fun _ _=>by rw [okD]
theorem okD_dRw (r:rP):okD (dRw r)=true:=by
 unfold dRw
 rw [okD,oM,oM,oM,oM,okD_dI,okD,okD]
 rfl
theorem okD_dMw (rows:Rws):okD (dMw rows)=true:=by
 unfold dMw
 rw [okD]
 exact nW _ _ fun _ _=>okD_dRw _
theorem dep_I (ns:List Nat):(py (dI ns)).depth≤2:=by
 unfold dI
 rw [py,lM]
 exact rJ fun d hd=>by
  obtain ⟨n,_,rfl⟩:=List.mem_map.mp hd
  rw [py,PyData.depth]
  decide
theorem dep_Rw (r:rP):(py (dRw r)).depth≤3:=by
 unfold dRw
 rw [py,pys,pys,pys,pys]
 refine rJ fun d hd=> ?_
 simp only [List.mem_cons,List.not_mem_nil,or_false] at hd
 rcases hd with rfl | rfl | rfl
 ·rw [py,PyData.depth];decide
 ·exact dep_I _
 ·rw [py,PyData.depth];decide
theorem dep_Mw (rows:Rws):(py (dMw rows)).depth≤4:=by
 unfold dMw
 rw [py,lM]
 exact rJ fun d hd=>by
  obtain ⟨r,_,rfl⟩:=List.mem_map.mp hd
  exact dep_Rw r
theorem ok_is_rows (F:Fun K "is_rows" "is_rows" jL f fd) (hb:Binds K fd ["rows","many","most"] []) (B:Bl mg) (d1:Def P w K mg base "is_row" 2 qP):FnA P w K mg base 3 f oU:=by
 refine fnA F sc_is_rows hb (fun ds L Q R h=>by obtain ⟨_,_,_,rfl,_⟩:=h;rfl) fun cdv A outer s H E ds L Q R hr h=> ?_
 obtain ⟨rows,n,m,rfl,hM,hn,h0,hm,q⟩:=h
 refine aH (dB (aAO (uL (eY (dX (lA B.isinstance (aA 0 rfl (iW (T:="tuple") B.tuple (by decide+kernel) (uZ ⟨true,rfl,(fun z=>nomatch z),fun _=> ?_⟩)))))))))
 refine uL (xZ (u64 hr) (aA 0 rfl (bV (aF ⟨Nat.zero_le _,eq_D (okD_dMw rows) (by rw [okD,oM]) (Nat.le_trans (dep_Mw rows) (by decide)) (by rw [py,pys,PyData.depth];decide) ⟨_,rfl,fun z=> ?_,fun _=> ?_⟩⟩))))
 ·exfalso
  unfold dMw at z
  rw [py,lM,py,pys] at z
  cases rows with
  | nil=>exact absurd h0 (Nat.lt_irrefl _)
  | cons r rs=>simp [PyData.eqv,PyData.eqvAll] at z
 refine sO (xY (aX B.len (aA 0 rfl (len_T (aA 2 rfl (aAN ⟨_,rfl,fun z=> ?_,fun _=>bM ?_⟩))))))
 ·have:=of_decide_eq_true z
  rw [List.length_map] at this
  omega
 refine aM (aW (wR B.all (gH 3 (rK (aA 0 rfl ⟨_,rfl,fun hz=>⟨_,rows,dRw,fun _=> .bl true,rfl,trivial,hz,fun y hy s H Cc cl fp Q q=> ?_,rows.map fun _=>true,by rw [List.map_map];rfl,L,.refl L,?_⟩⟩)))))
 ·refine aK d1 (hr.mono (by omega)) (aC (aA 3 rfl (aC (aA 1 rfl (aC (aX B.len (aA 0 rfl (len_T (aF ?_)))))))))
  rw [List.length_map]
  exact ⟨y,n,rows.length,rfl,hM.len y hy,hn,hM.go y hy,hM.oth y hy,q⟩
 ·rw [show (rows.map fun _=>true).all id=true from by rw [List.all_map];exact List.all_eq_true.mpr fun _ _=>rfl]
  exact q
def iY:SpA:=fun ds L Q _=> ∃(ys:List Str) (x:Str),(ds= [.wds ys,.str x]∨ds= [.tup [],.str x]∧ys= [])∧Q (.int (ci (eX ys x))) L
theorem ok_column_of (F:Fun K "column_of" "column_of" fV f fd) (hb:Binds K fd ["words","word"] []):FnA P w K mg base 1 f iY:=by
 refine fnA F sc_column_of hb (fun ds L Q R h=>by obtain ⟨_,_,(rfl | ⟨rfl,_⟩),_⟩:=h <;> rfl) fun cdv A outer s H E ds L Q R hr h=> ?_
 obtain ⟨ys,x,(rfl | ⟨rfl,rfl⟩),q⟩:=h
 rotate_left
 ·refine aM (aW (oG (aAG (u1 hr) (aA 1 rfl (aA 0 rfl (in_T (ys:= []) ⟨_,rfl,fun hk=> ?_,fun hk=> ?_⟩))))))
  ·exact absurd (of_decide_eq_true hk) (fun h=>nomatch h)
  ·exact qC (aG ⟨1,rfl,L,.refl L,q⟩)
 unfold eX at q
 refine aM (aW (oG (aAG (u1 hr) (aA 1 rfl (aA 0 rfl (in_U ⟨_,rfl,fun hk=> ?_,fun hk=> ?_⟩))))))
 ·have hm:=of_decide_eq_true hk
  rw [if_pos hm] at q
  exact ae_idxU (aA 0 rfl ⟨ys,rfl,aA 1 rfl ⟨x,rfl,hm,L,.refl L,q⟩⟩)
 ·have hm:=of_decide_eq_false hk
  rw [if_neg hm] at q
  exact qC (aG ⟨1,rfl,L,.refl L,q⟩)
def jE:SpA:=fun ds L Q _=> ∃(r:rP) (c:Option Nat),ds= [dRw r,.int (ci c)]∧(∀k,c=some k→k < r.2.1.length)∧Q (.int (gl r c:Nat)) L
theorem ok_goal_of (F:Fun K "goal_of" "goal_of" jM f fd) (hb:Binds K fd ["row","column"] []):FnA P w K mg base 1 f jE:=by
 refine fnA F sc_goal_of hb (fun ds L Q R h=>by obtain ⟨_,_,rfl,_⟩:=h;rfl) fun cdv A outer s H E ds L Q R hr h=> ?_
 obtain ⟨r,c,rfl,hc,q⟩:=h
 have e2:atI ([.bl r.1,dI r.2.1,.int (r.2.2:Nat)]:List D) ((1:Nat):Int)=some (dI r.2.1):=atI_nat rfl
 have e3:atI ([.bl r.1,dI r.2.1,.int (r.2.2:Nat)]:List D) ((2:Nat):Int)=some (.int (r.2.2:Nat)):=atI_nat rfl
 refine aM (aW (oG (aAc (u64 hr) (aA 1 rfl (aG (aA2 ⟨_,rfl,fun hk=> ?_,fun hk=> ?_⟩))))))
 ·cases c with
  | none=>exact aR (dJ (u1 hr)) (aA 0 rfl (aG (bQ ⟨L,.refl L,q⟩ e3)))
  | some k=>
   have:=of_decide_eq_true hk
   have e:ci (some k)=(k:Int):=rfl
   rw [e] at this
   omega
 ·cases c with
  | none=>exact absurd (of_decide_eq_false hk) (by show ¬¬(-1:Int) < 0;decide)
  | some k=>
   have e4:atI (r.2.1.map fun (g:Nat)=>D.int (g:Int)) (k:Int)=some (.int (gl r (some k):Nat)):=atI_nat (by
    rw [List.getElem?_map,getD_mem (d:=0) (hc k rfl)]
    rfl)
   exact aR (dJ (u1 hr)) (aR (dJ (u1 hr)) (aA 0 rfl (aG (bQ (aA 1 rfl (bQ ⟨L,.refl L,q⟩ e4)) e2))))
def iK:SpA:=fun ds L Q _=> ∃(ys:List Str) (rows:Rws) (d:D) (ws:List Str),ds= [.wds ys,dMw rows,d]∧TS d (ws.map .str)∧MOk ys.length rows∧0 < rows.length∧Q (.int (nJ ys rows 0 ws:Nat)) L
theorem runM_app (ys:List Str) (rows:Rws):∀(ws:List Str) (s:Nat) (x:Str),nJ ys rows s (ws++ [x])=fG rows (nJ ys rows s ws) (eX ys x)
 | [],_,_=>rfl
 | y::ws,s,x=>runM_app ys rows ws _ x
theorem vW {ys:List Str} {rows:Rws} (hM:MOk ys.length rows):∀(ws:List Str) (s:Nat),s < rows.length→nJ ys rows s ws < rows.length
 | [],_,h=>h
 | y::ws,s,h=>vW hM ws _ (hM.gl h _ fun k e=>cY k e)
theorem ok_state_behind (F:Fun K "state_behind" "state_behind" cO f fd) (hb:Binds K fd ["words","rows","text"] []) (d1:Def P w K mg base "column_of" 1 iY) (d2:Def P w K mg base "goal_of" 1 jE):FnA P w K mg base 2 f iK:=by
 refine fnA F sc_state_behind hb (fun ds L Q R h=>by obtain ⟨_,_,_,_,rfl,_⟩:=h;rfl) fun cdv A outer s H E ds L Q R hr h=> ?_
 obtain ⟨ys,rows,d,ws,rfl,ht,hM,h0,q⟩:=h
 refine aH (aQ 3 (aG ?_))
 refine aH (oE (yC (aA 2 rfl ⟨_,ht,fun hz=> ?_⟩)))
 refine ⟨fun i Γ2 L2=> ∃g4:Option D,L2=L∧Γ2= [some (.wds ys),some (dMw rows),some d,some (.int (nJ ys rows 0 (ws.take i):Nat)),g4],⟨none,rfl,rfl⟩,fun _ _ _ _=>trivial,?_,?_⟩
 ·rintro i x Γ2 L2 hi ⟨g4,rfl,rfl⟩
  rw [List.getElem?_map] at hi
  cases e:ws[i]? with
  | none=>rw [e] at hi;cases hi
  | some y=>
   rw [e] at hi
   cases hi
   have hs:=vW hM (ws.take i) 0 h0
   have hg:atI (rows.map dRw) ((nJ ys rows 0 (ws.take i):Nat):Int)=some (dRw (rowAt rows (nJ ys rows 0 (ws.take i)))):=atI_nat (by rw [List.getElem?_map,gJ hs];rfl)
   refine ⟨_,_,aP 4,aM (aQ 3 (aK d2 (hr.mono (by omega)) (aC (aR (dJ (u1 hr)) (aA 1 rfl (aA 3 rfl (bQ ?_ hg)))))))⟩
   refine aC (aK d1 (hr.mono (by omega)) (aC (aA 0 rfl (aC (aA 4 rfl (aF ⟨ys,y,.inl rfl,aF ⟨_,eX ys y,rfl,fun k ek=> ?_,some (.str y),rfl,?_⟩⟩))))))
   ·rw [hM.len _ (cD hs)]
    exact cY k ek
   ·rw [List.take_add_one,e]
    show _= [_,_,_,some (D.int (nJ ys rows 0 (ws.take i++ [y]):Nat)),some (D.str y)]
    rw [runM_app]
    rfl
 ·rintro Γ2 L2 ⟨g4,rfl,rfl⟩
  rw [List.length_map,List.take_length]
  exact aM (aW (aA 3 rfl ⟨_,.refl _,q⟩))
end
end K
namespace K
open PySem PySem.Spec PyProof.Rows L2 DL
def aAV (L:Lp) (d:D) (xs:List D):Prop:=d= .tup xs∨LR L d xs
theorem aAV.le {L L':Lp} {d:D} {xs:List D} (h:aAV L d xs) (le:Le L L'):aAV L' d xs:=h.imp id fun z=>z.le le
theorem ixa_Q {C:DL.Ctx} {L:Lp} {Q:D→Lp→Prop} {i:Int} {d x:D} {xs:List D} (h:aAV L d xs) (q:Q x L) (e:atI xs i=some x):L2R C (rIxA C.X.K) d (.int i) L Q:=by
 rcases h with rfl | h
 ·exact bQ q e
 ·exact pD h q e
theorem ai_lr {C:DL.Ctx} {Γ:Gm} {L:Lp} {tg e:Expr} {R:List D→(Lp→Prop)→Lp→Prop} (h:AE C e Γ L fun d L1=> ∃ds,LR L1 d ds∧(ds.length≤sizeLine→∀G:Lp→Prop,G L1→R ds G L1)):AI C tg e Γ L R:=fun F σ H ok RV go=>
 oN (pi_list bA) (h _ σ H ok _ fun {F1} v d H1 L1 r c f ⟨ds,hd,q⟩=>by
  obtain ⟨a,vs,rfl,ha,ra,hz⟩:=hd.at_ c r
  rcases hd with ⟨t,rfl,ht⟩ | rfl
  ·have ea:a=t:=by injection r.ptrE
   subst ea
   refine ⟨a,rfl,⟨vs,SqL.of ha⟩,go _ H1 L1 ds (fun L=>L a=some (.lst ds)) c f (fun i H2 L2 s2 c2 g2=> ?_) (q hz _ ht)⟩
   obtain ⟨us,hb,rb,_⟩:=c2.at_ a _ g2
   have hq:SqL C.X.K H2 a us:=SqL.of hb
   refine ⟨fun hi=>⟨us,us[i]'(by rw [rb.length];exact hi),hq,List.getElem?_eq_getElem _⟩,fun hi=>⟨us,hq,by rw [rb.length,hi];exact Nat.le_refl _⟩,fun x H' y hi=> ?_⟩
   obtain ⟨e1,y⟩:=y
   subst e1
   obtain ⟨d,hd,rd⟩:=rb.getV (y us hq)
   exact ⟨d,hd,rd,.inl rfl⟩
  ·have fa:F1 a:=by cases r with | flst hl=>exact hl
   refine ⟨a,rfl,⟨vs,SqL.of ha⟩,go _ H1 L1 ds (fun _=>True) c f (fun i H2 L2 s2 c2 g2=> ?_) (q hz _ trivial)⟩
   have hq:SqL C.X.K H2 a vs:=SqL.of (s2.fk _ _ fa ha)
   refine ⟨fun hi=>⟨vs,vs[i]'(by rw [ra.length];exact hi),hq,List.getElem?_eq_getElem _⟩,fun hi=>⟨vs,hq,by rw [ra.length,hi];exact Nat.le_refl _⟩,fun x H' y hi=> ?_⟩
   obtain ⟨e1,y⟩:=y
   subst e1
   obtain ⟨d,hd,rd⟩:=ra.getV (y vs hq)
   exact ⟨d,hd,rd.mono s2.mv,.inl rfl⟩)
def iN (ns:List Nat):List D:=ns.map fun (g:Nat)=> .int (g:Int)
theorem pX (ns:List Nat):(iN ns).length=ns.length:=List.length_map ..
theorem xJ {ns:List Nat} {i g:Nat} (h:ns[i]? =some g):atI (iN ns) (i:Int)=some (.int (g:Int)):=atI_nat (by unfold iN;rw [List.getElem?_map,h];rfl)
theorem iN_inv {ns:List Nat} {i:Nat} {d:D} (h:(iN ns)[i]? =some d):∃g,ns[i]? =some g∧d= .int (g:Int):=by
 unfold iN at h
 rw [List.getElem?_map] at h
 cases e:ns[i]? with
 | none=>rw [e] at h;cases h
 | some g=>rw [e] at h;cases h;exact ⟨g,rfl,rfl⟩
theorem wX {rows:Rws} {s:Nat} (h:s < rows.length):atI (rows.map dRw) (s:Int)=some (dRw (rowAt rows s)):=atI_nat (by rw [List.getElem?_map,gJ h];rfl)
theorem cols_ci (cols:List Nat):iN cols++ [D.int (-1)]=(cG cols).map fun c=>D.int (ci c):=by
 unfold iN cG
 rw [List.map_append,List.map_map]
 rfl
structure NumOk (kds:List (Key×D)) (o:List Nat):Prop where
 len:kds.length=o.length
 at_:∀s:Nat,pQ kds (.inl (s:Int))=if s∈o then some (.int (o.idxOf s:Nat)) else none
theorem NumOk.one (first:Nat):NumOk [(.inl (first:Int),.int (0:Nat))] [first]:=⟨rfl,fun s=>by
 unfold pQ
 by_cases e:s=first
 ·subst e
  simp
 ·rw [List.find?_cons_of_neg (by simpa using fun z=>e (by omega)),if_neg (by simpa using e)]
  rfl⟩
theorem NumOk.add {kds:List (Key×D)} {o:List Nat} (h:NumOk kds o) {g:Nat} (hg:g∉o):NumOk (uW kds (.inl (g:Int)) (.int (o.length:Nat))) (o++ [g]):=by
 have hn:pQ kds (.inl (g:Int))=none:=by rw [h.at_,if_neg hg]
 refine ⟨?_,fun s=> ?_⟩
 ·unfold uW
  have:(kds.any fun kv=>decide (kv.1= .inl (g:Int)))=false:=by
   unfold pQ at hn
   rw [Option.map_eq_none_iff,List.find?_eq_none] at hn
   rw [List.any_eq_false]
   exact hn
  rw [this]
  rw [if_neg Bool.false_ne_true,List.length_append,List.length_append,h.len]
  rfl
 ·rw [valK_put,h.at_]
  by_cases e:s=g
  ·subst e
   rw [if_pos rfl,if_pos (by simp),List.idxOf_append,if_neg hg]
   simp
  ·rw [if_neg (fun z=>e (by injection z with z;omega))]
   by_cases hs:s∈o
   ·rw [if_pos hs,if_pos (List.mem_append_left _ hs),rF hs]
   ·rw [if_neg hs,if_neg (by simp [hs,e])]
def RS (L:Lp) (nb od:Addr) (kds:List (Key×D)) (o:List Nat):Lp:=put (put L nb (.kd kds)) od (.lst (iN o))
theorem RS.n {L:Lp} {nb od:Addr} {kds:List (Key×D)} {o:List Nat} (h:nb≠od):RS L nb od kds o nb=some (.kd kds):=by unfold RS;rw [aJ h,aD]
theorem RS.o {L:Lp} {nb od:Addr} {kds:List (Key×D)} {o:List Nat}:RS L nb od kds o od=some (.lst (iN o)):=aD
theorem RS.putN {L:Lp} {nb od:Addr} {kds kds':List (Key×D)} {o:List Nat} (h:nb≠od):put (RS L nb od kds o) nb (.kd kds')=RS L nb od kds' o:=by
 unfold RS
 rw [fK h.symm,bR]
theorem RS.putO {L:Lp} {nb od:Addr} {kds:List (Key×D)} {o o':List Nat}:put (RS L nb od kds o) od (.lst (iN o'))=RS L nb od kds o':=by
 unfold RS
 rw [bR]
theorem RS.le {L:Lp} {nb od:Addr} {kds:List (Key×D)} {o:List Nat} (h1:L nb=none) (h2:L od=none) (h:nb≠od):Le L (RS L nb od kds o):=(aN h1).trans (aN (by rw [aJ h.symm];exact h2))
theorem fold_take {cols:List Nat} {r:rP} {o:List Nat} {i:Nat} {c:Option Nat} (h:(cG cols)[i]? =some c):(((cG cols).take (i+1)).map (gl r)).foldl gQ o=gQ ((((cG cols).take i).map (gl r)).foldl gQ o) (gl r c):=by
 rw [List.take_add_one,h,List.map_append,List.foldl_append]
 rfl
def oO:SpA:=fun ds L Q _=> ∃(dc dr:D) (cols:List Nat) (rows:Rws) (first n:Nat),ds= [dc,dr,.int first]∧LR L dc (iN cols)∧aAV L dr (rows.map dRw)∧MOk n rows∧(∀c∈cols,c < n)∧first < rows.length∧rows.length≤100000∧cols.length≤1000∧Q (dMw (bD cols rows first)) L
section
variable {P:Program} {w:World} {K:PySem.W.Frag} {mg:Str→Option Value} {base:Heap} {f:Addr} {fd:FuncData}
set_option maxHeartbeats 0 in
theorem ok_reached (F:Fun K "reached" "reached" jH f fd) (hb:Binds K fd ["columns","rows","first"] []) (B:Bl mg) (d1:Def P w K mg base "goal_of" 1 jE):FnA P w K mg base 2 f oO:=by
 refine fnA F sc_reached hb (fun ds L Q R h=>by obtain ⟨_,_,_,_,_,_,rfl,_⟩:=h;rfl) fun cdv A outer s H E ds L Q R hr h=> ?_
 obtain ⟨dc,dr,cols,rows,first,n,rfl,hc,hrw,hM,hcn,hf,hz,hcz,q⟩:=h
 refine aH (aQ 3 (ae_kdI (aA 2 rfl ⟨.inl (first:Int),rfl,aG fun nb hnb=> ?_⟩)))
 refine aH (aQ 4 (fL (aC (aA 2 rfl (aF ⟨Nat.le_of_ble_eq_true rfl,fun od hod=> ?_⟩)))))
 have hne:nb≠od:=fun e=>by rw [e,aD] at hod;cases hod
 have hod0:L od=none:=by rw [aJ hne.symm] at hod;exact hod
 have hLe:∀kds o,Le L (RS L nb od kds o):=fun kds o=>RS.le hnb hod0 hne
 refine aH (aQ 5 (aG ?_))
 have e0:put (put L nb (.kd [(.inl (first:Int),.int 0)])) od (.lst [.int (first:Int)])=RS L nb od [(.inl (first:Int),.int (0:Nat))] [first]:=rfl
 rw [e0]
 have O0:OrdI cols rows first 0 [first]:=⟨by simp,fun s hs=>by rw [List.mem_singleton.mp hs];exact hf,rfl,Nat.zero_le _,fun i s hi=>absurd hi (Nat.not_lt_zero _)⟩
 refine jA (fun Γ' L'=> ∃(kds:List (Key×D)) (g5 g6 g7:Option D),NumOk kds (orderOf cols rows first)∧L'=RS L nb od kds (orderOf cols rows first)∧Γ'= [some dc,some dr,some (.int first),some (.ptr nb),some (.ptr od),g5,g6,g7,none,none,none]) ?_ ?_
 ·refine uN (fun m Γ1 L1=> ∃(k:Nat) (o:List Nat) (kds:List (Key×D)) (g6 g7:Option D),OrdI cols rows first k o∧orderOf cols rows first=xF cols rows m k o∧rows.length < k+m∧NumOk kds o∧L1=RS L nb od kds o∧Γ1= [some dc,some dr,some (.int first),some (.ptr nb),some (.ptr od),some (.int (k:Nat)),g6,g7,none,none,none]) (rows.length+1) ⟨0,[first],_,none,none,O0,rfl,by omega,.one first,rfl,rfl⟩ ?_
  rintro m Γ1 L1 ⟨k,o,kds,g6,g7,O,eO,hm,hN,rfl,rfl⟩
  refine aAc (u64 hr) (aA 5 rfl (aX B.len (aA 4 rfl (qG (.st RS.o) (aA2 ⟨_,rfl,fun hk=> ?_,fun hk=> ?_⟩)))))
  ·have hk:=of_decide_eq_true hk
   rw [pX] at hk
   have hk:k < o.length:=by omega
   obtain ⟨m,rfl⟩:∃m',m=m'+1:=⟨m - 1,by
    have:=dZ O.nd O.lt
    omega⟩
   have es:o[k]? =some o[k]:=List.getElem?_eq_getElem hk
   generalize o[k]=st at es
   have hst:=O.lt st (List.mem_of_getElem? es)
   have O2:=rA hM hcn O es
   have eO2:orderOf cols rows first=xF cols rows m (k+1) (uU cols (rowAt rows st) o):=by
    rw [eO]
    show (match o[k]? with | none=>_ | some s=>_)=_
    first | (rw [es];rfl) | rw [es]
   refine aH (oE (ai_L (al_disp (aa_star (aA 0 rfl ⟨_,.inr (hc.le (hLe _ _)),aC (qC (aG ⟨1,rfl,aF ⟨?_,fun hz2=> ?_⟩⟩))⟩)))))
   ·rw [List.length_append,pX,dF]
    show cols.length+1≤_
    omega
   rw [cols_ci]
   refine ⟨fun i Γ2 L2=> ∃(kds:List (Key×D)) (g6 g7:Option D),NumOk kds ((((cG cols).take i).map (gl (rowAt rows st))).foldl gQ o)∧L2=RS L nb od kds ((((cG cols).take i).map (gl (rowAt rows st))).foldl gQ o)∧Γ2= [some dc,some dr,some (.int first),some (.ptr nb),some (.ptr od),some (.int (k:Nat)),g6,g7,none,none,none],⟨kds,g6,g7,hN,rfl,rfl⟩,fun _ _ _ _=>trivial,?_,?_⟩
   ·rintro i d Γ2 L2 hd ⟨kds,g6,g7,hN,rfl,rfl⟩
    rw [List.getElem?_map] at hd
    cases ec:(cG cols)[i]? with
    | none=>rw [ec] at hd;cases hd
    | some c=>
     rw [ec] at hd
     cases hd
     have hcc:=uI hcn (List.mem_of_getElem? ec)
     have eF:=fold_take (r:=rowAt rows st) (o:=o) ec
     obtain ⟨t,ht⟩:=iZ (((cG cols).take i).map (gl (rowAt rows st))) o
     have hlt:∀s∈(((cG cols).take i).map (gl (rowAt rows st))).foldl gQ o,s < rows.length:=fun s hs=>by
      rw [kE] at hs
      rcases hs with hs | hs
      ·exact O.lt s hs
      ·obtain ⟨c',hc',rfl⟩:=List.mem_map.mp hs
       exact hM.gl hst c' (uI hcn (List.mem_of_mem_take hc'))
     have hnd:=lX (((cG cols).take i).map (gl (rowAt rows st))) o O.nd
     have ek:((((cG cols).take i).map (gl (rowAt rows st))).foldl gQ o)[k]? =some st:=by rw [ht,List.getElem?_append_left hk];exact es
     obtain ⟨oi,hoi⟩:∃oi,(((cG cols).take i).map (gl (rowAt rows st))).foldl gQ o=oi:=⟨_,rfl⟩
     rw [hoi] at hN hlt hnd ek eF ⊢
     have hol:=dZ hnd hlt
     refine ⟨_,_,aP 6,?_⟩
     refine aH (aQ 7 (aK d1 (hr.mono (by omega)) (aC (aR (dJ (u1 hr)) (aA 1 rfl (aR (dJ (u1 hr)) (aA 4 rfl (aA 5 rfl (pD (.st RS.o) (ixa_Q (hrw.le (hLe _ _)) ?_ (wX hst)) (xJ ek))))))))))
     refine aC (aA 6 rfl (aF ⟨_,c,rfl,fun j ej=>by rw [hM.len _ (cD hst)];exact hcc j ej,?_⟩))
     refine aM (dB (uM (aA 7 rfl (aA 3 rfl (j_ninK (k:= .inl ((gl (rowAt rows st) c:Nat):Int)) (u1 hr) (RS.n hne) ⟨_,rfl,fun hz3=> ?_,fun hz3=> ?_⟩)))))
     ·have hg:gl (rowAt rows st) c∉oi:=fun hg=>by
       rw [hN.at_,if_pos hg] at hz3
       cases hz3
      have hkl:=hN.len
      refine aH (wN (aX B.len (aA 4 rfl (qG (.st RS.o) (aA 3 rfl (aA 7 rfl (st_K (k:= .inl ((gl (rowAt rows st) c:Nat):Int)) (u1 hr) (RS.n hne) (by rw [hkl,dF];omega) ?_)))))))
      rw [RS.putN hne,pX]
      refine aM (gM (cJ (aA 4 rfl ⟨od,_,rfl,RS.o,aA 7 rfl ⟨_,RS.o,by rw [pX,dF];omega,?_⟩⟩)))
      have ea:gQ oi (gl (rowAt rows st) c)=oi++ [gl (rowAt rows st) c]:=if_neg hg
      refine ⟨_,_,_,by rw [eF,ea];exact hN.add hg,?_,rfl⟩
      rw [eF,ea,show iN oi++ [D.int ((gl (rowAt rows st) c:Nat):Int)]=iN (oi++ [gl (rowAt rows st) c]) from by unfold iN;rw [List.map_append];rfl]
      exact RS.putO
     ·have hg:gl (rowAt rows st) c∈oi:=by
       by_cases hg:gl (rowAt rows st) c∈oi
       ·exact hg
       ·rw [hN.at_,if_neg hg] at hz3
        cases hz3
      have ea:gQ oi (gl (rowAt rows st) c)=oi:=if_pos hg
      exact bM ⟨_,_,_,by rw [eF,ea];exact hN,by rw [eF,ea],rfl⟩
   ·rintro Γ2 L2 ⟨kds,g6,g7,hN,rfl,rfl⟩
    rw [List.length_map,List.take_length] at*
    refine aM (pY 5 ip_add rfl (aG (r_ipI ⟨m,by omega,k+1,_,kds,g6,g7,O2,eO2,by omega,hN,rfl,rfl⟩)))
  ·have hk:=of_decide_eq_false hk
   rw [pX] at hk
   have hko:k=o.length:=by have:=O.kl;omega
   have eo:orderOf cols rows first=o:=by
    rw [eO]
    cases m with
    | zero=>rfl
    | succ m=>
     show (match o[k]? with | none=>_ | some s=>_)=_
     have:o[k]? =none:=List.getElem?_eq_none (by omega)
     first | (rw [this];rfl) | rw [this]
   rw [eo]
   exact ⟨kds,_,g6,g7,hN,rfl,rfl⟩
 ·rintro Γ' L' ⟨kds,g5,g6,g7,hN,rfl,rfl⟩
  have O:=jX hM hcn hf
  have eR:bD cols rows first=(orderOf cols rows first).map fun s=>qY cols (orderOf cols rows first) (rowAt rows s):=rfl
  rw [eR] at q
  generalize orderOf cols rows first=o at hN O q ⊢
  have hol:=dZ O.nd O.lt
  refine aH (aQ 8 (fL (aF ⟨Nat.zero_le _,fun fl hfl=> ?_⟩)))
  have n1:RS L nb od kds o nb=some (.kd kds):=RS.n hne
  have n2:RS L nb od kds o od=some (.lst (iN o)):=RS.o
  have fo:od≠fl:=aO n2 hfl
  have fn:nb≠fl:=aO n1 hfl
  have hl0:=hLe kds o
  generalize RS L nb od kds o=L1 at n1 n2 hfl hl0
  have m1:∀x,put L1 fl (.lst x) nb=some (.kd kds):=fun x=>by rw [aJ fn];exact n1
  have m2:∀x,put L1 fl (.lst x) od=some (.lst (iN o)):=fun x=>by rw [aJ fo];exact n2
  have hl1:∀x,Le L (put L1 fl (.lst x)):=fun x=>hl0.trans (aN hfl)
  refine aH (oE (sS (aA 4 rfl ⟨od,_,rfl,m2 _,fun hz2=> ?_⟩)))
  refine ⟨fun i Γ2 L2=> ∃(g9 g10:Option D),L2=put L1 fl (.lst ((o.take i).map fun s=>dRw (qY cols o (rowAt rows s))))∧Γ2= [some dc,some dr,some (.int first),some (.ptr nb),some (.ptr od),g5,g6,g7,some (.ptr fl),g9,g10],⟨none,none,rfl,rfl⟩,fun i Γ2 L2 ⟨_,_,e,_⟩=>by rw [e];exact m2 _,?_,?_⟩
  ·rintro i d Γ2 L2 hd ⟨g9,g10,rfl,rfl⟩
   obtain ⟨st,es,rfl⟩:=iN_inv hd
   have hst:=O.lt st (List.mem_of_getElem? es)
   have hio:=(List.getElem?_eq_some_iff.mp es).1
   have cl:=O.cl i st hio es
   refine ⟨_,_,aP 9,?_⟩
   refine aH (aQ 10 (aR (dJ (u1 hr)) (aA 1 rfl (aA 9 rfl (ixa_Q (hrw.le (hl1 _)) ?_ (wX hst))))))
   have e1:atI ([.bl (rowAt rows st).1,dI (rowAt rows st).2.1,.int ((rowAt rows st).2.2:Nat)]:List D) ((0:Nat):Int)=some (.bl (rowAt rows st).1):=atI_nat rfl
   have e2:atI ([.bl (rowAt rows st).1,dI (rowAt rows st).2.1,.int ((rowAt rows st).2.2:Nat)]:List D) ((1:Nat):Int)=some (dI (rowAt rows st).2.1):=atI_nat rfl
   have e3:atI ([.bl (rowAt rows st).1,dI (rowAt rows st).2.1,.int ((rowAt rows st).2.2:Nat)]:List D) ((2:Nat):Int)=some (.int ((rowAt rows st).2.2:Nat)):=atI_nat rfl
   refine aM (gM (cJ (aA 8 rfl ⟨fl,_,rfl,aD,bV (aC (aR (dJ (u1 hr)) (aA 10 rfl (aG (bQ ?_ e1)))))⟩)))
   have vN:∀c∈cG cols,pQ kds (.inl ((gl (rowAt rows st) c:Nat):Int))=some (.int (o.idxOf (gl (rowAt rows st) c):Nat)):=fun c hcc=>by rw [hN.at_,if_pos (cl c hcc)]
   refine aC (nA B.tuple (gH 6 (ai_lr (aA 0 rfl ⟨_,hc.le (hl1 _),fun hz3 G hG=>⟨_,cols,fun (c:Nat)=> .int (c:Int),fun (c:Nat)=> .int (o.idxOf (gl (rowAt rows st) (some c)):Nat),rfl,hG,hz3,fun y hy s H Cc cl2 fp Q q=> ?_,?_⟩⟩))))
   ·have hyl:y < (rowAt rows st).2.1.length:=by rw [hM.len _ (cD hst)];exact hcn y hy
    have e4:atI ((rowAt rows st).2.1.map fun (g:Nat)=>D.int (g:Int)) (y:Int)=some (.int (gl (rowAt rows st) (some y):Nat)):=atI_nat (by
     rw [List.getElem?_map,getD_mem (d:=0) hyl]
     rfl)
    exact xP (aA 3 rfl (aR (dJ (u1 hr)) (aR (dJ (u1 hr)) (aA 10 rfl (aG (bQ (aA 6 rfl (bQ (sb_K (k:= .inl ((gl (rowAt rows st) (some y):Nat):Int)) (u1 hr) (m1 _) (vN _ (List.mem_append_left _ (List.mem_map_of_mem hy))) q (fun _ _=>rfl)) e4)) e2))))))
   refine aC (xP (aA 3 rfl (aR (dJ (u1 hr)) (aA 10 rfl (aG (bQ (sb_K (k:= .inl (((rowAt rows st).2.2:Nat):Int)) (u1 hr) (m1 _) (vN none (List.mem_append_right _ List.mem_cons_self)) ?_ (fun _ _=>rfl)) e3))))))
   refine aF ⟨Nat.le_of_ble_eq_true rfl,_,aD,by rw [List.length_map,List.length_take,dF];omega,_,_,?_,rfl⟩
   have er:D.tup [D.bl (rowAt rows st).1,D.tup (cols.map fun (c:Nat)=>D.int (o.idxOf (gl (rowAt rows st) (some c)):Nat)),D.int (o.idxOf (gl (rowAt rows st) none):Nat)]=dRw (qY cols o (rowAt rows st)):=by
    unfold dRw qY dI
    rw [List.map_map]
    rfl
   rw [bR,List.take_add_one,es,List.map_append]
   show put L1 fl (.lst (_++ [D.tup [D.bl (rowAt rows st).1,D.tup (cols.map fun (c:Nat)=>D.int (o.idxOf (gl (rowAt rows st) (some c)):Nat)),D.int (o.idxOf (gl (rowAt rows st) none):Nat)]]))=_
   rw [er]
   rfl
  ·rintro Γ2 L2 ⟨g9,g10,rfl,rfl⟩
   rw [pX,List.take_length]
   refine aM (aW (iJ B.tuple (aA 8 rfl (sE (.st aD) ⟨L,hl1 _,?_⟩))))
   unfold dMw at q
   rw [List.map_map] at q
   exact q
end
end K
namespace K
open PySem PySem.Spec PyProof.Rows L2 DL
theorem u16 {k:Nat} {A:Around} (r:Room k A):A.units+16 < cLine:=by have:=r.un;omega
def dSg (s:Sgn):D:= .tup [.bl s.1,.int (s.2.1:Nat),dI s.2.2.1,.int (s.2.2.2:Nat)]
theorem aAw:∀ns:List Nat,nks (ns.map fun (g:Nat)=>D.int (g:Int))=ns.map fun (g:Nat)=>NestedKey.num (g:Int)
 | []=>by simp [nks]
 | n::ns=>by rw [List.map_cons,nks,aAw ns,nk];rfl
theorem num_inj2:∀{xs ys:List Nat},(xs.map fun (g:Nat)=>NestedKey.num (g:Int))=ys.map (fun (g:Nat)=>NestedKey.num (g:Int))→xs=ys
 | [],[],_=>rfl
 | [],_::_,h=>by cases h
 | _::_,[],h=>by cases h
 | x::xs,y::ys,h=>by
  rw [List.map_cons,List.map_cons] at h
  injection h with h1 h2
  injection h1 with h1
  rw [num_inj2 h2,show x=y by omega]
theorem uG:∀x y:Sgn,nk (dSg x)=nk (dSg y)→x=y:=fun ⟨a,b,c,d⟩ ⟨a',b',c',d'⟩ h=>by
 unfold dSg dI at h
 simp only [nk,nks,aAw] at h
 injection h with h
 injection h with h1 h
 injection h with h2 h
 injection h with h3 h
 injection h with h4 _
 injection h1 with h1
 injection h2 with h2
 injection h3 with h3
 injection h4 with h4
 have e1:a=a':=by
  cases a <;> cases a' <;> simp_all
 rw [e1,num_inj2 h3,show b=b' by omega,show d=d' by omega]
theorem zF (s:Sgn):okN (dSg s)=true:=by
 unfold dSg dI
 refine xG _ ?_
 rw [okD,oM,oM,oM,oM,oM,okD,okD,okD,okD,nW _ _ fun _ _=>by rw [okD]]
 rfl
theorem wG (s:Sgn):(nk (dSg s)).depth≤8:=by
 have h:∀ns:List Nat,NestedKey.depthAll (ns.map fun (g:Nat)=>NestedKey.num (g:Int))≤1:=by
  intro ns
  induction ns with
  | nil=>simp [NestedKey.depthAll]
  | cons n ns ih=>rw [List.map_cons,NestedKey.depthAll,NestedKey.depth];omega
 have:=h s.2.2.1
 unfold dSg dI
 simp only [nk,nks,aAw,NestedKey.depth,NestedKey.depthAll]
 omega
theorem num_snoc {α:Type} [DecidableEq α] (xs:List α) (x:α):num (xs++ [x])=num xs++ [(gQ (ddp xs) x).idxOf x]:=by
 unfold num
 rw [qJ,List.map_append]
 obtain ⟨t,ht⟩:=addO_pre (ddp xs) x
 congr 1
 rw [ht]
 refine List.map_congr_left fun y hy=> ?_
 exact rF (bW.mpr hy)
def BS (L:Lp) (nb sp:Addr) (ks:List Sgn) (ns:List Nat):Lp:=put (put L nb (.nd (yI dSg ks))) sp (.lst (iN ns))
section
variable {L:Lp} {nb sp:Addr} {ks:List Sgn} {ns:List Nat}
theorem BS.n (h:nb≠sp):BS L nb sp ks ns nb=some (.nd (yI dSg ks)):=by unfold BS;rw [aJ h,aD]
theorem BS.s:BS L nb sp ks ns sp=some (.lst (iN ns)):=aD
theorem BS.putN {ks':List Sgn} (h:nb≠sp):put (BS L nb sp ks ns) nb (.nd (yI dSg ks'))=BS L nb sp ks' ns:=by
 unfold BS
 rw [fK h.symm,bR]
theorem BS.putS {ns':List Nat}:put (BS L nb sp ks ns) sp (.lst (iN ns'))=BS L nb sp ks ns':=by
 unfold BS
 rw [bR]
theorem BS.le (h1:L nb=none) (h2:L sp=none) (h:nb≠sp):Le L (BS L nb sp ks ns):=(aN h1).trans (aN (by rw [aJ h.symm];exact h2))
end
theorem wD (ns:List Nat) (g:Nat):iN ns++ [D.int (g:Int)]=iN (ns++ [g]):=by unfold iN;rw [List.map_append];rfl
def lJ:SpA:=fun ds L Q _=> ∃(rows:Rws) (n:Nat),ds= [dMw rows]∧MOk n rows∧0 < rows.length∧rows.length≤100000∧∀l,L l=none→Q (.ptr l) (put L l (.lst (iN (cZ rows))))
section
variable {P:Program} {w:World} {K:PySem.W.Frag} {mg:Str→Option Value} {base:Heap} {f:Addr} {fd:FuncData}
set_option maxHeartbeats 0 in
theorem ok_blocks_of (F:Fun K "blocks_of" "blocks_of" fW f fd) (hb:Binds K fd ["rows"] []) (B:Bl mg):FnA P w K mg base 1 f lJ:=by
 refine fnA F sc_blocks_of hb (fun ds L Q R h=>by obtain ⟨_,_,rfl,_⟩:=h;rfl) fun cdv A outer s H E ds L Q R hr h=> ?_
 obtain ⟨rows,n,rfl,hM,h0,hz,q⟩:=h
 have hne:rows≠ []:=List.length_pos_iff.mp h0
 refine aH (pZ (bV (aC (aAk (gH 3 (rK (aA 0 rfl ⟨_,rfl,fun hz2=>⟨_,rows,dRw,fun _=> .int (0:Nat),rfl,trivial,hz2,fun y hy s H Cc cl fp Q q=>aG q,fun b0 hb0=>aC (aG (aF ⟨Nat.le_of_ble_eq_true rfl,_,_,gU (aU (aP 1) (aU (aP 2) dM)),?_⟩))⟩⟩)))))))
 have e0:rows.map (fun _=>D.int (0:Nat))=iN (rows.map fun _=>0):=by unfold iN;rw [List.map_map];rfl
 rw [e0]
 refine aM (uN (fun m Γ1 L1=> ∃(b:Addr) (bl:List Nat) (cnt:Nat) (g3 g4 g5 g6 g7 g8:Option D),Way rows bl cnt∧cZ rows=aAb rows m bl cnt∧rows.length < cnt+m∧L1 b=some (.lst (iN bl))∧Le L L1∧Γ1= [some (dMw rows),some (.ptr b),some (.int (cnt:Nat)),g3,g4,g5,g6,g7,g8]) (rows.length+1) ⟨b0,_,0,none,none,none,none,none,none,way0 rows,rfl,by omega,aD,aN hb0,rfl⟩ ?_)
 rintro m Γ1 L1 ⟨b,bl,cnt,g3,g4,g5,g6,g7,g8,W,eB,hm,hbl,hle,rfl⟩
 refine dX (aAe ⟨true,rfl,fun _=> ?_,fun z=>nomatch z⟩)
 have hml:=oW W
 have hsl:=signs_le W.len
 obtain ⟨m,rfl⟩:∃m',m=m'+1:=⟨m - 1,by omega⟩
 have hSl:=qT W.len
 refine aH (aQ 4 (ae_nd0 fun nb hnb=> ?_))
 refine aH (aQ 5 (fL (aF ⟨Nat.zero_le _,fun sp hsp=> ?_⟩)))
 have hns:nb≠sp:=fun e=>by rw [e,aD] at hsp;cases hsp
 have hsp1:L1 sp=none:=by rw [aJ hns.symm] at hsp;exact hsp
 have hbn:b≠nb:=aO hbl hnb
 have hbs:b≠sp:=aO hbl hsp1
 have hLe:∀ks ns,Le L1 (BS L1 nb sp ks ns):=fun ks ns=>BS.le hnb hsp1 hns
 have e1:put (put L1 nb (.nd [])) sp (.lst [])=BS L1 nb sp [] []:=rfl
 rw [e1]
 refine aH (oE (ai_enumT B.enumerate (aA 0 rfl ⟨_,.t _,fun hz2=> ?_⟩)))
 refine ⟨fun i Γ2 L2=> ∃(g6 g7 g3:Option D),L2=BS L1 nb sp (ddp ((signs bl rows).take i)) (num ((signs bl rows).take i))∧Γ2= [some (dMw rows),some (.ptr b),some (.int (cnt:Nat)),g3,some (.ptr nb),some (.ptr sp),g6,g7,g8],⟨g6,g7,g3,rfl,rfl⟩,fun _ _ _ _=>trivial,?_,?_⟩
 ·rintro i d Γ2 L2 hd ⟨g6,g7,g3,rfl,rfl⟩
  obtain ⟨x,hx,rfl⟩:=nY hd
  rw [List.getElem?_map] at hx
  cases er:rows[i]? with
  | none=>rw [er] at hx;cases hx
  | some r=>
   rw [er] at hx
   cases hx
   have hi:=(List.getElem?_eq_some_iff.mp er).1
   have eRow:rowAt rows i=r:=by
    have:=gJ hi
    rw [er] at this
    exact (Option.some.inj this).symm
   have hmr:r∈rows:=List.mem_of_getElem? er
   have eS:(signs bl rows)[i]? =some (sg bl r (bl.getD i 0)):=by rw [qU W.len hi,eRow]
   have eT:(signs bl rows).take (i+1)=(signs bl rows).take i++ [sg bl r (bl.getD i 0)]:=by rw [List.take_add_one,eS];rfl
   have hNl:(num ((signs bl rows).take i)).length=i:=by rw [wA,List.length_take,hSl];omega
   have hDl:(ddp ((signs bl rows).take i)).length≤i:=by
    have:=cU (dU ((signs bl rows).take i)) fun x hx=>bW.mp hx
    rw [List.length_take] at this
    omega
   have eN:=num_snoc ((signs bl rows).take i) (sg bl r (bl.getD i 0))
   rw [←eT] at eN
   have eD:=qJ ((signs bl rows).take i) (sg bl r (bl.getD i 0))
   rw [←eT] at eD
   obtain ⟨ks,hks⟩:∃ks,ddp ((signs bl rows).take i)=ks:=⟨_,rfl⟩
   obtain ⟨ns,hns2⟩:∃ns,num ((signs bl rows).take i)=ns:=⟨_,rfl⟩
   rw [hks] at hDl eD eN ⊢
   rw [hns2] at hNl eN ⊢
   have hB:∀ks ns,LR (BS L1 nb sp ks ns) (.ptr b) (iN bl):=fun ks ns=> .st (hLe ks ns _ _ hbl)
   have bg:∀s,s < rows.length→atI (iN bl) (s:Int)=some (.int (bl.getD s 0:Nat)):=fun s hs=>xJ (zH W.len hs)
   refine ⟨_,_,gU (aU (aP 6) (aU (aP 3) dM)),?_⟩
   have e1:atI ([.bl r.1,dI r.2.1,.int (r.2.2:Nat)]:List D) ((0:Nat):Int)=some (.bl r.1):=atI_nat rfl
   have e2:atI ([.bl r.1,dI r.2.1,.int (r.2.2:Nat)]:List D) ((1:Nat):Int)=some (dI r.2.1):=atI_nat rfl
   have e3:atI ([.bl r.1,dI r.2.1,.int (r.2.2:Nat)]:List D) ((2:Nat):Int)=some (.int (r.2.2:Nat)):=atI_nat rfl
   refine aH (aQ 7 (bV (aC (aR (dJ (u1 hr)) (aA 3 rfl (aG (bQ ?_ e1)))))))
   refine aC (aR (dJ (u1 hr)) (aA 1 rfl (aA 6 rfl (pD (hB _ _) ?_ (bg i hi)))))
   refine aC (nA B.tuple (gH 8 (rK (aR (dJ (u1 hr)) (aA 3 rfl (aG (bQ ⟨_,rfl,fun hz3=>⟨_,r.2.1,fun (g:Nat)=> .int (g:Int),fun (g:Nat)=> .int (bl.getD g 0:Nat),rfl,trivial,hz3,fun y hy s H Cc cl2 fp Q q=> ?_,?_⟩⟩ e2)))))))
   ·exact aR (dJ (u1 hr)) (aA 1 rfl (aA 8 rfl (pD (hB _ _) q (bg y (hM.go r hmr y hy)))))
   refine aC (aR (dJ (u1 hr)) (aA 1 rfl (aR (dJ (u1 hr)) (aA 3 rfl (aG (bQ (pD (hB _ _) (aF ⟨Nat.le_of_ble_eq_true rfl,?_⟩) (bg r.2.2 (hM.oth r hmr))) e3))))))
   have eSg:D.tup [D.bl r.1,D.int (bl.getD i 0:Nat),D.tup (r.2.1.map fun (g:Nat)=>D.int (bl.getD g 0:Nat)),D.int (bl.getD r.2.2 0:Nat)]=dSg (sg bl r (bl.getD i 0)):=by
    unfold dSg sg dI
    rw [List.map_map]
    rfl
   rw [eSg]
   obtain ⟨sn,hsn⟩:∃sn,sg bl r (bl.getD i 0)=sn:=⟨_,rfl⟩
   rw [hsn] at eD eN ⊢
   have ht:∃es,dSg sn= .tup es:=⟨_,rfl⟩
   refine jA (fun Γ' L'=>L'=BS L1 nb sp (gQ ks sn) ns∧Γ'= [some (dMw rows),some (.ptr b),some (.int (cnt:Nat)),some (dRw r),some (.ptr nb),some (.ptr sp),some (.int (i:Nat)),some (dSg sn),g8]) ?_ ?_
   ·refine dB (uM (aA 7 rfl (aA 4 rfl (j_ninN (u16 hr) (BS.n hns) ht (zF sn) (wG sn) ⟨_,rfl,fun hz3=> ?_,fun hz3=> ?_⟩))))
    ·have hg:sn∉ks:=fun hg=>by
      rw [mX uG,if_pos hg] at hz3
      cases hz3
     refine aM (wN (wQ B.len (aA 4 rfl (wJ (BS.n hns) (aA 4 rfl (aA 7 rfl (st_N (u16 hr) (BS.n hns) ht (zF sn) (wG sn) (by rw [lZ,dF];omega) ?_)))))))
     have ea:gQ ks sn=ks++ [sn]:=if_neg hg
     rw [lZ,dNum_put uG hg,BS.putN hns,ea]
     exact ⟨rfl,rfl⟩
    ·have hg:sn∈ks:=by
      by_cases hg:sn∈ks
      ·exact hg
      ·rw [mX uG,if_neg hg] at hz3
       cases hz3
     have ea:gQ ks sn=ks:=if_pos hg
     rw [ea]
     exact bM ⟨rfl,rfl⟩
   ·rintro Γ' L' ⟨rfl,rfl⟩
    have hv:=mX uG (gQ ks sn) sn
    rw [if_pos (mD.mpr (.inr rfl))] at hv
    refine aM (gM (cJ (aA 5 rfl ⟨sp,_,rfl,BS.s,xP (aA 4 rfl (aA 7 rfl (sb_N (u16 hr) (BS.n hns) ht (zF sn) (wG sn) hv ⟨_,BS.s,by rw [pX,dF];omega,?_⟩ (fun _ _=>rfl))))⟩)))
    rw [wD,BS.putS]
    exact ⟨_,_,_,by rw [eD,eN],rfl⟩
 ·rintro Γ2 L2 ⟨g6,g7,g3,rfl,rfl⟩
  have eTk:(signs bl rows).take (pJ (rows.map dRw)).length=signs bl rows:=by
   rw [iU,List.length_map]
   exact List.take_of_length_le (by rw [hSl];exact Nat.le_refl _)
  rw [eTk]
  have eW:aAb rows (m+1) bl cnt=if (ddp (signs bl rows)).length=cnt then num (signs bl rows) else aAb rows m (num (signs bl rows)) (ddp (signs bl rows)).length:=rfl
  rw [eW] at eB
  refine aH (dB (uM (wQ B.len (aA 4 rfl (wJ (BS.n hns) (aA 2 rfl (j_eqI (u64 hr) ⟨_,rfl,fun hk=> ?_,fun hk=>bM ?_⟩)))))))
  ·have hk:=of_decide_eq_true hk
   rw [lZ] at hk
   rw [if_pos (by omega)] at eB
   rw [eB] at q
   refine aM (aW (aA 5 rfl ⟨put L sp (.lst (iN (num (signs bl rows)))),fun a o e=> ?_,q sp (hle.none hsp1)⟩))
   by_cases ea:a=sp
   ·subst ea
    rw [aD] at e
    rw [←e]
    exact BS.s
   ·rw [aJ ea] at e
    exact hLe _ _ _ _ (hle _ _ e)
  ·have hk:=of_decide_eq_false hk
   rw [lZ] at hk
   rw [if_neg (by omega)] at eB
   refine aM (pZ (bV (aC (aA 5 rfl (aC (wQ B.len (aA 4 rfl (wJ (BS.n hns) (aF ⟨Nat.le_of_ble_eq_true rfl,_,_,gU (aU (aP 1) (aU (aP 2) dM)),m,by omega,sp,num (signs bl rows),(ddp (signs bl rows)).length,g3,some (.ptr nb),some (.ptr sp),g6,g7,g8,signs_step W.len,eB,by omega,BS.s,hle.trans (hLe _ _),?_⟩)))))))))
   rw [lZ]
   rfl
end
end K
namespace K
open PySem PySem.Spec PyProof.Rows L2 DL
theorem fm_map {ys:List Str}:∀{cs:List Nat},(∀c∈cs,c < ys.length)→cs.map (fun c=>D.str (ys.getD c Str.empty))=(cs.filterMap fun c=>ys[c]?).map D.str
 | [],_=>rfl
 | c::cs,h=>by
  have hc:=h c List.mem_cons_self
  rw [List.filterMap_cons,List.getElem?_eq_getElem hc,List.map_cons,fm_map fun d hd=>h d (List.mem_cons_of_mem _ hd),List.getD_eq_getElem?_getD,List.getElem?_eq_getElem hc]
  rfl
theorem str_get {ys:List Str} {c:Nat} (h:c < ys.length):atI (ys.map D.str) (c:Int)=some (.str (ys.getD c Str.empty)):=atI_nat (by
 rw [List.getElem?_map,getD_mem (d:=Str.empty) h]
 rfl)
theorem int_ne (a b:Nat):(!decide ((a:Int)=(b:Int)))=decide (a≠b):=by
 by_cases h:a=b
 ·rw [decide_eq_true (by rw [h]),decide_eq_false (by simp [h])];rfl
 ·rw [decide_eq_false (by omega),decide_eq_true h];rfl
def dLm (q:List Str×Rws):D:= .tup [.wds q.1,dMw q.2]
def cI:SpA:=fun ds L Q _=> ∃(ys:List Str) (rows:Rws) (first:Nat),ds= [.wds ys,dMw rows,.int first]∧MOk ys.length rows∧first < rows.length∧rows.length≤100000∧ys.length≤1000∧Q (dLm (bU ys rows first)) L
section
variable {P:Program} {w:World} {K:PySem.W.Frag} {mg:Str→Option Value} {base:Heap} {f:Addr} {fd:FuncData}
set_option maxHeartbeats 0 in
theorem ok_least_machine (F:Fun K "least_machine" "least_machine" bY f fd) (hb:Binds K fd ["words","rows","first"] []) (B:Bl mg) (d1:Def P w K mg base "reached" 2 oO) (d2:Def P w K mg base "blocks_of" 1 lJ):FnA P w K mg base 3 f cI:=by
 refine fnA F sc_least_machine hb (fun ds L Q R h=>by obtain ⟨_,_,_,rfl,_⟩:=h;rfl) fun cdv A outer s H E ds L Q R hr h=> ?_
 obtain ⟨ys,rows,first,rfl,hM,hf,hz,hyz,q⟩:=h
 refine aH (aQ 3 (ae_listRange B.list B.range (aX B.len (aA 0 rfl (zX ⟨_,rfl,by omega,by omega,fun ev hev=> ?_⟩)))))
 have eev:((List.range ((ys.length:Int)).toNat).map fun (i:Nat)=>D.int (i:Int))=iN (List.range ys.length):=by rw [Int.toNat_natCast];rfl
 rw [eev]
 have hE:put L ev (.lst (iN (List.range ys.length))) ev=some (.lst (iN (List.range ys.length))):=aD
 have hLe:=aN hev (o:= .lst (iN (List.range ys.length)))
 generalize put L ev (.lst (iN (List.range ys.length)))=L1 at hE hLe
 obtain ⟨o1,o2,o3⟩:=jW hM (cols:=List.range ys.length) (fun c h=>List.mem_range.mp h) hf
 rw [List.length_range] at o1
 have eL:bU ys rows first=((tells ys.length (kJ (bD (List.range ys.length) rows first) (cZ (bD (List.range ys.length) rows first)))).filterMap fun c=>ys[c]?,bD (tells ys.length (kJ (bD (List.range ys.length) rows first) (cZ (bD (List.range ys.length) rows first)))) (kJ (bD (List.range ys.length) rows first) (cZ (bD (List.range ys.length) rows first))) 0):=rfl
 rw [eL] at q
 refine aH (aQ 1 (aK d1 (hr.mono (by omega)) (aC (aA 3 rfl (aC (aA 1 rfl (aC (aA 2 rfl (aF ⟨_,_,List.range ys.length,rows,first,ys.length,rfl,.st hE,.inl rfl,hM,fun c h=>List.mem_range.mp h,hf,hz,by rw [List.length_range];exact hyz,?_⟩)))))))))
 obtain ⟨r1,hr1⟩:∃r1,bD (List.range ys.length) rows first=r1:=⟨_,rfl⟩
 rw [hr1] at o1 o2 o3 q ⊢
 have hne:r1≠ []:=List.length_pos_iff.mp o2
 have S:=oA hne
 refine aH (aQ 4 (aK d2 (hr.mono (by omega)) (aC (aA 1 rfl (aF ⟨r1,ys.length,rfl,o1,o2,by omega,fun b hb0=> ?_⟩)))))
 have o4:=fold_ok o1 S
 have h0:=aA3 hne S
 have h1:=wM S o2
 rw [h0] at h1
 have F2:=pG S.len S.can
 have eFM:kJ r1 (cZ r1)=(r1.zip (cZ r1)).foldl (pH (cZ r1)) []:=rfl
 have hfl:(kJ r1 (cZ r1)).length≤r1.length:=by
  have F:=lY S.len S.can
  rw [F.len,List.take_of_length_le (by rw [S.len];exact Nat.le_refl _),←S.len]
  exact cU (dU _) fun x hx=>bW.mp hx
 have hSl:=S.len
 have hzg:=fun i (hi:i < r1.length)=>zip_get S.len hi
 have hbg:=fun i (hi:i < r1.length)=>zH S.len hi
 obtain ⟨bl,hbl⟩:∃bl,cZ r1=bl:=⟨_,rfl⟩
 rw [hbl] at o4 h1 F2 eFM hfl hSl hzg hbg q ⊢
 have hE:=aN hb0 (o:= .lst (iN bl)) _ _ hE
 have hLe:=hLe.trans (aN hb0 (o:= .lst (iN bl)))
 have hB:put L1 b (.lst (iN bl)) b=some (.lst (iN bl)):=aD
 generalize put L1 b (.lst (iN bl))=L2 at hE hLe hB
 refine aH (aQ 5 (fL (aF ⟨Nat.zero_le _,fun fo hfo=> ?_⟩)))
 have hE:=fun x=>aN hfo (o:= .lst x) _ _ hE
 have hB:=fun x=>aN hfo (o:= .lst x) _ _ hB
 have hLe:=fun x=>hLe.trans (aN hfo (o:= .lst x))
 have bg:∀s,s < r1.length→atI (iN bl) (s:Int)=some (.int (bl.getD s 0:Nat)):=fun s hs=>xJ (hbg s hs)
 refine aH (oE (ai_enumT B.enumerate (aA 1 rfl ⟨_,.t _,fun hz2=> ?_⟩)))
 refine ⟨fun i Γ2 L3=> ∃(g6 g7 g8:Option D),L3=put L2 fo (.lst ((((r1.zip bl).take i).foldl (pH bl) []).map dRw))∧Γ2= [some (.wds ys),some (dMw r1),some (.int first),some (.ptr ev),some (.ptr b),some (.ptr fo),g6,g7,g8,none,none],⟨none,none,none,rfl,rfl⟩,fun _ _ _ _=>trivial,?_,?_⟩
 ·rintro i d Γ2 L3 hd ⟨g6,g7,g8,rfl,rfl⟩
  obtain ⟨x,hx,rfl⟩:=nY hd
  rw [List.getElem?_map] at hx
  cases er:r1[i]? with
  | none=>rw [er] at hx;cases hx
  | some r=>
   rw [er] at hx
   cases hx
   have hi:=(List.getElem?_eq_some_iff.mp er).1
   have eRow:rowAt r1 i=r:=by
    have:=gJ hi
    rw [er] at this
    exact (Option.some.inj this).symm
   have hmr:r∈r1:=List.mem_of_getElem? er
   have ef:((r1.zip bl).take (i+1)).foldl (pH bl) []=pH bl (((r1.zip bl).take i).foldl (pH bl) []) (r,bl.getD i 0):=by
    rw [List.take_add_one,hzg i hi,List.foldl_append,eRow]
    rfl
   have hal:(((r1.zip bl).take i).foldl (pH bl) []).length≤i:=by
    rw [(F2 i (by omega)).len]
    have:=cU (dU (bl.take i)) fun x hx=>bW.mp hx
    rw [List.length_take] at this
    omega
   obtain ⟨acc,hacc⟩:∃acc,((r1.zip bl).take i).foldl (pH bl) []=acc:=⟨_,rfl⟩
   rw [hacc] at ef hal ⊢
   refine ⟨_,_,gU (aU (aP 6) (aU (aP 7) dM)),?_⟩
   have e1:atI ([.bl r.1,dI r.2.1,.int (r.2.2:Nat)]:List D) ((0:Nat):Int)=some (.bl r.1):=atI_nat rfl
   have e2:atI ([.bl r.1,dI r.2.1,.int (r.2.2:Nat)]:List D) ((1:Nat):Int)=some (dI r.2.1):=atI_nat rfl
   have e3:atI ([.bl r.1,dI r.2.1,.int (r.2.2:Nat)]:List D) ((2:Nat):Int)=some (.int (r.2.2:Nat)):=atI_nat rfl
   refine aM (dB (xZ (u64 hr) (aR (dJ (u1 hr)) (aA 4 rfl (aA 6 rfl (pD (.st (hB _)) (aX B.len (aA 5 rfl (qG (.st aD) (aAD ⟨_,rfl,fun hk=> ?_,fun hk=> ?_⟩)))) (bg i hi)))))))
   ·have hk:=of_decide_eq_true hk
    rw [List.length_map] at hk
    have ea:pH bl acc (r,bl.getD i 0)=acc++ [iT bl r]:=if_pos (by show bl.getD i 0=acc.length;omega)
    refine aM (gM (cJ (aA 5 rfl ⟨fo,_,rfl,aD,bV (aC (aR (dJ (u1 hr)) (aA 7 rfl (aG (bQ ?_ e1)))))⟩)))
    refine aC (nA B.tuple (gH 8 (rK (aR (dJ (u1 hr)) (aA 7 rfl (aG (bQ ⟨_,rfl,fun hz3=>⟨_,r.2.1,fun (g:Nat)=> .int (g:Int),fun (g:Nat)=> .int (bl.getD g 0:Nat),rfl,trivial,hz3,fun y hy s H Cc cl2 fp Q q=> ?_,?_⟩⟩ e2)))))))
    ·exact aR (dJ (u1 hr)) (aA 4 rfl (aA 8 rfl (pD (.st (hB _)) q (bg y (o1.go r hmr y hy)))))
    refine aC (aR (dJ (u1 hr)) (aA 4 rfl (aR (dJ (u1 hr)) (aA 7 rfl (aG (bQ (pD (.st (hB _)) (aF ⟨Nat.le_of_ble_eq_true rfl,_,aD,by rw [List.length_map,dF];omega,?_⟩) (bg r.2.2 (o1.oth r hmr))) e3))))))
    have eFr:D.tup [D.bl r.1,D.tup (r.2.1.map fun (g:Nat)=>D.int (bl.getD g 0:Nat)),D.int (bl.getD r.2.2 0:Nat)]=dRw (iT bl r):=by
     unfold dRw iT dI
     rw [List.map_map]
     rfl
    rw [eFr,bR]
    refine ⟨_,_,_,?_,rfl⟩
    rw [ef,ea,List.map_append]
    rfl
   ·have hk:=of_decide_eq_false hk
    rw [List.length_map] at hk
    have ea:pH bl acc (r,bl.getD i 0)=acc:=if_neg (by show ¬bl.getD i 0=acc.length;omega)
    exact bM ⟨_,_,_,by rw [ef,ea],rfl⟩
 ·rintro Γ2 L3 ⟨g6,g7,g8,rfl,rfl⟩
  have eTk:(r1.zip bl).take (pJ (r1.map dRw)).length=r1.zip bl:=by
   rw [iU,List.length_map]
   exact List.take_of_length_le (by rw [List.length_zip];omega)
  rw [eTk,←eFM]
  obtain ⟨r2,hr2⟩:∃r2,kJ r1 bl=r2:=⟨_,rfl⟩
  rw [hr2] at o4 h1 hfl q ⊢
  have hFo:put L2 fo (.lst (r2.map dRw)) fo=some (.lst (r2.map dRw)):=aD
  have hE:=hE (r2.map dRw)
  have hLe:=hLe (r2.map dRw)
  generalize put L2 fo (.lst (r2.map dRw))=L4 at hFo hE hLe
  have hT:=nO (n:=ys.length) (rows:=r2)
  have hTl:(tells ys.length r2).length≤ys.length:=by
   have:=dZ (tells_nodup (n:=ys.length) (rows:=r2)) hT
   exact this
  refine aH (as_setFilt 9 10 (sS (aA 3 rfl ⟨ev,_,rfl,hE,fun hz3=>⟨_,List.range ys.length,fun (c:Nat)=> .int (c:Int),fun c=>r2.any fun r=>decide (r.2.1.getD c 0≠r.2.2),fun (c:Nat)=> .int (c:Int),rfl,hE,hz3,fun y hy s H Cc cl2 fp=>⟨fun Q q=> ?_,fun _ Q q=>aA 10 rfl q⟩,fun te hte=> ?_⟩⟩)))
  ·have hy:=List.mem_range.mp hy
   refine dX (ae_anyL B.any (gH 7 (sS (aA 5 rfl ⟨fo,_,rfl,hFo,fun hz4=>⟨_,r2,dRw,fun r=> .bl (decide (r.2.1.getD y 0≠r.2.2)),rfl,hFo,hz4,fun r hr0 s H Cc cl2 fp Q q=> ?_,⟨r2.map fun r=>decide (r.2.1.getD y 0≠r.2.2),by rw [List.map_map];rfl,_,rfl,?_⟩⟩⟩)) (ok:=by (dsimp only [vA,dH,cxOf,envOfC,compEnvC,Cx.blk];exact blkOk_by (by rfl)))))
   ·have e2:atI ([.bl r.1,dI r.2.1,.int (r.2.2:Nat)]:List D) ((1:Nat):Int)=some (dI r.2.1):=atI_nat rfl
    have e3:atI ([.bl r.1,dI r.2.1,.int (r.2.2:Nat)]:List D) ((2:Nat):Int)=some (.int (r.2.2:Nat)):=atI_nat rfl
    have e4:atI (r.2.1.map fun (g:Nat)=>D.int (g:Int)) (y:Int)=some (.int (r.2.1.getD y 0:Nat)):=xJ (getD_mem (by rw [o4.len r hr0];exact hy))
    refine aAH (u64 hr) (aR (dJ (u1 hr)) (aR (dJ (u1 hr)) (aA 7 rfl (aG (bQ (aA 10 rfl (bQ ?_ e4)) e2)))))
    refine aR (dJ (u1 hr)) (aA 7 rfl (aG (bQ (aAL ?_) e3)))
    have e5:=int_ne (r.2.1.getD y 0) r.2.2
    rw [e5]
    exact q
   ·rw [List.any_map]
    exact q
  ·have eT:((List.range ys.length).filter fun c=>r2.any fun r=>decide (r.2.1.getD c 0≠r.2.2))=tells ys.length r2:=rfl
   rw [eT]
   obtain ⟨cs,hcs⟩:∃cs,tells ys.length r2=cs:=⟨_,rfl⟩
   rw [hcs] at q hT hTl ⊢
   have hTe:put L4 te (.lst (iN cs)) te=some (.lst (iN cs)):=aD
   have hFo:=aN hte (o:= .lst (iN cs)) _ _ hFo
   have hLe:=hLe.trans (aN hte (o:= .lst (iN cs)))
   have eiN:(cs.map fun (c:Nat)=>D.int (c:Int))=iN cs:=rfl
   rw [eiN]
   generalize put L4 te (.lst (iN cs))=L5 at hTe hFo hLe
   refine aM (aW (bV (aC (ae_tupW B.tuple (gH 10 (sS (aA 9 rfl ⟨te,_,rfl,hTe,fun hz3=>⟨_,cs,fun (c:Nat)=> .int (c:Int),fun c=> .str (ys.getD c Str.empty),rfl,hTe,hz3,fun y hy s H Cc cl2 fp Q q=> ?_,⟨_,fm_map hT,?_⟩⟩⟩)))))))
   ·exact aR (dJ (u1 hr)) (aA 0 rfl (aA 10 rfl (ixa_U q (str_get (hT y hy)))))
   ·exact aC (aK d1 (hr.mono (by omega)) (aC (aA 9 rfl (aC (aA 5 rfl (aC (aG (aF ⟨_,_,cs,r2,0,ys.length,rfl,.st hTe,.inr (.st hFo),o4,hT,h1,by omega,by omega,aF ⟨Nat.le_of_ble_eq_true rfl,_,hLe,q⟩⟩))))))))
end
end K
namespace K
open PySem PySem.Spec PyProof.Rows L2 DL
def dTx (TX:Addr) (m:List Str×Rws):D:= .obj TX [dMw m.2,.wds m.1]
structure TxC (K:PySem.W.Frag) (TX pW pR:Addr):Prop where
 sc:SlX.SCls K TX
 s1:SlX.Slot1 K TX "own_words" pW 1
 s2:SlX.Slot1 K TX "own_rows" pR 0
theorem dTx.ins {L:Lp} {TX:Addr} {m:List Str×Rws}:nH L (dTx TX m) TX:= .inr ⟨_,rfl⟩
theorem dTx.w {L:Lp} {TX:Addr} {m:List Str×Rws}:zM L (dTx TX m) TX 1 (.wds m.1):= .fz rfl
theorem dTx.r {L:Lp} {TX:Addr} {m:List Str×Rws}:zM L (dTx TX m) TX 0 (dMw m.2):= .fz rfl
theorem del_new {L:Lp} {x:Addr} {o:MO} (h:L x=none):DL.del (put L x o) x=L:=by
 funext b
 unfold DL.del put
 by_cases e:b=x
 ·rw [if_pos e,e,h]
 ·rw [if_neg e,if_neg e]
theorem frzT {C:DL.Ctx} {L:Lp} {TX x:Addr} {m:List Str×Rws} (h:L x=none):Frz C (put L x (.ins TX [some (dMw m.2),some (.wds m.1)])) (.ptr x) L (dTx TX m):=by
 have z:=frz_ins (C:=C) (Cl:=TX) (gs:= [dMw m.2,.wds m.1]) (L:=put L x (.ins TX [some (dMw m.2),some (.wds m.1)])) (a:=x) aD (by simp)
 rw [del_new h] at z
 exact z
structure McOk (m:List Str×Rws):Prop where
 ok:MOk m.1.length m.2
 pos:0 < m.2.length
 rl:m.2.length≤100
 wl:m.1.length≤20
 wd:∀x∈m.1,wdS x=true
 up:adj m.1=true
section
variable {P:Program} {w:World} {K:PySem.W.Frag} {mg:Str→Option Value} {base:Heap} {f:Addr} {fd:FuncData} {TX pW pR gI:Addr}
def dD (TX:Addr):SpA:=fun ds L Q _=> ∃(a:Addr) (x y:D),ds= [.ptr a,x,y]∧L a=some (.ins TX [])∧Q .non (put L a (.ins TX [some y,some x]))
theorem ok_Texts_init (F:Fun K "__init__" "Texts.__init__" bT f fd) (hb:Binds K fd ["self","words","rows"] []) (tc:TxC K TX pW pR):FnA P w K mg base 1 f (dD TX):=by
 refine fnA F sc_Texts___init__ hb (fun ds L Q R h=>by obtain ⟨_,_,_,rfl,_⟩:=h;rfl) fun cdv A outer s H E ds L Q R hr h=> ?_
 obtain ⟨a,x,y,rfl,ha,q⟩:=h
 refine aH (as_sl (aA 1 rfl (aA 0 rfl ⟨a,TX,[],pW,1,rfl,ha,tc.sc,tc.s1,?_⟩)))
 refine aM (as_sl (aA 2 rfl (aA 0 rfl ⟨a,TX,_,pR,0,rfl,aD,tc.sc,tc.s2,?_⟩)))
 rw [bR]
 exact ⟨_,.refl _,q⟩
def mK (TX:Addr):SpA:=fun ds L Q _=> ∃(m:List Str×Rws),ds= [.ptr TX,.wds m.1,dMw m.2]∧McOk m∧Q (dTx TX (bU m.1 m.2 0)) L
theorem ok_Texts_of (F:Fun K "of" "Texts.of" iH f fd) (hb:Binds K fd ["cls","words","rows"] []) (B:Bl mg) (mkk:Mk K TX gI) (fi:FnA P w K mg base 1 gI (dD TX)) (g1:GI mg "MOST_WORDS" 20) (g2:GI mg "MOST_STATES" 100) (d1:Def P w K mg base "is_words" 3 mJ) (d2:Def P w K mg base "is_rows" 3 oU) (d3:Def P w K mg base "least_machine" 3 cI):FnA P w K mg base 4 f (mK TX):=by
 refine fnA F sc_Texts_of hb (fun ds L Q R h=>by obtain ⟨_,rfl,_⟩:=h;rfl) fun cdv A outer s H E ds L Q R hr h=> ?_
 obtain ⟨m,rfl,hM,q⟩:=h
 obtain ⟨t1,g1⟩:=g1
 obtain ⟨t2,g2⟩:=g2
 refine aH (dB (eY (dX (aK d1 (hr.mono (by omega)) (aC (aA 1 rfl (aC (oH g1 (aF ⟨m.1,20,rfl,hM.wd,hM.up,hM.wl,true,rfl,(fun z=>nomatch z),fun _=>bM ?_⟩)))))))))
 refine aH (dB (eY (dX (aK d2 (hr.mono (by omega)) (aC (aA 2 rfl (aC (aX B.len (aA 1 rfl (zX (aC (oH g2 (aF ⟨m.2,m.1.length,100,rfl,hM.ok,?_,hM.pos,hM.rl,true,rfl,(fun z=>nomatch z),fun _=>bM ?_⟩)))))))))))))
 ·have:=hM.wl
  omega
 refine aH (aQ 3 (aK d3 (hr.mono (by omega)) (aC (aA 1 rfl (aC (aA 2 rfl (aC (aG (aF ⟨m.1,m.2,0,rfl,hM.ok,hM.pos,by have:=hM.rl;omega,by have:=hM.wl;omega,?_⟩)))))))))
 generalize bU m.1 m.2 0=q0 at q ⊢
 have e1:atI ([.wds q0.1,dMw q0.2]:List D) ((0:Nat):Int)=some (.wds q0.1):=atI_nat rfl
 have e2:atI ([.wds q0.1,dMw q0.2]:List D) ((1:Nat):Int)=some (dMw q0.2):=atI_nat rfl
 refine aM (aW (AE.frz (ae_makeV mkk fi (hr.mono (by omega)) (aA 0 rfl ⟨rfl,aC (aR (dJ (u1 hr)) (aA 3 rfl (aG (bQ (aC (aR (dJ (u1 hr)) (aA 3 rfl (aG (bQ (aF fun x hx=>⟨x,.wds q0.1,dMw q0.2,rfl,aD,rfl,?_⟩) e2))))) e1))))⟩))))
 rw [bR]
 exact ⟨_,_,frzT hx,_,.refl _,q⟩
def jV (TX:Addr):SpA:=fun ds L Q _=> ∃(m:List Str×Rws) (d:D) (us:List Str),ds= [dTx TX m,d]∧TxS d us∧MOk m.1.length m.2∧0 < m.2.length∧m.2.length≤100000∧m.1.length≤1000∧Q (dTx TX (bU m.1 m.2 (nJ m.1 m.2 0 us))) L
theorem ok_Texts_fdiv (F:Fun K "__floordiv__" "Texts.__floordiv__" bF f fd) (hb:Binds K fd ["self","other"] []) (B:Bl mg) (tc:TxC K TX pW pR) (mkk:Mk K TX gI) (nm:mg "Texts"=some (.ref TX)) (fi:FnA P w K mg base 1 gI (dD TX)) (d1:Def P w K mg base "is_text" 2 jD) (d2:Def P w K mg base "state_behind" 2 iK) (d3:Def P w K mg base "least_machine" 3 cI):FnA P w K mg base 4 f (jV TX):=by
 refine fnA F sc_Texts___floordiv__ hb (fun ds L Q R h=>by obtain ⟨_,_,_,rfl,_⟩:=h;rfl) fun cdv A outer s H E ds L Q R hr h=> ?_
 obtain ⟨m,d,us,rfl,hd,hM,h0,hz,hwl,q⟩:=h
 refine aH (dB (eY (dX (aK d1 (hr.mono (by omega)) (aC (aA 1 rfl (aF ⟨_,us,rfl,hd,true,rfl,(fun z=>nomatch z),fun _=>bM ?_⟩)))))))
 refine aH (aQ 2 (aK d2 (hr.mono (by omega)) (aC (vI (aA 0 rfl ⟨TX,pW,1,_,dTx.w,tc.sc,tc.s1,aC (vI (aA 0 rfl ⟨TX,pR,0,_,dTx.r,tc.sc,tc.s2,aC (aA 1 rfl (aF ⟨m.1,m.2,_,us,rfl,hd.ts,hM,h0,?_⟩))⟩))⟩)))))
 have hs:nJ m.1 m.2 0 us < m.2.length:=vW hM us 0 h0
 ·refine aH (aQ 3 (aK d3 (hr.mono (by omega)) (aC (vI (aA 0 rfl ⟨TX,pW,1,_,dTx.w,tc.sc,tc.s1,aC (vI (aA 0 rfl ⟨TX,pR,0,_,dTx.r,tc.sc,tc.s2,aC (aA 2 rfl (aF ⟨m.1,m.2,_,rfl,hM,hs,hz,hwl,?_⟩))⟩))⟩)))))
  generalize bU m.1 m.2 (nJ m.1 m.2 0 us)=q0 at q ⊢
  have e1:atI ([.wds q0.1,dMw q0.2]:List D) ((0:Nat):Int)=some (.wds q0.1):=atI_nat rfl
  have e2:atI ([.wds q0.1,dMw q0.2]:List D) ((1:Nat):Int)=some (dMw q0.2):=atI_nat rfl
  refine aM (aW (AE.frz (wO mkk fi nm (hr.mono (by omega)) (aC (aR (dJ (u1 hr)) (aA 3 rfl (aG (bQ (aC (aR (dJ (u1 hr)) (aA 3 rfl (aG (bQ (aF fun x hx=>⟨x,.wds q0.1,dMw q0.2,rfl,aD,rfl,?_⟩) e2))))) e1))))))))
  rw [bR]
  exact ⟨_,_,frzT hx,_,.refl _,q⟩
end
end K
namespace K
open PySem PySem.Spec PyProof.Rows L2 DL
def sH (x:Str) (a b:Bool):Bool:=if x=("and" :Str) then a && b else if x=("or" :Str) then a || b else if x=("minus" :Str) then a && !b else a !=b
section
variable {P:Program} {w:World} {K:PySem.W.Frag} {mg:Str→Option Value} {base:Heap} {f:Addr} {fd:FuncData}
def lH:SpA:=fun ds L Q _=> ∃(x:Str) (a b:Bool),ds= [.str x,.bl a,.bl b]∧Q (.bl (sH x a b)) L
theorem ok_is_either (F:Fun K "is_either" "is_either" fU f fd) (hb:Binds K fd ["name","one","other"] []):FnA P w K mg base 1 f lH:=by
 refine fnA F sc_is_either hb (fun ds L Q R h=>by obtain ⟨_,_,_,rfl,_⟩:=h;rfl) fun cdv A outer s H E ds L Q R hr h=> ?_
 obtain ⟨x,a,b,rfl,q⟩:=h
 unfold sH at q
 refine aH (dB (xZ (u64 hr) (aA 0 rfl (gY (aAU ⟨_,rfl,fun h1=> ?_,fun h1=>bM ?_⟩)))))
 ·rw [if_pos (of_decide_eq_true h1)] at q
  refine aM (aW (oK (aA 1 rfl ⟨a,rfl,fun ha=>oF (aA 2 rfl ⟨_,.refl _,?_⟩),fun ha=>⟨_,.refl _,?_⟩⟩)))
  ·rw [ha] at q;exact q
  ·rw [ha] at q;exact q
 rw [if_neg (of_decide_eq_false h1)] at q
 refine aH (dB (xZ (u64 hr) (aA 0 rfl (gY (aAU ⟨_,rfl,fun h2=> ?_,fun h2=>bM ?_⟩)))))
 ·rw [if_pos (of_decide_eq_true h2)] at q
  refine aM (aW (ae_or (aA 1 rfl ⟨a,rfl,fun ha=>⟨_,.refl _,?_⟩,fun ha=>oF (aA 2 rfl ⟨_,.refl _,?_⟩)⟩)))
  ·rw [ha] at q;exact q
  ·rw [ha] at q;exact q
 rw [if_neg (of_decide_eq_false h2)] at q
 refine aH (dB (xZ (u64 hr) (aA 0 rfl (gY (aAU ⟨_,rfl,fun h3=> ?_,fun h3=>bM ?_⟩)))))
 ·rw [if_pos (of_decide_eq_true h3)] at q
  refine aM (aW (oK (aA 1 rfl ⟨a,rfl,fun ha=>oF (zK (aA 2 rfl ⟨b,rfl,_,.refl _,?_⟩)),fun ha=>⟨_,.refl _,?_⟩⟩)))
  ·rw [ha] at q;exact q
  ·rw [ha] at q;exact q
 rw [if_neg (of_decide_eq_false h3)] at q
 exact aM (aW (aAH (u64 hr) (aA 1 rfl (aA 2 rfl (ne_B ⟨_,.refl _,q⟩)))))
def vQ:SpA:=fun ds L Q _=> ∃(x:Str) (m n:List Str×Rws),ds= [.str x,dLm m,dLm n]∧MOk m.1.length m.2∧MOk n.1.length n.2∧0 < m.2.length∧0 < n.2.length∧m.2.length≤100∧n.2.length≤100∧m.1.length≤20∧n.1.length≤20∧
 ∀xs:List Str,yF xs→(∀k,k∈xs↔k∈m.1∨k∈n.1)→Q (dLm (xs,qF m.1 n.1 xs m.2 n.2 (sH x))) L
end
end K
namespace K
open PySem PySem.Spec PyProof.Rows L2 DL
theorem tR (cols:List Nat) (rows:Rws):∀(m k:Nat) (o:List Nat),∃t,xF cols rows m k o=o++t
 | 0,k,o=>⟨[],by rw [List.append_nil];rfl⟩
 | m+1,k,o=>by
  unfold xF
  cases e:o[k]? with
  | none=>exact ⟨[],by rw [List.append_nil]⟩
  | some s=>
   obtain ⟨t1,h1⟩:=iZ ((cG cols).map (gl (rowAt rows s))) o
   obtain ⟨t2,h2⟩:=tR cols rows m (k+1) (uU cols (rowAt rows s) o)
   refine ⟨t1++t2,?_⟩
   show xF cols rows m (k+1) (uU cols (rowAt rows s) o)=_
   rw [h2]
   unfold uU
   rw [h1,List.append_assoc]
def dP (n s:Nat):D:= .tup [.int (s / n:Nat),.int (s % n:Nat)]
theorem dP_enc {n a b:Nat} (h:b < n):dP n (vL n a b)= .tup [.int (a:Nat),.int (b:Nat)]:=by
 unfold dP
 rw [uF h,uD h]
theorem xM (n:Nat):∀x y:Nat,nk (dP n x)=nk (dP n y)→x=y:=fun x y h=>by
 unfold dP at h
 simp only [nk,nks] at h
 injection h with h
 injection h with h1 h
 injection h with h2 _
 injection h1 with h1
 injection h2 with h2
 have e1:x / n=y / n:=by omega
 have e2:x % n=y % n:=by omega
 rw [←Nat.div_add_mod x n,←Nat.div_add_mod y n,e1,e2]
theorem aAa (n s:Nat):okN (dP n s)=true:=by
 unfold dP
 refine xG _ ?_
 rw [okD,oM,oM,oM,okD,okD]
 rfl
theorem xN (n s:Nat):(nk (dP n s)).depth≤8:=by
 unfold dP
 simp only [nk,nks,NestedKey.depth,NestedKey.depthAll]
 omega
def SS (M:Lp) (nb pr rw:Addr) (n:Nat) (o:List Nat) (R:List D):Lp:=put (put (put M nb (.nd (yI (dP n) o))) pr (.lst (o.map (dP n)))) rw (.lst R)
structure SSk (M:Lp) (nb pr rw:Addr):Prop where
 n:M nb=none
 p:M pr=none
 r:M rw=none
 np:nb≠pr
 nr:nb≠rw
 pr_:pr≠rw
section
variable {M:Lp} {nb pr rw:Addr} {n:Nat} {o:List Nat} {R:List D}
theorem SSk.gn (h:SSk M nb pr rw):SS M nb pr rw n o R nb=some (.nd (yI (dP n) o)):=by unfold SS;rw [aJ h.nr,aJ h.np,aD]
theorem SSk.gp (h:SSk M nb pr rw):SS M nb pr rw n o R pr=some (.lst (o.map (dP n))):=by unfold SS;rw [aJ h.pr_,aD]
theorem SSk.gr:SS M nb pr rw n o R rw=some (.lst R):=aD
theorem SSk.at_ (h:SSk M nb pr rw) {a:Addr} {u:MO} (e:M a=some u):SS M nb pr rw n o R a=some u:=by
 unfold SS
 rw [aJ (aO e h.r),aJ (aO e h.p),aJ (aO e h.n)]
 exact e
theorem SSk.add (h:SSk M nb pr rw) {s:Nat}:put (put (SS M nb pr rw n o R) nb (.nd (yI (dP n) (o++ [s])))) pr (.lst ((o++ [s]).map (dP n)))=SS M nb pr rw n (o++ [s]) R:=by
 unfold SS
 rw [fK (Ne.symm h.nr),fK (Ne.symm h.np),bR,fK (Ne.symm h.pr_),bR]
theorem SSk.row (h:SSk M nb pr rw) {R':List D}:put (SS M nb pr rw n o R) rw (.lst R')=SS M nb pr rw n o R':=by
 unfold SS
 rw [bR]
theorem SSk.new (h:SSk M nb pr rw) {g:Addr} {u:MO} (h1:g≠nb) (h2:g≠pr) (h3:g≠rw):put (SS M nb pr rw n o R) g u=SS (put M g u) nb pr rw n o R:=by
 unfold SS
 rw [fK (Ne.symm h3),fK (Ne.symm h2),fK (Ne.symm h1)]
theorem SSk.put (h:SSk M nb pr rw) {g:Addr} {u:MO} (h1:g≠nb) (h2:g≠pr) (h3:g≠rw):SSk (DL.put M g u) nb pr rw:=
 ⟨by rw [aJ (Ne.symm h1)];exact h.n,by rw [aJ (Ne.symm h2)];exact h.p,by rw [aJ (Ne.symm h3)];exact h.r,h.np,h.nr,h.pr_⟩
theorem SSk.le (h:SSk M nb pr rw):Le M (SS M nb pr rw n o R):=fun a u e=>h.at_ e
end
end K
namespace K
open PySem PySem.Spec PyProof.Rows L2 DL
theorem le_pt {A B:Lp} (h:Le A B) (p:Addr) (o:MO):Le (put A p o) (put B p o):=fun a u e=>by
 by_cases ea:a=p
 ·subst ea
  rw [aD] at e ⊢
  exact e
 ·rw [aJ ea] at e ⊢
  exact h a u e
def cL (ws xs:List Str):List (Option Nat):=xs.map (eX ws)++ [none]
def dC1 (cs:List (Option Nat)):List D:=cs.map fun c=> .int (ci c)
theorem cL_len (ws xs:List Str):(cL ws xs).length=xs.length+1:=by unfold cL;simp
theorem cut_init {α:Type} (xs:List α) (v:α):cut (xs++ [v]) none (some (-1))=xs:=by
 have h:cut (xs++ [v]) none (some (-1))=cut (xs++ [v]) none (some (xs.length:Int)):=by
  have e1:HT.sIx (xs++ [v]).length (xs++ [v]).length (some (-1))=xs.length:=by
   rw [List.length_append,List.length_singleton]
   show ((-1:Int)+((xs.length+1:Nat):Int)).toNat=_
   omega
  have e2:HT.sIx (xs++ [v]).length (xs++ [v]).length (some (xs.length:Int))=xs.length:=by
   rw [HT.sIx_nat,List.length_append]
   omega
  unfold cut
  rw [e1,e2]
 rw [h,vC,List.take_left]
theorem side_at {ws vs xs:List Str} {p q:Rws} {f:Bool→Bool→Bool} {i:Nat} (hi:i < xs.length+1):∃c c1 c2,(cG (List.range xs.length))[i]? =some c∧(cL ws xs)[i]? =some c1∧(cL vs xs)[i]? =some c2∧(∀k,c1=some k→k < ws.length)∧(∀k,c2=some k→k < vs.length)∧
  ∀s,gl (uX ws vs xs p q f s) c=vL q.length (gl (rowAt p (s / q.length)) c1) (gl (rowAt q (s % q.length)) c2):=by
 unfold cG cL
 by_cases h:i < xs.length
 ·have hx:=List.getElem?_eq_getElem h
  refine ⟨some i,eX ws xs[i],eX vs xs[i],?_,?_,?_,fun k e=>cY k e,fun k e=>cY k e,fun s=> ?_⟩
  ·rw [List.getElem?_append_left (by simpa using h),List.getElem?_map,List.getElem?_range h];rfl
  ·rw [List.getElem?_append_left (by simpa using h),List.getElem?_map,hx];rfl
  ·rw [List.getElem?_append_left (by simpa using h),List.getElem?_map,hx];rfl
  ·show (xs.map _).getD i 0=_
   exact DL.getD_some (by rw [List.getElem?_map,hx];rfl)
 ·have e:i=xs.length:=by omega
  subst e
  refine ⟨none,none,none,?_,?_,?_,(fun k e=>nomatch e),(fun k e=>nomatch e),fun s=>rfl⟩
  ·rw [List.getElem?_append_right (by simp)];simp
  ·rw [List.getElem?_append_right (by simp)];simp
  ·rw [List.getElem?_append_right (by simp)];simp
theorem dC1_get {cs:List (Option Nat)} {i:Nat} {c:Option Nat} (h:cs[i]? =some c):atI (dC1 cs) (i:Int)=some (.int (ci c)):=atI_nat (by unfold dC1;rw [List.getElem?_map,h];rfl)
section
variable {P:Program} {w:World} {K:PySem.W.Frag} {mg:Str→Option Value} {base:Heap} {f:Addr} {fd:FuncData}
set_option maxHeartbeats 0 in
theorem ok_side (F:Fun K "side_by_side" "side_by_side" cP f fd) (hb:Binds K fd ["name","one","other"] []) (B:Bl mg) (d1:Def P w K mg base "column_of" 1 iY) (d2:Def P w K mg base "goal_of" 1 jE) (d3:Def P w K mg base "is_either" 1 lH):FnA P w K mg base 2 f vQ:=by
 refine fnA F sc_side_by_side hb (fun ds L Q R h=>by obtain ⟨_,_,_,rfl,_⟩:=h;rfl) fun cdv A outer s H E ds L Q R hr h=> ?_
 obtain ⟨x,m,n,rfl,hM,hN,hm0,hn0,hm1,hn1,hmw,hnw,q⟩:=h
 have em1:∀m:List Str×Rws,atI ([.wds m.1,dMw m.2]:List D) ((0:Nat):Int)=some (.wds m.1):=fun m=>atI_nat rfl
 have em2:∀m:List Str×Rws,atI ([.wds m.1,dMw m.2]:List D) ((1:Nat):Int)=some (dMw m.2):=fun m=>atI_nat rfl
 refine aH (aQ 3 (AE.drop (ae_tupWp B.tuple (bO (cr_sortX rfl (aAQ hr)) B.sorted (aC (aY DU.op_orX (bJ (cr_setT rfl) B.set (aC (aR (dJ (u1 hr)) (aA 1 rfl (aG (bQ (aF (c_setU ?_ fun a1 k1 ha1 hk1=>bJ (cr_setT rfl) B.set (aC (aR (dJ (u1 hr)) (aA 2 rfl (aG (bQ (aF (c_setU ?_ fun a2 k2 ha2 hk2=>DU.or_X (aN ha2 _ _ aD) aD (aO aD ha2) (by omega) (by omega) fun a3 k3 ha3 hk3=>aF (c_sortX aD (by rw [dF];omega) fun a4 xs ha4 hup hmem hxl=>⟨a4,xs,rfl,aD,L,?_,?_⟩))) (em1 n)))))))) (em1 m)))))))))))))
 ·show m.1.length+1 < 4096
  omega
 ·show n.1.length+1 < 4096
  omega
 ·exact (aN ha1).trans ((aN ha2).trans ((aN ha3).trans (aN ha4)))
 have hmem2:∀k,k∈xs↔k∈m.1∨k∈n.1:=fun k=>by
  rw [hmem k,Bool.or_eq_true,decide_eq_true_eq,decide_eq_true_eq]
 have q:=q xs hup hmem2
 have hxs:xs.length≤40:=by omega
 have eC:∀ws:List Str,(xs.map fun y=>D.int (ci (eX ws y)))++ [D.int (-1)]=dC1 (cL ws xs):=fun ws=>by
  unfold dC1 cL
  rw [List.map_append,List.map_map]
  rfl
 refine aH (aQ 4 (AE.drop (qD (aAk (gH 5 (yC (aA 3 rfl ⟨_,.u xs,fun hz=>⟨_,xs,.str,fun y=> .int (ci (eX m.1 y)),rfl,trivial,hz,fun y hy s H Cc cl fp Q q=> ?_,fun l1 hl1=>fL (aC (qC (aG ⟨1,rfl,aF ⟨Nat.le_of_ble_eq_true rfl,fun l2 hl2=>add_L (aN hl2 _ _ aD) aD (fun lf hlf=>⟨put L lf (.lst (dC1 (cL m.1 xs))),?_,?_⟩) ?_⟩⟩)))⟩⟩)))))))
 ·exact aK d1 (hr.mono (by omega)) (aC (aR (dJ (u1 hr)) (aA 1 rfl (aG (bQ (aC (aA 5 rfl (aF ⟨m.1,y,.inl rfl,q⟩))) (em1 m))))))
 ·rw [eC]
  exact le_pt ((aN hl1).trans (aN hl2)) lf _
 rotate_left
 ·rw [List.length_map,dF]
  show _+1≤_
  omega
 have hlf0:L lf=none:=((aN hl1).trans (aN hl2)).none hlf
 have hF1:put L lf (.lst (dC1 (cL m.1 xs))) lf=some (.lst (dC1 (cL m.1 xs))):=aD
 have hL1:=aN hlf0 (o:= .lst (dC1 (cL m.1 xs)))
 generalize put L lf (.lst (dC1 (cL m.1 xs)))=L1 at hF1 hL1 ⊢
 refine aH (aQ 6 (AE.drop (qD (aAk (gH 5 (yC (aA 3 rfl ⟨_,.u xs,fun hz=>⟨_,xs,.str,fun y=> .int (ci (eX n.1 y)),rfl,trivial,hz,fun y hy s H Cc cl fp Q q=> ?_,fun l1 hl1=>fL (aC (qC (aG ⟨1,rfl,aF ⟨Nat.le_of_ble_eq_true rfl,fun l2 hl2=>add_L (aN hl2 _ _ aD) aD (fun rg hrg=>⟨put L1 rg (.lst (dC1 (cL n.1 xs))),?_,?_⟩) ?_⟩⟩)))⟩⟩)))))))
 ·exact aK d1 (hr.mono (by omega)) (aC (aR (dJ (u1 hr)) (aA 2 rfl (aG (bQ (aC (aA 5 rfl (aF ⟨n.1,y,.inl rfl,q⟩))) (em1 n))))))
 ·rw [eC]
  exact le_pt ((aN hl1).trans (aN hl2)) rg _
 rotate_left
 ·rw [List.length_map,dF]
  show _+1≤_
  omega
 have hrg0:L1 rg=none:=((aN hl1).trans (aN hl2)).none hrg
 have hF2:put L1 rg (.lst (dC1 (cL n.1 xs))) rg=some (.lst (dC1 (cL n.1 xs))):=aD
 have hF1:=aN hrg0 (o:= .lst (dC1 (cL n.1 xs))) _ _ hF1
 have hL2:=hL1.trans (aN hrg0 (o:= .lst (dC1 (cL n.1 xs))))
 generalize put L1 rg (.lst (dC1 (cL n.1 xs)))=M0 at hF1 hF2 hL2 ⊢
 obtain ⟨N,hNN⟩:∃N,n.2.length=N:=⟨_,rfl⟩
 have e00:D.tup [.int 0,.int 0]=dP N 0:=by
  unfold dP
  rw [Nat.zero_div,Nat.zero_mod]
  rfl
 refine aH (aQ 7 (ae_nd1 (u16 hr) (bV (aC (aG (aC (aG (aF ⟨Nat.le_of_ble_eq_true rfl,aG ⟨⟨_,rfl⟩,?_,?_,fun nb hnb=> ?_⟩⟩))))))))
 ·rw [e00];exact aAa N 0
 ·rw [e00];exact xN N 0
 refine aH (aQ 8 (fL (aC (bV (aC (aG (aC (aG (aF ⟨Nat.le_of_ble_eq_true rfl,aF ⟨Nat.le_of_ble_eq_true rfl,fun pr hpr=> ?_⟩⟩)))))))))
 refine aH (aQ 9 (fL (aF ⟨Nat.zero_le _,fun rw_ hrw=> ?_⟩)))
 have k1:nb≠pr:=fun e=>by rw [←e,aD] at hpr;cases hpr
 have hpr0:M0 pr=none:=by rw [aJ (Ne.symm k1)] at hpr;exact hpr
 have k2:pr≠rw_:=fun e=>by rw [←e,aD] at hrw;cases hrw
 have k3:nb≠rw_:=fun e=>by rw [←e,aJ k1,aD] at hrw;cases hrw
 have hrw0:M0 rw_=none:=by rw [aJ (Ne.symm k2),aJ (Ne.symm k3)] at hrw;exact hrw
 have S0:SSk M0 nb pr rw_:=⟨hnb,hpr0,hrw0,k1,k3,k2⟩
 have e0:put (put (put M0 nb (.nd [(.tup [.int 0,.int 0],.int 0)])) pr (.lst [.tup [.int 0,.int 0]])) rw_ (.lst [])=SS M0 nb pr rw_ N [0] []:=by
  rw [e00]
  rfl
 rw [e0]
 obtain ⟨A,hA⟩:∃A,pB m.1 n.1 xs m.2 n.2 (sH x)=A:=⟨_,rfl⟩
 have hAok:MOk xs.length A:=by rw [←hA];exact tM hM hN
 have hAl:A.length=m.2.length*N:=by rw [←hA,jO,hNN]
 have hAb:A.length≤10000:=by
  rw [hAl,←hNN]
  exact Nat.le_trans (Nat.mul_le_mul hm1 hn1) (by decide)
 have hA0:0 < A.length:=by rw [hAl,←hNN];exact Nat.mul_pos hm0 hn0
 have hcols:∀c∈List.range xs.length,c < xs.length:=fun c h=>List.mem_range.mp h
 obtain ⟨OF,hOF⟩:∃OF,orderOf (List.range xs.length) A 0=OF:=⟨_,rfl⟩
 obtain ⟨RM,hRM⟩:∃RM,bD (List.range xs.length) A 0=RM:=⟨_,rfl⟩
 have eRM:RM=OF.map fun s=>qY (List.range xs.length) OF (rowAt A s):=by rw [←hRM,←hOF];rfl
 have eSM:qF m.1 n.1 xs m.2 n.2 (sH x)=RM:=by rw [←hRM,←hA];rfl
 rw [eSM] at q
 have O0:OrdI (List.range xs.length) A 0 0 [0]:=⟨by simp,fun s hs=>by rw [List.mem_singleton.mp hs];exact hA0,rfl,Nat.zero_le _,fun i s hi=>absurd hi (Nat.not_lt_zero _)⟩
 refine jA (fun Γ' L'=> ∃(M:Lp) (g5 g10 g11 g12 g13 g14 g15:Option D),SSk M nb pr rw_∧Le L M∧L'=SS M nb pr rw_ N OF (RM.map dRw)∧Γ'= [some (.str x),some (dLm m),some (dLm n),some (.wds xs),some (.ptr lf),g5,some (.ptr rg),some (.ptr nb),some (.ptr pr),some (.ptr rw_),g10,g11,g12,g13,g14,g15]) ?_ ?_
 ·refine uN (fun mm Γ1 L1=> ∃(M:Lp) (k:Nat) (o:List Nat) (g5 g10 g11 g12 g13 g14 g15:Option D),SSk M nb pr rw_∧Le L M∧M lf=some (.lst (dC1 (cL m.1 xs)))∧M rg=some (.lst (dC1 (cL n.1 xs)))∧OrdI (List.range xs.length) A 0 k o∧OF=xF (List.range xs.length) A mm k o∧A.length < k+mm∧
      L1=SS M nb pr rw_ N o ((RM.take k).map dRw)∧Γ1= [some (.str x),some (dLm m),some (dLm n),some (.wds xs),some (.ptr lf),g5,some (.ptr rg),some (.ptr nb),some (.ptr pr),some (.ptr rw_),g10,g11,g12,g13,g14,g15]) (A.length+1) ⟨M0,0,[0],none,none,none,none,none,none,none,S0,hL2,hF1,hF2,O0,hOF.symm,by omega,rfl,rfl⟩ ?_
  rintro mm Γ1 L1 ⟨M,k,o,g5,g10,g11,g12,g13,g14,g15,S,hLM,hF1,hF2,O,eO,hmm,rfl,rfl⟩
  have hol:=dZ O.nd O.lt
  obtain ⟨tl,htl⟩:=tR (List.range xs.length) A mm k o
  rw [←eO] at htl
  have hRl:RM.length=OF.length:=by rw [eRM,List.length_map]
  have hkl:((RM.take k).map dRw).length=k:=by
   rw [List.length_map,List.length_take,hRl,htl,List.length_append]
   have:=O.kl
   omega
  refine aAc (u64 hr) (aX B.len (aA 9 rfl (qG (.st SSk.gr) (aX B.len (aA 8 rfl (qG (.st S.gp) (aA2 ⟨_,rfl,fun hk=> ?_,fun hk=> ?_⟩)))))))
  ·have hk:=of_decide_eq_true hk
   rw [hkl,List.length_map] at hk
   have hk:k < o.length:=by omega
   obtain ⟨mm,rfl⟩:∃m',mm=m'+1:=⟨mm - 1,by omega⟩
   have es:o[k]? =some o[k]:=List.getElem?_eq_getElem hk
   generalize o[k]=st at es
   have hst:=O.lt st (List.mem_of_getElem? es)
   have O2:=rA hAok hcols O es
   have eO2:OF=xF (List.range xs.length) A mm (k+1) (uU (List.range xs.length) (rowAt A st) o):=by
    rw [eO]
    show (match o[k]? with | none=>_ | some s=>_)=_
    first | (rw [es];rfl) | rw [es]
   obtain ⟨tl2,htl2⟩:=tR (List.range xs.length) A mm (k+1) (uU (List.range xs.length) (rowAt A st) o)
   rw [←eO2] at htl2
   have hst2:st < m.2.length*n.2.length:=by rw [hNN,←hAl];exact hst
   obtain ⟨ha,hb2⟩:=div_in hst2
   have hrow:rowAt A st=uX m.1 n.1 xs m.2 n.2 (sH x) st:=by rw [←hA];exact qZ hst2
   rw [hNN] at ha hb2
   have hr1:=wX ha
   have hr2:=wX (show st % N < n.2.length by rw [hNN];exact hb2)
   have hpk:atI (o.map (dP N)) ((((RM.take k).map dRw).length:Nat):Int)=some (D.tup [.int (st / N:Nat),.int (st % N:Nat)]):=by
    rw [hkl]
    exact atI_nat (by rw [List.getElem?_map,es];rfl)
   refine aH (pZ (aR (dJ (u1 hr)) (aA 8 rfl (aX B.len (aA 9 rfl (qG (.st SSk.gr) (pD (.st S.gp) ⟨_,_,gU (aU (aP 10) (aU (aP 11) dM)),?_⟩ hpk)))))))
   refine aH (aQ 12 (fL (aF ⟨Nat.zero_le _,fun gs hgs=> ?_⟩)))
   have g1:gs≠nb:=(aO S.gn hgs).symm
   have g2:gs≠pr:=(aO S.gp hgs).symm
   have g3:gs≠rw_:=(aO SSk.gr hgs).symm
   have hgs0:M gs=none:=S.le.none hgs
   have S2:∀u,SSk (DL.put M gs u) nb pr rw_:=fun u=>S.put g1 g2 g3
   have f1:∀u,DL.put M gs u lf=some (.lst (dC1 (cL m.1 xs))):=fun u=>aN hgs0 _ _ hF1
   have f2:∀u,DL.put M gs u rg=some (.lst (dC1 (cL n.1 xs))):=fun u=>aN hgs0 _ _ hF2
   have e1:put (SS M nb pr rw_ N o ((RM.take k).map dRw)) gs (.lst [])=SS (DL.put M gs (.lst (iN (((cG (List.range xs.length)).take 0).map fun c=>OF.idxOf (gl (rowAt A st) c))))) nb pr rw_ N ((((cG (List.range xs.length)).take 0).map (gl (rowAt A st))).foldl gQ o) ((RM.take k).map dRw):=S.new g1 g2 g3
   rw [e1]
   have hcl:(cG (List.range xs.length)).length=xs.length+1:=by unfold cG;simp
   refine aH (oE (ai_enumL B.enumerate (aA 4 rfl ⟨lf,_,rfl,(S2 _).at_ (f1 _),fun hz=> ?_⟩)))
   refine ⟨fun i Γ2 L2=> ∃(g13 g14 g15:Option D),L2=SS (DL.put M gs (.lst (iN (((cG (List.range xs.length)).take i).map fun c=>OF.idxOf (gl (rowAt A st) c))))) nb pr rw_ N ((((cG (List.range xs.length)).take i).map (gl (rowAt A st))).foldl gQ o) ((RM.take k).map dRw)∧Γ2= [some (.str x),some (dLm m),some (dLm n),some (.wds xs),some (.ptr lf),g5,some (.ptr rg),some (.ptr nb),some (.ptr pr),some (.ptr rw_),some (.int (st / N:Nat)),some (.int (st % N:Nat)),some (.ptr gs),g13,g14,g15],⟨g13,g14,g15,rfl,rfl⟩,?_,?_,?_⟩
   ·rintro i Γ2 L2 ⟨_,_,_,rfl,_⟩
    exact (S2 _).at_ (f1 _)
   ·rintro i d Γ2 L2 hd ⟨g13,g14,g15,rfl,rfl⟩
    obtain ⟨y,hy,rfl⟩:=nY hd
    have hi:i < xs.length+1:=by
     have:=(List.getElem?_eq_some_iff.mp hy).1
     unfold dC1 at this
     rw [List.length_map,cL_len] at this
     exact this
    obtain ⟨c,c1,c2,hc,hc1,hc2,v1,v2,hgl⟩:=side_at (ws:=m.1) (vs:=n.1) (xs:=xs) (p:=m.2) (q:=n.2) (f:=sH x) hi
    unfold dC1 at hy
    rw [List.getElem?_map,hc1] at hy
    cases hy
    have hgl:=hgl st
    rw [←hrow,hNN] at hgl
    have hq2:gl (rowAt n.2 (st % N)) c2 < N:=by
     rw [←hNN] at hb2 ⊢
     exact hN.gl hb2 c2 v2
    have eg:D.tup [.int (gl (rowAt m.2 (st / N)) c1:Nat),.int (gl (rowAt n.2 (st % N)) c2:Nat)]=dP N (gl (rowAt A st) c):=by rw [hgl,dP_enc hq2]
    have eF:=fold_take (r:=rowAt A st) (o:=o) hc
    have eT:((cG (List.range xs.length)).take (i+1)).map (fun c=>OF.idxOf (gl (rowAt A st) c))=((cG (List.range xs.length)).take i).map (fun c=>OF.idxOf (gl (rowAt A st) c))++ [OF.idxOf (gl (rowAt A st) c)]:=by
     rw [List.take_add_one,hc,List.map_append]
     rfl
    obtain ⟨t3,ht3⟩:=iZ (((cG (List.range xs.length)).drop (i+1)).map (gl (rowAt A st))) ((((cG (List.range xs.length)).take (i+1)).map (gl (rowAt A st))).foldl gQ o)
    have hpre:OF=(((cG (List.range xs.length)).take (i+1)).map (gl (rowAt A st))).foldl gQ o++(t3++tl2):=by
     rw [htl2]
     unfold uU
     rw [←List.append_assoc,←ht3,←List.foldl_append,←List.map_append,List.take_append_drop]
    obtain ⟨oi,hoi⟩:∃oi,(((cG (List.range xs.length)).take i).map (gl (rowAt A st))).foldl gQ o=oi:=⟨_,rfl⟩
    have hOFl:OF.length≤10000:=by
     have:=dZ (jX hAok hcols hA0).nd (jX hAok hcols hA0).lt
     rw [hOF] at this
     omega
    rw [hoi] at eF
    rw [eF] at hpre
    have hoil:(gQ oi (gl (rowAt A st) c)).length≤10000:=by
     have:=congrArg List.length hpre
     rw [List.length_append] at this
     omega
    rw [hoi]
    obtain ⟨G,hG⟩:∃G,((cG (List.range xs.length)).take i).map (fun c=>OF.idxOf (gl (rowAt A st) c))=G:=⟨_,rfl⟩
    have hGl:G.length≤41:=by
     rw [←hG,List.length_map,List.length_take]
     omega
    rw [hG] at eT ⊢
    obtain ⟨sn,hsn⟩:∃sn,gl (rowAt A st) c=sn:=⟨_,rfl⟩
    rw [hsn] at eg hpre hoil eT eF
    refine ⟨_,_,gU (aU (aP 13) (aU (aP 14) dM)),?_⟩
    refine aH (aQ 15 (bV (aC (aK d2 (hr.mono (by omega)) (aC (aR (dJ (u1 hr)) (aR (dJ (u1 hr)) (aA 1 rfl (aG (bQ (aA 10 rfl (bQ (aC (aA 14 rfl (aF ⟨rowAt m.2 (st / N),c1,rfl,fun j ej=> ?_,?_⟩))) hr1)) (em2 m)))))))))))
    ·rw [hM.len _ (cD ha)];exact v1 j ej
    refine aC (aK d2 (hr.mono (by omega)) (aC (aR (dJ (u1 hr)) (aR (dJ (u1 hr)) (aA 2 rfl (aG (bQ (aA 11 rfl (bQ (aC (aR (dJ (u1 hr)) (aA 6 rfl (aA 13 rfl (pD (.st ((S2 _).at_ (f2 _))) (aF ⟨rowAt n.2 (st % N),c2,rfl,fun j ej=> ?_,aF ⟨Nat.le_of_ble_eq_true rfl,?_⟩⟩) (dC1_get hc2)))))) hr2)) (em2 n))))))))
    ·rw [hN.len _ (cD (by rw [hNN];exact hb2))];exact v2 j ej
    rw [eg]
    have ht:∃es,dP N sn= .tup es:=⟨_,rfl⟩
    refine jA (fun Γ' L'=>L'=SS (DL.put M gs (.lst (iN G))) nb pr rw_ N (gQ oi sn) ((RM.take k).map dRw)∧Γ'= [some (.str x),some (dLm m),some (dLm n),some (.wds xs),some (.ptr lf),g5,some (.ptr rg),some (.ptr nb),some (.ptr pr),some (.ptr rw_),some (.int (st / N:Nat)),some (.int (st % N:Nat)),some (.ptr gs),some (.int (i:Nat)),some (.int (ci c1)),some (dP N sn)]) ?_ ?_
    ·refine dB (uM (aA 15 rfl (aA 7 rfl (j_ninN (u16 hr) (S2 _).gn ht (aAa N sn) (xN N sn) ⟨_,rfl,fun hz3=> ?_,fun hz3=> ?_⟩))))
     ·have hg:sn∉oi:=fun hg=>by
       rw [mX (xM N),if_pos hg] at hz3
       cases hz3
      have ea:gQ oi sn=oi++ [sn]:=if_neg hg
      have hoil2:oi.length < 10000:=by rw [ea,List.length_append,List.length_singleton] at hoil;omega
      refine aH (wN (aX B.len (aA 8 rfl (qG (.st (S2 _).gp) (aA 7 rfl (aA 15 rfl (st_N (u16 hr) (S2 _).gn ht (aAa N sn) (xN N sn) (by rw [lZ,dF];omega) ?_)))))))
      rw [List.length_map,dNum_put (xM N) hg]
      have hpp:∀u,put (SS (DL.put M gs (.lst (iN G))) nb pr rw_ N oi ((RM.take k).map dRw)) nb u pr=some (.lst (oi.map (dP N))):=fun u=>by rw [aJ (Ne.symm S.np)];exact (S2 _).gp
      refine aM (gM (cJ (aA 8 rfl ⟨pr,oi.map (dP N),rfl,hpp _,aA 15 rfl ⟨oi.map (dP N),hpp _,by rw [List.length_map,dF];omega,?_⟩⟩)))
      ·refine ⟨?_,rfl⟩
       rw [ea,←(S2 (.lst (iN G))).add,List.map_append]
       rfl
     ·have hg:sn∈oi:=by
       by_cases hg:sn∈oi
       ·exact hg
       ·rw [mX (xM N),if_neg hg] at hz3
        cases hz3
      have ea:gQ oi sn=oi:=if_pos hg
      rw [ea]
      exact bM ⟨rfl,rfl⟩
    ·rintro Γ' L' ⟨rfl,rfl⟩
     have hv:=mX (xM N) (gQ oi sn) sn
     rw [if_pos (mD.mpr (.inr rfl))] at hv
     have eix:(gQ oi sn).idxOf sn=OF.idxOf sn:=by rw [hpre];exact (rF (mD.mpr (.inr rfl))).symm
     rw [eix] at hv
     refine aM (gM (cJ (aA 12 rfl ⟨gs,_,rfl,(S2 _).at_ aD,xP (aA 7 rfl (aA 15 rfl (sb_N (u16 hr) (S2 _).gn ht (aAa N sn) (xN N sn) hv ⟨_,(S2 _).at_ aD,by rw [pX,dF];omega,?_⟩ (fun _ _=>rfl))))⟩)))
     refine ⟨_,_,_,?_,rfl⟩
     rw [eT,eF,wD,(S2 _).new g1 g2 g3,bR]
   ·rintro Γ2 L2 ⟨g13,g14,g15,rfl,rfl⟩
    have eLen:(pJ (dC1 (cL m.1 xs))).length=(cG (List.range xs.length)).length:=by
     rw [iU,hcl]
     unfold dC1
     rw [List.length_map,cL_len]
    rw [eLen,List.take_length]
    have eOI:((cG (List.range xs.length)).map (gl (rowAt A st))).foldl gQ o=uU (List.range xs.length) (rowAt A st) o:=rfl
    rw [eOI]
    have eGL:((cG (List.range xs.length)).map fun c=>OF.idxOf (gl (rowAt A st) c))=((List.range xs.length).map fun c=>OF.idxOf (gl (rowAt A st) (some c)))++ [OF.idxOf (gl (rowAt A st) none)]:=by
     unfold cG
     rw [List.map_append,List.map_map]
     rfl
    rw [eGL]
    obtain ⟨G0,hG0⟩:∃G0,((List.range xs.length).map fun c=>OF.idxOf (gl (rowAt A st) (some c)))=G0:=⟨_,rfl⟩
    rw [hG0]
    have hiN:iN (G0++ [OF.idxOf (gl (rowAt A st) none)])=iN G0++ [D.int (OF.idxOf (gl (rowAt A st) none):Nat)]:=(wD _ _).symm
    rw [hiN]
    have ea:atI ([.bl (rowAt m.2 (st / N)).1,dI (rowAt m.2 (st / N)).2.1,.int ((rowAt m.2 (st / N)).2.2:Nat)]:List D) ((0:Nat):Int)=some (.bl (rowAt m.2 (st / N)).1):=atI_nat rfl
    have eb:atI ([.bl (rowAt n.2 (st % N)).1,dI (rowAt n.2 (st % N)).2.1,.int ((rowAt n.2 (st % N)).2.2:Nat)]:List D) ((0:Nat):Int)=some (.bl (rowAt n.2 (st % N)).1):=atI_nat rfl
    have eOk:OF[k]? =some st:=by
     rw [htl,List.getElem?_append_left hk]
     exact es
    have eRk:RM.take (k+1)=RM.take k++ [qY (List.range xs.length) OF (rowAt A st)]:=by
     rw [List.take_add_one]
     congr 1
     rw [eRM,List.getElem?_map,eOk]
     rfl
    have eRow:D.tup [D.bl (sH x (rowAt m.2 (st / N)).1 (rowAt n.2 (st % N)).1),D.tup (iN G0),D.int (OF.idxOf (gl (rowAt A st) none):Nat)]=dRw (qY (List.range xs.length) OF (rowAt A st)):=by
     have h1:(rowAt A st).1=sH x (rowAt m.2 (st / N)).1 (rowAt n.2 (st % N)).1:=by
      rw [hrow]
      unfold uX
      rw [hNN]
     unfold dRw qY dI
     rw [h1,hG0]
     rfl
    refine aM (gM (cJ (aA 9 rfl ⟨rw_,(RM.take k).map dRw,rfl,SSk.gr,bV (aC (aK d3 (hr.mono (by omega)) (aC (aA 0 rfl (aC (aR (dJ (u1 hr)) (aR (dJ (u1 hr)) (aR (dJ (u1 hr)) (aA 1 rfl (aG (bQ (aA 10 rfl (bQ (aG (bQ ?_ ea)) hr1)) (em2 m))))))))))))⟩)))
    refine aC (aR (dJ (u1 hr)) (aR (dJ (u1 hr)) (aR (dJ (u1 hr)) (aA 2 rfl (aG (bQ (aA 11 rfl (bQ (aG (bQ (aF ⟨x,_,_,rfl,?_⟩) eb)) hr2)) (em2 n)))))))
    refine aC (AE.drop (iJ B.tuple (kW aAZ (aA 12 rfl (mZ (mY (qC (aG ⟨1,rfl,-1,rfl,sla_L ((S2 _).at_ aD) fun l hl=>sE (.st aD) ⟨_,aN hl,?_⟩⟩))))))))
    rw [cut_init]
    refine aC (aR (dJ (u1 hr)) (aA 12 rfl (qC (aG ⟨1,rfl,pD (.st ((S2 _).at_ aD)) (aF ⟨Nat.le_of_ble_eq_true rfl,(RM.take k).map dRw,SSk.gr,?_,?_⟩) (atI_last _ _)⟩))))
    ·rw [hkl,dF];omega
    ·rw [eRow]
     refine ⟨mm,by omega,_,k+1,_,g5,_,_,_,_,_,_,S2 (.lst (iN G0++ [D.int (OF.idxOf (gl (rowAt A st) none):Nat)])),hLM.trans (aN hgs0),f1 _,f2 _,O2,eO2,by omega,?_,rfl⟩
     rw [(S2 _).row,eRk,List.map_append]
     rfl
  ·have hk:=of_decide_eq_false hk
   rw [hkl,List.length_map] at hk
   have hko:k=o.length:=by have:=O.kl;omega
   have eo:OF=o:=by
    rw [eO]
    cases mm with
    | zero=>rfl
    | succ mm=>
     show (match o[k]? with | none=>_ | some s=>_)=_
     have:o[k]? =none:=List.getElem?_eq_none (by omega)
     first | (rw [this];rfl) | rw [this]
   refine ⟨M,g5,g10,g11,g12,g13,g14,g15,S,hLM,?_,rfl⟩
   rw [List.take_of_length_le (by rw [hRl,eo,hko];exact Nat.le_refl _),eo]
 ·rintro Γ' L' ⟨M,g5,g10,g11,g12,g13,g14,g15,S,hLM,rfl,rfl⟩
  exact aM (aW (bV (aC (aA 3 rfl (aC (iJ B.tuple (aA 9 rfl (sE (.st SSk.gr) (aF ⟨Nat.le_of_ble_eq_true rfl,L,hLM.trans S.le,q⟩)))))))))
end
end K
namespace K
open PySem PySem.Spec PyProof.Rows L2 DL
def aAf (TM:Addr) (R:Value→List (Str×D)→Lp→Prop) (L:Lp):Prop:= ∀L',Le L L'→R (.ref TM) [("most",.int 100),("value",.int 100)] L'
def Res (TX TM:Addr) (m:List Str×Rws) (L:Lp) (Q:D→Lp→Prop) (R:Value→List (Str×D)→Lp→Prop):Prop:=(m.2.length≤100→Q (dTx TX m) L)∧(¬m.2.length≤100→aAf TM R L)
theorem aAf.up {TM:Addr} {R:Value→List (Str×D)→Lp→Prop} {L L1:Lp} (h:aAf TM R L) (le:Le L L1):aAf TM R L1:=fun L' hl=>h L' (le.trans hl)
theorem Res.up {TX TM:Addr} {m:List Str×Rws} {L L1:Lp} {Q:D→Lp→Prop} {R:Value→List (Str×D)→Lp→Prop} (h:Res TX TM m L Q R) (le:Le L L1):Res TX TM m L1 (fun d L'=> ∃L2,Le L2 L'∧Q d L2) R:=⟨fun z=>⟨L,le,h.1 z⟩,fun z=>(h.2 z).up le⟩
structure TxOk (t:List Str×Rws):Prop where
 ok:MOk t.1.length t.2
 pos:0 < t.2.length
 rl:t.2.length≤100
 wl:t.1.length≤20
section
variable {P:Program} {w:World} {K:PySem.W.Frag} {mg:Str→Option Value} {base:Heap} {f:Addr} {fd:FuncData} {TX TM pW pR gI gW gR pw pr:Addr}
def lQ (TX TM:Addr):SpA:=fun ds L Q R=> ∃(xs:List Str) (rows:Rws),ds= [.wds xs,dMw rows]∧MOk xs.length rows∧0 < rows.length∧rows.length≤100000∧xs.length≤1000∧Res TX TM (bU xs rows 0) L Q R
theorem ok_settled (F:Fun K "settled" "settled" jG f fd) (hb:Binds K fd ["words","rows"] []) (B:Bl mg) (mkk:Mk K TX gI) (nm:mg "Texts"=some (.ref TX)) (fi:FnA P w K mg base 1 gI (dD TX)) (er:ErX P w K mg base "TooMany" TM 3 ["most","value"]) (g1:GI mg "MOST_STATES" 100) (d1:Def P w K mg base "least_machine" 3 cI):FnA P w K mg base 5 f (lQ TX TM):=by
 refine fnA F sc_settled hb (fun ds L Q R h=>by obtain ⟨_,_,rfl,_⟩:=h;rfl) fun cdv A outer s H E ds L Q R hr h=> ?_
 obtain ⟨xs,rows,rfl,hM,h0,hz,hx,hl⟩:=h
 obtain ⟨t1,g1⟩:=g1
 refine aH (aQ 2 (aK d1 (hr.mono (by omega)) (aC (aA 0 rfl (aC (aA 1 rfl (aC (aG (aF ⟨xs,rows,0,rfl,hM,h0,hz,hx,?_⟩)))))))))
 generalize bU xs rows 0=q0 at hl ⊢
 have e1:atI ([.wds q0.1,dMw q0.2]:List D) ((0:Nat):Int)=some (.wds q0.1):=atI_nat rfl
 have e2:atI ([.wds q0.1,dMw q0.2]:List D) ((1:Nat):Int)=some (dMw q0.2):=atI_nat rfl
 refine aH (dB (xY (aX B.len (aR (dJ (u1 hr)) (aA 2 rfl (aG (bQ (len_T (oH g1 (aAN ⟨_,rfl,fun z=> ?_,fun z=>bM ?_⟩))) e2)))))))
 ·have z:=of_decide_eq_true z
  rw [List.length_map] at z
  exact aM (as_raise (am_err er.e (hr.mono (by omega)) (oH g1 (hl.2 (by omega) L (.refl L)))))
 have z:=of_decide_eq_false z
 rw [List.length_map] at z
 have q:=hl.1 (by omega)
 refine aM (aW (AE.frz (wO mkk fi nm (hr.mono (by omega)) (aC (aR (dJ (u1 hr)) (aA 2 rfl (aG (bQ (aC (aR (dJ (u1 hr)) (aA 2 rfl (aG (bQ (aF fun x hx=>⟨x,.wds q0.1,dMw q0.2,rfl,aD,rfl,?_⟩) e2))))) e1))))))))
 rw [bR]
 exact ⟨_,_,frzT hx,_,.refl _,q⟩
def jC (TX:Addr):SpA:=fun ds L Q _=> ∃m:List Str×Rws,ds= [dTx TX m]∧Q (.wds m.1) L
theorem ok_Texts_words (F:Fun K "words" "Texts.words" dG f fd) (hb:Binds K fd ["self"] []) (tc:TxC K TX pW pR):FnA P w K mg base 1 f (jC TX):=by
 refine fnA F sc_Texts_words hb (fun ds L Q R h=>by obtain ⟨_,rfl,_⟩:=h;rfl) fun cdv A outer s H E ds L Q R hr h=> ?_
 obtain ⟨m,rfl,q⟩:=h
 exact aM (aW (vI (aA 0 rfl ⟨TX,pW,1,_,dTx.w,tc.sc,tc.s1,_,.refl _,q⟩)))
def fJ (TX:Addr):SpA:=fun ds L Q _=> ∃m:List Str×Rws,ds= [dTx TX m]∧Q (dMw m.2) L
theorem ok_Texts_rows (F:Fun K "rows" "Texts.rows" eU f fd) (hb:Binds K fd ["self"] []) (tc:TxC K TX pW pR):FnA P w K mg base 1 f (fJ TX):=by
 refine fnA F sc_Texts_rows hb (fun ds L Q R h=>by obtain ⟨_,rfl,_⟩:=h;rfl) fun cdv A outer s H E ds L Q R hr h=> ?_
 obtain ⟨m,rfl,q⟩:=h
 exact aM (aW (vI (aA 0 rfl ⟨TX,pR,0,_,dTx.r,tc.sc,tc.s2,_,.refl _,q⟩)))
def fP (TX TM:Addr):SpA:=fun ds L Q R=> ∃(x:Str) (m n:List Str×Rws),ds= [.str x,dTx TX m,dTx TX n]∧TxOk m∧TxOk n∧
 ∀xs:List Str,yF xs→(∀k,k∈xs↔k∈m.1∨k∈n.1)→Res TX TM (bU xs (qF m.1 n.1 xs m.2 n.2 (sH x)) 0) L Q R
theorem ok_combined (F:Fun K "combined" "combined" iG f fd) (hb:Binds K fd ["name","one","other"] []) (tc:TxC K TX pW pR) (pw1:Prop1 K TX "words" pw gW) (fw:FnA P w K mg base 1 gW (jC TX)) (pr1:Prop1 K TX "rows" pr gR) (fr:FnA P w K mg base 1 gR (fJ TX)) (d1:Def P w K mg base "side_by_side" 2 vQ) (d2:Def P w K mg base "settled" 5 (lQ TX TM)):FnA P w K mg base 6 f (fP TX TM):=by
 refine fnA F sc_combined hb (fun ds L Q R h=>by obtain ⟨_,_,_,rfl,_⟩:=h;rfl) fun cdv A outer s H E ds L Q R hr h=> ?_
 obtain ⟨x,m,n,rfl,hm,hn,q⟩:=h
 refine aH (pZ (aK d1 (hr.mono (by omega)) (aC (aA 0 rfl (aC (bV (aC (kY tc.sc pw1 fw (hr.mono (by omega)) (aA 1 rfl ⟨dTx.ins,m,rfl,aC (kY tc.sc pr1 fr (hr.mono (by omega)) (aA 1 rfl ⟨dTx.ins,m,rfl,aF ⟨Nat.le_of_ble_eq_true rfl,aC (bV (aC (kY tc.sc pw1 fw (hr.mono (by omega)) (aA 2 rfl ⟨dTx.ins,n,rfl,aC (kY tc.sc pr1 fr (hr.mono (by omega)) (aA 2 rfl ⟨dTx.ins,n,rfl,aF ⟨Nat.le_of_ble_eq_true rfl,aF ⟨x,m,n,rfl,hm.ok,hn.ok,hm.pos,hn.pos,hm.rl,hn.rl,hm.wl,hn.wl,fun xs hup hmem=>⟨_,_,gU (aU (aP 3) (aU (aP 4) dM)),?_⟩⟩⟩⟩))⟩))))⟩⟩))⟩)))))))))
 have q:=q xs hup hmem
 obtain ⟨k1,k2,k3⟩:=sideM_ok (xs:=xs) (f:=sH x) hm.ok hn.ok hm.pos hn.pos
 have k4:(qF m.1 n.1 xs m.2 n.2 (sH x)).length≤10000:=Nat.le_trans k3 (Nat.le_trans (Nat.mul_le_mul hm.rl hn.rl) (by decide))
 have k5:xs.length≤m.1.length+n.1.length:=by
  have:=cU (ys:=m.1++n.1) (List.Pairwise.imp (fun {a b} h e=>by rw [e] at h;exact absurd h (List.lt_irrefl _)) hup) fun k hk=>List.mem_append.mpr ((hmem k).mp hk)
  rwa [List.length_append] at this
 have:=hm.wl
 have:=hn.wl
 exact aM (aW (aK d2 (hr.mono (by omega)) (aC (aA 3 rfl (aC (aA 4 rfl (aF ⟨xs,_,rfl,k1,k2,Nat.le_trans k4 (by decide),by omega,q.up (.refl _)⟩)))))))
end
end K
namespace K
open PySem PySem.Spec PyProof.Rows L2 DL
theorem map_of {α β:Type} {f:α→β}:∀{ds:List β},(∀d∈ds,∃r,d=f r)→∃rs:List α,ds=rs.map f
 | [],_=>⟨[],rfl⟩
 | d::ds,h=>by
  obtain ⟨r,rfl⟩:=h _ List.mem_cons_self
  obtain ⟨rs,rfl⟩:=map_of (ds:=ds) fun e he=>h e (List.mem_cons_of_mem _ he)
  exact ⟨r::rs,rfl⟩
theorem gdn_dW (u:List Wd):DV.GdN (dW u):=⟨⟨_,rfl⟩,xG _ (okD_dW u),Nat.le_trans (nkd_dW u) (by decide),okD_dW u,Nat.le_trans (dep_dW u) (by decide)⟩
theorem ltK_nil (x:Wd) (xs:List Wd):ltK [] (x::xs)=true:=by
 show PySem.W.dataLt (py (dW [])) (py (dW (x::xs)))=true
 rw [zV,zV,PySem.W.dataLt_tuple,List.map_nil,List.map_cons,PySem.W.toks_all_cons]
 simp only [PySem.W.keyToksAll]
 rw [PyProof.Rows.lex_diff (O:=itemOrd) (by simp)]
 rfl
theorem sum_mem {us:List (List Wd)} {u:List Wd} (h:u∈us):u.length+1≤(us.map fun u=>u.length+1).sum:=by
 induction us with
 | nil=>cases h
 | cons v us ih=>
  rw [List.map_cons,List.sum_cons]
  rcases List.mem_cons.mp h with e | h
  ·rw [e];exact Nat.le_add_right _ _
  ·exact Nat.le_trans (ih h) (Nat.le_add_left _ _)
def uK (us:List (List Wd)) (i:Nat):List D:=(List.range ((us.getD i []).length+1)).map fun m=>dW ((us.getD i []).take m)
theorem jQ {us:List (List Wd)} {d:D}:d∈(List.range us.length).flatMap (uK us)↔∃u∈us,∃b,b <+:u∧d=dW b:=by
 rw [List.mem_flatMap]
 constructor
 ·rintro ⟨i,hi,h⟩
  have hi:=List.mem_range.mp hi
  obtain ⟨m,hm,rfl⟩:=List.mem_map.mp h
  exact ⟨us.getD i [],by rw [List.getD_eq_getElem?_getD,List.getElem?_eq_getElem hi];exact List.getElem_mem hi,_,List.take_prefix m _,rfl⟩
 ·rintro ⟨u,hu,b,hb,rfl⟩
  obtain ⟨i,hi,e⟩:=List.getElem_of_mem hu
  have e2:us.getD i []=u:=by rw [List.getD_eq_getElem?_getD,List.getElem?_eq_getElem hi,e];rfl
  refine ⟨i,List.mem_range.mpr hi,List.mem_map.mpr ⟨b.length,List.mem_range.mpr (by rw [e2];exact Nat.lt_succ_of_le hb.length_le),?_⟩⟩
  rw [e2,←List.prefix_iff_eq_take.mp hb]
theorem begOf_len (us:List (List Wd)):((List.range us.length).flatMap (uK us)).length=(us.map fun u=>u.length+1).sum:=by
 rw [List.length_flatMap]
 congr 1
 refine List.ext_getElem (by simp) fun i h1 h2=> ?_
 rw [List.getElem_map,List.getElem_map,List.getElem_range]
 have hi:i < us.length:=by simpa using h1
 unfold uK
 rw [List.length_map,List.length_range,List.getD_eq_getElem?_getD,List.getElem?_eq_getElem hi]
 rfl
theorem bgn_of {us:List (List Wd)} {es:List D} (hm:∀d∈es,d∈(List.range ([]::us).length).flatMap (uK ([]::us))) (hn:(es.map nk).Nodup) (hk:∀k,k∈es.map nk↔k∈((List.range ([]::us).length).flatMap (uK ([]::us))).map nk):
  ∃bs:List (List Wd),es.mergeSort leD=bs.map dW∧Bgn us bs:=by
 have pm:=List.mergeSort_perm es leD
 obtain ⟨bs,e⟩:=map_of (ds:=es.mergeSort leD) (f:=dW) fun d hd=>by
  obtain ⟨u,_,b,_,e⟩:=jQ.mp (hm d (pm.mem_iff.mp hd))
  exact ⟨b,e⟩
 have mem:∀t,t∈bs↔t= []∨∃u∈us,t <+:u:=fun t=>by
  have h1:t∈bs↔nk (dW t)∈es.map nk:=by
   rw [←(pm.map nk).mem_iff,e,List.map_map]
   exact ⟨fun h=>List.mem_map.mpr ⟨t,h,rfl⟩,fun h=>by
    obtain ⟨b,hb,eb⟩:=List.mem_map.mp h
    rw [←nk_dW_inj eb];exact hb⟩
  rw [h1,hk]
  constructor
  ·intro h
   obtain ⟨d,hd,ed⟩:=List.mem_map.mp h
   obtain ⟨u,hu,b,hb,rfl⟩:=jQ.mp hd
   rw [←nk_dW_inj ed]
   rcases List.mem_cons.mp hu with rfl | hu
   ·exact .inl (List.prefix_nil.mp hb)
   ·exact .inr ⟨u,hu,hb⟩
  ·intro h
   refine List.mem_map.mpr ⟨dW t,jQ.mpr ?_,rfl⟩
   rcases h with rfl | ⟨u,hu,hp⟩
   ·exact ⟨[],List.mem_cons_self,[],List.prefix_refl _,rfl⟩
   ·exact ⟨u,List.mem_cons_of_mem _ hu,t,hp,rfl⟩
 have nd:bs.Nodup:=by
  have h1:((es.mergeSort leD).map nk).Nodup:=(pm.map nk).nodup_iff.mpr hn
  rw [e,List.map_map] at h1
  exact (List.pairwise_map.mp h1).imp fun h z=>h (by rw [z])
 refine ⟨bs,e,nd,mem,?_⟩
 have h0:([]:List Wd)∈bs:=(mem []).mpr (.inl rfl)
 have sr:=List.pairwise_mergeSort leD_trans leD_total es
 rw [e] at sr
 match bs,h0,sr,nd with
 | []::_,_,_,_=>rfl
 | (x::b)::rest,h0,sr,_=>
  have h1:([]:List Wd)∈rest:=(List.mem_cons.mp h0).elim (fun z=>nomatch z) id
  have h2:=(List.pairwise_cons.mp (by rw [List.map_cons] at sr;exact sr)).1 (dW []) (List.mem_map.mpr ⟨_,h1,rfl⟩)
  rw [leD_dW,ltK_nil] at h2
  cases h2
section
variable {C:DL.Ctx} {L:Lp} {Q:D→Lp→Prop}
theorem in_ES {b:List Str} {us:List (List Str)} (i:Decidable (b∈us)) (q:Q (.bl (@decide (b∈us) i)) L):L2R C (aAs C.X.K) (dW b) (.tup (us.map dW)) L Q:=by
 refine in_ET (α:=List Str) (z:=b) (xs:=us) ?_
 have e:∀i2:Decidable (b∈us),@decide (b∈us) i2= @decide (b∈us) i:=fun i2=>by congr
 rw [e]
 exact q
end
section
variable {P:Program} {w:World} {K:PySem.W.Frag} {mg:Str→Option Value} {base:Heap} {f:Addr} {fd:FuncData} {TX TM pW pR gI:Addr}
def jU (TX TM:Addr):SpA:=fun ds L Q R=> ∃us:List (List Str),ds= [.ptr TX,.tup (us.map dW)]∧us.length≤10∧(∀u∈us,∀x∈u,wdS x=true)∧(us.map fun u=>u.length+1).sum≤250∧
 ∀(xs:List Str) (rows:Rws),yF xs→(∀k,k∈xs↔∃u∈us,k∈u)→MOk xs.length rows→0 < rows.length→(∀t,fB xs rows 0 t=decide (t∈us))→Res TX TM (bU xs rows 0) L Q R
set_option maxHeartbeats 0 in
theorem ok_Texts_only (F:Fun K "only" "Texts.only" eV f fd) (hb:vK fd ["cls"] "texts") (B:Bl mg) (d1:Def P w K mg base "is_text" 2 jD) (d2:Def P w K mg base "settled" 5 (lQ TX TM)):FnA P w K mg base 7 f (spS 1 (jU TX TM)):=by
 refine fnAS (ps:= ["cls"]) (pv:="texts") (FunX.of F) sc_Texts_only hb fun cdv A outer s H E ds L Q R hr h=> ?_
 obtain ⟨us,rfl,hu10,huw,hsum,q⟩:=h
 have hone:∀u∈us,u.length≤250:=fun u hu=>Nat.le_trans (Nat.le_succ _) (Nat.le_trans (sum_mem hu) hsum)
 refine aH (oE (rK (aA 1 rfl ⟨_,rfl,fun hz=> ?_⟩)))
 refine ⟨fun i Γ2 L2=>L2=L∧∃g2,Γ2= [some (.ptr TX),some (.tup (us.map dW)),g2,none,none,none,none,none,none,none,none],⟨rfl,_,rfl⟩,fun _ _ _ _=>trivial,?_,?_⟩
 ·rintro i d Γ2 L2 hd ⟨rfl,g2,rfl⟩
  rw [List.getElem?_map] at hd
  obtain ⟨u,hu,rfl⟩:=Option.map_eq_some_iff.mp hd
  refine ⟨_,_,aP 2,?_⟩
  refine aM (dB (eY (dX (aK d1 (hr.mono (by omega)) (aC (aA 2 rfl (aF ⟨_,u,rfl,⟨.inr rfl,huw u (List.mem_of_getElem? hu)⟩,true,rfl,(fun z=>nomatch z),fun _=>bM ⟨rfl,_,rfl⟩⟩)))))))
 rintro Γ2 L2 ⟨rfl,g2,rfl⟩
 have hfl:us.flatten.length≤250:=by
  rw [List.length_flatten]
  have h1:(us.map List.length).sum≤(us.map fun u=>u.length+1).sum:=by
   clear hsum hone huw hu10 q hz
   induction us with
   | nil=>exact Nat.le_refl _
   | cons u us ih=>rw [List.map_cons,List.map_cons,List.sum_cons,List.sum_cons];omega
  omega
 refine aH (aQ 3 (AE.drop (ae_tupWp B.tuple (bO (cr_sortX rfl (aAQ hr)) B.sorted (aC (ae_sx [("text",2),("word",4)] [4] (rK (aA 1 rfl ⟨_,rfl,fun hz=>⟨trivial,us,rfl,by unfold scanBound;omega,fun u hu=> ?_,fun t n ht hn=>aF (c_sortX aD (by rw [dF];omega) fun l xs hl hup hmem hlen=>⟨l,xs,rfl,aD,L2,(aN ht).trans (aN hl),?_⟩)⟩⟩))))))))
 ·exact ⟨_,_,(by decide),fun s H Cc cl fp=>⟨aP 2,fun Q q=>aA 2 rfl q,fun y hy=>⟨_,_,(by decide),fun s H Cc cl fp=>⟨aP 4,fun Q q=>aA 4 rfl q⟩⟩⟩⟩
 have hx:∀k,k∈xs↔∃u∈us,k∈u:=fun k=>by
  rw [hmem,decide_eq_true_iff,List.mem_flatten]
 have hxl:xs.length≤250:=by omega
 clear hmem hlen ht hl hn
 show ASs _ _ [some (.ptr TX),some (.tup (us.map dW)),g2,some (.wds xs),none,none,none,none,none,none,none] L2 _
 have hB0:([]::us).length=us.length+1:=rfl
 refine aH (aQ 5 (DV.ae_sortN2 [("text",2),("most",6)] [6] B.sorted (aAQ hr) (sS (fL (aC (bV (aF ⟨Nat.zero_le _,uR (aA 1 rfl ⟨_,.t _,aF ⟨?_,fun tl htl=>⟨tl,_,rfl,aD,fun hz=>⟨aD,uK ([]::us),?_,fun i d hd=> ?_,?_,?_,fun l es hl hm hnd hk=> ?_⟩⟩⟩⟩)⟩)))))))
 ·rw [List.append_nil,List.length_cons,List.length_map,dF];omega
 ·have e:(D.tup []::(us.map dW++ [])).length=([]::us).length:=by rw [List.append_nil,List.length_cons,List.length_map];rfl
  rw [e,begOf_len,List.map_cons,List.sum_cons]
  exact Nat.lt_of_le_of_lt (Nat.add_le_add_left hsum _) (by decide)
 ·have hd:(([]::us).map dW)[i]? =some d:=by rw [List.append_nil] at hd;exact hd
  rw [List.getElem?_map] at hd
  obtain ⟨u,hu,rfl⟩:=Option.map_eq_some_iff.mp hd
  have eg:([]::us).getD i []=u:=by rw [List.getD_eq_getElem?_getD,hu];rfl
  have hul:u.length≤250:=by
   rcases List.mem_cons.mp (List.mem_of_getElem? hu) with rfl | h
   ·exact Nat.zero_le _
   ·exact hone u h
  refine ⟨_,_,(by decide),fun s H Cc cl fp=>⟨aP 2,aj_range1 B.range (qD (aX B.len (aA 2 rfl (len_T (aG (yE ⟨_,rfl,?_,?_,rfl,?_,fun j d1 y hd1 hy=> ?_⟩))))))⟩⟩
  ·omega
  ·rw [List.length_map];omega
  ·unfold uK
   rw [iI,eg,List.length_map,List.length_map,List.length_range]
   omega
  ·obtain ⟨hj,rfl⟩:=pA hd1
   unfold uK at hy
   rw [eg,List.getElem?_map] at hy
   obtain ⟨m,hm,rfl⟩:=Option.map_eq_some_iff.mp hy
   have em:m=j:=by
    have:=(List.getElem?_eq_some_iff.mp hm).2
    rw [List.getElem_range] at this
    exact this.symm
   subst em
   refine ⟨_,_,(by decide),fun s H Cc cl fp=>⟨aP 6,fun Q q=>kW aAZ (aA 2 rfl (mZ (mY (aA 6 rfl ⟨_,rfl,sla_T ?_⟩))))⟩⟩
   rw [Int.zero_add,vC,←List.map_take]
   exact q
 ·intro y hy
  have e:(D.tup []::(us.map dW++ [])).length=([]::us).length:=by rw [List.append_nil,List.length_cons,List.length_map];rfl
  rw [e] at hy
  obtain ⟨_,_,b,_,rfl⟩:=jQ.mp hy
  exact gdn_dW b
 ·have e:(D.tup []::(us.map dW++ [])).length=([]::us).length:=by rw [List.append_nil,List.length_cons,List.length_map];rfl
  rw [e]
  intro es hes d hd d' hd'
  obtain ⟨x,hx,rfl⟩:=List.mem_map.mp hd
  obtain ⟨x',hx',rfl⟩:=List.mem_map.mp hd'
  obtain ⟨_,_,b,_,rfl⟩:=jQ.mp (hes x hx)
  obtain ⟨_,_,b',_,rfl⟩:=jQ.mp (hes x' hx')
  exact alike_dW _ _
 have e:(D.tup []::(us.map dW++ [])).length=([]::us).length:=by rw [List.append_nil,List.length_cons,List.length_map];rfl
 rw [e] at hm hk
 obtain ⟨bs,eb,BG⟩:=bgn_of hm hnd hk
 have hbl:bs.length≤251:=by
  have h1:=hnd.length_le_of_subset (l₂:=((List.range ([]::us).length).flatMap (uK ([]::us))).map nk) fun k hk'=>(hk k).mp hk'
  have h2:bs.length=es.length:=by rw [←List.length_map (f:=dW),←eb,List.length_mergeSort]
  rw [List.length_map,List.length_map,begOf_len,List.map_cons,List.sum_cons] at h1
  rw [h2]
  exact Nat.le_trans h1 (Nat.add_le_add_left hsum _)
 rw [eb]
 have hb1:put (put L2 tl (.lst (.tup []::(us.map dW++ [])))) l (.lst (bs.map dW)) l=some (.lst (bs.map dW)):=aD
 have hle1:Le L2 (put (put L2 tl (.lst (.tup []::(us.map dW++ [])))) l (.lst (bs.map dW))):=(aN htl).trans (aN hl)
 show ASs _ _ [some (.ptr TX),some (.tup (us.map dW)),g2,some (.wds xs),none,some (.ptr l),none,none,none,none,none] (put (put L2 tl (.lst (.tup []::(us.map dW++ [])))) l (.lst (bs.map dW))) _
 generalize put (put L2 tl (.lst (.tup []::(us.map dW++ [])))) l (.lst (bs.map dW))=M1 at hb1 hle1 ⊢
 clear hm hk hnd eb e hB0 htl hl hz
 refine aH (aQ 7 (ae_dcT [("at",8),("text",2)] (Nat.lt_of_succ_lt (u1 hr)) (ai_enumL B.enumerate (aA 5 rfl ⟨l,_,rfl,hb1,fun hz=>⟨fun i acc L3=>L3=M1∧acc=tU (bs.take i),⟨rfl,rfl⟩,?_,?_,?_⟩⟩))))
 ·rintro i acc L3 ⟨rfl,_⟩
  exact hb1
 ·rintro i d acc L3 hd ⟨rfl,rfl⟩
  obtain ⟨x,hx2,rfl⟩:=nY hd
  rw [List.getElem?_map] at hx2
  obtain ⟨b,hb2,rfl⟩:=Option.map_eq_some_iff.mp hx2
  have hil:=(List.getElem?_eq_some_iff.mp hb2).1
  have etk:bs.take (i+1)=bs.take i++ [b]:=by rw [List.take_add_one,hb2];rfl
  have hni:b∉bs.take i:=fun hm=>by
   have:=BG.nd.sublist (List.take_sublist (i+1) bs)
   rw [etk] at this
   exact (List.nodup_append.mp this).2.2 b hm b List.mem_cons_self rfl
  refine ⟨_,_,(by decide),fun s H Cc cl fp=>⟨gU (aU (aP 8) (aU (aP 2) dM)),aA 2 rfl ⟨kS b,(aAB b).symm,fun s H Cc cl fp=>aA 8 rfl ⟨by rw [numT_len,List.length_take,dF];omega,rfl,?_⟩⟩⟩⟩
  have e3:(bs.take i).length=i:=by rw [List.length_take];omega
  have:=numT_put hni
  rw [e3] at this
  rw [this,etk]
 rintro acc L3 ⟨rfl,rfl⟩ nd hnd
 rw [show (pJ (bs.map dW)).length=bs.length by rw [iU,List.length_map],List.take_length]
 have hb2:put L3 nd (.dct (tU bs)) l=some (.lst (bs.map dW)):=aN hnd _ _ hb1
 have hn2:put L3 nd (.dct (tU bs)) nd=some (.dct (tU bs)):=aD
 have hle2:Le L2 (put L3 nd (.dct (tU bs))):=hle1.trans (aN hnd)
 show ASs _ _ [some (.ptr TX),some (.tup (us.map dW)),g2,some (.wds xs),none,some (.ptr l),none,some (.ptr nd),none,none,none] (put L3 nd (.dct (tU bs))) _
 generalize put L3 nd (.dct (tU bs))=M2 at hb2 hn2 hle2 ⊢
 clear hb1 hle1 hnd hz
 refine aH (aQ 9 (fL (aF ⟨Nat.zero_le _,fun rl hrl=> ?_⟩)))
 refine aH (oE (sS (aA 5 rfl ⟨l,_,rfl,aN hrl _ _ hb2,fun hz=> ?_⟩)))
 refine ⟨fun i Γ3 L3=> ∃(M:Lp) (g2 g10:Option D),Le M2 M∧L3=put M rl (.lst (((eZ us bs xs).take i).map dRw))∧M rl=none∧Γ3= [some (.ptr TX),some (.tup (us.map dW)),g2,some (.wds xs),none,some (.ptr l),none,some (.ptr nd),none,some (.ptr rl),g10],⟨M2,g2,none,.refl _,rfl,hrl,rfl⟩,?_,?_,?_⟩
 ·rintro i Γ3 L4 ⟨M,g2,g10,hle,rfl,hrl,rfl⟩
  exact aN hrl _ _ (hle _ _ hb2)
 ·rintro i d Γ3 L4 hd ⟨M,g2,g10,hle,rfl,hrl,rfl⟩
  rw [List.getElem?_map] at hd
  obtain ⟨b,hbi,rfl⟩:=Option.map_eq_some_iff.mp hd
  have hbm:=List.mem_of_getElem? hbi
  have hil:=(List.getElem?_eq_some_iff.mp hbi).1
  have hMb:∀o,put M rl o l=some (.lst (bs.map dW)):=fun o=>aN hrl _ _ (hle _ _ hb2)
  have hMn:∀o,put M rl o nd=some (.dct (tU bs)):=fun o=>aN hrl _ _ (hle _ _ hn2)
  have hbl2:b.length≤250:=by
   rcases (BG.mem b).mp hbm with rfl | ⟨u,hu,hp⟩
   ·exact Nat.zero_le _
   ·exact Nat.le_trans hp.length_le (hone u hu)
  refine ⟨_,_,aP 2,?_⟩
  refine aH (as_setMap 10 4 (yC (aA 3 rfl ⟨_,.u xs,fun hz2=>⟨Str,xs,.str,fun x=> .int (idT bs (b++ [x]):Nat),rfl,trivial,hz2,(fun x hx s H Cc cl fp Q q=> ?_),fun gl hgl=> ?_⟩⟩)))
  ·refine ae_get2T (Nat.lt_of_le_of_lt (Nat.add_le_add_left (by decide) _) (aAQ hr)) (aA 7 rfl ⟨nd,_,rfl,hMn _,bV (uR (aA 2 rfl ⟨_,.t _,aC (aA 4 rfl (aF ⟨?_,aX B.len (aA 5 rfl (qG (.st (hMb _)) ⟨tU bs,b++ [x],?_,hMn _,?_⟩))⟩))⟩))⟩)
   ·rw [List.length_append,List.length_map,dF]
    show b.length+1≤_
    omega
   ·unfold dW
    rw [List.map_append]
    rfl
   ·rw [numT_val,List.length_map]
    dsimp only [idT] at q
    by_cases hc:b++ [x]∈bs
    ·rw [if_pos hc] at q ⊢
     exact q
    ·rw [if_neg hc] at q ⊢
     exact q
  have hRl:((eZ us bs xs).take i).length≤300:=by rw [List.length_take,jP];omega
  have hrg:put (put M rl (.lst (((eZ us bs xs).take i).map dRw))) gl (.lst (xs.map fun x=> .int (idT bs (b++ [x]):Nat))) rl=some (.lst (((eZ us bs xs).take i).map dRw)):=by rw [aJ (aO aD hgl)];exact aD
  have hlg:put (put M rl (.lst (((eZ us bs xs).take i).map dRw))) gl (.lst (xs.map fun x=> .int (idT bs (b++ [x]):Nat))) l=some (.lst (bs.map dW)):=aN hgl _ _ (hMb _)
  refine aM (gM (cJ (aA 9 rfl ⟨rl,_,rfl,hrg,bV (aC (jB (op_inTd (Nat.lt_of_le_of_lt (Nat.add_le_add_left (by decide) _) (aAQ hr))) rfl (aA 2 rfl (aA 1 rfl (in_ES (memD b us) (aC (iJ B.tuple (aA 10 rfl (sE (.st aD) (aC (aX B.len (aA 5 rfl (qG (.st hlg) (aF ⟨Nat.le_of_ble_eq_true rfl,_,hrg,by rw [List.length_map,dF];omega,put M gl (.lst (xs.map fun x=> .int (idT bs (b++ [x]):Nat))),_,_,hle.trans (aN ((aN hrl).none hgl)),?_,?_,rfl⟩))))))))))))))⟩)))
  ·have e1:(eZ us bs xs)[i]? =some (decide (b∈us),xs.map (fun x=>idT bs (b++ [x])),bs.length):=by
    unfold eZ
    rw [List.getElem?_append_left (by rw [List.length_map];exact hil),List.getElem?_map,hbi]
    rfl
   have e2:(eZ us bs xs).take (i+1)=(eZ us bs xs).take i++ [(decide (b∈us),xs.map (fun x=>idT bs (b++ [x])),bs.length)]:=by rw [List.take_add_one,e1];rfl
   rw [fK (aO aD hgl).symm,bR,fK (aO aD hgl),e2,List.map_append,List.length_map]
   unfold dRw dI
   rw [List.map_cons,List.map_nil,List.map_map]
   rfl
  ·rw [aJ (aO aD hgl)];exact hrl
 rintro Γ3 L4 ⟨M,g2,g10,hle,rfl,hrl,rfl⟩
 rw [List.length_map] at*
 have hMb:∀o,put M rl o l=some (.lst (bs.map dW)):=fun o=>aN hrl _ _ (hle _ _ hb2)
 have etk:(eZ us bs xs).take bs.length=bs.map fun b=>(decide (b∈us),xs.map (fun x=>idT bs (b++ [x])),bs.length):=by
  unfold eZ
  rw [List.take_append_of_le_length (by rw [List.length_map];exact Nat.le_refl _),List.take_of_length_le (by rw [List.length_map];exact Nat.le_refl _)]
 refine aH (gM (cJ (aA 9 rfl ⟨rl,_,rfl,aD,bV (aC (aAe (aC (nA B.tuple (gH 4 (yC (aA 3 rfl ⟨_,.u xs,fun hz2=>⟨Str,xs,.str,fun _=> .int (bs.length:Nat),rfl,trivial,hz2,(fun x hx s H Cc cl fp Q q=>aX B.len (aA 5 rfl (qG (.st (hMb _)) (by rw [List.length_map];exact q)))),aC (aX B.len (aA 5 rfl (qG (.st (hMb _)) (aF ⟨Nat.le_of_ble_eq_true rfl,_,aD,?_,?_⟩))))⟩⟩)))))))⟩)))
 ·rw [List.length_map,List.length_take,dF];omega
 rw [bR]
 have er:((eZ us bs xs).take bs.length).map dRw++ [D.tup [.bl false,.tup (xs.map fun _=> .int (bs.length:Nat)),.int ((bs.map dW).length:Nat)]]=(eZ us bs xs).map dRw:=by
  rw [etk]
  unfold eZ
  rw [List.map_append,List.length_map]
  congr 1
  unfold dRw dI
  rw [List.map_cons,List.map_nil,List.map_map]
  rfl
 rw [er]
 refine aM (aW (aK d2 (hr.mono (by omega)) (aC (aA 3 rfl (aC (iJ B.tuple (aA 9 rfl (sE (.st aD) (aF ⟨xs,eZ us bs xs,rfl,onlyR_ok,?_,?_,?_,?_⟩)))))))))
 ·rw [jP];omega
 ·rw [jP];omega
 ·omega
 ·exact (q xs (eZ us bs xs) hup hx onlyR_ok (by rw [jP];omega) fun t=>onlyR_acc BG hx t).up ((hle2.trans hle).trans (aN hrl))
end
end K
namespace K
open PySem PySem.Spec PyProof.Rows L2 DL
section
variable {P:Program} {w:World} {K:PySem.W.Frag} {mg:Str→Option Value} {base:Heap} {f:Addr} {fd:FuncData} {TX TM pW pR:Addr}
def bH (TX TM:Addr) (x:Str):SpA:=fun ds L Q R=> ∃(m n:List Str×Rws),ds= [dTx TX m,dTx TX n]∧TxOk m∧TxOk n∧
 ∀xs:List Str,yF xs→(∀k,k∈xs↔k∈m.1∨k∈n.1)→Res TX TM (bU xs (qF m.1 n.1 xs m.2 n.2 (sH x)) 0) L Q R
theorem ok_Texts_and (F:Fun K "__and__" "Texts.__and__" cC f fd) (hb:Binds K fd ["self","other"] []) (B:Bl mg) (tc:TxC K TX pW pR) (si:SlX.SIsi K TX) (nm:mg "Texts"=some (.ref TX)) (d1:Def P w K mg base "combined" 6 (fP TX TM)):FnA P w K mg base 7 f (bH TX TM "and"):=by
 refine fnA F sc_Texts___and__ hb (fun ds L Q R h=>by obtain ⟨_,_,rfl,_⟩:=h;rfl) fun cdv A outer s H E ds L Q R hr h=> ?_
 obtain ⟨m,n,rfl,hm,hn,q⟩:=h
 refine aH (dB (eY (dX (rN B.isinstance (aA 1 rfl (kZ (v:= .ref TX) (d:= .ptr TX) nm rfl (fun _=> .ptr TX) (zB (b:=true) (.ins tc.sc si dTx.ins) (by unfold PySem.W.kitOne;rw [if_pos (beq_self_eq_true _)]) ⟨true,rfl,(fun z=>nomatch z),fun _=>bM ?_⟩)))))))
 exact aM (aW (aK d1 (hr.mono (by omega)) (aC (gY (aC (aA 0 rfl (aC (aA 1 rfl (aF ⟨_,m,n,rfl,hm,hn,fun xs h1 h2=>(q xs h1 h2).up (.refl _)⟩)))))))))
theorem ok_Texts_or (F:Fun K "__or__" "Texts.__or__" cR f fd) (hb:Binds K fd ["self","other"] []) (B:Bl mg) (tc:TxC K TX pW pR) (si:SlX.SIsi K TX) (nm:mg "Texts"=some (.ref TX)) (d1:Def P w K mg base "combined" 6 (fP TX TM)):FnA P w K mg base 7 f (bH TX TM "or"):=by
 refine fnA F sc_Texts___or__ hb (fun ds L Q R h=>by obtain ⟨_,_,rfl,_⟩:=h;rfl) fun cdv A outer s H E ds L Q R hr h=> ?_
 obtain ⟨m,n,rfl,hm,hn,q⟩:=h
 refine aH (dB (eY (dX (rN B.isinstance (aA 1 rfl (kZ (v:= .ref TX) (d:= .ptr TX) nm rfl (fun _=> .ptr TX) (zB (b:=true) (.ins tc.sc si dTx.ins) (by unfold PySem.W.kitOne;rw [if_pos (beq_self_eq_true _)]) ⟨true,rfl,(fun z=>nomatch z),fun _=>bM ?_⟩)))))))
 exact aM (aW (aK d1 (hr.mono (by omega)) (aC (gY (aC (aA 0 rfl (aC (aA 1 rfl (aF ⟨_,m,n,rfl,hm,hn,fun xs h1 h2=>(q xs h1 h2).up (.refl _)⟩)))))))))
theorem ok_Texts_sub (F:Fun K "__sub__" "Texts.__sub__" cA f fd) (hb:Binds K fd ["self","other"] []) (B:Bl mg) (tc:TxC K TX pW pR) (si:SlX.SIsi K TX) (nm:mg "Texts"=some (.ref TX)) (d1:Def P w K mg base "combined" 6 (fP TX TM)):FnA P w K mg base 7 f (bH TX TM "minus"):=by
 refine fnA F sc_Texts___sub__ hb (fun ds L Q R h=>by obtain ⟨_,_,rfl,_⟩:=h;rfl) fun cdv A outer s H E ds L Q R hr h=> ?_
 obtain ⟨m,n,rfl,hm,hn,q⟩:=h
 refine aH (dB (eY (dX (rN B.isinstance (aA 1 rfl (kZ (v:= .ref TX) (d:= .ptr TX) nm rfl (fun _=> .ptr TX) (zB (b:=true) (.ins tc.sc si dTx.ins) (by unfold PySem.W.kitOne;rw [if_pos (beq_self_eq_true _)]) ⟨true,rfl,(fun z=>nomatch z),fun _=>bM ?_⟩)))))))
 exact aM (aW (aK d1 (hr.mono (by omega)) (aC (gY (aC (aA 0 rfl (aC (aA 1 rfl (aF ⟨_,m,n,rfl,hm,hn,fun xs h1 h2=>(q xs h1 h2).up (.refl _)⟩)))))))))
theorem ok_Texts_xor (F:Fun K "__xor__" "Texts.__xor__" bZ f fd) (hb:Binds K fd ["self","other"] []) (B:Bl mg) (tc:TxC K TX pW pR) (si:SlX.SIsi K TX) (nm:mg "Texts"=some (.ref TX)) (d1:Def P w K mg base "combined" 6 (fP TX TM)):FnA P w K mg base 7 f (bH TX TM "xor"):=by
 refine fnA F sc_Texts___xor__ hb (fun ds L Q R h=>by obtain ⟨_,_,rfl,_⟩:=h;rfl) fun cdv A outer s H E ds L Q R hr h=> ?_
 obtain ⟨m,n,rfl,hm,hn,q⟩:=h
 refine aH (dB (eY (dX (rN B.isinstance (aA 1 rfl (kZ (v:= .ref TX) (d:= .ptr TX) nm rfl (fun _=> .ptr TX) (zB (b:=true) (.ins tc.sc si dTx.ins) (by unfold PySem.W.kitOne;rw [if_pos (beq_self_eq_true _)]) ⟨true,rfl,(fun z=>nomatch z),fun _=>bM ?_⟩)))))))
 exact aM (aW (aK d1 (hr.mono (by omega)) (aC (gY (aC (aA 0 rfl (aC (aA 1 rfl (aF ⟨_,m,n,rfl,hm,hn,fun xs h1 h2=>(q xs h1 h2).up (.refl _)⟩)))))))))
end
end K
namespace K
open PySem PySem.Spec PyProof.Rows L2 DL
section
variable {P:Program} {w:World} {K:PySem.W.Frag} {mg:Str→Option Value} {base:Heap} {f:Addr} {fd:FuncData} {TX pW pR gI:Addr}
def iQ (TX:Addr):SpA:=fun ds L Q _=> ∃(m:List Str×Rws),ds= [dTx TX m]∧Q (dTx TX (m.1,m.2.map fun r=>(!r.1,r.2))) L
theorem ok_Texts_invert (F:Fun K "__invert__" "Texts.__invert__" bK f fd) (hb:Binds K fd ["self"] []) (B:Bl mg) (tc:TxC K TX pW pR) (mkk:Mk K TX gI) (nm:mg "Texts"=some (.ref TX)) (fi:FnA P w K mg base 1 gI (dD TX)):FnA P w K mg base 3 f (iQ TX):=by
 refine fnA F sc_Texts___invert__ hb (fun ds L Q R h=>by obtain ⟨_,rfl,_⟩:=h;rfl) fun cdv A outer s H E ds L Q R hr h=> ?_
 obtain ⟨m,rfl,q⟩:=h
 refine aM (aW (AE.frz (wO mkk fi nm (hr.mono (by omega)) (aC (vI (aA 0 rfl ⟨TX,pW,1,_,dTx.w,tc.sc,tc.s1,aC (nA B.tuple (gH 1 (rK (vI (aA 0 rfl ⟨TX,pR,0,_,dTx.r,tc.sc,tc.s2,⟨_,rfl,fun hz=>⟨_,m.2,dRw,fun r=>dRw (!r.1,r.2),rfl,trivial,hz,fun r hr0 s H Cc cl fp Q q=> ?_,?_⟩⟩⟩)))))⟩))))))
 ·have e0:atI ([.bl r.1,dI r.2.1,.int (r.2.2:Nat)]:List D) ((0:Nat):Int)=some (.bl r.1):=atI_nat rfl
  have e1:atI ([.bl r.1,dI r.2.1,.int (r.2.2:Nat)]:List D) ((1:Nat):Int)=some (dI r.2.1):=atI_nat rfl
  have e2:atI ([.bl r.1,dI r.2.1,.int (r.2.2:Nat)]:List D) ((2:Nat):Int)=some (.int (r.2.2:Nat)):=atI_nat rfl
  refine bV (aC (zK (aR (dJ (u1 hr)) (aA 1 rfl (aG (bQ ⟨r.1,rfl,?_⟩ e0))))))
  exact aC (aR (dJ (u1 hr)) (aA 1 rfl (aG (bQ (aC (aR (dJ (u1 hr)) (aA 1 rfl (aG (bQ (aF ⟨Nat.le_of_ble_eq_true rfl,q⟩) e2))))) e1))))
 ·have e3:D.tup (m.2.map fun r=>dRw (!r.1,r.2))=dMw (m.2.map fun r=>(!r.1,r.2)):=by
   unfold dMw
   rw [List.map_map]
   rfl
  rw [e3]
  refine aF fun x hx=>⟨x,.wds m.1,dMw (m.2.map fun r=>(!r.1,r.2)),rfl,aD,rfl,?_⟩
  rw [bR]
  exact ⟨_,_,frzT (m:=(m.1,m.2.map fun r=>(!r.1,r.2))) hx,_,.refl _,q⟩
end
end K
namespace K
open PySem PySem.Spec PyProof.Rows L2 DL
def fM (k:Nat) (mo:MO):Prop:= ∃a b c:Int,mo= .lst [.int a,.int b,.int c]∧0≤a∧0≤b∧b < 2305843009213693952∧0≤c∧c≤k
theorem fM.mono {j k:Nat} {mo:MO} (h:fM j mo) (hk:j≤k):fM k mo:=by
 obtain ⟨a,b,c,e,h1,h2,h3,h4,h5⟩:=h
 exact ⟨a,b,c,e,h1,h2,h3,h4,by omega⟩
theorem wB {A B:Lp} (h:Le A B) (p:Addr) (o:MO):Le (put A p o) (put B p o):=fun a u e=>by
 by_cases ea:a=p
 ·subst ea
  rw [aD] at e ⊢
  exact e
 ·rw [aJ ea] at e ⊢
  exact h a u e
theorem cp60:CPow 10 60:=⟨by decide,by decide,by decide⟩
theorem cp18:CPow 10 18:=⟨by decide,by decide,by decide⟩
theorem b01 (b:Bool): -(2 ^ 64) < (if b=true then (1:Int) else 0)∧(if b=true then (1:Int) else 0) < 2 ^ 64:=by cases b <;> decide
theorem b0 (b:Bool):0≤(if b=true then (1:Int) else 0):=by cases b <;> decide
section
variable {P:Program} {w:World} {K:PySem.W.Frag} {mg:Str→Option Value} {base:Heap} {f:Addr} {fd:FuncData}
def yN:SpA:=fun ds L Q _=> ∃(ns:List Int) (k:Nat),ds= [.ilst ns,.int k]∧k < 1000∧∀p mo,L p=none→fM 0 mo→Q (.ptr p) (put L p mo)
theorem ok_pot (F:Fun K "_law_pot" "_law_pot" eG f fd) (hb:Binds K fd ["_law_script","_law_k"] []) (B:Bl mg):FnA P w K mg base 1 f yN:=by
 refine fnA F sc__law_pot hb (fun ds L Q R h=> ?_) fun cdv A outer s H E ds L Q R hr h=> ?_
 ·obtain ⟨_,_,rfl,_⟩:=h;rfl
 ·obtain ⟨ns,k,rfl,hk,q⟩:=h
  have key:∀v:Int,ASs (vA P w K mg base ["_law_script","_law_k","_law_cell","_law_own","_law_mixed"] "_law_pot" (defScope eG) f cdv A outer s H E sc__law_pot.nd R) (defBody eG).tail [some (.ilst ns),some (.int k),some (.int v),none,none] L (sG Q):=fun v=>by
   have a0:0≤(if v < 0 then -v else v):=by split <;> omega
   refine aH (aQ 3 (aY op_mul (aY op_mod (bJ call_int1 B.int (aC (bO call_abs B.abs (aC (aA 2 rfl (aF (aAF (aF (lE (aY op_powX (aY op_pow (aG (aG (aAo cp60 (aG (r_powX big_ok (rR (by decide) ?_))))))))))))))))))))
   generalize hO:(if v < 0 then -v else v) % _=O
   have o0:0≤O:=by rw [←hO];exact Int.emod_nonneg _ (by decide)
   refine bJ call_int1 B.int (aC (jB op_ge rfl (bO call_abs B.abs (aC (aA 2 rfl (aF (aAF (aY op_pow (aG (aG (aAo cp18 (r_ge (aF (c_intB (rQ (.inr (b01 _)) ?_)))))))))))))))
   generalize hO2:O*_=O2
   have o2:0≤O2:=by rw [←hO2];exact Int.mul_nonneg o0 (b0 _)
   refine aH (aQ 4 (aY op_add (aY op_add (aY op_mul (aY op_mod (bJ call_int1 B.int (aC (aA 2 rfl (aF (lE (aG (rR (by decide) (aG (rQ (.inr (by decide)) (aY op_mul (aY op_mul (aG (aA 1 rfl (rQ (.inl (by decide)) (aA 1 rfl (rQ (.inr (by omega)) (rW (aG (rW ?_))))))))))))))))))))))))
   generalize hM:(v % 2305843009213693951*70991+5323*(k:Int)*(k:Int)+71)=M
   refine aM (aW (fL (aC (aA 3 rfl (aC (aY op_mod (bJ call_int1 B.int (aC (aA 4 rfl (aF (lE (aG (rR (by decide) (aC (aG (aF ⟨by show 3≤sizeLine;decide,fun p hp=>⟨_,.refl _,q p _ hp ⟨O2,_,0,rfl,o2,Int.emod_nonneg _ (by decide),?_,by decide,by decide⟩⟩⟩))))))))))))))))
   have:=Int.emod_lt_of_pos M (show (0:Int) < 2305843009213693921 by decide)
   omega
  refine aH (aQ 2 (oG (gK op_lt rfl (aA 1 rfl (bO call_len_seq B.len (aC (aA 0 rfl (aF (c_lenN (aA6 ⟨_,rfl,fun h1=>aR ix_list (aA 0 rfl (aA 1 rfl (r_ixN (k:=ns.getD k 0) ?_ (key _)))),fun h1=>aY op_add (aY op_mul (aG (aA 1 rfl (rQ (.inl (by decide)) (aG (rW (key _)))))))⟩))))))))))
  have h1:=of_decide_eq_true h1
  have hlt:k < ns.length:=by omega
  refine atI_nat ?_
  rw [List.getD_eq_getElem?_getD,List.getElem?_eq_getElem hlt]
  rfl
def mH:SpA:=fun ds L Q _=> ∃(p:Addr) (mo:MO) (k n:Nat),ds= [.ptr p,.int n]∧L p=some mo∧fM k mo∧k≤100000∧0 < n∧n≤1000000∧∀(j:Nat) mo',j < n→fM (k+1) mo'→Q (.int j) (put L p mo')
theorem ok_take (F:Fun K "_law_take" "_law_take" fZ f fd) (hb:Binds K fd ["_law_pot_here","_law_upto"] []) (B:Bl mg):FnA P w K mg base 1 f mH:=by
 refine fnA F sc__law_take hb (fun ds L Q R h=> ?_) fun cdv A outer s H E ds L Q R hr h=> ?_
 ·obtain ⟨_,_,_,_,rfl,_⟩:=h;rfl
 ·obtain ⟨p,mo,k,n,rfl,hp,⟨a,b,c,rfl,ha,hb0,hb1,hc0,hc1⟩,hk,hn,hn2,q⟩:=h
  have cd:CDiv a n:=⟨by omega,by omega⟩
  have fin:∀(x:Int) (mo':MO),fM (k+1) mo'→Q (.int (x % (n:Int))) (put L p mo'):=fun x mo' h'=>by
   have h1:=Int.emod_nonneg x (show (n:Int)≠0 by omega)
   have h2:=Int.emod_lt_of_pos x (show (0:Int) < n by omega)
   have:=q (x % n).toNat mo' (by omega) h'
   rwa [Int.toNat_of_nonneg h1] at this
  refine aH (dB (gK op_gt rfl (aR ix_list (aA 0 rfl (aG (nU hp rfl (aG (r_gt ⟨_,rfl,fun h1=> ?_,fun h1=> ?_⟩))))))))
  ·refine aH (aQ 2 (aY op_mod (bJ call_int1 B.int (aC (aR ix_list (aA 0 rfl (aG (nU hp rfl (aF (lE (aA 1 rfl (rR (by omega) ?_))))))))))))
   refine aH (as_sub set_list (aY op_fdiv (aR ix_list (aA 0 rfl (aG (nU hp rfl (aA 1 rfl (yP cd (aA 0 rfl (aG (w_list (j:=0) hp rfl ?_)))))))))))
   refine aM (aW (aA 2 rfl ⟨_,.refl _,fin a _ ⟨a / n,b,c,rfl,Int.ediv_nonneg ha (by omega),hb0,hb1,hc0,by omega⟩⟩))
  ·refine bM (aH (as_sub set_list (aY op_add (aR ix_list (aA 0 rfl (aG (nU hp rfl (aG (rW (aA 0 rfl (aG (w_list (j:=2) hp rfl ?_))))))))))))
   have hp1:put L p (.lst ([.int a,.int b,.int c].set 2 (.int (c+1)))) p=some (.lst [.int a,.int b,.int (c+1)]):=aD
   have pot':fM (k+1) (.lst [.int a,.int b,.int (c+1)]):=⟨a,b,c+1,rfl,ha,hb0,hb1,by omega,by omega⟩
   refine aH (aQ 3 (AE.drop (aR ix_list (fL (aC (aG (aC (aG (aC (aG (aC (aG (aC (aG (aF ⟨by show 5≤sizeLine;decide,fun l hl=> ?_⟩)))))))))))))))
   have hpl:p≠l:=aO hp1 hl
   have hp2:∀o,put (put L p (.lst ([.int a,.int b,.int c].set 2 (.int (c+1))))) l o p=some (.lst [.int a,.int b,.int (c+1)]):=fun o=>by rw [aJ hpl];exact hp1
   have m0:=Int.emod_nonneg (c+1) (show (5:Int)≠0 by decide)
   have m1:=Int.emod_lt_of_pos (c+1) (show (0:Int) < 5 by decide)
   have hprime:∃pr:Int,0 < pr∧pr < 2147483648∧atI [D.int 2147483647,.int 2147483629,.int 2147483587,.int 2147483579,.int 2147483563] ((c+1) % 5)=some (.int pr):=by
    have:(c+1) % 5=0∨(c+1) % 5=1∨(c+1) % 5=2∨(c+1) % 5=3∨(c+1) % 5=4:=by omega
    rcases this with h | h | h | h | h <;> rw [h] <;> exact ⟨_,by decide,by decide,rfl⟩
   obtain ⟨pr,pr0,pr1,hpr⟩:=hprime
   refine aY op_mod (bJ call_int1 B.int (aC (aR ix_list (aA 0 rfl (aG (nU (hp2 _) rfl (aF (lE (aG (rR (by decide) (nU aD hpr ⟨_,aN hl,?_⟩)))))))))))
   have cc:c+1≤1000000:=by omega
   have sq0:0≤99991*(c+1):=Int.mul_nonneg (by decide) (by omega)
   have sq1:99991*(c+1)≤99991*1000000:=Int.mul_le_mul_of_nonneg_left cc (by decide)
   have sq2:0≤99991*(c+1)*(c+1):=Int.mul_nonneg sq0 (by omega)
   have sq3:99991*(c+1)*(c+1)≤99991*1000000*1000000:=Int.mul_le_mul sq1 cc (by omega) (by decide)
   have cp:CPow (b+99991*(c+1)*(c+1)+41) 3:=⟨by decide,by decide,by omega⟩
   refine aH (aQ 4 (aY op_mod (bJ call_int1 B.int (aC (aY op_pow (bJ call_int1 B.int (aC (aY op_add (aY op_add (aR ix_list (aA 0 rfl (aG (nU hp1 rfl (aY op_mul (aY op_mul (aG (aR ix_list (aA 0 rfl (aG (nU hp1 rfl (rQ (.inl (by decide)) (aR ix_list (aA 0 rfl (aG (nU hp1 rfl (rQ (.inr (by omega)) (rW (aG (rW (aF (lE (aG (aAo cp (aF (lE (aA 3 rfl (rR pr0 ?_)))))))))))))))))))))))))))))))))))))
   generalize hM:(b+99991*(c+1)*(c+1)+41) ^ (3:Int).toNat % pr=M
   have M0:0≤M:=by rw [←hM];exact Int.emod_nonneg _ (by omega)
   have M1:M < pr:=by rw [←hM];exact Int.emod_lt_of_pos _ pr0
   refine aH (aQ 4 (aY op_mod (bJ call_int1 B.int (aC (aY op_mul (aA 4 rfl (aY op_add (aY op_mod (bJ call_int1 B.int (aC (aA 4 rfl (aF (lE (aG (rR (by decide) (aY op_mul (aG (aR ix_list (aA 0 rfl (aG (nU hp1 rfl (rQ (.inl (by decide)) (rW (rQ (.inl (by omega)) (aF (lE (aG (rR (by decide) ?_))))))))))))))))))))))))))))
   generalize hM2:M*(M % 10009+83*(c+1)) % 2305843009213693907=M2
   refine aM (aW (aY op_mod (bJ call_int1 B.int (aC (aY op_fdiv (aA 4 rfl (aG (yP (by exact ⟨by decide,by decide⟩) (aF (lE (aA 1 rfl (rR (by omega) ⟨_,.refl _,fin _ _ pot'⟩))))))))))))
def aAm:SpA:=fun ds L Q _=> ∃(p l:Addr) (mo:MO) (k:Nat) (xs:List D),ds= [.ptr p,.ptr l]∧L p=some mo∧fM k mo∧k≤100000∧L l=some (.lst xs)∧l≠p∧0 < xs.length∧xs.length≤1000000∧∀d mo',d∈xs→fM (k+1) mo'→Q d (put L p mo')
theorem ok_of (F:Fun K "_law_of" "_law_of" jN f fd) (hb:Binds K fd ["_law_pot_here","_law_some"] []) (B:Bl mg) (d1:Def P w K mg base "_law_take" 1 mH):FnA P w K mg base 2 f aAm:=by
 refine fnA F sc__law_of hb (fun ds L Q R h=> ?_) fun cdv A outer s H E ds L Q R hr h=> ?_
 ·obtain ⟨_,_,_,_,_,rfl,_⟩:=h;rfl
 ·obtain ⟨p,l,mo,k,xs,rfl,hp,hpot,hk,hl,hne,h0,h1,q⟩:=h
  refine aM (aW (aR ix_list (aA 1 rfl (aK d1 (hr.mono (by omega)) (aC (aA 0 rfl (aC (bO call_len_seq B.len (aC (aA 1 rfl (aF (c_lenL hl (aF ⟨p,mo,k,xs.length,rfl,hp,hpot,hk,h0,h1,fun j mo' hj hm=> ?_⟩)))))))))))))
  refine nU (xs:=xs) (d:=xs[j]) (by rw [aJ hne];exact hl) (atI_nat (List.getElem?_eq_getElem hj)) ⟨_,.refl _,q _ _ (List.getElem_mem hj) hm⟩
end
end K
namespace K
open PySem PySem.Spec PyProof.Rows L2 DL
theorem aAy {L:Lp} {p l:Addr} {mo2 X mo':MO} (hl:put L p mo2 l=none):Le (put L p mo') (put (put (put L p mo2) l X) p mo'):=by
 have:=wB (aN (o:=X) hl) p mo'
 rwa [bR] at this
theorem fresh_ne {L:Lp} {p l:Addr} {mo:MO} (hl:put L p mo l=none):l≠p:=fun e=>by
 rw [e,aD] at hl
 cases hl
theorem fresh_L {L:Lp} {p l:Addr} {mo:MO} (hl:put L p mo l=none):L l=none:=by
 rw [aJ (fresh_ne hl)] at hl
 exact hl
theorem few_cl:∀k∈cl ("aaabyz" :Str),k∈abc:=by decide+kernel
section
variable {P:Program} {w:World} {K:PySem.W.Frag} {mg:Str→Option Value} {base:Heap} {f:Addr} {fd:FuncData}
def vO:SpA:=fun ds L Q _=> ∃(p:Addr) (mo:MO) (k:Nat),ds= [.ptr p]∧L p=some mo∧fM k mo∧k≤50000∧∀x mo',wdS x=true→fM (k+20) mo'→Q (.str x) (put L p mo')
theorem ok_word (F:Fun K "_law_word" "_law_word" fX f fd) (hb:Binds K fd ["_law_pot_here"] []) (B:Bl mg) (d1:Def P w K mg base "_law_take" 1 mH) (d2:Def P w K mg base "_law_of" 2 aAm):FnA P w K mg base 3 f vO:=by
 refine fnA F sc__law_word hb (fun ds L Q R h=> ?_) fun cdv A outer s H E ds L Q R hr h=> ?_
 ·obtain ⟨_,_,_,rfl,_⟩:=h;rfl
 ·obtain ⟨p,mo,k,rfl,hp,hpot,hk,q⟩:=h
  refine aH (as_par 1 2 (aC (aK d1 (hr.mono (by omega)) (aC (aA 0 rfl (aC (aG (aF ⟨p,mo,k,4,rfl,hp,hpot,by omega,by omega,by omega,fun j mo1 hj h1=>aC (aY op_add (aG (aK d1 (hr.mono (by omega)) (aC (aA 0 rfl (aC (aG (aF ⟨p,mo1,k+1,8,rfl,aD,h1,by omega,by omega,by omega,fun i mo2 hi h2=>rW (aF ⟨_,_,rfl,?_⟩)⟩))))))))⟩))))))))
  rw [bR]
  have q1:∀x mo',wdS x=true→fM (k+20) mo'→Q (.str x) (put (put L p mo2) p mo'):=fun x mo' h h'=>by rw [bR];exact q x mo' h h'
  generalize hL1:put L p mo2=L1 at q1
  have hp1:L1 p=some mo2:=by rw [←hL1];exact aD
  have h2:fM (k+2) mo2:=h2
  clear hL1 q
  have one:∀d,d∈dR ("abcdefghijklmnopqrstuvwxyz" :Str)→∃c,c∈abc∧d= .str (sgn c):=fun d hd=>by
   obtain ⟨c,h1,h2⟩:=DL.signs_mem hd
   exact ⟨c,h1,h2⟩
  refine aH (dB (gK op_lt rfl (aA 1 rfl (aG (aA6 ⟨_,rfl,fun hw=>aM (aW (aK d2 (hr.mono (by omega)) (aC (aA 0 rfl (aC (bJ (pK rfl) B.list (aC (gY (aF (wL fun l hl=>aF ⟨p,l,mo2,k+2,_,rfl,by rw [aJ (aO hp1 hl)];exact hp1,h2,by omega,aD,(aO hp1 hl).symm,by decide+kernel,by decide+kernel,fun d mo' hd hm=> ?_⟩)))))))))),fun hw=>bM ?_⟩)))))
  ·obtain ⟨c,hc,rfl⟩:=one d hd
   exact ⟨put L1 p mo',wB (aN hl) p mo',q1 _ _ (uV (by show 1≤1;decide) (by show 1≤8;decide) (pP fun z hz=>by rw [List.mem_singleton.mp hz];exact hc)) (hm.mono (by omega))⟩
  ·refine aH (dB (gK op_eq rfl (aA 1 rfl (aG (r_eqI ⟨_,rfl,fun hw=>aM (aW (aY op_mulS (aK d2 (hr.mono (by omega)) (aC (aA 0 rfl (aC (bJ (pK rfl) B.list (aC (gY (aF (wL fun l hl=>aF ⟨p,l,mo2,k+2,_,rfl,by rw [aJ (aO hp1 hl)];exact hp1,h2,by omega,aD,(aO hp1 hl).symm,by decide+kernel,by decide+kernel,fun d mo' hd hm=> ?_⟩))))))))))),fun hw=>bM ?_⟩)))))
   ·obtain ⟨c,hc,rfl⟩:=DL.signs_mem hd
    have hc:=few_cl c hc
    have en:((1:Int)+(i:Int)).toNat=i+1:=by omega
    refine aA 2 rfl (r_mulS (by omega) (by omega) (by rw [en];show 1*(i+1)≤_;omega) ⟨put L1 p mo',wB (aN hl) p mo',q1 _ _ ?_ (hm.mono (by omega))⟩)
    have ec:cl (vY (sgn c) ((1:Int)+(i:Int)).toNat)=List.replicate (i+1) c:=by
     rw [cl_rep,en,cl_sgn]
     induction (i+1) with
     | zero=>rfl
     | succ n ih=>rw [List.replicate_succ,List.flatten_cons,ih,List.replicate_succ];rfl
    refine uV ?_ ?_ ?_ <;> rw [ec]
    ·rw [List.length_replicate];omega
    ·rw [List.length_replicate];omega
    ·exact pP fun z hz=>by rw [List.eq_of_mem_replicate hz];exact hc
   ·refine aM (aW (ae_join (gY ⟨_,rfl,aAd [("_law_lap",3)] (rM B.range (aA 2 rfl ⟨_,rfl,by omega,by omega,?_⟩))⟩)))
    have en:((1:Int)+(i:Int)).toNat=i+1:=by omega
    rw [en]
    refine ⟨fun t acc L2=> ∃ks mo,acc=(ks.map sgn).map D.str∧ks.length=t∧(∀c∈ks,c∈abc)∧L2=put L1 p mo∧fM (k+2+t) mo,⟨[],mo2,rfl,rfl,(fun c hc=>nomatch hc),(put_self hp1).symm,h2⟩,fun _ _ _ _=>trivial,?_,?_⟩
    ·rintro t d acc L2 hd ⟨ks,mo,rfl,hks,hc,rfl,hm⟩
     have ht:=(pA hd).1
     refine ⟨_,_,fun j hj=>hj,fun s H Cc cl fp=>⟨aP 3,pM ⟨fun _ s H Cc cl fp=> ?_,(fun z=>nomatch z)⟩⟩⟩
     refine AE.drop (aK d2 (hr.mono (by omega)) (aC (aA 0 rfl (aC (bJ (pK rfl) B.list (aC (gY (aF (wL fun l hl=>aF ⟨p,l,mo,k+2+t,_,rfl,by rw [aJ (fresh_ne hl).symm];exact aD,hm,by omega,aD,fresh_ne hl,by decide+kernel,by decide+kernel,fun d mo' hd hm'=> ?_⟩)))))))))
     obtain ⟨c,hc1,rfl⟩:=one d hd
     refine ⟨put L1 p mo',aAy hl,by rw [List.length_map,List.length_map,dF];omega,ks++ [c],mo',by rw [List.map_append,List.map_append];rfl,by rw [List.length_append,hks];rfl,fun z hz=> ?_,rfl,hm'.mono (by omega)⟩
     rcases List.mem_append.mp hz with z1 | z1
     ·exact hc z z1
     ·rw [List.mem_singleton.mp z1];exact hc1
    ·rintro acc L2 ⟨ks,mo,rfl,hks,hc,rfl,hm⟩ l hl
     rw [iI] at hks hm
     refine ⟨l,ks.map sgn,rfl,aD,by rw [sum_sgn,hks];show i+1+_*0≤_;omega,put L1 p mo,aN hl,q1 _ _ ?_ (hm.mono (by omega))⟩
     refine uV ?_ ?_ ?_
     ·rw [show cl (Txt.join ("" :Str) (ks.map sgn))=ks from wI ks];omega
     ·rw [show cl (Txt.join ("" :Str) (ks.map sgn))=ks from wI ks];omega
     ·rw [show cl (Txt.join ("" :Str) (ks.map sgn))=ks from wI ks]
      exact pP hc
end
end K
namespace K
open PySem PySem.Spec PyProof.Rows L2 DL
section
variable {P:Program} {w:World} {K:PySem.W.Frag} {mg:Str→Option Value} {base:Heap} {f:Addr} {fd:FuncData}
def sY:SpA:=fun ds L Q _=> ∃(p:Addr) (mo:MO) (k m:Nat),ds= [.ptr p,.int m]∧L p=some mo∧fM k mo∧k≤40000∧1≤m∧m≤20∧
 ∀(nl:Addr) (ys:List Str) (mo':MO),L nl=none→nl≠p→ys.length=m→(∀y∈ys,wdS y=true)→ys.Nodup→fM (k+500) mo'→Q (.ptr nl) (St2 L p mo' nl (.lst (ys.map .str)))
theorem ok_names (F:Fun K "_law_names" "_law_names" eQ f fd) (hb:Binds K fd ["_law_pot_here","_law_many"] []) (B:Bl mg) (d1:Def P w K mg base "_law_take" 1 mH) (d2:Def P w K mg base "_law_word" 3 vO):FnA P w K mg base 4 f sY:=by
 refine fnA F sc__law_names hb (fun ds L Q R h=> ?_) fun cdv A outer s H E ds L Q R hr h=> ?_
 ·obtain ⟨_,_,_,_,rfl,_⟩:=h;rfl
 ·obtain ⟨p,mo,k,m,rfl,hp,hpot,hk,hm1,hm2,q⟩:=h
  refine jA (fun Γ' L'=> ∃st fl mo2,(cl st).length≤7∧aAP (cl st)=true∧L fl=none∧fl≠p∧fM (k+21) mo2∧L'=St2 L p mo2 fl (.lst (([]:List Str).map .str))∧Γ'= [some (.ptr p),some (.int m),some (.str st),some (.ptr fl),none,none,none,none]) ?_ ?_
  ·refine pZ (bV (aC (AE.drop (aR ix_list (fL (aC (kW sl_str (aK d2 (hr.mono (by omega)) (aC (aA 0 rfl (aF ⟨p,mo,k,rfl,hp,hpot,by omega,fun x mo1 hx h1=>mZ (mY (aG ⟨7,rfl,zQ (aC (gY (aF ⟨by show 2≤sizeLine;decide,fun l hl=> ?_⟩)))⟩))⟩)))))))))))
   refine aK d1 (hr.mono (by omega)) (aC (aA 0 rfl (aC (aG (aF ⟨p,mo1,k+20,2,rfl,by rw [aJ (fresh_ne hl).symm];exact aD,h1,by omega,by omega,by omega,fun j mo2 hj h2=> ?_⟩)))))
   have h2:fM (k+21) mo2:=h2
   have hx2:=wdS_iff hx
   have e7:cl (cutS x none (some 7))=(cl x).take 7:=(vD x none (some 7)).trans (vC (cl x) 7)
   have hl2:∀X,put (put (put L p mo1) l X) p mo2 l=some X:=fun X=>by rw [aJ (fresh_ne hl)];exact aD
   match j,hj with
   | 0,_=>
    refine nU (hl2 _) rfl ⟨put L p mo2,aAy hl,aC (fL (aF ⟨Nat.zero_le _,fun fl hfl=>aF ⟨by show 2≤sizeLine;decide,_,_,gU (aU (aP 2) (aU (aP 3) dM)),cutS x none (some 7),fl,mo2,?_,?_,fresh_L hfl,fresh_ne hfl,h2,rfl,rfl⟩⟩))⟩
    ·rw [e7,List.length_take];omega
    ·rw [e7];exact pP fun c hc=>qM hx2.2.2 c (List.mem_of_mem_take hc)
   | 1,_=>exact nU (hl2 _) rfl ⟨put L p mo2,aAy hl,aC (fL (aF ⟨Nat.zero_le _,fun fl hfl=>aF ⟨by show 2≤sizeLine;decide,_,_,gU (aU (aP 2) (aU (aP 3) dM)),Str.empty,fl,mo2,by decide,by decide,fresh_L hfl,fresh_ne hfl,h2,rfl,rfl⟩⟩))⟩
  ·rintro Γ' L' ⟨st,fl,mo2,hs1,hs2,hfl,hne,h2,rfl,rfl⟩
   refine jA (fun Γ' L'=> ∃(sp:Nat) (mo3:MO),sp≤(cl st).length∧fM (k+22) mo3∧L'=St2 L p mo3 fl (.lst (([]:List Str).map .str))∧Γ'= [some (.ptr p),some (.int m),some (.str st),some (.ptr fl),some (.int sp),none,none,none]) ?_ ?_
   ·refine aQ 4 (aK d1 (hr.mono (by omega)) (aC (aA 0 rfl (aC (aY op_add (bO call_len_str B.len (aC (aA 2 rfl (aF (zG (aG (rW (aF ⟨p,mo2,k+21,(cl st).length+1,by rw [xO];rfl,St2.p hne,h2,by omega,by omega,by omega,fun j mo3 hj h3=>⟨j,mo3,by omega,h3,St2.putP hne,rfl⟩⟩)))))))))))))
   ·rintro Γ' L' ⟨sp,mo3,hsp,h3,rfl,rfl⟩
    refine aH (oE (rM B.range (aA 1 rfl ⟨_,rfl,by omega,by omega,?_⟩)))
    rw [show ((m:Int)).toNat=m by omega]
    refine ⟨fun i Γ2 L2=> ∃(ys:List Str) (mo4:MO) (a b c:Option D),ys.length=i∧(∀y∈ys,wdS y=true)∧ys.Nodup∧fM (k+22+20*i) mo4∧L2=St2 L p mo4 fl (.lst (ys.map .str))∧Γ2= [some (.ptr p),some (.int m),some (.str st),some (.ptr fl),some (.int sp),a,b,c],⟨[],mo3,none,none,none,rfl,(fun y hy=>nomatch hy),List.nodup_nil,h3,rfl,rfl⟩,fun _ _ _ _=>trivial,?_,?_⟩
    ·rintro i d Γ2 L2 hd ⟨ys,mo4,a,b,c,hys,hw,hnd,h4,rfl,rfl⟩
     have hi:=(pA hd).1
     refine ⟨_,_,aP 5,?_⟩
     refine aH (aQ 6 (aK d2 (hr.mono (by omega)) (aC (aA 0 rfl (aF ⟨p,mo4,k+22+20*i,rfl,St2.p hne,h4,by omega,fun x mo5 hx h5=> ?_⟩)))))
     rw [St2.putP hne]
     have hx2:=wdS_iff hx
     refine jA (fun Γ' L'=> ∃y,wdS y=true∧L'=St2 L p mo5 fl (.lst (ys.map .str))∧Γ'= [some (.ptr p),some (.int m),some (.str st),some (.ptr fl),some (.int sp),some d,some (.str y),c]) ?_ ?_
     ·refine dB (gK op_ne rfl (aA 2 rfl (gY (r_neS ⟨_,rfl,fun hz=> ?_,fun hz=>bM ⟨x,hx,rfl,rfl⟩⟩))))
      obtain ⟨c0,r0,hc0⟩:∃c0 r0,cl x=c0::r0:=by
       cases e:cl x with
       | nil=>rw [e] at hx2;exact absurd hx2.1 (by decide)
       | cons c0 r0=>exact ⟨c0,r0,rfl⟩
      have hat:atI x.cps.toList 0=some c0:=by
       have:atI (cl x) ((0:Nat):Int)=some c0:=atI_nat (by rw [hc0];rfl)
       exact this
      have l1:(cutS st none (some (sp:Int))).length=sp:=by rw [←xO,vD,vC,List.length_take];omega
      have l2:(cutS st (some (sp:Int)) none).length=(cl st).length - sp:=by rw [←xO,vD,uH,List.length_drop]
      refine aM (aQ 6 (aY op_add_str (aY op_add_str (kW sl_str (aA 2 rfl (mZ (mY (aA 4 rfl ⟨_,rfl,zQ (aR ix_str (aA 6 rfl (aG (r_ixS hat (yQ ?_ (kW sl_str (aA 2 rfl (mY (aA 4 rfl ⟨_,rfl,mZ (zQ (yQ ?_ ⟨_,?_,rfl,rfl⟩))⟩)))))))))⟩))))))))
      ·rw [l1,dF];show sp+1≤_;omega
      ·rw [jR,l1,l2,dF];show sp+1+_≤_;omega
      ·have ec:cl (cutS st none (some (sp:Int))++ ⟨#[c0]⟩++cutS st (some (sp:Int)) none)=(cl st).take sp++ [c0]++(cl st).drop sp:=by
        rw [cl_app,cl_app,vD,vD,vC,uH]
       have hc0':c0∈abc:=qM hx2.2.2 c0 (by rw [hc0];exact List.mem_cons_self)
       refine uV ?_ ?_ ?_ <;> rw [ec]
       ·rw [List.length_append,List.length_append,List.length_singleton];omega
       ·rw [List.length_append,List.length_append,List.length_singleton,List.length_take,List.length_drop];omega
       ·refine pP fun z hz=> ?_
        rcases List.mem_append.mp hz with hz | hz
        ·rcases List.mem_append.mp hz with hz | hz
         ·exact qM hs2 z (List.mem_of_mem_take hz)
         ·rw [List.mem_singleton.mp hz];exact hc0'
        ·exact qM hs2 z (List.mem_of_mem_drop hz)
     ·rintro Γ' L' ⟨y,hy,rfl,rfl⟩
      refine jA (fun Γ' L'=> ∃y e,wdS y=true∧y∉ys∧L'=St2 L p mo5 fl (.lst (ys.map .str))∧Γ'= [some (.ptr p),some (.int m),some (.str st),some (.ptr fl),some (.int sp),some d,some (.str y),e]) ?_ ?_
      ·refine dB (gK op_in_seq rfl (aA 6 rfl (aA 3 rfl (r_inL St2.n ⟨_,rfl,fun hz=> ?_,fun hz=>bM ⟨y,c,hy,of_decide_eq_false hz,rfl,rfl⟩⟩))))
       refine aM (aQ 6 (AE.drop (aR ix_list (aAd [("_law_one",7)] (ai_str (gY ⟨_,rfl,fun hso=> ?_⟩))))))
       obtain ⟨k0,r0,he,hk0⟩:=abc_ne ys (by omega)
       have hk1:sgn k0∉ys:=by
        have h1:sgn k0∈(abc.map sgn).filter fun x=> !decide (x∈ys):=by rw [he];exact List.mem_cons_self
        have h2:=(List.mem_filter.mp h1).2
        intro h3
        rw [decide_eq_true h3] at h2
        cases h2
       refine ⟨fun t acc L2=>L2=St2 L p mo5 fl (.lst (ys.map .str))∧acc=(((abc.map sgn).take t).filter fun x=> !decide (x∈ys)).map D.str,⟨rfl,rfl⟩,fun _ _ _ _=>trivial,?_,?_⟩
       ·rintro t d2 acc L2 hd2 ⟨rfl,rfl⟩
        obtain ⟨kt,hkt,rfl⟩:=signs_get hd2
        have hkt:abc[t]? =some kt:=hkt
        have htk:(abc.map sgn).take (t+1)=(abc.map sgn).take t++ [sgn kt]:=by
         rw [List.take_add_one,List.getElem?_map,hkt]
         rfl
        refine ⟨_,_,fun j hj=>hj,fun s H Cc cl fp=>⟨aP 7,ats_one (gK op_notIn_seq rfl (aA 7 rfl (aA 3 rfl (r_notInL St2.n ⟨_,rfl,fun hn s H Cc cl fp=>aA 7 rfl ⟨?_,rfl,?_⟩,fun hn=>⟨rfl,?_⟩⟩))))⟩⟩
        ·rw [List.length_map]
         refine Nat.lt_of_le_of_lt (List.length_filter_le _ _) ?_
         rw [List.length_take,List.length_map,abc_len,dF]
         omega
        ·rw [htk,List.filter_append,List.map_append,List.filter_cons_of_pos (by exact hn)]
         rfl
        ·rw [htk,List.filter_append,List.filter_cons_of_neg (by rw [hn];decide),List.filter_nil,List.append_nil]
       ·rintro acc L2 ⟨rfl,rfl⟩ l hl
        have et:(abc.map sgn).take (dR ("abcdefghijklmnopqrstuvwxyz" :Str)).length=abc.map sgn:=List.take_of_length_le (by rw [List.length_map];exact Nat.le_of_eq (List.length_map ..).symm)
        rw [et,he]
        refine aG (nU aD (show atI (List.map D.str (sgn k0::r0)) ((0:Nat):Int)=some (.str (sgn k0)) from atI_nat rfl) ⟨_,aN hl,sgn k0,c,?_,hk1,rfl,rfl⟩)
        exact uV (by show 1≤1;decide) (by show 1≤8;decide) (pP fun z hz=>by rw [List.mem_singleton.mp hz];exact hk0)
      ·rintro Γ' L' ⟨y,e,hy,hny,rfl,rfl⟩
       refine aM (gM (cJ (aA 3 rfl ⟨fl,_,rfl,St2.n,aA 6 rfl ⟨_,St2.n,by rw [List.length_map,dF];omega,ys++ [y],mo5,some d,some (.str y),e,by rw [List.length_append,hys];rfl,fun z hz=> ?_,List.nodup_append.mpr ⟨hnd,List.nodup_cons.mpr ⟨List.not_mem_nil,List.nodup_nil⟩,fun a1 ha1 b1 hb1 e1=>hny (by rw [List.mem_singleton.mp hb1] at e1;rw [←e1];exact ha1)⟩,h5.mono (by omega),?_,rfl⟩⟩)))
       ·rcases List.mem_append.mp hz with z1 | z1
        ·exact hw z z1
        ·rw [List.mem_singleton.mp z1];exact hy
       ·rw [St2.putN,List.map_append]
        rfl
    ·rintro Γ2 L2 ⟨ys,mo4,a,b,c,hys,hw,hnd,h4,rfl,rfl⟩
     rw [iI] at hys h4
     exact aM (aW (aA 3 rfl ⟨_,.refl _,q fl ys mo4 hfl hne hys hw hnd (h4.mono (by omega))⟩))
end
end K
namespace K
open PySem PySem.Spec PyProof.Rows L2 DL
def aA1:List (Str×D):= [("most",.int 100),("value",.int 100)]
structure ErM (P:Program) (w:World) (K:PySem.W.Frag) (mg:Str→Option Value) (base:Heap) (TM WE:Addr):Prop where
 em:ErX P w K mg base "TooMany" TM 3 ["most","value"]
 we:mg "WideError"=some (.ref WE)
 xw:PySem.W.exmOne K (.ref TM) (.ref WE)=some true
 xc:XcC K TM
section
variable {P:Program} {w:World} {K:PySem.W.Frag} {mg:Str→Option Value} {base:Heap} {f:Addr} {fd:FuncData} {TM WE TX pW pR pr gR:Addr}
def vP (TM:Addr):Addr→SpA→SpA:=fun f G ds L Q _=>ds= [.ptr f]∧∀Q' R',(∀d L',Q (.tup [.non,d]) L'→Q' d L')→(∀fs L',(∀a,L' a=none→Q (.tup [.ptr a,.non]) (put L' a (.exc TM fs)))→R' (.ref TM) fs L')→G [] L Q' R'
theorem ok_told (F:Fun K "_law_told" "_law_told" fY f fd) (hb:Binds K fd ["_law_call"] []) (M:ErM P w K mg base TM WE):FnC P w K mg base 41 40 f (vP TM):=by
 refine fnC (.of F) sc__law_told hb (fun f G ds L Q R h=>by obtain ⟨rfl,_⟩:=h;rfl) fun cdv A outer s H E ds L Z f2 G Q R hr h c=> ?_
 obtain ⟨rfl,g⟩:=h
 refine aH (pZ (bV (aC (xQ (aC (xQ (aF ⟨Nat.le_of_ble_eq_true rfl,_,_,gU (aU (aP 1) (aU (aP 2) dM)),?_⟩)))))))
 refine aH (as_tryK 3 1 (c:= .ref WE) ⟨rfl,by decide,.inl M.we⟩ fun pn xe W tk po=> ?_)
 refine aM (aQ 2 (ae_callF0 0 c (hr.mono (by omega)) rfl (g _ _ (fun d L' q=> ?_) fun fs L' q=> ?_)))
 ·exact aM (aW (bV (aC (aA 1 rfl (aC (aA 2 rfl (aF ⟨Nat.le_of_ble_eq_true rfl,_,.refl _,q⟩)))))))
 ·exact ⟨true,M.xw,fun _=>⟨(by show 3 < 4;decide),TM,rfl,fun a ha=>aM (aW (bV (aC (aA 1 rfl (aC (aA 2 rfl (aF ⟨Nat.le_of_ble_eq_true rfl,_,.refl _,q a ha⟩)))))))⟩,fun z=>nomatch z⟩
def qQ (TX TM:Addr):Addr→SpA→SpA:=fun f G ds L Q _=> ∃n:Nat,ds= [.ptr f,.int (n:Nat)]∧(∀Q' R',(∀m:List Str×Rws,m.2.length=n→Res TX TM m L Q' R')→G [] L Q' R')∧Q (.bl true) L
set_option maxHeartbeats 0 in
theorem ok_ends (F:Fun K "_law_ends" "_law_ends" gA f fd) (hb:Binds K fd ["_law_call","_law_many"] []) (B:Bl mg) (M:ErM P w K mg base TM WE) (tc:TxC K TX pW pR) (pr1:Prop1 K TX "rows" pr gR) (fr:FnA P w K mg base 1 gR (fJ TX)) (d1:DefC P w K mg base "_law_told" 41 40 (vP TM)):FnC P w K mg base 42 40 f (qQ TX TM):=by
 refine fnC (.of F) sc__law_ends hb (fun f G ds L Q R h=>by obtain ⟨_,rfl,_⟩:=h;rfl) fun cdv A outer s H E ds L Z f2 G Q R hr h c=> ?_
 obtain ⟨n,rfl,g,q⟩:=h
 refine aH (pZ (ae_callC c d1 (hr.mono (by omega)) (aC (aA 0 rfl (aF ⟨rfl,fun Q' R' hQ hR=>g Q' R' fun m hn=>⟨fun h1=>hQ _ _ ⟨_,_,gU (aU (aP 2) (aU (aP 3) dM)),?_⟩,fun h1 L' le=>hR _ _ fun a ha=>⟨_,_,gU (aU (aP 2) (aU (aP 3) dM)),?_⟩⟩⟩)))))
 ·show ASs _ _ [some (.ptr f2),some (.int (n:Nat)),some .non,some (dTx TX m)] L _
  refine aH (dB (xY (aA 1 rfl (aG (aAN ⟨_,rfl,fun z=>absurd (of_decide_eq_true z) (by omega),fun _=>bM ?_⟩)))))
  refine aM (aW (oK (ae_is (aA 2 rfl (xQ (isa_N ⟨true,rfl,fun _=> ?_,fun z=>nomatch z⟩))))))
  refine oF (yD (u64 hr) (aX B.len (kY tc.sc pr1 fr (hr.mono (by omega)) (aA 3 rfl ⟨dTx.ins,m,rfl,len_T (aA 1 rfl (aAD ⟨L,.refl L,?_⟩))⟩))))
  rw [List.length_map,hn,decide_eq_true rfl]
  exact q
 ·show ASs _ _ [some (.ptr f2),some (.int (n:Nat)),some (.ptr a),some .non] (put L' a (.exc TM aA1)) _
  have hP:put L' a (.exc TM aA1) a=some (.exc TM aA1):=aD
  refine aH (dB (xY (aA 1 rfl (aG (aAN ⟨_,rfl,fun _=> ?_,fun z=>absurd (of_decide_eq_false z) (by omega)⟩)))))
  refine aM (aW (oK (rN B.isinstance (aA 2 rfl (kZ (v:= .ref TM) (d:= .ptr TM) M.em.e.nm rfl (fun _=> .ptr TM) (zB (b:=true) (.exc M.xc hP) kit_self ⟨_,rfl,fun _=> ?_,fun z=>nomatch z⟩))))))
  refine oF (yD (u64 hr) (bO SkE.call_repr_int B.repr (aC (ae_fldX (aA 2 rfl ⟨a,TM,aA1,.int 100,rfl,hP,M.em.xf,M.em.no _ List.mem_cons_self,rfl,aF (c_reprI (n:=100) (by decide) (gY (aAU ⟨L,le.trans (aN ha),?_⟩)))⟩)))))
  rw [show decide (aA5 100="100")=true by decide+kernel]
  exact q
end
end K
namespace K
open PySem PySem.Spec PyProof.Rows L2 DL
def cM (x:Str) (n r:Nat):List Str×Rws:=bU [x] (ctM n r) 0
structure CtF (x:Str) (n r:Nat) (m:List Str×Rws):Prop where
 ok:TxOk m
 up:yF m.1
 wd:∀k∈m.1,k=x
 lang:∀t,fB m.1 m.2 0 t=decide (t.count x % n=r)
 len:m.2.length=n
theorem ct_f {x:Str} {n r:Nat} (h3:3≤n) (h:n≤100) (hr:r < n):CtF x n r (cM x n r):=by
 have hw: [x].Nodup:=by simp
 have hM:MOk [x].length (ctM n r):=ct_ok (by omega)
 have h0:0 < (ctM n r).length:=by rw [sJ];omega
 obtain ⟨o1,o2,o3,o4⟩:=tW hw hM h0
 rw [sJ] at o4
 have lang:∀t,fB (cM x n r).1 (cM x n r).2 0 t=decide (t.count x % n=r):=fun t=>by
  rw [←ct_acc (x:=x) (size:=n) (rest:=r) (by omega) t]
  exact lV hw hM h0 t
 have hl:=o1.length_le
 refine ⟨⟨o2,o3,Nat.le_trans o4 h,Nat.le_trans hl (by show 1≤20;decide)⟩,List.Pairwise.sublist o1 (List.pairwise_singleton _ _),fun k hk=>List.mem_singleton.mp (o1.subset hk),lang,Nat.le_antisymm o4 ?_⟩
 have lo:=tX hw hM h0 (us:=(List.range n).map fun i=>List.replicate i x) ?_
 ·rwa [List.length_map,List.length_range] at lo
 refine List.pairwise_map.mpr ((List.pairwise_lt_range (n:=n)).imp_of_mem fun {i j} hi hj hij=> ?_)
 have hi:=List.mem_range.mp hi
 have hj:=List.mem_range.mp hj
 obtain ⟨a,ha⟩:=rD i hr
 refine ⟨List.replicate a x,?_⟩
 have e:∀i,fB [x] (ctM n r) 0 (List.replicate i x++List.replicate a x)=decide ((i+a) % n=r):=fun i=>by
  rw [ct_acc (by omega),List.count_append,List.count_replicate_self,List.count_replicate_self]
 have hb:(j+a) % n≠r:=fun z=>by
  have:=rE (n:=n) (c:=a) hi hj (by rw [show a+i=i+a by omega,show a+j=j+a by omega,ha,z])
  omega
 rw [e,e,decide_eq_true ha,decide_eq_false hb]
 decide
theorem fok (s:Str) (h:s="and"∨s="or"∨s="minus"∨s="xor"):FOk (sH s):=by
 rcases h with rfl | rfl | rfl | rfl
 ·exact ⟨.inl fun b=>by cases b <;> decide+kernel,true,by decide+kernel⟩
 ·exact ⟨.inr (by decide+kernel),false,by decide+kernel⟩
 ·exact ⟨.inr (by decide+kernel),true,by decide+kernel⟩
 ·exact ⟨.inr (by decide+kernel),true,by decide+kernel⟩
structure BoF (x y:Str) (n1 r1 n2 r2:Nat) (f:Bool→Bool→Bool) (m:List Str×Rws):Prop where
 up:m.1.Nodup
 ok:MOk m.1.length m.2
 pos:0 < m.2.length
 wl:m.1.length≤2
 lang:∀t,fB m.1 m.2 0 t=f (decide (t.count x % n1=r1)) (decide (t.count y % n2=r2))
 len:m.2.length=n1*n2
section
variable {x y:Str} {n1 r1 n2 r2:Nat} {f:Bool→Bool→Bool}
theorem bo_f (F:FOk f) (hxy:x≠y) (h1:3≤n1) (h2:3≤n2) (k1:r1 < n1) (k2:r2 < n2) {m1 m2:List Str×Rws} (c1:CtF x n1 r1 m1) (c2:CtF y n2 r2 m2) {xs:List Str} (hup:yF xs) (hmem:∀k,k∈xs↔k∈m1.1∨k∈m2.1):BoF x y n1 r1 n2 r2 f (bU xs (qF m1.1 m2.1 xs m1.2 m2.2 f) 0):=by
 have hx:∀w,w∉xs→w∉m1.1∧w∉m2.1:=fun w hw=>⟨fun h=>hw ((hmem w).mpr (.inl h)),fun h=>hw ((hmem w).mpr (.inr h))⟩
 obtain ⟨s1,s2,s3⟩:=sideM_ok (xs:=xs) (f:=f) c1.ok.ok c2.ok.ok c1.ok.pos c2.ok.pos
 have nd:=rise_nd hup
 obtain ⟨o1,o2,o3,o4⟩:=tW nd s1 s2
 obtain ⟨z,hz⟩:=uB xs
 have hl:∀t,fB xs (qF m1.1 m2.1 xs m1.2 m2.2 f) 0 t=f (decide (t.count x % n1=r1)) (decide (t.count y % n2=r2)):=fun t=>by
  rw [sideM_lang c1.ok.ok c2.ok.ok hx c1.ok.pos c2.ok.pos,c1.lang,c2.lang]
 refine ⟨nd.sublist o1,o2,o3,?_,fun t=>by rw [lV nd s1 s2,hl],cnt_exact (c1:=0) (c2:=0) nd hz s1 s2 (fun t=>by rw [hl,Nat.zero_add,Nat.zero_add]) F h1 h2 k1 k2 hxy⟩
 refine Nat.le_trans o1.length_le ?_
 have:=cU (ys:= [x,y]) nd fun k hk=>by
  rcases (hmem k).mp hk with h | h
  ·rw [c1.wd k h];exact List.mem_cons_self
  ·rw [c2.wd k h];exact List.mem_cons_of_mem _ List.mem_cons_self
 exact this
theorem bo_div (F:FOk f) (hxy:x≠y) (h1:3≤n1) (h2:3≤n2) (k1:r1 < n1) (k2:r2 < n2) {m:List Str×Rws} (b:BoF x y n1 r1 n2 r2 f m):(bU m.1 m.2 (nJ m.1 m.2 0 [x,y])).2.length=n1*n2:=by
 obtain ⟨z,hz⟩:=uB m.1
 refine cnt_exact (c1:=1) (c2:=1) b.up hz b.ok (vX b.ok _ _ b.pos) (fun t=> ?_) F h1 h2 k1 k2 hxy
 rw [←qL,b.lang,List.count_append,List.count_append]
 have e1: [x,y].count x=1:=by rw [List.count_cons,List.count_cons,List.count_nil];simp [show y≠x from fun e=>hxy e.symm]
 have e2: [x,y].count y=1:=by rw [List.count_cons,List.count_cons,List.count_nil];simp [hxy]
 rw [e1,e2]
end
section
variable {P:Program} {w:World} {K:PySem.W.Frag} {mg:Str→Option Value} {base:Heap} {f:Addr} {fd:FuncData} {TX TM pW pR pO gO pN gN g1 g2 g3 g4 gV gD pr gR:Addr} {mc:Value} {rc:Option Value}
structure TxL (P:Program) (w:World) (K:PySem.W.Frag) (mg:Str→Option Value) (base:Heap) (TX TM pW pR pO gO pN gN g1 g2 g3 g4 gV gD pr gR:Addr) (mc:Value) (rc:Option Value):Prop where
 tc:TxC K TX pW pR
 nm:mg "Texts"=some (.ref TX)
 rd:ClX.CRead K TX mc
 cm:ClX.CMet K TX mc "of" pO gO
 fo:FnA P w K mg base 4 gO (mK TX)
 cn:ClX.CMet K TX mc "only" pN gN
 fN:FnA P w K mg base 7 gN (spS 1 (jU TX TM))
 sf:PySem.W.selfFirst K TX=true
 o1:PySem.W.findIn K (.ref TX) "__and__"=some (some (.ref g1))
 h1:PySem.W.isFn K (.ref g1)=true
 f1:FnA P w K mg base 7 g1 (bH TX TM "and")
 o2:PySem.W.findIn K (.ref TX) "__or__"=some (some (.ref g2))
 h2:PySem.W.isFn K (.ref g2)=true
 f2:FnA P w K mg base 7 g2 (bH TX TM "or")
 o3:PySem.W.findIn K (.ref TX) "__sub__"=some (some (.ref g3))
 h3:PySem.W.isFn K (.ref g3)=true
 f3:FnA P w K mg base 7 g3 (bH TX TM "minus")
 o4:PySem.W.findIn K (.ref TX) "__xor__"=some (some (.ref g4))
 h4:PySem.W.isFn K (.ref g4)=true
 f4:FnA P w K mg base 7 g4 (bH TX TM "xor")
 iv:PySem.W.findIn K (.ref TX) "__invert__"=some (some (.ref gV))
 ivf:PySem.W.isFn K (.ref gV)=true
 fv:FnA P w K mg base 3 gV (iQ TX)
 fl:PySem.W.findIn K (.ref TX) "__floordiv__"=some (some (.ref gD))
 flf:PySem.W.isFn K (.ref gD)=true
 ff:FnA P w K mg base 4 gD (jV TX)
 rh:PySem.W.findIn K (.ref TX) "__rfloordiv__"=some rc
 rp:rc=none∨∃z:Addr,rc=some (.ref z)
 t1:PySem.W.findIn K (.type "tuple") "__floordiv__"=some none
 t2:PySem.W.findIn K (.type "tuple") "__rfloordiv__"=some none
 ts:PySem.W.subIn K (.type "tuple") (.ref TX)=some false
 pr1:Prop1 K TX "rows" pr gR
 fr:FnA P w K mg base 1 gR (fJ TX)
def oV (TX:Addr):SpA:=fun ds L Q _=> ∃(x:Str) (size rest:Nat),ds= [.str x,.int (size:Nat),.int (rest:Nat)]∧3≤size∧size≤100∧wdS x=true∧Q (dTx TX (cM x size rest)) L
theorem ok_counter (F:Fun K "_law_counter" "_law_counter" cQ f fd) (hb:Binds K fd ["_law_word_here","_law_size","_law_rest"] []) (B:Bl mg) (T:TxL P w K mg base TX TM pW pR pO gO pN gN g1 g2 g3 g4 gV gD pr gR mc rc):FnA P w K mg base 6 f (oV TX):=by
 refine fnA F sc__law_counter hb (fun ds L Q R h=>by obtain ⟨_,_,_,rfl,_⟩:=h;rfl) fun cdv A outer s H E ds L Q R hr h=> ?_
 obtain ⟨x,size,rest,rfl,h1,h2,hx,q⟩:=h
 have hm:McOk ([x],ctM size rest):=⟨ct_ok (by omega),by rw [sJ];omega,by rw [sJ];exact h2,(by show 1≤20;omega),fun z hz=>by rw [List.mem_singleton.mp hz];exact hx,rfl⟩
 refine aM (aW (ae_cmeth T.rd T.cm T.fo (hr.mono (by omega)) (kZ (v:= .ref TX) (d:= .ptr TX) T.nm rfl (fun _=> .ptr _) ⟨rfl,aC (ae_tupS (aC (aA 0 rfl (aF ⟨[x],rfl,by rw [dF];exact Nat.le_of_ble_eq_true rfl,aC (nA B.tuple (gH 3 (rM B.range (aA 1 rfl ⟨_,rfl,by omega,by omega,Nat,List.range size,fun s=> .int (0+(s:Nat)),fun s=>dRw (ctR size rest s),rfl,trivial,by rw [iI,dF];omega,fun st hst s H Cc cl fp Q q=> ?_,aF ⟨([x],ctM size rest),?_,hm,L,.refl L,q⟩⟩))))⟩))))⟩)))
 ·have hs:=List.mem_range.mp hst
  have e1:(decide ((0+(st:Int))=(rest:Int)))=decide (st=rest):=by
   rw [Int.zero_add];exact decide_eq_decide.mpr (by omega)
  have e2:(0+(st:Int)+1) % (size:Int)=(((st+1) % size:Nat):Int):=by
   rw [Int.zero_add];rfl
  refine bV (aC (yD (u64 hr) (aA 3 rfl (aA 2 rfl (aAD (aC (bV (aC (ae_mod (ae_c_int B.int (qD (aA 3 rfl (aG (yE (lE (aA 1 rfl (mod_I (aF ⟨Nat.le_of_ble_eq_true rfl,aC (aA 3 rfl (aF ⟨Nat.le_of_ble_eq_true rfl,?_⟩))⟩) (by omega))))))))))))))))))
  rw [e1,e2]
  show Q (.tup [.bl (decide (st=rest)),.tup [.int (((st+1) % size:Nat):Int)],.int (0+(st:Int))]) L
  rw [Int.zero_add]
  exact q
 ·unfold dMw ctM
  rw [List.map_map]
  rfl
end
end K
namespace K
open PySem PySem.Spec PyProof.Rows L2 DL
abbrev crN:Str:="_law_counters_right" ++ ".<locals>." ++ "<lambda>"
theorem ixr {C:DL.Ctx} {L:Lp} {Q:D→Lp→Prop} {x:D} {xs:List D} {i:Int} {d:D} (h:atI xs i=some d) (hp:LR L x xs) (q:Q d L):L2R C (rIxA C.X.K) x (.int i) L Q:=pD hp q h
section
variable {P:Program} {w:World} {K:PySem.W.Frag} {mg:Str→Option Value} {base:Heap} {f:Addr} {fd:FuncData} {TX TM WE pW pR pO gO pN gN g1 g2 g3 g4 gV gD pr gR TC TR:Addr} {mc:Value} {rc:Option Value}
def qR (TC:Addr):SpA:=fun ds L Q _=> ∃(p nl:Addr) (mo:MO) (k:Nat) (x y z:Str),ds= [.ptr p,.ptr nl]∧L p=some mo∧fM k mo∧k≤1000∧L nl=some (.lst ([x,y,z].map .str))∧nl≠p∧x≠y∧wdS x=true∧wdS y=true∧L TC=some (.tab crN)∧TC≠p∧∀mo' M,NI L M p mo'→fM (k+4) mo'→Q (.bl true) M
set_option maxHeartbeats 0 in
theorem ok_cright (F:Fun K "_law_counters_right" "_law_counters_right" aZ f fd) (hb:Binds K fd ["_law_pot_here","_law_names_here"] []) (mk:MkD base mg fd TC) (B:Bl mg) (T:TxL P w K mg base TX TM pW pR pO gO pN gN g1 g2 g3 g4 gV gD pr gR mc rc) (d1:Def P w K mg base "_law_take" 1 mH) (d2:Def P w K mg base "_law_counter" 6 (oV TX)) (d3:DefC P w K mg base "_law_ends" 42 40 (qQ TX TM)):FnA P w K mg base 43 f (qR TC):=by
 refine fnAc (.of F) sc__law_counters_right hb mk (fun ds L Q R h=>by obtain ⟨_,_,_,_,_,_,_,rfl,_⟩:=h;rfl) fun cdv Ac outer s0 H E ds L Q R hr h mk=> ?_
 obtain ⟨p,nl,mo,k,x,y,z,rfl,hp,hpot,hk,hN,hnp,hxy,hxw,hyw,hTC,htp,q⟩:=h
 have I:=NI.refl hp
 have e0:atI ([x,y,z].map D.str) ((0:Nat):Int)=some (.str x):=atI_nat rfl
 have e1:atI ([x,y,z].map D.str) ((1:Nat):Int)=some (.str y):=atI_nat rfl
 -- the sizes
 refine jA (fun Γ' L'=> ∃(s1:Nat) (mo':MO),3≤s1∧s1≤33∧fM (k+1) mo'∧NI L L' p mo'∧Γ'= [some (.ptr p),some (.ptr nl),some (.int (s1:Nat)),none,none,none,none,none]) ?_ ?_
 ·exact aQ 2 (qD (aG (aK d1 (hr.mono (by omega)) (aC (aA 0 rfl (aC (aG (aF ⟨p,mo,k,31,rfl,hp,hpot,by omega,by omega,by omega,fun j mo1 hj h1=>yE ⟨3+j,mo1,by omega,by omega,h1,I.pot,by rw [show (3:Int)+((j:Nat):Int)=((3+j:Nat):Int) by omega];rfl⟩⟩))))))))
 rintro Γ' L1 ⟨s1,mo1,h31,h33,hp1,I1,rfl⟩
 refine jA (fun Γ' L'=> ∃(s2:Nat) (mo':MO),3≤s2∧s2≤40∧fM (k+2) mo'∧NI L L' p mo'∧Γ'= [some (.ptr p),some (.ptr nl),some (.int (s1:Nat)),some (.int (s2:Nat)),none,none,none,none]) ?_ ?_
 ·refine aQ 3 (uP B.max (aG (sU (qD (ae_div (aG (aA 2 rfl (div_I ?_ ⟨by omega,by omega⟩))))))))
  refine aK d1 (hr.mono (by omega)) (aC (aA 0 rfl (aC (aG (aF ⟨p,mo1,k+1,4,rfl,I1.p,hp1,by omega,by omega,by omega,fun j mo2 hj h2=>yE (aG (xR (aAE ?_)))⟩)))))
  have hd1:(100:Int) / (s1:Int) < 34:=Int.ediv_lt_of_lt_mul (by omega) (by omega)
  have hd0:0≤(100:Int) / (s1:Int):=Int.ediv_nonneg (by omega) (by omega)
  generalize (100:Int) / (s1:Int)=dv at hd1 hd0 ⊢
  obtain ⟨s2,e2,h3,h4⟩:∃s2:Nat,(if dv+(j:Int) - 1 > 3 then dv+(j:Int) - 1 else 3)=(s2:Int)∧3≤s2∧s2≤40:=by
   by_cases hc:dv+(j:Int) - 1 > 3
   ·refine ⟨(dv+(j:Int) - 1).toNat,?_,by omega,by omega⟩
    rw [if_pos hc];omega
   ·exact ⟨3,by rw [if_neg hc];rfl,by omega,by omega⟩
  rw [e2]
  exact ⟨s2,mo2,h3,h4,h2,I1.pot,rfl⟩
 rintro Γ' L2 ⟨s2,mo2,h3,h4,hp2,I2,rfl⟩
 -- the counters
 refine jA (fun Γ' L'=> ∃(r1:Nat) (mo':MO),r1 < s1∧fM (k+3) mo'∧NI L L' p mo'∧Γ'= [some (.ptr p),some (.ptr nl),some (.int (s1:Nat)),some (.int (s2:Nat)),some (dTx TX (cM x s1 r1)),none,none,none]) ?_ ?_
 ·exact aQ 4 (aK d2 (hr.mono (by omega)) (aC (aR (dJ (u1 hr)) (aA 1 rfl (aG (ixr e0 (.st (I2.le _ _ hN hnp)) (aC (aA 2 rfl (aC (aK d1 (hr.mono (by omega)) (aC (aA 0 rfl (aC (aA 2 rfl (aF ⟨p,mo2,k+2,s1,rfl,I2.p,hp2,by omega,by omega,by omega,fun j mo3 hj h5=>aF ⟨x,s1,j,rfl,h31,by omega,hxw,j,mo3,hj,h5,I2.pot,rfl⟩⟩)))))))))))))))
 rintro Γ' L3 ⟨r1,mo3,hr1,hp3,I3,rfl⟩
 refine jA (fun Γ' L'=> ∃(r2:Nat) (mo':MO),r2 < s2∧fM (k+4) mo'∧NI L L' p mo'∧Γ'= [some (.ptr p),some (.ptr nl),some (.int (s1:Nat)),some (.int (s2:Nat)),some (dTx TX (cM x s1 r1)),some (dTx TX (cM y s2 r2)),some (.int (s1*s2:Nat)),none]) ?_ ?_
 ·exact pZ (bV (aC (aK d2 (hr.mono (by omega)) (aC (aR (dJ (u1 hr)) (aA 1 rfl (aG (ixr e1 (.st (I3.le _ _ hN hnp)) (aC (aA 3 rfl (aC (aK d1 (hr.mono (by omega)) (aC (aA 0 rfl (aC (aA 3 rfl (aF ⟨p,mo3,k+3,s2,rfl,I3.p,hp3,by omega,by omega,by omega,fun j mo4 hj h6=>aF ⟨y,s2,j,rfl,h3,by omega,hyw,aC (ae_mul (aA 2 rfl (aA 3 rfl (mul_I (aF ⟨Nat.le_of_ble_eq_true rfl,_,_,gU (aU (aP 5) (aU (aP 6) dM)),j,mo4,hj,h6,I3.pot,rfl⟩) (.inl ⟨by omega,by omega⟩)))))⟩⟩)))))))))))))))))
 rintro Γ' L4 ⟨r2,mo4,hr2,hp4,I4,rfl⟩
 have c1:=ct_f (x:=x) h31 (by omega) hr1
 have c2:=ct_f (x:=y) h3 (by omega) hr2
 generalize cM x s1 r1=m1 at c1 ⊢
 generalize cM y s2 r2=m2 at c2 ⊢
 have hT4:=I4.le _ _ hTC htp
 have op:∀(g:Str),(g="and"∨g="or"∨g="minus"∨g="xor")→∀{L':Lp} {Q':D→Lp→Prop} {R':Value→List (Str×D)→Lp→Prop},(∀m,BoF x y s1 r1 s2 r2 (sH g) m→Res TX TM m L' Q' R')→bH TX TM g [dTx TX m1,dTx TX m2] L' Q' R':=fun g hg {L' Q' R'} hq=>
  ⟨m1,m2,rfl,c1.ok,c2.ok,fun xs hup hmem=>hq _ (bo_f (fok g hg) hxy h31 h3 hr1 hr2 c1 c2 hup hmem)⟩
 have fin:∀M,Le L4 M→NI L M p mo4:=fun M le=>⟨fun a u e ha=>le a u (I4.le a u e ha),le _ _ I4.p⟩
 have lenS:∀{m:List Str×Rws} {n:Nat},m.2.length=n→((m.2.map dRw).length:Int)=((n:Nat):Int):=fun h=>by rw [List.length_map,h]
 -- one way of putting both together
 have way:∀(g:Str),(g="and"∨g="or"∨g="minus"∨g="xor")→∀{f2:Addr} {Q2:D→Lp→Prop} {R2:Value→List (Str×D)→Lp→Prop},Q2 (.bl true) L4→qQ TX TM f2 (fun ds L2 Q' R'=>ds= []∧∀m,BoF x y s1 r1 s2 r2 (sH g) m→Res TX TM m L2 Q' R') [.ptr f2,.int (s1*s2:Nat)] L4 Q2 R2:=fun g hg {f2 Q2 R2} q2=>
  ⟨s1*s2,rfl,fun Q' R' h=>⟨rfl,fun m hm=>h m hm.len⟩,q2⟩
 refine aH (dB (aAO (uL (eY (dX (oJ d3 (hr.mono (by omega)) (vH mk hT4 (fun fa hfa=>aC (aA 6 rfl (aF ⟨fun ds L2 Q' R'=>ds= []∧∀m,BoF x y s1 r1 s2 r2 (sH "and") m→Res TX TM m L2 Q' R',?_,way "and" (by simp) ⟨true,rfl,(fun z=>nomatch z),fun _=> ?_⟩⟩))))))))))
 ·refine ⟨[],[("_law_one",4),("_law_other",5)],by decide,pC rfl,?_,?_,?_,?_⟩
  ·intro z hz
   simp only [List.mem_cons,List.not_mem_nil,or_false] at hz
   rcases hz with rfl | rfl <;> exact ⟨rfl,rfl⟩
  ·exact fun q cl pm cv ctv us hl=>match us,hl with | [],_=>rfl
  ·rintro ds L Q R ⟨rfl,_⟩
   rfl
  ·rintro A2 outer2 s2 H2 E2 f2 cc ds L2 Q2 R2 hr2 ⟨rfl,h2⟩
   exact nD (aA 0 rfl (aA 1 rfl (uY T.sf T.o1 T.h1 T.f1 (hr2.mono (by omega)) dTx.ins dTx.ins (op "and" (by simp) fun m hm=>(h2 m hm).up (.refl _)))))
 refine uL (at_ne (u64 hr) (aX B.len (kY T.tc.sc T.pr1 T.fr (hr.mono (by omega)) (aA 4 rfl ⟨dTx.ins,m1,rfl,len_T (aA 2 rfl (aAL ⟨_,rfl,fun zz=> ?_,fun _=> ?_⟩))⟩))))
 ·rw [List.length_map,c1.len] at zz
  simp at zz
 refine sO (at_ne (u64 hr) (aX B.len (kY T.tc.sc T.pr1 T.fr (hr.mono (by omega)) (aA 5 rfl ⟨dTx.ins,m2,rfl,len_T (aA 3 rfl (aAL ⟨_,rfl,fun zz=> ?_,fun _=>bM ?_⟩))⟩))))
 ·rw [List.length_map,c2.len] at zz
  simp at zz
 refine aH (dB (eY (dX (oJ d3 (hr.mono (by omega)) (vH mk hT4 (fun fa hfa=>aC (aA 6 rfl (aF ⟨fun ds L2 Q' R'=>ds= []∧∀m,BoF x y s1 r1 s2 r2 (sH "or") m→Res TX TM m L2 Q' R',?_,way "or" (by simp) ⟨true,rfl,(fun z=>nomatch z),fun _=>bM ?_⟩⟩))))))))
 ·refine ⟨[],[("_law_one",4),("_law_other",5)],by decide,pC rfl,?_,?_,?_,?_⟩
  ·intro z hz
   simp only [List.mem_cons,List.not_mem_nil,or_false] at hz
   rcases hz with rfl | rfl <;> exact ⟨rfl,rfl⟩
  ·exact fun q cl pm cv ctv us hl=>match us,hl with | [],_=>rfl
  ·rintro ds L Q R ⟨rfl,_⟩
   rfl
  ·rintro A2 outer2 s2 H2 E2 f2 cc ds L2 Q2 R2 hr2 ⟨rfl,h2⟩
   exact nD (aA 0 rfl (aA 1 rfl (uY T.sf T.o2 T.h2 T.f2 (hr2.mono (by omega)) dTx.ins dTx.ins (op "or" (by simp) fun m hm=>(h2 m hm).up (.refl _)))))
 refine aH (dB (eY (dX (oJ d3 (hr.mono (by omega)) (vH mk hT4 (fun fa hfa=>aC (aA 6 rfl (aF ⟨fun ds L2 Q' R'=>ds= []∧∀m,BoF x y s1 r1 s2 r2 (sH "minus") m→Res TX TM m L2 Q' R',?_,way "minus" (by simp) ⟨true,rfl,(fun z=>nomatch z),fun _=>bM ?_⟩⟩))))))))
 ·refine ⟨[],[("_law_one",4),("_law_other",5)],by decide,pC rfl,?_,?_,?_,?_⟩
  ·intro z hz
   simp only [List.mem_cons,List.not_mem_nil,or_false] at hz
   rcases hz with rfl | rfl <;> exact ⟨rfl,rfl⟩
  ·exact fun q cl pm cv ctv us hl=>match us,hl with | [],_=>rfl
  ·rintro ds L Q R ⟨rfl,_⟩
   rfl
  ·rintro A2 outer2 s2 H2 E2 f2 cc ds L2 Q2 R2 hr2 ⟨rfl,h2⟩
   exact nD (aA 0 rfl (aA 1 rfl (uY T.sf T.o3 T.h3 T.f3 (hr2.mono (by omega)) dTx.ins dTx.ins (op "minus" (by simp) fun m hm=>(h2 m hm).up (.refl _)))))
 refine aH (dB (eY (dX (oJ d3 (hr.mono (by omega)) (vH mk hT4 (fun fa hfa=>aC (aA 6 rfl (aF ⟨fun ds L2 Q' R'=>ds= []∧∀m,BoF x y s1 r1 s2 r2 (sH "xor") m→Res TX TM m L2 Q' R',?_,way "xor" (by simp) ⟨true,rfl,(fun z=>nomatch z),fun _=>bM ?_⟩⟩))))))))
 ·refine ⟨[],[("_law_one",4),("_law_other",5)],by decide,pC rfl,?_,?_,?_,?_⟩
  ·intro z hz
   simp only [List.mem_cons,List.not_mem_nil,or_false] at hz
   rcases hz with rfl | rfl <;> exact ⟨rfl,rfl⟩
  ·exact fun q cl pm cv ctv us hl=>match us,hl with | [],_=>rfl
  ·rintro ds L Q R ⟨rfl,_⟩
   rfl
  ·rintro A2 outer2 s2 H2 E2 f2 cc ds L2 Q2 R2 hr2 ⟨rfl,h2⟩
   exact nD (aA 0 rfl (aA 1 rfl (uY T.sf T.o4 T.h4 T.f4 (hr2.mono (by omega)) dTx.ins dTx.ins (op "xor" (by simp) fun m hm=>(h2 m hm).up (.refl _)))))
 refine aH (dB (xY (aA 6 rfl (aG (aAN ⟨_,rfl,fun _=>aM (aW (aAe ⟨L4,.refl L4,q mo4 L4 I4 hp4⟩)),fun hle=>bM ?_⟩)))))
 have hle:=of_decide_eq_false hle
 have h100:s1*s2≤100:=by omega
 have hN4:=I4.le _ _ hN hnp
 refine aH (aQ 7 (nD (aA 4 rfl (aA 5 rfl (uY T.sf T.o1 T.h1 T.f1 (hr.mono (by omega)) dTx.ins dTx.ins (op "and" (by simp) fun m bm=>⟨fun _=> ?_,fun zz=>absurd (Nat.le_trans (Nat.le_of_eq bm.len) h100) zz⟩))))))
 refine aM (aW (oK (yD (u64 hr) (aX B.len (kY T.tc.sc T.pr1 T.fr (hr.mono (by omega)) (ae_invO T.iv T.ivf T.fv (hr.mono (by omega)) (aA 7 rfl ⟨dTx.ins,m,rfl,dTx.ins,(m.1,m.2.map fun r=>(!r.1,r.2)),rfl,len_T (aA 6 rfl (aAD ⟨_,rfl,fun _=> ?_,fun zz=> ?_⟩))⟩)))))))
 ·refine oF (yD (u64 hr) (aX B.len (kY T.tc.sc T.pr1 T.fr (hr.mono (by omega)) (nD (aA 7 rfl (bV (aC (aR (dJ (u1 hr)) (aA 1 rfl (aG (ixr e0 (.st hN4) (aC (aR (dJ (u1 hr)) (aA 1 rfl (aG (ixr e1 (.st hN4) (aF ⟨Nat.le_of_ble_eq_true rfl,j_binT T.sf T.fl T.flf T.rh T.rp T.t1 T.t2 T.ts T.ff (hr.mono (by omega)) dTx.ins ⟨m,dW [x,y],[x,y],rfl,⟨.inr rfl,fun v hv=> ?_⟩,bm.ok,bm.pos,?_,?_,dTx.ins,_,rfl,len_T (aA 6 rfl (aAD ⟨L4,.refl L4,?_⟩))⟩⟩)))))))))))))))))
  ·rcases List.mem_cons.mp hv with rfl | hv
   ·exact hxw
   ·rw [List.mem_singleton.mp hv];exact hyw
  ·rw [bm.len];omega
  ·have:=bm.wl;omega
  ·rw [List.length_map,bo_div (fok "and" (by simp)) hxy h31 h3 hr1 hr2 bm,decide_eq_true rfl]
   exact q mo4 L4 I4 hp4
 ·rw [List.length_map,List.length_map,bm.len] at zz
  simp at zz
end
end K
namespace K
open PySem PySem.Spec PyProof.Rows L2 DL
abbrev lwN:Str:="law" ++ ".<locals>." ++ "<lambda>"
theorem rep_flat {α:Type} (d:α):∀n:Nat,(List.replicate n [d]).flatten=List.replicate n d
 | 0=>rfl
 | n+1=>by rw [List.replicate_succ,List.flatten_cons,rep_flat d n];rfl
theorem dec_eq {p:Prop} (i j:Decidable p):@decide p i= @decide p j:=by congr
section
variable {P:Program} {w:World} {K:PySem.W.Frag} {mg:Str→Option Value} {base:Heap} {f:Addr} {fd:FuncData} {TX TM WE pW pR pO gO pN gN g1 g2 g3 g4 gV gD pr gR TC TR:Addr} {mc:Value} {rc:Option Value}
def sp_law (TC TR:Addr):SpA:=fun ds L Q _=> ∃ns:List Int,ds= [.ilst ns]∧L TC=some (.tab crN)∧L TR=some (.tab lwN)∧Q (.bl true) L
set_option maxHeartbeats 0 in
theorem law_ok (F:Fun K "law" "law" xU f fd) (hb:Binds K fd ["_law_script"] []) (mk:MkD base mg fd TR) (B:Bl mg) (T:TxL P w K mg base TX TM pW pR pO gO pN gN g1 g2 g3 g4 gV gD pr gR mc rc) (d1:Def P w K mg base "_law_pot" 1 yN) (d2:Def P w K mg base "_law_names" 4 sY) (d3:Def P w K mg base "_law_counters_right" 43 (qR TC)) (d4:Def P w K mg base "_law_take" 1 mH) (d5:DefC P w K mg base "_law_ends" 42 40 (qQ TX TM)):FnG P w K mg base 44 f (sp_law TC TR):=by
 refine fnGc (.of F) sc_law hb mk (fun ds L Q R h=>by obtain ⟨_,rfl,_⟩:=h;rfl) fun cdv A outer s H E ds L Q R hr hg h mk=> ?_
 obtain ⟨ns,rfl,hTC,hTR,qq⟩:=h
 refine aH (aQ 1 (aK d1 (hr.mono (by omega)) (aC (aA 0 rfl (aC (aG (aF ⟨ns,0,rfl,by omega,fun p mo hp0 hpot=> ?_⟩)))))))
 have I0:NI (put L p mo) (put L p mo) p mo:=NI.refl aD
 have hle0:∀{M mo'},NI (put L p mo) M p mo'→Le L M:=fun h a u e=>by
  have ha:a≠p:=fun ea=>by rw [ea,hp0] at e;cases e
  exact h.le a u (by rw [aJ ha];exact e) ha
 have hCp:TC≠p:=fun e=>by rw [←e,hTC] at hp0;cases hp0
 have hP:put L p mo p=some mo:=aD
 show ASs _ _ [some (.ilst ns),some (.ptr p),none,none,none,none,none] (put L p mo) _
 generalize put L p mo=L3 at I0 hle0 hP ⊢
 refine aH (aQ 2 (aK d2 (hr.mono (by omega)) (aC (aA 1 rfl (aC (aG (aF ⟨p,mo,0,3,rfl,hP,hpot,by omega,by omega,by omega,fun nl ys mo2 hnl hnp hyl hyw hnd h2=> ?_⟩)))))))
 have I1a:=(I0.pot (mo':=mo2)).new (n:=nl) (o:= .lst (ys.map .str)) (by rw [aJ hnp];exact by first | exact hnl | (rw [aJ hnp] at hnl;exact hnl))
 have I1:NI L3 (St2 L3 p mo2 nl (.lst (ys.map .str))) p mo2:=I1a
 clear I1a
 have hN1:St2 L3 p mo2 nl (.lst (ys.map .str)) nl=some (.lst (ys.map .str)):=aD
 generalize St2 L3 p mo2 nl (.lst (ys.map .str))=M1 at I1 hN1 ⊢
 obtain ⟨x,y,z,rfl⟩:∃x y z,ys= [x,y,z]:=by
  match ys,hyl with
  | [a,b,c],_=>exact ⟨a,b,c,rfl⟩
 have hxy:x≠y:=fun e=>by subst e;simp at hnd
 have hxz:x≠z:=fun e=>by subst e;simp at hnd
 have hyz:y≠z:=fun e=>by subst e;simp at hnd
 have wx:=hyw x List.mem_cons_self
 have wy:=hyw y (List.mem_cons_of_mem _ List.mem_cons_self)
 have wz:=hyw z (List.mem_cons_of_mem _ (List.mem_cons_of_mem _ List.mem_cons_self))
 refine aH (dB (eY (dX (aK d3 (hr.mono (by omega)) (aC (aA 1 rfl (aC (aA 2 rfl (aF ⟨p,nl,mo2,500,x,y,z,rfl,I1.p,h2,by omega,hN1,hnp,hxy,wx,wy,hle0 I1 _ _ hTC,hCp,fun mo3 M3 J3 h3=>⟨true,rfl,(fun z=>nomatch z),fun _=>bM ?_⟩⟩)))))))))
 have I3:NI L3 M3 p mo3:=⟨fun a u e ha=>J3.le a u (I1.le a u e ha) ha,J3.p⟩
 have hN3:=J3.le _ _ hN1 hnp
 clear J3 I1 hN1 h2
 refine jA (fun Γ' M=> ∃(sl:Addr) (i j:Nat) (mo':MO),11≤i∧i≤40∧11≤j∧j≤40∧fM 506 mo'∧NI L3 M p mo'∧M nl=some (.lst ([x,y,z].map .str))∧M sl=some (.lst ([(i:Int),(j:Int)].map .int))∧sl≠p∧sl≠nl∧L3 sl=none∧Γ'= [some (.ilst ns),some (.ptr p),some (.ptr nl),some (.ptr sl),none,none,none]) ?_ ?_
 ·refine aQ 3 (fL (aC (sU (aG (aK d4 (hr.mono (by omega)) (aC (aA 1 rfl (aC (aG (aF ⟨p,mo3,504,30,rfl,I3.p,h3,by omega,by omega,by omega,fun j1 mo4 hj1 h4=>xR ?_⟩))))))))))
  refine aC (sU (aG (aK d4 (hr.mono (by omega)) (aC (aA 1 rfl (aC (aG (aF ⟨p,mo4,505,30,rfl,aD,h4,by omega,by omega,by omega,fun j2 mo5 hj2 h5=>xR (aF ⟨Nat.le_of_ble_eq_true rfl,fun sl hsl=> ?_⟩)⟩))))))))
  have hN5:put (put M3 p mo4) p mo5 nl=some (.lst ([x,y,z].map .str)):=by rw [aJ hnp,aJ hnp];exact hN3
  have J:=(I3.pot (mo':=mo4)).pot (mo':=mo5)
  refine ⟨sl,40 - j1,40 - j2,mo5,by omega,by omega,by omega,by omega,h5,J.new hsl,aN hsl _ _ hN5,?_,J.ne hsl,(aO hN5 hsl).symm,J.none hsl,rfl⟩
  rw [aD,show (40:Int) - ((j1:Nat):Int)=((40 - j1:Nat):Int) by omega,show (40:Int) - ((j2:Nat):Int)=((40 - j2:Nat):Int) by omega]
  rfl
 clear hN3 h3 I3
 rintro Γ' M4 ⟨sl,i,j,mo4,i1,i2,j1,j2,h4,I4,hN4,hS4,hsp,hsn,hs0,rfl⟩
 refine jA (fun Γ' M=> ∃k:Nat,19≤k∧k≤40∧Le L M∧M nl=some (.lst ([x,y,z].map .str))∧M sl=some (.lst ([(i:Int),(j:Int),(k:Int)].map .int))∧Γ'= [some (.ilst ns),some (.ptr p),some (.ptr nl),some (.ptr sl),none,none,none]) ?_ ?_
 ·refine gM (cJ (aA 3 rfl ⟨sl,_,rfl,hS4,ae_c_min B.min (aG (uP B.max (aG (qD (sU (aG (bO (cr_sum (DL.Ctx.calm _)) B.sum (aC (aA 3 rfl (aF (c_sum hS4 (xR ?_))))))))))))⟩))
  refine aK d4 (hr.mono (by omega)) (aC (aA 1 rfl (aC (aG (aF ⟨p,mo4,506,4,rfl,I4.p,h4,by omega,by omega,by omega,fun j3 mo5 hj3 h5=>yE (aAE (c_min ?_))⟩)))))
  have hS5:put M4 p mo5 sl=some (.lst ([(i:Int),(j:Int)].map .int)):=by rw [aJ hsp];exact hS4
  have hL5:Le L (put M4 p mo5):=hle0 I4.pot
  have hLs:L sl=none:=by
   cases e:L sl with
   | none=>rfl
   | some o=>have hh:=hle0 I0 _ _ e;rw [hs0] at hh;cases hh
  have es:([(i:Int),(j:Int)]:List Int).sum=((i+j:Nat):Int):=by simp
  rw [es]
  obtain ⟨k,ek,k1,k2⟩:∃k:Nat,(if (if (99:Int) - ((i+j:Nat):Int)+((j3:Nat):Int) > 1 then (99:Int) - ((i+j:Nat):Int)+((j3:Nat):Int) else 1) < 40 then (if (99:Int) - ((i+j:Nat):Int)+((j3:Nat):Int) > 1 then (99:Int) - ((i+j:Nat):Int)+((j3:Nat):Int) else 1) else 40)=((k:Nat):Int)∧19≤k∧k≤40:=by
   refine ⟨if 99 - (i+j)+j3 < 40 then 99 - (i+j)+j3 else 40,?_,?_,?_⟩ <;> repeat' split
   all_goals omega
  rw [ek]
  refine ⟨_,hS5,by rw [dF];exact Nat.le_of_ble_eq_true rfl,k,k1,k2,fun a u e=> ?_,?_,?_,rfl⟩
  ·have ha:a≠sl:=fun ea=>by rw [ea,hLs] at e;cases e
   rw [aJ ha]
   exact hL5 a u e
  ·rw [aJ hsn.symm,aJ hnp];exact hN4
  ·rw [aD]
   rfl
 rintro Γ' M5 ⟨k,k1,k2,hle,hN,hS,rfl⟩
 refine aH (aQ 4 (aAk (al_map2 5 6 (ai_zipLL B.zip (aC (aA 2 rfl (aC (aA 3 rfl (aF ⟨nl,sl,_,_,rfl,hN,hS,fun hz=>⟨Str×Nat,[(x,i),(y,j),(z,k)],fun q=> .str q.1,fun q=> .int (q.2:Nat),fun q=>dW (List.replicate q.2 q.1),rfl,⟨hN,hS⟩,Nat.le_of_ble_eq_true rfl,fun q hq s H Cc cl fp Q qq=> ?_,fun tl htl=> ?_⟩⟩)))))))))
 ·have hq2:2≤q.2∧q.2≤40:=by
   simp only [List.mem_cons,List.not_mem_nil,or_false] at hq
   rcases hq with rfl | rfl | rfl <;> constructor <;> dsimp only <;> omega
  refine nD (bV (aC (aA 5 rfl (aF ⟨Nat.le_of_ble_eq_true rfl,aA 6 rfl (j_mulT (by omega) (by omega) (by simp) (by simp) ?_)⟩))))
  rw [Int.toNat_natCast,rep_flat,show D.tup (List.replicate q.2 (.str q.1))=dW (List.replicate q.2 q.1) by unfold dW;rw [List.map_replicate]]
  exact qq
 have hT:put M5 tl (.lst ([(x,i),(y,j),(z,k)].map fun q=>dW (List.replicate q.2 q.1))) tl=some (.lst [dW (List.replicate i x),dW (List.replicate j y),dW (List.replicate k z)]):=aD
 have hS6:=aN htl (o:= .lst ([(x,i),(y,j),(z,k)].map fun q=>dW (List.replicate q.2 q.1))) _ _ hS
 have hR6:=aN htl (o:= .lst ([(x,i),(y,j),(z,k)].map fun q=>dW (List.replicate q.2 q.1))) _ _ (hle _ _ hTR)
 have hle6:Le L (put M5 tl (.lst ([(x,i),(y,j),(z,k)].map fun q=>dW (List.replicate q.2 q.1)))):=hle.trans (aN htl)
 show ASs _ _ [some (.ilst ns),some (.ptr p),some (.ptr nl),some (.ptr sl),some (.ptr tl),none,none] (put M5 tl (.lst ([(x,i),(y,j),(z,k)].map fun q=>dW (List.replicate q.2 q.1)))) _
 generalize put M5 tl (.lst ([(x,i),(y,j),(z,k)].map fun q=>dW (List.replicate q.2 q.1)))=M6 at hT hS6 hR6 hle6 ⊢
 refine aM (aW (oJ d5 (hr.mono (by omega)) (vH mk hR6 (fun fa hfa=>aC (bO (cr_sum (DL.Ctx.calm _)) B.sum (aC (aA 3 rfl (aF (c_sum hS6 (aF ⟨fun ds L2 Q' R'=>ds= []∧L2 tl=some (.lst [dW (List.replicate i x),dW (List.replicate j y),dW (List.replicate k z)])∧∀m,m.2.length=i+j+k→Res TX TM m L2 Q' R',?_,?_⟩))))))))))
 ·refine ⟨[],[("_law_texts",4)],by decide,pC rfl,?_,?_,?_,?_⟩
  ·intro z hz
   simp only [List.mem_cons,List.not_mem_nil,or_false] at hz
   rcases hz with rfl
   exact ⟨rfl,rfl⟩
  ·exact fun q cl pm cv ctv us hl=>match us,hl with | [],_=>rfl
  ·rintro ds L Q R ⟨rfl,_⟩
   rfl
  ·rintro A2 outer2 s2 H2 E2 f2 cc ds L2 Q2 R2 hr2 ⟨rfl,h1,h2⟩
   have a0:atI [dW (List.replicate i x),dW (List.replicate j y),dW (List.replicate k z)] ((0:Nat):Int)=some (dW (List.replicate i x)):=atI_nat rfl
   have a1:atI [dW (List.replicate i x),dW (List.replicate j y),dW (List.replicate k z)] ((1:Nat):Int)=some (dW (List.replicate j y)):=atI_nat rfl
   have a2:atI [dW (List.replicate i x),dW (List.replicate j y),dW (List.replicate k z)] ((2:Nat):Int)=some (dW (List.replicate k z)):=atI_nat rfl
   refine ae_cmeth T.rd T.cn T.fN (hr2.mono (by omega)) (kZ (v:= .ref TX) (d:= .ptr TX) T.nm rfl (fun _=> .ptr _) ⟨rfl,aC (aR (dJ (u1 hr2)) (aA 0 rfl (aG (ixr a0 (.st h1) (aC (aR (dJ (u1 hr2)) (aA 0 rfl (aG (ixr a1 (.st h1) (aC (aR (dJ (u1 hr2)) (aA 0 rfl (aG (ixr a2 (.st h1) (aF ⟨[.ptr TX],[dW (List.replicate i x),dW (List.replicate j y),dW (List.replicate k z)],rfl,rfl,Nat.le_of_ble_eq_true rfl,[List.replicate i x,List.replicate j y,List.replicate k z],rfl,by show 3≤10;decide,?_,?_,fun xs rows hup hx hM h0 hacc=> ?_⟩)))))))))))))))⟩)
   ·intro u hu v hv
    simp only [List.mem_cons,List.not_mem_nil,or_false] at hu
    rcases hu with rfl | rfl | rfl <;> rw [(List.mem_replicate.mp hv).2] <;> assumption
   ·rw [List.map_cons,List.map_cons,List.map_cons,List.map_nil,List.sum_cons,List.sum_cons,List.sum_cons,List.sum_nil,List.length_replicate,List.length_replicate,List.length_replicate]
    omega
   ·obtain ⟨w,hw⟩:=uB xs
    have ix:x∈xs:=(hx x).mpr ⟨_,List.mem_cons_self,List.mem_replicate.mpr ⟨by omega,rfl⟩⟩
    have iy:y∈xs:=(hx y).mpr ⟨_,List.mem_cons_of_mem _ List.mem_cons_self,List.mem_replicate.mpr ⟨by omega,rfl⟩⟩
    have iz:z∈xs:=(hx z).mpr ⟨_,List.mem_cons_of_mem _ (List.mem_cons_of_mem _ List.mem_cons_self),List.mem_replicate.mpr ⟨by omega,rfl⟩⟩
    exact (h2 _ (tri_exact (i:=i) (j:=j) (k:=k) hxy hxz hyz (by omega) (by omega) (by omega) (rise_nd hup) hw ⟨fun e=>hw (e ▸ix),fun e=>hw (e ▸iy),fun e=>hw (e ▸iz)⟩ hM h0 fun t=>(hacc t).trans (dec_eq _ _))).up (.refl _)
 ·refine ⟨i+j+k,?_,fun Q' R' h=>⟨rfl,hT,fun m hm=>h m hm⟩,L,hle6,qq⟩
  have:([(i:Int),(j:Int),(k:Int)]:List Int).sum=((i+j+k:Nat):Int):=by simp;omega
  rw [this]
end
end K
namespace K
open PySem PySem.Spec PyProof.Rows L2 DL
set_option maxHeartbeats 0 in
theorem all_mk {l:PySem.W.OpenLaw} {w:World} {K:PySem.W.Frag} {mg:Str→Option Value} {fa:Addr} {h:Heap} (X:K.In h) (G:h.Ns mainGlobals mg) (hfa:mg "law"=some (.ref fa))
  {cT_TC TC:Addr} {cT_TR TR:Addr} {f0:Addr} {od0 an0:Option Addr} {sl0:Array (Option Value)} {oc0 kV0 dc0 pm0 cd0 ct0:Value} {f1:Addr} {od1 an1:Option Addr} {sl1:Array (Option Value)} {oc1 kV1 dc1 pm1 cd1 ct1:Value} {f2:Addr} {od2 an2:Option Addr} {sl2:Array (Option Value)} {oc2 kV2 dc2 pm2 cd2 ct2:Value} {f3:Addr} {od3 an3:Option Addr} {sl3:Array (Option Value)} {oc3 kV3 dc3 pm3 cd3 ct3:Value} {f4:Addr} {od4 an4:Option Addr} {sl4:Array (Option Value)} {oc4 kV4 dc4 pm4 cd4 ct4:Value} {f5:Addr} {od5 an5:Option Addr} {sl5:Array (Option Value)} {oc5 kV5 dc5 pm5 cd5 ct5:Value} {f6:Addr} {od6 an6:Option Addr} {sl6:Array (Option Value)} {oc6 kV6 dc6 pm6 cd6 ct6:Value} {f7:Addr} {od7 an7:Option Addr} {sl7:Array (Option Value)} {oc7 kV7 dc7 pm7 cd7 ct7:Value} {f8:Addr} {od8 an8:Option Addr} {sl8:Array (Option Value)} {oc8 kV8 dc8 pm8 cd8 ct8:Value} {f9:Addr} {od9 an9:Option Addr} {sl9:Array (Option Value)} {oc9 kV9 dc9 pm9 cd9 ct9:Value} {f10:Addr} {od10 an10:Option Addr} {sl10:Array (Option Value)} {oc10 kV10 dc10 pm10 cd10 ct10:Value} {f11:Addr} {od11 an11:Option Addr} {sl11:Array (Option Value)} {oc11 kV11 dc11 pm11 cd11 ct11:Value} {f12:Addr} {od12 an12:Option Addr} {sl12:Array (Option Value)} {oc12 kV12 dc12 pm12 cd12 ct12:Value} {f16:Addr} {od16 an16:Option Addr} {sl16:Array (Option Value)} {oc16 kV16 dc16 pm16 cd16 ct16:Value} {f17:Addr} {od17 an17:Option Addr} {sl17:Array (Option Value)} {oc17 kV17 dc17 pm17 cd17 ct17:Value} {f18:Addr} {od18 an18:Option Addr} {sl18:Array (Option Value)} {oc18 kV18 dc18 pm18 cd18 ct18:Value} {f21:Addr} {od21 an21:Option Addr} {sl21:Array (Option Value)} {oc21 kV21 dc21 pm21 cd21 ct21:Value} {f28:Addr} {od28 an28:Option Addr} {sl28:Array (Option Value)} {oc28 kV28 dc28 pm28 cd28 ct28:Value} {f29:Addr} {od29 an29:Option Addr} {sl29:Array (Option Value)} {oc29 kV29 dc29 pm29 cd29 ct29:Value} {f30:Addr} {od30 an30:Option Addr} {sl30:Array (Option Value)} {oc30 kV30 dc30 pm30 cd30 ct30:Value} {f31:Addr} {od31 an31:Option Addr} {sl31:Array (Option Value)} {oc31 kV31 dc31 pm31 cd31 ct31:Value} {f32:Addr} {od32 an32:Option Addr} {sl32:Array (Option Value)} {oc32 kV32 dc32 pm32 cd32 ct32:Value} {f33:Addr} {od33 an33:Option Addr} {sl33:Array (Option Value)} {oc33 kV33 dc33 pm33 cd33 ct33:Value} {f34:Addr} {od34 an34:Option Addr} {sl34:Array (Option Value)} {oc34 kV34 dc34 pm34 cd34 ct34:Value} {f35:Addr} {od35 an35:Option Addr} {sl35:Array (Option Value)} {oc35 kV35 dc35 pm35 cd35 ct35:Value} {f36:Addr} {od36 an36:Option Addr} {sl36:Array (Option Value)} {oc36 kV36 dc36 pm36  ct36:Value} {f37:Addr} {od37 an37:Option Addr} {sl37:Array (Option Value)} {oc37 kV37 dc37 pm37  ct37:Value} {t_MOST_LETTERS:Tok} {t_LETTERS:Tok} {t_MOST_WORDS:Tok} {t_MOST_STATES:Tok} {TX:Addr} {p_Texts_own_rows:Addr} {p_Texts_own_words:Addr} {pp_Texts_of:Addr} {rr_Texts_of:List Value} {pp_Texts_only:Addr} {rr_Texts_only:List Value} {pp_Texts_words:Addr} {rr_Texts_words:List Value} {pp_Texts_rows:Addr} {rr_Texts_rows:List Value} {f13:Addr} {od13 an13:Option Addr} {sl13:Array (Option Value)} {oc13 kV13 dc13 pm13 cd13 ct13:Value} {f14:Addr} {od14 an14:Option Addr} {sl14:Array (Option Value)} {oc14 kV14 dc14 pm14 cd14 ct14:Value} {f15:Addr} {od15 an15:Option Addr} {sl15:Array (Option Value)} {oc15 kV15 dc15 pm15 cd15 ct15:Value} {f19:Addr} {od19 an19:Option Addr} {sl19:Array (Option Value)} {oc19 kV19 dc19 pm19 cd19 ct19:Value} {f20:Addr} {od20 an20:Option Addr} {sl20:Array (Option Value)} {oc20 kV20 dc20 pm20 cd20 ct20:Value} {f22:Addr} {od22 an22:Option Addr} {sl22:Array (Option Value)} {oc22 kV22 dc22 pm22 cd22 ct22:Value} {f23:Addr} {od23 an23:Option Addr} {sl23:Array (Option Value)} {oc23 kV23 dc23 pm23 cd23 ct23:Value} {f24:Addr} {od24 an24:Option Addr} {sl24:Array (Option Value)} {oc24 kV24 dc24 pm24 cd24 ct24:Value} {f25:Addr} {od25 an25:Option Addr} {sl25:Array (Option Value)} {oc25 kV25 dc25 pm25 cd25 ct25:Value} {f26:Addr} {od26 an26:Option Addr} {sl26:Array (Option Value)} {oc26 kV26 dc26 pm26 cd26 ct26:Value} {f27:Addr} {od27 an27:Option Addr} {sl27:Array (Option Value)} {oc27 kV27 dc27 pm27 cd27 ct27:Value} {WE:Addr} {TIE_WideError___init__:Addr} {ocTE_WideError___init__:Value} {odTE_WideError___init__:Option Addr} {nTE_WideError___init__:Nat} {slTE_WideError___init__:Array (Option Value)} {dIE_WideError___init__:Value} {fE_WideError___init__:Addr} {odE_WideError___init__ anE_WideError___init__:Option Addr} {slE_WideError___init__:Array (Option Value)} {ocE_WideError___init__ kVE_WideError___init__ dcE_WideError___init__ pmE_WideError___init__ cdE_WideError___init__ ctE_WideError___init__:Value} {enm_WE:Str} {eq_WE:Str} {eN_WE:Addr} {ebs_WE:List Value} {ebm_WE:List Value} {esn_WE:List Str} {esub_WE:List Value} {eab_WE:Bool} {ecol_WE:Option Bool} {edd_WE:Option Addr} {ek0_WE:Option Value} {ek1_WE:Option Value} {ek2_WE:Option Value} {ek3_WE:Option Value} {ek5_WE:Option Value} {TM:Addr} {TIE_TooMany___init__:Addr} {ocTE_TooMany___init__:Value} {odTE_TooMany___init__:Option Addr} {nTE_TooMany___init__:Nat} {slTE_TooMany___init__:Array (Option Value)} {dIE_TooMany___init__:Value} {fE_TooMany___init__:Addr} {odE_TooMany___init__ anE_TooMany___init__:Option Addr} {slE_TooMany___init__:Array (Option Value)} {ocE_TooMany___init__ kVE_TooMany___init__ dcE_TooMany___init__ pmE_TooMany___init__ ctE_TooMany___init__:Value} {cdaE_TooMany___init__ ccE_TooMany___init__:Addr} {cclE_TooMany___init__ clE_TooMany___init__:Value} {cddE_TooMany___init__ cldE_TooMany___init__:Option Addr} {ccsE_TooMany___init__ cslE_TooMany___init__:Array (Option Value)} {vscE_TooMany___init__:Array Value} {fileE_TooMany___init__:Str} {tfE_TooMany___init__:Tok} {cdCE_TooMany___init__:ClassData} {enm_TM:Str} {eq_TM:Str} {eN_TM:Addr} {ebs_TM:List Value} {ebm_TM:List Value} {esn_TM:List Str} {esub_TM:List Value} {eab_TM:Bool} {ecol_TM:Option Bool} {edd_TM:Option Addr} {ek0_TM:Option Value} {ek1_TM:Option Value} {ek2_TM:Option Value} {ek3_TM:Option Value} {ek5_TM:Option Value}
  (tI_TC:PySem.W.tabIn K "_law_counters_right"=some (cT_TC,TC))
  (tH_TC:PySem.W.codeHdIn K cT_TC TC=true)
  (tN_TC:K.lookup TC=none)
  (tE_TC:h.get? TC=some {cls:= .none,data:= .fields #[]})
  (tI_TR:PySem.W.tabIn K "law"=some (cT_TR,TR))
  (tH_TR:PySem.W.codeHdIn K cT_TR TR=true)
  (tN_TR:K.lookup TR=none)
  (tE_TR:h.get? TR=some {cls:= .none,data:= .fields #[]})
  (a0:PySem.W.nsIn K mainGlobals "is_integer"=some (some (.ref f0)))
  (l0:K.lookup f0=some ⟨oc0,od0,.func (PySem.W.fnOf "is_integer" "is_integer" (defArgs eE) (defBody eE) (defScope eE) .none kV0 dc0 pm0 an0 cd0 ct0),sl0⟩)
  (c0:PySem.W.codeIn K cd0 "is_integer"=true)
  (k0:PySem.W.keepIn K (.ref f0)=true)
  (a1:PySem.W.nsIn K mainGlobals "is_word"=some (some (.ref f1)))
  (l1:K.lookup f1=some ⟨oc1,od1,.func (PySem.W.fnOf "is_word" "is_word" (defArgs jJ) (defBody jJ) (defScope jJ) .none kV1 dc1 pm1 an1 cd1 ct1),sl1⟩)
  (c1:PySem.W.codeIn K cd1 "is_word"=true)
  (k1:PySem.W.keepIn K (.ref f1)=true)
  (a2:PySem.W.nsIn K mainGlobals "is_text"=some (some (.ref f2)))
  (l2:K.lookup f2=some ⟨oc2,od2,.func (PySem.W.fnOf "is_text" "is_text" (defArgs jK) (defBody jK) (defScope jK) .none kV2 dc2 pm2 an2 cd2 ct2),sl2⟩)
  (c2:PySem.W.codeIn K cd2 "is_text"=true)
  (k2:PySem.W.keepIn K (.ref f2)=true)
  (a3:PySem.W.nsIn K mainGlobals "is_rising"=some (some (.ref f3)))
  (l3:K.lookup f3=some ⟨oc3,od3,.func (PySem.W.fnOf "is_rising" "is_rising" (defArgs fQ) (defBody fQ) (defScope fQ) .none kV3 dc3 pm3 an3 cd3 ct3),sl3⟩)
  (c3:PySem.W.codeIn K cd3 "is_rising"=true)
  (k3:PySem.W.keepIn K (.ref f3)=true)
  (a4:PySem.W.nsIn K mainGlobals "is_words"=some (some (.ref f4)))
  (l4:K.lookup f4=some ⟨oc4,od4,.func (PySem.W.fnOf "is_words" "is_words" (defArgs iD) (defBody iD) (defScope iD) .none kV4 dc4 pm4 an4 cd4 ct4),sl4⟩)
  (c4:PySem.W.codeIn K cd4 "is_words"=true)
  (k4:PySem.W.keepIn K (.ref f4)=true)
  (a5:PySem.W.nsIn K mainGlobals "is_row"=some (some (.ref f5)))
  (l5:K.lookup f5=some ⟨oc5,od5,.func (PySem.W.fnOf "is_row" "is_row" (defArgs lU) (defBody lU) (defScope lU) .none kV5 dc5 pm5 an5 cd5 ct5),sl5⟩)
  (c5:PySem.W.codeIn K cd5 "is_row"=true)
  (k5:PySem.W.keepIn K (.ref f5)=true)
  (a6:PySem.W.nsIn K mainGlobals "is_rows"=some (some (.ref f6)))
  (l6:K.lookup f6=some ⟨oc6,od6,.func (PySem.W.fnOf "is_rows" "is_rows" (defArgs jL) (defBody jL) (defScope jL) .none kV6 dc6 pm6 an6 cd6 ct6),sl6⟩)
  (c6:PySem.W.codeIn K cd6 "is_rows"=true)
  (k6:PySem.W.keepIn K (.ref f6)=true)
  (a7:PySem.W.nsIn K mainGlobals "column_of"=some (some (.ref f7)))
  (l7:K.lookup f7=some ⟨oc7,od7,.func (PySem.W.fnOf "column_of" "column_of" (defArgs fV) (defBody fV) (defScope fV) .none kV7 dc7 pm7 an7 cd7 ct7),sl7⟩)
  (c7:PySem.W.codeIn K cd7 "column_of"=true)
  (k7:PySem.W.keepIn K (.ref f7)=true)
  (a8:PySem.W.nsIn K mainGlobals "goal_of"=some (some (.ref f8)))
  (l8:K.lookup f8=some ⟨oc8,od8,.func (PySem.W.fnOf "goal_of" "goal_of" (defArgs jM) (defBody jM) (defScope jM) .none kV8 dc8 pm8 an8 cd8 ct8),sl8⟩)
  (c8:PySem.W.codeIn K cd8 "goal_of"=true)
  (k8:PySem.W.keepIn K (.ref f8)=true)
  (a9:PySem.W.nsIn K mainGlobals "state_behind"=some (some (.ref f9)))
  (l9:K.lookup f9=some ⟨oc9,od9,.func (PySem.W.fnOf "state_behind" "state_behind" (defArgs cO) (defBody cO) (defScope cO) .none kV9 dc9 pm9 an9 cd9 ct9),sl9⟩)
  (c9:PySem.W.codeIn K cd9 "state_behind"=true)
  (k9:PySem.W.keepIn K (.ref f9)=true)
  (a10:PySem.W.nsIn K mainGlobals "reached"=some (some (.ref f10)))
  (l10:K.lookup f10=some ⟨oc10,od10,.func (PySem.W.fnOf "reached" "reached" (defArgs jH) (defBody jH) (defScope jH) .none kV10 dc10 pm10 an10 cd10 ct10),sl10⟩)
  (c10:PySem.W.codeIn K cd10 "reached"=true)
  (k10:PySem.W.keepIn K (.ref f10)=true)
  (a11:PySem.W.nsIn K mainGlobals "blocks_of"=some (some (.ref f11)))
  (l11:K.lookup f11=some ⟨oc11,od11,.func (PySem.W.fnOf "blocks_of" "blocks_of" (defArgs fW) (defBody fW) (defScope fW) .none kV11 dc11 pm11 an11 cd11 ct11),sl11⟩)
  (c11:PySem.W.codeIn K cd11 "blocks_of"=true)
  (k11:PySem.W.keepIn K (.ref f11)=true)
  (a12:PySem.W.nsIn K mainGlobals "least_machine"=some (some (.ref f12)))
  (l12:K.lookup f12=some ⟨oc12,od12,.func (PySem.W.fnOf "least_machine" "least_machine" (defArgs bY) (defBody bY) (defScope bY) .none kV12 dc12 pm12 an12 cd12 ct12),sl12⟩)
  (c12:PySem.W.codeIn K cd12 "least_machine"=true)
  (k12:PySem.W.keepIn K (.ref f12)=true)
  (a16:PySem.W.nsIn K mainGlobals "is_either"=some (some (.ref f16)))
  (l16:K.lookup f16=some ⟨oc16,od16,.func (PySem.W.fnOf "is_either" "is_either" (defArgs fU) (defBody fU) (defScope fU) .none kV16 dc16 pm16 an16 cd16 ct16),sl16⟩)
  (c16:PySem.W.codeIn K cd16 "is_either"=true)
  (k16:PySem.W.keepIn K (.ref f16)=true)
  (a17:PySem.W.nsIn K mainGlobals "side_by_side"=some (some (.ref f17)))
  (l17:K.lookup f17=some ⟨oc17,od17,.func (PySem.W.fnOf "side_by_side" "side_by_side" (defArgs cP) (defBody cP) (defScope cP) .none kV17 dc17 pm17 an17 cd17 ct17),sl17⟩)
  (c17:PySem.W.codeIn K cd17 "side_by_side"=true)
  (k17:PySem.W.keepIn K (.ref f17)=true)
  (a18:PySem.W.nsIn K mainGlobals "settled"=some (some (.ref f18)))
  (l18:K.lookup f18=some ⟨oc18,od18,.func (PySem.W.fnOf "settled" "settled" (defArgs jG) (defBody jG) (defScope jG) .none kV18 dc18 pm18 an18 cd18 ct18),sl18⟩)
  (c18:PySem.W.codeIn K cd18 "settled"=true)
  (k18:PySem.W.keepIn K (.ref f18)=true)
  (a21:PySem.W.nsIn K mainGlobals "combined"=some (some (.ref f21)))
  (l21:K.lookup f21=some ⟨oc21,od21,.func (PySem.W.fnOf "combined" "combined" (defArgs iG) (defBody iG) (defScope iG) .none kV21 dc21 pm21 an21 cd21 ct21),sl21⟩)
  (c21:PySem.W.codeIn K cd21 "combined"=true)
  (k21:PySem.W.keepIn K (.ref f21)=true)
  (a28:PySem.W.nsIn K mainGlobals "_law_pot"=some (some (.ref f28)))
  (l28:K.lookup f28=some ⟨oc28,od28,.func (PySem.W.fnOf "_law_pot" "_law_pot" (defArgs eG) (defBody eG) (defScope eG) .none kV28 dc28 pm28 an28 cd28 ct28),sl28⟩)
  (c28:PySem.W.codeIn K cd28 "_law_pot"=true)
  (k28:PySem.W.keepIn K (.ref f28)=true)
  (a29:PySem.W.nsIn K mainGlobals "_law_take"=some (some (.ref f29)))
  (l29:K.lookup f29=some ⟨oc29,od29,.func (PySem.W.fnOf "_law_take" "_law_take" (defArgs fZ) (defBody fZ) (defScope fZ) .none kV29 dc29 pm29 an29 cd29 ct29),sl29⟩)
  (c29:PySem.W.codeIn K cd29 "_law_take"=true)
  (k29:PySem.W.keepIn K (.ref f29)=true)
  (a30:PySem.W.nsIn K mainGlobals "_law_of"=some (some (.ref f30)))
  (l30:K.lookup f30=some ⟨oc30,od30,.func (PySem.W.fnOf "_law_of" "_law_of" (defArgs jN) (defBody jN) (defScope jN) .none kV30 dc30 pm30 an30 cd30 ct30),sl30⟩)
  (c30:PySem.W.codeIn K cd30 "_law_of"=true)
  (k30:PySem.W.keepIn K (.ref f30)=true)
  (a31:PySem.W.nsIn K mainGlobals "_law_word"=some (some (.ref f31)))
  (l31:K.lookup f31=some ⟨oc31,od31,.func (PySem.W.fnOf "_law_word" "_law_word" (defArgs fX) (defBody fX) (defScope fX) .none kV31 dc31 pm31 an31 cd31 ct31),sl31⟩)
  (c31:PySem.W.codeIn K cd31 "_law_word"=true)
  (k31:PySem.W.keepIn K (.ref f31)=true)
  (a32:PySem.W.nsIn K mainGlobals "_law_names"=some (some (.ref f32)))
  (l32:K.lookup f32=some ⟨oc32,od32,.func (PySem.W.fnOf "_law_names" "_law_names" (defArgs eQ) (defBody eQ) (defScope eQ) .none kV32 dc32 pm32 an32 cd32 ct32),sl32⟩)
  (c32:PySem.W.codeIn K cd32 "_law_names"=true)
  (k32:PySem.W.keepIn K (.ref f32)=true)
  (a33:PySem.W.nsIn K mainGlobals "_law_told"=some (some (.ref f33)))
  (l33:K.lookup f33=some ⟨oc33,od33,.func (PySem.W.fnOf "_law_told" "_law_told" (defArgs fY) (defBody fY) (defScope fY) .none kV33 dc33 pm33 an33 cd33 ct33),sl33⟩)
  (c33:PySem.W.codeIn K cd33 "_law_told"=true)
  (k33:PySem.W.keepIn K (.ref f33)=true)
  (a34:PySem.W.nsIn K mainGlobals "_law_ends"=some (some (.ref f34)))
  (l34:K.lookup f34=some ⟨oc34,od34,.func (PySem.W.fnOf "_law_ends" "_law_ends" (defArgs gA) (defBody gA) (defScope gA) .none kV34 dc34 pm34 an34 cd34 ct34),sl34⟩)
  (c34:PySem.W.codeIn K cd34 "_law_ends"=true)
  (k34:PySem.W.keepIn K (.ref f34)=true)
  (a35:PySem.W.nsIn K mainGlobals "_law_counter"=some (some (.ref f35)))
  (l35:K.lookup f35=some ⟨oc35,od35,.func (PySem.W.fnOf "_law_counter" "_law_counter" (defArgs cQ) (defBody cQ) (defScope cQ) .none kV35 dc35 pm35 an35 cd35 ct35),sl35⟩)
  (c35:PySem.W.codeIn K cd35 "_law_counter"=true)
  (k35:PySem.W.keepIn K (.ref f35)=true)
  (a36:PySem.W.nsIn K mainGlobals "_law_counters_right"=some (some (.ref f36)))
  (l36:K.lookup f36=some ⟨oc36,od36,.func (PySem.W.fnOf "_law_counters_right" "_law_counters_right" (defArgs aZ) (defBody aZ) (defScope aZ) .none kV36 dc36 pm36 an36 (.ref cT_TC) ct36),sl36⟩)
  (c36:PySem.W.codeIn K (.ref cT_TC) "_law_counters_right"=true)
  (k36:PySem.W.keepIn K (.ref f36)=true)
  (a37:PySem.W.nsIn K mainGlobals "law"=some (some (.ref f37)))
  (l37:K.lookup f37=some ⟨oc37,od37,.func (PySem.W.fnOf "law" "law" (defArgs xU) (defBody xU) (defScope xU) .none kV37 dc37 pm37 an37 (.ref cT_TR) ct37),sl37⟩)
  (c37:PySem.W.codeIn K (.ref cT_TR) "law"=true)
  (k37:PySem.W.keepIn K (.ref f37)=true)
  (n_MOST_LETTERS:PySem.W.nsIn K mainGlobals "MOST_LETTERS"=some (some (.int 8 t_MOST_LETTERS)))
  (n_LETTERS:PySem.W.nsIn K mainGlobals "LETTERS"=some (some (.str "abcdefghijklmnopqrstuvwxyz" t_LETTERS)))
  (n_MOST_WORDS:PySem.W.nsIn K mainGlobals "MOST_WORDS"=some (some (.int 20 t_MOST_WORDS)))
  (n_MOST_STATES:PySem.W.nsIn K mainGlobals "MOST_STATES"=some (some (.int 100 t_MOST_STATES)))
  (z_tuple:PySem.W.nsIn K mainGlobals "tuple"=some none)
  (z_list:PySem.W.nsIn K mainGlobals "list"=some none)
  (z_len:PySem.W.nsIn K mainGlobals "len"=some none)
  (z_any:PySem.W.nsIn K mainGlobals "any"=some none)
  (z_all:PySem.W.nsIn K mainGlobals "all"=some none)
  (z_range:PySem.W.nsIn K mainGlobals "range"=some none)
  (z_zip:PySem.W.nsIn K mainGlobals "zip"=some none)
  (z_isinstance:PySem.W.nsIn K mainGlobals "isinstance"=some none)
  (z_str:PySem.W.nsIn K mainGlobals "str"=some none)
  (z_sorted:PySem.W.nsIn K mainGlobals "sorted"=some none)
  (z_set:PySem.W.nsIn K mainGlobals "set"=some none)
  (z_dict:PySem.W.nsIn K mainGlobals "dict"=some none)
  (z_max:PySem.W.nsIn K mainGlobals "max"=some none)
  (z_min:PySem.W.nsIn K mainGlobals "min"=some none)
  (z_abs:PySem.W.nsIn K mainGlobals "abs"=some none)
  (z_int:PySem.W.nsIn K mainGlobals "int"=some none)
  (z_bool:PySem.W.nsIn K mainGlobals "bool"=some none)
  (z_sum:PySem.W.nsIn K mainGlobals "sum"=some none)
  (z_repr:PySem.W.nsIn K mainGlobals "repr"=some none)
  (z_enumerate:PySem.W.nsIn K mainGlobals "enumerate"=some none)
  (A_Texts:PySem.W.nsIn K mainGlobals "Texts"=some (some (.ref TX)))
  (Pg_Texts:PySem.W.plainGet K TX Str.empty=true)
  (Ic_Texts:PySem.W.isClsIn K TX=true)
  (Po_Texts:PySem.W.plainOver K TX=true)
  (Sa_Texts:PySem.W.findIn K (.ref TX) "__setattr__"=some (some (.builtin "object.__setattr__")))
  (sA_Texts_own_rows:PySem.W.findIn K (.ref TX) "own_rows"=some (some (.ref p_Texts_own_rows)))
  (sG_Texts_own_rows:PySem.W.specialIn K (.ref p_Texts_own_rows) "__get__"=some (some (.builtin "member_descriptor.__get__")))
  (sT_Texts_own_rows:PySem.W.takesIn K (.ref p_Texts_own_rows)=some true)
  (sY_Texts_own_rows:PySem.W.typeIn K (.ref p_Texts_own_rows)=some (.type "member_descriptor"))
  (sI_Texts_own_rows:PySem.W.slotIn K p_Texts_own_rows TX=some 0)
  (sA_Texts_own_words:PySem.W.findIn K (.ref TX) "own_words"=some (some (.ref p_Texts_own_words)))
  (sG_Texts_own_words:PySem.W.specialIn K (.ref p_Texts_own_words) "__get__"=some (some (.builtin "member_descriptor.__get__")))
  (sT_Texts_own_words:PySem.W.takesIn K (.ref p_Texts_own_words)=some true)
  (sY_Texts_own_words:PySem.W.typeIn K (.ref p_Texts_own_words)=some (.type "member_descriptor"))
  (sI_Texts_own_words:PySem.W.slotIn K p_Texts_own_words TX=some 1)
  (Ja_Texts:PySem.W.findIn K (.ref TX) "__class__"=some (some (.builtin "object.__class__")))
  (Jn:PySem.W.specialIn K (.builtin "object.__class__") "__get__"=some (some (.builtin "getset_descriptor.__get__")))
  (Jt:PySem.W.takesIn K (.builtin "object.__class__")=some true)
  (Jm_Texts:PySem.W.mroIn K TX (.type "object")=some true)
  (mM_Texts___init__:PySem.W.makesIn K TX=true)
  (mA_Texts___init__:PySem.W.findIn K (.ref TX) "__init__"=some (some (.ref f13)))
  (mF_Texts___init__:PySem.W.isFn K (.ref f13)=true)
  (mK_Texts___init__:PySem.W.keepIn K (.ref TX)=true)
  (cRd_Texts:PySem.W.readsIn K TX (.type "type")=true)
  (cGa_Texts:PySem.W.specialIn K (.ref TX) "__getattribute__"=some (some (.builtin "type.__getattribute__")))
  (mA_Texts_of:PySem.W.findCls K (.ref TX) (.type "type") "of"=some (.get (.builtin "classmethod.__get__") (.ref pp_Texts_of) .none (.ref TX)))
  (mR_Texts_of:PySem.W.recIn K pp_Texts_of "classmethod"=some (.ref f14::rr_Texts_of))
  (mN_Texts_of:PySem.W.fnIn K f14=true)
  (mA_Texts_only:PySem.W.findCls K (.ref TX) (.type "type") "only"=some (.get (.builtin "classmethod.__get__") (.ref pp_Texts_only) .none (.ref TX)))
  (mR_Texts_only:PySem.W.recIn K pp_Texts_only "classmethod"=some (.ref f22::rr_Texts_only))
  (mN_Texts_only:PySem.W.fnIn K f22=true)
  (mA_Texts_words:PySem.W.findIn K (.ref TX) "words"=some (some (.ref pp_Texts_words)))
  (mG_Texts_words:PySem.W.specialIn K (.ref pp_Texts_words) "__get__"=some (some (.builtin "property.__get__")))
  (mT_Texts_words:PySem.W.takesIn K (.ref pp_Texts_words)=some true)
  (mR_Texts_words:PySem.W.recIn K pp_Texts_words "property"=some (.ref f19::rr_Texts_words))
  (mA_Texts_rows:PySem.W.findIn K (.ref TX) "rows"=some (some (.ref pp_Texts_rows)))
  (mG_Texts_rows:PySem.W.specialIn K (.ref pp_Texts_rows) "__get__"=some (some (.builtin "property.__get__")))
  (mT_Texts_rows:PySem.W.takesIn K (.ref pp_Texts_rows)=some true)
  (mR_Texts_rows:PySem.W.recIn K pp_Texts_rows "property"=some (.ref f20::rr_Texts_rows))
  (Sf_Texts:PySem.W.selfFirst K TX=true)
  (mA_Texts___and__:PySem.W.findIn K (.ref TX) "__and__"=some (some (.ref f23)))
  (mF_Texts___and__:PySem.W.isFn K (.ref f23)=true)
  (mA_Texts___or__:PySem.W.findIn K (.ref TX) "__or__"=some (some (.ref f24)))
  (mF_Texts___or__:PySem.W.isFn K (.ref f24)=true)
  (mA_Texts___sub__:PySem.W.findIn K (.ref TX) "__sub__"=some (some (.ref f25)))
  (mF_Texts___sub__:PySem.W.isFn K (.ref f25)=true)
  (mA_Texts___xor__:PySem.W.findIn K (.ref TX) "__xor__"=some (some (.ref f26)))
  (mF_Texts___xor__:PySem.W.isFn K (.ref f26)=true)
  (mA_Texts___invert__:PySem.W.findIn K (.ref TX) "__invert__"=some (some (.ref f27)))
  (mF_Texts___invert__:PySem.W.isFn K (.ref f27)=true)
  (mA_Texts___floordiv__:PySem.W.findIn K (.ref TX) "__floordiv__"=some (some (.ref f15)))
  (mF_Texts___floordiv__:PySem.W.isFn K (.ref f15)=true)
  (l13:K.lookup f13=some ⟨oc13,od13,.func (PySem.W.fnOf "__init__" "Texts.__init__" (defArgs bT) (defBody bT) (defScope bT) .none kV13 dc13 pm13 an13 cd13 ct13),sl13⟩)
  (c13:PySem.W.codeIn K cd13 "Texts.__init__"=true)
  (k13:PySem.W.keepIn K (.ref f13)=true)
  (l14:K.lookup f14=some ⟨oc14,od14,.func (PySem.W.fnOf "of" "Texts.of" (defArgs iH) (defBody iH) (defScope iH) .none kV14 dc14 pm14 an14 cd14 ct14),sl14⟩)
  (c14:PySem.W.codeIn K cd14 "Texts.of"=true)
  (k14:PySem.W.keepIn K (.ref f14)=true)
  (l15:K.lookup f15=some ⟨oc15,od15,.func (PySem.W.fnOf "__floordiv__" "Texts.__floordiv__" (defArgs bF) (defBody bF) (defScope bF) .none kV15 dc15 pm15 an15 cd15 ct15),sl15⟩)
  (c15:PySem.W.codeIn K cd15 "Texts.__floordiv__"=true)
  (k15:PySem.W.keepIn K (.ref f15)=true)
  (l19:K.lookup f19=some ⟨oc19,od19,.func (PySem.W.fnOf "words" "Texts.words" (defArgs dG) (defBody dG) (defScope dG) .none kV19 dc19 pm19 an19 cd19 ct19),sl19⟩)
  (c19:PySem.W.codeIn K cd19 "Texts.words"=true)
  (k19:PySem.W.keepIn K (.ref f19)=true)
  (l20:K.lookup f20=some ⟨oc20,od20,.func (PySem.W.fnOf "rows" "Texts.rows" (defArgs eU) (defBody eU) (defScope eU) .none kV20 dc20 pm20 an20 cd20 ct20),sl20⟩)
  (c20:PySem.W.codeIn K cd20 "Texts.rows"=true)
  (k20:PySem.W.keepIn K (.ref f20)=true)
  (l22:K.lookup f22=some ⟨oc22,od22,.func (PySem.W.fnOf "only" "Texts.only" (defArgs eV) (defBody eV) (defScope eV) .none kV22 dc22 pm22 an22 cd22 ct22),sl22⟩)
  (c22:PySem.W.codeIn K cd22 "Texts.only"=true)
  (k22:PySem.W.keepIn K (.ref f22)=true)
  (l23:K.lookup f23=some ⟨oc23,od23,.func (PySem.W.fnOf "__and__" "Texts.__and__" (defArgs cC) (defBody cC) (defScope cC) .none kV23 dc23 pm23 an23 cd23 ct23),sl23⟩)
  (c23:PySem.W.codeIn K cd23 "Texts.__and__"=true)
  (k23:PySem.W.keepIn K (.ref f23)=true)
  (l24:K.lookup f24=some ⟨oc24,od24,.func (PySem.W.fnOf "__or__" "Texts.__or__" (defArgs cR) (defBody cR) (defScope cR) .none kV24 dc24 pm24 an24 cd24 ct24),sl24⟩)
  (c24:PySem.W.codeIn K cd24 "Texts.__or__"=true)
  (k24:PySem.W.keepIn K (.ref f24)=true)
  (l25:K.lookup f25=some ⟨oc25,od25,.func (PySem.W.fnOf "__sub__" "Texts.__sub__" (defArgs cA) (defBody cA) (defScope cA) .none kV25 dc25 pm25 an25 cd25 ct25),sl25⟩)
  (c25:PySem.W.codeIn K cd25 "Texts.__sub__"=true)
  (k25:PySem.W.keepIn K (.ref f25)=true)
  (l26:K.lookup f26=some ⟨oc26,od26,.func (PySem.W.fnOf "__xor__" "Texts.__xor__" (defArgs bZ) (defBody bZ) (defScope bZ) .none kV26 dc26 pm26 an26 cd26 ct26),sl26⟩)
  (c26:PySem.W.codeIn K cd26 "Texts.__xor__"=true)
  (k26:PySem.W.keepIn K (.ref f26)=true)
  (l27:K.lookup f27=some ⟨oc27,od27,.func (PySem.W.fnOf "__invert__" "Texts.__invert__" (defArgs bK) (defBody bK) (defScope bK) .none kV27 dc27 pm27 an27 cd27 ct27),sl27⟩)
  (c27:PySem.W.codeIn K cd27 "Texts.__invert__"=true)
  (k27:PySem.W.keepIn K (.ref f27)=true)
  (eA_WE:PySem.W.nsIn K mainGlobals "WideError"=some (some (.ref WE)))
  (eI_WE:PySem.W.findIn K (.ref WE) "__init__"=some (some (.ref fE_WideError___init__)))
  (lE_WideError___init__:K.lookup fE_WideError___init__=some ⟨ocE_WideError___init__,odE_WideError___init__,.func (PySem.W.fnOf "__init__" "WideError.__init__" (defArgs aV) (defBody aV) (defScope aV) (.ref TIE_WideError___init__) kVE_WideError___init__ dcE_WideError___init__ pmE_WideError___init__ anE_WideError___init__ cdE_WideError___init__ ctE_WideError___init__),slE_WideError___init__⟩)
  (cE_WideError___init__:PySem.W.codeIn K cdE_WideError___init__ "WideError.__init__"=true)
  (kE_WideError___init__:PySem.W.keepIn K (.ref fE_WideError___init__)=true)
  (lTE_WideError___init__:K.lookup TIE_WideError___init__=some ⟨ocTE_WideError___init__,odTE_WideError___init__,.seq #[dIE_WideError___init__] nTE_WideError___init__,slTE_WideError___init__⟩)
  (eT_E_WideError___init__:PySem.W.typeIn K (.ref fE_WideError___init__)=some (.type "function"))
  (eL_WE:K.lookup WE=some (excClassObj enm_WE eq_WE WE eN_WE ebs_WE ebm_WE true esn_WE esub_WE eab_WE ecol_WE edd_WE ek0_WE ek1_WE ek2_WE ek3_WE ek5_WE "ValueError.__new__"))
  (eR_WE:PySem.HandSPX.refsVE ebm_WE=true)
  (eS_WE:PySem.W.findIn K (.ref WE) "__setattr__"=some (some (.builtin "object.__setattr__")))
  (eX_WE:PySem.W.subIn K (.ref WE) (.type "BaseException")=some true)
  (eY_WE:PySem.W.typeIn K (.ref WE)=some (.type "type"))
  (eK_WE:PySem.W.keepIn K (.ref WE)=true)
  (eN_value_WE:PySem.W.findIn K (.ref WE) "value"=some none)
  (eG_WE:PySem.W.findIn K (.ref WE) "__getattribute__"=some (some (.builtin "BaseException.__getattribute__")))
  (eH_WE:PySem.W.findIn K (.ref WE) "__getattr__"=some none)
  (eD_WE:PySem.W.hasDictIn K WE=true)
  (eM_WE:PySem.W.subIn K (.ref WE) (.ref WE)=some true)
  (eA_TM:PySem.W.nsIn K mainGlobals "TooMany"=some (some (.ref TM)))
  (eI_TM:PySem.W.findIn K (.ref TM) "__init__"=some (some (.ref fE_TooMany___init__)))
  (lE_TooMany___init__:K.lookup fE_TooMany___init__=some ⟨ocE_TooMany___init__,odE_TooMany___init__,.func (PySem.W.ksFn "__init__" "TooMany.__init__" (defArgs bB) (defBody bB) (defScope bB) (.ref TIE_TooMany___init__) kVE_TooMany___init__ dcE_TooMany___init__ pmE_TooMany___init__ anE_TooMany___init__ (.ref cdaE_TooMany___init__) ctE_TooMany___init__ ccE_TooMany___init__),slE_TooMany___init__⟩)
  (cE_TooMany___init__:PySem.W.codeIn K (.ref cdaE_TooMany___init__) "TooMany.__init__"=true)
  (shE_TooMany___init__:K.lookup cdaE_TooMany___init__=some ⟨cclE_TooMany___init__,cddE_TooMany___init__,.fields vscE_TooMany___init__,ccsE_TooMany___init__⟩)
  (svE_TooMany___init__:vscE_TooMany___init__[2]? =some (.str fileE_TooMany___init__ tfE_TooMany___init__))
  (sfE_TooMany___init__:((l.prog.main.file:Str)==fileE_TooMany___init__)=true)
  (scE_TooMany___init__:K.lookup ccE_TooMany___init__=some ⟨clE_TooMany___init__,cldE_TooMany___init__,.cell (some (.ref TM)),cslE_TooMany___init__⟩)
  (sCE_TooMany___init__:PySem.W.clsIn K TM=some cdCE_TooMany___init__)
  (smE_TooMany___init__:PySem.W.mroIn K TM (.ref TM)=some true)
  (sop:PySem.W.nsIn K cStatics "thirdparty.any"=some none)
  (ssu:PySem.W.nsIn K mainGlobals "super"=some none)
  (stop:(l.prog.main.scope.names.lookup ("super" :Str)).isSome=false)
  (ssE_TooMany___init__:PySem.W.ks_superIn K TM TM "__init__"=some (some (.ref fE_WideError___init__)))
  (sn:PySem.W.fnIn K fE_WideError___init__=true)
  (lTE_TooMany___init__:K.lookup TIE_TooMany___init__=some ⟨ocTE_TooMany___init__,odTE_TooMany___init__,.seq #[dIE_TooMany___init__] nTE_TooMany___init__,slTE_TooMany___init__⟩)
  (eT_E_TooMany___init__:PySem.W.typeIn K (.ref fE_TooMany___init__)=some (.type "function"))
  (eL_TM:K.lookup TM=some (excClassObj enm_TM eq_TM TM eN_TM ebs_TM ebm_TM true esn_TM esub_TM eab_TM ecol_TM edd_TM ek0_TM ek1_TM ek2_TM ek3_TM ek5_TM "ValueError.__new__"))
  (eR_TM:PySem.HandSPX.refsVE ebm_TM=true)
  (eS_TM:PySem.W.findIn K (.ref TM) "__setattr__"=some (some (.builtin "object.__setattr__")))
  (eX_TM:PySem.W.subIn K (.ref TM) (.type "BaseException")=some true)
  (eY_TM:PySem.W.typeIn K (.ref TM)=some (.type "type"))
  (eK_TM:PySem.W.keepIn K (.ref TM)=true)
  (eN_value_TM:PySem.W.findIn K (.ref TM) "value"=some none)
  (eN_most_TM:PySem.W.findIn K (.ref TM) "most"=some none)
  (eG_TM:PySem.W.findIn K (.ref TM) "__getattribute__"=some (some (.builtin "BaseException.__getattribute__")))
  (eH_TM:PySem.W.findIn K (.ref TM) "__getattr__"=some none)
  (eD_TM:PySem.W.hasDictIn K TM=true)
  (eM_TM:PySem.W.subIn K (.ref TM) (.ref TM)=some true)
  (eJa_TM:PySem.W.findIn K (.ref TM) "__class__"=some (some (.builtin "object.__class__")))
  (eJm_TM:PySem.W.mroIn K TM (.type "object")=some true)
  (sWE:PySem.W.subIn K (.ref TM) (.ref WE)=some true)
  (rh0:PySem.W.findIn K (.ref TX) "__rfloordiv__"=some none)
  (tt1:PySem.W.findIn K (.type "tuple") "__floordiv__"=some none)
  (tt2:PySem.W.findIn K (.type "tuple") "__rfloordiv__"=some none)
  (tt3:PySem.W.subIn K (.type "tuple") (.ref TX)=some false)
  (neTT:¬TC=TR)
  :∃(cs:DL.Mks) (sp:SpA),DL.aA8 l w K 44 sp cs mg fa h∧∀(ns:List Int) (Q:D→Lp→Prop) (R:Value→List (Str×D)→Lp→Prop),Q (.bl true) (DL.L00 cs)→sp [.ilst ns] (DL.L00 cs) Q R:=by
 have e:=hfa.symm.trans (PySem.W.mg_of X G a37)
 cases e
 have tE:∀p∈([(cT_TC,TC,crN),(cT_TR,TR,lwN)]:DL.Mks),h.get? p.2.1=some {cls:= .none,data:= .fields #[]}:=fun p hp=>by
  simp only [List.mem_cons,List.not_mem_nil,or_false] at hp
  rcases hp with rfl | rfl
  ·exact tE_TC
  ·exact tE_TR
 have tN:∀p∈([(cT_TC,TC,crN),(cT_TR,TR,lwN)]:DL.Mks),K.lookup p.2.1=none:=fun p hp=>by
  simp only [List.mem_cons,List.not_mem_nil,or_false] at hp
  rcases hp with rfl | rfl
  ·exact tN_TC
  ·exact tN_TR
 have tC:∀p∈([(cT_TC,TC,crN),(cT_TR,TR,lwN)]:DL.Mks),PySem.W.CodeHd h p.1 p.2.1:=fun p hp=>by
  simp only [List.mem_cons,List.not_mem_nil,or_false] at hp
  rcases hp with rfl | rfl
  ·exact PySem.W.codeHd_of_K X tH_TC
  ·exact PySem.W.codeHd_of_K X tH_TR
 refine ⟨[(cT_TC,TC,crN),(cT_TR,TR,lwN)],sp_law TC TR,⟨tE,tN,tC,?_⟩,fun ns Q R q=>⟨ns,rfl,(by simp [DL.L00,neTT]),(by simp [DL.L00,neTT]),q⟩⟩
 intro base _ _ hsy hTB
 have B:Bl mg:=⟨PySem.W.mg_none_of X G z_tuple,PySem.W.mg_none_of X G z_list,PySem.W.mg_none_of X G z_len,PySem.W.mg_none_of X G z_any,PySem.W.mg_none_of X G z_all,PySem.W.mg_none_of X G z_range,PySem.W.mg_none_of X G z_zip,PySem.W.mg_none_of X G z_isinstance,PySem.W.mg_none_of X G z_str,PySem.W.mg_none_of X G z_sorted,PySem.W.mg_none_of X G z_set,PySem.W.mg_none_of X G z_dict,PySem.W.mg_none_of X G z_max,PySem.W.mg_none_of X G z_min,PySem.W.mg_none_of X G z_abs,PySem.W.mg_none_of X G z_int,PySem.W.mg_none_of X G z_bool,PySem.W.mg_none_of X G z_sum,PySem.W.mg_none_of X G z_repr,PySem.W.mg_none_of X G z_enumerate⟩
 have g_MOST_LETTERS:GI mg "MOST_LETTERS" 8:=⟨_,PySem.W.mg_of X G n_MOST_LETTERS⟩
 have g_LETTERS:GS mg "LETTERS" "abcdefghijklmnopqrstuvwxyz" :=⟨_,PySem.W.mg_of X G n_LETTERS⟩
 have g_MOST_WORDS:GI mg "MOST_WORDS" 20:=⟨_,PySem.W.mg_of X G n_MOST_WORDS⟩
 have g_MOST_STATES:GI mg "MOST_STATES" 100:=⟨_,PySem.W.mg_of X G n_MOST_STATES⟩
 have FE_WideError___init__:FunX K "__init__" "WideError.__init__" aV fE_WideError___init__ _:=⟨⟨_,_,_,_,_,_,_,_,_,_,rfl,lE_WideError___init__,cE_WideError___init__⟩,kE_WideError___init__⟩
 have bE_WideError___init__:Binds K (PySem.W.fnOf "__init__" "WideError.__init__" (defArgs aV) (defBody aV) (defScope aV) (.ref TIE_WideError___init__) kVE_WideError___init__ dcE_WideError___init__ pmE_WideError___init__ anE_WideError___init__ cdE_WideError___init__ ctE_WideError___init__) ["self","value"] []:=binds_d lTE_WideError___init__ rfl fun us hl=>match us,hl with | [_,_],_=>⟨_,rfl,rfl⟩
 have eWE:ErX l.prog w K mg base "WideError" WE 1 ["value"]:=er_we (fn_we FE_WideError___init__ sc_WideError___init__ rfl (by decide) (by decide)) bE_WideError___init__ ⟨⟨_,_,_,_,_,_,_,_,_,_,_,_,_,_,_,eL_WE,eR_WE⟩,eS_WE,eX_WE,eY_WE,eK_WE⟩ (PySem.W.mg_of X G eA_WE) eI_WE eT_E_WideError___init__ eN_value_WE ⟨eG_WE,eH_WE,eX_WE,eD_WE⟩ (PySem.W.exm_ref eX_WE eD_WE eY_WE eM_WE)
 have bE_TooMany___init__:Binds K (PySem.W.ksFn "__init__" "TooMany.__init__" (defArgs bB) (defBody bB) (defScope bB) (.ref TIE_TooMany___init__) kVE_TooMany___init__ dcE_TooMany___init__ pmE_TooMany___init__ anE_TooMany___init__ (.ref cdaE_TooMany___init__) ctE_TooMany___init__ ccE_TooMany___init__) ["self","most"] []:=binds_d lTE_TooMany___init__ rfl fun us hl=>match us,hl with | [_,_],_=>⟨_,rfl,rfl⟩
 have FSE_TooMany___init__:FnOk l.prog w K mg base (L2.CX l.prog w) 3 fE_TooMany___init__ _ ["self","most"] (aAY K TM "most"):=fn_su (body:=defBody bB) rfl lE_TooMany___init__ cE_TooMany___init__ ⟨rfl,rfl,rfl,rfl,rfl,rfl,rfl,by decide+kernel,by decide+kernel,by decide,by decide,by decide⟩ rfl rfl shE_TooMany___init__ svE_TooMany___init__ sfE_TooMany___init__ scE_TooMany___init__ sCE_TooMany___init__ smE_TooMany___init__ sop ssE_TooMany___init__ eT_E_WideError___init__ sn stop (PySem.W.mg_none_of X G ssu) (fn_we FE_WideError___init__ sc_WideError___init__ rfl (by decide) (by decide)) bE_WideError___init__ ⟨⟨_,_,_,_,_,_,_,_,_,_,_,_,_,_,_,eL_TM,eR_TM⟩,eS_TM,eX_TM,eY_TM,eK_TM⟩ (fun _=>rfl) eN_value_TM eN_most_TM
 have eTM:ErX l.prog w K mg base "TooMany" TM 3 ["most","value"]:=er_su FSE_TooMany___init__ bE_TooMany___init__ ⟨⟨_,_,_,_,_,_,_,_,_,_,_,_,_,_,_,eL_TM,eR_TM⟩,eS_TM,eX_TM,eY_TM,eK_TM⟩ (PySem.W.mg_of X G eA_TM) eI_TM eT_E_TooMany___init__ eN_value_TM eN_most_TM ⟨eG_TM,eH_TM,eX_TM,eD_TM⟩ (PySem.W.exm_ref eX_TM eD_TM eY_TM eM_TM)
 have tc:TxC K TX p_Texts_own_words p_Texts_own_rows:=⟨⟨Pg_Texts,Ic_Texts,Po_Texts,Sa_Texts⟩,⟨sA_Texts_own_words,sG_Texts_own_words,sT_Texts_own_words,sY_Texts_own_words,sI_Texts_own_words,by decide⟩,⟨sA_Texts_own_rows,sG_Texts_own_rows,sT_Texts_own_rows,sY_Texts_own_rows,sI_Texts_own_rows,by decide⟩⟩
 have EM:ErM l.prog w K mg base TM WE:=⟨eTM,PySem.W.mg_of X G eA_WE,PySem.W.exm_ref eX_WE eD_WE eY_WE sWE,⟨⟨eG_TM,eH_TM,eX_TM,eD_TM⟩,⟨eJa_TM,Jn,Jt,eJm_TM⟩⟩⟩
 have F0:=fun_mk (st:=eE) l0 c0 k0
 have b0:=F0.binds (ps:= ["value","least","most"]) fun _ _ _ _ _ _ us hl=>match us,hl with | [_,_,_],_=>rfl
 have d_is_integer:Def l.prog w K mg base "is_integer" 1 jT:=⟨f0,PySem.W.mg_of X G a0,k0,ok_is_integer F0 b0 B⟩
 have F1:=fun_mk (st:=jJ) l1 c1 k1
 have b1:=F1.binds (ps:= ["value"]) fun _ _ _ _ _ _ us hl=>match us,hl with | [_],_=>rfl
 have d_is_word:Def l.prog w K mg base "is_word" 1 oR:=⟨f1,PySem.W.mg_of X G a1,k1,ok_is_word F1 b1 B g_MOST_LETTERS g_LETTERS⟩
 have F2:=fun_mk (st:=jK) l2 c2 k2
 have b2:=F2.binds (ps:= ["value"]) fun _ _ _ _ _ _ us hl=>match us,hl with | [_],_=>rfl
 have d_is_text:Def l.prog w K mg base "is_text" 2 jD:=⟨f2,PySem.W.mg_of X G a2,k2,ok_is_text F2 b2 B d_is_word⟩
 have F3:=fun_mk (st:=fQ) l3 c3 k3
 have b3:=F3.binds (ps:= ["values"]) fun _ _ _ _ _ _ us hl=>match us,hl with | [_],_=>rfl
 have d_is_rising:Def l.prog w K mg base "is_rising" 1 lG:=⟨f3,PySem.W.mg_of X G a3,k3,ok_is_rising F3 b3 B⟩
 have F4:=fun_mk (st:=iD) l4 c4 k4
 have b4:=F4.binds (ps:= ["value","most"]) fun _ _ _ _ _ _ us hl=>match us,hl with | [_,_],_=>rfl
 have d_is_words:Def l.prog w K mg base "is_words" 3 mJ:=⟨f4,PySem.W.mg_of X G a4,k4,ok_is_words F4 b4 B d_is_text d_is_rising⟩
 have F5:=fun_mk (st:=lU) l5 c5 k5
 have b5:=F5.binds (ps:= ["row","many","count"]) fun _ _ _ _ _ _ us hl=>match us,hl with | [_,_,_],_=>rfl
 have d_is_row:Def l.prog w K mg base "is_row" 2 qP:=⟨f5,PySem.W.mg_of X G a5,k5,ok_is_row F5 b5 B d_is_integer⟩
 have F6:=fun_mk (st:=jL) l6 c6 k6
 have b6:=F6.binds (ps:= ["rows","many","most"]) fun _ _ _ _ _ _ us hl=>match us,hl with | [_,_,_],_=>rfl
 have d_is_rows:Def l.prog w K mg base "is_rows" 3 oU:=⟨f6,PySem.W.mg_of X G a6,k6,ok_is_rows F6 b6 B d_is_row⟩
 have F7:=fun_mk (st:=fV) l7 c7 k7
 have b7:=F7.binds (ps:= ["words","word"]) fun _ _ _ _ _ _ us hl=>match us,hl with | [_,_],_=>rfl
 have d_column_of:Def l.prog w K mg base "column_of" 1 iY:=⟨f7,PySem.W.mg_of X G a7,k7,ok_column_of F7 b7⟩
 have F8:=fun_mk (st:=jM) l8 c8 k8
 have b8:=F8.binds (ps:= ["row","column"]) fun _ _ _ _ _ _ us hl=>match us,hl with | [_,_],_=>rfl
 have d_goal_of:Def l.prog w K mg base "goal_of" 1 jE:=⟨f8,PySem.W.mg_of X G a8,k8,ok_goal_of F8 b8⟩
 have F9:=fun_mk (st:=cO) l9 c9 k9
 have b9:=F9.binds (ps:= ["words","rows","text"]) fun _ _ _ _ _ _ us hl=>match us,hl with | [_,_,_],_=>rfl
 have d_state_behind:Def l.prog w K mg base "state_behind" 2 iK:=⟨f9,PySem.W.mg_of X G a9,k9,ok_state_behind F9 b9 d_column_of d_goal_of⟩
 have F10:=fun_mk (st:=jH) l10 c10 k10
 have b10:=F10.binds (ps:= ["columns","rows","first"]) fun _ _ _ _ _ _ us hl=>match us,hl with | [_,_,_],_=>rfl
 have d_reached:Def l.prog w K mg base "reached" 2 oO:=⟨f10,PySem.W.mg_of X G a10,k10,ok_reached F10 b10 B d_goal_of⟩
 have F11:=fun_mk (st:=fW) l11 c11 k11
 have b11:=F11.binds (ps:= ["rows"]) fun _ _ _ _ _ _ us hl=>match us,hl with | [_],_=>rfl
 have d_blocks_of:Def l.prog w K mg base "blocks_of" 1 lJ:=⟨f11,PySem.W.mg_of X G a11,k11,ok_blocks_of F11 b11 B⟩
 have F12:=fun_mk (st:=bY) l12 c12 k12
 have b12:=F12.binds (ps:= ["words","rows","first"]) fun _ _ _ _ _ _ us hl=>match us,hl with | [_,_,_],_=>rfl
 have d_least_machine:Def l.prog w K mg base "least_machine" 3 cI:=⟨f12,PySem.W.mg_of X G a12,k12,ok_least_machine F12 b12 B d_reached d_blocks_of⟩
 have F13:=fun_mk (st:=bT) l13 c13 k13
 have b13:=F13.binds (ps:= ["self","words","rows"]) fun _ _ _ _ _ _ us hl=>match us,hl with | [_,_,_],_=>rfl
 have m13:FnA l.prog w K mg base 1 f13 (dD TX):=ok_Texts_init F13 b13 tc
 have F14:=fun_mk (st:=iH) l14 c14 k14
 have b14:=F14.binds (ps:= ["cls","words","rows"]) fun _ _ _ _ _ _ us hl=>match us,hl with | [_,_,_],_=>rfl
 have m14:FnA l.prog w K mg base 4 f14 (mK TX):=ok_Texts_of F14 b14 B ⟨mM_Texts___init__,mA_Texts___init__,mF_Texts___init__,mK_Texts___init__⟩ m13 g_MOST_WORDS g_MOST_STATES d_is_words d_is_rows d_least_machine
 have F15:=fun_mk (st:=bF) l15 c15 k15
 have b15:=F15.binds (ps:= ["self","other"]) fun _ _ _ _ _ _ us hl=>match us,hl with | [_,_],_=>rfl
 have m15:FnA l.prog w K mg base 4 f15 (jV TX):=ok_Texts_fdiv F15 b15 B tc ⟨mM_Texts___init__,mA_Texts___init__,mF_Texts___init__,mK_Texts___init__⟩ (PySem.W.mg_of X G A_Texts) m13 d_is_text d_state_behind d_least_machine
 have F16:=fun_mk (st:=fU) l16 c16 k16
 have b16:=F16.binds (ps:= ["name","one","other"]) fun _ _ _ _ _ _ us hl=>match us,hl with | [_,_,_],_=>rfl
 have d_is_either:Def l.prog w K mg base "is_either" 1 lH:=⟨f16,PySem.W.mg_of X G a16,k16,ok_is_either F16 b16⟩
 have F17:=fun_mk (st:=cP) l17 c17 k17
 have b17:=F17.binds (ps:= ["name","one","other"]) fun _ _ _ _ _ _ us hl=>match us,hl with | [_,_,_],_=>rfl
 have d_side_by_side:Def l.prog w K mg base "side_by_side" 2 vQ:=⟨f17,PySem.W.mg_of X G a17,k17,ok_side F17 b17 B d_column_of d_goal_of d_is_either⟩
 have F18:=fun_mk (st:=jG) l18 c18 k18
 have b18:=F18.binds (ps:= ["words","rows"]) fun _ _ _ _ _ _ us hl=>match us,hl with | [_,_],_=>rfl
 have d_settled:Def l.prog w K mg base "settled" 5 (lQ TX TM):=⟨f18,PySem.W.mg_of X G a18,k18,ok_settled F18 b18 B ⟨mM_Texts___init__,mA_Texts___init__,mF_Texts___init__,mK_Texts___init__⟩ (PySem.W.mg_of X G A_Texts) m13 eTM g_MOST_STATES d_least_machine⟩
 have F19:=fun_mk (st:=dG) l19 c19 k19
 have b19:=F19.binds (ps:= ["self"]) fun _ _ _ _ _ _ us hl=>match us,hl with | [_],_=>rfl
 have m19:FnA l.prog w K mg base 1 f19 (jC TX):=ok_Texts_words F19 b19 tc
 have F20:=fun_mk (st:=eU) l20 c20 k20
 have b20:=F20.binds (ps:= ["self"]) fun _ _ _ _ _ _ us hl=>match us,hl with | [_],_=>rfl
 have m20:FnA l.prog w K mg base 1 f20 (fJ TX):=ok_Texts_rows F20 b20 tc
 have F21:=fun_mk (st:=iG) l21 c21 k21
 have b21:=F21.binds (ps:= ["name","one","other"]) fun _ _ _ _ _ _ us hl=>match us,hl with | [_,_,_],_=>rfl
 have d_combined:Def l.prog w K mg base "combined" 6 (fP TX TM):=⟨f21,PySem.W.mg_of X G a21,k21,ok_combined F21 b21 tc ⟨mA_Texts_words,mG_Texts_words,mT_Texts_words,_,mR_Texts_words⟩ m19 ⟨mA_Texts_rows,mG_Texts_rows,mT_Texts_rows,_,mR_Texts_rows⟩ m20 d_side_by_side d_settled⟩
 have F22:=fun_mk (st:=eV) l22 c22 k22
 have b22:=Fun.bindsS F22 (ps:= ["cls"]) (pv:="texts") fun _ _ _ _ _ _=>bindsS1 (fun _=>rfl) (fun _ _ _=>by unfold bindArgs;rfl)
 have m22:FnA l.prog w K mg base 7 f22 (spS 1 (jU TX TM)):=ok_Texts_only F22 b22 B d_is_text d_settled
 have F23:=fun_mk (st:=cC) l23 c23 k23
 have b23:=F23.binds (ps:= ["self","other"]) fun _ _ _ _ _ _ us hl=>match us,hl with | [_,_],_=>rfl
 have m23:FnA l.prog w K mg base 7 f23 (bH TX TM "and"):=ok_Texts_and F23 b23 B tc ⟨Ja_Texts,Jn,Jt,Jm_Texts⟩ (PySem.W.mg_of X G A_Texts) d_combined
 have F24:=fun_mk (st:=cR) l24 c24 k24
 have b24:=F24.binds (ps:= ["self","other"]) fun _ _ _ _ _ _ us hl=>match us,hl with | [_,_],_=>rfl
 have m24:FnA l.prog w K mg base 7 f24 (bH TX TM "or"):=ok_Texts_or F24 b24 B tc ⟨Ja_Texts,Jn,Jt,Jm_Texts⟩ (PySem.W.mg_of X G A_Texts) d_combined
 have F25:=fun_mk (st:=cA) l25 c25 k25
 have b25:=F25.binds (ps:= ["self","other"]) fun _ _ _ _ _ _ us hl=>match us,hl with | [_,_],_=>rfl
 have m25:FnA l.prog w K mg base 7 f25 (bH TX TM "minus"):=ok_Texts_sub F25 b25 B tc ⟨Ja_Texts,Jn,Jt,Jm_Texts⟩ (PySem.W.mg_of X G A_Texts) d_combined
 have F26:=fun_mk (st:=bZ) l26 c26 k26
 have b26:=F26.binds (ps:= ["self","other"]) fun _ _ _ _ _ _ us hl=>match us,hl with | [_,_],_=>rfl
 have m26:FnA l.prog w K mg base 7 f26 (bH TX TM "xor"):=ok_Texts_xor F26 b26 B tc ⟨Ja_Texts,Jn,Jt,Jm_Texts⟩ (PySem.W.mg_of X G A_Texts) d_combined
 have F27:=fun_mk (st:=bK) l27 c27 k27
 have b27:=F27.binds (ps:= ["self"]) fun _ _ _ _ _ _ us hl=>match us,hl with | [_],_=>rfl
 have m27:FnA l.prog w K mg base 3 f27 (iQ TX):=ok_Texts_invert F27 b27 B tc ⟨mM_Texts___init__,mA_Texts___init__,mF_Texts___init__,mK_Texts___init__⟩ (PySem.W.mg_of X G A_Texts) m13
 have TL:TxL l.prog w K mg base TX TM p_Texts_own_words p_Texts_own_rows _ _ _ _ _ _ _ _ _ _ _ _ (.type "type") none:=⟨tc,(PySem.W.mg_of X G A_Texts),⟨cRd_Texts,cGa_Texts⟩,⟨mA_Texts_of,⟨_,mR_Texts_of⟩,mN_Texts_of⟩,m14,⟨mA_Texts_only,⟨_,mR_Texts_only⟩,mN_Texts_only⟩,m22,Sf_Texts,mA_Texts___and__,mF_Texts___and__,m23,mA_Texts___or__,mF_Texts___or__,m24,mA_Texts___sub__,mF_Texts___sub__,m25,mA_Texts___xor__,mF_Texts___xor__,m26,mA_Texts___invert__,mF_Texts___invert__,m27,mA_Texts___floordiv__,mF_Texts___floordiv__,m15,rh0,.inl rfl,tt1,tt2,tt3,⟨mA_Texts_rows,mG_Texts_rows,mT_Texts_rows,_,mR_Texts_rows⟩,m20⟩
 have F28:=fun_mk (st:=eG) l28 c28 k28
 have b28:=F28.binds (ps:= ["_law_script","_law_k"]) fun _ _ _ _ _ _ us hl=>match us,hl with | [_,_],_=>rfl
 have d__law_pot:Def l.prog w K mg base "_law_pot" 1 yN:=⟨f28,PySem.W.mg_of X G a28,k28,ok_pot F28 b28 B⟩
 have F29:=fun_mk (st:=fZ) l29 c29 k29
 have b29:=F29.binds (ps:= ["_law_pot_here","_law_upto"]) fun _ _ _ _ _ _ us hl=>match us,hl with | [_,_],_=>rfl
 have d__law_take:Def l.prog w K mg base "_law_take" 1 mH:=⟨f29,PySem.W.mg_of X G a29,k29,ok_take F29 b29 B⟩
 have F30:=fun_mk (st:=jN) l30 c30 k30
 have b30:=F30.binds (ps:= ["_law_pot_here","_law_some"]) fun _ _ _ _ _ _ us hl=>match us,hl with | [_,_],_=>rfl
 have d__law_of:Def l.prog w K mg base "_law_of" 2 aAm:=⟨f30,PySem.W.mg_of X G a30,k30,ok_of F30 b30 B d__law_take⟩
 have F31:=fun_mk (st:=fX) l31 c31 k31
 have b31:=F31.binds (ps:= ["_law_pot_here"]) fun _ _ _ _ _ _ us hl=>match us,hl with | [_],_=>rfl
 have d__law_word:Def l.prog w K mg base "_law_word" 3 vO:=⟨f31,PySem.W.mg_of X G a31,k31,ok_word F31 b31 B d__law_take d__law_of⟩
 have F32:=fun_mk (st:=eQ) l32 c32 k32
 have b32:=F32.binds (ps:= ["_law_pot_here","_law_many"]) fun _ _ _ _ _ _ us hl=>match us,hl with | [_,_],_=>rfl
 have d__law_names:Def l.prog w K mg base "_law_names" 4 sY:=⟨f32,PySem.W.mg_of X G a32,k32,ok_names F32 b32 B d__law_take d__law_word⟩
 have F33:=fun_mk (st:=fY) l33 c33 k33
 have b33:=F33.binds (ps:= ["_law_call"]) fun _ _ _ _ _ _ us hl=>match us,hl with | [_],_=>rfl
 have d__law_told:DefC l.prog w K mg base "_law_told" 41 40 (vP TM):=⟨f33,PySem.W.mg_of X G a33,k33,ok_told F33 b33 EM⟩
 have F34:=fun_mk (st:=gA) l34 c34 k34
 have b34:=F34.binds (ps:= ["_law_call","_law_many"]) fun _ _ _ _ _ _ us hl=>match us,hl with | [_,_],_=>rfl
 have d__law_ends:DefC l.prog w K mg base "_law_ends" 42 40 (qQ TX TM):=⟨f34,PySem.W.mg_of X G a34,k34,ok_ends F34 b34 B EM tc ⟨mA_Texts_rows,mG_Texts_rows,mT_Texts_rows,_,mR_Texts_rows⟩ m20 d__law_told⟩
 have F35:=fun_mk (st:=cQ) l35 c35 k35
 have b35:=F35.binds (ps:= ["_law_word_here","_law_size","_law_rest"]) fun _ _ _ _ _ _ us hl=>match us,hl with | [_,_,_],_=>rfl
 have d__law_counter:Def l.prog w K mg base "_law_counter" 6 (oV TX):=⟨f35,PySem.W.mg_of X G a35,k35,ok_counter F35 b35 B TL⟩
 have F36:=fun_mk (st:=aZ) l36 c36 k36
 have b36:=F36.binds (ps:= ["_law_pot_here","_law_names_here"]) fun _ _ _ _ _ _ us hl=>match us,hl with | [_,_],_=>rfl
 have d__law_counters_right:Def l.prog w K mg base "_law_counters_right" 43 (qR TC):=⟨f36,PySem.W.mg_of X G a36,k36,ok_cright F36 b36 ⟨cT_TC,rfl,hTB (cT_TC,TC,crN) (by simp)⟩ B TL d__law_take d__law_counter d__law_ends⟩
 have FL:=fun_mk (st:=xU) l37 c37 k37
 have bL:=FL.binds (ps:= ["_law_script"]) fun _ _ _ _ _ _ us hl=>match us,hl with | [_],_=>rfl
 exact law_ok FL bL ⟨cT_TR,rfl,hTB (cT_TR,TR,lwN) (by simp)⟩ B TL d__law_pot d__law_names d__law_counters_right d__law_take d__law_ends
theorem walkL {l:PySem.W.OpenLaw} {q:Program} {loose:List Str} {XP:(Str→Option Value)→Heap→Prop} {YP:World→Heap→Prop} {d:DefRec} {K:Params→PySem.W.Frag} (hn:l.most=some 63) (hdf:d.params.defaults= [])
  (hY:∀(w:World) (h:Heap),YP w h→(K w.params).In h)
  (F:∀(w:World) (mg:Str→Option Value) (fa:Addr) (h:Heap),YP w h→(K w.params).In h→h.Ns mainGlobals mg→mg d.name=some (.ref fa)→∃(cs:DL.Mks) (sp:SpA),DL.aA8 l w (K w.params) 44 sp cs mg fa h∧∀(ns:List Int) (Q:D→Lp→Prop) (R:Value→List (Str×D)→Lp→Prop),Q (.bl true) (DL.L00 cs)→sp [.ilst ns] (DL.L00 cs) Q R) (hin:importsNone q=true):
  PySem.W.WalkO q loose XP YP l.row.toRowW d [] (fun f vs=>PySem.call f vs):=
 DL.walk_T (n:=63) (k:=44) hn (by decide) hdf ⟨rfl,by decide,by decide⟩ hY F hin
end K
open PySem PySem.W PyProof.Rows in
set_option maxRecDepth 100000 in
set_option maxHeartbeats 0 in
theorem PySem.Challenge.cw_widenedwords_k26_too_many_states_holds : PySem.Challenge.rw_widenedwords_k26_too_many_states.Holds := by
 w_on;o_law;k_head;(case hw=>w_witness2)
 k_fill
 refine K.walkL (l := PySem.Challenge.rw_widenedwords_k26_too_many_states) rfl rfl (fun w h Y => by first | exact PySem.W.kIn_of Y | exact PySem.W.km_in_of Y) ?F rfl
 case F=>
  intro w mg fa h Y KX G hmg
  refine' K.all_mk KX G hmg ?tI_TC ?tH_TC ?tN_TC ?tE_TC ?tI_TR ?tH_TR ?tN_TR ?tE_TR ?a0 ?l0 ?c0 ?k0 ?a1 ?l1 ?c1 ?k1 ?a2 ?l2 ?c2 ?k2 ?a3 ?l3 ?c3 ?k3 ?a4 ?l4 ?c4 ?k4 ?a5 ?l5 ?c5 ?k5 ?a6 ?l6 ?c6 ?k6 ?a7 ?l7 ?c7 ?k7 ?a8 ?l8 ?c8 ?k8 ?a9 ?l9 ?c9 ?k9 ?a10 ?l10 ?c10 ?k10 ?a11 ?l11 ?c11 ?k11 ?a12 ?l12 ?c12 ?k12 ?a16 ?l16 ?c16 ?k16 ?a17 ?l17 ?c17 ?k17 ?a18 ?l18 ?c18 ?k18 ?a21 ?l21 ?c21 ?k21 ?a28 ?l28 ?c28 ?k28 ?a29 ?l29 ?c29 ?k29 ?a30 ?l30 ?c30 ?k30 ?a31 ?l31 ?c31 ?k31 ?a32 ?l32 ?c32 ?k32 ?a33 ?l33 ?c33 ?k33 ?a34 ?l34 ?c34 ?k34 ?a35 ?l35 ?c35 ?k35 ?a36 ?l36 ?c36 ?k36 ?a37 ?l37 ?c37 ?k37 ?n_MOST_LETTERS ?n_LETTERS ?n_MOST_WORDS ?n_MOST_STATES ?z_tuple ?z_list ?z_len ?z_any ?z_all ?z_range ?z_zip ?z_isinstance ?z_str ?z_sorted ?z_set ?z_dict ?z_max ?z_min ?z_abs ?z_int ?z_bool ?z_sum ?z_repr ?z_enumerate ?A_Texts ?Pg_Texts ?Ic_Texts ?Po_Texts ?Sa_Texts ?sA_Texts_own_rows ?sG_Texts_own_rows ?sT_Texts_own_rows ?sY_Texts_own_rows ?sI_Texts_own_rows ?sA_Texts_own_words ?sG_Texts_own_words ?sT_Texts_own_words ?sY_Texts_own_words ?sI_Texts_own_words ?Ja_Texts ?Jn ?Jt ?Jm_Texts ?mM_Texts___init__ ?mA_Texts___init__ ?mF_Texts___init__ ?mK_Texts___init__ ?cRd_Texts ?cGa_Texts ?mA_Texts_of ?mR_Texts_of ?mN_Texts_of ?mA_Texts_only ?mR_Texts_only ?mN_Texts_only ?mA_Texts_words ?mG_Texts_words ?mT_Texts_words ?mR_Texts_words ?mA_Texts_rows ?mG_Texts_rows ?mT_Texts_rows ?mR_Texts_rows ?Sf_Texts ?mA_Texts___and__ ?mF_Texts___and__ ?mA_Texts___or__ ?mF_Texts___or__ ?mA_Texts___sub__ ?mF_Texts___sub__ ?mA_Texts___xor__ ?mF_Texts___xor__ ?mA_Texts___invert__ ?mF_Texts___invert__ ?mA_Texts___floordiv__ ?mF_Texts___floordiv__ ?l13 ?c13 ?k13 ?l14 ?c14 ?k14 ?l15 ?c15 ?k15 ?l19 ?c19 ?k19 ?l20 ?c20 ?k20 ?l22 ?c22 ?k22 ?l23 ?c23 ?k23 ?l24 ?c24 ?k24 ?l25 ?c25 ?k25 ?l26 ?c26 ?k26 ?l27 ?c27 ?k27 ?eA_WE ?eI_WE ?lE_WideError___init__ ?cE_WideError___init__ ?kE_WideError___init__ ?lTE_WideError___init__ ?eT_E_WideError___init__ ?eL_WE ?eR_WE ?eS_WE ?eX_WE ?eY_WE ?eK_WE ?eN_value_WE ?eG_WE ?eH_WE ?eD_WE ?eM_WE ?eA_TM ?eI_TM ?lE_TooMany___init__ ?cE_TooMany___init__ ?shE_TooMany___init__ ?svE_TooMany___init__ ?sfE_TooMany___init__ ?scE_TooMany___init__ ?sCE_TooMany___init__ ?smE_TooMany___init__ ?sop ?ssu ?stop ?ssE_TooMany___init__ ?sn ?lTE_TooMany___init__ ?eT_E_TooMany___init__ ?eL_TM ?eR_TM ?eS_TM ?eX_TM ?eY_TM ?eK_TM ?eN_value_TM ?eN_most_TM ?eG_TM ?eH_TM ?eD_TM ?eM_TM ?eJa_TM ?eJm_TM ?sWE ?rh0 ?tt1 ?tt2 ?tt3 ?neTT
  (case tI_TC=>(first | k_is | kernel_rfl | rfl | decide+kernel))
  (case tH_TC=>(first | k_is | kernel_rfl | rfl | decide+kernel))
  (case tN_TC=>(first | k_is | kernel_rfl | rfl | decide+kernel))
  (case tE_TC=>exact PySem.W.km_tabs_of Y _ (by k_mem))
  (case tI_TR=>(first | k_is | kernel_rfl | rfl | decide+kernel))
  (case tH_TR=>(first | k_is | kernel_rfl | rfl | decide+kernel))
  (case tN_TR=>(first | k_is | kernel_rfl | rfl | decide+kernel))
  (case tE_TR=>exact PySem.W.km_tabs_of Y _ (.tail _ (.head _)))
  (case a0=>k_is)
  (case l0=>k_is)
  (case c0=>k_is)
  (case k0=>k_is)
  (case a1=>k_is)
  (case l1=>k_is)
  (case c1=>k_is)
  (case k1=>k_is)
  (case a2=>k_is)
  (case l2=>k_is)
  (case c2=>k_is)
  (case k2=>k_is)
  (case a3=>k_is)
  (case l3=>k_is)
  (case c3=>k_is)
  (case k3=>k_is)
  (case a4=>k_is)
  (case l4=>k_is)
  (case c4=>k_is)
  (case k4=>k_is)
  (case a5=>k_is)
  (case l5=>k_is)
  (case c5=>k_is)
  (case k5=>k_is)
  (case a6=>k_is)
  (case l6=>k_is)
  (case c6=>k_is)
  (case k6=>k_is)
  (case a7=>k_is)
  (case l7=>k_is)
  (case c7=>k_is)
  (case k7=>k_is)
  (case a8=>k_is)
  (case l8=>k_is)
  (case c8=>k_is)
  (case k8=>k_is)
  (case a9=>k_is)
  (case l9=>k_is)
  (case c9=>k_is)
  (case k9=>k_is)
  (case a10=>k_is)
  (case l10=>k_is)
  (case c10=>k_is)
  (case k10=>k_is)
  (case a11=>k_is)
  (case l11=>k_is)
  (case c11=>k_is)
  (case k11=>k_is)
  (case a12=>k_is)
  (case l12=>k_is)
  (case c12=>k_is)
  (case k12=>k_is)
  (case a16=>k_is)
  (case l16=>k_is)
  (case c16=>k_is)
  (case k16=>k_is)
  (case a17=>k_is)
  (case l17=>k_is)
  (case c17=>k_is)
  (case k17=>k_is)
  (case a18=>k_is)
  (case l18=>k_is)
  (case c18=>k_is)
  (case k18=>k_is)
  (case a21=>k_is)
  (case l21=>k_is)
  (case c21=>k_is)
  (case k21=>k_is)
  (case a28=>k_is)
  (case l28=>k_is)
  (case c28=>k_is)
  (case k28=>k_is)
  (case a29=>k_is)
  (case l29=>k_is)
  (case c29=>k_is)
  (case k29=>k_is)
  (case a30=>k_is)
  (case l30=>k_is)
  (case c30=>k_is)
  (case k30=>k_is)
  (case a31=>k_is)
  (case l31=>k_is)
  (case c31=>k_is)
  (case k31=>k_is)
  (case a32=>k_is)
  (case l32=>k_is)
  (case c32=>k_is)
  (case k32=>k_is)
  (case a33=>k_is)
  (case l33=>k_is)
  (case c33=>k_is)
  (case k33=>k_is)
  (case a34=>k_is)
  (case l34=>k_is)
  (case c34=>k_is)
  (case k34=>k_is)
  (case a35=>k_is)
  (case l35=>k_is)
  (case c35=>k_is)
  (case k35=>k_is)
  (case a36=>k_is)
  (case l36=>k_is)
  (case c36=>k_is)
  (case k36=>k_is)
  (case a37=>k_is)
  (case l37=>k_is)
  (case c37=>k_is)
  (case k37=>k_is)
  (case n_MOST_LETTERS=>k_is)
  (case n_LETTERS=>k_is)
  (case n_MOST_WORDS=>k_is)
  (case n_MOST_STATES=>k_is)
  (case z_tuple=>k_is)
  (case z_list=>k_is)
  (case z_len=>k_is)
  (case z_any=>k_is)
  (case z_all=>k_is)
  (case z_range=>k_is)
  (case z_zip=>k_is)
  (case z_isinstance=>k_is)
  (case z_str=>k_is)
  (case z_sorted=>k_is)
  (case z_set=>k_is)
  (case z_dict=>k_is)
  (case z_max=>k_is)
  (case z_min=>k_is)
  (case z_abs=>k_is)
  (case z_int=>k_is)
  (case z_bool=>k_is)
  (case z_sum=>k_is)
  (case z_repr=>k_is)
  (case z_enumerate=>k_is)
  (case A_Texts=>k_is)
  (case Pg_Texts=>k_is)
  (case Ic_Texts=>k_is)
  (case Po_Texts=>k_is)
  (case Sa_Texts=>k_is)
  (case sA_Texts_own_rows=>k_is)
  (case sG_Texts_own_rows=>k_is)
  (case sT_Texts_own_rows=>k_is)
  (case sY_Texts_own_rows=>k_is)
  (case sI_Texts_own_rows=>k_is)
  (case sA_Texts_own_words=>k_is)
  (case sG_Texts_own_words=>k_is)
  (case sT_Texts_own_words=>k_is)
  (case sY_Texts_own_words=>k_is)
  (case sI_Texts_own_words=>k_is)
  (case Ja_Texts=>k_is)
  (case Jn=>k_is)
  (case Jt=>k_is)
  (case Jm_Texts=>k_is)
  (case mM_Texts___init__=>k_is)
  (case mA_Texts___init__=>k_is)
  (case mF_Texts___init__=>k_is)
  (case mK_Texts___init__=>k_is)
  (case cRd_Texts=>k_is)
  (case cGa_Texts=>k_is)
  (case mA_Texts_of=>k_is)
  (case mR_Texts_of=>k_is)
  (case mN_Texts_of=>k_is)
  (case mA_Texts_only=>k_is)
  (case mR_Texts_only=>k_is)
  (case mN_Texts_only=>k_is)
  (case mA_Texts_words=>k_is)
  (case mG_Texts_words=>k_is)
  (case mT_Texts_words=>k_is)
  (case mR_Texts_words=>k_is)
  (case mA_Texts_rows=>k_is)
  (case mG_Texts_rows=>k_is)
  (case mT_Texts_rows=>k_is)
  (case mR_Texts_rows=>k_is)
  (case Sf_Texts=>k_is)
  (case mA_Texts___and__=>k_is)
  (case mF_Texts___and__=>k_is)
  (case mA_Texts___or__=>k_is)
  (case mF_Texts___or__=>k_is)
  (case mA_Texts___sub__=>k_is)
  (case mF_Texts___sub__=>k_is)
  (case mA_Texts___xor__=>k_is)
  (case mF_Texts___xor__=>k_is)
  (case mA_Texts___invert__=>k_is)
  (case mF_Texts___invert__=>k_is)
  (case mA_Texts___floordiv__=>k_is)
  (case mF_Texts___floordiv__=>k_is)
  (case l13=>k_is)
  (case c13=>k_is)
  (case k13=>k_is)
  (case l14=>k_is)
  (case c14=>k_is)
  (case k14=>k_is)
  (case l15=>k_is)
  (case c15=>k_is)
  (case k15=>k_is)
  (case l19=>k_is)
  (case c19=>k_is)
  (case k19=>k_is)
  (case l20=>k_is)
  (case c20=>k_is)
  (case k20=>k_is)
  (case l22=>k_is)
  (case c22=>k_is)
  (case k22=>k_is)
  (case l23=>k_is)
  (case c23=>k_is)
  (case k23=>k_is)
  (case l24=>k_is)
  (case c24=>k_is)
  (case k24=>k_is)
  (case l25=>k_is)
  (case c25=>k_is)
  (case k25=>k_is)
  (case l26=>k_is)
  (case c26=>k_is)
  (case k26=>k_is)
  (case l27=>k_is)
  (case c27=>k_is)
  (case k27=>k_is)
  (case eA_WE=>k_is)
  (case eI_WE=>k_is)
  (case lE_WideError___init__=>k_is)
  (case cE_WideError___init__=>k_is)
  (case kE_WideError___init__=>k_is)
  (case lTE_WideError___init__=>k_is)
  (case eT_E_WideError___init__=>k_is)
  (case eL_WE=>k_is)
  (case eR_WE=>rfl)
  (case eS_WE=>k_is)
  (case eX_WE=>k_is)
  (case eY_WE=>k_is)
  (case eK_WE=>k_is)
  (case eN_value_WE=>k_is)
  (case eG_WE=>k_is)
  (case eH_WE=>k_is)
  (case eD_WE=>k_is)
  (case eM_WE=>k_is)
  (case eA_TM=>k_is)
  (case eI_TM=>k_is)
  (case lE_TooMany___init__=>k_is)
  (case cE_TooMany___init__=>k_is)
  (case shE_TooMany___init__=>k_is)
  (case svE_TooMany___init__=>rfl)
  (case sfE_TooMany___init__=>(first | rfl | decide+kernel))
  (case scE_TooMany___init__=>k_is)
  (case sCE_TooMany___init__=>k_is)
  (case smE_TooMany___init__=>k_is)
  (case sop=>k_is)
  (case ssu=>k_is)
  (case stop=>(first | rfl | decide+kernel))
  (case ssE_TooMany___init__=>ks_is)
  (case sn=>k_is)
  (case lTE_TooMany___init__=>k_is)
  (case eT_E_TooMany___init__=>k_is)
  (case eL_TM=>k_is)
  (case eR_TM=>rfl)
  (case eS_TM=>k_is)
  (case eX_TM=>k_is)
  (case eY_TM=>k_is)
  (case eK_TM=>k_is)
  (case eN_value_TM=>k_is)
  (case eN_most_TM=>k_is)
  (case eG_TM=>k_is)
  (case eH_TM=>k_is)
  (case eD_TM=>k_is)
  (case eM_TM=>k_is)
  (case eJa_TM=>k_is)
  (case eJm_TM=>k_is)
  (case sWE=>k_is)
  (case rh0=>k_is)
  (case tt1=>k_is)
  (case tt2=>k_is)
  (case tt3=>k_is)
  (case neTT=>decide)
