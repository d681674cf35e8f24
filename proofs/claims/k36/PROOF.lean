import PyProof.Rows.All
import Wide.All
import OpenK.AllK
import Wide.FinOn
import HandS.ForMost
import HandS.Exc
import HandS.ExcOwn
import HandS.WordsExc
import HandS.CallSlots
import HandS.Slots
import HandS.Set
import KE.KDictKeyed
import HandS.Lambda
import HandS.TupAny
import HandS.IsInst
import HandS.Wide
import HandS.Flow
import HandS.Style
import HandS.More
import HandS.Zip
import KE.SortData
import PyProof.ListStr
import PyProof.StrOps2
import HandS.DictComp
import HandS.TupLen
import KE.KDictSum
import PyProof.Transfer
import HandS.SetFor
import HandS.SetTxt0
import HandS.Strs
import HandS.Star
import HandS.SlotsOwn
import HandS.Defaults
import OpenK.KMeth
import KE.KOpsOwn
import HandS.ExcField
import KE.KFmtOwn
import HandS.Ends
import PyProof.ReprRoads
import KE.KDictWalk
import HandS.SetBool
import HandS.OwnEq
import PyProof.FactsAll.subtypes_4
import PyProof.WalksMore
import KE.KSuper
import OpenK.KDescr
import HandS.ExcInit
import HandS.TryMany
import HandS.ExcValue
import HandS.ExcIs
import PyProof.DictDisplay
import KE.KDictDisplayH
import PyProof.ReprBulk
import PyProof.Rows.ReprShort
import HandS.Conv
import KE.GoesZip
import KE.GoesEnum
import KE.GoesMore
import HandS.ClsMeth
import HandS.RaiseMore
import HandS.Deep
import HandS.Small
import PyProof.Rows.Range3
import HandS.TupSets
import HandS.DictEq
import PyProof.NeKinds
import HandS.Rev
import HandS.TupMul
import HandS.Codes
import PySem.Challenge.RW_widenedwords_k36_comparisons_turned_abou
set_option Elab.async false
set_option linter.all false
set_option maxRecDepth 100000
namespace DL
open PySem PySem.Spec PyProof.Rows L2

inductive D where
 | non | bl (b:Bool) | int (i:Int) | str (x:Str) | ty (n:String) | ptr (a:Addr) | ilst (ns:List Int) | tup (ds:List D)
 /-- an instance of a class with slots,a list,a dict that nobody writes any more -/
 | obj (C:Addr) (fs:List D) | flst (ds:List D) | fdct (kds:List (List Key×D)) | kdct (kds:List (Key×D))
 /-- a tuple of texts that is known to be no more than a tuple -/
 | wds (ys:List Str)
 /-- an instance with a dict of its own that nobody writes any more,by its fields -/
 | iob (C:Addr) (fs:List (Str×D))
 /-- a tuple,maybe one that the module has made -/
 | tk (ds:List D)

structure SOk (x:Str):Prop where
 len:x.length≤sizeLine
 sgn:PyData.strOk x=true
theorem SOk.mem {x:Str} (h:SOk x) {k:Nat} (hk:k∈x.cps.toList):k < 0x110000:=by
 have:=h.sgn
 unfold PyData.strOk at this
 rw [←Array.all_toList,List.all_eq_true] at this
 exact of_decide_eq_true (this k hk)
theorem SOk.of {x:Str} (h:x.length≤sizeLine) (hk:∀k∈x.cps.toList,k < 0x110000):SOk x:=by
 refine ⟨h,?_⟩
 unfold PyData.strOk
 rw [←Array.all_toList,List.all_eq_true]
 exact fun k hh=>decide_eq_true (hk k hh)

def Kl (K:PySem.W.Frag) (a:Addr) (xs:List V):Prop:=
 ∃(o:Obj) (its:Array Value) (n:Nat),K.lookup a=some o∧o.cls= .type "list"∧o.dict=none∧o.data= .seq its n∧its.size≤sizeLine∧Vals xs its.toList

def txOf (e:Int×Value):Str:=match e.2 with | .str k _=>k | _=>Str.empty
def TxE (w:World) (e:Int×Value):Prop:= ∃k tk,e.2=Value.str k tk∧e.1=hashStr w k
def nO (w:World) (h:Heap) (a:Addr) (S:Str→Bool) (n:Nat):Prop:=
 ∃o es ep t,h.get? a=some o∧o.ExactSet∧o.data= .set es ep t∧(∀e∈es.toList,TxE w e)∧(es.toList.map txOf).Nodup∧(∀k,S k=true↔k∈es.toList.map txOf)∧
  es.size < scanBound∧t.fits es.size=true∧es.size=n∧Ris t.place.toList∧(w.params.followText "set-order"=true∨t.led=true)

mutual
def nk:D→NestedKey
 | .non=> .none
 | .bl b=> .num (if b=true then 1 else 0)
 | .int i=> .num i
 | .str x=> .text x
 | .tup ds=> .tup (nks ds)
 | .ty _=> .none
 | .ptr _=> .none
 | .ilst _=> .none
 | .obj _ _=> .none
 | .flst _=> .none
 | .fdct _=> .none
 | .kdct _=> .none
 | .wds _=> .none
 | .iob _ _=> .none
 | .tk ds=> .tup (nks ds)
def nks:List D→List NestedKey
 | []=> []
 | d::ds=>nk d::nks ds
end
mutual
def okN:D→Bool
 | .non=>true
 | .bl _=>true
 | .int _=>true
 | .str _=>true
 | .tup ds=>aAi ds
 | .ty _=>false
 | .ptr _=>false
 | .ilst _=>false
 | .obj _ _=>false
 | .flst _=>false
 | .fdct _=>false
 | .kdct _=>false
 | .wds _=>false
 | .iob _ _=>false
 | .tk ds=>aAi ds
def aAi:List D→Bool
 | []=>true
 | d::ds=>okN d && aAi ds
end
def ndO (P:Program) (w:World) (a:Addr) (xs:List (NestedKey×Addr×Value)):HO:= .ext fun h=>xs.length≤sizeLine∧(a==sysModules)=false∧∃o es ep,h.get? a=some o∧o.ExactDict∧o.data= .dict es ep∧es.toList=xs.map (entryOfKey (nestedKind P w))∧(xs.map (·.1)).Nodup
inductive MO where
 | lst (ds:List D)
 | dct (kds:List (List Key×D))
 | ins (C:Addr) (fs:List (Option D))
 | set (S:Key→Bool) (n:Nat)
 | txs (S:Str→Bool) (n:Nat)
 | kd (kds:List (Key×D))
 /-- a dict whose keys are nested tuples -/
 | nd (kds:List (D×D))
 /-- an instance with a dict of its own -/
 | iin (C:Addr) (fs:List (Str×D))
 /-- a table of code objects that bear the name q -/
 | tab (q:Str)
 /-- an error that was caught,of the class C,by its fields -/
 | exc (C:Addr) (fs:List (Str×D))
abbrev Lp:=Addr→Option MO
def put (L:Lp) (a:Addr) (o:MO):Lp:=fun b=>if b=a then some o else L b
theorem aF {L:Lp} {a:Addr} {o:MO}:put L a o a=some o:=if_pos rfl
theorem aK {L:Lp} {a b:Addr} {o:MO} (h:b≠a):put L a o b=L b:=if_neg h
theorem cI {L:Lp} {a:Addr} {o u:MO}:put (put L a o) a u=put L a u:=by
 funext b
 unfold put
 split <;> rfl
theorem put_comm {L:Lp} {a b:Addr} {o u:MO} (h:a≠b):put (put L a o) b u=put (put L b u) a o:=by
 funext c
 unfold put
 by_cases h1:c=b
 ·rw [if_pos h1,if_neg (fun e=>h (e.symm.trans h1)),if_pos h1]
 ·rw [if_neg h1,if_neg h1]
theorem put_self {L:Lp} {a:Addr} {o:MO} (h:L a=some o):put L a o=L:=by
 funext b
 unfold put
 by_cases e:b=a
 ·rw [if_pos e,e,h]
 ·rw [if_neg e]
theorem aQ {L:Lp} {a b:Addr} {o:MO} (h:L a=some o) (h':L b=none):a≠b:=fun e=>by
 rw [e,h'] at h
 cases h

structure KOk (k:List Key):Prop where
 len:k.length≤sizeLine
 txt:∀x,Sum.inr x∈k→SOk x
abbrev Fz:=Addr→Prop
def TpK (K:PySem.W.Frag) (H:Hp) (a:Addr) (vs:List V):Prop:=H a=some (.tup vs)∨∃(o:Obj) (its:Array Value) (n:Nat),K.lookup a=some o∧o.cls= .type "tuple"∧o.data= .seq its n∧its.size≤sizeLine∧Vals vs its.toList
theorem TpK.sq {K:PySem.W.Frag} {H:Hp} {a:Addr} {vs:List V} (h:TpK K H a vs):SqT K H a vs:=h.elim SqT.of .inr
inductive Rep (K:PySem.W.Frag) (F:Fz) (H:Hp):V→D→Prop where
 | non:Rep K F H .non .non
 | bl (b:Bool):Rep K F H (.bl b) (.bl b)
 | int (i:Int):Rep K F H (.int i) (.int i)
 | str (x:Str) (h:SOk x):Rep K F H (.str x) (.str x)
 | ty (n:String):Rep K F H (.ty n) (.ty n)
 | ptr (a:Addr):Rep K F H (.ref a) (.ptr a)
 | ilst {a:Addr} {ns:List Int} (h:(∃o,H a=some (.frz o (.lst (ns.map V.int))))∨Kl K a (ns.map V.int)):Rep K F H (.ref a) (.ilst ns)
 | tup {a:Addr} {vs:List V} {ds:List D} (h:H a=some (.tup vs)) (hz:vs.length≤sizeLine) (hl:vs.length=ds.length) (hi:∀(i:Nat) (v:V) (d:D),vs[i]? =some v→ds[i]? =some d→Rep K F H v d):Rep K F H (.ref a) (.tup ds)
 | obj {a C dx:Addr} {us:List (Option V)} {vs:List V} {ds:List D} (hl:F a) (h:H a=some (SlX.SlO a C dx us)) (hx:H dx=some (.xd [])) (hu:∀(i:Nat) (v:V),vs[i]? =some v→us[i]? =some (some v)) (hn:vs.length=ds.length) (hi:∀(i:Nat) (v:V) (d:D),vs[i]? =some v→ds[i]? =some d→Rep K F H v d):Rep K F H (.ref a) (.obj C ds)
 | flst {a:Addr} {vs:List V} {ds:List D} (hl:F a) (h:H a=some (.lst vs)) (hz:vs.length≤sizeLine) (hn:vs.length=ds.length) (hi:∀(i:Nat) (v:V) (d:D),vs[i]? =some v→ds[i]? =some d→Rep K F H v d):Rep K F H (.ref a) (.flst ds)
 | fdct {a:Addr} {kvs:List (List Key×V)} {kds:List (List Key×D)} {o:Obj} (hl:F a) (h:H a=some (.frz o (.dT kvs))) (hk:∀q∈kds,KOk q.1) (hn:kvs.length=kds.length) (he:∀(i:Nat) (v:List Key×V) (d:List Key×D),kvs[i]? =some v→kds[i]? =some d→v.1=d.1) (hi:∀(i:Nat) (v:List Key×V) (d:List Key×D),kvs[i]? =some v→kds[i]? =some d→Rep K F H v.2 d.2):Rep K F H (.ref a) (.fdct kds)
 | kdct {a:Addr} {kvs:List (Key×V)} {kds:List (Key×D)} {o:Obj} (hl:F a) (h:H a=some (.frz o (.dK kvs))) (hn:kvs.length=kds.length) (he:∀(i:Nat) (v:Key×V) (d:Key×D),kvs[i]? =some v→kds[i]? =some d→v.1=d.1) (hi:∀(i:Nat) (v:Key×V) (d:Key×D),kvs[i]? =some v→kds[i]? =some d→Rep K F H v.2 d.2):Rep K F H (.ref a) (.kdct kds)
 | wds {a:Addr} {ys:List Str} {o:Obj} (hl:F a) (h:H a=some (.frz o (.tup (ys.map V.str)))) (ho:o.dict=none) (hz:ys.length≤sizeLine) (hs:∀y∈ys,SOk y):Rep K F H (.ref a) (.wds ys)
 | iob {a C dx:Addr} {vfs:List (Str×V)} {fs:List (Str×D)} (hl:F a) (h:H a=some (.ins C dx vfs)) (hn:vfs.length=fs.length) (he:∀(i:Nat) (v:Str×V) (d:Str×D),vfs[i]? =some v→fs[i]? =some d→v.1=d.1) (hi:∀(i:Nat) (v:Str×V) (d:Str×D),vfs[i]? =some v→fs[i]? =some d→Rep K F H v.2 d.2):Rep K F H (.ref a) (.iob C fs)
 | tk {a:Addr} {vs:List V} {ds:List D} (h:TpK K H a vs) (hz:vs.length≤sizeLine) (hl:vs.length=ds.length) (hi:∀(i:Nat) (v:V) (d:D),vs[i]? =some v→ds[i]? =some d→Rep K F H v d):Rep K F H (.ref a) (.tk ds)

structure Stay (H H':Hp):Prop where
 tup:∀a vs,H a=some (.tup vs)→H' a=some (.tup vs)
 frz:∀a o xs,H a=some (.frz o (.lst xs))→H' a=some (.frz o (.lst xs))
 xd:∀a,H a=some (.xd [])→H' a=some (.xd [])
theorem TpK.stay {K:PySem.W.Frag} {H H':Hp} {a:Addr} {vs:List V} (h:TpK K H a vs) (s:Stay H H'):TpK K H' a vs:=h.imp (s.tup _ _) id
theorem Stay.refl (H:Hp):Stay H H:=⟨fun _ _ h=>h,fun _ _ _ h=>h,fun _ h=>h⟩
theorem Stay.trans {H H1 H2:Hp} (a:Stay H H1) (b:Stay H1 H2):Stay H H2:=⟨fun c v h=>b.tup c v (a.tup c v h),fun c o u h=>b.frz c o u (a.frz c o u h),fun c h=>b.xd c (a.xd c h)⟩

structure Fr (L:Lp) (F:Fz) (H:Hp) (L':Lp) (F':Fz) (H':Hp):Prop where
 keep:∀a o,H a=some o→(∀y,o≠ .own y)→L a=none→H' a=some o
 live:∀a,H a≠none→H' a≠none
 stay:Stay H H'
 dom:∀a,L' a≠none→L a≠none∨H a=none
 fz:∀a,F a→F' a
 fk:∀a o,F a→H a=some o→H' a=some o
 off:∀a,F' a→F a∨L a≠none∨H a=none
theorem Fr.refl (L:Lp) {F:Fz} (H:Hp):Fr L F H L F H:=⟨fun _ _ h _ _=>h,fun _ h=>h,.refl H,fun _ h=> .inl h,fun _ h=>h,fun _ _ _ h=>h,fun _ h=> .inl h⟩
theorem Fr.trans {L L1 L2:Lp} {F F1 F2:Fz} {H H1 H2:Hp} (a:Fr L F H L1 F1 H1) (b:Fr L1 F1 H1 L2 F2 H2):Fr L F H L2 F2 H2:=by
 have dn:∀c,H1 c=none→H c=none:=fun c z=>by
  cases e:H c with
  | none=>rfl
  | some o=>exact absurd z (a.live c (by rw [e];simp))
 refine ⟨fun c o h q n=> ?_,fun c h=>b.live c (a.live c h),a.stay.trans b.stay,fun c h=> ?_,fun c h=>b.fz c (a.fz c h),fun c o h e=>b.fk c o (a.fz c h) (a.fk c o h e),fun c h=> ?_⟩
 ·refine b.keep c o (a.keep c o h q n) q ?_
  cases e:L1 c with
  | none=>rfl
  | some u=>
   rcases a.dom c (by rw [e];simp) with z | z
   ·exact absurd n z
   ·rw [h] at z
    cases z
 ·rcases b.dom c h with z | z
  ·exact a.dom c z
  ·exact .inr (dn c z)
 ·rcases b.off c h with z | z | z
  ·exact a.off c z
  ·exact .inr (a.dom c z)
  ·exact .inr (.inr (dn c z))
theorem cA {H:Hp} {p a:Addr} {o:HO} (h:H a≠none):upd H p o a≠none:=by
 by_cases e:a=p
 ·rw [e,upd_same];simp
 ·rw [upd_ne e];exact h
def Le (L L':Lp):Prop:= ∀a o,L a=some o→L' a=some o
theorem Le.refl (L:Lp):Le L L:=fun _ _ h=>h
theorem Le.trans {L L1 L2:Lp} (a:Le L L1) (b:Le L1 L2):Le L L2:=fun x o h=>b x o (a x o h)
theorem Le.ne {L L':Lp} (h:Le L L') {a:Addr} (n:L a≠none):L' a≠none:=by
 cases e:L a with
 | none=>exact absurd e n
 | some o=>
  rw [h a o e]
  simp
theorem Le.none {L L':Lp} (h:Le L L') {a:Addr} (n:L' a=none):L a=none:=by
 cases e:L a with
 | none=>rfl
 | some o=>
  rw [h a o e] at n
  cases n
theorem aU {L:Lp} {a:Addr} {o:MO} (h:L a=none):Le L (put L a o):=fun b u e=>by
 rw [aK (aQ e h)]
 exact e
structure Mv (F:Fz) (H:Hp) (F':Fz) (H':Hp):Prop where
 stay:Stay H H'
 fz:∀a,F a→F' a
 fk:∀a o,F a→H a=some o→H' a=some o
theorem Fr.mv {L L':Lp} {F F':Fz} {H H':Hp} (f:Fr L F H L' F' H'):Mv F H F' H':=⟨f.stay,f.fz,f.fk⟩
instance frMv {L L':Lp} {F F':Fz} {H H':Hp}:CoeOut (Fr L F H L' F' H') (Mv F H F' H'):=⟨Fr.mv⟩
theorem Rep.mono {K:PySem.W.Frag} {F F':Fz} {H H':Hp} (s:Mv F H F' H') {v:V} {d:D} (r:Rep K F H v d):Rep K F' H' v d:=by
 induction r with
 | non=>exact .non
 | bl b=>exact .bl b
 | int i=>exact .int i
 | str x h=>exact .str x h
 | ty n=>exact .ty n
 | ptr a=>exact .ptr a
 | ilst h=>
  refine .ilst ?_
  rcases h with ⟨o,h⟩ | h
  ·exact .inl ⟨o,s.stay.frz _ _ _ h⟩
  ·exact .inr h
 | tup h hz hl hi ih=>exact .tup (s.stay.tup _ _ h) hz hl ih
 | obj hl h hx hu hn hi ih=>exact .obj (s.fz _ hl) (s.fk _ _ hl h) (s.stay.xd _ hx) hu hn ih
 | flst hl h hz hn hi ih=>exact .flst (s.fz _ hl) (s.fk _ _ hl h) hz hn ih
 | fdct hl h hk hn he hi ih=>exact .fdct (s.fz _ hl) (s.fk _ _ hl h) hk hn he ih
 | kdct hl h hn he hi ih=>exact .kdct (s.fz _ hl) (s.fk _ _ hl h) hn he ih
 | wds hl h ho hz hs=>exact .wds (s.fz _ hl) (s.fk _ _ hl h) ho hz hs
 | iob hl h hn he hi ih=>exact .iob (s.fz _ hl) (s.fk _ _ hl h) hn he ih
 | tk h hz hl hi ih=>exact .tk (h.stay s.stay) hz hl ih
abbrev aZ (K:PySem.W.Frag) (F:Fz) (H:Hp):List V→List D→Prop:=Paired (Rep K F H)
theorem aZ.mono {K:PySem.W.Frag} {F F':Fz} {H H':Hp} (s:Mv F H F' H'):∀{vs:List V} {ds:List D},aZ K F H vs ds→aZ K F' H' vs ds
 | _,_,.nil=> .nil
 | _,_,.cons r t=> .cons (r.mono s) (aZ.mono s t)
theorem aZ.length {K:PySem.W.Frag} {F:Fz} {H:Hp} {vs:List V} {ds:List D} (r:aZ K F H vs ds):vs.length=ds.length:=Paired.length r
theorem aZ.get:∀{K:PySem.W.Frag} {F:Fz} {H:Hp} {vs:List V} {ds:List D} {i:Nat} {d:D},aZ K F H vs ds→ds[i]? =some d→∃v,vs[i]? =some v∧Rep K F H v d
 | _,_,_,_,_,_,_,.nil,e=>by simp at e
 | _,_,_,_,_,0,_,.cons r _,e=>by simp at e;subst e;exact ⟨_,rfl,r⟩
 | K,_,H,_,_,i+1,d,.cons _ t,e=>by
  obtain ⟨v,h1,h2⟩:=aZ.get (i:=i) (d:=d) t (by simpa using e)
  exact ⟨v,by simpa using h1,h2⟩
theorem aZ.getV:∀{K:PySem.W.Frag} {F:Fz} {H:Hp} {vs:List V} {ds:List D} {i:Nat} {v:V},aZ K F H vs ds→vs[i]? =some v→∃d,ds[i]? =some d∧Rep K F H v d
 | _,_,_,_,_,_,_,.nil,e=>by simp at e
 | _,_,_,_,_,0,_,.cons r _,e=>by simp at e;subst e;exact ⟨_,rfl,r⟩
 | K,_,H,_,_,i+1,v,.cons _ t,e=>by
  obtain ⟨d,h1,h2⟩:=aZ.getV (i:=i) (v:=v) t (by simpa using e)
  exact ⟨d,by simpa using h1,h2⟩
theorem aZ.of_get:∀{K:PySem.W.Frag} {F:Fz} {H:Hp} {vs:List V} {ds:List D},vs.length=ds.length→(∀(i:Nat) (v:V) (d:D),vs[i]? =some v→ds[i]? =some d→Rep K F H v d)→aZ K F H vs ds
 | _,_,_,[],[],_,_=> .nil
 | _,_,_,[],_::_,h,_=>by simp at h
 | _,_,_,_::_,[],h,_=>by simp at h
 | K,_,H,v::vs,d::ds,h,hi=> .cons (hi 0 v d rfl rfl) (aZ.of_get (by simpa using h) fun i x y h1 h2=>hi (i+1) x y (by simpa using h1) (by simpa using h2))
theorem aZ.append:∀{K:PySem.W.Frag} {F:Fz} {H:Hp} {vs ws:List V} {ds es:List D},aZ K F H vs ds→aZ K F H ws es→aZ K F H (vs++ws) (ds++es)
 | _,_,_,_,_,_,_,.nil,s=>s
 | _,_,_,_,_,_,_,.cons r t,s=> .cons r (aZ.append t s)
theorem aZ.take:∀{K:PySem.W.Frag} {F:Fz} {H:Hp} {vs:List V} {ds:List D} (n:Nat),aZ K F H vs ds→aZ K F H (vs.take n) (ds.take n)
 | _,_,_,_,_,0,_=> .nil
 | _,_,_,_,_,_+1,.nil=> .nil
 | _,_,_,_,_,n+1,.cons r t=> .cons r (aZ.take n t)
theorem aZ.drop:∀{K:PySem.W.Frag} {F:Fz} {H:Hp} {vs:List V} {ds:List D} (n:Nat),aZ K F H vs ds→aZ K F H (vs.drop n) (ds.drop n)
 | _,_,_,_,_,0,r=>r
 | _,_,_,_,_,_+1,.nil=> .nil
 | _,_,_,_,_,n+1,.cons _ t=>aZ.drop n t
theorem aZ.set {K:PySem.W.Frag} {F:Fz} {H:Hp} {v:V} {d:D} (r:Rep K F H v d):∀{vs:List V} {ds:List D} (i:Nat),aZ K F H vs ds→aZ K F H (vs.set i v) (ds.set i d)
 | _,_,_,.nil=> .nil
 | _,_,0,.cons _ t=> .cons r t
 | _,_,i+1,.cons q t=> .cons q (aZ.set r i t)
theorem Rep.tupI {K:PySem.W.Frag} {F:Fz} {H:Hp} {a:Addr} {vs:List V} {ds:List D} (h:H a=some (.tup vs)) (r:aZ K F H vs ds) (hz:ds.length≤sizeLine):Rep K F H (.ref a) (.tup ds):=
 .tup h (by rw [r.length];exact hz) r.length fun i v d h1 h2=>by
  obtain ⟨d',e,q⟩:=r.getV h1
  rw [h2] at e
  cases e
  exact q
theorem Rep.tupE {K:PySem.W.Frag} {F:Fz} {H:Hp} {v:V} {ds:List D} (r:Rep K F H v (.tup ds)):∃a vs,v= .ref a∧H a=some (.tup vs)∧aZ K F H vs ds:=by
 cases r with
 | tup h hz hl hi=>exact ⟨_,_,rfl,h,aZ.of_get hl hi⟩
theorem Rep.tkE {K:PySem.W.Frag} {F:Fz} {H:Hp} {v:V} {ds:List D} (r:Rep K F H v (.tk ds)):∃a vs,v= .ref a∧TpK K H a vs∧aZ K F H vs ds∧ds.length≤sizeLine:=by
 cases r with
 | tk h hz hl hi=>exact ⟨_,_,rfl,h,aZ.of_get hl hi,by rw [←hl];exact hz⟩
theorem Rep.tkI {K:PySem.W.Frag} {F:Fz} {H:Hp} {a:Addr} {vs:List V} {ds:List D} (h:TpK K H a vs) (r:aZ K F H vs ds) (hz:ds.length≤sizeLine):Rep K F H (.ref a) (.tk ds):=
 .tk h (by rw [r.length];exact hz) r.length fun i v d h1 h2=>by
  obtain ⟨d',e,q⟩:=r.getV h1
  rw [h2] at e
  cases e
  exact q
def Bnd:D→Prop
 | .str x=>SOk x
 | .tup ds=>ds.length≤sizeLine
 | _=>True
theorem Rep.bnd {K:PySem.W.Frag} {F:Fz} {H:Hp} {v:V} {d:D} (r:Rep K F H v d):Bnd d:=by
 cases r with
 | str x h=>exact h
 | tup h hz hl hi=>
  show _≤_
  rw [←hl]
  exact hz
 | _=>exact True.intro
theorem Rep.intE {K:PySem.W.Frag} {F:Fz} {H:Hp} {v:V} {i:Int} (r:Rep K F H v (.int i)):v= .int i:=by cases r;rfl
theorem Rep.blE {K:PySem.W.Frag} {F:Fz} {H:Hp} {v:V} {b:Bool} (r:Rep K F H v (.bl b)):v= .bl b:=by cases r;rfl
theorem Rep.strE {K:PySem.W.Frag} {F:Fz} {H:Hp} {v:V} {x:Str} (r:Rep K F H v (.str x)):v= .str x:=by cases r;rfl
theorem Rep.nonE {K:PySem.W.Frag} {F:Fz} {H:Hp} {v:V} (r:Rep K F H v .non):v= .non:=by cases r;rfl
theorem Rep.ptrE {K:PySem.W.Frag} {F:Fz} {H:Hp} {v:V} {a:Addr} (r:Rep K F H v (.ptr a)):v= .ref a:=by cases r;rfl
theorem Rep.tyE {K:PySem.W.Frag} {F:Fz} {H:Hp} {v:V} {n:String} (r:Rep K F H v (.ty n)):v= .ty n:=by cases r;rfl
theorem Rep.ilstE {K:PySem.W.Frag} {F:Fz} {H:Hp} {v:V} {ns:List Int} (r:Rep K F H v (.ilst ns)):∃a,v= .ref a∧SqL K H a (ns.map V.int):=by
 cases r with
 | ilst h=>
  refine ⟨_,rfl,?_⟩
  rcases h with ⟨o,h⟩ | h
  ·exact .inl (.inr ⟨o,h⟩)
  ·exact .inr h

def ErO (cls:Value) (d:Option Addr) (a:Addr):HO:= .ext fun h=> ∃(oe:Obj) (vs:Array Value),h.get? a=some oe∧oe.cls=cls∧oe.dict=d∧oe.data= .fields vs
def yS (K:PySem.W.Frag) (F:Fz) (H:Hp) (vs:List (Option V)) (fs:List (Option D)):Prop:= ∀(i:Nat) (d:D),fs[i]? =some (some d)→∃v,vs[i]? =some (some v)∧Rep K F H v d
def At (P:Program) (w:World) (K:PySem.W.Frag) (F:Fz) (H:Hp) (a:Addr):MO→Prop
 | .lst ds=> ∃vs,H a=some (.lst vs)∧aZ K F H vs ds∧ds.length≤sizeLine
 | .dct kds=> ∃kvs,H a=some (.dT kvs)∧Paired (fun (p:List Key×V) (q:List Key×D)=>p.1=q.1∧Rep K F H p.2 q.2) kvs kds∧∀q∈kds,KOk q.1
 | .ins C fs=> ∃dx vs,SlX.Slt H a C dx vs∧yS K F H vs fs
 | .set S n=>H a=some (.ext fun h=>h.SetOf (mixKind P w) a S n)
 | .txs S n=>H a=some (.ext fun h=>nO w h a S n)∧∀k,S k=true→SOk k
 | .kd kds=> ∃kvs,H a=some (.dK kvs)∧Paired (fun (p:Key×V) (q:Key×D)=>p.1=q.1∧Rep K F H p.2 q.2) kvs kds
 | .nd kds=> ∃xs:List (NestedKey×Addr×Value),H a=some (ndO P w a xs)∧Paired (fun (x:NestedKey×Addr×Value) (q:D×D)=>x.1=nk q.1∧okN q.1=true∧(nk q.1).depth≤8∧Rep K F H (.ref x.2.1) q.1∧∃v,RelV v x.2.2∧Rep K F H v q.2) xs kds
 | .iin C fs=> ∃dx vfs,H a=some (.ins C dx vfs)∧Paired (fun (p:Str×V) (q:Str×D)=>p.1=q.1∧Rep K F H p.2 q.2) vfs fs
 | .tab q=> ∃ps:Array Value,H a=some (.tbl ps)∧TriplesOk ps.toList∧∀(pos:Pos) (cv:Value),codeAmong pos ps.toList=some cv→∃c,cv= .ref c∧F c∧H c=some (LamX.CodeO c q)
 | .exc C fs=> ∃dx fvs,H a=some (ErO (.ref C) (some dx) a)∧(fvs= []∨F dx)∧H dx=some (.xd fvs)∧Paired (fun (p:Str×V) (q:Str×D)=>p.1=q.1∧Rep K F H p.2 q.2) fvs fs
theorem Paired.mono {α β:Type} {F G:α→β→Prop}:∀{l1:List α} {l2:List β},Paired F l1 l2→(∀a b,F a b→G a b)→Paired G l1 l2
 | _,_,.nil,_=> .nil
 | _,_,.cons r t,f=> .cons (f _ _ r) (Paired.mono t f)
theorem yS.mono {K:PySem.W.Frag} {F F':Fz} {H H':Hp} {vs:List (Option V)} {fs:List (Option D)} (s:Mv F H F' H') (r:yS K F H vs fs):yS K F' H' vs fs:=fun i d e=>by
 obtain ⟨v,h1,h2⟩:=r i d e
 exact ⟨v,h1,h2.mono s⟩
theorem At.mono {P:Program} {w:World} {K:PySem.W.Frag} {F F':Fz} {H H':Hp} {a:Addr} {o:MO} (x:At P w K F H a o) (s:Mv F H F' H') (e:H' a=H a):At P w K F' H' a o:=by
 cases o with
 | lst ds=>
  obtain ⟨vs,h,r,z⟩:=x
  exact ⟨vs,e.trans h,r.mono s,z⟩
 | dct kds=>
  obtain ⟨kvs,h,r,z⟩:=x
  exact ⟨kvs,e.trans h,Paired.mono r fun p q z=>⟨z.1,z.2.mono s⟩,z⟩
 | ins C fs=>
  obtain ⟨dx,vs,h,r⟩:=x
  refine ⟨dx,vs,?_,r.mono s⟩
  rcases h with ⟨h,h2⟩ | ⟨h,hd⟩
  ·exact .inl ⟨e.trans h,h2⟩
  ·exact .inr ⟨e.trans h,s.stay.xd _ hd⟩
 | set S n=>exact e.trans x
 | txs S n=>exact ⟨e.trans x.1,x.2⟩
 | kd kds=>
  obtain ⟨kvs,h,r⟩:=x
  exact ⟨kvs,e.trans h,Paired.mono r fun p q z=>⟨z.1,z.2.mono s⟩⟩
 | nd kds=>
  obtain ⟨xs,h,r⟩:=x
  exact ⟨xs,e.trans h,Paired.mono r fun p q ⟨z1,z2,z3,z4,v,z5,z6⟩=>⟨z1,z2,z3,z4.mono s,v,z5,z6.mono s⟩⟩
 | iin C fs=>
  obtain ⟨dx,vfs,h,r⟩:=x
  exact ⟨dx,vfs,e.trans h,Paired.mono r fun p q z=>⟨z.1,z.2.mono s⟩⟩
 | tab q=>
  obtain ⟨ps,h,t,k⟩:=x
  refine ⟨ps,e.trans h,t,fun pos cv hc=> ?_⟩
  obtain ⟨c,e1,e2,e3⟩:=k pos cv hc
  exact ⟨c,e1,s.fz c e2,s.fk c _ e2 e3⟩
 | exc C fs=>
  obtain ⟨dx,fvs,h,hz,hd,r⟩:=x
  refine ⟨dx,fvs,e.trans h,hz.imp id (s.fz dx),?_,Paired.mono r fun p q z=>⟨z.1,z.2.mono s⟩⟩
  rcases hz with rfl | hz
  ·exact s.stay.xd _ hd
  ·exact s.fk _ _ hz hd
theorem At.some {P:Program} {w:World} {K:PySem.W.Frag} {F:Fz} {H:Hp} {a:Addr} {o:MO} (x:At P w K F H a o):∃u,H a=some u∧(∀vs,u≠ .tup vs)∧(∀z y,u≠ .frz z y)∧u≠ .xd []:=by
 cases o with
 | lst ds=>
  obtain ⟨vs,h,r,z⟩:=x
  exact ⟨_,h,fun _ z=>(nomatch z),fun _ _ z=>(nomatch z),fun z=>(nomatch z)⟩
 | dct kds=>
  obtain ⟨kvs,h,r,z⟩:=x
  exact ⟨_,h,fun _ z=>(nomatch z),fun _ _ z=>(nomatch z),fun z=>(nomatch z)⟩
 | ins C fs=>
  obtain ⟨dx,vs,h,r⟩:=x
  rcases h with ⟨h,h2⟩ | ⟨h,hd⟩
  ·exact ⟨_,h,fun _ z=>(nomatch z),fun _ _ z=>(nomatch z),fun z=>(nomatch z)⟩
  ·refine ⟨_,h,fun _ z=> ?_,fun _ _ z=> ?_,fun z=> ?_⟩ <;> (unfold SlX.SlO at z;cases z)
 | set S n=>exact ⟨_,x,fun _ z=>(nomatch z),fun _ _ z=>(nomatch z),fun z=>(nomatch z)⟩
 | txs S n=>exact ⟨_,x.1,fun _ z=>(nomatch z),fun _ _ z=>(nomatch z),fun z=>(nomatch z)⟩
 | kd kds=>
  obtain ⟨kvs,h,r⟩:=x
  exact ⟨_,h,fun _ z=>(nomatch z),fun _ _ z=>(nomatch z),fun z=>(nomatch z)⟩
 | nd kds=>
  obtain ⟨xs,h,r⟩:=x
  refine ⟨_,h,fun _ z=> ?_,fun _ _ z=> ?_,fun z=> ?_⟩ <;> (unfold ndO at z;cases z)
 | iin C fs=>
  obtain ⟨dx,vfs,h,r⟩:=x
  exact ⟨_,h,fun _ z=>(nomatch z),fun _ _ z=>(nomatch z),fun z=>(nomatch z)⟩
 | tab q=>
  obtain ⟨ps,h,_⟩:=x
  exact ⟨_,h,fun _ z=>(nomatch z),fun _ _ z=>(nomatch z),fun z=>(nomatch z)⟩
 | exc C fs=>
  obtain ⟨dx,fvs,h,_⟩:=x
  refine ⟨_,h,fun _ z=> ?_,fun _ _ z=> ?_,fun z=> ?_⟩ <;> (unfold ErO at z;cases z)

structure Con (P:Program) (w:World) (K:PySem.W.Frag) (L:Lp) (F:Fz) (H:Hp):Prop where
 at_:∀a o,L a=some o→At P w K F H a o
 fz:∀a,F a→L a=none∧∃o,H a=some o∧(∀y,o≠ .own y)∧o≠ .xd []
section
variable {P:Program} {w:World} {K:PySem.W.Frag} {L L':Lp} {F F':Fz} {H:Hp} {p:Addr} {o:HO} {mo mo':MO}
theorem Con.free (c:Con P w K L F H) {a:Addr} (h:H a=none):L a=none:=by
 cases e:L a with
 | none=>rfl
 | some o=>
  obtain ⟨u,q,_⟩:=(c.at_ a o e).some
  rw [h] at q
  cases q
theorem Con.nf (c:Con P w K L F H) (h:H p=none):¬F p:=fun z=>by
 obtain ⟨_,o,e,_⟩:=c.fz p z
 rw [h] at e
 cases e
theorem Con.nw (c:Con P w K L F H) (h:L p=some mo):¬F p:=fun z=>by
 rw [(c.fz p z).1] at h
 cases h
theorem Con.le (c:Con P w K L' F H) (h:Le L L'):Con P w K L F H:=⟨fun a o e=>c.at_ a o (h a o e),fun a z=>⟨h.none (c.fz a z).1,(c.fz a z).2⟩⟩
theorem Fr.leR {L L1 L2:Lp} {F F1:Fz} {H H1:Hp} (f:Fr L F H L1 F1 H1) (h:Le L2 L1):Fr L F H L2 F1 H1:=⟨f.keep,f.live,f.stay,fun a n=>f.dom a (h.ne n),f.fz,f.fk,f.off⟩
theorem Fr.leL {L L1 L2:Lp} {F F1:Fz} {H H1:Hp} (f:Fr L F H L1 F1 H1) (h:Le L L2):Fr L2 F H L1 F1 H1:=⟨fun a o e q n=>f.keep a o e q (h.none n),f.live,f.stay,fun a n=>(f.dom a n).imp (fun z=>h.ne z) id,f.fz,f.fk,fun a z=>(f.off a z).imp id (Or.imp (fun z=>h.ne z) id)⟩

theorem Stay.new {H:Hp} {p:Addr} {o:HO} (h:H p=none):Stay H (upd H p o):=
 ⟨fun a vs e=>by rw [upd_ne (ne_of_none e h)];exact e,fun a ob u e=>by rw [upd_ne (ne_of_none e h)];exact e,fun a e=>by rw [upd_ne (ne_of_none e h)];exact e⟩
theorem Fr.new (h:H p=none):Fr L F H L F (upd H p o):=
 ⟨fun a u e _ _=>by rw [upd_ne (ne_of_none e h)];exact e,fun a z=>cA z,.new h,fun _ z=> .inl z,fun _ z=>z,fun a u _ e=>by rw [upd_ne (ne_of_none e h)];exact e,fun _ z=> .inl z⟩
theorem Mv.new (h:H p=none):Mv F H F (upd H p o):=⟨.new h,fun _ z=>z,fun a u _ e=>by rw [upd_ne (ne_of_none e h)];exact e⟩
theorem Con.new (c:Con P w K L F H) (h:H p=none):Con P w K L F (upd H p o):=⟨fun a u e=>by
 obtain ⟨x,q,_⟩:=(c.at_ a u e).some
 exact (c.at_ a u e).mono (Mv.new h) (upd_ne (ne_of_none q h)),fun a z=>by
 obtain ⟨n,u,e,q⟩:=c.fz a z
 exact ⟨n,u,by rw [upd_ne (ne_of_none e h)];exact e,q⟩⟩
theorem Fr.newL (h:H p=none):Fr L F H (put L p mo) F (upd H p o):=
 ⟨fun a u e _ _=>by rw [upd_ne (ne_of_none e h)];exact e,fun a z=>cA z,.new h,fun a z=>by
  by_cases e:a=p
  ·exact .inr (by rw [e];exact h)
  ·rw [aK e] at z
   exact .inl z,fun _ z=>z,fun a u _ e=>by rw [upd_ne (ne_of_none e h)];exact e,fun _ z=> .inl z⟩
theorem Con.newL (c:Con P w K L F H) (h:H p=none) (x:At P w K F (upd H p o) p mo):Con P w K (put L p mo) F (upd H p o):=⟨fun a u e=>by
 by_cases ep:a=p
 ·subst ep
  rw [aF] at e
  cases e
  exact x
 ·rw [aK ep] at e
  exact (c.new h).at_ a u e,fun a z=>by
 have ep:a≠p:=fun e=>c.nf h (e ▸z)
 rw [aK ep]
 exact (c.new h).fz a z⟩
theorem Stay.write (x:At P w K F H p mo):Stay H (upd H p o):=by
 obtain ⟨u,h,n1,n2,n3⟩:=x.some
 refine ⟨fun a vs e=> ?_,fun a ob z e=> ?_,fun a e=> ?_⟩
 ·rw [upd_ne (fun q=>by rw [q,h] at e;exact n1 vs (Option.some.inj e))];exact e
 ·rw [upd_ne (fun q=>by rw [q,h] at e;exact n2 _ _ (Option.some.inj e))];exact e
 ·rw [upd_ne (fun q=>by rw [q,h] at e;exact n3 (Option.some.inj e))];exact e
theorem Mv.write (c:Con P w K L F H) (h:L p=some mo):Mv F H F (upd H p o):=⟨.write (c.at_ p mo h),fun _ z=>z,fun a u z e=>by
 have ea:a≠p:=fun q=>c.nw h (q ▸z)
 rw [upd_ne ea];exact e⟩
theorem Mv.trans {F F1 F2:Fz} {H H1 H2:Hp} (a:Mv F H F1 H1) (b:Mv F1 H1 F2 H2):Mv F H F2 H2:=⟨a.stay.trans b.stay,fun c h=>b.fz c (a.fz c h),fun c o h e=>b.fk c o (a.fz c h) (a.fk c o h e)⟩
theorem Fr.write (c:Con P w K L F H) (h:L p=some mo):Fr L F H (put L p mo') F (upd H p o):=
 ⟨fun a u e _ n=>by rw [upd_ne (fun q=>by rw [q,h] at n;cases n)];exact e,fun a z=>cA z,.write (c.at_ p mo h),fun a z=>by
  by_cases e:a=p
  ·exact .inl (by rw [e,h];simp)
  ·rw [aK e] at z
   exact .inl z,fun _ z=>z,fun a u z e=>by
  have ea:a≠p:=fun q=>c.nw h (q ▸z)
  rw [upd_ne ea];exact e,fun _ z=> .inl z⟩
theorem Con.write (c:Con P w K L F H) (h:L p=some mo) (x:At P w K F (upd H p o) p mo'):Con P w K (put L p mo') F (upd H p o):=⟨fun a u e=>by
 by_cases ep:a=p
 ·subst ep
  rw [aF] at e
  cases e
  exact x
 ·rw [aK ep] at e
  exact (c.at_ a u e).mono (Mv.write c h) (upd_ne ep),fun a z=>by
 have ep:a≠p:=fun e=>c.nw h (e ▸z)
 rw [aK ep,upd_ne ep]
 exact c.fz a z⟩
end

abbrev Gm:=List (Option D)
structure Sl (K:PySem.W.Frag) (F:Fz) (H:Hp) (σ:L2.St) (Γ:Gm):Prop where
 len:σ.length=Γ.length
 get:∀(i:Nat) (d:D),Γ[i]? =some (some d)→∃v,σ[i]? =some (some v)∧Rep K F H v d
theorem Sl.mono {K:PySem.W.Frag} {F F':Fz} {H H':Hp} {σ:L2.St} {Γ:Gm} (x:Sl K F H σ Γ) (s:Mv F H F' H'):Sl K F' H' σ Γ:=⟨x.len,fun i d e=>by
 obtain ⟨v,h,r⟩:=x.get i d e
 exact ⟨v,h,r.mono s⟩⟩
theorem Sl.set {K:PySem.W.Frag} {F:Fz} {H:Hp} {σ:L2.St} {Γ:Gm} (x:Sl K F H σ Γ) (i:Nat) {v:V} {d:D} (r:Rep K F H v d):Sl K F H (σ.set i (some v)) (Γ.set i (some d)):=by
 refine ⟨by simpa using x.len,fun j d' e=> ?_⟩
 by_cases h:j=i
 ·subst h
  by_cases hl:j < Γ.length
  ·rw [List.getElem?_set_self hl] at e
   cases e
   exact ⟨v,List.getElem?_set_self (by rw [x.len];exact hl),r⟩
  ·rw [List.getElem?_eq_none (by simp;omega)] at e
   cases e
 ·rw [List.getElem?_set_ne (Ne.symm h)] at e
  rw [List.getElem?_set_ne (Ne.symm h)]
  exact x.get j d' e
end DL
namespace DL
open PySem PySem.Spec PyProof.Rows L2

section
variable {X:Cx} {σ:L2.St} {H:Hp}
structure WE (X:Cx) (e:Expr) (σ:L2.St) (H:Hp) (Q:VK):Prop where
 run:∀(pins:List (Addr×Obj)) (s:Shared),Inv X pins σ H s→wpAny (model X.prog X.w) X.A (eval e X.env) (EP X pins σ Q) X.xe s
structure WT (X:Cx) (e:Expr) (σ:L2.St) (H:Hp) (Q:Bool→Hp→Prop):Prop where
 run:∀(pins:List (Addr×Obj)) (s:Shared),Inv X pins σ H s→wpAny (model X.prog X.w) X.A (isTrue e X.env (eval e X.env)) (TP X pins σ Q) X.xe s
structure WA (X:Cx) (es:List Expr) (σ:L2.St) (H:Hp) (Q:List V→Hp→Prop):Prop where
 run:∀(pos:Pos) (pins:List (Addr×Obj)) (s:Shared),Inv X pins σ H s→wpAny (model X.prog X.w) X.A (spliced (backTo pos (starEach es X.env))) (AP X pins σ Q) X.xe s
structure WSs (X:Cx) (st:List Stmt) (D:Ends) (σ:L2.St) (H:Hp):Prop where
 run:∀(pins:List (Addr×Obj)) (s:Shared),Inv X pins σ H s→wpAny (model X.prog X.w) X.A (execs st X.env) (SP X pins D) X.xe s
structure WS (X:Cx) (st:Stmt) (D:Ends) (σ:L2.St) (H:Hp):Prop where
 run:∀(pins:List (Addr×Obj)) (s:Shared),Inv X pins σ H s→wpAny (model X.prog X.w) X.A (exec st X.env) (SP X pins D) X.xe s
theorem bA {e:Expr}:PE X e (WE X e):=⟨fun pins s σ H Q I h=>h.run pins s I⟩
theorem vD {e:Expr}:PT X e (WT X e):=⟨fun pins s σ H Q I h=>h.run pins s I⟩
theorem qT {es:List Expr}:PA X es (WA X es):=⟨fun pos pins s σ H Q I h=>h.run pos pins s I⟩
theorem ps_we {st:Stmt}:PS X st (WS X st):=⟨fun pins s σ H D I h=>h.run pins s I⟩
theorem sW {st:List Stmt}:PSs X st (WSs X st):=⟨fun pins s σ H D I h=>h.run pins s I⟩
theorem dD {e:Expr} {t:TE} {Q:VK} (h:PE X e t) (q:t σ H Q):WE X e σ H Q:=⟨fun pins s I=>h.run pins s σ H Q I q⟩
theorem aAn {e:Expr} {t:TT} {Q:Bool→Hp→Prop} (h:PT X e t) (q:t σ H Q):WT X e σ H Q:=⟨fun pins s I=>h.run pins s σ H Q I q⟩
theorem wa_of {es:List Expr} {t:TA} {Q:List V→Hp→Prop} (h:PA X es t) (q:t σ H Q):WA X es σ H Q:=⟨fun pos pins s I=>h.run pos pins s σ H Q I q⟩
theorem jP {st:Stmt} {t:TS} {D:Ends} (h:PS X st t) (q:t D σ H):WS X st D σ H:=⟨fun pins s I=>h.run pins s σ H D I q⟩
theorem aAo {st:List Stmt} {t:TS} {D:Ends} (h:PSs X st t) (q:t D σ H):WSs X st D σ H:=⟨fun pins s I=>h.run pins s σ H D I q⟩
end

structure Ctx where
 X:Cx
 W:WX
 R:Gm→Value→List (Str×D)→Lp→Prop
 tk:Takes X W
 po:PassesOwn (model X.prog X.w) X.A X.env X.xe
 calm:X.calm=true
 nd:X.N.Nodup
 /-- what stays true of the store behind the entry -/
 T:Lp→Fz→Hp→Prop:=fun _ _ _=>True
 tfr:∀{L F H L' F' H'},T L F H→Fr L F H L' F' H'→T L' F' H':=by exact fun _ _=>True.intro
 tle:∀{L L' F H},T L F H→Le L' L→T L' F H:=by exact fun _ _=>True.intro
abbrev Ctx.Con (C:Ctx) (L:Lp) (F:Fz) (H:Hp):Prop:=DL.Con C.X.prog C.X.w C.X.K L F H
def aAm (K:PySem.W.Frag) (F:Fz) (H:Hp) (d:Addr) (fs:List (Str×D)):Prop:= ∃fvs,(fvs= []∨F d)∧H d=some (.xd fvs)∧Paired (fun (p:Str×V) (q:Str×D)=>p.1=q.1∧Rep K F H p.2 q.2) fvs fs
structure LinkR (C:Ctx) (L:Lp) (F:Fz) (H:Hp):Prop where
 of:∀{F'} cls d σ' H' Γ' L' fs,Sl C.X.K F' H' σ' Γ'→C.Con L' F' H'→Fr L F H L' F' H'→aAm C.X.K F' H' d fs→C.R Γ' cls fs L'→C.W cls (some d) σ' H'
 tk:C.T L F H
structure Ok (C:Ctx) (Γ:Gm) (L:Lp) (F:Fz) (σ:L2.St) (H:Hp):Prop where
 sl:Sl C.X.K F H σ Γ
 con:C.Con L F H
 lr:LinkR C L F H
theorem LinkR.step {C:Ctx} {L L':Lp} {F F':Fz} {H H':Hp} (x:LinkR C L F H) (f:Fr L F H L' F' H'):LinkR C L' F' H':=⟨fun cls d σ' H2 Γ' L2 fs s c f2 xd r=>x.of cls d σ' H2 Γ' L2 fs s c (f.trans f2) xd r,C.tfr x.tk f⟩
theorem Ok.step {C:Ctx} {Γ:Gm} {L L':Lp} {σ:L2.St} {F F':Fz} {H H':Hp} (x:Ok C Γ L F σ H) (c:C.Con L' F' H') (f:Fr L F H L' F' H'):Ok C Γ L' F' σ H':=⟨x.sl.mono f.mv,c,x.lr.step f⟩
theorem Ok.le {C:Ctx} {Γ:Gm} {L L':Lp} {σ:L2.St} {F:Fz} {H:Hp} (x:Ok C Γ L F σ H) (h:Le L' L):Ok C Γ L' F σ H:=⟨x.sl,x.con.le h,⟨fun cls d σ' H2 Γ' L2 fs s c f2 xd r=>x.lr.of cls d σ' H2 Γ' L2 fs s c (f2.leL h) xd r,C.tle x.lr.tk h⟩⟩

def Go (C:Ctx) (L:Lp) (F:Fz) (H:Hp) (Q:D→Lp→Prop) (QV:VK):Prop:= ∀{F'} v d H' L',Rep C.X.K F' H' v d→C.Con L' F' H'→Fr L F H L' F' H'→Q d L'→QV v H'
def GoT (C:Ctx) (L:Lp) (F:Fz) (H:Hp) (Q:Bool→Lp→Prop) (QV:Bool→Hp→Prop):Prop:= ∀{F'} b H' L',C.Con L' F' H'→Fr L F H L' F' H'→Q b L'→QV b H'
def GoA (C:Ctx) (L:Lp) (F:Fz) (H:Hp) (Q:List D→Lp→Prop) (QV:List V→Hp→Prop):Prop:= ∀{F'} vs ds H' L',aZ C.X.K F' H' vs ds→C.Con L' F' H'→Fr L F H L' F' H'→Q ds L'→QV vs H'
theorem Go.after {C:Ctx} {L L':Lp} {F F':Fz} {H H':Hp} {Q:D→Lp→Prop} {QV:VK} (g:Go C L F H Q QV) (f:Fr L F H L' F' H'):Go C L' F' H' Q QV:=fun v d H2 L2 r c f2 q=>g v d H2 L2 r c (f.trans f2) q
theorem GoT.after {C:Ctx} {L L':Lp} {F F':Fz} {H H':Hp} {Q:Bool→Lp→Prop} {QV:Bool→Hp→Prop} (g:GoT C L F H Q QV) (f:Fr L F H L' F' H'):GoT C L' F' H' Q QV:=fun v H2 L2 c f2 q=>g v H2 L2 c (f.trans f2) q
theorem GoA.after {C:Ctx} {L L':Lp} {F F':Fz} {H H':Hp} {Q:List D→Lp→Prop} {QV:List V→Hp→Prop} (g:GoA C L F H Q QV) (f:Fr L F H L' F' H'):GoA C L' F' H' Q QV:=fun v d H2 L2 r c f2 q=>g v d H2 L2 r c (f.trans f2) q

structure AEnds where
 nx:Gm→Lp→Prop
 rt:D→Lp→Prop
 bk:Gm→Lp→Prop:=fun _ _=>False
 ct:Gm→Lp→Prop:=fun _ _=>False
structure GoS (C:Ctx) (L:Lp) (F:Fz) (H:Hp) (E:AEnds) (DD:Ends):Prop where
 nx:∀{F'} σ' H' Γ' L',Ok C Γ' L' F' σ' H'→Fr L F H L' F' H'→E.nx Γ' L'→DD.nx σ' H'
 rt:∀{F'} v d H' L',Rep C.X.K F' H' v d→C.Con L' F' H'→Fr L F H L' F' H'→E.rt d L'→DD.rt v H'
 bk:∀{F'} σ' H' Γ' L',Ok C Γ' L' F' σ' H'→Fr L F H L' F' H'→E.bk Γ' L'→DD.bk σ' H'
 ct:∀{F'} σ' H' Γ' L',Ok C Γ' L' F' σ' H'→Fr L F H L' F' H'→E.ct Γ' L'→DD.ct σ' H'
theorem GoS.after {C:Ctx} {L L':Lp} {F F':Fz} {H H':Hp} {E:AEnds} {DD:Ends} (g:GoS C L F H E DD) (f:Fr L F H L' F' H'):GoS C L' F' H' E DD:=
 ⟨fun s H2 Γ L2 o f2 q=>g.nx s H2 Γ L2 o (f.trans f2) q,fun v d H2 L2 r c f2 q=>g.rt v d H2 L2 r c (f.trans f2) q,fun s H2 Γ L2 o f2 q=>g.bk s H2 Γ L2 o (f.trans f2) q,fun s H2 Γ L2 o f2 q=>g.ct s H2 Γ L2 o (f.trans f2) q⟩

def AE (C:Ctx) (e:Expr) (Γ:Gm) (L:Lp) (Q:D→Lp→Prop):Prop:= ∀F σ H,Ok C Γ L F σ H→∀QV,Go C L F H Q QV→WE C.X e σ H QV
def AT (C:Ctx) (e:Expr) (Γ:Gm) (L:Lp) (Q:Bool→Lp→Prop):Prop:= ∀F σ H,Ok C Γ L F σ H→∀QV,GoT C L F H Q QV→WT C.X e σ H QV
def AA (C:Ctx) (es:List Expr) (Γ:Gm) (L:Lp) (Q:List D→Lp→Prop):Prop:= ∀F σ H,Ok C Γ L F σ H→∀QV,GoA C L F H Q QV→WA C.X es σ H QV
def AS (C:Ctx) (st:Stmt) (Γ:Gm) (L:Lp) (E:AEnds):Prop:= ∀F σ H,Ok C Γ L F σ H→∀DD,GoS C L F H E DD→WS C.X st DD σ H
def ASs (C:Ctx) (st:List Stmt) (Γ:Gm) (L:Lp) (E:AEnds):Prop:= ∀F σ H,Ok C Γ L F σ H→∀DD,GoS C L F H E DD→WSs C.X st DD σ H

section
variable {C:Ctx} {Γ:Gm} {L:Lp} {e a b c:Expr} {es:List Expr} {pos:Pos} {st:Stmt} {sts:List Stmt} {E:AEnds} {Q:D→Lp→Prop}
theorem AE.mono {Q':D→Lp→Prop} (h:AE C e Γ L Q) (m:∀d L',Q d L'→Q' d L'):AE C e Γ L Q':=fun F σ H ok QV go=>h _ σ H ok QV fun v d H' L' r c f q=>go v d H' L' r c f (m d L' q)
theorem AT.mono {Q Q':Bool→Lp→Prop} (h:AT C e Γ L Q) (m:∀d L',Q d L'→Q' d L'):AT C e Γ L Q':=fun F σ H ok QV go=>h _ σ H ok QV fun d H' L' c f q=>go d H' L' c f (m d L' q)
theorem AA.mono {Q Q':List D→Lp→Prop} (h:AA C es Γ L Q) (m:∀d L',Q d L'→Q' d L'):AA C es Γ L Q':=fun F σ H ok QV go=>h _ σ H ok QV fun v d H' L' r c f q=>go v d H' L' r c f (m d L' q)
theorem AE.drop (h:AE C e Γ L fun d L'=> ∃L2,Le L2 L'∧Q d L2):AE C e Γ L Q:=fun F σ H ok QV go=>h _ σ H ok QV fun v d H' L' r c f ⟨L2,le,q⟩=>go v d H' L2 r (c.le le) (f.leR le) q
theorem ASs.mono {E':AEnds} (h:ASs C sts Γ L E) (m1:∀Γ L,E.nx Γ L→E'.nx Γ L) (m2:∀d L,E.rt d L→E'.rt d L) (m3:∀Γ L,E.bk Γ L→E'.bk Γ L) (m4:∀Γ L,E.ct Γ L→E'.ct Γ L):ASs C sts Γ L E':=fun F σ H ok DD go=>h _ σ H ok DD
 ⟨fun s H2 Γ L2 o f2 q=>go.nx s H2 Γ L2 o f2 (m1 _ _ q),fun v d H2 L2 r c f2 q=>go.rt v d H2 L2 r c f2 (m2 _ _ q),fun s H2 Γ L2 o f2 q=>go.bk s H2 Γ L2 o f2 (m3 _ _ q),fun s H2 Γ L2 o f2 q=>go.ct s H2 Γ L2 o f2 (m4 _ _ q)⟩

theorem AE.bnd (h:AE C e Γ L fun d L'=>Bnd d→Q d L'):AE C e Γ L Q:=fun F σ H ok QV go=>h _ σ H ok QV fun v d H' L' r c f q=>go v d H' L' r c f (q r.bnd)
theorem AA.bnd {Q:List D→Lp→Prop} (h:AA C es Γ L fun ds L'=>(∀d∈ds,Bnd d)→Q ds L'):AA C es Γ L Q:=fun F σ H ok QV go=>h _ σ H ok QV fun vs ds H' L' r c f q=>go vs ds H' L' r c f (q fun d hd=>by
 obtain ⟨i,hi⟩:=List.getElem?_of_mem hd
 obtain ⟨v,_,rv⟩:=r.get hi
 exact rv.bnd)
theorem ASs.slot {i:Nat} {d:D} (hg:Γ[i]? =some (some d)) (h:Bnd d→ASs C sts Γ L E):ASs C sts Γ L E:=fun F σ H ok DD go=>by
 obtain ⟨v,_,r⟩:=ok.sl.get i d hg
 exact h r.bnd _ σ H ok DD go
theorem ASs.list {p:Addr} {ds:List D} (hp:L p=some (.lst ds)) (h:ds.length≤sizeLine→ASs C sts Γ L E):ASs C sts Γ L E:=fun F σ H ok DD go=>by
 obtain ⟨vs,_,_,z⟩:=ok.con.at_ p _ hp
 exact h z _ σ H ok DD go
theorem AE.list {p:Addr} {ds:List D} (hp:L p=some (.lst ds)) (h:ds.length≤sizeLine→AE C e Γ L Q):AE C e Γ L Q:=fun F σ H ok DD go=>by
 obtain ⟨vs,_,_,z⟩:=ok.con.at_ p _ hp
 exact h z _ σ H ok DD go

theorem aA (i:Nat) {x:Str} {d:D} (hg:Γ[i]? =some (some d)) (q:Q d L) (hN:C.X.N[i]? =some x:=by rfl) (hv:Vis C.X.env.scope x:=by first | exact Or.inl rfl | exact Or.inr (Or.inl rfl) | exact Or.inr (Or.inr rfl))
  (hd:(x==("__debug__" :Str))=false:=by decide) (hcd:(x==("__classdict__" :Str))=false:=by decide):AE C (.Name x pos) Γ L Q:=fun F σ H ok QV go=>by
 obtain ⟨v,e,r⟩:=ok.sl.get i d hg
 exact dD (pe_var hN hv hd hcd) ⟨v,e,go v d H L r ok.con (.refl L H) q⟩
theorem aG {i:Int} {j:Nat} (q:Q (.int i) L):AE C (.Constant (.int i) j pos) Γ L Q:=fun F σ H ok QV go=>dD pe_int (go _ _ H L (.int i) ok.con (.refl L H) q)
theorem tV {b:Bool} {j:Nat} (q:Q (.bl b) L):AE C (.Constant (.bool b) j pos) Γ L Q:=fun F σ H ok QV go=>dD pe_bl (go _ _ H L (.bl b) ok.con (.refl L H) q)
theorem ae_non {j:Nat} (q:Q .non L):AE C (.Constant .none j pos) Γ L Q:=fun F σ H ok QV go=>dD pe_non (go _ _ H L .non ok.con (.refl L H) q)
theorem lA {x:Str} {j:Nat} (q:Q (.str x) L) (hz:SOk x:=by exact ⟨by decide+kernel,by decide+kernel⟩):AE C (.Constant (.str x) j pos) Γ L Q:=fun F σ H ok QV go=>dD pe_str (go _ _ H L (.str x hz) ok.con (.refl L H) q)
theorem yQ {x:Str} {v:V} {u:Value} {d:D} (hm:C.X.mg x=some u) (r:RelV v u) (rd:∀{F} H,Rep C.X.K F H v d) (q:Q d L) (hg:Gl C.X x:=by rfl) (hd:(x==("__debug__" :Str))=false:=by decide):AE C (.Name x pos) Γ L Q:=fun F σ H ok QV go=>
 dD (pe_glob hg hm r hd) (go _ _ H L (rd H) ok.con (.refl L H) q)
theorem jK {x:Str} {i:Int} {t:Tok} (hm:C.X.mg x=some (.int i t)) (q:Q (.int i) L) (hg:Gl C.X x:=by rfl) (hd:(x==("__debug__" :Str))=false:=by decide):AE C (.Name x pos) Γ L Q:=yQ (v:= .int i) hm ⟨t,rfl⟩ (fun _=> .int i) q hg hd
theorem jJ {x y:Str} {t:Tok} (hm:C.X.mg x=some (.str y t)) (q:Q (.str y) L) (hz:SOk y:=by exact ⟨by decide+kernel,by decide+kernel⟩) (hg:Gl C.X x:=by rfl) (hd:(x==("__debug__" :Str))=false:=by decide):AE C (.Name x pos) Γ L Q:=yQ (v:= .str y) hm ⟨t,rfl⟩ (fun _=> .str y hz) q hg hd
theorem jB {x:Str} {T:String} (hm:C.X.mg x=none) (hv:bootBuiltins x=some (.type T)) (q:Q (.ty T) L) (hg:Gl C.X x:=by rfl) (hn:x≠"__name__" :=by decide) (hd:(x==("__debug__" :Str))=false:=by decide):AE C (.Name x pos) Γ L Q:=fun F σ H ok QV go=>
 dD (pe_bltn hg hm hv (v:= .ty T) rfl hn hd) (go _ _ H L (.ty T) ok.con (.refl L H) q)

def L2R (C:Ctx) (r:R2) (x y:D) (L:Lp) (Q:D→Lp→Prop):Prop:= ∀F vx vy H,C.Con L F H→Rep C.X.K F H vx x→Rep C.X.K F H vy y→∀QV,Go C L F H Q QV→r vx vy H QV
theorem zY {t:Expr} {r:R2} (hp:PE C.X t (tOp r (WE C.X a) (WE C.X b))) (h:AE C a Γ L fun x L1=>AE C b Γ L1 fun y L2=>L2R C r x y L2 Q):AE C t Γ L Q:=fun F σ H ok QV go=>
 dD hp (h _ σ H ok _ fun vx x H1 L1 rx c1 f1 q1=>q1 _ σ H1 (ok.step c1 f1) _ fun vy y H2 L2 ry c2 f2 q2=>q2 _ vx vy H2 c2 (rx.mono f2.mv) ry QV (go.after (f1.trans f2)))
theorem bD {op:Operator} {r:R2} (ho:OpR C.X (binaryOp op) r) (h:AE C a Γ L fun x L1=>AE C b Γ L1 fun y L2=>L2R C r x y L2 Q):AE C (.BinOp a op b pos) Γ L Q:=zY (pe_op ho bA bA) h
theorem eQ {op:CmpOp} {r:R2} (ho:OpR C.X (compareOp op) r) (hm:behindInMarks op b=false) (h:AE C a Γ L fun x L1=>AE C b Γ L1 fun y L2=>L2R C r x y L2 Q):AE C (.Compare a [op] [b] pos) Γ L Q:=zY (pe_cmpR ho bA bA hm) h
theorem eU {op:CmpOp} {r:R2} {Q:Bool→Lp→Prop} (ho:OpR C.X (compareOp op) r) (hm:behindInMarks op b=false) (h:AE C a Γ L fun x L1=>AE C b Γ L1 fun y L2=>L2R C r x y L2 fun d L3=> ∃k,d= .bl k∧Q k L3):AT C (.Compare a [op] [b] pos) Γ L Q:=fun F σ H ok QV go=>
 aAn (pt_cmpR ho bA bA hm) (h _ σ H ok _ fun vx x H1 L1 rx c1 f1 q1=>q1 _ σ H1 (ok.step c1 f1) _ fun vy y H2 L2 ry c2 f2 q2=>q2 _ vx vy H2 c2 (rx.mono f2.mv) ry _ fun v d H3 L3 r3 c3 f3 ⟨k,e,q3⟩=>by
  subst e
  exact ⟨k,r3.blE,go k H3 L3 c3 ((f1.trans f2).trans f3) q3⟩)
theorem bJ {r:R2} (hr:IxR C.X r) (h:AE C a Γ L fun x L1=>AE C b Γ L1 fun y L2=>L2R C r x y L2 Q) (hs:PlainIx b:=by exact fun _ _=>rfl):AE C (.Subscript a b pos) Γ L Q:=zY (pe_ix hr bA bA hs) h
theorem aBB {g:Int→Int→V} {g':Int→Int→D} {i j:Int} (hg:∀{F} H,Rep C.X.K F H (g i j) (g' i j)) (q:Q (g' i j) L):L2R C (rI0 g) (.int i) (.int j) L Q:=fun F vx vy H c rx ry QV go=>⟨i,j,rx.intE,ry.intE,go _ _ H L (hg H) c (.refl L H) q⟩
theorem r_I {Cd:Int→Int→Prop} {g:Int→Int→V} {g':Int→Int→D} {i j:Int} (hc:Cd i j) (hg:∀{F} H,Rep C.X.K F H (g i j) (g' i j)) (q:Q (g' i j) L):L2R C (rI Cd g) (.int i) (.int j) L Q:=fun F vx vy H c rx ry QV go=>⟨i,j,rx.intE,ry.intE,hc,go _ _ H L (hg H) c (.refl L H) q⟩
end
end DL
namespace DL
open PySem PySem.Spec PyProof.Rows L2

section
variable {C:Ctx} {Γ:Gm} {L:Lp} {e a b c:Expr} {es:List Expr} {pos:Pos} {st:Stmt} {sts:List Stmt} {E:AEnds} {Q:D→Lp→Prop}

theorem sU {i j:Int} (q:Q (.int (i+j)) L):L2R C (rI0 fun i j=> .int (i+j)) (.int i) (.int j) L Q:=aBB (g':=fun i j=> .int (i+j)) (fun _=> .int _) q
theorem r_sub {i j:Int} (q:Q (.int (i - j)) L):L2R C (rI0 fun i j=> .int (i - j)) (.int i) (.int j) L Q:=aBB (g':=fun i j=> .int (i - j)) (fun _=> .int _) q
theorem tX {i j:Int} (h:CMul i j) (q:Q (.int (i*j)) L):L2R C (rI CMul fun i j=> .int (i*j)) (.int i) (.int j) L Q:=r_I (g':=fun i j=> .int (i*j)) h (fun _=> .int _) q
theorem tY {i j:Int} (h:0 < j) (q:Q (.int (i % j)) L):L2R C (rI (fun _ j=>0 < j) fun i j=> .int (i % j)) (.int i) (.int j) L Q:=r_I (Cd:=fun _ j=>0 < j) (g:=fun i j=> .int (i % j)) (g':=fun i j=> .int (i % j)) h (fun _=> .int _) q
theorem aAx {i j:Int} (h:CDiv i j) (q:Q (.int (i / j)) L):L2R C (rI CDiv fun i j=> .int (i / j)) (.int i) (.int j) L Q:=r_I (g':=fun i j=> .int (i / j)) h (fun _=> .int _) q
theorem aBc {i j:Int} (h:CPow i j) (q:Q (.int (i ^ j.toNat)) L):L2R C (rI CPow fun i j=> .int (i ^ j.toNat)) (.int i) (.int j) L Q:=r_I (g':=fun i j=> .int (i ^ j.toNat)) h (fun _=> .int _) q
theorem aBM {i j:Int} (q:Q (.bl (decide (i < j))) L):L2R C (rI0 fun i j=> .bl (decide (i < j))) (.int i) (.int j) L Q:=aBB (g':=fun i j=> .bl (decide (i < j))) (fun _=> .bl _) q
theorem aBd {i j:Int} (q:Q (.bl (decide (i≤j))) L):L2R C (rI0 fun i j=> .bl (decide (i≤j))) (.int i) (.int j) L Q:=aBB (g':=fun i j=> .bl (decide (i≤j))) (fun _=> .bl _) q
theorem aBN {i j:Int} (q:Q (.bl (decide (j < i))) L):L2R C (rI0 fun i j=> .bl (decide (j < i))) (.int i) (.int j) L Q:=aBB (g':=fun i j=> .bl (decide (j < i))) (fun _=> .bl _) q
theorem r_ge {i j:Int} (q:Q (.bl (decide (j≤i))) L):L2R C (rI0 fun i j=> .bl (decide (j≤i))) (.int i) (.int j) L Q:=aBB (g':=fun i j=> .bl (decide (j≤i))) (fun _=> .bl _) q
theorem vint_dec (i j:Int):decide (V.int i=V.int j)=decide (i=j):=by
 by_cases h:i=j
 ·subst h;simp
 ·rw [decide_eq_false h,decide_eq_false (fun q=>h (V.int.inj q))]
theorem vstr_dec (i j:Str):decide (V.str i=V.str j)=decide (i=j):=by
 by_cases h:i=j
 ·subst h;simp
 ·rw [decide_eq_false h,decide_eq_false (fun q=>h (V.str.inj q))]
theorem aBf {i j:Int} (q:Q (.bl (decide (i=j))) L):L2R C rEq (.int i) (.int j) L Q:=fun F vx vy H c rx ry QV go=>by
 rw [rx.intE,ry.intE]
 refine ⟨rfl,?_⟩
 rw [vint_dec]
 exact go _ _ H L (.bl _) c (.refl L H) q
theorem r_neI {i j:Int} (q:Q (.bl (!decide (i=j))) L):L2R C rNe (.int i) (.int j) L Q:=fun F vx vy H c rx ry QV go=>by
 rw [rx.intE,ry.intE]
 refine ⟨rfl,?_⟩
 rw [vint_dec]
 exact go _ _ H L (.bl _) c (.refl L H) q
theorem r_eqS {i j:Str} (q:Q (.bl (decide (i=j))) L):L2R C rEq (.str i) (.str j) L Q:=fun F vx vy H c rx ry QV go=>by
 rw [rx.strE,ry.strE]
 refine ⟨rfl,?_⟩
 rw [vstr_dec]
 exact go _ _ H L (.bl _) c (.refl L H) q
theorem r_neS {i j:Str} (q:Q (.bl (!decide (i=j))) L):L2R C rNe (.str i) (.str j) L Q:=fun F vx vy H c rx ry QV go=>by
 rw [rx.strE,ry.strE]
 refine ⟨rfl,?_⟩
 rw [vstr_dec]
 exact go _ _ H L (.bl _) c (.refl L H) q

theorem lC (i j:Str):(i++j).length=i.length+j.length:=by
 show (i.cps++j.cps).size=_
 rw [Array.size_append]
 rfl
theorem SOk.app {i j:Str} (hi:SOk i) (hj:SOk j) (h:i.length+j.length≤sizeLine):SOk (i++j):= .of (by rw [lC];exact h) fun k hk=>by
 have e:(i++j).cps.toList=i.cps.toList++j.cps.toList:=by
  show (i.cps++j.cps).toList=_
  simp
 rw [e] at hk
 rcases List.mem_append.mp hk with z | z
 ·exact hi.mem z
 ·exact hj.mem z
theorem SOk.one {k:Nat} (h:k < 0x110000):SOk ⟨#[k]⟩:= .of (by show 1≤sizeLine;decide) fun j hj=>by
 have e:j=k:=by simpa using hj
 rw [e]
 exact h
theorem atI_mem {α:Type} {xs:List α} {i:Int} {d:α} (h:atI xs i=some d):d∈xs:=by
 unfold atI at h
 cases e:ixN xs.length i with
 | none=>
  rw [e] at h
  cases h
 | some j=>
  rw [e] at h
  exact List.mem_of_getElem? (show xs[j]? =some d from h)
abbrev rAddS:R2:=fun x y H Q=> ∃i j,x= .str i∧y= .str j∧i.length+j.length≤sizeLine∧Q (.str (i++j)) H
theorem aAy {i j:Str} (h:i.length+j.length≤sizeLine) (q:Q (.str (i++j)) L):L2R C rAddS (.str i) (.str j) L Q:=fun F vx vy H c rx ry QV go=>⟨i,j,rx.strE,ry.strE,h,go _ _ H L (.str _ (SOk.app rx.bnd ry.bnd h)) c (.refl L H) q⟩
abbrev rLtS:R2:=fun x y H Q=> ∃i j,x= .str i∧y= .str j∧Q (.bl (decide (i.cps.toList < j.cps.toList))) H
theorem r_ltS {i j:Str} (q:Q (.bl (decide (i.cps.toList < j.cps.toList))) L):L2R C rLtS (.str i) (.str j) L Q:=fun F vx vy H c rx ry QV go=>⟨i,j,rx.strE,ry.strE,go _ _ H L (.bl _) c (.refl L H) q⟩
theorem r_ixS {z:Str} {i:Int} {k:Nat} (h:atI z.cps.toList i=some k) (q:Q (.str ⟨#[k]⟩) L):L2R C rIxS (.str z) (.int i) L Q:=fun F vx vy H c rx ry QV go=>⟨z,i,k,rx.strE,ry.intE,rx.bnd.len,h,go _ _ H L (.str _ (.one (SOk.mem rx.bnd (atI_mem h)))) c (.refl L H) q⟩

theorem aZ.nil_iff {K:PySem.W.Frag} {F:Fz} {H:Hp} {vs:List V} {ds:List D} (r:aZ K F H vs ds):vs= []↔ds= []:=by
 cases r with
 | nil=>simp
 | cons _ _=>simp
theorem r_catT {xs ys:List D} (hz:xs.length+ys.length≤sizeLine) (q:Q (.tup (xs++ys)) L):L2R C (rCatA C.X.K) (.tup xs) (.tup ys) L Q:=fun F vx vy H c rx ry QV go=>by
 obtain ⟨a,vs,rfl,ha,ra⟩:=rx.tupE
 obtain ⟨b,ws,rfl,hb,rb⟩:=ry.tupE
 refine ⟨a,b,vs,ws,rfl,rfl,SqT.of ha,SqT.of hb,by rw [ra.length,rb.length];exact hz,fun h=> ?_,fun h1 h2=> ?_,fun h1 h2 p hp=> ?_⟩
 ·have e:=ra.nil_iff.mp h
  subst e
  exact go _ _ H L ry c (.refl L H) q
 ·have e:=rb.nil_iff.mp h2
  subst e
  rw [List.append_nil] at q
  exact go _ _ H L rx c (.refl L H) q
 ·exact go _ _ _ L (Rep.tupI upd_same ((ra.append rb).mono (.new hp)) (by rw [List.length_append];exact hz)) (c.new hp) (.new hp) q
theorem wC {K:PySem.W.Frag} {F:Fz} {H:Hp} {vs:List V} {ds:List D} {i:Int} {d:D} (r:aZ K F H vs ds) (h:atI ds i=some d):∃v,atI vs i=some v∧Rep K F H v d:=by
 unfold atI at h ⊢
 rw [r.length]
 cases e:ixN ds.length i with
 | none=>
  rw [e] at h
  cases h
 | some j=>
  rw [e] at h
  obtain ⟨v,h1,h2⟩:=r.get (show ds[j]? =some d from h)
  exact ⟨v,h1,h2⟩
theorem aAw {xs:List D} {i:Int} {d:D} (h:atI xs i=some d) (q:Q d L):L2R C (rIxT C.X.K) (.tup xs) (.int i) L Q:=fun F vx vy H c rx ry QV go=>by
 obtain ⟨a,vs,rfl,ha,ra⟩:=rx.tupE
 obtain ⟨v,h1,h2⟩:=wC ra h
 exact ⟨a,vs,i,v,rfl,ry.intE,SqT.of ha,h1,go _ _ H L h2 c (.refl L H) q⟩
theorem oV {p:Addr} {xs:List D} {i:Int} {d:D} (hp:L p=some (.lst xs)) (h:atI xs i=some d) (q:Q d L):L2R C (rIxL C.X.K) (.ptr p) (.int i) L Q:=fun F vx vy H c rx ry QV go=>by
 obtain ⟨vs,ha,ra,hz⟩:=c.at_ p _ hp
 obtain ⟨v,h1,h2⟩:=wC ra h
 exact ⟨p,vs,i,v,rx.ptrE,ry.intE,SqL.of ha,h1,go _ _ H L h2 c (.refl L H) q⟩
theorem r_ixN {ns:List Int} {i k:Int} (h:atI ns i=some k) (q:Q (.int k) L):L2R C (rIxL C.X.K) (.ilst ns) (.int i) L Q:=fun F vx vy H c rx ry QV go=>by
 obtain ⟨a,rfl,ha⟩:=rx.ilstE
 refine ⟨a,_,i,.int k,rfl,ry.intE,ha,?_,go _ _ H L (.int k) c (.refl L H) q⟩
 unfold atI at h ⊢
 rw [List.length_map]
 cases e:ixN ns.length i with
 | none=>
  rw [e] at h
  cases h
 | some j=>
  rw [e] at h
  show (ns.map V.int)[j]? =_
  rw [List.getElem?_map,show ns[j]? =some k from h]
  rfl

theorem nR {Q:Bool→Lp→Prop} (h:AE C e Γ L fun d L'=> ∃k,d= .bl k∧Q k L') (he:∀whole,isTrue e C.X.env whole=(do let v ←whole;standAt e.pos;holding [v] (truthy v)):=by intro _;rfl):AT C e Γ L Q:=fun F σ H ok QV go=>
 aAn (pt_val bA he) (h _ σ H ok _ fun v d H1 L1 r c f ⟨k,ek,q⟩=>by
  subst ek
  exact ⟨k,r.blE,go k H1 L1 c f q⟩)
theorem mO {Q:Bool→Lp→Prop} (h:AT C e Γ L fun k L'=>Q (!k) L'):AT C (.UnaryOp .Not e pos) Γ L Q:=fun F σ H ok QV go=>
 aAn (pt_not vD) (h _ σ H ok _ fun k H1 L1 c f q=>go (!k) H1 L1 c f q)
def AW (C:Ctx) (e:Expr) (Γ:Gm) (L:Lp) (Q:Bool→Lp→Prop):Prop:= ∀F σ H,Ok C Γ L F σ H→∀QV,GoT C L F H Q QV→∃t,PW C.X e t∧t σ H QV
structure WW (X:Cx) (e:Expr) (σ:L2.St) (H:Hp) (Q:Bool→Hp→Prop):Prop where
 run:∀(whole:Sem Value) (pins:List (Addr×Obj)) (s:Shared),Inv X pins σ H s→wpAny (model X.prog X.w) X.A (isTrue e X.env whole) (TP X pins σ Q) X.xe s
theorem aBk {X:Cx} {e:Expr}:PW X e (WW X e):=⟨fun wh pins s σ H Q I h=>h.run wh pins s I⟩
theorem AW.ww {Q:Bool→Lp→Prop} (h:AW C e Γ L Q) {σ:L2.St} {F:Fz} {H:Hp} (ok:Ok C Γ L F σ H) {QV:Bool→Hp→Prop} (go:GoT C L F H Q QV):WW C.X e σ H QV:=by
 obtain ⟨t,p,q⟩:=h _ σ H ok QV go
 exact ⟨fun wh pins s I=>p.run wh pins s σ H QV I q⟩
theorem aAT {Q:Bool→Lp→Prop} (h:AW C e Γ L Q):AT C e Γ L Q:=fun F σ H ok QV go=>aAn aBk.pt (h.ww ok go)
theorem wB {Q:Bool→Lp→Prop} (h:AT C a Γ L Q):AW C (.BoolOp .And [a] pos) Γ L Q:=fun F σ H ok QV go=>⟨_,pw_and1 vD,h _ σ H ok QV go⟩
theorem tM {Q:Bool→Lp→Prop} (h:AT C a Γ L Q):AW C (.BoolOp .Or [a] pos) Γ L Q:=fun F σ H ok QV go=>⟨_,pw_or1 vD,h _ σ H ok QV go⟩
theorem zX {Q:Bool→Lp→Prop} (h:AT C a Γ L fun k L1=>(k=true→AW C (.BoolOp .And (b::es) pos) Γ L1 Q)∧(k=false→Q false L1)):AW C (.BoolOp .And (a::b::es) pos) Γ L Q:=fun F σ H ok QV go=>
 ⟨_,pw_and vD aBk,h _ σ H ok _ fun k H1 L1 c f q=>by
  cases k with
  | true=>exact AW.ww (q.1 rfl) (ok.step c f) (go.after f)
  | false=>exact go false H1 L1 c f (q.2 rfl)⟩
theorem uB {Q:Bool→Lp→Prop} (h:AT C a Γ L fun k L1=>(k=true→Q true L1)∧(k=false→AW C (.BoolOp .Or (b::es) pos) Γ L1 Q)):AW C (.BoolOp .Or (a::b::es) pos) Γ L Q:=fun F σ H ok QV go=>
 ⟨_,pw_or vD aBk,h _ σ H ok _ fun k H1 L1 c f q=>by
  cases k with
  | true=>exact go true H1 L1 c f (q.1 rfl)
  | false=>exact AW.ww (q.2 rfl) (ok.step c f) (go.after f)⟩
theorem pJ {op:BoolOp} (h:AE C a Γ L Q):AE C (.BoolOp op [a] pos) Γ L Q:=fun F σ H ok QV go=>dD (pe_one bA) (h _ σ H ok QV go)
theorem lB (h:AE C a Γ L fun d L1=> ∃k,d= .bl k∧(k=true→AE C (.BoolOp .And (b::es) pos) Γ L1 Q)∧(k=false→Q (.bl false) L1)):AE C (.BoolOp .And (a::b::es) pos) Γ L Q:=fun F σ H ok QV go=>
 dD (pe_and bA bA) (h _ σ H ok _ fun v d H1 L1 r c f ⟨k,ek,q1,q2⟩=>by
  subst ek
  refine ⟨k,r.blE,?_⟩
  cases k with
  | true=>exact (q1 rfl) _ σ H1 (ok.step c f) _ (go.after f)
  | false=>exact go _ _ H1 L1 (.bl false) c f (q2 rfl))
theorem ae_or (h:AE C a Γ L fun d L1=> ∃k,d= .bl k∧(k=true→Q (.bl true) L1)∧(k=false→AE C (.BoolOp .Or (b::es) pos) Γ L1 Q)):AE C (.BoolOp .Or (a::b::es) pos) Γ L Q:=fun F σ H ok QV go=>
 dD (pe_or bA bA) (h _ σ H ok _ fun v d H1 L1 r c f ⟨k,ek,q1,q2⟩=>by
  subst ek
  refine ⟨k,r.blE,?_⟩
  cases k with
  | true=>exact go _ _ H1 L1 (.bl true) c f (q1 rfl)
  | false=>exact (q2 rfl) _ σ H1 (ok.step c f) _ (go.after f))
theorem ae_not (h:AE C a Γ L fun d L1=> ∃k,d= .bl k∧Q (.bl (!k)) L1):AE C (.UnaryOp .Not a pos) Γ L Q:=fun F σ H ok QV go=>
 dD (pe_not bA) (h _ σ H ok _ fun v d H1 L1 r c f ⟨k,ek,q⟩=>by
  subst ek
  exact ⟨k,r.blE,go _ _ H1 L1 (.bl _) c f q⟩)
theorem wM (h:AT C c Γ L fun k L1=>(k=true→AE C a Γ L1 Q)∧(k=false→AE C b Γ L1 Q)):AE C (.IfExp c a b pos) Γ L Q:=fun F σ H ok QV go=>
 dD (pe_ifExp vD bA bA) (h _ σ H ok _ fun k H1 L1 c f q=>by
  cases k with
  | true=>exact (q.1 rfl) _ σ H1 (ok.step c f) _ (go.after f)
  | false=>exact (q.2 rfl) _ σ H1 (ok.step c f) _ (go.after f))
theorem ae_chain {op op':CmpOp} {r r':R2} (ho:OpR C.X (compareOp op) r) (ho':OpR C.X (compareOp op') r')
  (h:AE C a Γ L fun x L1=>AE C b Γ L1 fun y L2=>L2R C r x y L2 fun d L3=> ∃k,d= .bl k∧(k=true→AE C c Γ L3 fun z L4=>L2R C r' y z L4 Q)∧(k=false→Q (.bl false) L3))
  (hp:PE C.X (.Compare a [op,op'] [b,c] pos) (tChain r r' (WE C.X a) (WE C.X b) (WE C.X c))):AE C (.Compare a [op,op'] [b,c] pos) Γ L Q:=fun F σ H ok QV go=>
 dD hp (h _ σ H ok _ fun vx x H1 L1 rx c1 f1 q1=>q1 _ σ H1 (ok.step c1 f1) _ fun vy y H2 L2 ry c2 f2 q2=>q2 _ vx vy H2 c2 (rx.mono f2.mv) ry _ fun v d H3 L3 r3 c3 f3 ⟨k,ek,k1,k2⟩=>by
  subst ek
  refine ⟨k,r3.blE,?_⟩
  cases k with
  | true=>
   have o3:=ok.step c3 ((f1.trans f2).trans f3)
   exact (k1 rfl) _ σ H3 o3 _ fun vz z H4 L4 rz c4 f4 q4=>q4 _ vy vz H4 c4 ((ry.mono f3.mv).mono f4.mv) rz QV (go.after (((f1.trans f2).trans f3).trans f4))
  | false=>exact go _ _ H3 L3 (.bl false) c3 ((f1.trans f2).trans f3) (k2 rfl))
end
end DL
namespace DL
open PySem PySem.Spec PyProof.Rows L2

section
variable {C:Ctx} {Γ:Gm} {L:Lp} {e a b c o:Expr} {es:List Expr} {pos:Pos} {st:Stmt} {sts:List Stmt} {E:AEnds} {Q:D→Lp→Prop}

theorem aD {Q:List D→Lp→Prop} (q:Q [] L):AA C [] Γ L Q:=fun F σ H ok QV go=>wa_of pa_nil (go [] [] H L .nil ok.con (.refl L H) q)
theorem aC {Q:List D→Lp→Prop} (h:AE C e Γ L fun d L1=>AA C es Γ L1 fun ds L2=>Q (d::ds) L2) (hs:starEach (e::es) C.X.env=(false,eval e C.X.env)::starEach es C.X.env:=by rfl):AA C (e::es) Γ L Q:=fun F σ H ok QV go=>
 wa_of (pa_cons bA qT hs) (h _ σ H ok _ fun v d H1 L1 r c f q=>q _ σ H1 (ok.step c f) _ fun vs ds H2 L2 r2 c2 f2 q2=>go (v::vs) (d::ds) H2 L2 (.cons (r.mono f2.mv) r2) c2 (f.trans f2) q2)
theorem bM {x1:Nat} (h:AA C es Γ L fun ds L1=>ds.length≤sizeLine∧Q (.tup ds) L1):AE C (.Tuple es x1 pos) Γ L Q:=fun F σ H ok QV go=>
 dD (pe_tup qT) (h _ σ H ok _ fun vs ds H1 L1 r c f ⟨hz,q⟩=>⟨by rw [r.length];exact hz,fun p hp=>go _ _ _ L1 (Rep.tupI upd_same (r.mono (.new hp)) hz) (c.new hp) (f.trans (.new hp)) q⟩)
theorem jH (h:AA C es Γ L fun ds L1=>ds.length≤sizeLine∧∀p,L1 p=none→Q (.ptr p) (put L1 p (.lst ds))):AE C (.List es pos) Γ L Q:=fun F σ H ok QV go=>
 dD (pe_lst qT) (h _ σ H ok _ fun vs ds H1 L1 r c f ⟨hz,q⟩=>⟨by rw [r.length];exact hz,fun p hp=>go _ _ _ (put L1 p (.lst ds)) (.ptr p) (c.newL hp ⟨vs,upd_same,r.mono (.new hp),hz⟩) (f.trans (.newL hp)) (q p (c.free hp))⟩)

structure WO (X:Cx) (e:Option Expr) (σ:L2.St) (H:Hp) (Q:Option Int→Hp→Prop):Prop where
 run:∀(pins:List (Addr×Obj)) (s:Shared),Inv X pins σ H s→wpAny (model X.prog X.w) X.A (evalPart e X.env) (fun u s'=> ∃o H',Inv X pins σ H' s'∧IsPart u o∧Q o H') X.xe s
theorem po_wo {X:Cx} {e:Option Expr}:PO X e (WO X e):=⟨fun pins s σ H Q I h=>h.run pins s I⟩
def AO (C:Ctx) (e:Option Expr) (Γ:Gm) (L:Lp) (Q:Option Int→Lp→Prop):Prop:= ∀F σ H,Ok C Γ L F σ H→∀QV:Option Int→Hp→Prop,(∀{F'} i H' L',C.Con L' F' H'→Fr L F H L' F' H'→Q i L'→QV i H')→WO C.X e σ H QV
theorem lQ {Q:Option Int→Lp→Prop} (q:Q none L):AO C none Γ L Q:=fun F σ H ok QV go=>⟨fun pins s I=>po_none.run pins s σ H QV I (go none H L ok.con (.refl L H) q)⟩
theorem lO {Q:Option Int→Lp→Prop} (h:AE C e Γ L fun d L1=> ∃i,d= .int i∧Q (some i) L1):AO C (some e) Γ L Q:=fun F σ H ok QV go=>⟨fun pins s I=>(po_some bA).run pins s σ H QV I (h _ σ H ok _ fun v d H1 L1 r c f ⟨i,e,q⟩=>by
 subst e
 exact ⟨i,r.intE,go (some i) H1 L1 c f q⟩)⟩
def LsR (C:Ctx) (r:V→Option Int→Option Int→Hp→VK→Prop) (x:D) (lo hi:Option Int) (L:Lp) (Q:D→Lp→Prop):Prop:= ∀F v H,C.Con L F H→Rep C.X.K F H v x→∀QV,Go C L F H Q QV→r v lo hi H QV
theorem iI {r:V→Option Int→Option Int→Hp→VK→Prop} {lo hi:Option Expr} {p2:Pos} (hr:SlR C.X r) (h:AE C e Γ L fun x L1=>AO C lo Γ L1 fun l L2=>AO C hi Γ L2 fun u L3=>LsR C r x l u L3 Q):AE C (.Subscript e (.Slice lo hi none p2) pos) Γ L Q:=fun F σ H ok QV go=>
 dD (pe_slice hr bA po_wo po_wo) (h _ σ H ok _ fun v x H1 L1 r1 c1 f1 q1=>q1 _ σ H1 (ok.step c1 f1) _ fun l H2 L2 c2 f2 q2=>q2 _ σ H2 (ok.step c2 (f1.trans f2)) _ fun u H3 L3 c3 f3 q3=>
  q3 _ v H3 c3 ((r1.mono f2.mv).mono f3.mv) QV (go.after ((f1.trans f2).trans f3)))
def cut {α:Type} (xs:List α) (lo hi:Option Int):List α:=(xs.drop (HT.sIx xs.length 0 lo)).take (HT.sIx xs.length xs.length hi - HT.sIx xs.length 0 lo)
theorem aZ.cut {K:PySem.W.Frag} {F:Fz} {H:Hp} {vs:List V} {ds:List D} (r:aZ K F H vs ds) (lo hi:Option Int):aZ K F H (cutV vs lo hi) (DL.cut ds lo hi):=by
 unfold cutV DL.cut
 rw [r.length]
 exact (r.drop _).take _
theorem cut_len {α:Type} (xs:List α) (lo hi:Option Int):(cut xs lo hi).length≤xs.length:=by
 unfold cut
 rw [List.length_take,List.length_drop]
 omega
theorem cut_whole {α:Type} {xs:List α} {lo hi:Option Int} (h:HT.sIx xs.length 0 lo=0∧HT.sIx xs.length xs.length hi=xs.length):cut xs lo hi=xs:=by
 unfold cut
 rw [h.1,h.2]
 simp
theorem aAd {xs:List D} {lo hi:Option Int} (q:Q (.tup (cut xs lo hi)) L):LsR C (rSlA C.X.K) (.tup xs) lo hi L Q:=fun F v H c r QV go=>by
 obtain ⟨a,vs,rfl,ha,ra⟩:=r.tupE
 refine ⟨a,vs,rfl,SqT.of ha,fun h=> ?_,fun _ p hp=> ?_⟩
 ·rw [ra.length] at h
  rw [cut_whole h] at q
  exact go _ _ H L r c (.refl L H) q
 ·exact go _ _ _ L (Rep.tupI upd_same ((ra.cut lo hi).mono (.new hp)) (Nat.le_trans (cut_len xs lo hi) r.bnd)) (c.new hp) (.new hp) q
def LcR (C:Ctx) (r:List V→Hp→VK→Prop) (xs:List D) (L:Lp) (Q:D→Lp→Prop):Prop:= ∀F vs H,C.Con L F H→aZ C.X.K F H vs xs→∀QV,Go C L F H Q QV→r vs H QV
theorem aP {x:Str} {id:String} {r:List V→Hp→VK→Prop} {p:Pos} (hc:CallR C.X (.builtin id) r) (hm:C.X.mg x=none) (h:AA C (e::es) Γ L fun ds L1=>LcR C r ds L1 Q) (hv:bootBuiltins x=some (.builtin id):=by decide+kernel) (hg:Gl C.X x:=by rfl) (hn:x≠"__name__" :=by decide) (hdb:(x==("__debug__" :Str))=false:=by decide)
  (he:starEach (e::es) C.X.env=(false,eval e C.X.env)::starEach es C.X.env:=by rfl) (hpl:(backTo pos (starEach es C.X.env)).any (·.1)=false:=by rfl):AE C (.Call (.Name x p) (e::es) [] pos) Γ L Q:=fun F σ H ok QV go=>
 dD (pe_callB hc hg hm hv qT hn hdb he hpl) (h _ σ H ok _ fun vs ds H1 L1 r1 c1 f1 q1=>q1 _ vs H1 c1 r1 QV (go.after f1))
theorem aR {x:Str} {T:String} {r:List V→Hp→VK→Prop} {p:Pos} (hc:CallR C.X (.type T) r) (hm:C.X.mg x=none) (h:AA C (e::es) Γ L fun ds L1=>LcR C r ds L1 Q) (hv:bootBuiltins x=some (.type T):=by decide+kernel) (hg:Gl C.X x:=by rfl) (hn:x≠"__name__" :=by decide) (hdb:(x==("__debug__" :Str))=false:=by decide)
  (he:starEach (e::es) C.X.env=(false,eval e C.X.env)::starEach es C.X.env:=by rfl) (hpl:(backTo pos (starEach es C.X.env)).any (·.1)=false:=by rfl):AE C (.Call (.Name x p) (e::es) [] pos) Γ L Q:=fun F σ H ok QV go=>
 dD (pe_callTy hc hg hm hv qT hn hdb he hpl) (h _ σ H ok _ fun vs ds H1 L1 r1 c1 f1 q1=>q1 _ vs H1 c1 r1 QV (go.after f1))
theorem aZ.oneE {K:PySem.W.Frag} {F:Fz} {H:Hp} {vs:List V} {d:D} (r:aZ K F H vs [d]):∃v,vs= [v]∧Rep K F H v d:=by
 cases r with
 | cons r t=>
  cases t
  exact ⟨_,rfl,r⟩
theorem aZ.twoE {K:PySem.W.Frag} {F:Fz} {H:Hp} {vs:List V} {d d2:D} (r:aZ K F H vs [d,d2]):∃v w,vs= [v,w]∧Rep K F H v d∧Rep K F H w d2:=by
 cases r with
 | cons r t=>
  obtain ⟨w,rfl,r2⟩:=aZ.oneE t
  exact ⟨_,w,rfl,r,r2⟩
abbrev aAB (K:PySem.W.Frag):List V→Hp→VK→Prop:=fun xs H Q=> ∃p ys,xs= [.ref p]∧(SqL K H p ys∨SqT K H p ys)∧Q (.int ys.length) H
theorem uI {xs:List D} (q:Q (.int xs.length) L):LcR C (aAB C.X.K) [.tup xs] L Q:=fun F vs H c r0 QV go=>by
 obtain ⟨v,rfl,r⟩:=r0.oneE
 obtain ⟨a,ws,rfl,ha,ra⟩:=r.tupE
 refine ⟨a,ws,rfl,.inr (SqT.of ha),?_⟩
 rw [ra.length]
 exact go _ _ H L (.int _) c (.refl L H) q
theorem c_lenL {p:Addr} {xs:List D} (hp:L p=some (.lst xs)) (q:Q (.int xs.length) L):LcR C (aAB C.X.K) [.ptr p] L Q:=fun F vs H c r0 QV go=>by
 obtain ⟨v,rfl,r⟩:=r0.oneE
 obtain ⟨ws,ha,ra,hzz⟩:=c.at_ p _ hp
 refine ⟨p,ws,by rw [r.ptrE],.inl (SqL.of ha),?_⟩
 rw [ra.length]
 exact go _ _ H L (.int _) c (.refl L H) q
theorem c_lenN {ns:List Int} (q:Q (.int ns.length) L):LcR C (aAB C.X.K) [.ilst ns] L Q:=fun F vs H c r0 QV go=>by
 obtain ⟨v,rfl,r⟩:=r0.oneE
 obtain ⟨a,rfl,ha⟩:=r.ilstE
 refine ⟨a,_,rfl,.inl ha,?_⟩
 rw [List.length_map]
 exact go _ _ H L (.int _) c (.refl L H) q
abbrev rLenSt:List V→Hp→VK→Prop:=fun xs H Q=> ∃z,xs= [.str z]∧z.length≤sizeLine∧Q (.int z.length) H
theorem aAP {z:Str} (q:Q (.int z.length) L):LcR C rLenSt [.str z] L Q:=fun F vs H c r0 QV go=>by
 obtain ⟨v,rfl,r⟩:=r0.oneE
 exact ⟨z,by rw [r.strE],r.bnd.len,go _ _ H L (.int _) c (.refl L H) q⟩
abbrev rAbs:List V→Hp→VK→Prop:=fun xs H Q=> ∃i,xs= [.int i]∧Q (.int (if i < 0 then -i else i)) H
theorem aBv {i:Int} (q:Q (.int (if i < 0 then -i else i)) L):LcR C rAbs [.int i] L Q:=fun F vs H c r0 QV go=>by
 obtain ⟨v,rfl,r⟩:=r0.oneE
 exact ⟨i,by rw [r.intE],go _ _ H L (.int _) c (.refl L H) q⟩
abbrev aBi:List V→Hp→VK→Prop:=fun xs H Q=>(∃i,xs= [.int i]∧Q (.int i) H)∨∃k,xs= [.bl k]∧Q (.int (if k then 1 else 0)) H
theorem mK {i:Int} (q:Q (.int i) L):LcR C aBi [.int i] L Q:=fun F vs H c r0 QV go=>by
 obtain ⟨v,rfl,r⟩:=r0.oneE
 exact .inl ⟨i,by rw [r.intE],go _ _ H L (.int _) c (.refl L H) q⟩
theorem c_intB {k:Bool} (q:Q (.int (if k then 1 else 0)) L):LcR C aBi [.bl k] L Q:=fun F vs H c r0 QV go=>by
 obtain ⟨v,rfl,r⟩:=r0.oneE
 exact .inr ⟨k,by rw [r.blE],go _ _ H L (.int _) c (.refl L H) q⟩
abbrev rMx:List V→Hp→VK→Prop:=fun xs H Q=> ∃i j,xs= [.int i,.int j]∧Q (.int (if j > i then j else i)) H
abbrev rMn:List V→Hp→VK→Prop:=fun xs H Q=> ∃i j,xs= [.int i,.int j]∧Q (.int (if j < i then j else i)) H
theorem c_max {i j:Int} (q:Q (.int (if j > i then j else i)) L):LcR C rMx [.int i,.int j] L Q:=fun F vs H c r QV go=>by
 obtain ⟨v,w,rfl,r1,r2⟩:=r.twoE
 exact ⟨i,j,by rw [r1.intE,r2.intE],go _ _ H L (.int _) c (.refl L H) q⟩
theorem c_min {i j:Int} (q:Q (.int (if j < i then j else i)) L):LcR C rMn [.int i,.int j] L Q:=fun F vs H c r QV go=>by
 obtain ⟨v,w,rfl,r1,r2⟩:=r.twoE
 exact ⟨i,j,by rw [r1.intE,r2.intE],go _ _ H L (.int _) c (.refl L H) q⟩
abbrev zG (K:PySem.W.Frag):List V→Hp→VK→Prop:=fun xs H Q=> ∃p ys,xs= [.ref p]∧((SqL K H p ys∧∀l,H l=none→Q (.ref l) (upd H l (.tup ys)))∨(SqT K H p ys∧Q (.ref p) H))
theorem mJ {p:Addr} {xs:List D} (hp:L p=some (.lst xs)) (q:Q (.tup xs) L):LcR C (zG C.X.K) [.ptr p] L Q:=fun F vs H c r0 QV go=>by
 obtain ⟨v,rfl,r⟩:=r0.oneE
 obtain ⟨ws,ha,ra,hzz⟩:=c.at_ p _ hp
 exact ⟨p,ws,by rw [r.ptrE],.inl ⟨SqL.of ha,fun l hl=>go _ _ _ L (Rep.tupI upd_same (ra.mono (.new hl)) hzz) (c.new hl) (.new hl) q⟩⟩
theorem c_tupT {xs:List D} (q:Q (.tup xs) L):LcR C (zG C.X.K) [.tup xs] L Q:=fun F vs H c r0 QV go=>by
 obtain ⟨v,rfl,r⟩:=r0.oneE
 obtain ⟨a,ws,rfl,ha,ra⟩:=r.tupE
 exact ⟨a,ws,rfl,.inr ⟨SqT.of ha,go _ _ H L r c (.refl L H) q⟩⟩
abbrev rLstOf (K:PySem.W.Frag):List V→Hp→VK→Prop:=fun xs H Q=> ∃p ys,xs= [.ref p]∧(SqL K H p ys∨SqT K H p ys)∧∀l,H l=none→Q (.ref l) (upd H l (.lst ys))
theorem c_lstT {xs:List D} (q:∀l,L l=none→Q (.ptr l) (put L l (.lst xs))):LcR C (rLstOf C.X.K) [.tup xs] L Q:=fun F vs H c r0 QV go=>by
 obtain ⟨v,rfl,r⟩:=r0.oneE
 obtain ⟨a,ws,rfl,ha,ra⟩:=r.tupE
 exact ⟨a,ws,rfl,.inr (SqT.of ha),fun l hl=>go _ _ _ (put L l (.lst xs)) (.ptr l) (c.newL hl ⟨ws,upd_same,ra.mono (.new hl),r.bnd⟩) (.newL hl) (q l (c.free hl))⟩
theorem vA {K:PySem.W.Frag} {F:Fz} {H:Hp}:∀{vs:List V} {bs:List Bool},aZ K F H vs (bs.map D.bl)→vs=bs.map V.bl
 | _,[],.nil=>rfl
 | _,b::bs,.cons r t=>by rw [r.blE,vA t];rfl
theorem cW {K:PySem.W.Frag} {F:Fz} {H:Hp}:∀{vs:List V} {bs:List Str},aZ K F H vs (bs.map D.str)→vs=bs.map V.str
 | _,[],.nil=>rfl
 | _,b::bs,.cons r t=>by rw [r.strE,cW t];rfl
theorem c_all {p:Addr} {bs:List Bool} (hp:L p=some (.lst (bs.map D.bl))) (q:Q (.bl (bs.all id)) L):LcR C (rAll C.X.K) [.ptr p] L Q:=fun F vs H c r0 QV go=>by
 obtain ⟨v,rfl,r⟩:=r0.oneE
 obtain ⟨ws,ha,ra,hzz⟩:=c.at_ p _ hp
 have e:=vA ra
 subst e
 exact ⟨p,bs,by rw [r.ptrE],SqL.of ha,go _ _ H L (.bl _) c (.refl L H) q⟩
theorem c_any {p:Addr} {bs:List Bool} (hp:L p=some (.lst (bs.map D.bl))) (q:Q (.bl (bs.any id)) L):LcR C (rAny C.X.K) [.ptr p] L Q:=fun F vs H c r0 QV go=>by
 obtain ⟨v,rfl,r⟩:=r0.oneE
 obtain ⟨ws,ha,ra,hzz⟩:=c.at_ p _ hp
 have e:=vA ra
 subst e
 exact ⟨p,bs,by rw [r.ptrE],SqL.of ha,go _ _ H L (.bl _) c (.refl L H) q⟩
def tyD:D→String
 | .non=>"NoneType" | .bl _=>"bool" | .int _=>"int" | .str _=>"str" | .ty _=>"type" | .ptr _=>"list" | .ilst _=>"list" | .tup _=>"tuple" | .obj _ _=>"object" | .flst _=>"list" | .fdct _=>"dict" | .kdct _=>"dict" | .tk _=>"tuple" | .wds _=>"tuple" | .iob _ _=>"object"
theorem xJ {x:D} {T:String} {k:Bool} (hx:match x with | .non=>True | .bl _=>True | .int _=>True | .str _=>True | .tup _=>True | _=>False) (hk:kitB (tyD x) T=some k) (q:Q (.bl k) L):LcR C (rIsi C.X.K) [x,.ty T] L Q:=fun F vs H c r QV go=>by
 obtain ⟨v,w,rfl,r1,r2⟩:=r.twoE
 rw [r2.tyE]
 refine ⟨v,.ty T,.type (tyD x),.type T,k,rfl,.ty T,?_,kit_ty hk,go _ _ H L (.bl _) c (.refl L H) q⟩
 cases x with
 | non=>rw [r1.nonE];exact .base .non
 | bl b=>rw [r1.blE];exact .base (.bl b)
 | int i=>rw [r1.intE];exact .base (.int i)
 | str z=>rw [r1.strE];exact .base (.str z)
 | tup ds=>
  obtain ⟨a,ws,rfl,ha,_⟩:=r1.tupE
  exact .base (.tup ha)
 | ty n=>exact hx.elim
 | ptr p=>exact hx.elim
 | ilst ns=>exact hx.elim
 | obj _ _=>exact hx.elim
 | flst _=>exact hx.elim
 | fdct _=>exact hx.elim
 | kdct _=>exact hx.elim
 | wds _=>exact hx.elim
 | tk _=>exact hx.elim
 | iob _ _=>exact hx.elim

def LmR (C:Ctx) (r:V→List V→Hp→VK→Prop) (x:D) (xs:List D) (L:Lp) (Q:D→Lp→Prop):Prop:= ∀F v vs H,C.Con L F H→Rep C.X.K F H v x→aZ C.X.K F H vs xs→∀QV,Go C L F H Q QV→r v vs H QV
def IsTy (T:String) (x:D) (L:Lp):Prop:=match x with
 | .str _=>T="str"
 | .int _=>T="int"
 | .ptr p=>(T="list"∧∃ds,L p=some (.lst ds))∨(T="dict"∧∃kds,L p=some (.dct kds))
 | _=>False
theorem isTy_tyV {T:String} {x:D} {F:Fz} {H:Hp} {v:V} (c:C.Con L F H) (r:Rep C.X.K F H v x) (h:IsTy T x L):tyV C.X.K T v H:=by
 cases x with
 | str z=>rw [r.strE];exact h
 | int i=>rw [r.intE];exact h
 | ptr p=>
  rw [r.ptrE]
  rcases h with ⟨rfl,ds,h⟩ | ⟨rfl,kds,h⟩
  ·obtain ⟨vs,ha,_⟩:=c.at_ p _ h
   exact .inl ⟨rfl,vs,SqL.of ha⟩
  ·obtain ⟨vs,ha,_⟩:=c.at_ p _ h
   exact .inr (.inr (.inl ⟨rfl,.inr ⟨vs,ha⟩⟩))
 | _=>exact h.elim
theorem ae_bm {name:Str} {T id:String} {r:V→List V→Hp→VK→Prop} {apos:Pos} (hp:PE C.X (.Call (.Attribute o name apos) (e::es) [] pos) (tBM C.X.K T r (WE C.X o) (WA C.X (e::es))))
  (h:AE C o Γ L fun x L1=>IsTy T x L1∧AA C (e::es) Γ L1 fun ds L2=>LmR C r x ds L2 Q):AE C (.Call (.Attribute o name apos) (e::es) [] pos) Γ L Q:=fun F σ H ok QV go=>
 dD hp (h _ σ H ok _ fun v x H1 L1 r1 c1 f1 ⟨ty,q1⟩=>⟨isTy_tyV c1 r1 ty,q1 _ σ H1 (ok.step c1 f1) _ fun vs ds H2 L2 r2 c2 f2 q2=>q2 _ v vs H2 c2 (r1.mono f2.mv) r2 QV (go.after (f1.trans f2))⟩)
theorem m_append {p:Addr} {xs:List D} {y:D} (hp:L p=some (.lst xs)) (hz:xs.length < sizeLine) (q:Q .non (put L p (.lst (xs++ [y])))):LmR C rAppend (.ptr p) [y] L Q:=fun F v vs H c r1 r2 QV go=>by
 obtain ⟨w,rfl,r⟩:=r2.oneE
 obtain ⟨ws,ha,ra,hzz⟩:=c.at_ p _ hp
 have s:=Mv.write (o:= .lst (ws++ [w])) c hp
 exact ⟨p,ws,w,r1.ptrE,rfl,ha,by rw [ra.length];exact hz,go _ _ _ (put L p (.lst (xs++ [y]))) .non (c.write hp ⟨_,upd_same,(ra.append (.cons r .nil)).mono s,by rw [List.length_append];exact hz⟩) (.write c hp) q⟩
end
end DL
namespace DL
open PySem PySem.Spec PyProof.Rows L2

structure WG (X:Cx) (tg:Expr) (v:V) (σ:L2.St) (H:Hp) (Q:L2.St→Hp→Prop):Prop where
 run:∀(pins:List (Addr×Obj)) (s:Shared) (u:Value),Inv X pins σ H s→RelV v u→wpAny (model X.prog X.w) X.A (assign tg X.env u) (fun _ s'=> ∃σ' H',Inv X pins σ' H' s'∧Q σ' H') X.xe s
structure WGs (X:Cx) (ts:List Expr) (vs:List V) (σ:L2.St) (H:Hp) (Q:L2.St→Hp→Prop):Prop where
 run:∀(pins:List (Addr×Obj)) (s:Shared) (us:List Value),Inv X pins σ H s→Vals vs us→wpAny (model X.prog X.w) X.A (assignInOrder ((assignEach ts X.env).map (·.2)) us) (fun _ s'=> ∃σ' H',Inv X pins σ' H' s'∧Q σ' H') X.xe s
theorem aBl {X:Cx} {tg:Expr}:PG X tg (WG X tg):=⟨fun pins s σ H v u Q I r h=>h.run pins s u I r⟩
theorem pgs_wgs {X:Cx} {ts:List Expr}:PGs X ts (WGs X ts):=⟨fun pins s σ H vs us Q I r h=>h.run pins s us I r⟩
theorem wg_of {X:Cx} {tg:Expr} {g:TG} {v:V} {σ:L2.St} {H:Hp} {Q:L2.St→Hp→Prop} (h:PG X tg g) (q:g v σ H Q):WG X tg v σ H Q:=⟨fun pins s u I r=>h.run pins s σ H v u Q I r q⟩
theorem wgs_of {X:Cx} {ts:List Expr} {g:TGs} {vs:List V} {σ:L2.St} {H:Hp} {Q:L2.St→Hp→Prop} (h:PGs X ts g) (q:g vs σ H Q):WGs X ts vs σ H Q:=⟨fun pins s us I r=>h.run pins s σ H vs us Q I r q⟩
structure But (ws:List Nat) (σ σ':L2.St):Prop where
 len:σ'.length=σ.length
 at_:∀j,j∉ws→σ'[j]? =σ[j]?
theorem But.refl (ws:List Nat) (σ:L2.St):But ws σ σ:=⟨rfl,fun _ _=>rfl⟩
theorem But.trans {ws zs:List Nat} {σ σ1 σ2:L2.St} (a:But ws σ σ1) (b:But zs σ1 σ2):But (ws++zs) σ σ2:=⟨b.len.trans a.len,fun j h=>(b.at_ j fun z=>h (List.mem_append_right _ z)).trans (a.at_ j fun z=>h (List.mem_append_left _ z))⟩
def AG (C:Ctx) (tg:Expr) (d:D) (Γ Γ':Gm) (ws:List Nat):Prop:= ∀F σ H v,Sl C.X.K F H σ Γ→Rep C.X.K F H v d→∀Q:L2.St→Hp→Prop,(∀σ',Sl C.X.K F H σ' Γ'→But ws σ σ'→Q σ' H)→WG C.X tg v σ H Q
def AGs (C:Ctx) (ts:List Expr) (ds:List D) (Γ Γ':Gm) (ws:List Nat):Prop:= ∀F σ H vs,Sl C.X.K F H σ Γ→aZ C.X.K F H vs ds→∀Q:L2.St→Hp→Prop,(∀σ',Sl C.X.K F H σ' Γ'→But ws σ σ'→Q σ' H)→WGs C.X ts vs σ H Q
section
variable {C:Ctx} {Γ Γ1 Γ2:Gm} {L:Lp} {e a b c o tg:Expr} {es ts:List Expr} {pos p1 p2:Pos} {st:Stmt} {sts:List Stmt} {E:AEnds} {Q:D→Lp→Prop} {d:D} {ds:List D} {ws zs:List Nat}
theorem aM (i:Nat) {x:Str} (hi:C.X.N[i]? =some x:=by rfl) (hx:Loc C.X.env.scope x:=by first | exact Or.inl rfl | exact Or.inr rfl) (hf:C.X.fn x=true∨C.X.env.scope.names.lookup x=some .local:=by first | exact .inl rfl | exact .inr rfl):AG C (.Name x pos) d Γ (Γ.set i (some d)) [i]:=fun F σ H v sl r Q q=>
 wg_of (pg_name C.nd hi hx hf) (q _ (sl.set i r) ⟨by simp,fun j h=>by rw [List.getElem?_set_ne (fun z=>h (by simp [z]))]⟩)
theorem fV:AGs C [] [] Γ Γ []:=fun F σ H vs sl r Q q=>by
 cases r
 exact wgs_of pgs_nil ⟨rfl,q σ sl (.refl _ _)⟩
theorem aV (h1:AG C tg d Γ Γ1 ws) (h2:AGs C ts ds Γ1 Γ2 zs) (hs:(assignEach (tg::ts) C.X.env).map (·.2)=assign tg C.X.env::(assignEach ts C.X.env).map (·.2):=by rfl):AGs C (tg::ts) (d::ds) Γ Γ2 (ws++zs):=fun F σ H vs sl r Q q=>by
 cases r with
 | cons r rr=>exact wgs_of (pgs_cons aBl pgs_wgs hs) ⟨_,_,rfl,h1 _ σ H _ sl r _ fun σ1 sl1 b1=>h2 _ σ1 H _ sl1 rr _ fun σ2 sl2 b2=>q σ2 sl2 (b1.trans b2)⟩
theorem kZ {k:Nat} (h:AGs C ts ds Γ Γ1 ws) (hn:(assignEach ts C.X.env).length=ds.length:=by rfl) (hst:(assignEach ts C.X.env).findIdx? (·.1)=none:=by rfl):AG C (.Tuple ts k pos) (.tup ds) Γ Γ1 ws:=fun F σ H v sl r Q q=>by
 obtain ⟨a,vs,rfl,ha,ra⟩:=r.tupE
 exact wg_of (pg_tup C.calm pgs_wgs hn hst) ⟨a,vs,rfl,SqT.of ha,ra.length,h _ σ H vs sl ra Q q⟩

theorem bO (q:E.nx Γ L):ASs C [] Γ L E:=fun F σ H ok DD go=>aAo pss_nil (go.nx σ H Γ L ok (.refl L H) q)
theorem aJ (h:AS C st Γ L {E with nx:=fun Γ' L'=>ASs C sts Γ' L' E}):ASs C (st::sts) Γ L E:=fun F σ H ok DD go=>
 aAo (pss_cons ps_we sW) (h _ σ H ok _ ⟨fun s H2 Γ2 L2 o f q=>q _ s H2 o DD (go.after f),go.rt,go.bk,go.ct⟩)
theorem aO (h:AS C st Γ L E):ASs C [st] Γ L E:=fun F σ H ok DD go=>aAo (pss_one ps_we) (h _ σ H ok DD go)
theorem aY (i:Nat) {x:Str} (h:AE C e Γ L fun d L1=>E.nx (Γ.set i (some d)) L1) (hi:C.X.N[i]? =some x:=by rfl) (hx:Loc C.X.env.scope x:=by first | exact Or.inl rfl | exact Or.inr rfl) (hs:swapsWith e (some (.Name x p1)) pos.line C.X.env=pure false:=by rfl)
  (hf:C.X.fn x=true∨C.X.env.scope.names.lookup x=some .local:=by first | exact .inl rfl | exact .inr rfl):AS C (.Assign [.Name x p1] e pos) Γ L E:=fun F σ H ok DD go=>
 jP (ps_set C.nd hi hx bA hs hf) (h _ σ H ok _ fun v d H1 L1 r c f q=>go.nx _ H1 _ L1 ⟨(ok.sl.mono f.mv).set i r,c,ok.lr.step f⟩ f q)
theorem pH (h:AE C e Γ L fun d L1=> ∃Γ1 ws,AG C tg d Γ Γ1 ws∧E.nx Γ1 L1) (hs:swapsWithSole [tg] e pos.line C.X.env=pure false:=by rfl) (hw:swappedStores [tg] e C.X.env=pure none:=by rfl)
  (h1:(assignEach [tg] C.X.env).map (·.2)= [assign tg C.X.env]:=by rfl):AS C (.Assign [tg] e pos) Γ L E:=fun F σ H ok DD go=>
 jP (ps_asg bA aBl hs hw h1) (h _ σ H ok _ fun v d H1 L1 r c f ⟨Γ1,ws,g,q⟩=>g _ σ H1 v (ok.sl.mono f.mv) r _ fun σ' sl' _=>go.nx σ' H1 Γ1 L1 ⟨sl',c,ok.lr.step f⟩ f q)
theorem tQ (i j:Nat) {x y:Str} {px py pt pt2:Pos} {kt k2:Nat} (h:AA C [a,b] Γ L fun ds L1=> ∃d1 d2,ds= [d1,d2]∧E.nx ((Γ.set i (some d1)).set j (some d2)) L1) (hi:C.X.N[i]? =some x:=by rfl) (hj:C.X.N[j]? =some y:=by rfl) (hij:i≠j:=by decide)
  (hx:C.X.env.scope.names.lookup x=some .local:=by rfl) (hy:C.X.env.scope.names.lookup y=some .local:=by rfl)
  (hw:swappedStores [.Tuple [.Name x px,.Name y py] kt pt] (.Tuple [a,b] k2 pt2) C.X.env=pure (some [x,y]):=by rfl)
  (hs:swapsWithSole [.Tuple [.Name x px,.Name y py] kt pt] (.Tuple [a,b] k2 pt2) pos.line C.X.env=pure false:=by rfl):AS C (.Assign [.Tuple [.Name x px,.Name y py] kt pt] (.Tuple [a,b] k2 pt2) pos) Γ L E:=fun F σ H ok DD go=>
 jP (ps_par C.calm C.nd hi hj hij hx hy qT hw hs) (h _ σ H ok _ fun vs ds H1 L1 r c f ⟨d1,d2,ed,q⟩=>by
  subst ed
  obtain ⟨v,w,rfl,r1,r2⟩:=r.twoE
  exact ⟨v,w,rfl,go.nx _ H1 _ L1 ⟨((ok.sl.mono f.mv).set i r1).set j r2,c,ok.lr.step f⟩ f q⟩)
theorem as_par3 (i j l:Nat) {x y z:Str} {px py pz pt pt2:Pos} {kt k2:Nat} (h:AA C [a,b,c] Γ L fun ds L1=> ∃d1 d2 d3,ds= [d1,d2,d3]∧E.nx (((Γ.set i (some d1)).set j (some d2)).set l (some d3)) L1) (hi:C.X.N[i]? =some x:=by rfl) (hj:C.X.N[j]? =some y:=by rfl) (hl:C.X.N[l]? =some z:=by rfl) (hij:i≠j:=by decide) (hil:i≠l:=by decide) (hjl:j≠l:=by decide)
  (hx:C.X.env.scope.names.lookup x=some .local:=by rfl) (hy:C.X.env.scope.names.lookup y=some .local:=by rfl) (hz:C.X.env.scope.names.lookup z=some .local:=by rfl)
  (hw:swappedStores [.Tuple [.Name x px,.Name y py,.Name z pz] kt pt] (.Tuple [a,b,c] k2 pt2) C.X.env=pure (some [x,y,z]):=by rfl)
  (hs:swapsWithSole [.Tuple [.Name x px,.Name y py,.Name z pz] kt pt] (.Tuple [a,b,c] k2 pt2) pos.line C.X.env=pure false:=by rfl):AS C (.Assign [.Tuple [.Name x px,.Name y py,.Name z pz] kt pt] (.Tuple [a,b,c] k2 pt2) pos) Γ L E:=fun F σ H ok DD go=>
 jP (ps_par3 C.calm C.nd hi hj hl hij hil hjl hx hy hz qT hw hs) (h _ σ H ok _ fun vs ds H1 L1 r c f ⟨d1,d2,d3,ed,q⟩=>by
  subst ed
  cases r with
  | cons r1 rr=>
   obtain ⟨v,w,rfl,r2,r3⟩:=aZ.twoE rr
   exact ⟨_,v,w,rfl,go.nx _ H1 _ L1 ⟨(((ok.sl.mono f.mv).set i r1).set j r2).set l r3,c,ok.lr.step f⟩ f q⟩)
theorem pG (i:Nat) {x:Str} {op:Operator} {ti:TIp} {d:D} (ho:PIp C.X op ti) (hg:Γ[i]? =some (some d)) (h:AE C e Γ L fun y L1=>L2R C ti d y L1 fun z L2=>E.nx (Γ.set i (some z)) L2) (hi:C.X.N[i]? =some x:=by rfl) (hx:Loc C.X.env.scope x:=by first | exact Or.inl rfl | exact Or.inr rfl)
  (hf:C.X.fn x=true∨C.X.env.scope.names.lookup x=some .local:=by first | exact .inl rfl | exact .inr rfl):AS C (.AugAssign (.Name x p1) op e pos) Γ L E:=fun F σ H ok DD go=>by
 obtain ⟨v,ev,rv⟩:=ok.sl.get i d hg
 exact jP (ps_aug C.nd hi hx bA ho hf) ⟨v,ev,h _ σ H ok _ fun w y H1 L1 r c f q=>q _ v w H1 c (rv.mono f.mv) r _ fun u z H2 L2 r2 c2 f2 q2=>go.nx _ H2 _ L2 ⟨((ok.sl.mono f.mv).mono f2.mv).set i r2,c2,ok.lr.step (f.trans f2)⟩ (f.trans f2) q2⟩
theorem aBe {f:Int→Int→Int} {i j:Int} (q:Q (.int (f i j)) L):L2R C (ipI f) (.int i) (.int j) L Q:=fun F vx vy H c rx ry QV go=>⟨i,j,rx.intE,ry.intE,go _ _ H L (.int _) c (.refl L H) q⟩
theorem wG (h:AE C e Γ L fun _ L1=>E.nx Γ L1) (hs:swapsWith e none pos.line C.X.env=pure false:=by rfl):AS C (.Expr e pos) Γ L E:=fun F σ H ok DD go=>
 jP (ps_expr bA hs) (h _ σ H ok _ fun v d H1 L1 r c f q=>go.nx σ H1 Γ L1 (ok.step c f) f q)
theorem aX (h:AE C e Γ L E.rt):AS C (.Return (some e) pos) Γ L E:=fun F σ H ok DD go=>jP (ps_ret bA) (h _ σ H ok _ fun v d H1 L1 r c f q=>go.rt v d H1 L1 r c f q)
theorem as_retN (q:E.rt .non L):AS C (.Return none pos) Γ L E:=fun F σ H ok DD go=>jP ps_retN (go.rt _ _ H L .non ok.con (.refl L H) q)
theorem as_pass (q:E.nx Γ L):AS C (.Pass pos) Γ L E:=fun F σ H ok DD go=>jP ps_pass (go.nx σ H Γ L ok (.refl L H) q)
theorem as_break (q:E.bk Γ L):AS C (.Break pos) Γ L E:=fun F σ H ok DD go=>jP ps_break (go.bk σ H Γ L ok (.refl L H) q)
theorem as_continue (q:E.ct Γ L):AS C (.Continue pos) Γ L E:=fun F σ H ok DD go=>jP ps_continue (go.ct σ H Γ L ok (.refl L H) q)
theorem cX {A B:List Stmt} (h:AT C c Γ L fun k L1=>(k=true→ASs C A Γ L1 E)∧(k=false→ASs C B Γ L1 E)):AS C (.If c A B pos) Γ L E:=fun F σ H ok DD go=>
 jP (ps_if vD sW sW) (h _ σ H ok _ fun k H1 L1 c f q=>by
  cases k with
  | true=>exact (q.1 rfl) _ σ H1 (ok.step c f) DD (go.after f)
  | false=>exact (q.2 rfl) _ σ H1 (ok.step c f) DD (go.after f))
def L3R (C:Ctx) (r:TSet) (o i v:D) (L:Lp) (Q:Lp→Prop):Prop:= ∀F vo vi vv H,C.Con L F H→Rep C.X.K F H vo o→Rep C.X.K F H vi i→Rep C.X.K F H vv v→∀QV:Hp→Prop,(∀{F'} H' L',C.Con L' F' H'→Fr L F H L' F' H'→Q L'→QV H')→r vo vi vv H QV
theorem qQ {t:TSet} (hset:PSet C.X t) (h:AE C e Γ L fun v L1=>AE C o Γ L1 fun x L2=>AE C b Γ L2 fun i L3=>L3R C t x i v L3 fun L4=>E.nx Γ L4)
  (hs:swapsWithSole [.Subscript o b p1] e pos.line C.X.env=pure false:=by rfl) (hw:swappedStores [.Subscript o b p1] e C.X.env=pure none:=by rfl) (h1:(assignEach [.Subscript o b p1] C.X.env).map (·.2)= [assign (.Subscript o b p1) C.X.env]:=by rfl)
  (ha:∀v,assign (.Subscript o b p1) C.X.env v=(do
   let ov ←holding [v] (eval o C.X.env)
   let iv ←holding [v,ov] (eval b C.X.env)
   standAt p1
   holding [v,ov,iv] (setItem ov iv v)
   release [v,ov,iv] []):=by intro _;rfl):AS C (.Assign [.Subscript o b p1] e pos) Γ L E:=fun F σ H ok DD go=>
 jP (ps_asg bA (pg_sub bA bA hset ha) hs hw h1) (h _ σ H ok _ fun vv v H1 L1 r1 c1 f1 q1=>q1 _ σ H1 (ok.step c1 f1) _ fun vo x H2 L2 r2 c2 f2 q2=>q2 _ σ H2 (ok.step c2 (f1.trans f2)) _ fun vi i H3 L3 r3 c3 f3 q3=>
  q3 _ vo vi vv H3 c3 (r2.mono f3.mv) r3 ((r1.mono f2.mv).mono f3.mv) _ fun H4 L4 c4 f4 q4=>go.nx σ H4 Γ L4 (ok.step c4 (((f1.trans f2).trans f3).trans f4)) (((f1.trans f2).trans f3).trans f4) q4)
theorem wX {p:Addr} {xs:List D} {k:Int} {j:Nat} {v:D} {Q:Lp→Prop} (hp:L p=some (.lst xs)) (hj:ixN xs.length k=some j) (q:Q (put L p (.lst (xs.set j v)))):L3R C rSetL (.ptr p) (.int k) v L Q:=fun F vo vi vv H c ro ri rv QV go=>by
 obtain ⟨ws,ha,ra,hz⟩:=c.at_ p _ hp
 have s:=Mv.write (o:= .lst (ws.set j vv)) c hp
 exact ⟨p,ws,k,j,ro.ptrE,ri.intE,ha,by rw [ra.length];exact hj,go _ (put L p (.lst (xs.set j v))) (c.write hp ⟨_,upd_same,(aZ.set rv j ra).mono s,by rw [List.length_set];exact hz⟩) (.write c hp) q⟩

theorem wD {body:List Stmt} (I:Nat→Gm→Lp→Prop) (m0:Nat) (h0:I m0 Γ L)
  (hs:∀m Γ1 L1,I m Γ1 L1→AT C c Γ1 L1 fun k L2=>(k=true→ASs C body Γ1 L2 {E with nx:=fun Γ' L'=> ∃m',m' < m∧I m' Γ' L',ct:=fun Γ' L'=> ∃m',m' < m∧I m' Γ' L',bk:=E.nx})∧(k=false→E.nx Γ1 L2)):AS C (.While c body [] pos) Γ L E:=fun F σ H ok DD go=>by
 refine jP (ps_while C.po vD sW) ⟨fun m σ1 H1=> ∃Γ1 L1 F1,Ok C Γ1 L1 F1 σ1 H1∧Fr L F H L1 F1 H1∧I m Γ1 L1,⟨m0,Γ,L,F,ok,.refl L H,h0⟩,?_⟩
 rintro m σ1 H1 ⟨Γ1,L1,F1,ok1,f1,i1⟩
 refine hs m Γ1 L1 i1 _ σ1 H1 ok1 _ fun k H2 L2 c2 f2 q=> ?_
 cases k with
 | true=>
  refine ⟨fun σ' H'=> ∃m',m' < m∧∃Γ1 L1 F',Ok C Γ1 L1 F' σ' H'∧Fr L F H L1 F' H'∧I m' Γ1 L1,fun σ' H' h=>h,?_⟩
  refine (q.1 rfl) _ σ1 H2 (ok1.step c2 f2) _ ⟨fun s H3 Γ3 L3 o f3 ⟨m',hm,i3⟩=>⟨m',hm,Γ3,L3,_,o,(f1.trans f2).trans f3,i3⟩,fun v d H3 L3 r3 c3 f3 q3=>go.rt v d H3 L3 r3 c3 ((f1.trans f2).trans f3) q3,
   fun s H3 Γ3 L3 o f3 q3=>go.nx s H3 Γ3 L3 o ((f1.trans f2).trans f3) q3,fun s H3 Γ3 L3 o f3 ⟨m',hm,i3⟩=>⟨m',hm,Γ3,L3,_,o,(f1.trans f2).trans f3,i3⟩⟩
 | false=>exact go.nx σ1 H2 Γ1 L2 (ok1.step c2 f2) (f1.trans f2) (q.2 rfl)

def aA9 (C:Ctx) (J:It) (ds:List D) (G:Lp→Prop) (L0:Lp) (F0:Fz) (H0:Hp):Prop:= ∀{F} (i:Nat) (H:Hp) (L:Lp),Fr L0 F0 H0 L F H→C.Con L F H→G L→
 (i < ds.length→J.go i H)∧(i=ds.length→J.stop i H)∧∀x H',J.yld i H x H'→i < ds.length→∃d,ds[i]? =some d∧Rep C.X.K F H' x d∧(H'=H∨∃T vs,H T=none∧H'=upd H T (.tup vs))
structure WI (X:Cx) (tg iter:Expr) (σ:L2.St) (H:Hp) (R:It→Hp→Prop):Prop where
 run:∀(pins:List (Addr×Obj)) (s:Shared),Inv X pins σ H s→wpAny (model X.prog X.w) X.A (eval iter X.env) (fun v s1=>wpAny (model X.prog X.w) X.A (pyIter v) (PIE X pins σ tg R) X.xe s1) X.xe s
theorem yF {X:Cx} {tg iter:Expr}:PI X tg iter (WI X tg iter):=⟨fun pins s σ H R I h=>h.run pins s I⟩
theorem qR {X:Cx} {tg iter:Expr} {w:TI} {σ:L2.St} {H:Hp} {R:It→Hp→Prop} (h:PI X tg iter w) (q:w σ H R):WI X tg iter σ H R:=⟨fun pins s I=>h.run pins s σ H R I q⟩
def AI (C:Ctx) (tg iter:Expr) (Γ:Gm) (L:Lp) (R:List D→(Lp→Prop)→Lp→Prop):Prop:= ∀F σ H,Ok C Γ L F σ H→∀RV:It→Hp→Prop,(∀{F'} J H' L' ds G,C.Con L' F' H'→Fr L F H L' F' H'→aA9 C J ds G L' F' H'→R ds G L'→RV J H')→WI C.X tg iter σ H RV
theorem mQ {R:List D→(Lp→Prop)→Lp→Prop} (h:AE C e Γ L fun d L1=> ∃ds,d= .tup ds∧(ds.length≤sizeLine→R ds (fun _=>True) L1)):AI C tg e Γ L R:=fun F σ H ok RV go=>
 qR (pi_tup bA) (h _ σ H ok _ fun v d H1 L1 r c f ⟨ds,ed,q⟩=>by
  subst ed
  obtain ⟨a,vs,rfl,ha,ra⟩:=r.tupE
  refine ⟨a,rfl,⟨vs,SqT.of ha⟩,go _ H1 L1 ds (fun _=>True) c f (fun i H2 L2 s2 c2 _=> ?_) (q r.bnd)⟩
  have hq:SqT C.X.K H2 a vs:=SqT.of (s2.stay.tup _ _ ha)
  refine ⟨fun hi=>⟨vs,vs[i]'(by rw [ra.length];exact hi),hq,List.getElem?_eq_getElem _⟩,fun hi=>⟨vs,hq,by rw [ra.length,hi];exact Nat.le_refl _⟩,fun x H' y hi=> ?_⟩
  obtain ⟨e1,y⟩:=y
  subst e1
  obtain ⟨d,hd,rd⟩:=ra.getV (y vs hq)
  exact ⟨d,hd,rd.mono s2.mv,.inl rfl⟩)
theorem uJ {R:List D→(Lp→Prop)→Lp→Prop} (h:AE C e Γ L fun d L1=> ∃p ds,d= .ptr p∧L1 p=some (.lst ds)∧(ds.length≤sizeLine→R ds (fun L=>L p=some (.lst ds)) L1)):AI C tg e Γ L R:=fun F σ H ok RV go=>
 qR (pi_list bA) (h _ σ H ok _ fun v d H1 L1 r c f ⟨p,ds,ed,hp,q⟩=>by
  subst ed
  obtain ⟨vs,ha,ra,hz⟩:=c.at_ p _ hp
  refine ⟨p,r.ptrE,⟨vs,SqL.of ha⟩,go _ H1 L1 ds _ c f (fun i H2 L2 s2 c2 g2=> ?_) (q hz)⟩
  obtain ⟨us,hb,rb,_⟩:=c2.at_ p _ g2
  have hq:SqL C.X.K H2 p us:=SqL.of hb
  refine ⟨fun hi=>⟨us,us[i]'(by rw [rb.length];exact hi),hq,List.getElem?_eq_getElem _⟩,fun hi=>⟨us,hq,by rw [rb.length,hi];exact Nat.le_refl _⟩,fun x H' y hi=> ?_⟩
  obtain ⟨e1,y⟩:=y
  subst e1
  obtain ⟨d,hd,rd⟩:=rb.getV (y us hq)
  exact ⟨d,hd,rd,.inl rfl⟩)
def sS (lo:Int) (n:Nat):List D:=(List.range n).map fun k=> .int (lo+(k:Nat))
theorem cO (lo:Int) (n:Nat):(sS lo n).length=n:=by unfold sS;simp
theorem rangeD_get {lo:Int} {n i:Nat} (h:i < n):(sS lo n)[i]? =some (.int (lo+i)):=by unfold sS;simp [h]
theorem fQ {lo:Int} {n i:Nat} {d:D} (h:(sS lo n)[i]? =some d):i < n∧d= .int (lo+i):=by
 have hi:i < n:=by
  have:=(List.getElem?_eq_some_iff.mp h).1
  rwa [cO] at this
 rw [rangeD_get hi] at h
 exact ⟨hi,(Option.some.inj h).symm⟩
theorem itr_is {J:It} {lo:Int} {n:Nat} {L0:Lp} {F0:Fz} {H0:Hp} (hJ:J=Itr lo n):aA9 C J (sS lo n) (fun _=>True) L0 F0 H0:=by
 subst hJ
 intro F i H L s c g
 rw [cO]
 refine ⟨fun h=>h,fun h=>Nat.le_of_eq h.symm,fun x H' y hi=> ?_⟩
 obtain ⟨e1,e2⟩:=y
 subst e1 e2
 exact ⟨_,rangeD_get hi,.int _,.inl rfl⟩
theorem fZ {p:Pos} {R:List D→(Lp→Prop)→Lp→Prop} (hm:C.X.mg "range"=none) (h:AE C e Γ L fun d L1=> ∃j:Int,d= .int j∧ -(2 ^ 62)≤j∧j < 2 ^ 62∧R (sS 0 j.toNat) (fun _=>True) L1) (hg:Gl C.X "range" :=by rfl) (hs:starEach [e] C.X.env= [(false,eval e C.X.env)]:=by rfl):
  AI C tg (.Call (.Name "range" p) [e] [] pos) Γ L R:=fun F σ H ok RV go=>
 qR (pi_range1 hg hm (pa_cons bA pa_nil hs) hs) (h _ σ H ok _ fun v d H1 L1 r c f ⟨j,ed,h1,h2,q⟩=>by
  subst ed
  exact ⟨j,by rw [r.intE],h1,h2,go _ H1 L1 _ _ c f (itr_is rfl) q⟩)

theorem tR {iter:Expr} {body:List Stmt} (h:AI C tg iter Γ L fun ds G L1=> ∃I:Nat→Gm→Lp→Prop,I 0 Γ L1∧(∀i Γ2 L2,I i Γ2 L2→G L2)∧
      (∀i d Γ2 L2,ds[i]? =some d→I i Γ2 L2→∃Γ3 ws,AG C tg d Γ2 Γ3 ws∧ASs C body Γ3 L2 {E with nx:=I (i+1),ct:=I (i+1),bk:=E.nx})∧∀Γ2 L2,I ds.length Γ2 L2→E.nx Γ2 L2)
  (hs:∀x,foldedSetIterable iter C.X.env x=pure x:=by intro _;rfl):AS C (.For tg iter body [] pos) Γ L E:=fun F σ H ok DD go=>by
 refine jP (ps_for C.po C.calm yF aBl sW hs) (h _ σ H ok _ fun {F1} J H1 L1 ds G c1 f1 it ⟨I,i0,hG,hb,hd⟩=> ?_)
 refine ⟨fun i m σ2 H2=>m=ds.length - i∧i≤ds.length∧∃Γ2 L2 F2,Ok C Γ2 L2 F2 σ2 H2∧Fr L1 F1 H1 L2 F2 H2∧I i Γ2 L2,⟨ds.length,by simp,Nat.zero_le _,Γ,L1,F1,ok.step c1 f1,.refl L1 H1,i0⟩,?_⟩
 rintro i m σ2 H2 ⟨rfl,hi,Γ2,L2,F2,ok2,f2,i2⟩
 obtain ⟨k1,k2,k3⟩:=it i H2 L2 f2 ok2.con (hG i Γ2 L2 i2)
 by_cases hlt:i < ds.length
 ·refine .inr ⟨k1 hlt,fun σ' H'=> ∃Γ3 L3 F',Ok C Γ3 L3 F' σ' H'∧Fr L1 F1 H1 L3 F' H'∧I (i+1) Γ3 L3,fun σ' H' hN=>⟨ds.length - (i+1),by omega,rfl,hlt,hN⟩,fun x H' y=> ?_⟩
  obtain ⟨d,hd2,rd,hH⟩:=k3 x H' y hlt
  obtain ⟨Γ3,ws,ag,bd⟩:=hb i d Γ2 L2 hd2 i2
  have fH:Fr L2 F2 H2 L2 F2 H':=by
   rcases hH with e | ⟨T,vs,nT,e⟩
   ·rw [e];exact .refl L2 H2
   ·rw [e];exact .new nT
  have cH:C.Con L2 F2 H':=by
   rcases hH with e | ⟨T,vs,nT,e⟩
   ·rw [e];exact ok2.con
   ·rw [e];exact ok2.con.new nT
  refine ag _ σ2 H' x (ok2.sl.mono fH.mv) rd _ fun σ3 sl3 _=> ?_
  refine bd _ σ3 H' ⟨sl3,cH,ok2.lr.step fH⟩ _ ⟨fun s H4 Γ4 L4 o f4 q4=>⟨Γ4,L4,_,o,(f2.trans fH).trans f4,q4⟩,fun v d4 H4 L4 r4 c4 f4 q4=>go.rt v d4 H4 L4 r4 c4 (f1.trans ((f2.trans fH).trans f4)) q4,
   fun s H4 Γ4 L4 o f4 q4=>go.nx s H4 Γ4 L4 o (f1.trans ((f2.trans fH).trans f4)) q4,fun s H4 Γ4 L4 o f4 q4=>⟨Γ4,L4,_,o,(f2.trans fH).trans f4,q4⟩⟩
 ·have e:i=ds.length:=by omega
  exact .inl ⟨k2 e,go.nx σ2 H2 Γ2 L2 ok2 (f1.trans f2) (hd Γ2 L2 (by rw [←e];exact i2))⟩
end
end DL
namespace DL
open PySem PySem.Spec PyProof.Rows L2

def uF (P:Program) (w:World) (K:PySem.W.Frag) (mg:Str→Option Value) (base:Heap) (N:List Str) (qual:Str) (scope:Scope) (f:Addr) (cdv:Value) (A:Around) (outer:List Env) (s:Shared) (H:Hp) (E:XK) (nd:N.Nodup) (R:Value→List (Str×D)→Lp→Prop):Ctx where
 X:=cxOf (L2.CX P w) P w K mg base N qual scope f cdv A outer s H E
 W:=fun cls d _ H=>E cls d H
 R:=fun _=>R
 tk:=takes_of rfl rfl rfl rfl
 po:=passes_of rfl
 calm:=rfl
 nd:=nd

def cZ (C:Ctx) (scope:Scope) (s:Shared) (H:Hp) (Cc:Addr) (cl:List (Str×Addr)) (fp:List Addr):Ctx where
 X:=C.X.blk s H scope (compEnvC scope cl Cc C.X.env) fp
 W:=fun _ _ _ _=>False
 R:=fun _ _ _ _=>False
 tk:=takes0
 po:=PassesOwn.never
 calm:=C.calm
 nd:=C.nd
structure WTs (X:Cx) (ifs:List Expr) (σ:L2.St) (H:Hp) (Q:Bool→Hp→Prop):Prop where
 run:∀(pins:List (Addr×Obj)) (s:Shared),Inv X pins σ H s→
 wpAny (model X.prog X.w) X.A (forIn ifs true fun c r=>if r=true then do let ok ←isTrue c X.env (eval c X.env);pure (ForInStep.yield ok) else pure (ForInStep.yield r)) (TP X pins σ Q) X.xe s
def ATs (C:Ctx) (ifs:List Expr) (Γ:Gm) (L:Lp) (Q:Bool→Lp→Prop):Prop:= ∀F σ H,Ok C Γ L F σ H→∀QV,GoT C L F H Q QV→WTs C.X ifs σ H QV
section
variable {C:Ctx} {Γ Γ1 Γ2:Gm} {L:Lp} {e a b c o tg:Expr} {es ts:List Expr} {pos p1 p2:Pos} {st:Stmt} {sts:List Stmt} {E:AEnds} {Q:D→Lp→Prop} {d:D} {ds:List D} {ws zs:List Nat}
theorem jA {Q:Bool→Lp→Prop} (q:Q true L):ATs C [] Γ L Q:=fun F σ H ok QV go=>⟨fun pins s I=>pts_nil.run pins s σ H QV I (go true H L ok.con (.refl L H) q)⟩
theorem ats_one {Q:Bool→Lp→Prop} (h:AT C c Γ L Q):ATs C [c] Γ L Q:=fun F σ H ok QV go=>⟨fun pins s I=>(pts_one vD).run pins s σ H QV I (h _ σ H ok QV go)⟩

def dB (Γ:Gm):List Nat→Gm
 | []=>Γ
 | v::vs=>(dB Γ vs).set v none
theorem oJ (Γ:Gm):∀vs:List Nat,(dB Γ vs).length=Γ.length
 | []=>rfl
 | v::vs=>by unfold dB;rw [List.length_set,oJ Γ vs]
theorem rO (σ:L2.St) (j:Nat):∀vs:List Nat,(wipe σ vs)[j]? =if j∈vs then (if j < σ.length then some none else none) else σ[j]?
 | []=>by simp [wipe]
 | v::vs=>by
  unfold wipe
  by_cases h:j=v
  ·subst h
   by_cases hl:j < σ.length
   ·rw [List.getElem?_set_self (by rw [wipe_length];exact hl)]
    simp [hl]
   ·rw [List.getElem?_eq_none (by simp [wipe_length];omega)]
    simp [hl]
  ·rw [List.getElem?_set_ne (Ne.symm h),rO σ j vs]
   simp [h]
theorem wipeG_at (Γ:Gm) (j:Nat):∀vs:List Nat,(dB Γ vs)[j]? =if j∈vs then (if j < Γ.length then some none else none) else Γ[j]?
 | []=>by simp [dB]
 | v::vs=>by
  unfold dB
  by_cases h:j=v
  ·subst h
   by_cases hl:j < Γ.length
   ·rw [List.getElem?_set_self (by rw [oJ];exact hl)]
    simp [hl]
   ·rw [List.getElem?_eq_none (by simp [oJ];omega)]
    simp [hl]
  ·rw [List.getElem?_set_ne (Ne.symm h),wipeG_at Γ j vs]
   simp [h]
theorem Sl.wipe {K:PySem.W.Frag} {F:Fz} {H:Hp} {σ:L2.St} (x:Sl K F H σ Γ) (vs:List Nat):Sl K F H (wipe σ vs) (dB Γ vs):=by
 refine ⟨by rw [wipe_length,oJ];exact x.len,fun i d e=> ?_⟩
 rw [wipeG_at] at e
 rw [rO]
 by_cases h:i∈vs
 ·rw [if_pos h] at e
  split at e <;> cases e
 ·rw [if_neg h] at e ⊢
  exact x.get i d e
theorem But.wiped {vs ws:List Nat} {σ σ':L2.St} (b:But ws (wipe σ vs) σ') (h:∀j∈ws,j∈vs):wipe σ' vs=wipe σ vs:=by
 apply List.ext_getElem?
 intro j
 have hl:σ'.length=σ.length:=by rw [b.len,wipe_length]
 rw [rO,rO,hl]
 by_cases hj:j∈vs
 ·rw [if_pos hj,if_pos hj]
 ·rw [if_neg hj,if_neg hj,b.at_ j (fun z=>hj (h j z)),rO,if_neg hj]
theorem Stay.lst {H:Hp} {p:Addr} {xs:List V} {o:HO} (h:H p=some (.lst xs)):Stay H (upd H p o):=
 ⟨fun a vs e=>by rw [upd_ne (fun q=>by rw [q,h] at e;cases e)];exact e,fun a ob u e=>by rw [upd_ne (fun q=>by rw [q,h] at e;cases e)];exact e,fun a e=>by rw [upd_ne (fun q=>by rw [q,h] at e;cases e)];exact e⟩

abbrev gB (C:Ctx) (scope:Scope) (tg:Expr):TG:=fun v σ H Q=> ∀s H0 Cc cl fp,WG (cZ C scope s H0 Cc cl fp).X tg v σ H Q
abbrev ttB (C:Ctx) (scope:Scope) (ifs:List Expr):TT:=fun σ H Q=> ∀s H0 Cc cl fp,WTs (cZ C scope s H0 Cc cl fp).X ifs σ H Q
abbrev teB (C:Ctx) (scope:Scope) (elt:Expr):TE:=fun σ H Q=> ∀s H0 Cc cl fp,WE (cZ C scope s H0 Cc cl fp).X elt σ H Q
theorem Fr.hid {L L':Lp} {F F':Fz} {H H':Hp} {D:Addr} {o:HO} (f:Fr L F H L' F' H') (h:H D=some o) (ho:∀y,o≠ .own y) (lD:L D=none) (fD:¬F D):L' D=none∧¬F' D∧H' D=some o:=by
 refine ⟨?_,fun z=> ?_,f.keep D o h ho lD⟩
 ·cases e:L' D with
  | none=>rfl
  | some u=>
   rcases f.dom D (by rw [e];simp) with z | z
   ·exact absurd lD z
   ·rw [h] at z
    cases z
 ·rcases f.off D z with z | z | z
  ·exact fD z
  ·exact z lD
  ·rw [h] at z
   cases z
theorem Mv.hid {F:Fz} {H:Hp} {D:Addr} {o:HO} (st:Stay H (upd H D o)) (fD:¬F D):Mv F H F (upd H D o):=⟨st,fun _ z=>z,fun a u z e=>by
 have ea:a≠D:=fun q=>fD (q ▸z)
 rw [upd_ne ea]
 exact e⟩
theorem Con.hid {P:Program} {w:World} {K:PySem.W.Frag} {L:Lp} {F:Fz} {H:Hp} {D:Addr} {o:HO} (c:Con P w K L F H) (st:Stay H (upd H D o)) (lD:L D=none) (fD:¬F D):Con P w K L F (upd H D o):=⟨fun a u e=>(c.at_ a u e).mono (.hid st fD) (upd_ne (aQ e lD)),fun a z=>by
 have ea:a≠D:=fun q=>fD (q ▸z)
 rw [upd_ne ea]
 exact c.fz a z⟩
theorem Fr.hidw {L L1:Lp} {F F1:Fz} {H H1:Hp} {D:Addr} {o:HO} (f:Fr L1 F1 H1 L F H) (hD:H1 D=none) (f1D:¬F1 D) (st:Stay H (upd H D o)):Fr L1 F1 H1 L F (upd H D o):=
 ⟨fun a u ea qa na=>by rw [upd_ne (ne_of_none ea hD)];exact f.keep a u ea qa na,fun a h=>cA (f.live a h),f.stay.trans st,f.dom,f.fz,fun a u z e=>by rw [upd_ne (ne_of_none e hD)];exact f.fk a u z e,f.off⟩
theorem Con.shw {P:Program} {w:World} {K:PySem.W.Frag} {L:Lp} {F:Fz} {H:Hp} {D:Addr} {mo:MO} (c:Con P w K L F H) (fD:¬F D) (x:At P w K F H D mo):Con P w K (put L D mo) F H:=⟨fun a u ea=>by
 by_cases ed:a=D
 ·subst ed
  rw [aF] at ea
  cases ea
  exact x
 ·rw [aK ed] at ea
  exact c.at_ a u ea,fun a z=>by
 have ea:a≠D:=fun q=>fD (q ▸z)
 rw [aK ea]
 exact c.fz a z⟩
theorem Fr.shw {L L2:Lp} {F F2:Fz} {H H2:Hp} {D:Addr} {mo:MO} (f:Fr L F H L2 F2 H2) (hD:H D=none):Fr L F H (put L2 D mo) F2 H2:=
 ⟨f.keep,f.live,f.stay,fun a z=>by
  by_cases ea:a=D
  ·exact .inr (by rw [ea];exact hD)
  ·rw [aK ea] at z
   exact f.dom a z,f.fz,f.fk,f.off⟩
theorem Fr.nul {L L':Lp} {F F':Fz} {H H':Hp} (f:Fr L F H L' F' H') {a:Addr} (h:H' a=none):H a=none:=by
 cases e:H a with
 | none=>rfl
 | some o=>exact absurd h (f.live a (by rw [e];simp))
def AIp (C:Ctx) (tg iter:Expr) (L:Lp) (F:Fz) (σ:L2.St) (H:Hp) (R:List D→(Lp→Prop)→Lp→Prop):Prop:= ∀RV:It→Hp→Prop,(∀{F'} J H' L' ds G,C.Con L' F' H'→Fr L F H L' F' H'→aA9 C J ds G L' F' H'→R ds G L'→RV J H')→WI C.X tg iter σ H RV
theorem lc_read0 {own:List (Str×Nat)} {scope:Scope} {elt iter:Expr} {ifs:List Expr}
  {F:Fz} {σ:L2.St} {H:Hp} (okk:Ok C Γ L F σ H) {QV:VK} (go:Go C L F H Q QV) (h:AIp C tg iter L F σ H fun ds G L1=> ∃I:Nat→List D→Lp→Prop,I 0 [] L1∧(∀i acc L2,I i acc L2→G L2)∧
   (∀i d acc L2,ds[i]? =some d→I i acc L2→∃Γ3 ws,(∀j∈ws,j∈own.map (·.2))∧∀s H Cc cl fp,AG (cZ C scope s H Cc cl fp) tg d (dB Γ (own.map (·.2))) Γ3 ws∧
    ATs (cZ C scope s H Cc cl fp) ifs Γ3 L2 fun k L3=>(k=true→∀s H Cc cl fp,AE (cZ C scope s H Cc cl fp) elt Γ3 L3 fun y L4=>acc.length < sizeLine∧I (i+1) (acc++ [y]) L4)∧(k=false→I (i+1) acc L3))∧
   ∀acc L2,I ds.length acc L2→∀p,L2 p=none→Q (.ptr p) (put L2 p (.lst acc))):tLc (WI C.X tg iter) (gB C scope tg) (ttB C scope ifs) (teB C scope elt) (own.map (·.2)) σ H QV:=by
 refine h _ fun {F1} J H1 L1 ds G c1 f1 it ⟨I,i0,hG,hb,hd⟩=> ?_
 intro D hD
 have f1D:=c1.nf hD
 refine ⟨fun i m H2=>m=ds.length - i∧i≤ds.length∧∃L2 F2 acc vacc,acc.length≤sizeLine∧C.Con L2 F2 H2∧Fr L1 F1 H1 L2 F2 H2∧L2 D=none∧¬F2 D∧H2 D=some (.lst vacc)∧aZ C.X.K F2 H2 vacc acc∧I i acc L2,⟨ds.length,by simp,Nat.zero_le _,L1,F1,[],[],Nat.zero_le _,c1.new hD,.new hD,c1.free hD,f1D,upd_same,.nil,i0⟩,?_⟩
 rintro i m H2 ⟨rfl,hi,L2,F2,acc,vacc,hacc,c2,f2,lD,fD,hD2,ra,i2⟩
 obtain ⟨k1,k2,k3⟩:=it i H2 L2 f2 c2 (hG i acc L2 i2)
 by_cases hlt:i < ds.length
 ·refine .inr ⟨k1 hlt,fun H3=> ∃L2 F2 acc vacc,acc.length≤sizeLine∧C.Con L2 F2 H3∧Fr L1 F1 H1 L2 F2 H3∧L2 D=none∧¬F2 D∧H3 D=some (.lst vacc)∧aZ C.X.K F2 H3 vacc acc∧I (i+1) acc L2,fun H3 hN=>⟨ds.length - (i+1),by omega,rfl,hlt,hN⟩,fun x H' y=> ?_⟩
  obtain ⟨d,hd2,rd,hH⟩:=k3 x H' y hlt
  have fH:Fr L2 F2 H2 L2 F2 H':=by
   rcases hH with e | ⟨T,vs,nT,e⟩
   ·rw [e];exact .refl L2 H2
   ·rw [e];exact .new nT
  have cH:C.Con L2 F2 H':=by
   rcases hH with e | ⟨T,vs,nT,e⟩
   ·rw [e];exact c2
   ·rw [e];exact c2.new nT
  obtain ⟨_,_,hD3⟩:=fH.hid hD2 (fun _ z=>nomatch z) lD fD
  have slw:Sl C.X.K F2 H' (wipe σ (own.map (·.2))) (dB Γ (own.map (·.2))):=(okk.sl.mono ((f1.trans f2).trans fH).mv).wipe _
  obtain ⟨Γ3,ws,hws,hbody⟩:=hb i d acc L2 hd2 i2
  intro s0 H0 Cc cl fp
  refine (hbody s0 H0 Cc cl fp).1 _ _ H' x slw rd _ fun σ3 sl3 but=>⟨But.wiped but hws,?_⟩
  intro s1 H01 Cc1 cl1 fp1
  refine (hbody s1 H01 Cc1 cl1 fp1).2 _ σ3 H' ⟨sl3,cH,⟨fun _ _ _ _ _ _ _ _ _ _ _ z=>z.elim,True.intro⟩⟩ _ fun k H3 L3 c3 f3 q3=> ?_
  have fr3:=(f2.trans fH).trans f3
  obtain ⟨lD3,fD3,hD4⟩:=f3.hid hD3 (fun _ z=>nomatch z) lD fD
  cases k with
  | false=>
   rw [if_neg Bool.false_ne_true]
   exact ⟨L3,_,acc,vacc,hacc,c3,fr3,lD3,fD3,hD4,(ra.mono fH.mv).mono f3.mv,q3.2 rfl⟩
  | true=>
   rw [if_pos rfl]
   intro s2 H02 Cc2 cl2 fp2
   refine q3.1 rfl s2 H02 Cc2 cl2 fp2 _ σ3 H3 ⟨sl3.mono f3.mv,c3,⟨fun _ _ _ _ _ _ _ _ _ _ _ z=>z.elim,True.intro⟩⟩ _ fun yv y H4 L4 r4 c4 f4 ⟨hz,q4⟩=> ?_
   obtain ⟨lD4,fD4,hD5⟩:=f4.hid hD4 (fun _ z=>nomatch z) lD3 fD3
   have ra4:=((ra.mono fH.mv).mono f3.mv).mono f4.mv
   have st:Stay H4 (upd H4 D (.lst (vacc++ [yv]))):= .lst hD5
   exact ⟨vacc,hD5,by rw [ra4.length];exact hz,L4,_,acc++ [y],vacc++ [yv],by rw [List.length_append];exact hz,c4.hid st lD4 fD4,(fr3.trans f4).hidw hD f1D st,lD4,fD4,upd_same,(ra4.append (.cons r4 .nil)).mono (.hid st fD4),q4⟩
 ·have e:i=ds.length:=by omega
  exact .inl ⟨k2 e,go _ _ H2 (put L2 D (.lst acc)) (.ptr D) (c2.shw fD ⟨vacc,hD2,ra,hacc⟩) ((f1.trans f2).shw (f1.nul hD)) (hd acc L2 (by rw [←e];exact i2) D lD)⟩

theorem lc_read {own:List (Str×Nat)} {scope:Scope} {elt iter:Expr} {ifs:List Expr}
  (h:AI C tg iter Γ L fun ds G L1=> ∃I:Nat→List D→Lp→Prop,I 0 [] L1∧(∀i acc L2,I i acc L2→G L2)∧
   (∀i d acc L2,ds[i]? =some d→I i acc L2→∃Γ3 ws,(∀j∈ws,j∈own.map (·.2))∧∀s H Cc cl fp,AG (cZ C scope s H Cc cl fp) tg d (dB Γ (own.map (·.2))) Γ3 ws∧
    ATs (cZ C scope s H Cc cl fp) ifs Γ3 L2 fun k L3=>(k=true→∀s H Cc cl fp,AE (cZ C scope s H Cc cl fp) elt Γ3 L3 fun y L4=>acc.length < sizeLine∧I (i+1) (acc++ [y]) L4)∧(k=false→I (i+1) acc L3))∧
   ∀acc L2,I ds.length acc L2→∀p,L2 p=none→Q (.ptr p) (put L2 p (.lst acc))) {F:Fz} {σ:L2.St} {H:Hp} (okk:Ok C Γ L F σ H) {QV:VK} (go:Go C L F H Q QV):tLc (WI C.X tg iter) (gB C scope tg) (ttB C scope ifs) (teB C scope elt) (own.map (·.2)) σ H QV:=
 lc_read0 okk go fun RV g=>h _ σ H okk RV g

theorem yP (own:List (Str×Nat)) {scope:Scope} {elt iter:Expr} {ifs:List Expr}
  (h:AI C tg iter Γ L fun ds G L1=> ∃I:Nat→List D→Lp→Prop,I 0 [] L1∧(∀i acc L2,I i acc L2→G L2)∧
   (∀i d acc L2,ds[i]? =some d→I i acc L2→∃Γ3 ws,(∀j∈ws,j∈own.map (·.2))∧∀s H Cc cl fp,AG (cZ C scope s H Cc cl fp) tg d (dB Γ (own.map (·.2))) Γ3 ws∧
    ATs (cZ C scope s H Cc cl fp) ifs Γ3 L2 fun k L3=>(k=true→∀s H Cc cl fp,AE (cZ C scope s H Cc cl fp) elt Γ3 L3 fun y L4=>acc.length < sizeLine∧I (i+1) (acc++ [y]) L4)∧(k=false→I (i+1) acc L3))∧
   ∀acc L2,I ds.length acc L2→∀p,L2 p=none→Q (.ptr p) (put L2 p (.lst acc)))
  (ok:BlkOk C.X.N C.X.env.scope scope own:=by (dsimp only [uF,cZ,cxOf,envOfC,compEnvC,Cx.blk];exact blkOk_by (by decide+kernel))) (hs:∀x,foldedSetIterable iter C.X.env x=pure x:=by intro _;rfl):AE C (.ListComp elt [⟨tg,iter,ifs,0⟩] scope pos) Γ L Q:=fun F σ H okk QV go=>
 dD (pe_lc C.calm C.nd yF ok (fun s H0 Cc cl fp=>⟨fun pins s1 σ1 H1 v u Q1 I r q=>(q s H0 Cc cl fp).run pins s1 u I r⟩) (fun s H0 Cc cl fp=>⟨fun pins s1 σ1 H1 Q1 I q=>(q s H0 Cc cl fp).run pins s1 I⟩) (fun s H0 Cc cl fp=>⟨fun pins s1 σ1 H1 Q1 I q=>(q s H0 Cc cl fp).run pins s1 I⟩) hs) (lc_read h okk go)
theorem wF (n:Nat) (own:List (Str×Nat)) {y:Str} {py spos:Pos} {scope:Scope} {elt iter:Expr} {ifs:List Expr}
  (h:AI C tg iter Γ L fun ds G L1=> ∃I:Nat→List D→Lp→Prop,I 0 [] L1∧(∀i acc L2,I i acc L2→G L2)∧
   (∀i d acc L2,ds[i]? =some d→I i acc L2→∃Γ3 ws,(∀j∈ws,j∈own.map (·.2))∧∀s H Cc cl fp,AG (cZ C scope s H Cc cl fp) tg d (dB Γ (own.map (·.2))) Γ3 ws∧
    ATs (cZ C scope s H Cc cl fp) ifs Γ3 L2 fun k L3=>(k=true→∀s H Cc cl fp,AE (cZ C scope s H Cc cl fp) elt Γ3 L3 fun y L4=>acc.length < sizeLine∧I (i+1) (acc++ [y]) L4)∧(k=false→I (i+1) acc L3))∧
   ∀acc L2,I ds.length acc L2→∀p,L2 p=none→E.nx (Γ.set n (some (.ptr p))) (put L2 p (.lst acc)))
  (hy:C.X.N[n]? =some y:=by rfl) (hyl:C.X.env.scope.names.lookup y=some .local:=by rfl) (hsw:swapsWith (.ListComp elt [⟨tg,iter,ifs,0⟩] scope pos) (some (.Name y py)) spos.line C.X.env=pure true:=by exact sw_true rfl rfl rfl (by decide+kernel))
  (ok:BlkOk C.X.N C.X.env.scope scope own:=by (dsimp only [uF,cZ,cxOf,envOfC,compEnvC,Cx.blk];exact blkOk_by (by decide+kernel))) (hs:∀x,foldedSetIterable iter C.X.env x=pure x:=by intro _;rfl):AS C (.Assign [.Name y py] (.ListComp elt [⟨tg,iter,ifs,0⟩] scope pos) spos) Γ L E:=fun F σ H okk DD go=>
 jP (ps_setLc C.calm C.nd hy hyl hsw yF ok (fun s H0 Cc cl fp=>⟨fun pins s1 σ1 H1 v u Q1 I r q=>(q s H0 Cc cl fp).run pins s1 u I r⟩) (fun s H0 Cc cl fp=>⟨fun pins s1 σ1 H1 Q1 I q=>(q s H0 Cc cl fp).run pins s1 I⟩) (fun s H0 Cc cl fp=>⟨fun pins s1 σ1 H1 Q1 I q=>(q s H0 Cc cl fp).run pins s1 I⟩) hs)
  (lc_read (Q:=fun d L1=>E.nx (Γ.set n (some d)) L1) h okk fun v d H1 L1 r c f q=>go.nx _ H1 _ L1 ⟨(okk.sl.mono f.mv).set n r,c,okk.lr.step f⟩ f q)
def AV (C:Ctx) (e:Expr) (Γ:Gm) (L:Lp) (d:D):Prop:= ∀Q:D→Lp→Prop,Q d L→AE C e Γ L Q
theorem lc_map {own:List (Str×Nat)} {scope:Scope} {elt:Expr} {ds:List D} {G:Lp→Prop} {L1:Lp} {Z:Addr→List D→Lp→Prop} (f:D→D) (hG:G L1) (hz:ds.length≤sizeLine)
  (hf:∀(i:Nat) (d:D),ds[i]? =some d→∃Γ3 ws,(∀j∈ws,j∈own.map (·.2))∧∀s H Cc cl fp,AG (cZ C scope s H Cc cl fp) tg d (dB Γ (own.map (·.2))) Γ3 ws∧AV (cZ C scope s H Cc cl fp) elt Γ3 L1 (f d))
  (q:∀p,L1 p=none→Z p (ds.map f) L1):∃I:Nat→List D→Lp→Prop,I 0 [] L1∧(∀i acc L2,I i acc L2→G L2)∧
   (∀i d acc L2,ds[i]? =some d→I i acc L2→∃Γ3 ws,(∀j∈ws,j∈own.map (·.2))∧∀s H Cc cl fp,AG (cZ C scope s H Cc cl fp) tg d (dB Γ (own.map (·.2))) Γ3 ws∧
    ATs (cZ C scope s H Cc cl fp) [] Γ3 L2 fun k L3=>(k=true→∀s H Cc cl fp,AE (cZ C scope s H Cc cl fp) elt Γ3 L3 fun y L4=>acc.length < sizeLine∧I (i+1) (acc++ [y]) L4)∧(k=false→I (i+1) acc L3))∧
   ∀acc L2,I ds.length acc L2→∀p,L2 p=none→Z p acc L2:=by
 refine ⟨fun i acc L2=>acc=(ds.take i).map f∧L2=L1,⟨rfl,rfl⟩,fun i acc L2 h=>by rw [h.2];exact hG,fun i d acc L2 hd ⟨ea,el⟩=> ?_,fun acc L2 ⟨ea,el⟩ p hp=> ?_⟩
 ·subst el
  obtain ⟨Γ3,ws,hw,hh⟩:=hf i d hd
  refine ⟨Γ3,ws,hw,fun s H Cc cl fp=>⟨(hh s H Cc cl fp).1,jA ⟨fun _ s H Cc cl fp=>(hh s H Cc cl fp).2 _ ⟨?_,?_,rfl⟩,fun z=>by cases z⟩⟩⟩
  ·have hi:=(List.getElem?_eq_some_iff.mp hd).1
   rw [ea,List.length_map,List.length_take]
   omega
  ·rw [ea,List.take_add_one,hd]
   simp
 ·subst el
  rw [ea,List.take_length]
  exact q p hp

end

abbrev SpA:=List D→Lp→(D→Lp→Prop)→(Value→List (Str×D)→Lp→Prop)→Prop
def aBA (P:Program) (w:World) (K:PySem.W.Frag) (sp:SpA):Sp:=fun vs H Q E=> ∃ds L Z Q' R',aZ K Z H vs ds∧Con P w K L Z H∧sp ds L Q' R'∧
 (∀{Z'} d L',Q' d L'→∀v H',Rep K Z' H' v d→Con P w K L' Z' H'→Fr L Z H L' Z' H'→Q v H')∧(∀{Z'} cls fs L',R' cls fs L'→∀d H',aAm K Z' H' d fs→Con P w K L' Z' H'→Fr L Z H L' Z' H'→E cls (some d) H')
abbrev FnA (P:Program) (w:World) (K:PySem.W.Frag) (mg:Str→Option Value) (base:Heap) (k:Nat) (f:Addr) (sp:SpA):Prop:=FnR P w K mg base (L2.CX P w) k f (aBA P w K sp)
structure Def (P:Program) (w:World) (K:PySem.W.Frag) (mg:Str→Option Value) (base:Heap) (x:Str) (k:Nat) (sp:SpA):Prop where
 ex:∃f,mg x=some (.ref f)∧PySem.W.keepIn K (.ref f)=true∧FnA P w K mg base k f sp
theorem Def.mono {P:Program} {w:World} {K:PySem.W.Frag} {mg:Str→Option Value} {base:Heap} {x:Str} {j k:Nat} {sp:SpA} (F:Def P w K mg base x j sp) (h:j≤k):Def P w K mg base x k sp:=by
 obtain ⟨f,h1,h2,h3⟩:=F.ex
 exact ⟨f,h1,h2,h3.mono h⟩
theorem Def.imp {P:Program} {w:World} {K:PySem.W.Frag} {mg:Str→Option Value} {base:Heap} {x:Str} {k:Nat} {sp sp':SpA} (F:Def P w K mg base x k sp) (h:∀ds L Q R,sp' ds L Q R→sp ds L Q R):Def P w K mg base x k sp':=by
 obtain ⟨f,h1,h2,h3⟩:=F.ex
 exact ⟨f,h1,h2,h3.imp fun vs H Q E ⟨ds,L,Z,Q',R',a,b,c,d⟩=>⟨ds,L,Z,Q',R',a,b,h _ _ _ _ c,d⟩⟩
section
variable {C:Ctx} {Γ:Gm} {L:Lp} {e:Expr} {es:List Expr} {pos p:Pos} {Q:D→Lp→Prop} {x:Str} {k:Nat} {sp:SpA}
theorem uY {f:Addr} {pins:List (Addr×Obj)} {σ:L2.St} {Z:Fz} {H:Hp} {s:Shared} {us:List Value} {vs:List V} {ds:List D} {QV:VK} (F:FnA C.X.prog C.X.w C.X.K C.X.mg C.X.base k f sp) (hr:Room k C.X.A) (I:Inv C.X pins σ H s) (ok:Ok C Γ L Z σ H) (r:Vals vs us) (rd:aZ C.X.K Z H vs ds)
  (h:sp ds L Q (C.R Γ)) (go:Go C L Z H Q QV):codeAny (model C.X.prog C.X.w) C.X.A (.call (.ref f) ⟨us,[]⟩) (fun r s'=>match r with | .ok (.ret v)=>EP C.X pins σ QV v s' | .ok _=>False | .error e=>C.X.xe e s') s:=by
 refine codeAny_mono (F C.X.A C.X.stack s H us vs QV (L2.WE C.W σ) hr I.env0 r ⟨ds,L,Z,Q,C.R Γ,rd,ok.con,h,fun d L' q v H' rv c f=>go v d H' L' rv c f q,fun cls fs L' q d H' xd c f=>ok.lr.of cls d σ H' Γ L' fs (ok.sl.mono f.mv) c f xd q⟩) fun r s' hq=> ?_
 cases r with
 | error e=>exact passAt C.tk σ pins H s e s' I hq
 | ok fl=>
  cases fl with
  | ret u=>exact I.after hq
  | next=>exact False.elim hq
  | brk=>exact False.elim hq
  | cont=>exact False.elim hq
theorem aH (F:Def C.X.prog C.X.w C.X.K C.X.mg C.X.base x k sp) (hr:Room k C.X.A) (h:AA C (e::es) Γ L fun ds L1=>sp ds L1 Q (C.R Γ)) (hg:Gl C.X x:=by rfl) (hdb:(x==("__debug__" :Str))=false:=by decide)
  (he:starEach (e::es) C.X.env=(false,eval e C.X.env)::starEach es C.X.env:=by rfl) (hpl:(backTo pos (starEach es C.X.env)).any (·.1)=false:=by rfl):AE C (.Call (.Name x p) (e::es) [] pos) Γ L Q:=fun Z σ H ok QV go=>by
 refine ⟨fun pins s I=> ?_⟩
 obtain ⟨f,hm,hk,G⟩:=F.ex
 refine wpAny_Call_Name_kw (ld_glob I hg hm ?_ hdb)
 refine PySem.W.callWith_K (h₀:=C.X.base) I.ok.mod.kin hk (thn ((h _ σ H ok (fun vs H1=> ∃ds L1 Z1,aZ C.X.K Z1 H1 vs ds∧C.Con L1 Z1 H1∧Fr L Z H L1 Z1 H1∧sp ds L1 Q (C.R Γ)) (fun vs ds H1 L1 r c f q=>⟨ds,L1,_,r,c,f,q⟩)).run pos pins s I) fun us s1 ⟨vs,H1,I1,r,ds,L1,Z1,rd,c1,f1,q⟩=>⟨I1.kIn,?_⟩) he hpl
 exact wpAny_call (uY G hr I1 (ok.step c1 f1) r rd q (go.after f1))
end

def uD (N:List Str) (ds:List D):Gm:=ds.map some++List.replicate (N.length - ds.length) none
theorem uU {K:PySem.W.Frag} {F:Fz} {H:Hp} {N:List Str} {vs:List V} {ds:List D} (r:aZ K F H vs ds):Sl K F H (L2.start N vs) (uD N ds):=by
 unfold L2.start uD
 have hl:=r.length
 refine ⟨by simp [hl],fun i d e=> ?_⟩
 by_cases h:i < ds.length
 ·rw [List.getElem?_append_left (by simpa using h),List.getElem?_map] at e
  cases q:ds[i]? with
  | none=>
   rw [q] at e
   cases e
  | some d'=>
   rw [q] at e
   cases e
   obtain ⟨v,h1,h2⟩:=r.get q
   exact ⟨v,by rw [List.getElem?_append_left (by simp;omega),List.getElem?_map,h1];rfl,h2⟩
 ·rw [List.getElem?_append_right (by simp;omega),List.getElem?_replicate] at e
  split at e <;> cases e
def uG (Q:D→Lp→Prop):AEnds where
 nx:=fun _ L'=> ∃L2,Le L2 L'∧Q .non L2
 rt:=fun d L'=> ∃L2,Le L2 L'∧Q d L2
theorem fnA {P:Program} {w:World} {K:PySem.W.Frag} {mg:Str→Option Value} {base:Heap} {x qual:Str} {st:Stmt} {f:Addr} {fd:FuncData} {N ps:List Str} {k:Nat} {sp:SpA} (F:Fun K x qual st f fd) (S:FnScope N ps (defScope st)) (hb:Binds K fd ps [])
  (len:∀ds L Q R,sp ds L Q R→ds.length=ps.length)
  (hbody:∀(cdv:Value) (A:Around) (outer:List Env) (s:Shared) (H:Hp) (E:XK) (ds:List D) (L:Lp) (Q:D→Lp→Prop) (R:Value→List (Str×D)→Lp→Prop),Room k (A.deeper (envOfC qual (defScope st) s.heap.objs.size f cdv))→sp ds L Q R→
   ASs (uF P w K mg base N qual (defScope st) f cdv A outer s H E S.nd R) (defBody st) (uD N ds) L (uG Q)):FnA P w K mg base (k+1) f sp:=by
 have G:FnOk P w K mg base (L2.CX P w) (k+1) f fd ps (aBA P w K sp):=by
  refine F.okX S (fun vs H Q E ⟨ds,L,Z,Q',R',r,_,h,_⟩=>by rw [r.length];exact len _ _ _ _ h) fun cdv A outer s H vs Q E hr ⟨ds,L,Z,Q',R',r,c,h,hq,he⟩=> ?_
  refine ⟨_,sW,hbody cdv A outer s H E ds L Q' R' hr h _ (L2.start N vs) H ⟨uU r,c,⟨fun cls d σ' H' Γ' L' fs _ c' f' xd q=>he cls fs L' q d H' xd c' f',True.intro⟩⟩ _ ⟨?_,?_,?_,?_⟩⟩
  ·rintro Z' σ' H' Γ' L' ok' f' ⟨L2,le,q⟩
   exact hq .non L2 q .non H' .non (ok'.con.le le) (f'.leR le)
  ·rintro Z' v d H' L' rv c' f' ⟨L2,le,q⟩
   exact hq d L2 q v H' rv (c'.le le) (f'.leR le)
  ·rintro _ _ _ _ _ _ _ z
   exact z.elim
  ·rintro _ _ _ _ _ _ _ z
   exact z.elim
 exact (G.raw hb .nil).imp fun vs H Q E h=>by rw [List.append_nil];exact h
end DL
namespace DL
open PySem PySem.Spec PyProof.Rows L2

section
variable {C:Ctx} {Γ Γ1 Γ2:Gm} {L:Lp} {e e2 a b c o tg:Expr} {es ts:List Expr} {pos p1 p2:Pos} {st:Stmt} {sts:List Stmt} {E:AEnds} {Q:D→Lp→Prop} {d:D} {ds:List D} {ws zs:List Nat}

def sgn (k:Nat):Str:=⟨#[k]⟩
def cV (x:Str):List D:=x.cps.toList.map fun k=> .str (sgn k)
theorem its_is {x:Str} {L0:Lp} {F0:Fz} {H0:Hp} (hx:SOk x):aA9 C (Its x) (cV x) (fun _=>True) L0 F0 H0:=by
 intro F i H L s cc g
 have hl:(cV x).length=x.cps.size:=by unfold cV;simp
 rw [hl]
 refine ⟨fun h=>h,fun h=>Nat.le_of_eq h.symm,fun v H' y hi=> ?_⟩
 obtain ⟨e1,k,hk,e2⟩:=y
 subst e1 e2
 refine ⟨.str (sgn k),?_,.str _ (.one (hx.mem (Array.mem_toList_iff.mpr (Array.mem_of_getElem? hk)))),.inl rfl⟩
 unfold cV
 rw [List.getElem?_map,Array.getElem?_toList,hk]
 rfl
theorem ai_str {R:List D→(Lp→Prop)→Lp→Prop} (h:AE C e Γ L fun d L1=> ∃x:Str,d= .str x∧(SOk x→R (cV x) (fun _=>True) L1)):AI C tg e Γ L R:=fun F σ H ok RV go=>
 qR (pi_str bA) (h _ σ H ok _ fun v d H1 L1 r c f ⟨x,ed,q⟩=>by
  subst ed
  exact ⟨x,r.strE,go _ H1 L1 _ _ c f (its_is r.bnd) (q r.bnd)⟩)
def oU (lo c:Int) (n:Nat):List D:=(List.range n).map fun k=> .int (lo+(k:Nat)*c)
theorem itc_is {lo c:Int} {n:Nat} {L0:Lp} {F0:Fz} {H0:Hp}:aA9 C (Itc lo c n) (oU lo c n) (fun _=>True) L0 F0 H0:=by
 intro F i H L s cc g
 have hl:(oU lo c n).length=n:=by unfold oU;simp
 rw [hl]
 refine ⟨fun h=>h,fun h=>Nat.le_of_eq h.symm,fun x H' y hi=> ?_⟩
 obtain ⟨e1,e2⟩:=y
 subst e1 e2
 refine ⟨_,?_,.int _,.inl rfl⟩
 unfold oU
 simp [hi]
theorem ai_range3 {p:Pos} {R:List D→(Lp→Prop)→Lp→Prop} (hm:C.X.mg "range"=none) (h:AA C [a,b,c] Γ L fun ds L1=> ∃(i j k:Int) (n:Nat),ds= [.int i,.int j,.int k]∧RgC i j k n∧R (oU i k n) (fun _=>True) L1) (hg:Gl C.X "range" :=by rfl)
  (hs:starEach [a,b,c] C.X.env=(false,eval a C.X.env)::starEach [b,c] C.X.env:=by rfl) (hpl:(backTo pos (starEach [b,c] C.X.env)).any (·.1)=false:=by rfl):AI C tg (.Call (.Name "range" p) [a,b,c] [] pos) Γ L R:=fun F σ H ok RV go=>
 qR (pi_range3 hg hm qT hs hpl) (h _ σ H ok _ fun vs ds H1 L1 r c f ⟨i,j,k,n,ed,hr,q⟩=>by
  subst ed
  cases r with
  | cons r1 rr=>
   obtain ⟨v,w,rfl,r2,r3⟩:=aZ.twoE rr
   refine ⟨i,j,k,n,by rw [r1.intE,r2.intE,r3.intE],hr,go _ H1 L1 _ _ c f itc_is q⟩)
def qW (xs ys:List D):List D:=List.zipWith (fun x y=> .tup [x,y]) xs ys
theorem itzT_is {x y:Addr} {vs us:List V} {xs ys:List D} {L0:Lp} {F0:Fz} {H0:Hp} (hx:H0 x=some (.tup vs)) (hy:H0 y=some (.tup us)) (rx:aZ C.X.K F0 H0 vs xs) (ry:aZ C.X.K F0 H0 us ys):aA9 C (RZ.ItzT C.X.K x y) (qW xs ys) (fun _=>True) L0 F0 H0:=by
 intro F i H L s cc g
 have hx':SqT C.X.K H x vs:=SqT.of (s.stay.tup _ _ hx)
 have hy':SqT C.X.K H y us:=SqT.of (s.stay.tup _ _ hy)
 have hl:(qW xs ys).length=min xs.length ys.length:=by unfold qW;simp
 have l1:=rx.length
 have l2:=ry.length
 rw [hl]
 refine ⟨fun h=> ?_,fun h=>⟨vs,us,hx',hy',?_⟩,fun v H' yy hi=> ?_⟩
 ·have h1:i < vs.length:=by rw [l1];exact Nat.lt_of_lt_of_le h (Nat.min_le_left _ _)
  have h2:i < us.length:=by rw [l2];exact Nat.lt_of_lt_of_le h (Nat.min_le_right _ _)
  exact ⟨vs,us,vs[i],us[i],hx',hy',List.getElem?_eq_getElem h1,List.getElem?_eq_getElem h2⟩
 ·omega
 ·obtain ⟨T,x1,y1,e1,nT,e2,k1,k2⟩:=yy
  subst e1 e2
  obtain ⟨d1,g1,q1⟩:=rx.getV (k1 vs hx')
  obtain ⟨d2,g2,q2⟩:=ry.getV (k2 us hy')
  have s2:Mv F0 H0 F (upd H T (.tup [x1,y1])):=s.mv.trans (.new nT)
  refine ⟨.tup [d1,d2],?_,Rep.tupI upd_same (.cons (q1.mono s2) (.cons (q2.mono s2) .nil)) (by show 2≤sizeLine;decide),.inr ⟨T,_,nT,rfl⟩⟩
  unfold qW
  rw [List.getElem?_zipWith,g1,g2]
theorem wI {p tpos:Pos} {elts:List Expr} {kk:Nat} {R:List D→(Lp→Prop)→Lp→Prop} (hm:C.X.mg "zip"=none) (h:AA C [e,e2] Γ L fun ds L1=> ∃xs ys,ds= [.tup xs,.tup ys]∧(xs.length≤sizeLine→R (qW xs ys) (fun _=>True) L1)) (hg:Gl C.X "zip" :=by rfl)
  (hs:starEach [e,e2] C.X.env=(false,eval e C.X.env)::starEach [e2] C.X.env:=by rfl) (hpl:(backTo pos (starEach [e2] C.X.env)).any (·.1)=false:=by rfl):AI C (.Tuple elts kk tpos) (.Call (.Name "zip" p) [e,e2] [] pos) Γ L R:=fun F σ H ok RV go=>
 qR (RZ.pi_zipA hg hm qT hs hpl) (h _ σ H ok _ fun vs ds H1 L1 r c f ⟨xs,ys,ed,q⟩=>by
  subst ed
  obtain ⟨v,w,rfl,r1,r2⟩:=r.twoE
  obtain ⟨x,vx,rfl,hx,rx⟩:=r1.tupE
  obtain ⟨y,vy,rfl,hy,ry⟩:=r2.tupE
  exact ⟨x,y,vx,vy,rfl,.inr ⟨SqT.of hx,SqT.of hy,go _ H1 L1 _ _ c f (itzT_is hx hy rx ry) (q r1.bnd)⟩⟩)

abbrev rInSign:R2:=fun x y H Q=> ∃(c:Nat) (z:Str),x= .str ⟨#[c]⟩∧y= .str z∧Q (.bl (decide (c∈z.cps.toList))) H
theorem r_inSign {k:Nat} {z:Str} (q:Q (.bl (decide (k∈z.cps.toList))) L):L2R C rInSign (.str (sgn k)) (.str z) L Q:=fun F vx vy H c rx ry QV go=>⟨k,z,rx.strE,ry.strE,go _ _ H L (.bl _) c (.refl L H) q⟩
theorem cutS_len (z:Str) (lo hi:Option Int):(cutS z lo hi).length≤z.length:=by
 unfold cutS
 show (List.toArray _).size≤z.cps.size
 rw [List.size_toArray,List.length_take,List.length_drop,Array.length_toList]
 show min _ (z.cps.size - _)≤_
 omega
theorem SOk.cut {z:Str} (h:SOk z) (lo hi:Option Int):SOk (cutS z lo hi):= .of (Nat.le_trans (cutS_len z lo hi) h.len) fun k hk=>by
 unfold cutS at hk
 exact h.mem (List.mem_of_mem_drop (List.mem_of_mem_take (by simpa using hk)))
theorem aAW {z:Str} {lo hi:Option Int} (q:Q (.str (cutS z lo hi)) L):LsR C rSlS (.str z) lo hi L Q:=fun F v H c r QV go=>⟨z,r.strE,r.bnd.len,go _ _ H L (.str _ (SOk.cut r.bnd lo hi)) c (.refl L H) q⟩
theorem join_tl (s:Str):∀ys:List Str,(Str.join s ys).length≤(ys.map (·.length)).sum+ys.length*s.length
 | []=>Nat.zero_le _
 | [x]=>by
  show x.length≤_
  simp
 | x::z::r=>by
  have ih:=join_tl s (z::r)
  show (x++s++Str.join s (z::r)).length≤_
  rw [lC,lC]
  rw [List.map_cons,List.sum_cons,List.length_cons,Nat.add_mul,Nat.one_mul]
  omega
theorem join_mem (s:Str) {k:Nat}:∀ys:List Str,k∈(Str.join s ys).cps.toList→k∈s.cps.toList∨∃y∈ys,k∈y.cps.toList
 | [],h=>by
  have h':k∈(#[]:Array Nat).toList:=h
  simp at h'
 | [x],h=> .inr ⟨x,List.mem_singleton_self x,h⟩
 | x::z::r,h=>by
  have h':k∈(x++s++Str.join s (z::r)).cps.toList:=h
  have e:(x++s++Str.join s (z::r)).cps.toList=x.cps.toList++s.cps.toList++(Str.join s (z::r)).cps.toList:=by
   show ((x.cps++s.cps)++(Str.join s (z::r)).cps).toList=_
   simp
  rw [e] at h'
  rcases List.mem_append.mp h' with q | q
  ·rcases List.mem_append.mp q with q | q
   ·exact .inr ⟨x,List.mem_cons_self,q⟩
   ·exact .inl q
  ·rcases join_mem s (z::r) q with q | ⟨y,hy,q⟩
   ·exact .inl q
   ·exact .inr ⟨y,List.mem_cons_of_mem _ hy,q⟩
theorem SOk.join {s:Str} {ys:List Str} (hs:SOk s) (hy:∀y∈ys,SOk y) (hz:(ys.map (·.length)).sum+ys.length*s.length≤16777216):SOk (Txt.join s ys):=by
 rw [TL.join_eq]
 refine .of (Nat.le_trans (join_tl s ys) (by rw [sizeLine_eq];exact hz)) fun k hk=> ?_
 rcases join_mem s ys hk with q | ⟨y,h1,q⟩
 ·exact hs.mem q
 ·exact (hy y h1).mem q
theorem reps_strOk {K:PySem.W.Frag} {F:Fz} {H:Hp} {vs:List V} {bs:List Str} (r:aZ K F H vs (bs.map D.str)):∀y∈bs,SOk y:=fun y hy=>by
 obtain ⟨i,hi⟩:=List.getElem?_of_mem hy
 obtain ⟨v,_,rv⟩:=r.get (i:=i) (d:= .str y) (by rw [List.getElem?_map,hi];rfl)
 exact rv.bnd
theorem ae_join {apos:Pos} (h:AE C o Γ L fun x L1=> ∃s:Str,x= .str s∧AE C e Γ L1 fun y L2=> ∃(p:Addr) (ys:List Str),y= .ptr p∧L2 p=some (.lst (ys.map D.str))∧(ys.map (·.length)).sum+ys.length*s.length≤16777216∧Q (.str (Txt.join s ys)) L2)
  (hs:starEach [e] C.X.env= [(false,eval e C.X.env)]:=by rfl) (hbase:attributeBase o "join" C.X.env (eval o C.X.env)=eval o C.X.env:=by rfl) (hline:(apos.endLine==pos.line)=true:=by rfl):AE C (.Call (.Attribute o "join" apos) [e] [] pos) Γ L Q:=fun F σ H ok QV go=>
 dD (pe_join bA bA hs hbase hline) (h _ σ H ok _ fun vx x H1 L1 r1 c1 f1 ⟨s,ex,q1⟩=>by
  subst ex
  refine ⟨⟨s,r1.strE⟩,q1 _ σ H1 (ok.step c1 f1) _ fun vy y H2 L2 r2 c2 f2 ⟨p,ys,ey,hp,hz,q2⟩=> ?_⟩
  subst ey
  obtain ⟨ws,ha,ra,_⟩:=c2.at_ p _ hp
  have e:=cW ra
  have hy:=reps_strOk ra
  subst e
  exact ⟨s,p,ys,r1.strE,by rw [r2.ptrE],.inl (SqL.of ha),hz,go _ _ H2 L2 (.str _ (SOk.join r1.bnd hy hz)) c2 (f1.trans f2) q2⟩)

theorem extend_tuple (l:Addr) (items:Array Value) (n:Nat) (b:Addr) (items2:Array Value) (n2:Nat) (dd:Option Addr) (sl:Array (Option Value)) (hs0:¬(!items.isEmpty && Builtin.List.listTooLong (items.size+items2.size))=true) (hs1:items.size≤sizeLine) (hs2:items.size+items2.size≤sizeLine+1):
  Meets (Builtin.«list.extend» ⟨[.ref l,.ref b],[]⟩) (fun _ R s=>s.heap.get? l=some {cls:= .type "list",dict:=none,data:= .seq items n,slots:= #[]}∧s.heap.get? b=some {cls:= .type "tuple",dict:=dd,data:= .seq items2 n2,slots:=sl}∧R (.ok (.ret Value.none)) {s with heap:=s.heap.update l (Obj.mapSeq fun x=>x++items2),toks:=s.toks}):=
 .of_wp fun prog w A R s h=>by
  obtain ⟨hp,g,d,tk,os⟩:=s;obtain ⟨hl,hb,h⟩:=h;have f1:=PySem.AutoSeq1.idx_int;have f2:=PySem.AutoSeq1.sub_tuple_tuple;have f3:=PySem.AutoSeq1.sub_list_list;have f4:=PySem.AutoSeq1.sub_tuple_list;have f5:=PySem.AutoSeq1.sub_list_tuple;
  have hz':(items++items2).size≤sizeLine+1:=by rw [Array.size_append];exact hs2
  wp_walk using (wpAny_updateSeq hl rfl (hz:=hs1) (_hz':=hz')),wpAny_loadPart' hl,wpAny_loadPart' hb;exact ⟨_,rfl,h⟩
abbrev aBj (K:PySem.W.Frag):V→List V→Hp→VK→Prop:=fun x vs H Q=> ∃l b xs zs,x= .ref l∧vs= [.ref b]∧H l=some (.lst xs)∧H b=some (.tup zs)∧xs.length+zs.length≤sizeLine∧Q .non (upd H l (.lst (xs++zs)))
theorem mt_extendT {X:Cx}:MtR X "list.extend" (aBj X.K):=by
 intro pins s σ H x vs v us Q I rx rv h
 obtain ⟨l,b,xs,zs,rfl,rfl,hH,hB,hz,q⟩:=h
 cases rx
 obtain ⟨u,rfl,ru⟩:=rv.one
 cases ru
 obtain ⟨z,its,n,r,hl,e⟩:=I.lstM hH
 obtain ⟨its2,r2,⟨o,ho,hc,n2,hd⟩,hz2⟩:=I.tuple (SqT.of hB)
 obtain ⟨oc,od,dt,sl⟩:=o
 simp only at hc hd
 subst hc hd
 have l2:=r2.length
 have hsz:its.toArray.size+its2.toArray.size≤sizeLine:=by rw [List.size_toArray,List.size_toArray];omega
 have hlong:¬(!its.toArray.isEmpty && Builtin.List.listTooLong (its.toArray.size+its2.toArray.size))=true:=by
  rw [notLongL hsz,Bool.and_false]
  exact Bool.false_ne_true
 refine call_meets F.slot_list_extend ⟨_,e,rfl⟩ F.entry_list_extend (F.args_list_extend_2 _ _)
  (extend_tuple l its.toArray n b its2.toArray n2 od sl hlong (by rw [List.size_toArray];omega) (by omega)) ⟨e,ho,?_⟩
 refine ⟨.non,_,I.lset (its':=its++its2) hH e (by simp) (r.append r2) ?_,rfl,q⟩
 rw [List.length_append]
 exact hz
theorem m_extendT {p:Addr} {xs ys:List D} (hp:L p=some (.lst xs)) (hl:xs.length+ys.length≤sizeLine) (q:Q .non (put L p (.lst (xs++ys)))):LmR C (aBj C.X.K) (.ptr p) [.tup ys] L Q:=fun F v vs H c r1 r2 QV go=>by
 obtain ⟨w,rfl,r⟩:=r2.oneE
 obtain ⟨ws,ha,ra,hzz⟩:=c.at_ p _ hp
 obtain ⟨b,us,rfl,hb,rb⟩:=r.tupE
 have s:=Mv.write (o:= .lst (ws++us)) c hp
 exact ⟨p,b,ws,us,r1.ptrE,rfl,ha,hb,by rw [ra.length,rb.length];exact hl,go _ _ _ (put L p (.lst (xs++ys))) .non (c.write hp ⟨_,upd_same,(ra.append rb).mono s,by rw [List.length_append];exact hl⟩) (.write c hp) q⟩
abbrev rLstS:List V→Hp→VK→Prop:=fun xs H Q=> ∃z:Str,xs= [.str z]∧z.length≤sizeLine∧∀l,H l=none→Q (.ref l) (upd H l (.lst (z.cps.toList.map fun k=>V.str ⟨#[k]⟩)))
theorem qM {X:Cx} (hc:X.calm=true):CallR X (.type "list") rLstS:=by
 intro pins s σ H xs us Q I r h
 obtain ⟨z,rfl,hz,q⟩:=h
 obtain ⟨u,rfl,ru⟩:=vals1 r
 obtain ⟨t,rfl⟩:=ru
 refine PySem.call_list_str (hn:=hz) (I.ok.hd hc) z t fun h' tk acc c hk hS hacc=> ?_
 have hv:Vals (z.cps.toList.map fun k=>V.str ⟨#[k]⟩) acc.toList:=by
  have hsz:acc.toList.length=z.cps.toList.length:=by rw [Array.length_toList,hacc.1,Array.length_toList]
  have key:∀(l:List Value) (ks:List Nat),l.length=ks.length→(∀(j:Nat) v,l[j]? =some v→∃k u,ks[j]? =some k∧v= .str ⟨#[k]⟩ u)→Vals (ks.map fun k=>V.str ⟨#[k]⟩) l:=by
   intro l
   induction l with
   | nil=>
    intro ks hl _
    cases ks with
    | nil=>exact .nil
    | cons _ _=>simp at hl
   | cons v l ih=>
    intro ks hl hj
    cases ks with
    | nil=>simp at hl
    | cons k ks=>
     obtain ⟨k',u,e1,e2⟩:=hj 0 v rfl
     simp at e1
     subst e1 e2
     exact .cons ⟨u,rfl⟩ (ih ks (by simpa using hl) fun j w hw=>by simpa using hj (j+1) w (by simpa using hw))
  refine key _ _ hsz fun j v hv=> ?_
  obtain ⟨c,u,e1,e2⟩:=hacc.2 j v (by simpa using hv)
  exact ⟨c,u,by simpa using e1,e2⟩
 refine ⟨.ref s.heap.objs.size,_,I.laid (a:=s.heap.objs.size) (o:= .lst (z.cps.toList.map fun k=>V.str ⟨#[k]⟩)) hk (Nat.le_refl _) ⟨?_,acc.toList,c,hv,?_⟩,rfl,q _ (I.hok.fresh (Nat.le_refl _))⟩
 ·rw [List.length_map,Array.length_toList]
  exact hz
 ·simpa using hS
theorem reps_signs {K:PySem.W.Frag} {F:Fz} {H:Hp} {x:Str} (hx:SOk x):aZ K F H (x.cps.toList.map fun k=>V.str ⟨#[k]⟩) (cV x):=by
 refine aZ.of_get (by unfold cV;simp) fun i v d h1 h2=> ?_
 unfold cV at h2
 rw [List.getElem?_map] at h1 h2
 cases e:x.cps.toList[i]? with
 | none=>
  rw [e] at h1
  cases h1
 | some k=>
  rw [e] at h1 h2
  cases h1
  cases h2
  exact .str _ (.one (hx.mem (List.mem_of_getElem? e)))
theorem yO {z:Str} (q:∀l,L l=none→Q (.ptr l) (put L l (.lst (cV z)))):LcR C rLstS [.str z] L Q:=fun F vs H c r0 QV go=>by
 obtain ⟨v,rfl,r⟩:=r0.oneE
 have hz:SOk z:=r.bnd
 refine ⟨z,by rw [r.strE],hz.len,fun l hl=>go _ _ _ (put L l (.lst (cV z))) (.ptr l) (c.newL hl ⟨_,upd_same,reps_signs hz,?_⟩) (.newL hl) (q l (c.free hl))⟩
 unfold cV
 rw [List.length_map,Array.length_toList]
 exact hz.len
def yC (x:Str) (n:Nat):Str:=⟨(List.replicate n x.cps.toList).flatten.toArray⟩
theorem rep_fold (x:Array Nat):∀(n:Nat) (acc:Array Nat),((List.replicate n x).foldl (· ++ ·) acc).toList=acc.toList++(List.replicate n x.toList).flatten
 | 0,acc=>by simp
 | n+1,acc=>by
  rw [List.replicate_succ,List.foldl_cons,rep_fold x n,List.replicate_succ,List.flatten_cons]
  simp
theorem rep_len {z:Str} {n:Nat} (hz:z.length*n≤1000000):(yC z n).length≤sizeLine:=by
 show (List.toArray _).size≤_
 rw [List.size_toArray,List.length_flatten,List.map_replicate,List.sum_replicate_nat,Array.length_toList,sizeLine_eq]
 have:n*z.cps.size≤1000000:=by rw [Nat.mul_comm];exact hz
 omega
abbrev aBg:R2:=fun x y H Q=> ∃(z:Str) (n:Int),x= .str z∧y= .int n∧0≤n∧n≤1000000∧z.length*n.toNat≤1000000∧Q (.str (yC z n.toNat)) H
theorem op_mulS {X:Cx}:OpR X (binaryOp .Mult) aBg:=by
 intro pins s σ H x y v u Q I rx ry h
 obtain ⟨z,n,rfl,rfl,h0,h1,hz,q⟩:=h
 obtain ⟨t,rfl⟩:=rx
 obtain ⟨t',rfl⟩:=ry
 have e0:∀n:Nat,yC z n=⟨(List.replicate n z.cps).foldl (· ++ ·) #[]⟩:=fun n=>by
  unfold yC
  congr 1
  apply Array.toList_inj.mp
  rw [rep_fold]
  simp
 refine PySem.P.mul_str ?_ (fun _ _=> ?_) (fun _ _=> ?_) ?_
 ·have a1:¬n < -(2 ^ 63:Int):=by omega
  have a2:¬n≥2 ^ 63:=by omega
  rw [decide_eq_false a1,decide_eq_false a2]
  rfl
 ·rename_i n1 _
  have hn1:(1:Int)≤n:=by omega
  have hl:z.length≤1000000:=by
   refine Nat.le_trans ?_ hz
   have:1≤n.toNat:=by omega
   exact Nat.le_mul_of_pos_right _ this
  intro hh
  have h2:(1000000:Int)≤(2 ^ 63 - 1) / n:=Int.le_ediv_of_mul_le (by omega) (by omega)
  omega
 ·unfold Builtin.Str.tooLong
  refine decide_eq_false ?_
  rw [sizeLine_eq]
  omega
 ·by_cases c1:n < 1
  ·rw [if_pos c1]
   have e:n=0:=by omega
   subst e
   exact ⟨Nat.zero_le _,.str (yC z 0),H,I.tok _,⟨_,rfl⟩,q⟩
  ·rw [if_neg c1]
   by_cases c2:(n==1 || z.length==0)=true
   ·rw [if_pos c2]
    have e:yC z n.toNat=z:=by
     rw [Bool.or_eq_true] at c2
     rcases c2 with c | c
     ·have e1:n=1:=by simpa using c
      subst e1
      show (⟨(List.replicate 1 z.cps.toList).flatten.toArray⟩:Str)=z
      simp
     ·have e1:z.cps= #[]:=Array.eq_empty_of_size_eq_zero (show z.length=0 by simpa using c)
      unfold yC
      cases z with
      | mk cps=>
       simp only at e1
       subst e1
       simp
    rw [e] at q
    exact ⟨.str z,H,I,⟨_,rfl⟩,q⟩
   ·rw [if_neg c2,←e0]
    exact ⟨rep_len hz,.str (yC z n.toNat),H,I.tok _,⟨_,rfl⟩,q⟩
theorem SOk.rep {z:Str} (h:SOk z) {n:Nat} (hz:z.length*n≤1000000):SOk (yC z n):=by
 refine .of (rep_len hz) fun k hk=> ?_
 ·unfold yC at hk
  have hk':k∈(List.replicate n z.cps.toList).flatten:=by simpa using hk
  obtain ⟨l,h1,h2⟩:=List.mem_flatten.mp hk'
  rw [(List.mem_replicate.mp h1).2] at h2
  exact h.mem h2
theorem r_mulS {z:Str} {n:Int} (h0:0≤n) (h1:n≤1000000) (hz:z.length*n.toNat≤1000000) (q:Q (.str (yC z n.toNat)) L):L2R C aBg (.str z) (.int n) L Q:=fun F vx vy H c rx ry QV go=>
 ⟨z,n,rx.strE,ry.intE,h0,h1,hz,go _ _ H L (.str _ (SOk.rep rx.bnd hz)) c (.refl L H) q⟩
end
end DL
namespace DL
open PySem PySem.Spec PyProof.Rows L2

mutual
def py:D→PyData
 | .non=> .none
 | .bl b=> .bool b
 | .int i=> .int i
 | .str x=> .str x
 | .tup ds=> .tuple (pys ds)
 | .ty _=> .none
 | .ptr _=> .none
 | .ilst _=> .none
 | .obj _ _=> .none
 | .flst _=> .none
 | .fdct _=> .none
 | .kdct _=> .none
 | .wds _=> .none
 | .iob _ _=> .none
 | .tk _=> .none
def pys:List D→List PyData
 | []=> []
 | d::ds=>py d::pys ds
end
mutual
def okD:D→Bool
 | .non=>true
 | .bl _=>true
 | .int _=>true
 | .str _=>true
 | .tup ds=>gA ds
 | .ty _=>false
 | .ptr _=>false
 | .ilst _=>false
 | .obj _ _=>false
 | .flst _=>false
 | .fdct _=>false
 | .kdct _=>false
 | .wds _=>false
 | .iob _ _=>false
 | .tk _=>false
def gA:List D→Bool
 | []=>true
 | d::ds=>okD d && gA ds
end
mutual
theorem Rep.dp {K:PySem.W.Frag} {F:Fz} {H:Hp}:∀(d:D) (v:V),okD d=true→Rep K F H v d→Dp K H v (py d)∧(py d).canLay0=true
 | .non,_,_,r=>by rw [r.nonE,py];exact ⟨.non,rfl⟩
 | .bl b,_,_,r=>by rw [r.blE,py];exact ⟨.bl b,rfl⟩
 | .int i,_,_,r=>by rw [r.intE,py];exact ⟨.int i,rfl⟩
 | .str x,_,_,r=>by
  have h:SOk x:=r.bnd
  rw [r.strE,py]
  exact ⟨.str x,by rw [PyData.canLay0];exact h.sgn⟩
 | .tup ds,_,h,r=>by
  obtain ⟨a,vs,rfl,ha,ra⟩:=r.tupE
  rw [okD] at h
  obtain ⟨h1,h2⟩:=aZ.dp ds vs h ra
  rw [py]
  exact ⟨.tup (SqT.of ha) h1,by rw [PyData.canLay0];exact h2⟩
 | .ty _,_,h,_=>by simp [okD] at h
 | .ptr _,_,h,_=>by simp [okD] at h
 | .ilst _,_,h,_=>by simp [okD] at h
 | .obj _ _,_,h,_=>by simp [okD] at h
 | .flst _,_,h,_=>by simp [okD] at h
 | .fdct _,_,h,_=>by simp [okD] at h
 | .kdct _,_,h,_=>by simp [okD] at h
 | .wds _,_,h,_=>by simp [okD] at h
 | .iob _ _,_,h,_=>by simp [okD] at h
 | .tk _,_,h,_=>by simp [okD] at h
theorem aZ.dp {K:PySem.W.Frag} {F:Fz} {H:Hp}:∀(ds:List D) (vs:List V),gA ds=true→aZ K F H vs ds→DpAll K H vs (pys ds)∧PyData.canLayAll0 (pys ds)=true
 | [],_,_,r=>by
  cases r
  rw [pys]
  exact ⟨.nil,rfl⟩
 | d::ds,_,h,r=>by
  rw [gA,Bool.and_eq_true] at h
  cases r with
  | cons r1 r2=>
   obtain ⟨a1,a2⟩:=Rep.dp d _ h.1 r1
   obtain ⟨b1,b2⟩:=aZ.dp ds _ h.2 r2
   rw [pys]
   exact ⟨.cons a1 b1,by rw [PyData.canLayAll0,a2,b2];rfl⟩
end

section
variable {C:Ctx} {Γ Γ1 Γ2:Gm} {L:Lp} {e e2 a b c o tg:Expr} {es ts:List Expr} {pos p1 p2:Pos} {st:Stmt} {sts:List Stmt} {E:AEnds} {Q:D→Lp→Prop} {d:D} {ds:List D} {ws zs:List Nat}
theorem fX {d:PyData} (h1:d.canLay0=true) (h2:d.depth≤64):SeqAt.shaped d=true:=by
 unfold SeqAt.shaped
 rw [h1,decide_eq_true h2]
 rfl
theorem r_eqD {x y:D} (hx:okD x=true) (hy:okD y=true) (dx:(py x).depth≤64) (dy:(py y).depth≤64) (q:Q (.bl (PyData.eqv (py x) (py y))) L):L2R C (rEqD C.X.K) x y L Q:=fun F vx vy H c rx ry QV go=>by
 obtain ⟨a1,a2⟩:=Rep.dp x vx hx rx
 obtain ⟨b1,b2⟩:=Rep.dp y vy hy ry
 exact ⟨py x,py y,a1,b1,fX a2 dx,fX b2 dy,go _ _ H L (.bl _) c (.refl L H) q⟩
theorem r_neD {x y:D} (hx:okD x=true) (hy:okD y=true) (dx:(py x).depth≤64) (dy:(py y).depth≤64) (q:Q (.bl (!PyData.eqv (py x) (py y))) L):L2R C (rNeD C.X.K) x y L Q:=fun F vx vy H c rx ry QV go=>by
 obtain ⟨a1,a2⟩:=Rep.dp x vx hx rx
 obtain ⟨b1,b2⟩:=Rep.dp y vy hy ry
 exact ⟨py x,py y,a1,b1,fX a2 dx,fX b2 dy,go _ _ H L (.bl _) c (.refl L H) q⟩
theorem r_eqSame {x:D} (hx:okD x=true) (dx:(py x).depth≤64) (q:Q (.bl true) L):L2R C (rEqD C.X.K) x x L Q:=fun F vx vy H c rx ry QV go=>by
 obtain ⟨a1,a2⟩:=Rep.dp x vx hx rx
 obtain ⟨b1,b2⟩:=Rep.dp x vy hx ry
 refine ⟨py x,py x,a1,b1,fX a2 dx,fX b2 dx,?_⟩
 rw [SeqAt.eqv_refl _ a2]
 exact go _ _ H L (.bl _) c (.refl L H) q
theorem r_neSame {x:D} (hx:okD x=true) (dx:(py x).depth≤64) (q:Q (.bl false) L):L2R C (rNeD C.X.K) x x L Q:=fun F vx vy H c rx ry QV go=>by
 obtain ⟨a1,a2⟩:=Rep.dp x vx hx rx
 obtain ⟨b1,b2⟩:=Rep.dp x vy hx ry
 refine ⟨py x,py x,a1,b1,fX a2 dx,fX b2 dx,?_⟩
 rw [SeqAt.eqv_refl _ a2]
 exact go _ _ H L (.bl _) c (.refl L H) q

abbrev aBO (K:PySem.W.Frag):R2:=fun x y H Q=> ∃d e,Dp K H x d∧Dp K H y e∧PySem.W.alike d e=true∧d≠ .none∧d.depth≤64∧Q (.bl (PySem.W.dataLt d e)) H
theorem op_ltD {X:Cx} (hu:X.A.units+64 < cLine):OpR X (compareOp .Lt) (aBO X.K):=by
 intro pins s σ H x y v u Q I rx ry h
 obtain ⟨d,e,hd,he,hal,hn,hz,q⟩:=h
 obtain ⟨as,r1⟩:=Dp.reads I d x v hd rx
 obtain ⟨bs,r2⟩:=Dp.reads I e y u he ry
 exact PySem.W.rcLt_alike d e X.A s v u as bs r1 r2 hal hn (by have:=Nat.min_le_left d.depth e.depth;omega) _ _ _ _ ⟨.bl _,H,I,rfl,q⟩
theorem r_ltD {x y:D} (hx:okD x=true) (hy:okD y=true) (hal:PySem.W.alike (py x) (py y)=true) (hn:py x≠ .none) (dx:(py x).depth≤64) (q:Q (.bl (PySem.W.dataLt (py x) (py y))) L):L2R C (aBO C.X.K) x y L Q:=fun F vx vy H c rx ry QV go=>by
 obtain ⟨a1,a2⟩:=Rep.dp x vx hx rx
 obtain ⟨b1,b2⟩:=Rep.dp y vy hy ry
 exact ⟨py x,py y,a1,b1,hal,hn,dx,go _ _ H L (.bl _) c (.refl L H) q⟩

theorem bT {α β:Type} {R:α→β→Prop}:∀{l1:List α} {l2:List β},Paired R l1 l2→PySem.W.EachIs R l1 l2
 | _,_,.nil=> .nil
 | _,_,.cons h t=> .cons h (bT t)
theorem fU {α β:Type} {R:α→β→Prop}:∀{l1:List α} {l2:List β},PySem.W.EachIs R l1 l2→Paired R l1 l2
 | _,_,.nil=> .nil
 | _,_,.cons h t=> .cons h (fU t)
def leD (x y:D):Bool:=PySem.W.dataLe false py x y
abbrev aAz (K:PySem.W.Frag):List V→Hp→VK→Prop:=fun vs H Q=> ∃(a:Addr) (xs:List V) (ds:List D) (F:Fz),vs= [.ref a]∧SqL K H a xs∧aZ K F H xs ds∧gA ds=true∧PySem.W.AllAlike (ds.map py)∧PySem.W.Sortable (ds.map py)∧(∀d∈ds,(py d).depth≤64)∧
 ∀p ys,H p=none→aZ K F H ys (ds.mergeSort leD)→Q (.ref p) (upd H p (.lst ys))
theorem pA {X:Cx} (hu:X.A.units+100 < cLine):CallR X (.builtin "sorted") (aAz X.K):=by
 intro pins s σ H vs us Q I r h
 obtain ⟨a,xs,ds,F,rfl,hs,rd,hok,hal,hso,hde,q⟩:=h
 obtain ⟨its,rv,hl,hz⟩:=I.list hs
 obtain ⟨u,rfl,ru⟩:=vals1 r
 obtain rfl:u=Value.ref a:=ru
 have key:∀{xs:List V} {its:List Value} {ds:List D},gA ds=true→Vals xs its→aZ X.K F H xs ds→Paired (fun (v:Value) (d:D)=>(∃x,RelV x v∧Rep X.K F H x d)∧∃as,Reads s.heap v (py d) as) its ds:=by
  intro xs its ds hok rv rd
  induction rd generalizing its with
  | nil=>cases rv;exact .nil
  | cons r1 r2 ih=>
   rw [gA,Bool.and_eq_true] at hok
   cases rv with
   | cons q1 q2=>exact .cons ⟨⟨_,q1,r1⟩,Dp.reads I _ _ _ (Rep.dp _ _ hok.1 r1).1 q1⟩ (ih hok.2 q2)
 have hp:=key hok rv rd
 refine PySem.W.sorted_data (R:=fun v d=> ∃x,RelV x v∧Rep X.K F H x d) (enc:=py) (bs:=ds) hl.isList (bT (Paired.mono hp fun _ _ z=>z.1)) (bT (Paired.mono hp fun _ _ z=>z.2)) hal hso (by rw [←rd.length];exact hz) (fun b hb=>by have:=hde b hb;omega) fun out hlen hout=> ?_
 obtain ⟨ep,he'⟩:=PyProof.Rows.sortedAll_at s.heap its (List.toArray out)
 have back:∀{out:List Value} {ds:List D},Paired (fun (v:Value) (d:D)=> ∃x,RelV x v∧Rep X.K F H x d) out ds→∃ys,Vals ys out∧aZ X.K F H ys ds:=by
  intro out ds h
  induction h with
  | nil=>exact ⟨[],.nil,.nil⟩
  | cons h1 h2 ih=>
   obtain ⟨x,e1,e2⟩:=h1
   obtain ⟨ys,e3,e4⟩:=ih
   exact ⟨x::ys,.cons e1 e3,.cons e2 e4⟩
 obtain ⟨ys,v1,v2⟩:=back (fU hout)
 have hl2:ys.length≤sizeLine:=by
  rw [v1.length,hlen,←rd.length]
  exact hz
 exact ⟨.ref _,upd H (s.heap.objs.size+1) (.lst ys),I.laid (t':=s.toks) (fun _ _=>PyProof.Rows.sortedAll_old) (Nat.le_succ _) ⟨hl2,out,ep,v1,by simpa using he'⟩,rfl,q _ ys (I.hok.fresh (Nat.le_succ _)) v2⟩
theorem c_sortD {p:Addr} {ds:List D} (hp:L p=some (.lst ds)) (hok:gA ds=true) (hal:PySem.W.AllAlike (ds.map py)) (hso:PySem.W.Sortable (ds.map py)) (hde:∀d∈ds,(py d).depth≤64) (q:∀l,L l=none→Q (.ptr l) (put L l (.lst (ds.mergeSort leD)))):LcR C (aAz C.X.K) [.ptr p] L Q:=fun F vs H c r0 QV go=>by
 obtain ⟨v,rfl,r⟩:=r0.oneE
 obtain ⟨ws,ha,ra,hz⟩:=c.at_ p _ hp
 refine ⟨p,ws,ds,_,by rw [r.ptrE],SqL.of ha,ra,hok,hal,hso,hde,fun l ys hl ry=>go _ _ _ (put L l (.lst (ds.mergeSort leD))) (.ptr l) (c.newL hl ⟨ys,upd_same,ry.mono (.new hl),?_⟩) (.newL hl) (q l (c.free hl))⟩
 rw [List.length_mergeSort]
 exact hz
end
end DL
namespace DL
open PySem PySem.Spec PyProof.Rows L2

def keyD:Key→D
 | .inl i=> .int i
 | .inr x=> .str x
def kD (k:List Key):D:= .tup (k.map keyD)
theorem yJ {K:PySem.W.Frag} {F:Fz} {H:Hp}:∀{k:List Key} {vs:List V},aZ K F H vs (k.map keyD)→vs=k.map kV
 | [],_,.nil=>rfl
 | .inl i::k,_,.cons r t=>by
  rw [Rep.intE (show Rep K F H _ (.int i) from r),yJ t]
  rfl
 | .inr x::k,_,.cons r t=>by
  rw [Rep.strE (show Rep K F H _ (.str x) from r),yJ t]
  rfl
theorem aAj {K:PySem.W.Frag} {F:Fz} {H:Hp} {v:V} {k:List Key} (r:Rep K F H v (kD k)):∃b,v= .ref b∧H b=some (.tup (k.map kV)):=by
 obtain ⟨b,vs,rfl,hb,ra⟩:=Rep.tupE (show Rep K F H v (.tup (k.map keyD)) from r)
 rw [yJ ra] at hb
 exact ⟨b,rfl,hb⟩
def valD (kds:List (List Key×D)) (k:List Key):Option D:=(kds.find? fun kv=>decide (kv.1=k)).map (·.2)
def putD (kds:List (List Key×D)) (k:List Key) (v:D):List (List Key×D):=
 if kds.any (fun kv=>decide (kv.1=k)) then kds.map fun kv=>if kv.1=k then (kv.1,v) else kv else kds++ [(k,v)]
abbrev KDs (K:PySem.W.Frag) (F:Fz) (H:Hp):List (List Key×V)→List (List Key×D)→Prop:=Paired fun p q=>p.1=q.1∧Rep K F H p.2 q.2
theorem KDs.val {K:PySem.W.Frag} {F:Fz} {H:Hp} {kvs:List (List Key×V)} {kds:List (List Key×D)} (r:KDs K F H kvs kds) (k:List Key):
  (valV kvs k=none∧valD kds k=none)∨∃v d,valV kvs k=some v∧valD kds k=some d∧Rep K F H v d:=by
 induction r with
 | nil=>exact .inl ⟨rfl,rfl⟩
 | @cons p q ps qs h t ih=>
  obtain ⟨h1,h2⟩:=h
  by_cases e:p.1=k
  ·refine .inr ⟨p.2,q.2,valV_pos e,?_,h2⟩
   unfold valD
   rw [List.find?_cons_of_pos (by simpa using h1.symm.trans e)]
   rfl
  ·have e2:valD (q::qs) k=valD qs k:=by
    unfold valD
    rw [List.find?_cons_of_neg (by simpa using fun z=>e (h1.trans z))]
   rw [valV_neg e,e2]
   exact ih
theorem KDs.any {K:PySem.W.Frag} {F:Fz} {H:Hp} {kvs:List (List Key×V)} {kds:List (List Key×D)} (r:KDs K F H kvs kds) (k:List Key):(kvs.any fun kv=>decide (kv.1=k))=kds.any fun kv=>decide (kv.1=k):=by
 induction r with
 | nil=>rfl
 | @cons p q ps qs h t ih=>rw [List.any_cons,List.any_cons,ih,h.1]
theorem KDs.repl {K:PySem.W.Frag} {F:Fz} {H:Hp} {kvs:List (List Key×V)} {kds:List (List Key×D)} (r:KDs K F H kvs kds) (k:List Key) {v:V} {d:D} (rv:Rep K F H v d):KDs K F H (kvs.map fun kv=>if kv.1=k then (kv.1,v) else kv) (kds.map fun kv=>if kv.1=k then (kv.1,d) else kv):=by
 induction r with
 | nil=>exact .nil
 | @cons p q ps qs h t ih=>
  rw [List.map_cons,List.map_cons]
  refine .cons ?_ ih
  by_cases e:p.1=k
  ·rw [if_pos e,if_pos (h.1.symm.trans e)]
   exact ⟨h.1,rv⟩
  ·rw [if_neg e,if_neg (fun z=>e (h.1.trans z))]
   exact h
theorem KDs.put {K:PySem.W.Frag} {F:Fz} {H:Hp} {kvs:List (List Key×V)} {kds:List (List Key×D)} (r:KDs K F H kvs kds) (k:List Key) {v:V} {d:D} (rv:Rep K F H v d):KDs K F H (putK kvs k v) (putD kds k d):=by
 unfold putK putD
 rw [r.any k]
 split
 ·exact r.repl k rv
 ·exact Paired.snoc r ⟨rfl,rv⟩
theorem KDs.mono {K:PySem.W.Frag} {F F':Fz} {H H':Hp} {kvs:List (List Key×V)} {kds:List (List Key×D)} (s:Mv F H F' H') (r:KDs K F H kvs kds):KDs K F' H' kvs kds:=Paired.mono r fun _ _ z=>⟨z.1,z.2.mono s⟩

section
variable {X:Cx}
abbrev aAY:R2:=fun y x H Q=> ∃a o,x= .ref a∧DGet H a y o∧Q (.bl o.isSome) H
theorem op_inDT (hu:X.A.units+1 < cLine):OpR X (compareOp .In) aAY:=fun pins s σ H x y v u Q I rx ry ⟨a,o,ey,g,q⟩=>by
 subst ey
 obtain rfl:u=Value.ref a:=ry
 exact d_in hu I g rx fun s' I'=>⟨.bl _,H,I',rfl,q⟩
abbrev rC:R2:=fun y x H Q=> ∃a o,x= .ref a∧DGet H a y o∧Q (.bl (!o.isSome)) H
theorem op_notInDT (hu:X.A.units+1 < cLine):OpR X (compareOp .NotIn) rC:=fun pins s σ H x y v u Q I rx ry ⟨a,o,ey,g,q⟩=>by
 subst ey
 obtain rfl:u=Value.ref a:=ry
 exact d_notIn hu I g rx fun s' I'=>⟨.bl _,H,I',rfl,q⟩
abbrev zH:R2:=fun x y H Q=> ∃a v,x= .ref a∧DGet H a y (some v)∧Q v H
abbrev aAA:TSet:=fun o i v H Q=> ∃a H',o= .ref a∧DPut H a i v H'∧Q H'
theorem zF (hu:X.A.units+1 < cLine):PSet X aAA:=fun pins s σ H o i v ov iv u Q I ro ri rv ⟨a,H',eo,g,q⟩=>by
 subst eo
 obtain rfl:ov=Value.ref a:=ro
 exact d_setItem hu I g ri rv fun s' I'=>⟨H',I',q⟩
abbrev yU (H:Hp):List Addr→List (List Key)→Prop:=Paired fun b k=>H b=some (.tup (k.map kV))
theorem keyRefs_of {H:Hp} {kvs:List (List Key×V)} {xs:List (List Key×Addr×Value)} (r:KT H kvs xs):yU H (xs.map (·.2.1)) (kvs.map (·.1)):=by
 induction r with
 | nil=>exact .nil
 | cons h t ih=>exact .cons h.2.1 ih
theorem vals_refs:∀as:List Addr,Vals (as.map V.ref) (as.map Value.ref)
 | []=> .nil
 | _::as=> .cons rfl (vals_refs as)
theorem items_refs {es:Array DictEntry} {acc:Array Value} {xs:List (List Key×Addr×Value)} (hs:es.size=xs.length) (hx:∀i (hi:i < es.size),∃y,xs[i]? =some y∧es[i].key= .ref y.2.1) (hacc:ItemsOf (fun i v=> ∃hi:i < es.size,v=es[i].key) acc es.size):
  acc.toList=(xs.map (·.2.1)).map Value.ref:=by
 apply List.ext_getElem?
 intro i
 by_cases hi:i < es.size
 ·obtain ⟨y,h1,h2⟩:=hx i hi
  have hia:i < acc.size:=by rw [hacc.1];exact hi
  obtain ⟨_,hv⟩:=hacc.2 i acc[i] (Array.getElem?_eq_getElem hia)
  rw [Array.getElem?_toList,Array.getElem?_eq_getElem hia,List.getElem?_map,List.getElem?_map,h1,hv,h2]
  rfl
 ·rw [List.getElem?_eq_none (by rw [Array.length_toList,hacc.1];omega),List.getElem?_eq_none (by simp;omega)]
abbrev rLstDT:List V→Hp→VK→Prop:=fun vs H Q=> ∃a kvs,vs= [.ref a]∧Rd H a (.dT kvs)∧∀bs,yU H bs (kvs.map (·.1))→∀l,H l=none→Q (.ref l) (upd H l (.lst (bs.map V.ref)))
theorem lM (hc:X.calm=true):CallR X (.type "list") rLstDT:=fun pins s σ H vs us Q I r ⟨a,kvs,ev,ha,q⟩=>by
 subst ev
 obtain ⟨u,rfl,ru⟩:=vals1 r
 obtain rfl:u=Value.ref a:=ru
 obtain ⟨z,lo,xs,kt,dd⟩:=dt_rd I.hok ha
 obtain ⟨es,ep,raw,hs,hx⟩:=dd.raw
 have hlen:es.size≤sizeLine:=by rw [hs,←Paired.length kt];exact z
 refine PySem.W.kdl_call (KdlSrc.rawDict (ep:=ep) (es:=es) lo) (I.ok.hd hc) raw hlen fun h' tk acc c hk hS hacc=> ?_
 have e:=items_refs hs (fun i hi=>let ⟨y,h1,h2,_⟩:=hx i hi;⟨y,h1,h2⟩) hacc
 refine ⟨.ref s.heap.objs.size,_,I.laid (a:=s.heap.objs.size) (o:= .lst ((xs.map (·.2.1)).map V.ref)) hk (Nat.le_refl _) ⟨?_,(xs.map (·.2.1)).map Value.ref,c,vals_refs _,?_⟩,rfl,q _ (keyRefs_of kt) _ (I.hok.fresh (Nat.le_refl _))⟩
 ·rw [List.length_map,List.length_map,←Paired.length kt]
  exact z
 ·rw [hS,←e]
theorem aAK {K:PySem.W.Frag} {F:Fz} {H:Hp} {b:Addr} {k:List Key} (h:H b=some (.tup (k.map kV))) (hk:KOk k):Rep K F H (.ref b) (kD k):=by
 refine Rep.tupI h (aZ.of_get (by simp) fun i v d h1 h2=> ?_) (by rw [List.length_map];exact hk.len)
 rw [List.getElem?_map] at h1 h2
 cases e:k[i]? with
 | none=>
  rw [e] at h1
  cases h1
 | some x=>
  rw [e] at h1 h2
  cases h1
  cases h2
  cases x with
  | inl n=>exact .int n
  | inr z=>exact .str z (hk.txt z (List.mem_of_getElem? e))
theorem sO {K:PySem.W.Frag} {F:Fz} {H:Hp}:∀{bs:List Addr} {ks:List (List Key)},yU H bs ks→(∀k∈ks,KOk k)→aZ K F H (bs.map V.ref) (ks.map kD)
 | _,_,.nil,_=> .nil
 | _,_,.cons h t,hk=> .cons (aAK h (hk _ List.mem_cons_self)) (sO t fun k hm=>hk k (List.mem_cons_of_mem _ hm))
abbrev rSortDT (K:PySem.W.Frag):List V→Hp→VK→Prop:=fun vs H Q=> ∃(a:Addr) (kvs:List (List Key×V)) (ds:List D) (F:Fz),vs= [.ref a]∧Rd H a (.dT kvs)∧ds=kvs.map (fun p=>kD p.1)∧(∀p∈kvs,KOk p.1)∧gA ds=true∧PySem.W.AllAlike (ds.map py)∧PySem.W.Sortable (ds.map py)∧(∀d∈ds,(py d).depth≤64)∧
 ∀p ys,H p=none→aZ K F H ys (ds.mergeSort leD)→Q (.ref p) (upd H p (.lst ys))
theorem cr_sortDT (hc:X.calm=true) (hu:X.A.units+100 < cLine):CallR X (.builtin "sorted") (rSortDT X.K):=fun pins s σ H vs us Q I r ⟨a,kvs,ds,F,ev,ha,eds,hKs,hok,hal,hso,hde,q⟩=>by
 subst ev
 obtain ⟨u,rfl,ru⟩:=vals1 r
 obtain rfl:u=Value.ref a:=ru
 obtain ⟨z,lo,xs,kt,dd⟩:=dt_rd I.hok ha
 obtain ⟨es,ep,raw,hs,hx⟩:=dd.raw
 have hlen:es.size≤sizeLine:=by rw [hs,←Paired.length kt];exact z
 have kr:=keyRefs_of kt
 have rd:aZ X.K F H ((xs.map (·.2.1)).map V.ref) ds:=by
  have e:ds=(kvs.map (·.1)).map kD:=by rw [eds,List.map_map];rfl
  rw [e]
  refine sO kr fun k hk=> ?_
  obtain ⟨p,hp,rfl⟩:=List.mem_map.mp hk
  exact hKs p hp
 refine PySem.Calls.call_function_entry PyProof.Rows.kind_sorted PyProof.Rows.plain_sorted PyProof.Rows.entry_sorted (PyProof.Rows.args_sorted1 _) ?_
 unfold Builtin.«sorted»
 refine wpAny_bind (m:=checkCount "sorted" 1 1 _) (wpAny_pure ?_)
 refine wpAny_bind (PySem.W.kdu_collect (A:=X.A.in1) (KdlSrc.rawDict (ep:=ep) (es:=es) lo) (I.ok.hd hc) raw hlen fun h' tk acc hk hacc=> ?_)
 have e:=items_refs hs (fun i hi=>let ⟨y,h1,h2,_⟩:=hx i hi;⟨y,h1,h2⟩) hacc
 have I1:Inv X pins σ H {s with heap:=h',toks:=tk}:=I.kept hk
 have key:∀{vs:List V} {its:List Value} {ds:List D},gA ds=true→Vals vs its→aZ X.K F H vs ds→Paired (fun (v:Value) (d:D)=>(∃x,RelV x v∧Rep X.K F H x d)∧∃as,Reads h' v (py d) as) its ds:=by
  intro vs its ds hok rv rd
  induction rd generalizing its with
  | nil=>cases rv;exact .nil
  | cons r1 r2 ih=>
   rw [gA,Bool.and_eq_true] at hok
   cases rv with
   | cons q1 q2=>exact .cons ⟨⟨_,q1,r1⟩,Dp.reads I1 _ _ _ (Rep.dp _ _ hok.1 r1).1 q1⟩ (ih hok.2 q2)
 have hp:=key hok (vals_refs (xs.map (·.2.1))) rd
 rw [←e] at hp
 have hl3:acc.toList.length≤sizeLine:=by rw [Array.length_toList,hacc.1];exact hlen
 refine wpAny_bind (wpAny_newList ?_ hl3)
 have hoL:(h'.push (seqObj "list" acc.toList.toArray 0)).get? h'.objs.size=some (seqObj "list" acc.toList.toArray 0):=Heap.get?_push_size _ rfl
 have er:PySem.W.EachIs (fun v d=> ∃as,Reads (h'.push (seqObj "list" acc.toList.toArray 0)) v (py d) as∧h'.objs.size∉as) acc.toList ds:=by
  refine bT (Paired.mono hp fun v d zz=> ?_)
  obtain ⟨as,ra⟩:=zz.2
  refine ⟨as,PyProof.Rows.Reads.keeps (fun _ _=>Heap.get?_push_of_some _) ra,fun hm=> ?_⟩
  obtain ⟨o,ho⟩:=PyProof.On.reads_mem_get ra _ hm
  exact absurd (Heap.lt_size ho) (Nat.lt_irrefl _)
 show wpAny _ _ _ _ _ {s with heap:=h'.push (seqObj "list" acc.toList.toArray 0),toks:=tk}
 refine wpAny_bind (wpAny_holding (PySem.W.list_sort_data (s:={s with heap:=h'.push (seqObj "list" acc.toList.toArray 0),toks:=tk}) (R:=fun v d=> ∃x,RelV x v∧Rep X.K F H x d) (enc:=py) (bs:=ds) (n:=0) hoL (bT (Paired.mono hp fun _ _ z=>z.1)) er hal hso (by
  rw [←rd.length,List.length_map,List.length_map,←Paired.length kt];exact z) (fun b hb=>by have:=hde b hb;show X.A.units+1+1+_ < _;omega) fun out hlo hout=> ?_))
 have back:∀{out:List Value} {ds:List D},Paired (fun (v:Value) (d:D)=> ∃x,RelV x v∧Rep X.K F H x d) out ds→∃ys,Vals ys out∧aZ X.K F H ys ds:=by
  intro out ds h
  induction h with
  | nil=>exact ⟨[],.nil,.nil⟩
  | cons h1 h2 ih=>
   obtain ⟨x,e1,e2⟩:=h1
   obtain ⟨ys,e3,e4⟩:=ih
   exact ⟨x::ys,.cons e1 e3,.cons e2 e4⟩
 obtain ⟨ys,v1,v2⟩:=back (fU hout)
 obtain ⟨e',he'⟩:=PyProof.Rows.sortedHeap_at (vs:=acc.toList) (out:=List.toArray out) hoL
 have hl4:ys.length≤sizeLine:=by
  rw [v1.length,hlo,←rd.length,List.length_map,List.length_map,←Paired.length kt]
  exact z
 refine wpAny_pure ⟨_,rfl,.ref h'.objs.size,upd H h'.objs.size (.lst ys),I1.laid (t':=tk) (fun b u eb=> ?_) (Nat.le_refl _) ⟨hl4,out,e',v1,by simpa using he'⟩,rfl,q _ ys (I1.hok.fresh (Nat.le_refl _)) v2⟩
 have hb:b < h'.objs.size:=Heap.lt_size eb
 rw [PyProof.Rows.sortedHeap_old (Nat.ne_of_lt hb) (by rw [size_push'];exact Nat.lt_succ_of_lt hb)]
 exact Heap.get?_push_of_some _ eb
end
end DL
namespace DL
open PySem PySem.Spec PyProof.Rows L2
def oX (kvs more:List (List Key×V)):List (List Key×V):=more.foldl (fun acc kv=>putK acc kv.1 kv.2) kvs
def qP (kds more:List (List Key×D)):List (List Key×D):=more.foldl (fun acc kv=>putD acc kv.1 kv.2) kds
theorem mergeT_len:∀(more kvs:List (List Key×V)),(oX kvs more).length≤kvs.length+more.length
 | [],kvs=>Nat.le_refl _
 | p::more,kvs=>by
  have h1:=mergeT_len more (putK kvs p.1 p.2)
  have h2:=length_putK kvs p.1 p.2
  show (oX (putK kvs p.1 p.2) more).length≤_
  rw [List.length_cons]
  omega
theorem KT.merge {H:Hp}:∀{q:List (List Key×Addr×V)} {ps:List (List Key×Addr×Value)} {kvs:List (List Key×V)} {xs:List (List Key×Addr×Value)},Paired (fun x p=>x.1=p.1∧x.2.1=p.2.1∧RelV x.2.2 p.2.2∧H x.2.1=some (.tup (x.1.map kV))) q ps→KT H kvs xs→
  KT H (oX kvs (q.map fun x=>(x.1,x.2.2))) (storedAllH xs ps)
 | _,_,_,_,.nil,r=>r
 | _,_,kvs,xs,.cons (a:=x) (b:=p) h t,r=>by
  obtain ⟨h1,h2,h3,h4⟩:=h
  have h5:H p.2.1=some (.tup (x.1.map kV)):=by rw [←h2];exact h4
  have r2:=r.put x.1 h5 h3
  rw [h1] at r2
  have:=KT.merge t r2
  rw [←h1] at this
  rw [h1] at this
  show KT H (oX (putK kvs x.1 x.2.2) _) (storedAllH (storedH xs p.1 p.2.1 p.2.2) _)
  rw [h1]
  exact this
theorem KDs.merge {K:PySem.W.Frag} {F:Fz} {H:Hp}:∀{more:List (List Key×V)} {mds:List (List Key×D)} {kvs:List (List Key×V)} {kds:List (List Key×D)},KDs K F H more mds→KDs K F H kvs kds→KDs K F H (oX kvs more) (qP kds mds)
 | _,_,_,_,.nil,r=>r
 | _,_,kvs,kds,.cons (a:=p) (b:=q) h t,r=>by
  show KDs K F H (oX (putK kvs p.1 p.2) _) (qP (putD kds q.1 q.2) _)
  rw [←h.1]
  exact KDs.merge t (r.put p.1 h.2)

section
variable {X:Cx}
abbrev wU (H:Hp):List Addr→List (List Key×Addr×V)→Prop:=Paired fun t x=>H t=some (.tup [.ref x.2.1,x.2.2])∧H x.2.1=some (.tup (x.1.map kV))
abbrev rDictPT (K:PySem.W.Frag):List V→Hp→VK→Prop:=fun vs H Q=> ∃(a:Addr) (ts:List Addr) (q:List (List Key×Addr×V)),vs= [.ref a]∧SqL K H a (ts.map V.ref)∧wU H ts q∧∀d,H d=none→Q (.ref d) (upd H d (.dT (oX [] (q.map fun x=>(x.1,x.2.2)))))
theorem pairs_valT {pins:List (Addr×Obj)} {σ:L2.St} {H:Hp} {s:Shared} (I:Inv X pins σ H s):∀{ts:List Addr} {q:List (List Key×Addr×V)},wU H ts q→
  ∃ps:List (List Key×Addr×Value),Paired (fun x p=>x.1=p.1∧x.2.1=p.2.1∧RelV x.2.2 p.2.2∧H x.2.1=some (.tup (x.1.map kV))) q ps∧Paired (fun t (p:List Key×Addr×Value)=>IsTup s.heap t #[.ref p.2.1,p.2.2]) ts ps
 | _,_,.nil=>⟨[],.nil,.nil⟩
 | _,_,.cons (b:=x) h t=>by
  obtain ⟨ps,h1,h2⟩:=pairs_valT I t
  obtain ⟨its,rv,tp,_⟩:=I.tuple (SqT.of h.1)
  obtain ⟨u1,u2,e,r1,r2⟩:=vals2 rv
  subst e
  obtain rfl:u1=Value.ref x.2.1:=r1
  exact ⟨(x.1,x.2.1,u2)::ps,.cons ⟨rfl,rfl,r2,h.2⟩ h1,.cons tp h2⟩
theorem call_dictPT (hc:X.calm=true) (hu:X.A.units+100 < cLine):CallR X (.type "dict") (rDictPT X.K):=fun pins s σ H vs us Q I r ⟨a,ts,q,ev,hq,hp,k⟩=>by
 subst ev
 obtain ⟨u,rfl,ru⟩:=vals1 r
 obtain rfl:u=Value.ref a:=ru
 obtain ⟨its,rv,pl,hz⟩:=I.list hq
 have ei:=refs_at rv
 subst ei
 rw [List.length_map] at hz
 obtain ⟨ps,h1,h2⟩:=pairs_valT I hp
 have l1:ts.length=ps.length:=Paired.length h2
 have l2:q.length=ps.length:=Paired.length h1
 obtain ⟨o,n,ho,hcl,hdi,hdat⟩:=pl
 have at2:∀(j:Nat) (p:List Key×Addr×Value),ps[j]? =some p→∃t,ts[j]? =some t∧IsTup s.heap t #[.ref p.2.1,p.2.2]:=by
  intro j p hj
  have:∀{ts:List Addr} {ps:List (List Key×Addr×Value)},Paired (fun t (p:List Key×Addr×Value)=>IsTup s.heap t #[.ref p.2.1,p.2.2]) ts ps→∀(j:Nat) (p:List Key×Addr×Value),ps[j]? =some p→∃t,ts[j]? =some t∧IsTup s.heap t #[.ref p.2.1,p.2.2]:=by
   intro ts ps h
   induction h with
   | nil=>intro j p hj;simp at hj
   | cons h t ih=>
    intro j p hj
    cases j with
    | zero=>
     have e:=Option.some.inj (show some _=some p from hj)
     subst e
     exact ⟨_,rfl,h⟩
    | succ j=>exact ih j p (by simpa using hj)
  exact this h2 j p hj
 refine call_dict_pairsH (knd:=tupleKind (mixKind X.prog X.w)) (ps:=ps) (PairArg.list a ((ts.map Value.ref).toArray) (fun j=>ts.getD j 0) (ps.map fun p=>(Value.ref p.2.1,p.2.2))) (I.ok.hd hc) ?_ ⟨⟨o,n,ho,hcl,hdi,hdat⟩,?_,?_⟩ ⟨?_,?_⟩ ?_ ?_ fun h' tk dd hk=> ?_
 ·exact tupleKind_room_in1 (show X.A.in1.units+1 < cLine by show X.A.units+1+1 < cLine;omega)
 ·simp [l1]
 ·intro j kk v hj
  rw [List.getElem?_map] at hj
  cases e:ps[j]? with
  | none=>
   rw [e] at hj
   cases hj
  | some p=>
   rw [e] at hj
   cases hj
   obtain ⟨t,e1,e2⟩:=at2 j p e
   have e3:ts.getD j 0=t:=by rw [List.getD_eq_getElem?_getD,e1];rfl
   show _=some (Value.ref (ts.getD j 0))∧PairAt s.heap (ts.getD j 0) _ _
   rw [e3]
   refine ⟨by simp [e1],.inl e2⟩
 ·simp
 ·intro i key v hr
  have hr:(ps.map fun p=>(Value.ref p.2.1,p.2.2))[i]? =some (key,v):=hr
  rw [List.getElem?_map] at hr
  cases e:ps[i]? with
  | none=>
   rw [e] at hr
   cases hr
  | some p=>
   rw [e] at hr
   cases hr
   exact ⟨p.1,p.2.1,rfl,rfl⟩
 ·intro h' hk x hx
  have hm:∀{q:List (List Key×Addr×V)} {ps:List (List Key×Addr×Value)},Paired (fun x p=>x.1=p.1∧x.2.1=p.2.1∧RelV x.2.2 p.2.2∧H x.2.1=some (.tup (x.1.map kV))) q ps→∀p∈ps,H p.2.1=some (.tup (p.1.map kV)):=by
   intro q ps h
   induction h with
   | nil=>intro p hp;cases hp
   | cons h t ih=>
    intro p hp
    rcases List.mem_cons.mp hp with e | hp
    ·subst e
     rw [←h.1,←h.2.1]
     exact h.2.2.2
    ·exact ih p hp
  have k0:(tupleKind (mixKind X.prog X.w)).is s.heap x.1 x.2.1:=key_of I.hok (hm h1 x hx)
  obtain ⟨o',its',n',g1,g2⟩:=k0
  exact ⟨o',its',n',hk _ _ (Nat.ne_of_lt (Heap.lt_size g1)) (by simp) g1,g2⟩
 ·rw [List.length_map,←l1]
  exact hz
 ·have hm:(s.heap.objs.size==sysModules)=false:=beq_eq_false_iff_ne.mpr (Nat.ne_of_gt I.big)
  obtain ⟨o',es,ep,g1,g2,g3,g4,_,g5⟩:=dd
  have hn:=I.hok.fresh (Nat.le_refl s.heap.objs.size)
  have hlen:(oX [] (q.map fun x=>(x.1,x.2.2))).length≤sizeLine:=by
   refine Nat.le_trans (mergeT_len _ _) ?_
   rw [List.length_nil,List.length_map,Nat.zero_add,l2,←l1]
   exact hz
  refine ⟨.ref s.heap.objs.size,_,I.laid (t':=tk) (o:= .dT (oX [] (q.map fun x=>(x.1,x.2.2)))) (fun b u eb=>hk b u (by simp) eb) (Nat.le_refl _) ⟨hlen,hm,storedAllH [] ps,?_,o',es,ep,g1,g2,g3,g4,g5⟩,rfl,k _ hn⟩
  exact KT.keeps (KT.merge h1 .nil) fun c ys ec=>by
   rw [upd_ne (ne_of_none ec hn)]
   exact ec
end
end DL
namespace DL
open PySem PySem.Spec PyProof.Rows L2

section
variable {P:Program} {w:World} {h h':Heap} {a:Addr} {S:Str→Bool} {n:Nat}
theorem nO.at (R:nO w h a S n) (k:∀o,h.get? a=some o→h'.get? a=some o):nO w h' a S n:=by
 obtain ⟨ob,es,ep,tb,hob,rest⟩:=R
 exact ⟨ob,es,ep,tb,k ob hob,rest⟩
theorem nO.congr {S':Str→Bool} (R:nO w h a S n) (e:∀k,S' k=S k):nO w h a S' n:=by
 obtain rfl:S'=S:=funext e
 exact R
theorem txE_elems {l:List (Int×Value)} (g:∀e∈l,TxE w e):ElemsOf (strKind P w) l:=fun e he=>by
 obtain ⟨k,tk,e1,e2⟩:=g e he
 exact ⟨⟨k,by rw [e1];exact Froz.is_str k tk,e2⟩,by rw [e1] <;> rfl⟩
theorem txE_is {e:Int×Value} (g:TxE w e) (k:Str):(strKind P w).is k e.2=true↔txOf e=k:=by
 obtain ⟨k0,tk,e1,_⟩:=g
 unfold txOf
 rw [e1]
 show ((k0==k)=true)↔k0=k
 exact beq_iff_eq
theorem xP {l:List (Int×Value)} (g:∀e∈l,TxE w e) (k:Str):k∈l.map txOf↔∃e∈l,(strKind P w).is k e.2=true:=by
 rw [List.mem_map]
 exact ⟨fun ⟨e,he,q⟩=>⟨e,he,(txE_is (g e he) k).2 q⟩,fun ⟨e,he,q⟩=>⟨e,he,(txE_is (g e he) k).1 q⟩⟩
theorem nO.setOf (R:nO w h a S n):h.SetOf (strKind P w) a S n:=by
 obtain ⟨ob,es,ep,tb,hob,hx,hd,g,nd,hm,hb,hf,hn,_⟩:=R
 exact ⟨ob,es,ep,tb,hob,hx,hd,txE_elems g,fun k=>(hm k).trans (xP g k),hb,hf,hn⟩
end
section
variable {P:Program} {w:World} {A:Around} {E:Value→Shared→Prop} {s:Shared} {a:Addr} {S:Str→Bool} {n:Nat}
theorem setX_tail {g:Bool→Sem Unit} (hg:∀(b:Bool) (s₁:Shared) (Z:Unit→Shared→Prop),Z () s₁→wpAny (model P w) A (g b) Z E s₁)
  {ob:Obj} {es:Array (Int×Value)} {ep:Nat} {tb:SetTable} (hob:s.heap.get? a=some ob) (hex:ob.ExactSet) (hd:ob.data= .set es ep tb)
  {fs:Array (Int×Value)} {t2:SetTable} {S':Str→Bool} (g1:∀e∈fs.toList,TxE w e) (nd1:(fs.toList.map txOf).Nodup) (m1:∀k,S' k=true↔k∈fs.toList.map txOf)
  (hb1:fs.size < scanBound) (hf2:t2.fits fs.size=true) (hr:Ris t2.place.toList) (hl:w.params.followText "set-order"=true∨t2.led=true) {wasDummy:Bool} {R:Option Bool→Shared→Prop}
  (hR:∀h',Heap.SameBut a s.heap h'→nO w h' a S' fs.size→R (some true) {s with heap:=h'}):
  wpAny (model P w) A (do
    storeSet a fs t2
    if (!wasDummy && t2.tooFull)=true then do
      g (relayAll t2 fs (SetTable.grown fs.size)).2.2
      storeSet a (relayAll t2 fs (SetTable.grown fs.size)).1 (relayAll t2 fs (SetTable.grown fs.size)).2.1
      pure (some true)
     else pure (some true)) R E s:=by
 refine wpAny_bind (wpAny_storeSet_of hob hd ?_ (fits_of_scanBound hb1))
 have ob1:=L2.store_at (es':=fs) (t':=t2) hob hd
 have sm1:=Heap.SameBut.update s.heap a (Obj.putSet fs t2)
 split
 ·have pm:=relayAll_perm t2 fs (SetTable.grown fs.size)
  have f3:=relayAll_fits t2 fs (SetTable.grown fs.size)
  have r3:=relayAll_ris t2 fs (SetTable.grown fs.size)
  have l3:=relayAll_led t2 fs (SetTable.grown fs.size)
  generalize relayAll t2 fs (SetTable.grown fs.size)=Z at pm f3 r3 l3 ⊢
  obtain ⟨es2,t3,gave⟩:=Z
  dsimp only at pm f3 r3 l3 ⊢
  have hsz:es2.size=fs.size:=by rw [←Array.length_toList,pm.length_eq,Array.length_toList]
  have hb2:es2.size < scanBound:=hsz ▸hb1
  refine wpAny_bind (hg _ _ _ ?_)
  refine wpAny_bind (wpAny_storeSet_of ob1 rfl ?_ (fits_of_scanBound hb2))
  have ob2:=L2.store_at (es':=es2) (t':=t3) ob1 rfl
  refine wpAny_pure (hR _ (sm1.trans (Heap.SameBut.update _ a _)) ?_)
  exact ⟨_,es2,_,t3,ob2,hex,rfl,fun e he=>g1 e (pm.mem_iff.mp he),(pm.map txOf).nodup_iff.mpr nd1,fun k=>(m1 k).trans (pm.map txOf).mem_iff.symm,hb2,f3,hsz,r3,
   hl.imp id fun z=>by rw [l3];exact z⟩
 ·exact wpAny_pure (hR _ sm1 ⟨_,fs,_,t2,ob1,hex,rfl,g1,nd1,m1,hb1,hf2,rfl,hr,hl⟩)
theorem setX_addH {k:Str} {tk:Tok} {Q:Bool→Shared→Prop} (R:nO w s.heap a S n) (room:n+1 < scanBound)
  (hQ:∀h',Heap.SameBut a s.heap h'→nO w h' a (fun j=>S j || decide (j=k)) (if S k=true then n else n+1)→Q (!S k) {s with heap:=h'}):
  wpAny (model P w) A (setAddHashed a (.str k tk) ((strKind P w).hash k)) Q E s:=by
 obtain ⟨ob,es,ep,tb,hob,hex,hd,g,nd,hm,hb,hf,hn,hr,hl⟩:=R
 have hkey:(strKind P w).is k (.str k tk)=true:=Froz.is_str k tk
 have hsc:(Value.str k tk).scannable=true:=rfl
 have hel:ElemsOf (strKind P w) es.toList:=txE_elems g
 unfold setAddHashed setAddHashedIn
 refine wpAny_holding (wpAny_bind (wpAny_setState_of hob hd hf ?_))
 dsimp only
 rw [byScan_of hsc hb hel]
 simp only [↓reduceIte]
 unfold setAddByScan
 refine wpAny_bind ?_
 refine wpAny_bind (wpAny_rule ?_)
 refine wpAny_bind (wpAny_setScan_of hkey hob hd hf hel ?_)
 cases hfi:List.findIdx? (fun e=>(strKind P w).is k e.2) es.toList with
 | some j=>
  dsimp only
  obtain ⟨hj,pj,_⟩:=List.findIdx?_eq_some_iff_getElem.mp hfi
  have inS:S k=true:=(hm k).2 ((xP (P:=P) g k).2 ⟨es.toList[j],List.getElem_mem hj,pj⟩)
  refine wpAny_pure (wpAny_pure ?_)
  have q:=hQ s.heap (Heap.SameBut.refl a s.heap) ⟨ob,es,ep,tb,hob,hex,hd,g,nd,fun i=>by
   rw [Bool.or_eq_true,decide_eq_true_eq,←hm i]
   exact ⟨fun z=>z.elim id (fun e=>e ▸inS),.inl⟩,hb,hf,by rw [if_pos inS];exact hn,hr,hl⟩
  rw [inS] at q
  exact q
 | none=>
  dsimp only
  have hnk:k∉es.toList.map txOf:=fun z=>by
   obtain ⟨e,he,q⟩:=(xP (P:=P) g k).1 z
   have c:=List.findIdx?_eq_none_iff.mp hfi e he
   rw [q] at c
   cases c
  have notS:S k=false:=by
   cases q:S k with
   | false=>rfl
   | true=>exact absurd ((hm k).1 q) hnk
  have hgw:∀(b:Bool) {s₁:Shared} {Z:Unit→Shared→Prop},Z () s₁→wpAny (model P w) A (match b with | true=>rule "set.scan.the-table-gave-way" | false=>pure ()) Z E s₁:=
   fun b s₁ Z q=>by cases b <;> first | exact wpAny_pure q | exact wpAny_rule q
  have pm:=layNew_perm tb es ((strKind P w).hash k) (.str k tk)
  have f1:=layNew_fits tb es ((strKind P w).hash k) (.str k tk)
  have r1:=layNew_ris tb es ((strKind P w).hash k) (.str k tk) hr
  have l1:=layNew_led tb es ((strKind P w).hash k) (.str k tk)
  generalize layNew tb es ((strKind P w).hash k) (.str k tk)=Z at pm f1 r1 l1 ⊢
  obtain ⟨fs,t1,wasDummy,gave⟩:=Z
  dsimp only at pm f1 r1 l1 ⊢
  rw [Array.toList_push] at pm
  have pc:fs.toList.Perm (((strKind P w).hash k,Value.str k tk)::es.toList):=pm.trans (List.perm_append_singleton _ _)
  have pk:(fs.toList.map txOf).Perm (k::es.toList.map txOf):=pc.map txOf
  have g1:∀e∈fs.toList,TxE w e:=fun e he=>by
   rcases List.mem_cons.mp (pc.mem_iff.mp he) with z | z
   ·rw [z];exact ⟨k,tk,rfl,rfl⟩
   ·exact g e z
  have nd1:(fs.toList.map txOf).Nodup:=pk.nodup_iff.mpr (List.nodup_cons.mpr ⟨hnk,nd⟩)
  have m1:∀i,(S i || decide (i=k))=true↔i∈fs.toList.map txOf:=fun i=>by
   rw [Bool.or_eq_true,decide_eq_true_eq,hm i,pk.mem_iff,List.mem_cons]
   exact Or.comm
  have hsz:fs.size=n+1:=by rw [←Array.length_toList,pc.length_eq,List.length_cons,Array.length_toList,hn]
  have hb1:fs.size < scanBound:=hsz ▸room
  have hled:w.params.followText "set-order"=true∨t1.led=true:=hl.imp id fun z=>by rw [l1];exact z
  have fin:∀h',Heap.SameBut a s.heap h'→nO w h' a (fun j=>S j || decide (j=k)) fs.size→Q true {s with heap:=h'}:=fun h' sb r=>by
   have q:=hQ h' sb
   rw [notS] at q
   rw [hsz] at r
   exact q r
  refine wpAny_bind (hgw _ ?_)
  split
  ·refine wpAny_bind ?_
   rw [hashByValue_scannable 8 hsc]
   refine wpAny_pure ?_
   refine setX_tail ?_ hob hex hd g1 nd1 m1 hb1 ?_ ?_ ?_ ?_
   ·intro b s₁ Z q;cases b <;> first | exact wpAny_pure q | exact wpAny_rule q
   ·first | (split <;> first | exact f1 | exact SetTable.fits_plain_off f1) | exact f1
   ·first | (split <;> exact r1) | exact r1
   ·first | (split <;> exact hled) | exact hled
   ·intro h' sb r;dsimp only;exact wpAny_pure (fin h' sb r)
  ·refine wpAny_bind (wpAny_pure ?_)
   simp only [↓reduceIte]
   refine setX_tail ?_ hob hex hd g1 nd1 m1 hb1 f1 r1 hled ?_
   ·intro b s₁ Z q;cases b <;> first | exact wpAny_pure q | exact wpAny_rule q
   ·intro h' sb r;dsimp only;exact wpAny_pure (fin h' sb r)
theorem pZ {h:Heap} (ho:h.get? a=some {cls:= .type "set",dict:=none,data:= .set #[] 0 (.fresh 0 0 (!w.params.followText "set-order"))}):nO w h a (fun _=>false) 0:=
 ⟨_,#[],0,_,ho,⟨rfl,rfl,rfl⟩,rfl,(fun e he=>by simp at he),(by simp),(fun k=>by simp),(by decide),(by rfl),rfl,List.Pairwise.nil,by
  show _∨(!w.params.followText "set-order")=true
  cases w.params.followText "set-order"
  ·exact .inr rfl
  ·exact .inl rfl⟩
theorem setX_loop {I:Addr} {fp wr:List Addr} {G:Array GenState→Array GenState→Prop} {n:Nat} {Pv:Nat→Value→Prop} {St:Nat→Shared→Prop} {R:Result→Shared→Prop}
  (W:WalksS P w A.in1 I fp wr G n Pv St) (D:Addr) (hDf:D∉fp) (xs:List Str) (hn:n=xs.length) (hb:xs.length+1 < scanBound) (hval:∀i v,Pv i v→∃k t,xs[i]? =some k∧v= .str k t):
  ∀(k i:Nat) (s:Shared),n - i=k→i≤n→St i s→(∃c,c≤i∧nO w s.heap D (fun j=>decide (j∈xs.take i)) c)→
   (∀s' c,Moved (D::wr) G s s'→c≤n→nO w s'.heap D (fun j=>decide (j∈xs)) c→R (.ok (.ret .none)) s')→
   codeAny (model P w) A (.builtin "set.update.loop" ⟨[.ref D,.ref I],[]⟩) R s:=by
 have hDw:D∉wr:=fun z=>hDf (W.sub _ z)
 have hsub:∀b∈wr,b∈D::wr:=fun b z=>List.mem_cons_of_mem _ z
 intro k
 induction k with
 | zero=>
  intro i s hk' hi hst ⟨c,hc,hS⟩ hR
  obtain rfl:i=n:=by omega
  refine codeAny_builtin PyProof.Rows.F.entry_set_update_loop ?_
  rw [Around.under_plainId PyProof.Rows.F.plain_set_update_loop _]
  show wpAny _ A.in1 (pyNext (.ref I) >>=_) _ _ s
  refine wpAny_bind (W.done s _ _ hst fun s' hm=> ?_)
  show wpAny _ A.in1 (ret Value.none) _ _ s'
  rw [List.take_of_length_le (by omega:xs.length≤i)] at hS
  exact wpAny_pure (hR s' c (hm.mono hsub) hc (hS.at fun o e=>hm.heap D o hDw e))
 | succ k ih=>
  intro i s hk' hi hst ⟨c,hc,hS⟩ hR
  have hlt:i < n:=by omega
  refine codeAny_builtin PyProof.Rows.F.entry_set_update_loop ?_
  rw [Around.under_plainId PyProof.Rows.F.plain_set_update_loop _]
  show wpAny _ A.in1 (pyNext (.ref I) >>=_) _ _ s
  refine wpAny_bind (W.item i s _ _ hlt hst fun v s' hP hst' hm=> ?_)
  obtain ⟨z,t,hz,rfl⟩:=hval i v hP
  have hS':nO w s'.heap D (fun j=>decide (j∈xs.take i)) c:=hS.at fun o e=>hm.heap D o hDw e
  show wpAny _ A.in1 (holding [Value.str z t] (setAdd D (.str z t)) >>=_) _ _ s'
  refine wpAny_bind (wpAny_holding ?_)
  unfold setAdd
  refine wpAny_holding ?_
  refine wpAny_bind ((strKind P w).pyHash (k:=z) (Froz.is_str _ _) ?_)
  refine setX_addH (s:={s' with toks:=s'.toks+1}) hS' (by omega) fun h' hsb hS2=> ?_
  have hS3:nO w h' D (fun j=>decide (j∈xs.take (i+1))) (if decide (z∈xs.take i)=true then c else c+1):=hS2.congr fun j=>by
   rw [List.take_add_one,hz]
   simp [List.mem_append]
  have hc3:(if decide (z∈xs.take i)=true then c else c+1)≤i+1:=by
   split <;> omega
  refine wpAny_pure ⟨plainId_quiet PyProof.Rows.F.plain_set_update_loop _,ih (i+1) _ (by omega) hlt (W.frame _ s' _ _ hst' (Nat.le_succ _) fun b hb o e=> ?_) ⟨_,hc3,hS3⟩ fun s'' c2 hm'' hc'' hS''=> ?_⟩
  ·rw [hsb.2 b (fun q:b=D=>hDf (by rw [←q];exact hb))];exact e
  ·refine hR s'' c2 (Moved.trans W.gtrans ((hm.mono hsub).then_heap (Nat.le_succ _) fun b o hb e=> ?_) hm'') hc'' hS''
   rw [hsb.2 b (fun q:b=D=>hb (by rw [q];exact List.mem_cons_self))];exact e
end
end DL
namespace DL
open PySem PySem.Spec PyProof.Rows L2

section
variable {X:Cx}
theorem dtSet {pins:List (Addr×Obj)} {σ:L2.St} {H:Hp} {s:Shared} {E:Value→Shared→Prop} {dd b:Addr} {kvs:List (List Key×V)} {k:List Key} {v:V} {r:Value} {Q:Unit→Shared→Prop} (hu:X.A.units < cLine) (I:Inv X pins σ H s) (hD:H dd=some (.dT kvs)) (hz:kvs.length < sizeLine)
  (hk:H b=some (.tup (k.map kV))) (rv:RelV v r) (h:∀s',Inv X pins σ (upd H dd (.dT (putK kvs k v))) s'→Q () s'):wpAny (model X.prog X.w) X.A (dictSet dd (.ref b) r) Q E s:=by
 obtain ⟨z,hd,xs,rel,ob⟩:=dt_of I.hok hD
 have hl:(putK kvs k v).length≤sizeLine:=by have:=length_putK kvs k v;omega
 have hxl:xs.length≤sizeLine:=by rw [←Paired.length rel];exact z
 refine wpAny_dictSet_heap (hsz:=hxl) (knd:=tupleKind (mixKind X.prog X.w)) hu (key_of I.hok hk) ob fun h' ob' hs=>h _ ?_
 obtain ⟨q,es,ep,g1,g2,g3,g4,_,g5⟩:=ob'
 refine d_write I (by rw [hD];exact True.intro) hs ⟨q,g1⟩ ⟨hl,hd,_,(rel.put k hk rv).keeps fun c ys ec=> ?_,q,es,ep,g1,g2,g3,g4,g5⟩
 rw [upd_ne (ne_of ec hD (fun z=>nomatch z))]
 exact ec
abbrev BX (X:Cx) (scope:Scope) (s:Shared) (H:Hp) (C:Addr) (cl:List (Str×Addr)) (fp:List Addr):Cx:=X.blk s H scope (compEnvC scope cl C X.env) fp
def tDcT (wi:TI) (g:TG) (tt:TT) (tk tv:TE) (vs:List Nat):TE:=fun σ H Q=>wi σ H fun J H1=> ∀dd,H1 dd=none→∃W:Nat→Nat→Hp→Prop,(∃m,W 0 m (upd H1 dd (.dT [])))∧∀i m H,W i m H→
 (J.stop i H∧Q (.ref dd) H)∨(J.go i H∧∃Nx:Hp→Prop,(∀H',Nx H'→∃m',m' < m∧W (i+1) m' H')∧∀x H',J.yld i H x H'→g x (wipe σ vs) H' fun σ2 H2=>wipe σ2 vs=wipe σ vs∧tt σ2 H2 fun b H3=>
  if b=true then tk σ2 H3 fun y H4=>tv σ2 H4 fun z H5=> ∃kvs k c,y= .ref c∧H5 c=some (.tup (k.map kV))∧H5 dd=some (.dT kvs)∧kvs.length < sizeLine∧Nx (upd H5 dd (.dT (putK kvs k z))) else Nx H3)
theorem dcT_core {pins:List (Addr×Obj)} {s:Shared} {σ:L2.St} {H:Hp} {Q:VK} {kx vx tg iter:Expr} {ifs:List Expr} {scope:Scope} {own:List (Str×Nat)} {pos pos':Pos} {wi:TI} {g:TG} {tt:TT} {tk tv:TE} {use:Option (Value→Sem Unit)} {Qf:Value→Shared→Prop}
  (hc:X.calm=true) (hu:X.A.units < cLine) (hN:X.N.Nodup) (I:Inv X pins σ H s) (hi:PI X tg iter wi) (ok:BlkOk X.N X.env.scope scope own)
  (hg:∀s H C cl fp,PG (BX X scope s H C cl fp) tg g) (ht:∀s H C cl fp,PTs (BX X scope s H C cl fp) ifs tt) (hk:∀s H C cl fp,PE (BX X scope s H C cl fp) kx tk) (he:∀s H C cl fp,PE (BX X scope s H C cl fp) vx tv) (hs:∀x,foldedSetIterable iter X.env x=pure x)
  (h:tDcT wi g tt tk tv (own.map (·.2)) σ H Q)
  (hfin:∀dd C s' m H',Inv X pins σ H' s'→Q (.ref dd) H'→s'.heap.Ns C m→FpOk X pins H' C→compPost (model X.prog X.w) X.A X.xe use Qf (.ref dd) C (.ok .next) s'):
  wpAny (model X.prog X.w) X.A (comprehension (.DictComp kx vx [⟨tg,iter,ifs,0⟩] scope pos) scope X.env pos' newDict false (eval iter X.env) use) Qf X.xe s:=by
 have cells:∀y∈scope.names,y.2= .free→∃c,X.env.cells.lookup y.1=some c:=fun y hy e=>by
  rcases ok.free y hy e with k | k
  ·exact I.ok.has _ (Or.inl k)
  ·exact I.ok.has _ (Or.inr k)
 refine wpAny_comprehension_free (use:=use) rfl hs (closure_ok cells) ok.kind (fun y hy e=>by rw [ok.uniq y hy,e]) (thn (hi.run pins s σ H _ I h) fun xv s1 hx=>thn hx fun itv s2 h2=> ?_)
 obtain ⟨it,fp,tn,J,H2,rfl,I2,T,st2,f2,q⟩:=h2
 refine wpAny_newObj_type (newEnv_comp ?_)
 generalize hDD:s2.heap.objs.size=dd
 have newD:H2 dd=none:=I2.hok.fresh (Nat.le_of_eq hDD)
 obtain ⟨W,⟨m0,w0⟩,turn⟩:=q dd newD
 generalize hs3:({s2 with heap:=s2.heap.push {cls:= .type "dict",data:= .dict #[]}}:Shared)=s3
 have I3:Inv X pins σ (upd H2 dd (.dT [])) s3:=by
  rw [←hs3]
  refine I2.laid (t':=s2.toks) (fun b o e=>Heap.get?_push_of_some _ e) (Nat.le_of_eq hDD) ?_
  rw [←hDD]
  exact dt_empty s2.heap I2.big
 have e3:s3.heap=s2.heap.push {cls:= .type "dict",data:= .dict #[]}:=by rw [←hs3]
 have f3:∀b∈fp,FpOk X pins (upd H2 dd (.dT [])) b∧b < s3.heap.objs.size:=fun b hb=>by
  obtain ⟨o,eo,_⟩:=T.obj _ _ st2 b hb
  have hlt:=Heap.lt_size eo
  refine ⟨⟨?_,(f2 b hb).2⟩,by rw [e3,Heap.size_push];exact Nat.lt_succ_of_lt hlt⟩
  rw [upd_ne (by rw [←hDD];exact Nat.ne_of_lt hlt)]
  exact (f2 b hb).1
 have st3:tn 0 s3.heap:=T.keep _ _ _ st2 fun b _ o e=>by rw [e3];exact Heap.get?_push_of_some _ e
 have I4:=block_start I3 ok hN f3
 generalize hcl:cellsFrom (s3.heap.objs.size+1) scope.names (cloFrom X.env.cells scope.names [])=cl at I4
 have pg:=hg s3 (upd H2 dd (.dT [])) s3.heap.objs.size cl fp
 have pt:=ht s3 (upd H2 dd (.dT [])) s3.heap.objs.size cl fp
 have pk:=hk s3 (upd H2 dd (.dT [])) s3.heap.objs.size cl fp
 have pe:=he s3 (upd H2 dd (.dT [])) s3.heap.objs.size cl fp
 unfold BX at pg pt pk pe
 show codeAny _ _ (.compStart (.DictComp kx vx [⟨tg,iter,ifs,0⟩] scope pos) 0 (.ref it) (.ref dd) (compEnvC scope cl s3.heap.objs.size X.env)) (compPost (model X.prog X.w) X.A X.xe use Qf (.ref dd) s3.heap.objs.size) {s3 with heap:=pushCells (s3.heap.push {cls:= .type "dict",data:= .dict #[]}) scope.names}
 have nfp:∀b∈fp,(upd H2 dd (.dT [])) b=none:=fun b hb=>(f3 b hb).1.1
 generalize hce:compEnvC scope cl s3.heap.objs.size X.env=ce at I4 pg pt pk pe ⊢
 have cL:ce.locals=s3.heap.objs.size:=by subst hce;rfl
 generalize hH3:upd H2 dd (.dT [])=H3 at I3 I4 pg pt pk pe w0 nfp f3
 generalize hs4:({s3 with heap:=pushCells (s3.heap.push {cls:= .type "dict",data:= .dict #[]}) scope.names}:Shared)=s4 at I4 ⊢
 have st4:tn 0 s4.heap:=T.keep _ _ _ st3 fun b _ o e=>by rw [←hs4];exact pushCells_keeps _ _ _ _ (Heap.get?_push_of_some _ e)
 let XB:Cx:=X.blk s3 H3 scope ce fp
 have stat:∀{σ':L2.St} {H':Hp} {s':Shared},Inv XB [] σ' H' s'→(∀b∈fp,H' b=none)→∀b∈fp,FpOk XB [] H' b:=fun {σ' H' s'} I' hn b hb=>
  ⟨hn b hb,(I'.ok.exf b hb).1,I'.ok.exfs b hb,.inl hb,fun x c e=>(I'.ok.exf b hb).2 x c e,fun p hp=>absurd (show p∈([]:List (Addr×Obj))++ [] from hp) (by simp)⟩
 have loop:codeAny (model X.prog X.w) X.A (.compLoop (.DictComp kx vx [⟨tg,iter,ifs,0⟩] scope pos) 0 (.ref it) (.ref dd) ce) (compPost (model X.prog X.w) X.A X.xe use Qf (.ref dd) s3.heap.objs.size) s4:=by
  refine compLoop_anyD (fun n s'=> ∃i H',Inv XB [] (wipe σ (own.map (·.2))) H' s'∧tn i s'.heap∧(∀b∈fp,H' b=none)∧W i n H') ?_ m0 ⟨0,H3,I4,st4,nfp,w0⟩
  rintro n s5 ⟨i,H5,I5,st5,n5,w5⟩
  rcases turn i n H5 w5 with ⟨stop,qq⟩ | ⟨go,Nx,hNx,step⟩
  ·have td:=T.done XB rfl rfl rfl hc i [] s5 _ H5 (fun _ _=>False) I5 (stat I5 n5) st5 stop
   refine thnF td fun r s6 ⟨hr,I6⟩=> ?_
   subst hr
   have back:Inv X pins σ H5 s6:=I3.call' (ch:=fp) I6.os I6.base I6.hok I6.bare fun b hb=>⟨(f3 b hb).1.2.2.2.1,(f3 b hb).1.2.1,(f3 b hb).1.2.2.2.2.1,(f3 b hb).1.2.2.2.2.2⟩
   have nC:H5 s3.heap.objs.size=none:=cL ▸(show H5 ce.locals=none from I6.free)
   obtain ⟨m,hn,_⟩:=I6.loc
   have hn:s6.heap.Ns s3.heap.objs.size m:=cL ▸(show s6.heap.Ns ce.locals m from hn)
   exact hfin dd s3.heap.objs.size s6 m H5 back qq hn (I3.fpOk (Nat.le_refl _) nC)
  ·have ti:=T.item XB rfl rfl rfl hc i [] s5 _ H5 (fun _ _=>False) I5 (stat I5 n5) st5 go
   refine thnF ti fun r s6 ⟨u,hr,h6⟩=> ?_
   subst hr
   refine thnF h6 fun _ s7 ⟨x,H7,I7,r7,y7,st7,n7⟩=> ?_
   refine thnF (pg.run _ s7 _ H7 x u _ (I7.pinned (stat I7 n7) (T.obj _ _ st7)) r7 (step x H7 y7)) fun _ s8 ⟨σ8,H8,I8,hw8,q8⟩=> ?_
   refine thnF (pt.run _ s8 σ8 H8 _ I8 q8) fun b s9 ⟨H9,I9,q9⟩=> ?_
   have fin:∀{s':Shared} {H':Hp},Inv XB ([]++pinsAt fp s7.heap) σ8 H' s'→Nx H'→∃m,m < n∧∃i H',Inv XB [] (wipe σ (own.map (·.2))) H' s'∧tn i s'.heap∧(∀b∈fp,H' b=none)∧W i m H':=fun {s' H'} I' nx=>by
    obtain ⟨m',hm,w'⟩:=hNx H' nx
    have pin':∀b∈fp,∀o,s7.heap.get? b=some o→s'.heap.get? b=some o∧H' b=none:=fun b hb o e=>
     let z:=I'.pin (b,o) (List.mem_append_right _ (List.mem_append_right _ (mem_pinsAt hb e)))
     ⟨z.1,z.2.1⟩
    have hl:(wipe σ (own.map (·.2))).length=σ8.length:=by rw [←hw8,wipe_length]
    refine ⟨m',hm,i+1,H',(I'.unpinned (pins:= [])).weak hl (fun j v e=>(wipe_some (hw8 ▸e)).1),T.keep _ _ _ st7 fun b hb o e=>(pin' b hb o e).1,fun b hb=> ?_,w'⟩
    obtain ⟨o,eo,_⟩:=T.obj _ _ st7 b hb
    exact (pin' b hb o eo).2
   cases b with
   | false=>exact fin I9 (by simpa using q9)
   | true=>
    simp only [if_true] at q9 ⊢
    refine thnF (pk.run _ s9 σ8 H9 _ I9 q9) fun z s10 ⟨yk,H10,I10,r10,q10⟩=> ?_
    refine thnF (pe.run _ s10 σ8 H10 _ I10 q10) fun z2 s11 ⟨yv,H11,I11,r11,kvs,k,c,ek,hk11,hD11,hz11,nx⟩=> ?_
    subst ek
    obtain rfl:z=Value.ref c:=r10
    exact dtSet (X:=XB) hu I11 hD11 hz11 hk11 r11 fun s12 I12=>fin I12 nx
 exact codeAny_compStart_dict loop (T.self X.A 0 _ _ _ st4 loop)
theorem pe_dcT {kx vx tg iter:Expr} {ifs:List Expr} {scope:Scope} {own:List (Str×Nat)} {pos:Pos} {wi:TI} {g:TG} {tt:TT} {tk tv:TE} (hc:X.calm=true) (hu:X.A.units < cLine) (hN:X.N.Nodup) (hi:PI X tg iter wi) (ok:BlkOk X.N X.env.scope scope own)
  (hg:∀s H C cl fp,PG (BX X scope s H C cl fp) tg g) (ht:∀s H C cl fp,PTs (BX X scope s H C cl fp) ifs tt) (hk:∀s H C cl fp,PE (BX X scope s H C cl fp) kx tk) (he:∀s H C cl fp,PE (BX X scope s H C cl fp) vx tv) (hs:∀x,foldedSetIterable iter X.env x=pure x):
  PE X (.DictComp kx vx [⟨tg,iter,ifs,0⟩] scope pos) (tDcT wi g tt tk tv (own.map (·.2))):=by
 refine ⟨fun pins s σ H Q I h=> ?_⟩
 rw [arm_eval_DictComp]
 refine dcT_core hc hu hN I hi ok hg ht hk he hs h fun dd C s' m H' I' q hn f=>⟨m,hn,fun h'' sb=> ?_⟩
 obtain ⟨f0,f1,f2,f3,f4,f5⟩:=f
 exact ⟨.ref dd,H',I'.turned (t':=s'.toks) (fun b o hb e=>(sb.2 b hb).trans e) f0 f1 f3 f4 f5,rfl,q⟩
end
end DL
namespace DL
open PySem PySem.Spec PyProof.Rows L2
theorem yV {k:Nat} {A:Around} (r:Room k A):A.units+100 < cLine:=by have:=r.un;omega
theorem u64 {k:Nat} {A:Around} (r:Room k A):A.units+64 < cLine:=by have:=r.un;omega
theorem u1 {k:Nat} {A:Around} (r:Room k A):A.units+1 < cLine:=by have:=r.un;omega
theorem KDs.fst {K:PySem.W.Frag} {F:Fz} {H:Hp}:∀{kvs:List (List Key×V)} {kds:List (List Key×D)},KDs K F H kvs kds→kvs.map (·.1)=kds.map (·.1)
 | _,_,.nil=>rfl
 | _,_,.cons h t=>by rw [List.map_cons,List.map_cons,KDs.fst t,h.1]
theorem aBs {K:PySem.W.Frag} {F:Fz} {H:Hp} {v:V} {k:List Key} (r:Rep K F H v (kD k)):KOk k:=by
 refine ⟨?_,fun x hx=> ?_⟩
 ·have:=r.bnd
  have e:(k.map keyD).length≤sizeLine:=this
  rwa [List.length_map] at e
 ·obtain ⟨b,vs,rfl,hb,ra⟩:=Rep.tupE (show Rep K F H v (.tup (k.map keyD)) from r)
  obtain ⟨i,hi⟩:=List.getElem?_of_mem hx
  obtain ⟨v,_,rv⟩:=ra.get (show (k.map keyD)[i]? =some (.str x) by rw [List.getElem?_map,hi];rfl)
  exact rv.bnd
theorem putD_mem {kds:List (List Key×D)} {k:List Key} {d:D} {q:List Key×D} (h:q∈putD kds k d):q.1=k∨∃p∈kds,p.1=q.1:=by
 unfold putD at h
 split at h
 ·obtain ⟨p,hp,e⟩:=List.mem_map.mp h
  split at e
  ·rename_i e2
   exact .inl (by rw [←e];exact e2)
  ·exact .inr ⟨p,hp,by rw [e]⟩
 ·rcases List.mem_append.mp h with h | h
  ·exact .inr ⟨q,h,rfl⟩
  ·rw [List.mem_singleton] at h
   exact .inl (by rw [h])
theorem yE {kds:List (List Key×D)} {k:List Key} {d:D} (h:∀q∈kds,KOk q.1) (hk:KOk k):∀q∈putD kds k d,KOk q.1:=fun q hq=>by
 rcases putD_mem hq with e | ⟨p,hp,e⟩
 ·rw [e];exact hk
 ·rw [←e];exact h p hp
theorem mergeD_ok:∀(more kds:List (List Key×D)),(∀q∈kds,KOk q.1)→(∀q∈more,KOk q.1)→∀q∈qP kds more,KOk q.1
 | [],kds,h,_=>h
 | p::more,kds,h,hm=>mergeD_ok more (putD kds p.1 p.2) (yE h (hm p List.mem_cons_self)) fun q hq=>hm q (List.mem_cons_of_mem _ hq)
section
variable {C:Ctx} {Γ:Gm} {L:Lp} {e a b c o tg:Expr} {es ts:List Expr} {pos p1 p2:Pos} {Q:D→Lp→Prop} {E:AEnds}
theorem wQ (q:∀p,L p=none→Q (.ptr p) (put L p (.dct []))):AE C (.Dict [] [] pos) Γ L Q:=fun F σ H ok QV go=>
 dD pe_dnewT fun p hp=>go _ _ _ (put L p (.dct [])) (.ptr p) (ok.con.newL hp ⟨[],upd_same,.nil,fun q hq=>nomatch hq⟩) (.newL hp) (q p (ok.con.free hp))
theorem w_DT {p:Addr} {kds:List (List Key×D)} {k:List Key} {v:D} {Q:Lp→Prop} (hp:L p=some (.dct kds)) (hz:kds.length < sizeLine) (q:Q (put L p (.dct (putD kds k v)))):L3R C aAA (.ptr p) (kD k) v L Q:=fun F vo vi vv H c ro ri rv QV go=>by
 obtain ⟨kvs,ha,ra,hk⟩:=c.at_ p _ hp
 obtain ⟨t,rfl,ht⟩:=aAj ri
 have s:=Mv.write (o:= .dT (putK kvs k vv)) c hp
 refine ⟨p,upd H p (.dT (putK kvs k vv)),ro.ptrE,DPut.t ha ht (by rw [Paired.length ra];exact hz),go _ (put L p (.dct (putD kds k v))) (c.write hp ⟨_,upd_same,KDs.mono s (KDs.put ra k rv),yE hk (aBs ri)⟩) (.write c hp) q⟩
theorem rK {p:Addr} {kds:List (List Key×D)} (hp:L p=some (.dct kds)) (hz:kds.length≤sizeLine) (q:∀l,L l=none→Q (.ptr l) (put L l (.lst (kds.map fun x=>kD x.1)))):LcR C rLstDT [.ptr p] L Q:=fun F vs H c r0 QV go=>by
 obtain ⟨v,rfl,r⟩:=r0.oneE
 obtain ⟨kvs,ha,ra,hk⟩:=c.at_ p _ hp
 refine ⟨p,kvs,by rw [r.ptrE],.inl ha,fun bs kr l hl=> ?_⟩
 have e:kvs.map (·.1)=kds.map (·.1):=by
  exact KDs.fst ra
 have hks:∀k∈kvs.map (·.1),KOk k:=fun k hkk=>by
  rw [e] at hkk
  obtain ⟨x,hx,rfl⟩:=List.mem_map.mp hkk
  exact hk x hx
 have rr:aZ C.X.K F H (bs.map V.ref) (kds.map fun x=>kD x.1):=by
  have:=sO (K:=C.X.K) (F:=F) kr hks
  rw [e,List.map_map] at this
  exact this
 exact go _ _ _ (put L l (.lst (kds.map fun x=>kD x.1))) (.ptr l) (c.newL hl ⟨_,upd_same,rr.mono (.new hl),by rw [List.length_map];exact hz⟩) (.newL hl) (q l (c.free hl))
def pD (x:List Key×D):D:= .tup [kD x.1,x.2]
theorem pairs_of {K:PySem.W.Frag} {F:Fz} {H:Hp}:∀{vs:List V} {kds:List (List Key×D)},aZ K F H vs (kds.map pD)→∃(ts:List Addr) (q:List (List Key×Addr×V)),vs=ts.map V.ref∧wU H ts q∧KDs K F H (q.map fun x=>(x.1,x.2.2)) kds∧∀y∈kds,KOk y.1
 | _,[],.nil=>⟨[],[],rfl,.nil,.nil,fun y hy=>nomatch hy⟩
 | _,x::kds,.cons r t=>by
  obtain ⟨ts,q,rfl,h1,h2,h3⟩:=pairs_of t
  obtain ⟨a,ws,rfl,ha,ra⟩:=Rep.tupE (show Rep K F H _ (.tup [kD x.1,x.2]) from r)
  obtain ⟨v1,v2,rfl,r1,r2⟩:=aZ.twoE ra
  obtain ⟨b,rfl,hb⟩:=aAj r1
  refine ⟨a::ts,(x.1,b,v2)::q,rfl,.cons ⟨ha,hb⟩ h1,.cons ⟨rfl,r2⟩ h2,fun y hy=> ?_⟩
  rcases List.mem_cons.mp hy with e | hy
  ·rw [e];exact aBs r1
  ·exact h3 y hy
theorem c_dictPT {p:Addr} {kds:List (List Key×D)} (hp:L p=some (.lst (kds.map pD))) (q:∀l,L l=none→Q (.ptr l) (put L l (.dct (qP [] kds)))):LcR C (rDictPT C.X.K) [.ptr p] L Q:=fun F vs H c r0 QV go=>by
 obtain ⟨v,rfl,r⟩:=r0.oneE
 obtain ⟨ws,ha,ra,hz⟩:=c.at_ p _ hp
 obtain ⟨ts,qq,e,h1,h2,h3⟩:=pairs_of ra
 subst e
 refine ⟨p,ts,qq,by rw [r.ptrE],SqL.of ha,h1,fun l hl=>go _ _ _ (put L l (.dct (qP [] kds))) (.ptr l) (c.newL hl ⟨_,upd_same,KDs.mono (.new hl) (KDs.merge h2 .nil),mergeD_ok kds [] (fun q hq=>nomatch hq) h3⟩) (.newL hl) (q l (c.free hl))⟩
theorem Stay.dct {H:Hp} {p:Addr} {xs:List (List Key×V)} {o:HO} (h:H p=some (.dT xs)):Stay H (upd H p o):=
 ⟨fun a vs e=>by rw [upd_ne (fun q=>by rw [q,h] at e;cases e)];exact e,fun a ob u e=>by rw [upd_ne (fun q=>by rw [q,h] at e;cases e)];exact e,fun a e=>by rw [upd_ne (fun q=>by rw [q,h] at e;cases e)];exact e⟩
theorem ae_dcT (own:List (Str×Nat)) {scope:Scope} {kx vx iter:Expr} (hu:C.X.A.units < cLine)
  (h:AI C tg iter Γ L fun ds G L1=> ∃I:Nat→List (List Key×D)→Lp→Prop,I 0 [] L1∧(∀i acc L2,I i acc L2→G L2)∧
   (∀i d acc L2,ds[i]? =some d→I i acc L2→∃Γ3 ws,(∀j∈ws,j∈own.map (·.2))∧∀s H Cc cl fp,AG (cZ C scope s H Cc cl fp) tg d (dB Γ (own.map (·.2))) Γ3 ws∧
    AE (cZ C scope s H Cc cl fp) kx Γ3 L2 fun y L3=> ∃k,y=kD k∧∀s H Cc cl fp,AE (cZ C scope s H Cc cl fp) vx Γ3 L3 fun z L4=>acc.length < sizeLine∧I (i+1) (putD acc k z) L4)∧
   ∀acc L2,I ds.length acc L2→∀p,L2 p=none→Q (.ptr p) (put L2 p (.dct acc)))
  (ok:BlkOk C.X.N C.X.env.scope scope own:=by (dsimp only [uF,cZ,cxOf,envOfC,compEnvC,Cx.blk];exact blkOk_by (by decide+kernel))) (hs:∀x,foldedSetIterable iter C.X.env x=pure x:=by intro _;rfl):AE C (.DictComp kx vx [⟨tg,iter,[],0⟩] scope pos) Γ L Q:=fun F σ H okk QV go=>by
 refine dD (pe_dcT (wi:=WI C.X tg iter) (g:=gB C scope tg) (tt:=ttB C scope []) (tk:=teB C scope kx) (tv:=teB C scope vx) C.calm hu C.nd yF ok (fun s H0 Cc cl fp=>⟨fun pins s1 σ1 H1 v u Q1 I r q=>(q s H0 Cc cl fp).run pins s1 u I r⟩) (fun s H0 Cc cl fp=>⟨fun pins s1 σ1 H1 Q1 I q=>(q s H0 Cc cl fp).run pins s1 I⟩) (fun s H0 Cc cl fp=>⟨fun pins s1 σ1 H1 Q1 I q=>(q s H0 Cc cl fp).run pins s1 I⟩) (fun s H0 Cc cl fp=>⟨fun pins s1 σ1 H1 Q1 I q=>(q s H0 Cc cl fp).run pins s1 I⟩) hs) ?_
 refine h _ σ H okk _ fun {F1} J H1 L1 ds G c1 f1 it ⟨I,i0,hG,hb,hd⟩=> ?_
 intro dd hD
 have f1D:=c1.nf hD
 refine ⟨fun i m H2=>m=ds.length - i∧i≤ds.length∧∃L2 F2 acc vacc,C.Con L2 F2 H2∧Fr L1 F1 H1 L2 F2 H2∧L2 dd=none∧¬F2 dd∧H2 dd=some (.dT vacc)∧KDs C.X.K F2 H2 vacc acc∧(∀q∈acc,KOk q.1)∧I i acc L2,⟨ds.length,by simp,Nat.zero_le _,L1,F1,[],[],c1.new hD,.new hD,c1.free hD,f1D,upd_same,.nil,(fun q hq=>nomatch hq),i0⟩,?_⟩
 rintro i m H2 ⟨rfl,hi,L2,F2,acc,vacc,c2,f2,lD,fD,hD2,ra,hks,i2⟩
 obtain ⟨k1,k2,k3⟩:=it i H2 L2 f2 c2 (hG i acc L2 i2)
 by_cases hlt:i < ds.length
 ·refine .inr ⟨k1 hlt,fun H3=> ∃L2 F2 acc vacc,C.Con L2 F2 H3∧Fr L1 F1 H1 L2 F2 H3∧L2 dd=none∧¬F2 dd∧H3 dd=some (.dT vacc)∧KDs C.X.K F2 H3 vacc acc∧(∀q∈acc,KOk q.1)∧I (i+1) acc L2,fun H3 hN=>⟨ds.length - (i+1),by omega,rfl,hlt,hN⟩,fun x H' y=> ?_⟩
  obtain ⟨d,hd2,rd,hH⟩:=k3 x H' y hlt
  have fH:Fr L2 F2 H2 L2 F2 H':=by
   rcases hH with e | ⟨T,vs,nT,e⟩
   ·rw [e];exact .refl L2 H2
   ·rw [e];exact .new nT
  have cH:C.Con L2 F2 H':=by
   rcases hH with e | ⟨T,vs,nT,e⟩
   ·rw [e];exact c2
   ·rw [e];exact c2.new nT
  obtain ⟨_,_,hD3⟩:=fH.hid hD2 (fun _ z=>nomatch z) lD fD
  have slw:Sl C.X.K F2 H' (wipe σ (own.map (·.2))) (dB Γ (own.map (·.2))):=(okk.sl.mono ((f1.trans f2).trans fH).mv).wipe _
  obtain ⟨Γ3,ws,hws,hbody⟩:=hb i d acc L2 hd2 i2
  intro s0 H0 Cc cl fp
  refine (hbody s0 H0 Cc cl fp).1 _ _ H' x slw rd _ fun σ3 sl3 but=>⟨But.wiped but hws,?_⟩
  intro s1 H01 Cc1 cl1 fp1
  refine jA (C:=cZ C scope s1 H01 Cc1 cl1 fp1) (Γ:=Γ3) (L:=L2) (Q:=fun b L3=>b=true∧L3=L2) ⟨rfl,rfl⟩ _ σ3 H' ⟨sl3,cH,⟨fun _ _ _ _ _ _ _ _ _ _ _ z=>z.elim,True.intro⟩⟩ _ fun b H3 L3 c3 f3 ⟨eb,el⟩=> ?_
  subst eb el
  rw [if_pos rfl]
  obtain ⟨_,fD3,hD4⟩:=f3.hid hD3 (fun _ z=>nomatch z) lD fD
  intro s2 H02 Cc2 cl2 fp2
  refine (hbody s2 H02 Cc2 cl2 fp2).2 _ σ3 H3 ⟨sl3.mono f3.mv,c3,⟨fun _ _ _ _ _ _ _ _ _ _ _ z=>z.elim,True.intro⟩⟩ _ fun yv y H4 L4 r4 c4 f4 ⟨k,ek,q4⟩=> ?_
  subst ek
  obtain ⟨lD4,fD4,hD5⟩:=f4.hid hD4 (fun _ z=>nomatch z) lD fD3
  intro s3 H03 Cc3 cl3 fp3
  refine q4 s3 H03 Cc3 cl3 fp3 _ σ3 H4 ⟨(sl3.mono f3.mv).mono f4.mv,c4,⟨fun _ _ _ _ _ _ _ _ _ _ _ z=>z.elim,True.intro⟩⟩ _ fun zv z H5 L5 r5 c5 f5 ⟨hz,q5⟩=> ?_
  obtain ⟨lD5,fD5,hD6⟩:=f5.hid hD5 (fun _ z=>nomatch z) lD4 fD4
  obtain ⟨b,rfl,hb4⟩:=aAj r4
  have ra5:=KDs.mono f5.mv (KDs.mono f4.mv (KDs.mono f3.mv (KDs.mono fH.mv ra)))
  have st:Stay H5 (upd H5 dd (.dT (putK vacc k zv))):= .dct hD6
  have f6:=((((f2.trans fH).trans f3).trans f4).trans f5)
  exact ⟨vacc,k,b,rfl,f5.stay.tup _ _ hb4,hD6,by rw [Paired.length ra5];exact hz,L5,_,putD acc k z,putK vacc k zv,c5.hid st lD5 fD5,f6.hidw hD f1D st,lD5,fD5,upd_same,KDs.mono (.hid st fD5) (KDs.put ra5 k r5),yE hks (aBs r4),q5⟩
 ·have e:i=ds.length:=by omega
  exact .inl ⟨k2 e,go _ _ H2 (put L2 dd (.dct acc)) (.ptr dd) (c2.shw fD ⟨vacc,hD2,ra,hks⟩) ((f1.trans f2).shw (f1.nul hD)) (hd acc L2 (by rw [←e];exact i2) dd lD)⟩
end
end DL
namespace DL
open PySem PySem.Spec PyProof.Rows L2
section
variable {X:Cx}
def aA6 (i j:Int):Prop:=0≤j∧(Builtin.Int.intBits i:Int)*j≤2 ^ 27
theorem op_powX:OpR X (binaryOp .Pow) (rI aA6 fun i j=> .int (i ^ j.toNat)):=opI fun _ _ _ _ _ _ _ hc q=>pow_int hc.1 hc.2 q
end
section
variable {C:Ctx} {Γ:Gm} {L:Lp} {Q:D→Lp→Prop}
theorem r_powX {i j:Int} (h:aA6 i j) (q:Q (.int (i ^ j.toNat)) L):L2R C (rI aA6 fun i j=> .int (i ^ j.toNat)) (.int i) (.int j) L Q:=r_I (g':=fun i j=> .int (i ^ j.toNat)) h (fun _=> .int _) q
end
theorem big_ok:aA6 ((10:Int) ^ (60:Int).toNat) 5:=by
 refine ⟨by decide,?_⟩
 decide+kernel
end DL
namespace DL
open PySem PySem.Spec PyProof.Rows L2
abbrev bV (w:World):Obj:={cls:= .type "set",dict:=none,data:= .set #[] 0 (.fresh 0 0 (!w.params.followText "set-order"))}
section
variable {P:Program} {w:World} {A:Around} {E:Value→Shared→Prop} {s:Shared}

set_option maxHeartbeats 3200000 in
theorem call_setX_list {l:Addr} {items:Array Value} (xs:List Str) {Q:Value→Shared→Prop} (hh:A.handled=none) (hl:s.heap.IsList l items) (hit:StrsAre items.toList xs) (hb:xs.length+1 < scanBound)
  (h:∀(h':Heap) (tk c:Nat),nO w h' s.heap.objs.size (fun j=>decide (j∈xs)) c→c≤xs.length→(∀b o,s.heap.get? b=some o→h'.get? b=some o)→Q (.ref s.heap.objs.size) {s with heap:=h',toks:=tk}):
  wpAny (model P w) A (call (.type "set") [.ref l]) Q E s:=by
 have hisz:items.size=xs.length:=by rw [←StrsAre.len_eq hit,Array.length_toList]
 obtain ⟨c0,tl,hmro⟩:=PySem.F.called_set.mro
 have k_made:=PySem.F.called_set.made
 have k_sub:=PySem.F.called_set.sub
 refine wpAny_call (codeAny_of_tree ?_)
 show wpAny _ _ (callAny (.type "set") _) _ _ _
 refine wpAny_pure ⟨Code.quiet_builtin _ (by decide+kernel),codeAny_builtin PySem.F.entry_type_call ?_⟩
 rw [Around.under_plain (weight_type_call_type "set" [.ref l] []) rfl]
 have k_1:=PySem.F.called_set.notType
 have k_2:=PySem.F.called_set.canCreate
 have k_3:=PySem.F.typeCall_set_1 (.ref l)
 repeat (any_goals (first | assumption | wp_step))
 refine codeAny_mono (code_set_led1 (.ref l) (E:=E) (Q₁:=fun ob s₁=>ob= .ref s.heap.objs.size∧s₁={s with heap:=s.heap.push (bV w)}) ⟨rfl,rfl⟩) fun r s₁ hr=> ?_
 cases r with
 | error e=>exact hr
 | ok fl=>
  cases fl with
  | ret ob=>
   obtain ⟨rfl,rfl⟩:=hr
   have hS:(s.heap.push (bV w)).get? s.heap.objs.size=some (bV w):=Heap.get?_push_size _ rfl
   have hT:Shared.TypeIs {s with heap:=s.heap.push (bV w)} (.ref s.heap.objs.size) "set" :=⟨_,hS,rfl⟩
   have k_4:=PySem.F.called_set.init.lookup
   have k_5:=PySem.F.called_set.init.bind (.ref s.heap.objs.size)
   repeat (any_goals (first | assumption | wp_step))
   refine codeAny_mono (codeAny_call_builtin (R:=wants (fun r s₂=>r= .none∧∃h' tk c,s₂={s with heap:=h',toks:=tk}∧nO w h' s.heap.objs.size (fun j=>decide (j∈xs)) c∧c≤xs.length∧
     (∀b o,s.heap.get? b=some o→h'.get? b=some o)) E) PySem.F.called_set.init.plain PySem.F.entry_set_init (check_set_init_1 hT ?_)) fun r₂ s₂ hr₂=> ?_
   ·obtain ⟨ol,hol,hcl,nl,hdl⟩:=hl
    obtain ⟨ocls,odict,odata,oslots⟩:=ol
    simp only at hcl hdl
    subst hcl;subst hdl
    have hol':(s.heap.push (bV w)).get? l=some {cls:= .type "list",dict:=odict,data:= .seq items nl,slots:=oslots}:=Heap.get?_push_of_some _ hol
    have k_6:=PySem.F.sub_list_set
    have k_7:=PySem.F.sub_list_frozenset
    have k_8:(Value.type "list"==Value.type "dict")=false:=by decide
    have hl1:(s.heap.push (bV w)).IsList l items:=⟨_,hol',rfl,nl,rfl⟩
    unfold Builtin.«set.__init__» noKeywords Builtin.Frozenset.updateFrom
    generalize hPI:pyIter=PI
    wp_walk
    subst hPI
    refine wpAny_pyIter_list hl1 ?_
    refine wpAny_bind (wpAny_runValue ?_)
    have hlS:l < s.heap.objs.size:=Heap.lt_size hol
    have hh3:A.in1.in1.in1.handled=none:=by simp [hh]
    have hz1:(s.heap.push (bV w)).objs.size=s.heap.objs.size+1:=Heap.size_push ..
    have hneI:l≠(s.heap.push (bV w)).objs.size:=by
     rw [hz1];exact Nat.ne_of_lt (Nat.lt_succ_of_lt hlS)
    have hSf:s.heap.objs.size∉ [(s.heap.push (bV w)).objs.size,l]:=by
     rw [hz1];simp only [List.mem_cons,List.not_mem_nil,or_false,not_or]
     exact ⟨Nat.ne_of_lt (Nat.lt_succ_self _),Nat.ne_of_gt hlS⟩
    have hval:∀(i:Nat) (v:Value),items[i]? =some v→∃k t,xs[i]? =some k∧v= .str k t:=fun i v hv=>by
     have hi:i < xs.length:=by rw [←hisz];exact (Array.getElem?_eq_some_iff.mp hv).1
     obtain ⟨t,e⟩:=SS.strs_at hit i v (by rw [Array.getElem?_toList];exact hv)
     refine ⟨xs[i],t,List.getElem?_eq_getElem hi,?_⟩
     rw [e,List.getD_eq_getElem?_getD,List.getElem?_eq_getElem hi] <;> rfl
    refine setX_loop ((Walks.list hh3 _ l hneI items).toS) s.heap.objs.size
     hSf xs hisz hb hval (items.size - 0) 0 _ (by omega) (Nat.zero_le _)
     ⟨⟨_,Heap.get?_push_size _ rfl,rfl,rfl⟩,(hl1.push _)⟩ ?hS0 ?hR
    case hS0=>
     refine ⟨0,Nat.le_refl 0,(pZ (Heap.get?_push_of_some _ hS)).congr fun k=> ?_⟩
     simp
    case hR=>
     intro s' c' hm hc' hS'
     obtain ⟨h',g2,d',tk',os'⟩:=s'
     obtain rfl:g2=s.gens:=hm.gens
     obtain rfl:d'=s.drawn:=hm.drawn
     obtain rfl:os'=s.os:=hm.os
     show wpAny _ _ _ _ _ _
     refine wpAny_pure ?_
     show wpAny _ _ (ret Value.none) _ _ _
     rw [hisz] at hc'
     refine wpAny_pure ⟨rfl,h',tk',c',rfl,hS',hc',fun b o e=> ?_⟩
     have hb0:b < s.heap.objs.size:=Heap.lt_size e
     refine hm.heap b o ?_ (Heap.get?_push_of_some _ (Heap.get?_push_of_some _ e))
     rw [hz1]
     simp only [List.mem_cons,List.not_mem_nil,or_false,not_or]
     exact ⟨Nat.ne_of_lt hb0,Nat.ne_of_lt (Nat.lt_succ_of_lt hb0)⟩
   ·cases r₂ with
    | error e=>exact hr₂
    | ok fl₂=>
     cases fl₂ with
     | ret r=>
      obtain ⟨rfl,h',tk,c',rfl,hS',hc',hk'⟩:=hr₂
      repeat (any_goals (first | assumption | wp_step))
      exact h _ _ _ hS' hc' hk'
     | _=>exact hr₂.elim
  | _=>exact hr.elim
end
end DL
namespace DL
open PySem PySem.Spec PyProof.Rows L2
def aAV (ys:List Str):Prop:=ys.Pairwise fun a b=>a.cps.toList < b.cps.toList
theorem qZ {P:Program} {w:World} {H:Hp} {h:Heap} {a:Addr} {S:Str→Bool} {n:Nat} (R:nO w h a S n):ObjOk P w H h a (.ext fun h=>nO w h a S n):=by
 have ⟨o,es,ep,t,ho,r⟩:=R
 exact ⟨R,⟨o,ho⟩,fun h1 h2 p k=>nO.at p k⟩
theorem rW:∀{us:List Value} {xs:List Str},Vals (xs.map V.str) us→StrsAre us xs
 | _,[],.nil=> .nil
 | _,x::xs,.cons r t=>by
  obtain ⟨tk,rfl⟩:=r
  exact .cons x tk (rW t)
section
variable {X:Cx}
abbrev rSetX (K:PySem.W.Frag) (w:World):List V→Hp→VK→Prop:=fun vs H Q=> ∃(l:Addr) (xs:List Str),vs= [.ref l]∧SqL K H l (xs.map V.str)∧xs.length+1 < scanBound∧
 ∀a n,H a=none→n≤xs.length→Q (.ref a) (upd H a (.ext fun h=>nO w h a (fun k=>decide (k∈xs)) n))
theorem cr_setX (hc:X.calm=true):CallR X (.type "set") (rSetX X.K X.w):=fun pins s σ H vs us Q I r ⟨l,xs,ev,hl,hb,q⟩=>by
 subst ev
 obtain ⟨u,rfl,ru⟩:=vals1 r
 obtain rfl:u=Value.ref l:=ru
 obtain ⟨its,rv,pl,hz⟩:=I.list hl
 have hn:H s.heap.objs.size=none:=I.hok.fresh (Nat.le_refl _)
 refine call_setX_list (P:=X.prog) (w:=X.w) xs (I.ok.hd hc) pl.isList (by simpa using rW rv) hb fun h' tk c R hle k=> ?_
 exact ⟨.ref s.heap.objs.size,_,I.laid (t':=tk) k (Nat.le_refl _) (qZ R),rfl,q _ c hn hle⟩

theorem rise_of:∀{l:List Str},l.Pairwise (fun a b=>decide (a.cps.toList≤b.cps.toList)=true)→l.Nodup→aAV l
 | [],_,_=>List.Pairwise.nil
 | x::l,h,d=>by
  obtain ⟨h1,h2⟩:=List.pairwise_cons.mp h
  obtain ⟨d1,d2⟩:=List.nodup_cons.mp d
  refine List.pairwise_cons.mpr ⟨fun y hy=> ?_,rise_of h2 d2⟩
  have e1:=of_decide_eq_true (h1 y hy)
  rcases List.le_iff_lt_or_eq.mp e1 with z | z
  ·exact z
  ·exact absurd (PySem.W.str_of_cps z ▸hy) d1
theorem txs_of:∀(w:World) (l:List Value),(∀v∈l,∃k tk,v=Value.str k tk)→∃bs:List Str,Paired (fun v x=> ∃tk,v=Value.str x tk) l bs
 | _,[],_=>⟨[],.nil⟩
 | w,v::l,h=>by
  obtain ⟨k,tk,rfl⟩:=h v List.mem_cons_self
  obtain ⟨bs,hb⟩:=txs_of w l fun u hu=>h u (List.mem_cons_of_mem _ hu)
  exact ⟨k::bs,.cons ⟨tk,rfl⟩ hb⟩
theorem paired_tx:∀{l:List Value} {bs:List Str},Paired (fun v x=> ∃tk,v=Value.str x tk) l bs→bs=l.map fun v=>txOf (0,v)
 | _,_,.nil=>rfl
 | _,_,.cons h t=>by
  obtain ⟨tk,rfl⟩:=h
  rw [List.map_cons,←paired_tx t]
  rfl
theorem paired_vals:∀{l:List Value} {bs:List Str},Paired (fun v x=> ∃tk,v=Value.str x tk) l bs→Vals (bs.map V.str) l
 | _,_,.nil=> .nil
 | _,_,.cons ⟨tk,h⟩ t=> .cons ⟨tk,h⟩ (paired_vals t)
abbrev rSortX (w:World):List V→Hp→VK→Prop:=fun vs H Q=> ∃(a:Addr) (S:Str→Bool) (n:Nat),vs= [.ref a]∧H a=some (.ext fun h=>nO w h a S n)∧
 ∀p ys,H p=none→aAV ys→(∀k,k∈ys↔S k=true)→ys.length=n→Q (.ref p) (upd H p (.lst (ys.map V.str)))
theorem rH (hc:X.calm=true) (hu:X.A.units+100 < cLine):CallR X (.builtin "sorted") (rSortX X.w):=fun pins s σ H vs us Q I r ⟨a,S,n,ev,ha,q⟩=>by
 subst ev
 obtain ⟨u,rfl,ru⟩:=vals1 r
 obtain rfl:u=Value.ref a:=ru
 obtain ⟨ob,es,ep,tb,hob,hex,hd,g,nd,hm,hb,hf,hn,hr,hl⟩:nO X.w s.heap a S n:=(I.hok a _ ha).1
 refine PySem.Calls.call_function_entry PyProof.Rows.kind_sorted PyProof.Rows.plain_sorted PyProof.Rows.entry_sorted (PyProof.Rows.args_sorted1 _) ?_
 unfold Builtin.«sorted»
 refine wpAny_bind (m:=checkCount "sorted" 1 1 _) (wpAny_pure ?_)
 refine wpAny_bind (L2.collect_set (A:=X.A.in1) (I.ok.hd hc) ⟨ob,hob,hex.1,hd⟩ hf hb hr hl fun s1 vs k1 hz g1 o1 pm=> ?_)
 obtain ⟨bs,hbs⟩:=txs_of X.w vs fun v hv=>by
  obtain ⟨e,he,qq⟩:=List.mem_map.mp (pm.mem_iff.mp hv)
  obtain ⟨k,tk,e1,_⟩:=g e he
  exact ⟨k,tk,by rw [←qq];exact e1⟩
 have pk:bs.Perm (es.toList.map txOf):=by
  rw [paired_tx hbs]
  have e:=pm.map fun v=>txOf (0,v)
  rw [List.map_map] at e
  exact e
 have hvl:bs.length=n:=by rw [pk.length_eq,List.length_map,Array.length_toList];exact hn
 have hvl2:vs.length=n:=by rw [Paired.length hbs];exact hvl
 have hlz:n≤sizeLine:=by rw [←hn];exact fits_of_scanBound hb
 refine wpAny_bind (wpAny_newList ?_ (by rw [hvl2];exact hlz))
 have hoL:(s1.heap.push (seqObj "list" vs.toArray 0)).get? s1.heap.objs.size=some (seqObj "list" vs.toArray 0):=Heap.get?_push_size _ rfl
 have er:PySem.W.EachIs (fun v (x:Str)=> ∃as,Reads (s1.heap.push (seqObj "list" vs.toArray 0)) v (PyData.str x) as∧s1.heap.objs.size∉as) vs bs:=by
  refine bT (Paired.mono hbs fun v x zz=> ?_)
  obtain ⟨tk,rfl⟩:=zz
  exact ⟨[],.str x tk,by simp⟩
 have hal:PySem.W.AllAlike (bs.map PyData.str):=fun d hd d' hd'=>by
  obtain ⟨x,_,rfl⟩:=List.mem_map.mp hd
  obtain ⟨y,_,rfl⟩:=List.mem_map.mp hd'
  rfl
 have hso:PySem.W.Sortable (bs.map PyData.str):= .inr fun d hd=>by
  obtain ⟨x,_,rfl⟩:=List.mem_map.mp hd
  exact ⟨fun z=>(nomatch z),fun _ z=>(nomatch z)⟩
 have hdeep:∀b∈bs,X.A.in1.units+1+(PyData.str b).depth < cLine:=fun b hb=>by
  have hdep:(PyData.str b).depth≤1:=by first | exact Nat.le_refl _ | exact Nat.zero_le _ | simp [PyData.depth]
  show X.A.units+1+1+_ < _
  omega
 show wpAny _ _ _ _ _ {s1 with heap:=s1.heap.push (seqObj "list" vs.toArray 0)}
 refine wpAny_bind (wpAny_holding (PySem.W.list_sort_data (s:={s1 with heap:=s1.heap.push (seqObj "list" vs.toArray 0)}) (R:=fun v x=> ∃tk,v=Value.str x tk) (enc:=PyData.str) (bs:=bs) (n:=0) hoL (bT hbs) er hal hso (by rw [hvl];exact hlz)
  hdeep fun out hlo hout=> ?_))
 obtain ⟨e',he'⟩:=PyProof.Rows.sortedHeap_at (vs:=vs) (out:=List.toArray out) hoL
 have hp:=fU hout
 have pms:=List.mergeSort_perm bs (PySem.W.dataLe false PyData.str)
 have rise:aAV (bs.mergeSort (PySem.W.dataLe false PyData.str)):=by
  refine rise_of ?_ ((pms.trans pk).nodup_iff.mpr nd)
  have e:PySem.W.dataLe false PyData.str=fun a b:Str=>decide (a.cps.toList≤b.cps.toList):=PySem.W.dataLe_str id
  rw [e]
  refine List.pairwise_mergeSort ?_ ?_ bs
  ·intro a b c h1 h2
   exact decide_eq_true (List.le_trans (of_decide_eq_true h1) (of_decide_eq_true h2))
  ·intro a b
   rcases List.le_total a.cps.toList b.cps.toList with z | z <;> simp [z]
 have hlen:(bs.mergeSort (PySem.W.dataLe false PyData.str)).length=n:=by rw [List.length_mergeSort];exact hvl
 have hnew:H s1.heap.objs.size=none:=I.hok.fresh hz
 have key:∀h',(∀b u,s1.heap.get? b=some u→h'.get? b=some u)→h'.get? s1.heap.objs.size=some (seqObj "list" (List.toArray out) e')→
   EP X pins σ Q (.ref s1.heap.objs.size) {s1 with heap:=h'}:=fun h' kk hg=>by
  have J:Inv X pins σ (upd H s1.heap.objs.size (.lst ((bs.mergeSort (PySem.W.dataLe false PyData.str)).map V.str))) {s with heap:=h',gens:=s1.gens,drawn:=s1.drawn,toks:=s1.toks}:=
   I.call (ch:= []) (Un.laid (fun b u e=>kk b u (k1 b u e)) hz hnew) (I.hok.laid (fun b u e=>kk b u (k1 b u e)) hz ⟨by rw [List.length_map,hlen];exact hlz,out,e',paired_vals hp,by simpa using hg⟩) (by rw [g1];exact I.bare) (fun _ z=>nomatch z)
  have e:({s1 with heap:=h'}:Shared)={s with heap:=h',gens:=s1.gens,drawn:=s1.drawn,toks:=s1.toks}:=by
   cases s1
   cases s
   cases o1
   rfl
  rw [e]
  exact ⟨.ref s1.heap.objs.size,_,J,rfl,q _ _ hnew rise (fun k=>by rw [(pms.trans pk).mem_iff];exact (hm k).symm) hlen⟩
 refine wpAny_pure ⟨_,rfl,key _ (fun b u eb=> ?_) he'⟩
 have hb':b < s1.heap.objs.size:=Heap.lt_size eb
 rw [PyProof.Rows.sortedHeap_old (Nat.ne_of_lt hb') (by rw [size_push'];exact Nat.lt_succ_of_lt hb')]
 exact Heap.get?_push_of_some _ eb
end
section
variable {C:Ctx} {Γ:Gm} {L:Lp} {Q:D→Lp→Prop}
theorem c_setX {p:Addr} {xs:List Str} (hp:L p=some (.lst (xs.map D.str))) (hb:xs.length+1 < scanBound) (q:∀l n,L l=none→n≤xs.length→Q (.ptr l) (put L l (.txs (fun k=>decide (k∈xs)) n))):LcR C (rSetX C.X.K C.X.w) [.ptr p] L Q:=fun F vs H c r0 QV go=>by
 obtain ⟨v,rfl,r⟩:=r0.oneE
 obtain ⟨ws,ha,ra,hz⟩:=c.at_ p _ hp
 have e:=cW ra
 subst e
 refine ⟨p,xs,by rw [r.ptrE],SqL.of ha,hb,fun l n hl hn=>go _ _ _ (put L l (.txs (fun k=>decide (k∈xs)) n)) (.ptr l) (c.newL hl ⟨upd_same,fun k hk=> ?_⟩) (.newL hl) (q l n (c.free hl) hn)⟩
 obtain ⟨i,hi⟩:=List.getElem?_of_mem (of_decide_eq_true hk)
 obtain ⟨v,_,rv⟩:=ra.get (show (xs.map D.str)[i]? =some (.str k) by rw [List.getElem?_map,hi];rfl)
 exact rv.bnd
theorem reps_ofS {K:PySem.W.Frag} {F:Fz} {H:Hp}:∀{xs:List Str},(∀x∈xs,SOk x)→aZ K F H (xs.map V.str) (xs.map D.str)
 | [],_=> .nil
 | x::xs,h=> .cons (.str x (h x List.mem_cons_self)) (reps_ofS fun y hy=>h y (List.mem_cons_of_mem _ hy))
theorem vZ {p:Addr} {S:Str→Bool} {n:Nat} (hp:L p=some (.txs S n)) (hn:n≤sizeLine) (q:∀l ys,L l=none→aAV ys→(∀k,k∈ys↔S k=true)→ys.length=n→Q (.ptr l) (put L l (.lst (ys.map D.str)))):LcR C (rSortX C.X.w) [.ptr p] L Q:=fun F vs H c r0 QV go=>by
 obtain ⟨v,rfl,r⟩:=r0.oneE
 obtain ⟨ha,hs⟩:=c.at_ p _ hp
 refine ⟨p,S,n,by rw [r.ptrE],ha,fun l ys hl h1 h2 h3=>go _ _ _ (put L l (.lst (ys.map D.str))) (.ptr l) (c.newL hl ⟨_,upd_same,reps_ofS fun x hx=>hs x ((h2 x).1 hx),by rw [List.length_map,h3];exact hn⟩) (.newL hl) (q l ys (c.free hl) h1 h2 h3)⟩
end
end DL
namespace DL
open PySem PySem.Spec PyProof.Rows L2

def putF (i:Nat) (d:D) (fs:List (Option D)):List (Option D):=(fs++List.replicate (i+1 - fs.length) none).set i (some d)
theorem putF_get (i:Nat) (d:D) (fs:List (Option D)):(putF i d fs)[i]? =some (some d):=by
 unfold putF
 exact List.getElem?_set_self (by simp only [List.length_append,List.length_replicate];omega)
theorem putF_ne {i j:Nat} {d x:D} {fs:List (Option D)} (h:j≠i):(putF i d fs)[j]? =some (some x)↔fs[j]? =some (some x):=by
 unfold putF
 rw [List.getElem?_set_ne (Ne.symm h)]
 by_cases hj:j < fs.length
 ·rw [List.getElem?_append_left hj]
 ·rw [List.getElem?_eq_none_iff.mpr (by omega:fs.length≤j),List.getElem?_append_right (by omega),List.getElem?_replicate]
  constructor
  ·intro q
   split at q <;> cases q
  ·intro q
   cases q
theorem yS.put {K:PySem.W.Frag} {F:Fz} {H:Hp} {vs:List (Option V)} {fs:List (Option D)} (r:yS K F H vs fs) (i:Nat) {v:V} {d:D} (rv:Rep K F H v d):yS K F H (SlX.putS i v vs) (putF i d fs):=by
 intro j x hx
 by_cases hj:j=i
 ·subst hj
  rw [putF_get] at hx
  cases hx
  exact ⟨v,SlX.putS_get j v vs,rv⟩
 ·obtain ⟨u,e,r'⟩:=r j x ((putF_ne hj).mp hx)
  exact ⟨u,(SlX.putS_ne hj).mpr e,r'⟩
section
variable {X:Cx} {o value:Expr} {f:Str} {pos pos':Pos} {ta tv:TE}
def sSl2 (K:PySem.W.Frag) (ta tv:TE) (f:Str):TS:=fun D σ H=>tv σ H fun y H1=>ta σ H1 fun x H2=> ∃a C dx p vs i,x= .ref a∧SlX.Slt H2 a C dx vs∧SlX.SCls K C∧SlX.Slot1 K C f p i∧(dx≠a→(H2 dx=some (.own a)∨H2 dx=some (.xd []))→D.nx σ (SlX.slH H2 a C dx (SlX.putS i y vs)))
theorem ps_sl2 (ha:PE X o ta) (hv:PE X value tv) (hs:swapsWith value (some (.Attribute o f pos')) pos.line X.env=pure false:=by rfl):PS X (.Assign [.Attribute o f pos'] value pos) (sSl2 X.K ta tv f):=by
 refine ⟨fun pins s σ H D I h=> ?_⟩
 refine plainObj_wpAny_Assign_Attribute (thn (hv.run pins s σ H _ I h) fun u s1 ⟨y,H1,I1,ry,q⟩=>thn (ha.run pins s1 σ H1 _ I1 q) fun ov s2 ⟨x,H2,I2,rx,a,C,dx,p,vs,i,ex,sl,c,t,q2⟩=> ?_) hs
 subst ex
 obtain rfl:ov=Value.ref a:=rx
 have kn:H2 dx=some (.own a)∨H2 dx=some (.xd []):=by
  rcases sl with ⟨h1,_⟩ | ⟨_,h2⟩
  ·obtain ⟨_,_,_,_,_,ho⟩:=ins_get I2.hok h1
   exact .inl ho
  ·exact .inr h2
 exact SlX.setslot_ok I2 sl c t ry fun s3 I3=>⟨σ,_,I3,q2 (SlX.slt_at I2 sl).1 kn⟩
end
section
variable {C:Ctx} {Γ:Gm} {L:Lp} {e o fe value:Expr} {es:List Expr} {pos p pos' apos np:Pos} {Q:D→Lp→Prop} {E:AEnds} {x f m:Str} {k:Nat} {sp:SpA} {Cl g:Addr}
def mU (L:Lp) (x:D) (Cl:Addr):Prop:=(∃a fs,x= .ptr a∧L a=some (.ins Cl fs))∨∃fs,x= .obj Cl fs
def xO (L:Lp) (x:D) (Cl:Addr) (i:Nat) (d:D):Prop:=(∃a fs,x= .ptr a∧L a=some (.ins Cl fs)∧fs[i]? =some (some d))∨∃fs,x= .obj Cl fs∧fs[i]? =some d
theorem xO.st {a:Addr} {fs:List (Option D)} {i:Nat} {d:D} (h:L a=some (.ins Cl fs)) (e:fs[i]? =some (some d)):xO L (.ptr a) Cl i d:= .inl ⟨a,fs,rfl,h,e⟩
theorem xO.fz {fs:List D} {i:Nat} {d:D} (e:fs[i]? =some d):xO L (.obj Cl fs) Cl i d:= .inr ⟨fs,rfl,e⟩
theorem mU.st {a:Addr} {fs:List (Option D)} (h:L a=some (.ins Cl fs)):mU L (.ptr a) Cl:= .inl ⟨a,fs,rfl,h⟩
theorem mU.fz {fs:List D}:mU L (.obj Cl fs) Cl:= .inr ⟨fs,rfl⟩
theorem xO.ins {x d:D} {i:Nat} (h:xO L x Cl i d):mU L x Cl:=by
 rcases h with ⟨a,fs,e,h,_⟩ | ⟨fs,e,_⟩
 ·exact .inl ⟨a,fs,e,h⟩
 ·exact .inr ⟨fs,e⟩
theorem mU.slt {F:Fz} {H:Hp} {v:V} {x:D} (h:mU L x Cl) (c:C.Con L F H) (r:Rep C.X.K F H v x):∃a dx vs,v= .ref a∧SlX.Slt H a Cl dx vs:=by
 rcases h with ⟨a,fs,rfl,ha⟩ | ⟨fs,rfl⟩
 ·obtain ⟨dx,vs,st,_⟩:=c.at_ a _ ha
  exact ⟨a,dx,vs,r.ptrE,st⟩
 ·cases r with
  | obj hl h hx hu hn hi=>exact ⟨_,_,_,rfl,.inr ⟨h,hx⟩⟩
theorem xO.slt {F:Fz} {H:Hp} {v:V} {x d:D} {i:Nat} (h:xO L x Cl i d) (c:C.Con L F H) (r:Rep C.X.K F H v x):∃a dx vs u,v= .ref a∧SlX.Slt H a Cl dx vs∧vs[i]? =some (some u)∧Rep C.X.K F H u d:=by
 rcases h with ⟨a,fs,rfl,ha,hd⟩ | ⟨fs,rfl,hd⟩
 ·obtain ⟨dx,vs,st,sr⟩:=c.at_ a _ ha
  obtain ⟨u,e1,e2⟩:=sr i d hd
  exact ⟨a,dx,vs,u,r.ptrE,st,e1,e2⟩
 ·cases r with
  | @obj a _ dx us vs _ hl h hx hu hn hi=>
   have hlt:i < vs.length:=by rw [hn];exact (List.getElem?_eq_some_iff.mp hd).1
   exact ⟨_,_,_,vs[i],rfl,.inr ⟨h,hx⟩,hu i _ (List.getElem?_eq_getElem hlt),hi i _ d (List.getElem?_eq_getElem hlt) hd⟩
theorem xK (h:AE C e Γ L fun x L1=> ∃Cl p i d,xO L1 x Cl i d∧SlX.SCls C.X.K Cl∧SlX.Slot1 C.X.K Cl f p i∧Q d L1) (hb:attributeBase e f C.X.env (eval e C.X.env)=eval e C.X.env:=by rfl):AE C (.Attribute e f pos) Γ L Q:=fun F σ H ok QV go=>
 dD (SlX.pe_sl bA hb) (h _ σ H ok _ fun v x H1 L1 r c fr ⟨Cl,p,i,d,hf,sc,sl,q⟩=>by
  obtain ⟨a,dx,vs,u,e,st,e1,e2⟩:=hf.slt c r
  exact ⟨a,Cl,dx,p,vs,i,u,e,st,sc,sl,e1,go u d H1 L1 e2 c fr q⟩)
theorem Stay.slH {H:Hp} {a Cl dx:Addr} {vs:List (Option V)} {fs:List (Option V)} (st:SlX.Slt H a Cl dx fs) (kn:H dx=some (.own a)∨H dx=some (.xd [])):Stay H (SlX.slH H a Cl dx vs):=by
 have key:∀b u,H b=some u→(∀xs,u≠ .ins Cl dx xs)→(∀ws,u≠SlX.SlO a Cl dx ws)→b≠a:=fun b u e n1 n2 z=>by
  rw [z] at e
  rcases st with ⟨h1,_⟩ | ⟨h1,_⟩ <;> rw [h1] at e
  ·exact n1 _ (Option.some.inj e).symm
  ·exact n2 _ (Option.some.inj e).symm
 refine ⟨fun b ws e=> ?_,fun b ob u e=> ?_,fun b e=> ?_⟩
 ·have h1:=key b _ e (fun _ z=>nomatch z) (fun _ z=>by unfold SlX.SlO at z;cases z)
  have h2:b≠dx:=fun z=>by rw [z] at e;rcases kn with q | q <;> rw [q] at e <;> cases e
  rw [SlX.slH_ne h1 h2];exact e
 ·have h1:=key b _ e (fun _ z=>nomatch z) (fun _ z=>by unfold SlX.SlO at z;cases z)
  have h2:b≠dx:=fun z=>by rw [z] at e;rcases kn with q | q <;> rw [q] at e <;> cases e
  rw [SlX.slH_ne h1 h2];exact e
 ·have h1:=key b _ e (fun _ z=>nomatch z) (fun _ z=>by unfold SlX.SlO at z;cases z)
  by_cases h2:b=dx
  ·unfold SlX.slH
   rw [upd_ne h1,h2,upd_same]
  ·rw [SlX.slH_ne h1 h2];exact e
theorem aBw (h:AE C value Γ L fun y L1=>AE C o Γ L1 fun x L2=> ∃a Cl fs p i,x= .ptr a∧L2 a=some (.ins Cl fs)∧SlX.SCls C.X.K Cl∧SlX.Slot1 C.X.K Cl f p i∧E.nx Γ (put L2 a (.ins Cl (putF i y fs)))) (hs:swapsWith value (some (.Attribute o f pos')) pos.line C.X.env=pure false:=by rfl):AS C (.Assign [.Attribute o f pos'] value pos) Γ L E:=fun F σ H ok DD go=>
 jP (ps_sl2 bA bA hs) (h _ σ H ok _ fun vy y H1 L1 ry c1 f1 q1=>q1 _ σ H1 (ok.step c1 f1) _ fun {F2} vx x H2 L2 rx c2 f2 ⟨a,Cl,fs,p,i,ex,ha,sc,sl,q⟩=>by
  subst ex
  obtain ⟨dx,vs,st,sr⟩:=c2.at_ a _ ha
  refine ⟨a,Cl,dx,p,vs,i,rx.ptrE,st,sc,sl,fun ne kn=> ?_⟩
  have stay:Stay H2 (SlX.slH H2 a Cl dx (SlX.putS i vy vs)):=Stay.slH st kn
  have dxL:∀b mo,L2 b=some mo→b≠dx:=fun b mo hb z=>by
   have hcc:=c2.at_ b mo hb
   subst z
   cases mo with
   | lst ds=>obtain ⟨ws,h1,_⟩:=hcc;rcases kn with q | q <;> rw [q] at h1 <;> cases h1
   | dct ds=>obtain ⟨ws,h1,_⟩:=hcc;rcases kn with q | q <;> rw [q] at h1 <;> cases h1
   | ins C' fs'=>
    obtain ⟨dx',vs',h1,_⟩:=hcc
    rcases h1 with ⟨h1,_⟩ | ⟨h1,_⟩ <;> rcases kn with q | q <;> rw [q] at h1 <;> first | cases h1 | (unfold SlX.SlO at h1;cases h1)
   | set S n=>rcases kn with q | q <;> rw [show H2 b=_ from hcc] at q <;> cases q
   | txs S n=>rcases kn with q | q <;> rw [hcc.1] at q <;> cases q
   | kd kds=>obtain ⟨kvs,e,_⟩:=hcc;rcases kn with q | q <;> rw [e] at q <;> cases q
   | nd kds=>obtain ⟨xs,e,_⟩:=hcc;rcases kn with q | q <;> rw [e] at q <;> (unfold ndO at q;cases q)
   | iin Ci fi=>obtain ⟨dx',vfs,e,_⟩:=hcc;rcases kn with q | q <;> rw [e] at q <;> cases q
   | tab n=>obtain ⟨ps,e,_⟩:=hcc;rcases kn with q | q <;> rw [e] at q <;> cases q
   | exc Ci fi=>obtain ⟨dx',vfs,e,_⟩:=hcc;rcases kn with q | q <;> rw [e] at q <;> (unfold ErO at q;cases q)
  have nfa:=c2.nw ha
  have mv:Mv F2 H2 F2 (SlX.slH H2 a Cl dx (SlX.putS i vy vs)):=⟨stay,fun _ z=>z,fun b u z e=>by
   have h1:b≠a:=fun q=>nfa (q ▸z)
   have h2:b≠dx:=fun q=>by
    obtain ⟨_,o',e',n1,n2⟩:=c2.fz b z
    rw [q] at e'
    rcases kn with k | k
    ·rw [k] at e';exact n1 a (Option.some.inj e').symm
    ·rw [k] at e';exact n2 (Option.some.inj e').symm
   rw [SlX.slH_ne h1 h2];exact e⟩
  have fr:Fr L2 F2 H2 (put L2 a (.ins Cl (putF i y fs))) F2 (SlX.slH H2 a Cl dx (SlX.putS i vy vs)):=by
   refine ⟨fun b u e no n=> ?_,fun b e=>cA (cA e),stay,fun b z=> ?_,mv.fz,mv.fk,fun b z=> .inl z⟩
   ·have h1:b≠a:=fun z=>by rw [z,ha] at n;cases n
    by_cases h2:b=dx
    ·subst h2
     rcases kn with q | q
     ·rw [q] at e;exact absurd (Option.some.inj e).symm (no a)
     ·rw [q] at e
      cases e
      exact stay.xd _ q
    ·rw [SlX.slH_ne h1 h2];exact e
   ·by_cases e:b=a
    ·exact .inl (by rw [e,ha];simp)
    ·rw [aK e] at z
     exact .inl z
  refine go.nx _ _ Γ (put L2 a (.ins Cl (putF i y fs))) (ok.step ⟨fun b mo hb=> ?_,fun b z=> ?_⟩ ((f1.trans f2).trans fr)) ((f1.trans f2).trans fr) q
  ·by_cases e:b=a
   ·subst e
    rw [aF] at hb
    cases hb
    exact ⟨dx,SlX.putS i vy vs,SlX.slH_slt ne,(sr.put i (ry.mono f2.mv)).mono mv⟩
   ·rw [aK e] at hb
    exact (c2.at_ b mo hb).mono mv (SlX.slH_ne e (dxL b mo hb))
  ·obtain ⟨n,u,e,k1,k2⟩:=c2.fz b z
   have h1:b≠a:=fun q=>nfa (q ▸z)
   exact ⟨by rw [aK h1];exact n,u,mv.fk b u z e,k1,k2⟩)
theorem run_makeA {pins:List (Addr×Obj)} {σ:L2.St} {Z:Fz} {H:Hp} {s:Shared} {us:List Value} {vs:List V} {ds:List D} {QV:VK} (M:Mk C.X.K Cl g) (F:FnA C.X.prog C.X.w C.X.K C.X.mg C.X.base k g sp) (hr:Room (k+1) C.X.A) (I:Inv C.X pins σ H s) (ok:Ok C Γ L Z σ H) (r:Vals vs us) (rd:aZ C.X.K Z H vs ds)
  (h:∀x,L x=none→sp (.ptr x::ds) (put L x (.ins Cl [])) (fun v L2=>v= .non∧Q (.ptr x) L2) (C.R Γ)) (go:Go C L Z H Q QV):wpAny (model C.X.prog C.X.w) C.X.A (call (.ref Cl) us) (EP C.X pins σ QV) C.X.xe s:=by
 have n1:H (s.heap.objs.size+1)=none:=I.hok.fresh (Nat.le_succ _)
 have n0:H s.heap.objs.size=none:=I.hok.fresh (Nat.le_refl _)
 have hne:s.heap.objs.size+1≠s.heap.objs.size:=Nat.ne_of_gt (Nat.lt_succ_self _)
 have n1':(upd H s.heap.objs.size (.own (s.heap.objs.size+1))) (s.heap.objs.size+1)=none:=by rw [upd_ne hne];exact n1
 have I2:=Inv.made (C:=Cl) I
 have c2:C.Con (put L (s.heap.objs.size+1) (.ins Cl [])) Z (upd (upd H s.heap.objs.size (.own (s.heap.objs.size+1))) (s.heap.objs.size+1) (.ins Cl s.heap.objs.size [])):=
  (ok.con.new n0).newL n1' ⟨s.heap.objs.size,[],.inl ⟨upd_same,rfl⟩,fun i d e=>by simp at e⟩
 have f2:Fr L Z H (put L (s.heap.objs.size+1) (.ins Cl [])) Z (upd (upd H s.heap.objs.size (.own (s.heap.objs.size+1))) (s.heap.objs.size+1) (.ins Cl s.heap.objs.size [])):=(Fr.new n0).trans (Fr.newL n1')
 have r2:Vals (V.ref (s.heap.objs.size+1)::vs) (Value.ref (s.heap.objs.size+1)::us):= .cons rfl r
 refine wpAny_call (make_map (f:=g) I.kIn M.makes M.init (beq_iff_eq.mp M.fn) (codeAny_mono (F _ C.X.stack _ _ (Value.ref (s.heap.objs.size+1)::us) _ (fun v H2=>v= .non∧QV (.ref (s.heap.objs.size+1)) H2) (L2.WE C.W σ) (hr.make Cl us []) (I2.env0.make Cl us []) r2 ?_) fun r s' hq'=> ?_))
 ·refine ⟨.ptr (s.heap.objs.size+1)::ds,_,Z,_,C.R Γ,.cons (.ptr _) (rd.mono f2.mv),c2,h _ (ok.con.free n1),fun d L' ⟨ed,q⟩ v H' rv c fr=> ?_,fun cls fs L' q d H' xd c fr=>ok.lr.of cls d σ H' Γ L' fs (ok.sl.mono (f2.trans fr).mv) c (f2.trans fr) xd q⟩
  subst ed
  exact ⟨rv.nonE,go _ _ H' L' (.ptr _) c (f2.trans fr) q⟩
 ·cases r with
  | error e=>exact passAt C.tk σ pins _ _ e s' I2 hq'
  | ok fl=>
   cases fl with
   | ret u=>
    obtain ⟨v,H',I3,rv,ev,q3⟩:=I2.after hq'
    subst ev
    exact ⟨rv,⟨V.ref (s.heap.objs.size+1),H',I3,rfl,q3⟩⟩
   | next=>exact False.elim hq'
   | brk=>exact False.elim hq'
   | cont=>exact False.elim hq'
theorem ae_make (M:Mk C.X.K Cl g) (F:FnA C.X.prog C.X.w C.X.K C.X.mg C.X.base k g sp) (hm:C.X.mg x=some (.ref Cl)) (hr:Room (k+1) C.X.A) (h:AA C (e::es) Γ L fun ds L1=> ∀x,L1 x=none→sp (.ptr x::ds) (put L1 x (.ins Cl [])) (fun v L2=>v= .non∧Q (.ptr x) L2) (C.R Γ)) (hg:Gl C.X x:=by rfl) (hdb:(x==("__debug__" :Str))=false:=by decide)
  (he:starEach (e::es) C.X.env=(false,eval e C.X.env)::starEach es C.X.env:=by rfl) (hpl:(backTo pos (starEach es C.X.env)).any (·.1)=false:=by rfl):AE C (.Call (.Name x p) (e::es) [] pos) Γ L Q:=fun Z σ H ok QV go=>by
 refine ⟨fun pins s I=> ?_⟩
 refine wpAny_Call_Name_kw (ld_glob I hg hm ?_ hdb)
 refine PySem.W.callWith_K (h₀:=C.X.base) I.ok.mod.kin M.kp (thn ((h _ σ H ok (fun vs H1=> ∃ds L1 Z1,aZ C.X.K Z1 H1 vs ds∧C.Con L1 Z1 H1∧Fr L Z H L1 Z1 H1∧∀x,L1 x=none→sp (.ptr x::ds) (put L1 x (.ins Cl [])) (fun v L2=>v= .non∧Q (.ptr x) L2) (C.R Γ)) (fun vs ds H1 L1 r c f q=>⟨ds,L1,_,r,c,f,q⟩)).run pos pins s I) fun us s1 ⟨vs,H1,I1,r,ds,L1,Z1,rd,c1,f1,q⟩=>⟨I1.kIn,?_⟩) he hpl
 exact run_makeA M F hr I1 (ok.step c1 f1) r rd q (go.after f1)
theorem ae_callO (c:StX.CallO C.X.K Cl g) (F:FnA C.X.prog C.X.w C.X.K C.X.mg C.X.base k g sp) (hr:Room k C.X.A) (h:AE C fe Γ L fun y L1=>(∃a,y= .ptr a∨∃fs,y= .obj a fs)∧AA C (e::es) Γ L1 fun ds L2=>mU L2 y Cl∧sp (y::ds) L2 Q (C.R Γ))
  (ht:eval (.Call fe (e::es) [] pos) C.X.env=(do callWith pos (←eval fe C.X.env) [] (backTo pos (starEach (e::es) C.X.env)) (backToKw pos (keywordEach [] C.X.env))):=by rfl)
  (he:starEach (e::es) C.X.env=(false,eval e C.X.env)::starEach es C.X.env:=by rfl) (hpl:(backTo pos (starEach es C.X.env)).any (·.1)=false:=by rfl):AE C (.Call fe (e::es) [] pos) Γ L Q:=fun Z σ H ok QV go=>by
 refine ⟨fun pins s I=> ?_⟩
 refine Call_ (thn ((h _ σ H ok (fun v H1=> ∃y a L1 Z1,v= .ref a∧Rep C.X.K Z1 H1 v y∧C.Con L1 Z1 H1∧Fr L Z H L1 Z1 H1∧AA C (e::es) Γ L1 fun ds L2=>mU L2 y Cl∧sp (y::ds) L2 Q (C.R Γ)) (fun v y H1 L1 r cc f ⟨ey,q⟩=>by
  obtain ⟨a,rfl⟩:∃a,v= .ref a:=by
   rcases ey with ⟨a,rfl | ⟨fs,rfl⟩⟩
   ·exact ⟨a,r.ptrE⟩
   ·cases r;exact ⟨_,rfl⟩
  exact ⟨y,a,L1,_,rfl,r,cc,f,q⟩)).run pins s I) fun u s1 ⟨v,H1,I1,ry,y,a,L1,Z1,ev,rep,c1,f1,q⟩=> ?_) ht
 subst ev
 obtain rfl:u=Value.ref a:=ry
 refine StX.callO_with (thn ((q _ σ H1 (ok.step c1 f1) (fun vs H2=> ∃ds L2 Z2,aZ C.X.K Z2 H2 vs ds∧C.Con L2 Z2 H2∧Fr L1 Z1 H1 L2 Z2 H2∧mU L2 y Cl∧sp (y::ds) L2 Q (C.R Γ)) (fun vs ds H2 L2 r cc f q=>⟨ds,L2,_,r,cc,f,q⟩)).run pos pins s1 I1) fun us s2 ⟨vs,H2,I2,r,ds,L2,Z2,rd,c2,f2,hi,q2⟩=> ?_) he hpl
 obtain ⟨a',dx,ws,ea,st⟩:=hi.slt c2 (rep.mono f2.mv)
 cases ea
 obtain ⟨ox,od,J,hd⟩:=StX.insC_at I2 (.inl ⟨dx,ws,st⟩)
 exact ⟨⟨Cl,ox,od,J,hd⟩,wpAny_call (PySem.W.kco_code I2.kIn J hd c.at_ c.fn c.fi (uY (us:= .ref a::us) (vs:= .ref a::vs) F hr I2 (ok.step c2 (f1.trans f2)) (.cons rfl r) (.cons (rep.mono f2.mv) rd) q2 (go.after (f1.trans f2))))⟩
theorem lU {pl:Sem Bool} (c:SlX.SCls C.X.K Cl) (hm:Meth C.X.K Cl m g) (F:FnA C.X.prog C.X.w C.X.K C.X.mg C.X.base k g sp) (hr:Room k C.X.A) (h:AE C o Γ L fun y L1=>mU L1 y Cl∧sp [y] L1 Q (C.R Γ))
  (ht:eval (.Call (.Attribute o m apos) [] [] pos) C.X.env=(do
   let ov ←eval o C.X.env
   standAt apos.atName
   let (f,first) ←holding [ov] (getMethod ov m pl)
   callWith pos f first (backTo pos (starEach [] C.X.env)) (backToKw pos (keywordEach [] C.X.env))):=by rfl):AE C (.Call (.Attribute o m apos) [] [] pos) Γ L Q:=fun Z σ H ok QV go=>by
 refine ⟨fun pins s I=> ?_⟩
 refine PySem.W.methodCall_KW (pl:=pl) (thn ((h _ σ H ok (fun v H1=> ∃y L1 Z1,Rep C.X.K Z1 H1 v y∧C.Con L1 Z1 H1∧Fr L Z H L1 Z1 H1∧mU L1 y Cl∧sp [y] L1 Q (C.R Γ)) (fun v y H1 L1 r cc f ⟨hi,q⟩=>⟨y,L1,_,r,cc,f,hi,q⟩)).run pins s I) fun u s1 ⟨v,H1,I1,ry,y,L1,Z1,rep,c1,f1,hi,q⟩=> ?_) ht
 obtain ⟨a,dx,ws,ea,st⟩:=hi.slt c1 rep
 subst ea
 obtain rfl:u=Value.ref a:=ry
 refine SlX.getmethsl_ok I1 st c hm ?_
 exact PySem.W.callWith_K0 (first:= [.ref a]) I1.kIn hm.kp (wpAny_call (uY (us:= [.ref a]) (vs:= [.ref a]) F hr I1 (ok.step c1 f1) (.cons rfl .nil) (.cons rep .nil) q (go.after f1)))
structure Prop1 (K:PySem.W.Frag) (Cl:Addr) (f:Str) (p g:Addr):Prop where
 at_:PySem.W.findIn K (.ref Cl) f=some (some (.ref p))
 get:PySem.W.specialIn K (.ref p) "__get__"=some (some (.builtin "property.__get__"))
 tk:PySem.W.takesIn K (.ref p)=some true
 rc:∃rest,PySem.W.recIn K p "property"=some (.ref g::rest)
theorem wL {pr:Addr} (c:SlX.SCls C.X.K Cl) (hp:Prop1 C.X.K Cl f pr g) (F:FnA C.X.prog C.X.w C.X.K C.X.mg C.X.base k g sp) (hr:Room (k+1) C.X.A) (h:AE C e Γ L fun y L1=>mU L1 y Cl∧sp [y] L1 Q fun _ _ _=>False)
  (hb:attributeBase e f C.X.env (eval e C.X.env)=eval e C.X.env:=by rfl):AE C (.Attribute e f pos) Γ L Q:=fun Z σ H ok QV go=>
 dD (SlX.pe_propSl (CX:=L2.CX C.X.prog C.X.w) (E:=fun _ _ _=>False) bA c hp.at_ hp.get hp.tk hp.rc F hr (fun _ _ _ _ z=>by obtain ⟨_,_,_,_,_,_,_,_,_,_,_,_,z⟩:=z;exact z) hb) (h _ σ H ok _ fun v y H1 L1 r cc fr ⟨hi,q⟩=>by
  obtain ⟨a,dx,ws,ea,st⟩:=hi.slt cc r
  exact ⟨a,dx,ws,ea,st,[y],L1,_,Q,fun _ _ _=>False,.cons (ea ▸r) .nil,cc,q,fun d L' q v H' rv c f=>go v d H' L' rv c (fr.trans f) q,fun _ _ _ z=>z.elim⟩)
def del (L:Lp) (a:Addr):Lp:=fun b=>if b=a then none else L b
theorem del_same {a:Addr}:del L a a=none:=if_pos rfl
theorem del_ne {a b:Addr} (h:b≠a):del L a b=L b:=if_neg h
theorem jG (a:Addr):Le (del L a) L:=fun b o e=>by
 unfold del at e
 split at e
 ·cases e
 ·exact e
theorem del_put {a:Addr} {o:MO} (h:L a=none):del (put L a o) a=L:=by
 funext b
 unfold del
 by_cases e:b=a
 ·rw [if_pos e,e,h]
 ·rw [if_neg e,aK e]
def Frz (C:Ctx) (L:Lp) (d:D) (L':Lp) (d':D):Prop:= ∀pins σ s F H v,Inv C.X pins σ H s→C.Con L F H→Rep C.X.K F H v d→∃F' H',Inv C.X pins σ H' s∧Rep C.X.K F' H' v d'∧C.Con L' F' H'∧Fr L F H L' F' H'
theorem AE.frz (h:AE C e Γ L fun d L1=> ∃d' L2,Frz C L1 d L2 d'∧Q d' L2):AE C e Γ L Q:=fun F σ H ok QV go=>⟨fun pins s I=>
 thn ((h _ σ H ok (fun v H'=> ∃d L' F',Rep C.X.K F' H' v d∧C.Con L' F' H'∧Fr L F H L' F' H'∧∃d' L2,Frz C L' d L2 d'∧Q d' L2) (fun v d H' L' r c f q=>⟨d,L',_,r,c,f,q⟩)).run pins s I) fun u s1 ⟨v,H1,I1,rv,d,L1,F1,r1,c1,f1,d',L2,z,q⟩=>by
  obtain ⟨F2,H2,I2,r2,c2,f2⟩:=z _ _ _ _ _ v I1 c1 r1
  exact ⟨v,H2,I2,rv,go v d' H2 L2 r2 c2 (f1.trans f2) q⟩⟩
theorem Frz.trans {L1 L2:Lp} {d d1 d2:D} (a:Frz C L d L1 d1) (b:Frz C L1 d1 L2 d2):Frz C L d L2 d2:=fun pins σ s F H v I c r=>by
 obtain ⟨F1,H1,I1,r1,c1,f1⟩:=a pins σ s F H v I c r
 obtain ⟨F2,H2,I2,r2,c2,f2⟩:=b pins σ s F1 H1 v I1 c1 r1
 exact ⟨F2,H2,I2,r2,c2,f1.trans f2⟩
theorem frz_go {F:Fz} {H:Hp} {a:Addr} {mo:MO} {o:HO} (c:C.Con L F H) (ha:L a=some mo) (ho:H a=some o) (h1:∀y,o≠ .own y) (h2:o≠ .xd []):C.Con (del L a) (fun b=>F b∨b=a) H∧Fr L F H (del L a) (fun b=>F b∨b=a) H:=by
 have mv:Mv F H (fun b=>F b∨b=a) H:=⟨.refl H,fun b z=> .inl z,fun b o z e=>e⟩
 refine ⟨⟨fun b u e=>((c.at_ b u (jG a b u e)).mono mv rfl),fun b z=> ?_⟩,⟨fun b u e _ _=>e,fun b z=>z,.refl H,fun b z=> .inl ((jG a).ne z),fun b z=> .inl z,fun b u z e=>e,fun b z=> ?_⟩⟩
 ·rcases z with z | z
  ·exact ⟨(jG a).none (c.fz b z).1,(c.fz b z).2⟩
  ·rw [z]
   exact ⟨del_same,o,ho,h1,h2⟩
 ·rcases z with z | z
  ·exact .inl z
  ·rw [z,ha]
   exact .inr (.inl (by simp))
theorem frz_dct {a:Addr} {kds:List (List Key×D)} (ha:L a=some (.dct kds)):Frz C L (.ptr a) (del L a) (.fdct kds):=fun pins σ s F H v I c r=>by
 obtain ⟨kvs,e,rr,z⟩:=c.at_ a _ ha
 obtain ⟨od,I1⟩:=I.lock e True.intro
 have nfa:=c.nw ha
 have ne:∀b u,H b=some u→(∀k,u≠ .dT k)→b≠a:=fun b u eb nd q=>by rw [q,e] at eb;exact nd _ (Option.some.inj eb).symm
 have st:Stay H (upd H a (.frz od (.dT kvs))):=⟨fun b vs eb=>by rw [upd_ne (ne b _ eb fun _ z=>nomatch z)];exact eb,fun b o xs eb=>by rw [upd_ne (ne b _ eb fun _ z=>nomatch z)];exact eb,fun b eb=>by rw [upd_ne (ne b _ eb fun _ z=>nomatch z)];exact eb⟩
 have mv:Mv F H (fun b=>F b∨b=a) (upd H a (.frz od (.dT kvs))):=⟨st,fun b z=> .inl z,fun b o z eb=>by
  have hb:b≠a:=fun q=>nfa (q ▸z)
  rw [upd_ne hb];exact eb⟩
 have key:∀{kvs:List (List Key×V)} {kds:List (List Key×D)},KDs C.X.K F H kvs kds→∀(i:Nat) (v:List Key×V) (d:List Key×D),kvs[i]? =some v→kds[i]? =some d→v.1=d.1∧Rep C.X.K F H v.2 d.2:=by
  intro kvs kds h
  induction h with
  | nil=>intro i v d h1 _;simp at h1
  | cons h1 h2 ih=>
   intro i v d e1 e2
   cases i with
   | zero=>simp at e1 e2;subst e1 e2;exact h1
   | succ i=>exact ih i v d (by simpa using e1) (by simpa using e2)
 refine ⟨_,_,I1,?_,⟨fun b u eb=> ?_,fun b zz=> ?_⟩,⟨fun b u eb _ nb=> ?_,fun b zz=>cA zz,st,fun b zz=> .inl ((jG a).ne zz),mv.fz,mv.fk,fun b zz=> ?_⟩⟩
 ·rw [r.ptrE]
  exact .fdct (.inr rfl) upd_same z (Paired.length rr) (fun i v d h1 h2=>(key rr i v d h1 h2).1) fun i v d h1 h2=>(key rr i v d h1 h2).2.mono mv
 ·have hb:b≠a:=fun q=>by rw [q,del_same] at eb;cases eb
  exact (c.at_ b u (jG a b u eb)).mono mv (upd_ne hb)
 ·rcases zz with zz | zz
  ·have hb:b≠a:=fun q=>nfa (q ▸zz)
   obtain ⟨n,o,eo,k1,k2⟩:=c.fz b zz
   exact ⟨(jG a).none n,o,by rw [upd_ne hb];exact eo,k1,k2⟩
  ·rw [zz]
   exact ⟨del_same,_,upd_same,(fun _ z=>nomatch z),(fun z=>nomatch z)⟩
 ·have hb:b≠a:=fun q=>by rw [q,ha] at nb;cases nb
  rw [upd_ne hb];exact eb
 ·rcases zz with zz | zz
  ·exact .inl zz
  ·rw [zz,ha]
   exact .inr (.inl (by simp))
theorem frz_ins {a:Addr} {gs:List D} (ha:L a=some (.ins Cl (gs.map some))) (hn:gs≠ []):Frz C L (.ptr a) (del L a) (.obj Cl gs):=fun pins σ s F H v I c r=>by
 obtain ⟨dx,us,st,sr⟩:=c.at_ a _ ha
 have hu:us≠ []:=fun z=>by
  cases gs with
  | nil=>exact hn rfl
  | cons g gs=>
   obtain ⟨u,e,_⟩:=sr 0 g rfl
   rw [z] at e
   simp at e
 rcases st with ⟨_,z⟩ | ⟨e,hx⟩
 ·exact absurd z hu
 obtain ⟨c2,f2⟩:=frz_go c ha e (fun _ z=>by unfold SlX.SlO at z;cases z) (fun z=>by unfold SlX.SlO at z;cases z)
 have key:∀i (h:i < gs.length),∃u,us[i]? =some (some u)∧Rep C.X.K F H u gs[i]:=fun i h=>sr i gs[i] (by rw [List.getElem?_map,List.getElem?_eq_getElem h];rfl)
 have hv:∃vs:List V,vs.length=gs.length∧∀(i:Nat) (v:V),vs[i]? =some v→us[i]? =some (some v)∧∀d,gs[i]? =some d→Rep C.X.K F H v d:=by
  refine ⟨List.ofFn fun i:Fin gs.length=>(key i.1 i.2).choose,by simp,fun i v e=> ?_⟩
  have hi:=(List.getElem?_eq_some_iff.mp e).1
  rw [List.length_ofFn] at hi
  rw [List.getElem?_ofFn,dif_pos hi] at e
  cases e
  refine ⟨(key i hi).choose_spec.1,fun d hd=> ?_⟩
  rw [List.getElem?_eq_getElem hi] at hd
  cases hd
  exact (key i hi).choose_spec.2
 obtain ⟨vs,hl,hvs⟩:=hv
 refine ⟨_,H,I,?_,c2,f2⟩
 rw [r.ptrE]
 exact .obj (.inr rfl) e hx (fun i v h=>(hvs i v h).1) hl fun i v d h1 h2=>((hvs i v h1).2 d h2).mono f2.mv
theorem frz_fld {a t:Addr} {fs:List (Option D)} {i:Nat} {x':D} {L':Lp} (ha:L a=some (.ins Cl fs)) (hi:fs[i]? =some (some (.ptr t))) (z:Frz C L (.ptr t) L' x') (ha':L' a=some (.ins Cl fs)):Frz C L (.ptr a) (put L' a (.ins Cl (fs.set i (some x')))) (.ptr a):=fun pins σ s F H v I c r=>by
 obtain ⟨F',H',I',r',c',f'⟩:=z pins σ s F H (.ref t) I c (.ptr t)
 obtain ⟨dx,us,st,sr⟩:=c'.at_ a _ ha'
 obtain ⟨u,e1,e2⟩:=sr i _ hi
 have eu:=e2.ptrE
 subst eu
 refine ⟨F',H',I',by rw [r.ptrE];exact .ptr a,⟨fun b o hb=> ?_,fun b zz=> ?_⟩,⟨f'.keep,f'.live,f'.stay,fun b zz=> ?_,f'.fz,f'.fk,f'.off⟩⟩
 ·by_cases e:b=a
  ·subst e
   rw [aF] at hb
   cases hb
   refine ⟨dx,us,st,fun j d hj=> ?_⟩
   by_cases ej:j=i
   ·subst ej
    rw [List.getElem?_set_self (List.getElem?_eq_some_iff.mp hi).1] at hj
    cases hj
    exact ⟨_,e1,r'⟩
   ·rw [List.getElem?_set_ne (Ne.symm ej)] at hj
    exact sr j d hj
  ·rw [aK e] at hb
   exact c'.at_ b o hb
 ·have hba:b≠a:=fun q=>c'.nw ha' (q ▸zz)
  rw [aK hba]
  exact c'.fz b zz
 ·by_cases e:b=a
  ·exact .inl (by rw [e,ha];simp)
  ·rw [aK e] at zz
   exact f'.dom b zz
end
end DL
namespace DL
open PySem PySem.Spec PyProof.Rows L2
def Each (C:Ctx) (scope:Scope) (own:List (Str×Nat)) (tg elt:Expr) (Γ:Gm) (ds:List D) (L1:Lp) (f:D→D):Prop:= ∀(i:Nat) (d:D),ds[i]? =some d→∃Γ3 ws,(∀j∈ws,j∈own.map (·.2))∧∀s H Cc cl fp,AG (cZ C scope s H Cc cl fp) tg d (dB Γ (own.map (·.2))) Γ3 ws∧AV (cZ C scope s H Cc cl fp) elt Γ3 L1 (f d)
section
variable {C:Ctx} {Γ Γ1 Γ2:Gm} {L:Lp} {e a b c o tg elt iter:Expr} {es ts:List Expr} {pos p1 p2 p3:Pos} {E:AEnds} {Q:D→Lp→Prop} {scope:Scope}
theorem yK {own:List (Str×Nat)} {ds:List D} {f:D→D} {Γ3:D→Gm} {ws:List Nat} (hw:∀j∈ws,j∈own.map (·.2)) (h:∀(i:Nat) (d:D),ds[i]? =some d→∀s H Cc cl fp,AG (cZ C scope s H Cc cl fp) tg d (dB Γ (own.map (·.2))) (Γ3 d) ws∧AV (cZ C scope s H Cc cl fp) elt (Γ3 d) L (f d)):Each C scope own tg elt Γ ds L f:=
 fun i d hd=>⟨Γ3 d,ws,hw,h i d hd⟩
theorem wJ (own:List (Str×Nat)) (hm:C.X.mg "tuple"=none) (h:AI C tg iter Γ L fun ds G L1=> ∃f:D→D,G L1∧ds.length≤sizeLine∧Each C scope own tg elt Γ ds L1 f∧Q (.tup (ds.map f)) L1)
  (ok:BlkOk C.X.N C.X.env.scope scope own:=by (dsimp only [uF,cZ,cxOf,envOfC,compEnvC,Cx.blk];exact blkOk_by (by decide+kernel))) (hs:∀x,foldedSetIterable iter C.X.env x=pure x:=by intro _;rfl) (hg:Gl C.X "tuple" :=by rfl)
  (he:starEach [.ListComp elt [⟨tg,iter,[],0⟩] scope p2] C.X.env= [(false,eval (.ListComp elt [⟨tg,iter,[],0⟩] scope p2) C.X.env)]:=by rfl):
  AE C (.Call (.Name "tuple" p1) [.ListComp elt [⟨tg,iter,[],0⟩] scope p2] [] pos) Γ L Q:=by
 refine AE.drop (aR call_tuple_of hm (aC (yP own ?_ ok hs) he) (hg:=hg) (he:=he))
 refine fun F σ H okk RV go=>h _ σ H okk RV fun J H' L' ds G c f it ⟨g,hG,hz,hf,q⟩=>go J H' L' ds G c f it (lc_map g hG hz hf fun p hp=> ?_)
 exact aD (mJ aF ⟨L',aU hp,q⟩)
theorem nM (own:List (Str×Nat)) (hm:C.X.mg "all"=none) (h:AI C tg iter Γ L fun ds G L1=> ∃f:D→Bool,G L1∧ds.length≤sizeLine∧Each C scope own tg elt Γ ds L1 (fun d=> .bl (f d))∧Q (.bl (ds.all f)) L1)
  (ok:BlkOk C.X.N C.X.env.scope scope own:=by (dsimp only [uF,cZ,cxOf,envOfC,compEnvC,Cx.blk];exact blkOk_by (by decide+kernel))) (hs:∀x,foldedSetIterable iter C.X.env x=pure x:=by intro _;rfl) (hg:Gl C.X "all" :=by rfl)
  (he:starEach [.ListComp elt [⟨tg,iter,[],0⟩] scope p2] C.X.env= [(false,eval (.ListComp elt [⟨tg,iter,[],0⟩] scope p2) C.X.env)]:=by rfl):
  AE C (.Call (.Name "all" p1) [.ListComp elt [⟨tg,iter,[],0⟩] scope p2] [] pos) Γ L Q:=by
 refine AE.drop (aP (cr_all C.calm) hm (aC (yP own ?_ ok hs) he) (hg:=hg) (he:=he))
 refine fun F σ H okk RV go=>h _ σ H okk RV fun J H' L' ds G c f it ⟨g,hG,hz,hf,q⟩=>go J H' L' ds G c f it (lc_map _ hG hz hf fun p hp=> ?_)
 refine aD (c_all (bs:=ds.map g) (by rw [List.map_map];exact aF) ⟨L',aU hp,?_⟩)
 rw [List.all_map]
 exact q
end
end DL
namespace DL
open PySem PySem.Spec PyProof.Rows L2
section
variable {C:Ctx} {Γ:Gm} {L:Lp} {Q:D→Lp→Prop}
abbrev rNotN:R2:=fun x y H Q=>y= .non∧Q (.bl (!decide (x= .non))) H
theorem sV {α:Type} (f:α→D):∀xs:List α,pys (xs.map f)=xs.map fun x=>py (f x)
 | []=>by rw [List.map_nil,pys,List.map_nil]
 | x::xs=>by rw [List.map_cons,pys,sV f xs,List.map_cons]
theorem mY {α:Type} (f:α→D):∀xs:List α,(∀x∈xs,okD (f x)=true)→gA (xs.map f)=true
 | [],_=>by rw [List.map_nil,gA]
 | x::xs,h=>by rw [List.map_cons,gA,h x List.mem_cons_self,mY f xs fun y hy=>h y (List.mem_cons_of_mem _ hy)];rfl
end
end DL
namespace DL
open PySem PySem.Spec PyProof.Rows L2
section
variable {C:Ctx} {Γ:Gm} {L:Lp} {Q:D→Lp→Prop} {e:Expr} {pos:Pos}
theorem ae_neg (h:AE C e Γ L fun d L1=> ∃i:Int,d= .int i∧Q (.int (-i)) L1):AE C (.UnaryOp .USub e pos) Γ L Q:=fun F σ H ok QV go=>
 dD (pe_un un_neg bA) (h _ σ H ok _ fun v d H1 L1 r c f ⟨i,ed,q⟩=>by
  subst ed
  exact ⟨i,r.intE,go _ _ H1 L1 (.int _) c f q⟩)
end
end DL
namespace DL
open PySem PySem.Spec PyProof.Rows L2
section
variable {C:Ctx} {Γ:Gm} {L:Lp} {Q:D→Lp→Prop} {o e:Expr} {pos apos:Pos}
theorem pK (h:AE C o Γ L fun x L1=> ∃p zs,x= .ptr p∧L1 p=some (.lst zs)∧AE C e Γ L1 fun y L2=> ∃xs,L2 p=some (.lst xs)∧xs.length < sizeLine∧Q .non (put L2 p (.lst (xs++ [y]))))
  (hp:PE C.X (.Call (.Attribute o "append" apos) [e] [] pos) (tBM C.X.K "list" rAppend (WE C.X o) (WA C.X [e])):=by exact pe_bm PySem.F.plainAttrs_list PySem.F.slot_list_append PySem.F.type_list_append mt_append bA qT)
  (hs:starEach [e] C.X.env= [(false,eval e C.X.env)]:=by rfl):AE C (.Call (.Attribute o "append" apos) [e] [] pos) Γ L Q:=
 ae_bm (id:="list.append") hp (h.mono fun x L1 ⟨p,zs,ex,hz,h2⟩=>by
  subst ex
  exact ⟨.inl ⟨rfl,zs,hz⟩,aC (h2.mono fun y L2 ⟨xs,hx,hl,q⟩=>aD (m_append hx hl q)) hs⟩)
theorem ae_extT (h:AE C o Γ L fun x L1=> ∃p zs,x= .ptr p∧L1 p=some (.lst zs)∧AE C e Γ L1 fun y L2=> ∃xs ys,y= .tup ys∧L2 p=some (.lst xs)∧xs.length+ys.length≤sizeLine∧Q .non (put L2 p (.lst (xs++ys))))
  (hp:PE C.X (.Call (.Attribute o "extend" apos) [e] [] pos) (tBM C.X.K "list" (aBj C.X.K) (WE C.X o) (WA C.X [e])):=by exact pe_bm PySem.F.plainAttrs_list PySem.F.slot_list_extend PySem.F.type_list_extend mt_extendT bA qT)
  (hs:starEach [e] C.X.env= [(false,eval e C.X.env)]:=by rfl):AE C (.Call (.Attribute o "extend" apos) [e] [] pos) Γ L Q:=
 ae_bm (id:="list.extend") hp (h.mono fun x L1 ⟨p,zs,ex,hz,h2⟩=>by
  subst ex
  exact ⟨.inl ⟨rfl,zs,hz⟩,aC (h2.mono fun y L2 ⟨xs,ys,ey,hx,hl,q⟩=>aD (by subst ey;exact m_extendT hx hl q)) hs⟩)
end
theorem bU:sizeLine=16777216:=rfl
end DL
namespace DL
open PySem PySem.Spec PyProof.Rows L2
section
variable {C:Ctx} {Γ:Gm} {L:Lp} {a b c:Expr} {pos:Pos}
theorem at_chain {op op':CmpOp} {r r':R2} {Q:Bool→Lp→Prop} (ho:OpR C.X (compareOp op) r) (ho':OpR C.X (compareOp op') r')
  (h:AE C a Γ L fun x L1=>AE C b Γ L1 fun y L2=>L2R C r x y L2 fun d L3=> ∃k,d= .bl k∧(k=true→AE C c Γ L3 fun z L4=>L2R C r' y z L4 fun d L5=> ∃k,d= .bl k∧Q k L5)∧(k=false→Q false L3))
  (hp:PT C.X (.Compare a [op,op'] [b,c] pos) (tTest (tChain r r' (WE C.X a) (WE C.X b) (WE C.X c)))):AT C (.Compare a [op,op'] [b,c] pos) Γ L Q:=fun F σ H ok QV go=>
 aAn hp (h _ σ H ok _ fun vx x H1 L1 rx c1 f1 q1=>q1 _ σ H1 (ok.step c1 f1) _ fun vy y H2 L2 ry c2 f2 q2=>q2 _ vx vy H2 c2 (rx.mono f2.mv) ry _ fun v d H3 L3 r3 c3 f3 ⟨k,ek,k1,k2⟩=>by
  subst ek
  refine ⟨k,r3.blE,?_⟩
  cases k with
  | true=>
   have o3:=ok.step c3 ((f1.trans f2).trans f3)
   exact (k1 rfl) _ σ H3 o3 _ fun vz z H4 L4 rz c4 f4 q4=>q4 _ vy vz H4 c4 ((ry.mono f3.mv).mono f4.mv) rz _ fun w e H5 L5 r5 c5 f5 ⟨k',ee,q5⟩=>by
    subst ee
    exact ⟨k',r5.blE,go k' H5 L5 c5 ((((f1.trans f2).trans f3).trans f4).trans f5) q5⟩
  | false=>exact ⟨false,rfl,go false H3 L3 c3 ((f1.trans f2).trans f3) (k2 rfl)⟩)
end
end DL
namespace DL
open PySem PySem.Spec PyProof.Rows L2
def DR (L:Lp) (d:D) (kds:List (List Key×D)):Prop:=(∃t,d= .ptr t∧L t=some (.dct kds))∨d= .fdct kds
def LR (L:Lp) (d:D) (ds:List D):Prop:=(∃t,d= .ptr t∧L t=some (.lst ds))∨d= .flst ds
theorem DR.st {L:Lp} {t:Addr} {kds:List (List Key×D)} (h:L t=some (.dct kds)):DR L (.ptr t) kds:= .inl ⟨t,rfl,h⟩
theorem DR.fz {L:Lp} {kds:List (List Key×D)}:DR L (.fdct kds) kds:= .inr rfl
theorem LR.st {L:Lp} {t:Addr} {ds:List D} (h:L t=some (.lst ds)):LR L (.ptr t) ds:= .inl ⟨t,rfl,h⟩
theorem LR.fz {L:Lp} {ds:List D}:LR L (.flst ds) ds:= .inr rfl
theorem DR.put {L:Lp} {d:D} {kds:List (List Key×D)} (h:DR L d kds) {a:Addr} {o:MO} (n:L a=none):DR (put L a o) d kds:=by
 rcases h with ⟨t,e,h⟩ | h
 ·exact .inl ⟨t,e,by rw [aK (aQ h n)];exact h⟩
 ·exact .inr h
theorem LR.put {L:Lp} {d:D} {ds:List D} (h:LR L d ds) {a:Addr} {o:MO} (n:L a=none):LR (put L a o) d ds:=by
 rcases h with ⟨t,e,h⟩ | h
 ·exact .inl ⟨t,e,by rw [aK (aQ h n)];exact h⟩
 ·exact .inr h
theorem DR.wr {L:Lp} {d:D} {kds:List (List Key×D)} (h:DR L d kds) {a:Addr} {o u:MO} (n:L a=some u) (nd:∀k,u≠ .dct k):DR (DL.put L a o) d kds:=by
 rcases h with ⟨t,e,h⟩ | h
 ·refine .inl ⟨t,e,?_⟩
  have:t≠a:=fun z=>by rw [z,n] at h;exact nd _ (Option.some.inj h)
  rw [aK this];exact h
 ·exact .inr h
theorem DR.le {L L':Lp} {d:D} {kds:List (List Key×D)} (h:DR L d kds) (le:Le L L'):DR L' d kds:=by
 rcases h with ⟨t,e,h⟩ | h
 ·exact .inl ⟨t,e,le _ _ h⟩
 ·exact .inr h
theorem LR.le {L L':Lp} {d:D} {ds:List D} (h:LR L d ds) (le:Le L L'):LR L' d ds:=by
 rcases h with ⟨t,e,h⟩ | h
 ·exact .inl ⟨t,e,le _ _ h⟩
 ·exact .inr h
section
variable {C:Ctx} {Γ:Gm} {L:Lp} {Q:D→Lp→Prop} {o b e tg:Expr} {pos:Pos} {d:D} {ds:List D} {kds:List (List Key×D)}
theorem DR.at_ {F:Fz} {H:Hp} {v:V} (h:DR L d kds) (c:C.Con L F H) (r:Rep C.X.K F H v d):∃a kvs,v= .ref a∧Rd H a (.dT kvs)∧KDs C.X.K F H kvs kds∧∀q∈kds,KOk q.1:=by
 rcases h with ⟨t,rfl,ht⟩ | rfl
 ·obtain ⟨kvs,h1,h2,h3⟩:=c.at_ t _ ht
  exact ⟨t,kvs,r.ptrE,.inl h1,h2,h3⟩
 ·cases r with
  | fdct hl h hk hn he hi=>
   have key:∀{kvs:List (List Key×V)} {kds:List (List Key×D)},kvs.length=kds.length→(∀(i:Nat) (v:List Key×V) (d:List Key×D),kvs[i]? =some v→kds[i]? =some d→v.1=d.1∧Rep C.X.K F H v.2 d.2)→KDs C.X.K F H kvs kds:=by
    intro kvs
    induction kvs with
    | nil=>intro kds hl _;cases kds with | nil=>exact .nil | cons _ _=>simp at hl
    | cons v vs ih=>
     intro kds hl hh
     cases kds with
     | nil=>simp at hl
     | cons d ds=>exact .cons (hh 0 v d rfl rfl) (ih (by simpa using hl) fun i x y h1 h2=>hh (i+1) x y (by simpa using h1) (by simpa using h2))
   exact ⟨_,_,rfl,.inr ⟨_,h⟩,key hn fun i v d h1 h2=>⟨he i v d h1 h2,hi i v d h1 h2⟩,hk⟩
theorem LR.at_ {F:Fz} {H:Hp} {v:V} (h:LR L d ds) (c:C.Con L F H) (r:Rep C.X.K F H v d):∃a vs,v= .ref a∧H a=some (.lst vs)∧aZ C.X.K F H vs ds∧ds.length≤sizeLine:=by
 rcases h with ⟨t,rfl,ht⟩ | rfl
 ·obtain ⟨vs,h1,h2,h3⟩:=c.at_ t _ ht
  exact ⟨t,vs,r.ptrE,h1,h2,h3⟩
 ·cases r with
  | flst hl h hz hn hi=>exact ⟨_,_,rfl,h,aZ.of_get hn hi,by rw [←hn];exact hz⟩
theorem DGet.rt {H:Hp} {a b:Addr} {kvs:List (List Key×V)} {k:List Key} (e:Rd H a (.dT kvs)) (eb:H b=some (.tup (k.map kV))):DGet H a (.ref b) (valV kvs k):= .inr ⟨kvs,k,b,e,rfl,eb,rfl⟩
theorem dr_in {k:List Key} (hp:DR L d kds) (q:Q (.bl (valD kds k).isSome) L):L2R C aAY (kD k) d L Q:=fun F vx vy H c rx ry QV go=>by
 obtain ⟨t,rfl,ht⟩:=aAj rx
 obtain ⟨p,kvs,rfl,ha,ra,_⟩:=hp.at_ c ry
 refine ⟨p,valV kvs k,rfl,DGet.rt ha ht,?_⟩
 have e:(valV kvs k).isSome=(valD kds k).isSome:=by
  rcases KDs.val ra k with ⟨e1,e2⟩ | ⟨v,d,e1,e2,_⟩ <;> rw [e1,e2] <;> rfl
 rw [e]
 exact go _ _ H L (.bl _) c (.refl L H) q
theorem dr_notIn {k:List Key} (hp:DR L d kds) (q:Q (.bl (!(valD kds k).isSome)) L):L2R C rC (kD k) d L Q:=fun F vx vy H c rx ry QV go=>by
 obtain ⟨t,rfl,ht⟩:=aAj rx
 obtain ⟨p,kvs,rfl,ha,ra,_⟩:=hp.at_ c ry
 refine ⟨p,valV kvs k,rfl,DGet.rt ha ht,?_⟩
 have e:(valV kvs k).isSome=(valD kds k).isSome:=by
  rcases KDs.val ra k with ⟨e1,e2⟩ | ⟨v,d,e1,e2,_⟩ <;> rw [e1,e2] <;> rfl
 rw [e]
 exact go _ _ H L (.bl _) c (.refl L H) q
theorem dr_get {k:List Key} {x:D} (hp:DR L d kds) (hv:valD kds k=some x) (q:Q x L):L2R C zH d (kD k) L Q:=fun F vx vy H c rx ry QV go=>by
 obtain ⟨p,kvs,rfl,ha,ra,_⟩:=hp.at_ c rx
 obtain ⟨t,rfl,ht⟩:=aAj ry
 rcases KDs.val ra k with ⟨_,e2⟩ | ⟨v,d',e1,e2,rv⟩
 ·rw [hv] at e2
  cases e2
 ·rw [hv] at e2
  cases e2
  exact ⟨p,v,rfl,e1 ▸DGet.rt ha ht,go _ _ H L rv c (.refl L H) q⟩
theorem ae_dget (hu:C.X.A.units+1 < cLine) (h:AE C o Γ L fun x L1=>AE C b Γ L1 fun y L2=> ∃kds k d,y=kD k∧DR L2 x kds∧valD kds k=some d∧Q d L2) (hs:NoSl b:=by exact fun _ _=>rfl):AE C (.Subscript o b pos) Γ L Q:=
 zY (r:=zH) (pe_dget hu bA bA hs) (h.mono fun x L1 h1=>h1.mono fun y L2 ⟨kds,k,d,ey,hp,hv,q⟩=>by
  subst ey
  exact dr_get hp hv q)
theorem lr_len (hp:LR L d ds) (q:Q (.int ds.length) L):LcR C (aAB C.X.K) [d] L Q:=fun F vs H c r0 QV go=>by
 obtain ⟨v,rfl,r⟩:=r0.oneE
 obtain ⟨p,ws,rfl,ha,ra,hzz⟩:=hp.at_ c r
 refine ⟨p,ws,rfl,.inl (SqL.of ha),?_⟩
 rw [ra.length]
 exact go _ _ H L (.int _) c (.refl L H) q
abbrev aBh:List V→Hp→VK→Prop:=fun xs H Q=> ∃(p:Addr) (kvs:List (List Key×V)),xs= [.ref p]∧Rd H p (.dT kvs)∧Q (.int ((kvs.length:Nat):Int)) H
theorem call_lenD {X:Cx}:CallR X (.builtin "len") aBh:=by
 intro pins s σ H xs us Q I r h
 obtain ⟨p,kvs,rfl,hp,q⟩:=h
 obtain ⟨u,rfl,rx⟩:=vals1 r
 obtain rfl:u= .ref p:=rx
 obtain ⟨z,hd,ys,rel,dd⟩:=dt_rd I.hok hp
 have hl:kvs.length=ys.length:=Paired.length rel
 refine call_len_dictH hd dd (by rw [←hl];rw [sizeLine_eq] at z;omega) ?_
 rw [←hl]
 exact ⟨.int ((kvs.length:Nat):Int),H,I.tok _,⟨_,rfl⟩,q⟩
theorem dr_len (hp:DR L d kds) (q:Q (.int kds.length) L):LcR C aBh [d] L Q:=fun F vs H c r0 QV go=>by
 obtain ⟨v,rfl,r⟩:=r0.oneE
 obtain ⟨p,kvs,rfl,ha,ra,_⟩:=hp.at_ c r
 refine ⟨p,kvs,rfl,ha,?_⟩
 rw [Paired.length ra]
 exact go _ _ H L (.int _) c (.refl L H) q
theorem lr_ix {i:Int} {x:D} (hp:LR L d ds) (h:atI ds i=some x) (q:Q x L):L2R C (rIxL C.X.K) d (.int i) L Q:=fun F vx vy H c rx ry QV go=>by
 obtain ⟨p,vs,rfl,ha,ra,hz⟩:=hp.at_ c rx
 obtain ⟨v,h1,h2⟩:=wC ra h
 exact ⟨p,vs,i,v,rfl,ry.intE,SqL.of ha,h1,go _ _ H L h2 c (.refl L H) q⟩
theorem lr_tup (hp:LR L d ds) (q:Q (.tup ds) L):LcR C (zG C.X.K) [d] L Q:=fun F vs H c r0 QV go=>by
 obtain ⟨v,rfl,r⟩:=r0.oneE
 obtain ⟨p,ws,rfl,ha,ra,hzz⟩:=hp.at_ c r
 exact ⟨p,ws,rfl,.inl ⟨SqL.of ha,fun l hl=>go _ _ _ L (Rep.tupI upd_same (ra.mono (.new hl)) hzz) (c.new hl) (.new hl) q⟩⟩
end
end DL
namespace DL
open PySem PySem.Spec PyProof.Rows L2
abbrev Wd:=Str
abbrev Cell:=List Wd
abbrev Rl:=List (List Wd×List Cell)
def dW (ws:List Wd):D:= .tup (ws.map .str)
def dC (cs:List Cell):D:= .tup (cs.map dW)
def dRu (r:List Wd×List Cell):D:= .tup [dW r.1,dC r.2]
def dR (rs:Rl):D:= .tup (rs.map dRu)
def kS (ws:List Wd):List Key:=ws.map .inr
def tbl (rs:Rl):List (List Key×D):=rs.map fun r=>(kS r.1,dC r.2)
theorem qU (ws:List Wd):kD (kS ws)=dW ws:=by
 unfold kD kS dW
 rw [List.map_map]
 rfl
theorem aAJ {a b:List Wd} (h:kS a=kS b):a=b:=by
 unfold kS at h
 exact (List.map_inj_right fun x y e=>Sum.inr.inj e).mp h
theorem aAM {α:Type} (xs:List α) (a b:Nat):cut xs (some (a:Int)) (some (b:Int))=(xs.drop a).take (b - a):=by
 unfold cut
 have h1:HT.sIx xs.length 0 (some (a:Int))=min a xs.length:=by
  unfold HT.sIx
  simp
  omega
 have h2:HT.sIx xs.length xs.length (some (b:Int))=min b xs.length:=by
  unfold HT.sIx
  simp
  omega
 rw [h1,h2]
 by_cases h:a≤xs.length
 ·rw [Nat.min_eq_left h]
  apply List.ext_getElem?
  intro i
  simp only [List.getElem?_take,List.getElem?_drop]
  by_cases hb:b≤xs.length
  ·rw [Nat.min_eq_left hb]
  ·rw [Nat.min_eq_right (by omega)]
   by_cases c1:i < xs.length - a
   ·rw [if_pos c1,if_pos (by omega)]
   ·rw [if_neg c1]
    split
    ·rw [List.getElem?_eq_none (by omega)]
    ·rfl
 ·have e:min a xs.length=xs.length:=Nat.min_eq_right (by omega)
  rw [e,List.drop_eq_nil_of_le (Nat.le_refl _),List.drop_eq_nil_of_le (by omega:xs.length≤a)]
  simp
theorem lL {α:Type} (xs:List α) (a:Nat):cut xs (some (a:Int)) none=xs.drop a:=by
 have h:cut xs (some (a:Int)) none=cut xs (some (a:Int)) (some (xs.length:Int)):=by
  unfold cut
  have e:HT.sIx xs.length xs.length (some (xs.length:Int))=xs.length:=by
   unfold HT.sIx
   simp
   intro h
   omega
  rw [e]
  rfl
 rw [h,aAM]
 apply List.take_of_length_le
 rw [List.length_drop]
 exact Nat.le_refl _
theorem zQ {α:Type} (xs:List α) (b:Nat):cut xs none (some (b:Int))=xs.take b:=by
 have h:cut xs none (some (b:Int))=cut xs (some ((0:Nat):Int)) (some (b:Int)):=by
  unfold cut HT.sIx
  simp
 rw [h,aAM]
 simp
def lk (rs:Rl) (k:List Wd):Option (List Cell):=(rs.find? fun r=>decide (r.1=k)).map (·.2)
theorem rR (rs:Rl) (k:List Wd):valD (tbl rs) (kS k)=(lk rs k).map dC:=by
 unfold valD tbl lk
 induction rs with
 | nil=>rfl
 | cons r rs ih=>
  rw [List.map_cons]
  by_cases e:r.1=k
  ·rw [List.find?_cons_of_pos (by simp [e]),List.find?_cons_of_pos (by simp [e])]
   rfl
  ·rw [List.find?_cons_of_neg (by simpa using fun z=>e (aAJ z)),List.find?_cons_of_neg (by simpa using e)]
   exact ih
theorem isSome_tbl (rs:Rl) (k:List Wd):(valD (tbl rs) (kS k)).isSome=(lk rs k).isSome:=by
 rw [rR]
 cases lk rs k <;> rfl
def wAt (cs:List Cell) (a m:Nat):Option (List Wd):=
 if ((cs.drop a).take m).length < m∨((cs.drop a).take m).any (fun c=>decide (c.length≠1))=true then none else some (((cs.drop a).take m).map fun c=>c.headD Str.empty)
theorem wAt_len {cs:List Cell} {a m:Nat} {ws:List Wd} (h:wAt cs a m=some ws):ws.length=m:=by
 unfold wAt at h
 split at h
 ·cases h
 ·rename_i hc
  cases h
  rw [List.length_map]
  have h1:((cs.drop a).take m).length≤m:=by rw [List.length_take];omega
  have h2:¬((cs.drop a).take m).length < m:=fun z=>hc (.inl z)
  omega
def fits (rs:Rl) (cs:List Cell) (a m:Nat):Bool:=match wAt cs a m with | some w=>(lk rs w).isSome | none=>false
def gM (rs:Rl) (cs:List Cell) (a:Nat):Nat:=if fits rs cs a 3 then 3 else if fits rs cs a 2 then 2 else if fits rs cs a 1 then 1 else 0
def kAt (rs:Rl) (cs:List Cell) (a:Nat):List Wd:=if gM rs cs a=0 then [] else (wAt cs a (gM rs cs a)).getD []
theorem fits_w {rs:Rl} {cs:List Cell} {a m:Nat} (h:fits rs cs a m=true):∃w z,wAt cs a m=some w∧lk rs w=some z:=by
 unfold fits at h
 cases e:wAt cs a m with
 | none=>rw [e] at h;cases h
 | some w=>
  rw [e] at h
  cases e2:lk rs w with
  | none=>simp [e2] at h
  | some z=>exact ⟨w,z,rfl,e2⟩
theorem szAt_fits {rs:Rl} {cs:List Cell} {a:Nat} (h:gM rs cs a≠0):fits rs cs a (gM rs cs a)=true:=by
 unfold gM at h ⊢
 by_cases h3:fits rs cs a 3=true
 ·rw [if_pos h3];exact h3
 ·rw [if_neg h3] at h ⊢
  by_cases h2:fits rs cs a 2=true
  ·rw [if_pos h2];exact h2
  ·rw [if_neg h2] at h ⊢
   by_cases h1:fits rs cs a 1=true
   ·rw [if_pos h1];exact h1
   ·rw [if_neg h1] at h
    exact absurd rfl h
theorem mZ {rs:Rl} {cs:List Cell} {a:Nat} (h:gM rs cs a≠0):∃z,wAt cs a (gM rs cs a)=some (kAt rs cs a)∧lk rs (kAt rs cs a)=some z∧(kAt rs cs a).length=gM rs cs a:=by
 obtain ⟨w,z,h1,h2⟩:=fits_w (szAt_fits h)
 have e:kAt rs cs a=w:=by
  unfold kAt
  rw [if_neg h,h1]
  rfl
 rw [e]
 exact ⟨z,h1,h2,wAt_len h1⟩
theorem vP {rs:Rl} {cs:List Cell} {a:Nat} (h:gM rs cs a=0):kAt rs cs a= []:=by
 unfold kAt
 rw [if_pos h]
def rwF (rs:Rl) (cs:List Cell):Nat→Nat→List Cell
 | 0,_=> []
 | n+1,a=>if a < cs.length then (if gM rs cs a=0 then (cs.getD a [])::rwF rs cs n (a+1) else (lk rs (kAt rs cs a)).getD []++rwF rs cs n (a+gM rs cs a)) else []
def rw1 (rs:Rl) (cs:List Cell):List Cell:=rwF rs cs cs.length 0
theorem rwF_end {rs:Rl} {cs:List Cell} {n a:Nat} (h:cs.length≤a):rwF rs cs n a= []:=by
 cases n with
 | zero=>rfl
 | succ n=>
  show (if a < cs.length then _ else _)=_
  rw [if_neg (by omega)]
theorem rwF_0 {rs:Rl} {cs:List Cell} {n a:Nat} (h:a < cs.length) (h0:gM rs cs a=0):rwF rs cs (n+1) a=cs.getD a []::rwF rs cs n (a+1):=by
 show (if a < cs.length then _ else _)=_
 rw [if_pos h,if_pos h0]
theorem rwF_1 {rs:Rl} {cs:List Cell} {n a:Nat} {z:List Cell} (h:a < cs.length) (h0:gM rs cs a≠0) (hz:lk rs (kAt rs cs a)=some z):rwF rs cs (n+1) a=z++rwF rs cs n (a+gM rs cs a):=by
 show (if a < cs.length then _ else _)=_
 rw [if_pos h,if_neg h0,hz]
 rfl
theorem xG {rs:Rl} {k:List Wd} {z:List Cell} (h:lk rs k=some z):(k,z)∈rs:=by
 unfold lk at h
 cases e:rs.find? (fun r=>decide (r.1=k)) with
 | none=>rw [e] at h;cases h
 | some r=>
  rw [e] at h
  cases h
  have h1:=List.find?_some e
  have h2:=List.mem_of_find?_eq_some e
  have:r.1=k:=of_decide_eq_true h1
  rw [←this]
  exact h2
def RL2 (rs:Rl):Prop:= ∀r∈rs,r.2.length≤2
theorem RL2.lk {rs:Rl} (h:RL2 rs) {k:List Wd} {z:List Cell} (e:lk rs k=some z):z.length≤2:=h _ (xG e)
end DL
namespace DL
open PySem PySem.Spec PyProof.Rows L2
theorem sY (ws:List Wd):okD (dW ws)=true:=by
 unfold dW
 rw [okD]
 exact mY _ _ fun x _=>by rw [okD]
theorem kW (cs:List Cell):okD (dC cs)=true:=by
 unfold dC
 rw [okD]
 exact mY _ _ fun x _=>sY x
theorem okD_dRu (r:List Wd×List Cell):okD (dRu r)=true:=by
 unfold dRu
 rw [okD,gA,gA,gA,sY,kW]
 rfl
theorem okD_dR (rs:Rl):okD (dR rs)=true:=by
 unfold dR
 rw [okD]
 exact mY _ _ fun x _=>okD_dRu x
theorem dep_all {ds:List PyData} {n:Nat} (h:∀d∈ds,d.depth≤n):(PyData.tuple ds).depth≤n+1:=by
 have key:∀ds:List PyData,(∀d∈ds,d.depth≤n)→PyData.depthAll ds≤n:=by
  intro ds
  induction ds with
  | nil=>intro _;rw [PyData.depthAll];exact Nat.zero_le _
  | cons d ds ih=>
   intro h
   rw [PyData.depthAll]
   exact Nat.max_le.mpr ⟨h d List.mem_cons_self,ih fun x hx=>h x (List.mem_cons_of_mem _ hx)⟩
 rw [PyData.depth]
 have:=key ds h
 omega
theorem zP (ws:List Wd):(py (dW ws)).depth≤2:=by
 unfold dW
 rw [py,sV]
 refine dep_all fun d hd=> ?_
 obtain ⟨x,_,rfl⟩:=List.mem_map.mp hd
 rw [py,PyData.depth]
 first | exact Nat.le_refl _ | exact Nat.zero_le _
theorem dep_dC (cs:List Cell):(py (dC cs)).depth≤3:=by
 unfold dC
 rw [py,sV]
 refine dep_all fun d hd=> ?_
 obtain ⟨x,_,rfl⟩:=List.mem_map.mp hd
 exact zP x
end DL
namespace DL
open PySem PySem.Spec PyProof.Rows L2
def vC (rs:Rl) (k:List Wd) (z:List Cell):Rl:=if rs.any (fun r=>decide (r.1=k)) then rs.map fun r=>if r.1=k then (r.1,z) else r else rs++ [(k,z)]
theorem any_tbl (rs:Rl) (k:List Wd):(tbl rs).any (fun kv=>decide (kv.1=kS k))=rs.any fun r=>decide (r.1=k):=by
 unfold tbl
 rw [List.any_map]
 congr 1
 funext r
 show decide (kS r.1=kS k)=decide (r.1=k)
 by_cases e:r.1=k
 ·rw [e,decide_eq_true rfl,decide_eq_true rfl]
 ·rw [decide_eq_false e,decide_eq_false fun z=>e (aAJ z)]
theorem yD (rs:Rl) (k:List Wd) (z:List Cell):putD (tbl rs) (kS k) (dC z)=tbl (vC rs k z):=by
 unfold putD vC
 rw [any_tbl]
 split
 ·unfold tbl
  rw [List.map_map,List.map_map]
  refine List.map_congr_left fun r _=> ?_
  show (if kS r.1=kS k then (kS r.1,dC z) else (kS r.1,dC r.2))=_
  by_cases e:r.1=k
  ·rw [if_pos (by rw [e])]
   show _=(kS (if r.1=k then (r.1,z) else r).1,dC (if r.1=k then (r.1,z) else r).2)
   rw [if_pos e]
  ·rw [if_neg fun q=>e (aAJ q)]
   show _=(kS (if r.1=k then (r.1,z) else r).1,dC (if r.1=k then (r.1,z) else r).2)
   rw [if_neg e]
 ·unfold tbl
  rw [List.map_append]
  rfl
section
variable {C:Ctx} {Γ:Gm} {L:Lp} {Q:D→Lp→Prop} {o b:Expr} {pos:Pos}
theorem r_inW {p:D} {rs:Rl} {k:List Wd} (hp:DR L p (tbl rs)) (q:Q (.bl (lk rs k).isSome) L):L2R C aAY (dW k) p L Q:=by
 rw [←qU]
 refine dr_in hp ?_
 rw [isSome_tbl]
 exact q
theorem r_notInW {p:D} {rs:Rl} {k:List Wd} (hp:DR L p (tbl rs)) (q:Q (.bl (!(lk rs k).isSome)) L):L2R C rC (dW k) p L Q:=by
 rw [←qU]
 refine dr_notIn hp ?_
 rw [isSome_tbl]
 exact q
theorem wN (hu:C.X.A.units+1 < cLine) (h:AE C o Γ L fun x L1=>AE C b Γ L1 fun y L2=> ∃rs k z,y=dW k∧DR L2 x (tbl rs)∧lk rs k=some z∧Q (dC z) L2) (hs:NoSl b:=by exact fun _ _=>rfl):AE C (.Subscript o b pos) Γ L Q:=
 ae_dget hu (h.mono fun x L1 h1=>h1.mono fun y L2 ⟨rs,k,z,ey,hp,hl,q⟩=>⟨tbl rs,kS k,dC z,by rw [qU];exact ey,hp,by rw [rR,hl];rfl,q⟩) hs
theorem w_W {p:Addr} {rs:Rl} {k:List Wd} {z:List Cell} {Q:Lp→Prop} (hp:L p=some (.dct (tbl rs))) (hz:rs.length < sizeLine) (q:Q (put L p (.dct (tbl (vC rs k z))))):L3R C aAA (.ptr p) (dW k) (dC z) L Q:=by
 rw [←qU]
 refine w_DT hp (by unfold tbl;rw [List.length_map];exact hz) ?_
 rw [yD]
 exact q
end
end DL
namespace DL
open PySem PySem.Spec PyProof.Rows L2
def aAf (rss:List Rl) (cs:List Cell):List Cell:=rss.foldl (fun cs rs=>rw1 rs cs) cs
theorem wAt_end {cs:List Cell} {a m:Nat} {ws:List Wd} (h:wAt cs a m=some ws) (hm:0 < m):a+m≤cs.length:=by
 unfold wAt at h
 split at h
 ·cases h
 ·rename_i hc
  have h2:¬((cs.drop a).take m).length < m:=fun z=>hc (.inl z)
  rw [List.length_take,List.length_drop] at h2
  omega
end DL
namespace DL
open PySem PySem.Spec PyProof.Rows L2
def abc:List Nat:=("abcdefghijklmnopqrstuvwxyz" :Str).cps.toList
def wdS (x:Str):Bool:=decide (1≤x.length) && decide (x.length≤8) && x.cps.toList.all fun k=>decide (k∈abc)
def wdD:D→Bool
 | .str x=>wdS x
 | _=>false
def txD:D→Bool
 | .tup ds=>ds.all wdD
 | _=>false
theorem yW {d:D} (h:txD d=true):∃ws:List Wd,d=dW ws∧∀x∈ws,wdS x=true:=by
 cases d with
 | tup ds=>
  have key:∀ds:List D,ds.all wdD=true→∃ws:List Wd,ds=ws.map .str∧∀x∈ws,wdS x=true:=by
   intro ds
   induction ds with
   | nil=>intro _;exact ⟨[],rfl,fun x hx=>nomatch hx⟩
   | cons d ds ih=>
    intro h
    rw [List.all_cons,Bool.and_eq_true] at h
    obtain ⟨ws,e,hw⟩:=ih h.2
    cases d with
    | str x=>
     refine ⟨x::ws,by rw [e];rfl,fun y hy=> ?_⟩
     rcases List.mem_cons.mp hy with z | z
     ·rw [z];exact h.1
     ·exact hw y z
    | _=>exact absurd h.1 (by simp [wdD])
  obtain ⟨ws,e,hw⟩:=key ds h
  exact ⟨ws,by rw [e];rfl,hw⟩
 | _=>simp [txD] at h
theorem aAr {ws:List Wd} (h:∀x∈ws,wdS x=true):txD (dW ws)=true:=by
 show (ws.map D.str).all wdD=true
 rw [List.all_map,List.all_eq_true]
 exact h
def adj:List Wd→Bool
 | x::y::r=>decide (x.cps.toList < y.cps.toList) && adj (y::r)
 | _=>true
theorem adj_rise:∀{ws:List Wd},aAV ws→adj ws=true
 | [],_=>rfl
 | [_],_=>rfl
 | x::y::r,h=>by
  obtain ⟨h1,h2⟩:=List.pairwise_cons.mp h
  show (decide _ && adj (y::r))=true
  rw [adj_rise h2,decide_eq_true (h1 y List.mem_cons_self)]
  rfl
def ltP:D→Bool
 | .tup [.str x,.str y]=>decide (x.cps.toList < y.cps.toList)
 | _=>false
theorem adj_zip:∀ws:List Wd,(qW (ws.map .str) ((ws.drop 1).map .str)).all ltP=adj ws
 | []=>rfl
 | [_]=>rfl
 | x::y::r=>by
  show (decide _ && (qW ((y::r).map .str) (((y::r).drop 1).map .str)).all ltP)=_
  rw [adj_zip (y::r)]
  rfl
def ceD (d:D):Bool:=txD d && match d with | .tup ds=>decide (ds.length≤3) && adj (ds.map fun d=>match d with | .str x=>x | _=>Str.empty) | _=>false
theorem zV (ws:List Wd):ceD (dW ws)=((ws.all wdS) && decide (ws.length≤3) && adj ws):=by
 unfold ceD
 have e1:txD (dW ws)=ws.all wdS:=by
  show (ws.map D.str).all wdD=_
  rw [List.all_map]
  rfl
 have e2:((ws.map D.str).map fun d=>match d with | .str x=>x | _=>Str.empty)=ws:=by
  rw [List.map_map]
  exact List.map_id _
 rw [e1]
 show (_ && (decide ((ws.map D.str).length≤3) && adj _))=_
 rw [e2,List.length_map,Bool.and_assoc]
def csD:D→Bool
 | .tup ds=>decide (ds.length≤2) && ds.all ceD
 | _=>false
def kyD:D→Bool
 | .tup ds=>ds.all wdD && decide (1≤ds.length) && decide (ds.length≤3)
 | _=>false
end DL
namespace DL
open PySem PySem.Spec PyProof.Rows L2
theorem signs_len (x:Str):(cV x).length=x.length:=by
 unfold cV
 rw [List.length_map,Array.length_toList]
 rfl
theorem signs_get {x:Str} {i:Nat} {d:D} (h:(cV x)[i]? =some d):∃k,x.cps.toList[i]? =some k∧d= .str (sgn k):=by
 unfold cV at h
 rw [List.getElem?_map] at h
 cases e:x.cps.toList[i]? with
 | none=>rw [e] at h;cases h
 | some k=>rw [e] at h;cases h;exact ⟨k,rfl,rfl⟩
end DL
namespace DL
open PySem PySem.Spec PyProof.Rows L2
theorem vW {α:Type} (xs:List α):cut xs (some 1) none=xs.drop 1:=lL xs 1
def eO (d:D):List Wd:=match d with | .tup ds=>(ds.map fun d=>match d with | .str x=>x | _=>Str.empty) | _=> []
def ruD:D→Bool
 | .tup [k,c]=>kyD k && csD c
 | _=>false
def ltK (a b:List Wd):Bool:=PySem.W.dataLt (py (dW a)) (py (dW b))
def aBE:List (List Wd)→Bool
 | x::y::r=>ltK x y && aBE (y::r)
 | _=>true
def aBL (rs:Rl):Bool:=decide (rs.length≤6) && (rs.all fun r=>kyD (dW r.1) && csD (dC r.2)) && aBE (rs.map (·.1))
end DL
namespace DL
open PySem PySem.Spec PyProof.Rows L2
def wsD (m:Nat) (d:D):Bool:=txD d && (match d with | .tup xs=>decide (xs.length≤m) && adj (eO d) | _=>false)
theorem wsD_dW (m:Nat) (ws:List Wd) (h:txD (dW ws)=true):wsD m (dW ws)=(decide (ws.length≤m) && adj ws):=by
 have e2:eO (dW ws)=ws:=by
  show ((ws.map D.str).map fun d=>match d with | .str x=>x | _=>Str.empty)=ws
  rw [List.map_map]
  exact List.map_id _
 unfold wsD
 rw [h,e2]
 show (true && (decide ((ws.map D.str).length≤m) && adj ws))=_
 rw [List.length_map,Bool.true_and]
theorem ceD_ws (d:D):ceD d=wsD 3 d:=by cases d <;> rfl
theorem wsD_no {m:Nat} {d:D} (h:txD d=false):wsD m d=false:=by
 unfold wsD
 rw [h]
 rfl
end DL
namespace DL
open PySem PySem.Spec PyProof.Rows L2
theorem aAh (ws:List Wd):py (dW ws)= .tuple (ws.map PyData.str):=by
 unfold dW
 rw [py,sV]
 refine congrArg PyData.tuple (List.map_congr_left fun x _=> ?_)
 rw [py]
theorem alike_strs:∀a b:List Wd,PySem.W.alikeAll (a.map PyData.str) (b.map PyData.str)=true
 | [],_=>by rw [List.map_nil,PySem.W.alikeAll]
 | _::_,[]=>by rw [List.map_nil,List.map_cons,PySem.W.alikeAll]
 | x::a,y::b=>by
  rw [List.map_cons,List.map_cons,PySem.W.alikeAll,PySem.W.alike,alike_strs a b]
  rfl
theorem wH (a b:List Wd):PySem.W.alike (py (dW a)) (py (dW b))=true:=by
 rw [aAh,aAh,PySem.W.alike]
 exact alike_strs a b
def tks (a:List Wd):List (Int ⊕ List Nat):=PySem.W.keyToks (py (dW a))
theorem tks_inj {a b:List Wd} (h:tks a=tks b):a=b:=by
 unfold tks at h
 rw [aAh,aAh,PySem.W.keyToks,PySem.W.keyToks] at h
 have key:∀a b:List Wd,PySem.W.keyToksAll (a.map PyData.str)=PySem.W.keyToksAll (b.map PyData.str)→a=b:=by
  intro a
  induction a with
  | nil=>
   intro b h
   cases b with
   | nil=>rfl
   | cons y b=>
    rw [List.map_nil,List.map_cons,PySem.W.keyToksAll,PySem.W.keyToksAll] at h
    have:=List.cons.inj h
    exact absurd (Sum.inl.inj this.1) (by decide)
  | cons x a ih=>
   intro b h
   cases b with
   | nil=>
    rw [List.map_nil,List.map_cons,PySem.W.keyToksAll,PySem.W.keyToksAll] at h
    have:=List.cons.inj h
    exact absurd (Sum.inl.inj this.1) (by decide)
   | cons y b=>
    rw [List.map_cons,List.map_cons,PySem.W.keyToksAll,PySem.W.keyToksAll,PySem.W.keyToks,PySem.W.keyToks] at h
    have h1:=(List.cons.inj h).2
    have h2:=List.cons.inj (show (Sum.inr x.cps.toList:Int ⊕ List Nat)::PySem.W.keyToksAll (a.map PyData.str)=Sum.inr y.cps.toList::PySem.W.keyToksAll (b.map PyData.str) from h1)
    rw [PySem.W.str_of_cps (Sum.inr.inj h2.1),ih b h2.2]
 exact key a b h
theorem vN (a:List Wd):ltK a a=false:=(listOrd itemOrd).irrefl (tks a)
theorem ltK_trans {a b c:List Wd} (h1:ltK a b=true) (h2:ltK b c=true):ltK a c=true:=(listOrd itemOrd).trans (tks a) (tks b) (tks c) h1 h2
theorem ltK_total {a b:List Wd} (h1:ltK a b=false) (h2:ltK b a=false):a=b:=tks_inj ((listOrd itemOrd).total (tks a) (tks b) h1 h2)
def leR (a b:List Wd×List Cell):Bool:= !ltK b.1 a.1
def srt (rs:Rl):Rl:=rs.mergeSort leR
theorem leR_trans (a b c:List Wd×List Cell) (h1:leR a b=true) (h2:leR b c=true):leR a c=true:=by
 unfold leR at*
 rw [Bool.not_eq_true'] at*
 cases h:ltK c.1 a.1 with
 | false=>rfl
 | true=>
  rcases (listOrd itemOrd).negTrans (tks c.1) (tks b.1) (tks a.1) h with z | z
  ·exact absurd (show ltK c.1 b.1=true from z) (by rw [h2];decide)
  ·exact absurd (show ltK b.1 a.1=true from z) (by rw [h1];decide)
theorem leR_total (a b:List Wd×List Cell):(leR a b || leR b a)=true:=by
 unfold leR
 cases h:ltK b.1 a.1 with
 | false=>rfl
 | true=>
  cases h2:ltK a.1 b.1 with
  | false=>rfl
  | true=>
   have:=ltK_trans h h2
   rw [vN] at this
   cases this
def aA5 (rs:Rl):Prop:=rs.Pairwise fun a b=>ltK a.1 b.1=true
theorem adjK_rise:∀{ks:List (List Wd)},ks.Pairwise (fun a b=>ltK a b=true)→aBE ks=true
 | [],_=>rfl
 | [_],_=>rfl
 | x::y::r,h=>by
  obtain ⟨h1,h2⟩:=List.pairwise_cons.mp h
  show (ltK x y && aBE (y::r))=true
  rw [adjK_rise h2,h1 y List.mem_cons_self]
  rfl
theorem riseK_nodup {rs:Rl} (h:aA5 rs):(rs.map (·.1)).Nodup:=by
 refine List.pairwise_map.mpr (List.Pairwise.imp (fun {a b} hab e=> ?_) h)
 rw [e,vN] at hab
 cases hab
theorem srt_self {rs:Rl} (h:aA5 rs):srt rs=rs:=List.mergeSort_of_pairwise (List.Pairwise.imp (fun {a b} hab=>by
 unfold leR
 cases h2:ltK b.1 a.1 with
 | false=>rfl
 | true=>
  have:=ltK_trans hab h2
  rw [vN] at this
  cases this) h)
theorem bB (rs:Rl):(srt rs).Perm rs:=List.mergeSort_perm rs leR
theorem uM {rs:Rl} (nd:(rs.map (·.1)).Nodup):aA5 (srt rs):=by
 have h:=List.pairwise_mergeSort leR_trans leR_total rs
 have nd2:((srt rs).map (·.1)).Nodup:=((bB rs).map (·.1)).nodup_iff.mpr nd
 have nd3:=List.pairwise_map.mp nd2
 refine List.Pairwise.imp₂ (fun {a b} h1 h2=> ?_) h nd3
 unfold leR at h1
 rw [Bool.not_eq_true'] at h1
 cases h3:ltK a.1 b.1 with
 | true=>rfl
 | false=>exact absurd (ltK_total h3 h1) h2
theorem oE {rs:Rl} (nd:(rs.map (·.1)).Nodup) {r:List Wd×List Cell} (h:r∈rs):lk rs r.1=some r.2:=by
 unfold lk
 induction rs with
 | nil=>cases h
 | cons x rs ih=>
  rw [List.map_cons,List.nodup_cons] at nd
  rcases List.mem_cons.mp h with e | h
  ·subst e
   rw [List.find?_cons_of_pos (by simp)]
   rfl
  ·have:x.1≠r.1:=fun e=>nd.1 (by rw [e];exact List.mem_map.mpr ⟨r,h,rfl⟩)
   rw [List.find?_cons_of_neg (by simpa using this)]
   exact ih nd.2 h
theorem sort_keys (rs:Rl):((tbl rs).map fun p=>kD p.1).mergeSort leD=(srt rs).map fun r=>dW r.1:=by
 have e:(tbl rs).map (fun p=>kD p.1)=rs.map fun r=>dW r.1:=by
  unfold tbl
  rw [List.map_map]
  exact List.map_congr_left fun r _=>qU r.1
 rw [e]
 exact (List.map_mergeSort (r:=leR) (s:=leD) (f:=fun r:List Wd×List Cell=>dW r.1) (l:=rs) fun a _ b _=>rfl).symm
section
variable {C:Ctx} {Γ:Gm} {L:Lp} {Q:D→Lp→Prop}
theorem sortable_keys {rs:Rl} (hk:∀r∈rs,r.1≠ []):PySem.W.Sortable ((rs.map fun r=>dW r.1).map py):=by
 refine .inl fun d hd=> ?_
 obtain ⟨x,hx,rfl⟩:=List.mem_map.mp hd
 obtain ⟨r,hr,rfl⟩:=List.mem_map.mp hx
 rw [aAh]
 cases e:r.1 with
 | nil=>exact absurd e (hk r hr)
 | cons y ys=>exact ⟨_,_,rfl⟩
theorem alike_keys (rs:Rl):PySem.W.AllAlike ((rs.map fun r=>dW r.1).map py):=fun d hd d' hd'=>by
 obtain ⟨x,hx,rfl⟩:=List.mem_map.mp hd
 obtain ⟨r,hr,rfl⟩:=List.mem_map.mp hx
 obtain ⟨x',hx',rfl⟩:=List.mem_map.mp hd'
 obtain ⟨r',hr',rfl⟩:=List.mem_map.mp hx'
 exact wH _ _
theorem jC (rs:Rl):(tbl rs).map (fun p=>kD p.1)=rs.map fun r=>dW r.1:=by
 unfold tbl
 rw [List.map_map]
 exact List.map_congr_left fun r _=>qU r.1
theorem c_sortW {p:D} {rs:Rl} (hp:DR L p (tbl rs)) (hz:rs.length≤sizeLine) (hk:∀r∈rs,r.1≠ []) (q:∀l,L l=none→Q (.ptr l) (put L l (.lst ((srt rs).map fun r=>dW r.1)))):LcR C (rSortDT C.X.K) [p] L Q:=fun F vs H c r0 QV go=>by
 obtain ⟨v,rfl,r⟩:=r0.oneE
 obtain ⟨a,kvs,rfl,ha,ra,hks⟩:=hp.at_ c r
 have ek:kvs.map (fun p=>kD p.1)=rs.map fun r=>dW r.1:=by
  rw [←jC,show kvs.map (fun p=>kD p.1)=(kvs.map (·.1)).map kD by rw [List.map_map];rfl,KDs.fst ra,List.map_map]
  rfl
 refine ⟨a,kvs,_,F,rfl,ha,rfl,fun x hx=> ?_,?_,?_,?_,?_,fun l ys hl ry=> ?_⟩
 ·have:x.1∈(tbl rs).map (·.1):=by rw [←KDs.fst ra];exact List.mem_map.mpr ⟨x,hx,rfl⟩
  obtain ⟨y,hy,e⟩:=List.mem_map.mp this
  rw [←e]
  exact hks y hy
 ·rw [ek];exact mY _ _ fun x _=>sY _
 ·rw [ek];exact alike_keys rs
 ·rw [ek];exact sortable_keys hk
 ·rw [ek]
  intro d hd
  obtain ⟨r,_,rfl⟩:=List.mem_map.mp hd
  exact Nat.le_trans (zP _) (by decide)
 ·rw [ek,←jC,sort_keys] at ry
  exact go _ _ _ (put L l (.lst ((srt rs).map fun r=>dW r.1))) (.ptr l) (c.newL hl ⟨ys,upd_same,ry.mono (.new hl),by rw [List.length_map];unfold srt;rw [List.length_mergeSort];exact hz⟩) (.newL hl) (q l (c.free hl))
theorem rJ {p:Addr} {rs:Rl} (hp:L p=some (.lst (rs.map fun r=>dW r.1))) (hk:∀r∈rs,r.1≠ []) (q:∀l,L l=none→Q (.ptr l) (put L l (.lst ((srt rs).map fun r=>dW r.1)))):LcR C (aAz C.X.K) [.ptr p] L Q:=by
 refine c_sortD hp (mY _ _ fun x _=>sY _) (alike_keys rs) (sortable_keys hk) (fun d hd=> ?_) fun l hl=> ?_
 ·obtain ⟨r,_,rfl⟩:=List.mem_map.mp hd
  exact Nat.le_trans (zP _) (by decide)
 ·have e:(rs.map fun r=>dW r.1).mergeSort leD=(srt rs).map fun r=>dW r.1:=by rw [←jC];exact sort_keys rs
  rw [e]
  exact q l hl
end

def ltR:D→Bool
 | .tup [.tup (a::_),.tup (b::_)]=>PySem.W.dataLt (py a) (py b)
 | _=>false
theorem zip_adjK:∀rs:Rl,(qW (rs.map dRu) ((rs.drop 1).map dRu)).all ltR=aBE (rs.map (·.1))
 | []=>rfl
 | [_]=>rfl
 | x::y::r=>by
  show (PySem.W.dataLt (py (dW x.1)) (py (dW y.1)) && (qW ((y::r).map dRu) (((y::r).drop 1).map dRu)).all ltR)=_
  rw [zip_adjK (y::r)]
  rfl
theorem csD_dC {d:D} (h:csD d=true):∃cs:List Cell,d=dC cs:=by
 cases d with
 | tup ds=>
  have h2:(decide (ds.length≤2) && ds.all ceD)=true:=h
  rw [Bool.and_eq_true] at h2
  have key:∀ds:List D,ds.all ceD=true→∃cs:List Cell,ds=cs.map dW:=by
   intro ds
   induction ds with
   | nil=>intro _;exact ⟨[],rfl⟩
   | cons d ds ih=>
    intro h
    rw [List.all_cons,Bool.and_eq_true] at h
    obtain ⟨cs,e⟩:=ih h.2
    have ht:txD d=true:=by
     have:=h.1
     unfold ceD at this
     rw [Bool.and_eq_true] at this
     exact this.1
    obtain ⟨ws,rfl,_⟩:=yW ht
    exact ⟨ws::cs,by rw [e];rfl⟩
  obtain ⟨cs,e⟩:=key ds h2.2
  exact ⟨cs,by rw [e];rfl⟩
 | _=>simp [csD] at h
theorem kyD_dW {d:D} (h:kyD d=true):∃ws:List Wd,d=dW ws:=by
 cases d with
 | tup ds=>
  have h2:(ds.all wdD && decide (1≤ds.length) && decide (ds.length≤3))=true:=h
  rw [Bool.and_eq_true,Bool.and_eq_true] at h2
  obtain ⟨ws,e,_⟩:=yW (d:= .tup ds) h2.1.1
  exact ⟨ws,e⟩
 | _=>simp [kyD] at h
theorem ruD_dRu {d:D} (h:ruD d=true):∃r,d=dRu r:=by
 unfold ruD at h
 split at h
 ·rw [Bool.and_eq_true] at h
  obtain ⟨ws,rfl⟩:=kyD_dW h.1
  obtain ⟨cs,rfl⟩:=csD_dC h.2
  exact ⟨(ws,cs),rfl⟩
 ·cases h
theorem rules_dR:∀{ds:List D},ds.all ruD=true→∃rs:Rl,ds=rs.map dRu
 | [],_=>⟨[],rfl⟩
 | d::ds,h=>by
  rw [List.all_cons,Bool.and_eq_true] at h
  obtain ⟨rs,e⟩:=rules_dR h.2
  obtain ⟨r,rfl⟩:=ruD_dRu h.1
  exact ⟨r::rs,by rw [e];rfl⟩
def rsD:D→Bool
 | .tup ds=>decide (ds.length≤6) && ds.all ruD && (qW ds (ds.drop 1)).all ltR
 | _=>false
theorem rsD_dR (rs:Rl):rsD (dR rs)=aBL rs:=by
 show (decide ((rs.map dRu).length≤6) && (rs.map dRu).all ruD && (qW (rs.map dRu) ((rs.map dRu).drop 1)).all ltR)=_
 rw [←List.map_drop,zip_adjK,List.length_map,List.all_map]
 rfl
structure RuOk (rs:Rl):Prop where
 len:rs.length≤6
 key:∀r∈rs,kyD (dW r.1)=true
 cel:∀r∈rs,csD (dC r.2)=true
 up:aA5 rs
theorem rsOk_of {rs:Rl} (h:RuOk rs):aBL rs=true:=by
 unfold aBL
 rw [decide_eq_true h.len,Bool.true_and,Bool.and_eq_true,List.all_eq_true]
 refine ⟨fun r hr=> ?_,adjK_rise (List.pairwise_map.mpr h.up)⟩
 rw [h.key r hr,h.cel r hr]
 rfl
theorem qI {ws:List Wd} (h:kyD (dW ws)=true):(∀x∈ws,wdS x=true)∧1≤ws.length∧ws.length≤3:=by
 have h2:((ws.map D.str).all wdD && decide (1≤(ws.map D.str).length) && decide ((ws.map D.str).length≤3))=true:=h
 rw [Bool.and_eq_true,Bool.and_eq_true,List.length_map,List.all_map,List.all_eq_true] at h2
 exact ⟨h2.1.1,of_decide_eq_true h2.1.2,of_decide_eq_true h2.2⟩
theorem vX {cs:List Cell} (h:csD (dC cs)=true):cs.length≤2∧∀c∈cs,ceD (dW c)=true:=by
 have h2:(decide ((cs.map dW).length≤2) && (cs.map dW).all ceD)=true:=h
 rw [Bool.and_eq_true,List.length_map,List.all_map,List.all_eq_true] at h2
 exact ⟨of_decide_eq_true h2.1,h2.2⟩
theorem RuOk.r2 {rs:Rl} (h:RuOk rs):RL2 rs:=fun r hr=>(vX (h.cel r hr)).1
theorem RuOk.ne {rs:Rl} (h:RuOk rs):∀r∈rs,r.1≠ []:=fun r hr e=>by
 have:=(qI (h.key r hr)).2.1
 rw [e] at this
 exact absurd this (by decide)
theorem RuOk.nd {rs:Rl} (h:RuOk rs):(rs.map (·.1)).Nodup:=riseK_nodup h.up
end DL
namespace DL
open PySem PySem.Spec PyProof.Rows L2
structure FunX (K:PySem.W.Frag) (x qual:Str) (st:Stmt) (f:Addr) (fd:FuncData):Prop where
 ex:∃(oc:Value) (od:Option Addr) (dV kV doc pm:Value) (an:Option Addr) (cdv ct:Value) (osl:Array (Option Value)),
  fd=PySem.W.fnOf x qual (defArgs st) (defBody st) (defScope st) dV kV doc pm an cdv ct∧K.lookup f=some ⟨oc,od,.func fd,osl⟩∧PySem.W.codeIn K cdv qual=true
 kp:PySem.W.keepIn K (.ref f)=true
theorem FunX.of {K:PySem.W.Frag} {x qual:Str} {st:Stmt} {f:Addr} {fd:FuncData} (F:Fun K x qual st f fd):FunX K x qual st f fd:=by
 obtain ⟨⟨oc,od,kV,doc,pm,an,cdv,ct,osl,h⟩,kp⟩:=F
 exact ⟨⟨oc,od,.none,kV,doc,pm,an,cdv,ct,osl,h⟩,kp⟩
theorem FunX.binds {K:PySem.W.Frag} {x qual:Str} {st:Stmt} {f:Addr} {fd:FuncData} {ps:List Str} (F:FunX K x qual st f fd)
  (h:∀(dV kV doc pm:Value) (an:Option Addr) (cdv ct:Value) (us:List Value),us.length=ps.length→bindArgs (PySem.W.fnOf x qual (defArgs st) (defBody st) (defScope st) dV kV doc pm an cdv ct) ⟨us,[]⟩=pure (ps.zip us)):Binds K fd ps []:=by
 obtain ⟨oc,od,dV,kV,doc,pm,an,cdv,ct,osl,rfl,lk,hcd⟩:=F.ex
 exact .all (h dV kV doc pm an cdv ct)
theorem fnAX {P:Program} {w:World} {K:PySem.W.Frag} {mg:Str→Option Value} {base:Heap} {x qual:Str} {st:Stmt} {f:Addr} {fd:FuncData} {N ps:List Str} {k:Nat} {sp:SpA} (F:FunX K x qual st f fd) (S:FnScope N ps (defScope st)) (hb:Binds K fd ps [])
  (len:∀ds L Q R,sp ds L Q R→ds.length=ps.length)
  (hbody:∀(cdv:Value) (A:Around) (outer:List Env) (s:Shared) (H:Hp) (E:XK) (ds:List D) (L:Lp) (Q:D→Lp→Prop) (R:Value→List (Str×D)→Lp→Prop),Room k (A.deeper (envOfC qual (defScope st) s.heap.objs.size f cdv))→sp ds L Q R→
   ASs (uF P w K mg base N qual (defScope st) f cdv A outer s H E S.nd R) (defBody st) (uD N ds) L (uG Q)):FnA P w K mg base (k+1) f sp:=by
 have G:FnOk P w K mg base (L2.CX P w) (k+1) f fd ps (aBA P w K sp):=by
  obtain ⟨oc,od,dV,kV,doc,pm,an,cdv,ct,osl,rfl,lk,hcd⟩:=F.ex
  refine fn_of lk hcd S (fun vs H Q E ⟨ds,L,Z,Q',R',r,_,h,_⟩=>by rw [r.length];exact len _ _ _ _ h) fun A outer s H vs Q E hr ⟨ds,L,Z,Q',R',r,c,h,hq,he⟩=> ?_
  refine ⟨_,sW,hbody cdv A outer s H E ds L Q' R' hr h _ (L2.start N vs) H ⟨uU r,c,⟨fun cls d σ' H' Γ' L' fs _ c' f' xd q=>he cls fs L' q d H' xd c' f',True.intro⟩⟩ _ ⟨?_,?_,?_,?_⟩⟩
  ·rintro Z' σ' H' Γ' L' ok' f' ⟨L2,le,q⟩
   exact hq .non L2 q .non H' .non (ok'.con.le le) (f'.leR le)
  ·rintro Z' v d H' L' rv c' f' ⟨L2,le,q⟩
   exact hq d L2 q v H' rv (c'.le le) (f'.leR le)
  ·rintro _ _ _ _ _ _ _ z
   exact z.elim
  ·rintro _ _ _ _ _ _ _ z
   exact z.elim
 exact (G.raw hb .nil).imp fun vs H Q E h=>by rw [List.append_nil];exact h
end DL
namespace DL
open PySem PySem.Spec PyProof.Rows L2
theorem law_sp {P:Program} {w:World} {K:PySem.W.Frag} {H:Hp} {a:Addr} {ns:List Int} {sp:SpA} (hO:Only H) (hS:SqL K H a (ns.map V.int)) (h:∀Q R,Q (.bl true) (fun _=>none)→sp [.ilst ns] (fun _=>none) Q R):aBA P w K sp [.ref a] H (fun v _=>v= .bl true) fun _ _ _=>False:=by
 refine ⟨[.ilst ns],fun _=>none,fun _=>False,fun d _=>d= .bl true,fun _ _ _=>False,.cons (.ilst ?_) .nil,⟨fun a o e=>(nomatch e),fun a z=>z.elim⟩,h _ _ rfl,fun d L' ed v H' rv _ _=>by subst ed;exact rv.blE,fun _ _ _ z=>z.elim⟩
 rcases hS with (h1 | ⟨o,h1⟩) | h1
 ·rcases hO a with z | ⟨o,xs,z⟩ <;> rw [h1] at z <;> cases z
 ·exact .inl ⟨o,h1⟩
 ·exact .inr h1
theorem law_cx {P:Program} {w:World} {H:Hp} {s:Shared} {e:Value} {s':Shared} (z:L2.CX P w [] H s (fun _ _ _=>False) e s'):False:=by
 obtain ⟨_,_,_,_,_,_,_,_,_,_,_,_,z⟩:=z
 exact z
end DL
namespace DL
open PySem PySem.Spec PyProof.Rows L2
theorem binds_d {K:PySem.W.Frag} {fd:FuncData} {ps:List Str} {T:Addr} {o:Obj} {its:Array Value} {n:Nat} (lT:K.lookup T=some o) (oT:o.data= .seq its n)
  (h:∀us:List Value,us.length=ps.length→∃k,bindArgs fd ⟨us,[]⟩=seqItems? (.ref T) >>=k∧k (some its)=pure (ps.zip us)):Binds K fd ps []:=fun s us X hl=>by
 rw [List.append_nil] at hl ⊢
 obtain ⟨k,e1,e2⟩:=h us hl
 refine BindsTo.of_looks fun M=> ?_
 rw [e1]
 exact looks_items X lT oT (.of_pure e2)
end DL
namespace DL
open PySem PySem.Spec PyProof.Rows L2
theorem orO {X:Cx} {f:Value→Value→Sem Value} {r r':R2} (h:OpR X f r) (h':OpR X f r'):OpR X f (fun x y H Q=>r x y H Q∨r' x y H Q):=fun pins s σ H x y v u Q I rx ry q=>
 q.elim (h pins s σ H x y v u Q I rx ry) (h' pins s σ H x y v u Q I rx ry)
theorem orC {X:Cx} {f:Value} {r r':List V→Hp→VK→Prop} (h:CallR X f r) (h':CallR X f r'):CallR X f (fun xs H Q=>r xs H Q∨r' xs H Q):=fun pins s σ H xs us Q I rx q=>
 q.elim (h pins s σ H xs us Q I rx) (h' pins s σ H xs us Q I rx)
theorem ix_dT {X:Cx} (hu:X.A.units+1 < cLine):IxR X zH:=fun value slice pins s σ H x y v u Q I rx ry h hs=>by
 obtain ⟨a,w,ex,g,q⟩:=h
 subst ex
 obtain rfl:v=Value.ref a:=rx
 exact tail_any (dict_typeIs I g) PySem.F.slot_dict_getitem.lookup (d_getItem hu I g ry fun w' s3 I3 rw'=>⟨w,H,I3,rw',q⟩) hs
section
variable {C:Ctx} {Γ:Gm} {L:Lp} {e a b c o:Expr} {es:List Expr} {pos:Pos} {st:Stmt} {sts:List Stmt} {E:AEnds} {Q:D→Lp→Prop} {x y:D} {r r':R2}
theorem L2R.le (h:L2R C r x y L Q):L2R C (fun x y H Q=>r x y H Q∨r' x y H Q) x y L Q:=fun F vx vy H c rx ry QV go=> .inl (h F vx vy H c rx ry QV go)
theorem L2R.ri (h:L2R C r' x y L Q):L2R C (fun x y H Q=>r x y H Q∨r' x y H Q) x y L Q:=fun F vx vy H c rx ry QV go=> .inr (h F vx vy H c rx ry QV go)
theorem LcR.le {r r':List V→Hp→VK→Prop} {xs:List D} (h:LcR C r xs L Q):LcR C (fun xs H Q=>r xs H Q∨r' xs H Q) xs L Q:=fun F vs H c rx QV go=> .inl (h F vs H c rx QV go)
theorem LcR.ri {r r':List V→Hp→VK→Prop} {xs:List D} (h:LcR C r' xs L Q):LcR C (fun xs H Q=>r xs H Q∨r' xs H Q) xs L Q:=fun F vs H c rx QV go=> .inr (h F vs H c rx QV go)

@[irreducible] def rAddA (K:PySem.W.Frag):R2:=fun x y H Q=>rI0 (fun i j=> .int (i+j)) x y H Q∨(fun x y H Q=>rAddS x y H Q∨(fun x y H Q=>rCatA K x y H Q∨rCat x y H Q) x y H Q) x y H Q
theorem op_addA {X:Cx}:OpR X (binaryOp .Add) (rAddA X.K):=by
 unfold rAddA
 exact orO op_add (orO op_add_str (orO op_catA op_cat))
theorem aBy {i j:Int} (q:Q (.int (i+j)) L):L2R C (rAddA C.X.K) (.int i) (.int j) L Q:=by
 unfold rAddA
 exact .le (sU q)
theorem add_S {i j:Str} (q:Q (.str (i++j)) L) (h:i.length+j.length≤sizeLine):L2R C (rAddA C.X.K) (.str i) (.str j) L Q:=by
 unfold rAddA
 exact .ri (.le (aAy h q))
theorem xM {xs ys:List D} (q:Q (.tup (xs++ys)) L) (h:xs.length+ys.length≤sizeLine):L2R C (rAddA C.X.K) (.tup xs) (.tup ys) L Q:=by
 unfold rAddA
 exact .ri (.ri (.le (r_catT h q)))
@[irreducible] def rMulA:R2:=fun x y H Q=>rI CMul (fun i j=> .int (i*j)) x y H Q∨aBg x y H Q
theorem op_mulA {X:Cx}:OpR X (binaryOp .Mult) rMulA:=by
 unfold rMulA
 exact orO op_mul op_mulS
theorem mul_I {i j:Int} (q:Q (.int (i*j)) L) (h:CMul i j):L2R C rMulA (.int i) (.int j) L Q:=by
 unfold rMulA
 exact .le (tX h q)
theorem mul_S {z:Str} {n:Int} (q:Q (.str (yC z n.toNat)) L) (h0:0≤n) (h1:n≤1000000) (hz:z.length*n.toNat≤1000000):L2R C rMulA (.str z) (.int n) L Q:=by
 unfold rMulA
 exact .ri (r_mulS h0 h1 hz q)

mutual
def plD:D→Bool
 | .non=>true
 | .int _=>true
 | .str _=>true
 | .tup ds=>vG ds
 | _=>false
def vG:List D→Bool
 | []=>true
 | d::ds=>plD d && vG ds
end
mutual
theorem plD_ok:∀d:D,plD d=true→okD d=true
 | .non,_=>by rw [okD]
 | .int _,_=>by rw [okD]
 | .str _,_=>by rw [okD]
 | .tup ds,h=>by rw [plD] at h;rw [okD];exact plDs_ok ds h
 | .bl _,h=>by simp [plD] at h
 | .ty _,h=>by simp [plD] at h
 | .ptr _,h=>by simp [plD] at h
 | .ilst _,h=>by simp [plD] at h
 | .obj _ _,h=>by simp [plD] at h
 | .flst _,h=>by simp [plD] at h
 | .fdct _,h=>by simp [plD] at h
 | .kdct _,h=>by simp [plD] at h
 | .wds _,h=>by simp [plD] at h
 | .tk _,h=>by simp [plD] at h
 | .iob _ _,h=>by simp [plD] at h
theorem plDs_ok:∀ds:List D,vG ds=true→gA ds=true
 | [],_=>by rw [gA]
 | d::ds,h=>by
  rw [vG,Bool.and_eq_true] at h
  rw [gA,plD_ok d h.1,plDs_ok ds h.2]
  rfl
end
theorem plDs_map {α:Type} (f:α→D):∀xs:List α,(∀x∈xs,plD (f x)=true)→vG (xs.map f)=true
 | [],_=>by rw [List.map_nil,vG]
 | x::xs,h=>by rw [List.map_cons,vG,h x List.mem_cons_self,plDs_map f xs fun y hy=>h y (List.mem_cons_of_mem _ hy)];rfl
end
end DL
namespace DL
open PySem PySem.Spec PyProof.Rows L2
mutual
theorem eqv_pl:∀(x y:D),plD x=true→plD y=true→PyData.eqv (py x) (py y)=true→x=y
 | .non,.non,_,_,_=>rfl
 | .int i,.int j,_,_,h=>by
  rw [py,py,PyData.eqv] at h
  rw [eq_of_beq h]
 | .str x,.str y,_,_,h=>by
  rw [py,py,PyData.eqv] at h
  rw [eq_of_beq h]
 | .tup xs,.tup ys,hx,hy,h=>by
  rw [plD] at hx hy
  rw [py,py,PyData.eqv] at h
  rw [eqvs_pl xs ys hx hy h]
 | .non,.int _,_,_,h=>by simp [py,PyData.eqv] at h
 | .non,.str _,_,_,h=>by simp [py,PyData.eqv] at h
 | .non,.tup _,_,_,h=>by simp [py,PyData.eqv] at h
 | .int _,.non,_,_,h=>by simp [py,PyData.eqv] at h
 | .int _,.str _,_,_,h=>by simp [py,PyData.eqv] at h
 | .int _,.tup _,_,_,h=>by simp [py,PyData.eqv] at h
 | .str _,.non,_,_,h=>by simp [py,PyData.eqv] at h
 | .str _,.int _,_,_,h=>by simp [py,PyData.eqv] at h
 | .str _,.tup _,_,_,h=>by simp [py,PyData.eqv] at h
 | .tup _,.non,_,_,h=>by simp [py,PyData.eqv] at h
 | .tup _,.int _,_,_,h=>by simp [py,PyData.eqv] at h
 | .tup _,.str _,_,_,h=>by simp [py,PyData.eqv] at h
 | .bl _,_,hx,_,_=>by simp [plD] at hx
 | .ty _,_,hx,_,_=>by simp [plD] at hx
 | .ptr _,_,hx,_,_=>by simp [plD] at hx
 | .ilst _,_,hx,_,_=>by simp [plD] at hx
 | .obj _ _,_,hx,_,_=>by simp [plD] at hx
 | .flst _,_,hx,_,_=>by simp [plD] at hx
 | .fdct _,_,hx,_,_=>by simp [plD] at hx
 | .kdct _,_,hx,_,_=>by simp [plD] at hx
 | .wds _,_,hx,_,_=>by simp [plD] at hx
 | .tk _,_,hx,_,_=>by simp [plD] at hx
 | .iob _ _,_,hx,_,_=>by simp [plD] at hx
 | _,.bl _,_,hy,_=>by simp [plD] at hy
 | _,.ty _,_,hy,_=>by simp [plD] at hy
 | _,.ptr _,_,hy,_=>by simp [plD] at hy
 | _,.ilst _,_,hy,_=>by simp [plD] at hy
 | _,.obj _ _,_,hy,_=>by simp [plD] at hy
 | _,.flst _,_,hy,_=>by simp [plD] at hy
 | _,.fdct _,_,hy,_=>by simp [plD] at hy
 | _,.kdct _,_,hy,_=>by simp [plD] at hy
 | _,.wds _,_,hy,_=>by simp [plD] at hy
 | _,.tk _,_,hy,_=>by simp [plD] at hy
 | _,.iob _ _,_,hy,_=>by simp [plD] at hy
theorem eqvs_pl:∀(xs ys:List D),vG xs=true→vG ys=true→PyData.eqvAll (pys xs) (pys ys)=true→xs=ys
 | [],[],_,_,_=>rfl
 | x::xs,y::ys,hx,hy,h=>by
  rw [vG,Bool.and_eq_true] at hx hy
  rw [pys,pys,PyData.eqvAll,Bool.and_eq_true] at h
  rw [eqv_pl x y hx.1 hy.1 h.1,eqvs_pl xs ys hx.2 hy.2 h.2]
 | [],_::_,_,_,h=>by simp [pys,PyData.eqvAll] at h
 | _::_,[],_,_,h=>by simp [pys,PyData.eqvAll] at h
end
mutual
theorem eqv_rf:∀(x:D),plD x=true→PyData.eqv (py x) (py x)=true
 | .non,_=>by rw [py,PyData.eqv]
 | .int i,_=>by rw [py,PyData.eqv];exact beq_self_eq_true i
 | .str x,_=>by rw [py,PyData.eqv];exact beq_self_eq_true x
 | .tup xs,hx=>by
  rw [plD] at hx
  rw [py,PyData.eqv]
  exact eqvs_rf xs hx
 | .bl _,hx=>by simp [plD] at hx
 | .ty _,hx=>by simp [plD] at hx
 | .ptr _,hx=>by simp [plD] at hx
 | .ilst _,hx=>by simp [plD] at hx
 | .obj _ _,hx=>by simp [plD] at hx
 | .flst _,hx=>by simp [plD] at hx
 | .fdct _,hx=>by simp [plD] at hx
 | .kdct _,hx=>by simp [plD] at hx
 | .wds _,hx=>by simp [plD] at hx
 | .tk _,hx=>by simp [plD] at hx
 | .iob _ _,hx=>by simp [plD] at hx
theorem eqvs_rf:∀(xs:List D),vG xs=true→PyData.eqvAll (pys xs) (pys xs)=true
 | [],_=>by rw [pys,PyData.eqvAll]
 | x::xs,hx=>by
  rw [vG,Bool.and_eq_true] at hx
  rw [pys,PyData.eqvAll,eqv_rf x hx.1,eqvs_rf xs hx.2]
  rfl
end
theorem eqv_iff {x y:D} (hx:plD x=true) (hy:plD y=true):PyData.eqv (py x) (py y)=true↔x=y:=⟨eqv_pl x y hx hy,fun e=>by subst e;exact eqv_rf x hx⟩
class Enc (α:Type) where
 enc:α→D
 pl:∀x,plD (enc x)=true
 inj:∀x y,enc x=enc y→x=y
 dep:Nat
 dpt:∀x,(py (enc x)).depth≤dep
open Enc
instance:Enc Str:=⟨.str,fun _=>by rw [plD],fun _ _ h=>D.str.inj h,1,fun _=>by rw [py,PyData.depth];decide⟩
instance:Enc Int:=⟨.int,fun _=>by rw [plD],fun _ _ h=>D.int.inj h,1,fun _=>by rw [py,PyData.depth];decide⟩
instance:Enc Nat:=⟨fun n=> .int n,fun _=>by rw [plD],fun _ _ h=>Int.ofNat.inj (D.int.inj h),1,fun _=>by rw [py,PyData.depth];decide⟩
theorem uH {ds:List PyData} {n:Nat} (h:∀d∈ds,d.depth≤n):(PyData.tuple ds).depth≤n+1:=by
 have key:∀ds:List PyData,(∀d∈ds,d.depth≤n)→PyData.depthAll ds≤n:=by
  intro ds
  induction ds with
  | nil=>intro _;rw [PyData.depthAll];exact Nat.zero_le _
  | cons d ds ih=>
   intro h
   rw [PyData.depthAll]
   exact Nat.max_le.mpr ⟨h d List.mem_cons_self,ih fun x hx=>h x (List.mem_cons_of_mem _ hx)⟩
 rw [PyData.depth]
 have:=key ds h
 omega
theorem map_encinj {α:Type} [Enc α]:∀xs ys:List α,xs.map (enc (α:=α))=ys.map enc→xs=ys
 | [],[],_=>rfl
 | x::xs,y::ys,h=>by
  rw [List.map_cons,List.map_cons] at h
  injection h with h1 h2
  rw [inj x y h1,map_encinj xs ys h2]
 | [],_::_,h=>by cases h
 | _::_,[],h=>by cases h
instance encL {α:Type} [Enc α]:Enc (List α):=⟨fun xs=> .tup (xs.map enc),fun xs=>by rw [plD];exact plDs_map _ _ fun x _=>pl x,fun xs ys h=>map_encinj xs ys (D.tup.inj h),dep α+1,fun xs=>by
 rw [py,sV]
 refine uH fun d hd=> ?_
 obtain ⟨x,_,rfl⟩:=List.mem_map.mp hd
 exact dpt x⟩
instance encP {α β:Type} [Enc α] [Enc β]:Enc (α×β):=⟨fun p=> .tup [enc p.1,enc p.2],fun p=>by rw [plD,vG,vG,vG,pl,pl];rfl,fun p q h=>by
 have h:=D.tup.inj h
 injection h with h1 h2
 injection h2 with h2 _
 exact Prod.ext (inj _ _ h1) (inj _ _ h2),max (dep α) (dep β)+1,fun p=>by
 rw [py,pys,pys,pys]
 refine uH fun d hd=> ?_
 rcases List.mem_cons.mp hd with e | hd
 ·rw [e];exact Nat.le_trans (dpt _) (Nat.le_max_left _ _)
 ·rw [List.mem_singleton.mp hd];exact Nat.le_trans (dpt _) (Nat.le_max_right _ _)⟩
structure T3 (α β γ:Type) where
 a:α
 b:β
 c:γ
instance encT {α β γ:Type} [Enc α] [Enc β] [Enc γ]:Enc (T3 α β γ):=⟨fun p=> .tup [enc p.a,enc p.b,enc p.c],fun p=>by rw [plD,vG,vG,vG,vG,pl,pl,pl];rfl,fun p q h=>by
 have h:=D.tup.inj h
 injection h with h1 h2
 injection h2 with h2 h3
 injection h3 with h3 _
 cases p
 cases q
 congr 1
 ·exact inj _ _ h1
 ·exact inj _ _ h2
 ·exact inj _ _ h3,max (dep α) (max (dep β) (dep γ))+1,fun p=>by
 rw [py,pys,pys,pys,pys]
 refine uH fun d hd=> ?_
 rcases List.mem_cons.mp hd with e | hd
 ·rw [e];exact Nat.le_trans (dpt _) (Nat.le_max_left _ _)
 ·rcases List.mem_cons.mp hd with e | hd
  ·rw [e];exact Nat.le_trans (dpt _) (Nat.le_trans (Nat.le_max_left _ _) (Nat.le_max_right _ _))
  ·rw [List.mem_singleton.mp hd];exact Nat.le_trans (dpt _) (Nat.le_trans (Nat.le_max_right _ _) (Nat.le_max_right _ _))⟩
theorem zN {α:Type} [Enc α] (x:α):okD (enc x)=true:=plD_ok _ (pl x)
theorem eqv_enc {α:Type} [Enc α] (x y:α):PyData.eqv (py (enc x)) (py (enc y))=true↔x=y:=(eqv_iff (pl x) (pl y)).trans ⟨inj x y,fun e=>by rw [e]⟩

theorem eqv_dec {α:Type} [Enc α] [DecidableEq α] (x y:α):PyData.eqv (py (enc x)) (py (enc y))=decide (x=y):=by
 by_cases h:x=y
 ·rw [decide_eq_true h];exact (eqv_enc x y).mpr h
 ·rw [decide_eq_false h]
  cases e:PyData.eqv (py (enc x)) (py (enc y)) with
  | false=>rfl
  | true=>exact absurd ((eqv_enc x y).mp e) h
section
variable {C:Ctx} {Γ:Gm} {L:Lp} {Q:D→Lp→Prop} {x y:D}
@[irreducible] def rEqA (K:PySem.W.Frag):R2:=fun x y H Q=>rEq x y H Q∨rEqD K x y H Q
theorem zK {X:Cx} (hu:X.A.units+64 < cLine):OpR X (compareOp .Eq) (rEqA X.K):=by
 unfold rEqA
 exact orO op_eq (op_eqD hu)
@[irreducible] def rNeA (K:PySem.W.Frag):R2:=fun x y H Q=>rNe x y H Q∨rNeD K x y H Q
theorem zJ {X:Cx} (hu:X.A.units+64 < cLine):OpR X (compareOp .NotEq) (rNeA X.K):=by
 unfold rNeA
 exact orO op_ne (op_neD hu)
theorem aA1 {i j:Int} (q:Q (.bl (decide (i=j))) L):L2R C (rEqA C.X.K) (.int i) (.int j) L Q:=by
 unfold rEqA
 exact .le (aBf q)
theorem aBQ {i j:Int} (q:Q (.bl (!decide (i=j))) L):L2R C (rNeA C.X.K) (.int i) (.int j) L Q:=by
 unfold rNeA
 exact .le (r_neI q)
theorem aBu {i j:Str} (q:Q (.bl (decide (i=j))) L):L2R C (rEqA C.X.K) (.str i) (.str j) L Q:=by
 unfold rEqA
 exact .le (r_eqS q)
theorem aBG {i j:Str} (q:Q (.bl (!decide (i=j))) L):L2R C (rNeA C.X.K) (.str i) (.str j) L Q:=by
 unfold rNeA
 exact .le (r_neS q)
theorem eq_D (hx:okD x=true) (hy:okD y=true) (dx:(py x).depth≤64) (dy:(py y).depth≤64) (q:Q (.bl (PyData.eqv (py x) (py y))) L):L2R C (rEqA C.X.K) x y L Q:=by
 unfold rEqA
 exact .ri (r_eqD hx hy dx dy q)
theorem ne_D (hx:okD x=true) (hy:okD y=true) (dx:(py x).depth≤64) (dy:(py y).depth≤64) (q:Q (.bl (!PyData.eqv (py x) (py y))) L):L2R C (rNeA C.X.K) x y L Q:=by
 unfold rNeA
 exact .ri (r_neD hx hy dx dy q)
theorem eq_self (hx:okD x=true) (dx:(py x).depth≤64) (q:Q (.bl true) L):L2R C (rEqA C.X.K) x x L Q:=by
 unfold rEqA
 exact .ri (r_eqSame hx dx q)
theorem ne_self (hx:okD x=true) (dx:(py x).depth≤64) (q:Q (.bl false) L):L2R C (rNeA C.X.K) x x L Q:=by
 unfold rNeA
 exact .ri (r_neSame hx dx q)

theorem eq_E {α:Type} [Enc α] [DecidableEq α] {x y:α} (q:Q (.bl (decide (x=y))) L) (h:dep α≤64:=by decide):L2R C (rEqA C.X.K) (enc x) (enc y) L Q:=by
 exact eq_D (zN x) (zN y) (Nat.le_trans (dpt x) h) (Nat.le_trans (dpt y) h) (by rw [eqv_dec];exact q)

theorem ne_E {α:Type} [Enc α] [DecidableEq α] {x y:α} (q:Q (.bl (!decide (x=y))) L) (h:dep α≤64:=by decide):L2R C (rNeA C.X.K) (enc x) (enc y) L Q:=by
 exact ne_D (zN x) (zN y) (Nat.le_trans (dpt x) h) (Nat.le_trans (dpt y) h) (by rw [eqv_dec];exact q)
end
end DL
namespace DL
open PySem PySem.Spec PyProof.Rows L2
section
variable {C:Ctx} {Γ:Gm} {L:Lp} {e a b c o tg iter elt:Expr} {es:List Expr} {pos p p1 p2:Pos} {st:Stmt} {sts:List Stmt} {E:AEnds} {Q:D→Lp→Prop} {x y:D}
@[irreducible] def rLtA (K:PySem.W.Frag):R2:=fun x y H Q=>rI0 (fun i j=> .bl (decide (i < j))) x y H Q∨(fun x y H Q=>rLtS x y H Q∨aBO K x y H Q) x y H Q
theorem op_ltA {X:Cx} (hu:X.A.units+64 < cLine):OpR X (compareOp .Lt) (rLtA X.K):=by
 unfold rLtA
 exact orO op_lt (orO op_lt_str (op_ltD hu))
theorem lt_I {i j:Int} (q:Q (.bl (decide (i < j))) L):L2R C (rLtA C.X.K) (.int i) (.int j) L Q:=by
 unfold rLtA
 exact .le (aBM q)
theorem lt_S {i j:Str} (q:Q (.bl (decide (i.cps.toList < j.cps.toList))) L):L2R C (rLtA C.X.K) (.str i) (.str j) L Q:=by
 unfold rLtA
 exact .ri (.le (r_ltS q))
abbrev rIsN:R2:=fun x y H Q=>y= .non∧Q (.bl (decide (x= .non))) H
def isN:D→Bool
 | .non=>true
 | _=>false
theorem is_N (q:Q (.bl (isN x)) L):L2R C rIsN x .non L Q:=fun F vx vy H c rx ry QV go=>by
 refine ⟨ry.nonE,?_⟩
 have e:decide (vx=V.non)=isN x:=by
  cases rx <;> simp [isN]
 rw [e]
 exact go _ _ H L (.bl _) c (.refl L H) q
theorem not_N (q:Q (.bl (!isN x)) L):L2R C rNotN x .non L Q:=fun F vx vy H c rx ry QV go=>by
 refine ⟨ry.nonE,?_⟩
 have e:(!decide (vx=V.non))= !isN x:=by
  cases rx <;> simp [isN]
 rw [e]
 exact go _ _ H L (.bl _) c (.refl L H) q
@[irreducible] def rIxA (K:PySem.W.Frag):R2:=fun x y H Q=>rIxT K x y H Q∨(fun x y H Q=>rIxL K x y H Q∨(fun x y H Q=>rIxS x y H Q∨zH x y H Q) x y H Q) x y H Q
theorem nA {X:Cx} (hu:X.A.units+1 < cLine):IxR X (rIxA X.K):=by
 unfold rIxA
 exact ix_tup.or (ix_list.or (ix_str.or (ix_dT hu)))
theorem aA0 {xs:List D} {i:Int} {d:D} (q:Q d L) (h:atI xs i=some d):L2R C (rIxA C.X.K) (.tup xs) (.int i) L Q:=by
 unfold rIxA
 exact .le (aAw h q)
theorem ixa_N {ns:List Int} {i k:Int} (q:Q (.int k) L) (h:atI ns i=some k):L2R C (rIxA C.X.K) (.ilst ns) (.int i) L Q:=by
 unfold rIxA
 exact .ri (.le (r_ixN h q))
theorem ixa_S {z:Str} {i:Int} {k:Nat} (q:Q (.str ⟨#[k]⟩) L) (h:atI z.cps.toList i=some k):L2R C (rIxA C.X.K) (.str z) (.int i) L Q:=by
 unfold rIxA
 exact .ri (.ri (.le (r_ixS h q)))
@[irreducible] def rSlAA (K:PySem.W.Frag):V→Option Int→Option Int→Hp→VK→Prop:=fun x lo hi H Q=>rSlA K x lo hi H Q∨(fun x lo hi H Q=>rSlL K x lo hi H Q∨rSlS x lo hi H Q) x lo hi H Q
theorem sl_A {X:Cx}:SlR X (rSlAA X.K):=by
 unfold rSlAA
 exact sl_tupA.or (sl_list.or sl_str)
theorem sla_T {xs:List D} {lo hi:Option Int} (q:Q (.tup (cut xs lo hi)) L):LsR C (rSlAA C.X.K) (.tup xs) lo hi L Q:=by
 unfold rSlAA
 exact fun F v H c r QV go=> .inl (aAd q F v H c r QV go)
theorem sla_S {z:Str} {lo hi:Option Int} (q:Q (.str (cutS z lo hi)) L):LsR C (rSlAA C.X.K) (.str z) lo hi L Q:=by
 unfold rSlAA
 exact fun F v H c r QV go=> .inr (.inr (aAW q F v H c r QV go))
@[irreducible] def rLeA:R2:=rI0 fun i j=> .bl (decide (i≤j))
theorem nQ {X:Cx}:OpR X (compareOp .LtE) rLeA:=by
 unfold rLeA
 exact op_le
theorem le_I {i j:Int} (q:Q (.bl (decide (i≤j))) L):L2R C rLeA (.int i) (.int j) L Q:=by
 unfold rLeA
 exact aBd q
@[irreducible] def rGtA:R2:=rI0 fun i j=> .bl (decide (j < i))
theorem op_gtA {X:Cx}:OpR X (compareOp .Gt) rGtA:=by
 unfold rGtA
 exact op_gt
theorem aBH {i j:Int} (q:Q (.bl (decide (j < i))) L):L2R C rGtA (.int i) (.int j) L Q:=by
 unfold rGtA
 exact aBN q
@[irreducible] def rGeA:R2:=rI0 fun i j=> .bl (decide (j≤i))
theorem op_geA {X:Cx}:OpR X (compareOp .GtE) rGeA:=by
 unfold rGeA
 exact op_ge
theorem ge_I {i j:Int} (q:Q (.bl (decide (j≤i))) L):L2R C rGeA (.int i) (.int j) L Q:=by
 unfold rGeA
 exact r_ge q
@[irreducible] def rSubA:R2:=rI0 fun i j=> .int (i - j)
theorem op_subA {X:Cx}:OpR X (binaryOp .Sub) rSubA:=by
 unfold rSubA
 exact op_sub
theorem sub_I {i j:Int} (q:Q (.int (i - j)) L):L2R C rSubA (.int i) (.int j) L Q:=by
 unfold rSubA
 exact r_sub q
@[irreducible] def rModA:R2:=rI (fun _ j=>0 < j) fun i j=> .int (i % j)
theorem op_modA {X:Cx}:OpR X (binaryOp .Mod) rModA:=by
 unfold rModA
 exact op_mod
theorem mod_I {i j:Int} (q:Q (.int (i % j)) L) (h:0 < j):L2R C rModA (.int i) (.int j) L Q:=by
 unfold rModA
 exact tY h q
@[irreducible] def rDivA:R2:=rI CDiv fun i j=> .int (i / j)
theorem op_divA {X:Cx}:OpR X (binaryOp .FloorDiv) rDivA:=by
 unfold rDivA
 exact op_fdiv
theorem div_I {i j:Int} (q:Q (.int (i / j)) L) (h:CDiv i j):L2R C rDivA (.int i) (.int j) L Q:=by
 unfold rDivA
 exact aAx h q
@[irreducible] def rIsA:R2:=rIsN
theorem op_isA {X:Cx}:OpR X (compareOp .Is) rIsA:=by
 unfold rIsA
 exact op_isN
theorem isa_N (q:Q (.bl (isN x)) L):L2R C rIsA x .non L Q:=by
 unfold rIsA
 exact is_N q
@[irreducible] def rIsNotA:R2:=rNotN
theorem op_isNotA {X:Cx}:OpR X (compareOp .IsNot) rIsNotA:=by
 unfold rIsNotA
 exact op_notN
theorem isnota_N (q:Q (.bl (!isN x)) L):L2R C rIsNotA x .non L Q:=by
 unfold rIsNotA
 exact not_N q
@[irreducible] def rLenA (K:PySem.W.Frag):List V→Hp→VK→Prop:=fun xs H Q=>aAB K xs H Q∨(fun xs H Q=>rLenSt xs H Q∨aBh xs H Q) xs H Q
theorem call_lenA {X:Cx}:CallR X (.builtin "len") (rLenA X.K):=by
 unfold rLenA
 exact orC call_len_seq (orC call_len_str call_lenD)
end
end DL
namespace DL
open PySem PySem.Spec PyProof.Rows L2
abbrev cl (x:Str):List Nat:=x.cps.toList
theorem zU (x:Str):(cl x).length=x.length:=Array.length_toList ..
def aBC (ks:List Nat):Bool:=ks.all fun k=>decide (k∈abc)
theorem wdS_cl (x:Str):wdS x=(decide (1≤(cl x).length) && decide ((cl x).length≤8) && aBC (cl x)):=by
 rw [zU]
 rfl
theorem wW {x:Str} (h1:1≤(cl x).length) (h2:(cl x).length≤8) (h3:aBC (cl x)=true):wdS x=true:=by
 rw [wdS_cl,decide_eq_true h1,decide_eq_true h2,h3]
 rfl
theorem wdS_iff {x:Str} (h:wdS x=true):1≤(cl x).length∧(cl x).length≤8∧aBC (cl x)=true:=by
 rw [wdS_cl,Bool.and_eq_true,Bool.and_eq_true] at h
 exact ⟨of_decide_eq_true h.1.1,of_decide_eq_true h.1.2,h.2⟩
theorem rN {a:List Nat} (h:aBC a=true):∀k∈a,k∈abc:=fun k hk=>of_decide_eq_true (List.all_eq_true.mp h k hk)
theorem qO {a:List Nat} (h:∀k∈a,k∈abc):aBC a=true:=List.all_eq_true.mpr fun k hk=>decide_eq_true (h k hk)
theorem yN (ks:List Nat):cl (Txt.join Str.empty (ks.map sgn))=ks:=by
 rw [TL.join_eq]
 have h:=TL.tl_join Str.empty (ks.map sgn)
 have e:∀ks:List Nat,TL.joinL (TL.tl Str.empty) ((ks.map sgn).map TL.tl)=ks:=by
  intro ks
  induction ks with
  | nil=>rfl
  | cons k ks ih=>
   cases ks with
   | nil=>rfl
   | cons k2 ks=>
    show [k]++([]++TL.joinL (TL.tl Str.empty) (((k2::ks).map sgn).map TL.tl))=_
    rw [ih]
    rfl
 exact h.trans (e ks)
theorem cl_rep (x:Str) (n:Nat):cl (yC x n)=(List.replicate n (cl x)).flatten:=by
 unfold yC cl
 simp
theorem cl_app (x y:Str):cl (x++y)=cl x++cl y:=by
 show (x.cps++y.cps).toList=_
 simp
theorem xH (z:Str) (lo hi:Option Int):cl (cutS z lo hi)=cut (cl z) lo hi:=by
 unfold cutS cl cut
 simp
 rfl
theorem cl_sgn (k:Nat):cl (sgn k)= [k]:=rfl
theorem signs_mem {x:Str} {d:D} (h:d∈cV x):∃k,k∈cl x∧d= .str (sgn k):=by
 unfold cV at h
 obtain ⟨k,hk,rfl⟩:=List.mem_map.mp h
 exact ⟨k,hk,rfl⟩
theorem filter_len {α:Type} [DecidableEq α] (l:List α) (nd:l.Nodup):∀ys:List α,l.length≤(l.filter fun x=> !decide (x∈ys)).length+ys.length
 | []=>by
  rw [List.filter_eq_self.mpr (by simp)]
  exact Nat.le_refl _
 | y::ys=>by
  have ih:=filter_len l nd ys
  have e:(l.filter fun x=> !decide (x∈y::ys))=(l.filter fun x=> !decide (x∈ys)).filter fun x=> !decide (x=y):=by
   rw [List.filter_filter]
   congr 1
   funext x
   by_cases h1:x=y <;> by_cases h2:x∈ys <;> simp [h1,h2]
  have nd2:(l.filter fun x=> !decide (x∈ys)).Nodup:=nd.filter _
  have h3:∀m:List α,m.Nodup→m.length≤(m.filter fun x=> !decide (x=y)).length+1:=by
   intro m
   induction m with
   | nil=>intro _;exact Nat.zero_le _
   | cons x m ihm=>
    intro hm
    obtain ⟨h1,h2⟩:=List.nodup_cons.mp hm
    by_cases hx:x=y
    ·rw [List.filter_cons_of_neg (by simp [hx]),List.length_cons]
     have:m.filter (fun x=> !decide (x=y))=m:=List.filter_eq_self.mpr fun z hz=>by
      have:z≠y:=fun e=>h1 (by rw [hx,←e];exact hz)
      simp [this]
     rw [this]
     exact Nat.le_refl _
    ·rw [List.filter_cons_of_pos (by simp [hx]),List.length_cons,List.length_cons]
     have:=ihm h2
     omega
  have:=h3 _ nd2
  rw [e,List.length_cons]
  omega
theorem sum_sgn:∀ks:List Nat,((ks.map sgn).map (·.length)).sum=ks.length
 | []=>rfl
 | k::ks=>by
  rw [List.map_cons,List.map_cons,List.sum_cons,sum_sgn ks,List.length_cons]
  show 1+_=_
  omega
theorem abc_nodup:(abc.map sgn).Nodup:=by decide+kernel
theorem abc_len:abc.length=26:=by decide+kernel
theorem abc_ne:∀ys:List Str,ys.length < 26→∃k r,(abc.map sgn).filter (fun x=> !decide (x∈ys))=sgn k::r∧k∈abc:=fun ys h=>by
 have h1:=filter_len (abc.map sgn) abc_nodup ys
 rw [List.length_map,abc_len] at h1
 cases e:(abc.map sgn).filter (fun x=> !decide (x∈ys)) with
 | nil=>rw [e] at h1;simp at h1;omega
 | cons x r=>
  have hx:x∈(abc.map sgn).filter (fun x=> !decide (x∈ys)):=by rw [e];exact List.mem_cons_self
  obtain ⟨k,hk,rfl⟩:=List.mem_map.mp (List.mem_filter.mp hx).1
  exact ⟨k,r,rfl,hk⟩
section
variable {C:Ctx} {Γ:Gm} {L:Lp} {Q:D→Lp→Prop}
theorem nD (x:Str) (ys:List Str):inV (.str x) (ys.map V.str)=decide (x∈ys):=by
 unfold inV
 rw [List.any_map]
 induction ys with
 | nil=>rfl
 | cons y ys ih=>
  rw [List.any_cons,ih]
  show ((y==x) || _)=_
  by_cases h:x=y
  ·subst h;simp
  ·have:(y==x)=false:=by simpa using fun e=>h e.symm
   rw [this]
   simp [h]
theorem r_inL {p:Addr} {x:Str} {ys:List Str} (hp:L p=some (.lst (ys.map D.str))) (q:Q (.bl (decide (x∈ys))) L):L2R C (rIn C.X.K false) (.str x) (.ptr p) L Q:=fun F vx vy H c rx ry QV go=>by
 obtain ⟨ws,ha,ra,_⟩:=c.at_ p _ hp
 have e:=cW ra
 subst e
 refine ⟨p,_,ry.ptrE,.inl (SqL.of ha),by rw [rx.strE];rfl,by rw [List.all_map];exact List.all_eq_true.mpr fun _ _=>rfl,?_⟩
 rw [rx.strE]
 show QV (.bl (inV (.str x) (ys.map V.str))) H
 rw [nD]
 exact go _ _ H L (.bl _) c (.refl L H) q
theorem r_notInL {p:Addr} {x:Str} {ys:List Str} (hp:L p=some (.lst (ys.map D.str))) (q:Q (.bl (!decide (x∈ys))) L):L2R C (rIn C.X.K true) (.str x) (.ptr p) L Q:=fun F vx vy H c rx ry QV go=>by
 obtain ⟨ws,ha,ra,_⟩:=c.at_ p _ hp
 have e:=cW ra
 subst e
 refine ⟨p,_,ry.ptrE,.inl (SqL.of ha),by rw [rx.strE];rfl,by rw [List.all_map];exact List.all_eq_true.mpr fun _ _=>rfl,?_⟩
 rw [rx.strE]
 show QV (.bl (!inV (.str x) (ys.map V.str))) H
 rw [nD]
 exact go _ _ H L (.bl _) c (.refl L H) q
end
end DL
namespace DL
open PySem PySem.Spec PyProof.Rows L2
theorem gG {C:Ctx} {Γ:Gm} {L:Lp} {E:AEnds} {st:Stmt} {sts:List Stmt} (M:Gm→Lp→Prop) (h:AS C st Γ L {E with nx:=M}) (h2:∀Γ' L',M Γ' L'→ASs C sts Γ' L' E):ASs C (st::sts) Γ L E:=
 aJ fun F σ H ok DD go=>h F σ H ok DD ⟨fun s H2 Γ2 L2 o f q=>go.nx s H2 Γ2 L2 o f (h2 _ _ q),go.rt,go.bk,go.ct⟩
def St2 (L:Lp) (p:Addr) (mo:MO) (n:Addr) (x:MO):Lp:=put (put L p mo) n x
theorem St2.p {L:Lp} {p n:Addr} {mo x:MO} (h:n≠p):St2 L p mo n x p=some mo:=by
 unfold St2
 rw [aK (Ne.symm h),aF]
theorem St2.n {L:Lp} {p n:Addr} {mo x:MO}:St2 L p mo n x n=some x:=aF
theorem St2.putP {L:Lp} {p n:Addr} {mo mo' x:MO} (h:n≠p):put (St2 L p mo n x) p mo'=St2 L p mo' n x:=by
 unfold St2
 rw [put_comm h,cI]
theorem St2.putN {L:Lp} {p n:Addr} {mo x x':MO}:put (St2 L p mo n x) n x'=St2 L p mo n x':=cI
theorem St2.le {L:Lp} {p n:Addr} {mo x:MO} (h:L n=none) (hn:n≠p):Le (put L p mo) (St2 L p mo n x):=aU (by rw [aK hn];exact h)
end DL
namespace DL
open PySem PySem.Spec PyProof.Rows L2
theorem nJ (ws:List Wd):eO (dW ws)=ws:=by
 show ((ws.map D.str).map fun d=>match d with | .str x=>x | _=>Str.empty)=ws
 rw [List.map_map]
 exact List.map_id _
theorem putR_keys {rs:Rl} {k:List Wd} {z:List Cell}:(vC rs k z).map (·.1)=if rs.any (fun r=>decide (r.1=k)) then rs.map (·.1) else rs.map (·.1)++ [k]:=by
 unfold vC
 split
 ·rw [List.map_map]
  refine List.map_congr_left fun r _=> ?_
  show (if r.1=k then (r.1,z) else r).1=r.1
  split <;> rfl
 ·rw [List.map_append]
  rfl
theorem putR_nodup {rs:Rl} {k:List Wd} {z:List Cell} (nd:(rs.map (·.1)).Nodup):((vC rs k z).map (·.1)).Nodup:=by
 rw [putR_keys]
 split
 ·exact nd
 ·rename_i h
  refine List.nodup_append.mpr ⟨nd,by simp,fun a ha b hb e=>h ?_⟩
  rw [List.mem_singleton] at hb
  obtain ⟨r,hr,hre⟩:=List.mem_map.mp ha
  exact List.any_eq_true.mpr ⟨r,hr,decide_eq_true (by rw [hre,e,hb])⟩
theorem rE (rs:Rl) (k:List Wd) (z:List Cell):(vC rs k z).length≤rs.length+1:=by
 unfold vC
 split
 ·rw [List.length_map];omega
 ·rw [List.length_append];exact Nat.le_refl _
theorem rD {rs:Rl} {k:List Wd} {z:List Cell} {r:List Wd×List Cell} (h:r∈vC rs k z):r=(k,z)∨r∈rs:=by
 unfold vC at h
 split at h
 ·obtain ⟨x,hx,e⟩:=List.mem_map.mp h
  split at e
  ·rename_i e2
   exact .inl (by rw [←e,e2])
  ·exact .inr (by rw [←e];exact hx)
 ·rcases List.mem_append.mp h with h | h
  ·exact .inr h
  ·exact .inl (List.mem_singleton.mp h)
theorem pN (rs:Rl):(tbl rs).length=rs.length:=List.length_map ..
theorem mergeD_tbl {rs:Rl} (nd:(rs.map (·.1)).Nodup):qP [] (tbl rs)=tbl rs:=by
 have key:∀(more done:Rl),((done++more).map (·.1)).Nodup→qP (tbl done) (tbl more)=tbl (done++more):=by
  intro more
  induction more with
  | nil=>intro done _;rw [List.append_nil];rfl
  | cons r more ih=>
   intro done nd
   show qP (putD (tbl done) (kS r.1) (dC r.2)) (tbl more)=_
   rw [yD]
   have e:vC done r.1 r.2=done++ [r]:=by
    unfold vC
    have:done.any (fun x=>decide (x.1=r.1))=false:=by
     rw [List.any_eq_false]
     intro x hx hxe
     have hxe:=of_decide_eq_true hxe
     rw [List.map_append,List.nodup_append] at nd
     exact nd.2.2 x.1 (List.mem_map.mpr ⟨x,hx,rfl⟩) r.1 (by rw [List.map_cons];exact List.mem_cons_self) hxe
    rw [this]
    rfl
   rw [e,ih (done++ [r]) (by rw [List.append_assoc];exact nd),List.append_assoc]
   rfl
 exact key rs [] nd
end DL
namespace DL
open PySem PySem.Spec PyProof.Rows L2
section
variable {C:Ctx} {Γ:Gm} {L:Lp} {Q:D→Lp→Prop}
end
def hd0 (c:Cell):Wd:=c.headD Str.empty
theorem fits_eq (rs:Rl) (cs:List Cell) (a m:Nat):fits rs cs a m=(decide (((cs.drop a).take m).length=m) && ((cs.drop a).take m).all (fun c=>decide (c.length=1)) && (lk rs (((cs.drop a).take m).map hd0)).isSome):=by
 unfold fits wAt
 have hle:((cs.drop a).take m).length≤m:=by rw [List.length_take];omega
 generalize (cs.drop a).take m=sm at hle ⊢
 have e:sm.any (fun c=>decide (c.length≠1))= !sm.all (fun c=>decide (c.length=1)):=by
  rw [List.not_all_eq_any_not]
  congr 1
  funext c
  by_cases h:c.length=1 <;> simp [h]
 rw [e]
 by_cases h1:sm.length=m
 ·rw [decide_eq_true h1]
  cases h2:sm.all (fun c=>decide (c.length=1)) with
  | true=>
   rw [if_neg (by rintro (z | z); · omega
                  ·exact absurd z (by decide))]
   rfl
  | false=>
   rw [if_pos (.inr rfl)]
   rfl
 ·rw [decide_eq_false h1,if_pos (.inl (by omega))]
  rfl
theorem rQ {cs:List Cell} {a m:Nat} {ws:List Wd} (h:wAt cs a m=some ws):ws=((cs.drop a).take m).map hd0∧∀c∈(cs.drop a).take m,c.length=1:=by
 unfold wAt at h
 split at h
 ·cases h
 ·rename_i hc
  cases h
  refine ⟨rfl,fun c hcm=> ?_⟩
  have h2:((cs.drop a).take m).any (fun c=>decide (c.length≠1))=false:=by
   cases e:((cs.drop a).take m).any (fun c=>decide (c.length≠1)) with
   | false=>rfl
   | true=>exact absurd (.inr e) hc
  have:=List.any_eq_false.mp h2 c hcm
  simpa using this
theorem tbl_pD (rs:Rl):(tbl rs).map pD=rs.map dRu:=by
 unfold tbl
 rw [List.map_map]
 refine List.map_congr_left fun r _=> ?_
 show D.tup [kD (kS r.1),dC r.2]=D.tup [dW r.1,dC r.2]
 rw [qU]
end DL
namespace DL
open PySem PySem.Spec PyProof.Rows L2
section
variable {C:Ctx} {Γ:Gm} {L:Lp} {e a b c o tg iter elt:Expr} {es:List Expr} {pos p p1 p2:Pos} {st:Stmt} {sts:List Stmt} {E:AEnds} {Q:D→Lp→Prop} {x y d:D} {ds:List D} {kds:List (List Key×D)}
@[irreducible] def rInA (K:PySem.W.Frag):R2:=fun x y H Q=>aAY x y H Q∨(fun x y H Q=>rInSign x y H Q∨rIn K false x y H Q) x y H Q
theorem aAE {X:Cx} (hu:X.A.units+1 < cLine):OpR X (compareOp .In) (rInA X.K):=by
 unfold rInA
 exact orO (op_inDT hu) (orO op_in_sign op_in_seq)
@[irreducible] def rNotInA (K:PySem.W.Frag):R2:=fun x y H Q=>rC x y H Q∨rIn K true x y H Q
theorem op_notInA {X:Cx} (hu:X.A.units+1 < cLine):OpR X (compareOp .NotIn) (rNotInA X.K):=by
 unfold rNotInA
 exact orO (op_notInDT hu) op_notIn_seq
theorem in_W {rs:Rl} {k:List Wd} (hp:DR L d (tbl rs)) (q:Q (.bl (lk rs k).isSome) L):L2R C (rInA C.X.K) (dW k) d L Q:=by
 unfold rInA
 exact .le (r_inW hp q)
theorem notIn_W {rs:Rl} {k:List Wd} (hp:DR L d (tbl rs)) (q:Q (.bl (!(lk rs k).isSome)) L):L2R C (rNotInA C.X.K) (dW k) d L Q:=by
 unfold rNotInA
 exact .le (r_notInW hp q)
theorem in_sign {k:Nat} {z:Str} (q:Q (.bl (decide (k∈z.cps.toList))) L):L2R C (rInA C.X.K) (.str (sgn k)) (.str z) L Q:=by
 unfold rInA
 exact .ri (.le (r_inSign q))
theorem in_L {x:Str} {ys:List Str} (hp:LR L d (ys.map D.str)) (q:Q (.bl (decide (x∈ys))) L):L2R C (rInA C.X.K) (.str x) d L Q:=by
 unfold rInA
 exact .ri (.ri fun F vx vy H c rx ry QV go=>by
 obtain ⟨p,ws,rfl,ha,ra,_⟩:=hp.at_ c ry
 have e:=cW ra
 subst e
 refine ⟨p,_,rfl,.inl (SqL.of ha),by rw [rx.strE];rfl,by rw [List.all_map];exact List.all_eq_true.mpr fun _ _=>rfl,?_⟩
 rw [rx.strE]
 show QV (.bl (inV (.str x) (ys.map V.str))) H
 rw [nD]
 exact go _ _ H L (.bl _) c (.refl L H) q)
theorem in_T {x:Str} {ys:List Str} (q:Q (.bl (decide (x∈ys))) L):L2R C (rInA C.X.K) (.str x) (.tup (ys.map D.str)) L Q:=by
 unfold rInA
 exact .ri (.ri fun F vx vy H c rx ry QV go=>by
 obtain ⟨p,ws,rfl,ha,ra⟩:=ry.tupE
 have e:=cW ra
 subst e
 refine ⟨p,_,rfl,.inr (SqT.of ha),by rw [rx.strE];rfl,by rw [List.all_map];exact List.all_eq_true.mpr fun _ _=>rfl,?_⟩
 rw [rx.strE]
 show QV (.bl (inV (.str x) (ys.map V.str))) H
 rw [nD]
 exact go _ _ H L (.bl _) c (.refl L H) q)
theorem notIn_L {x:Str} {ys:List Str} (hp:LR L d (ys.map D.str)) (q:Q (.bl (!decide (x∈ys))) L):L2R C (rNotInA C.X.K) (.str x) d L Q:=by
 unfold rNotInA
 refine .ri fun F vx vy H c rx ry QV go=> ?_
 obtain ⟨p,ws,rfl,ha,ra,_⟩:=hp.at_ c ry
 have e:=cW ra
 subst e
 refine ⟨p,_,rfl,.inl (SqL.of ha),by rw [rx.strE];rfl,by rw [List.all_map];exact List.all_eq_true.mpr fun _ _=>rfl,?_⟩
 rw [rx.strE]
 show QV (.bl (!inV (.str x) (ys.map V.str))) H
 rw [nD]
 exact go _ _ H L (.bl _) c (.refl L H) q
theorem notIn_T {x:Str} {ys:List Str} (q:Q (.bl (!decide (x∈ys))) L):L2R C (rNotInA C.X.K) (.str x) (.tup (ys.map D.str)) L Q:=by
 unfold rNotInA
 refine .ri fun F vx vy H c rx ry QV go=> ?_
 obtain ⟨p,ws,rfl,ha,ra⟩:=ry.tupE
 have e:=cW ra
 subst e
 refine ⟨p,_,rfl,.inr (SqT.of ha),by rw [rx.strE];rfl,by rw [List.all_map];exact List.all_eq_true.mpr fun _ _=>rfl,?_⟩
 rw [rx.strE]
 show QV (.bl (!inV (.str x) (ys.map V.str))) H
 rw [nD]
 exact go _ _ H L (.bl _) c (.refl L H) q
theorem aBt {i:Int} {x:D} (hp:LR L d ds) (q:Q x L) (h:atI ds i=some x):L2R C (rIxA C.X.K) d (.int i) L Q:=by
 unfold rIxA
 exact .ri (.le (lr_ix hp h q))
theorem ixa_W {rs:Rl} {k:List Wd} {z:List Cell} (hp:DR L d (tbl rs)) (q:Q (dC z) L) (h:lk rs k=some z):L2R C (rIxA C.X.K) d (dW k) L Q:=by
 unfold rIxA
 rw [←qU]
 exact .ri (.ri (.ri (dr_get hp (by rw [rR,h];rfl) q)))
theorem len_T (q:Q (.int ds.length) L):LcR C (rLenA C.X.K) [.tup ds] L Q:=by
 unfold rLenA
 exact .le (uI q)
theorem len_N {ns:List Int} (q:Q (.int ns.length) L):LcR C (rLenA C.X.K) [.ilst ns] L Q:=by
 unfold rLenA
 exact .le (c_lenN q)
theorem len_L (hp:LR L d ds) (q:Q (.int ds.length) L):LcR C (rLenA C.X.K) [d] L Q:=by
 unfold rLenA
 exact .le (lr_len hp q)
theorem len_S {z:Str} (q:Q (.int z.length) L):LcR C (rLenA C.X.K) [.str z] L Q:=by
 unfold rLenA
 exact .ri (.le (aAP q))
theorem len_D (hp:DR L d kds) (q:Q (.int kds.length) L):LcR C (rLenA C.X.K) [d] L Q:=by
 unfold rLenA
 exact .ri (.ri (dr_len hp q))
def AL (C:Ctx) (e:Expr) (Γ:Gm) (L:Lp) (R:List D→Lp→Prop):Prop:=AE C e Γ L fun d L2=> ∃L1 p ds,d= .ptr p∧L1 p=none∧L2=put L1 p (.lst ds)∧(ds.length≤sizeLine→R ds L1)
theorem aBI (h:AL C e Γ L fun ds L1=> ∀p,L1 p=none→Q (.ptr p) (put L1 p (.lst ds))):AE C e Γ L Q:=fun F σ H ok QV go=>h F σ H ok QV fun v d H' L' r c f ⟨L1,p,ds,ed,hn,eL,q⟩=>by
 subst ed eL
 obtain ⟨_,_,_,hz⟩:=c.at_ p _ aF
 exact go _ _ H' _ r c f (q hz p hn)
theorem AL.mono {R R':List D→Lp→Prop} (h:AL C e Γ L R) (m:∀ds L1,R ds L1→R' ds L1):AL C e Γ L R':=AE.mono h fun d L2 ⟨L1,p,ds,e1,e2,e3,q⟩=>⟨L1,p,ds,e1,e2,e3,fun z=>m _ _ (q z)⟩
theorem ae_tupL (hm:C.X.mg "tuple"=none) (h:AL C e Γ L fun ds L1=>Q (.tup ds) L1) (hg:Gl C.X "tuple" :=by rfl) (he:starEach [e] C.X.env= [(false,eval e C.X.env)]:=by rfl):AE C (.Call (.Name "tuple" p) [e] [] pos) Γ L Q:=
 AE.drop (aR call_tuple_of hm (aC (AE.mono (aBI (Q:=fun d L2=> ∃L1 p ds,d= .ptr p∧L1 p=none∧L2=put L1 p (.lst ds)∧Q (.tup ds) L1) (h.mono fun ds L1 q p hp=>⟨L1,p,ds,rfl,hp,rfl,q⟩)) fun d L2 ⟨L1,p,ds,ed,hn,eL,q⟩=>by
  subst ed eL
  exact aD (mJ aF ⟨L1,aU hn,q⟩)) he) (hg:=hg) (he:=he))
theorem ae_allL (hm:C.X.mg "all"=none) (h:AL C e Γ L fun ds L1=> ∃bs:List Bool,ds=bs.map D.bl∧Q (.bl (bs.all id)) L1) (hg:Gl C.X "all" :=by rfl) (he:starEach [e] C.X.env= [(false,eval e C.X.env)]:=by rfl):AE C (.Call (.Name "all" p) [e] [] pos) Γ L Q:=
 AE.drop (aP (cr_all C.calm) hm (aC (AE.mono (aBI (Q:=fun d L2=> ∃L1 p bs,d= .ptr p∧L1 p=none∧L2=put L1 p (.lst (bs.map D.bl))∧Q (.bl (bs.all id)) L1) (h.mono fun ds L1 ⟨bs,e,q⟩ p hp=>⟨L1,p,bs,rfl,hp,by rw [e],q⟩)) fun d L2 ⟨L1,p,ds,ed,hn,eL,q⟩=>by
  subst ed eL
  exact aD (c_all aF ⟨L1,aU hn,q⟩)) he) (hg:=hg) (he:=he))
theorem ae_anyL (hm:C.X.mg "any"=none) (h:AL C e Γ L fun ds L1=> ∃bs:List Bool,ds=bs.map D.bl∧Q (.bl (bs.any id)) L1) (hg:Gl C.X "any" :=by rfl) (he:starEach [e] C.X.env= [(false,eval e C.X.env)]:=by rfl):AE C (.Call (.Name "any" p) [e] [] pos) Γ L Q:=
 AE.drop (aP (cr_any C.calm) hm (aC (AE.mono (aBI (Q:=fun d L2=> ∃L1 p bs,d= .ptr p∧L1 p=none∧L2=put L1 p (.lst (bs.map D.bl))∧Q (.bl (bs.any id)) L1) (h.mono fun ds L1 ⟨bs,e,q⟩ p hp=>⟨L1,p,bs,rfl,hp,by rw [e],q⟩)) fun d L2 ⟨L1,p,ds,ed,hn,eL,q⟩=>by
  subst ed eL
  exact aD (c_any aF ⟨L1,aU hn,q⟩)) he) (hg:=hg) (he:=he))
theorem AL.elim {R:List D→Lp→Prop} (h:AL C e Γ L R):AE C e Γ L fun d L2=> ∃L1 p ds,d= .ptr p∧L1 p=none∧L2=put L1 p (.lst ds)∧ds.length≤sizeLine∧R ds L1:=fun F σ H ok QV go=>h F σ H ok QV fun v d H' L' r c f ⟨L1,p,ds,ed,hn,eL,q⟩=>by
 subst ed eL
 obtain ⟨_,_,_,hz⟩:=c.at_ p _ aF
 exact go _ _ H' _ r c f ⟨L1,p,ds,rfl,hn,rfl,hz,q hz⟩
def AVT (C:Ctx) (e:Expr) (Γ:Gm) (L:Lp) (b:Bool):Prop:= ∀Q:Bool→Lp→Prop,Q b L→AT C e Γ L Q
theorem aBx (own:List (Str×Nat)) {scope:Scope} {ifs:List Expr} {R:List D→Lp→Prop}
  (h:AI C tg iter Γ L fun ds G L1=> ∃I:Nat→List D→Lp→Prop,I 0 [] L1∧(∀i acc L2,I i acc L2→G L2)∧
   (∀i d acc L2,ds[i]? =some d→I i acc L2→∃Γ3 ws,(∀j∈ws,j∈own.map (·.2))∧∀s H Cc cl fp,AG (cZ C scope s H Cc cl fp) tg d (dB Γ (own.map (·.2))) Γ3 ws∧
    ATs (cZ C scope s H Cc cl fp) ifs Γ3 L2 fun k L3=>(k=true→∀s H Cc cl fp,AE (cZ C scope s H Cc cl fp) elt Γ3 L3 fun y L4=>acc.length < sizeLine∧I (i+1) (acc++ [y]) L4)∧(k=false→I (i+1) acc L3))∧
   ∀acc L2,I ds.length acc L2→R acc L2)
  (ok:BlkOk C.X.N C.X.env.scope scope own:=by (dsimp only [uF,cZ,cxOf,envOfC,compEnvC,Cx.blk];exact blkOk_by (by decide+kernel))) (hs:∀x,foldedSetIterable iter C.X.env x=pure x:=by intro _;rfl):AL C (.ListComp elt [⟨tg,iter,ifs,0⟩] scope pos) Γ L R:=
 yP own (fun F σ H okk RV go=>h F σ H okk RV fun J H' L' ds G c f it ⟨I,h1,h2,h3,h4⟩=>go J H' L' ds G c f it ⟨I,h1,h2,h3,fun acc L2 hi p hp=>⟨L2,p,acc,rfl,hp,rfl,fun _=>h4 acc L2 hi⟩⟩) ok hs
theorem vO {own:List (Str×Nat)} {scope:Scope} {ifs:List Expr} {α:Type} {xs:List α} {g f:α→D} {t:α→Bool} {G:Lp→Prop} {L1:Lp} {R:List D→Lp→Prop} {Γ3:α→Gm} {ws:List Nat} (hG:G L1) (hz:xs.length≤sizeLine) (hw:∀j∈ws,j∈own.map (·.2))
  (hf:∀x∈xs,∀s H Cc cl fp,AG (cZ C scope s H Cc cl fp) tg (g x) (dB Γ (own.map (·.2))) (Γ3 x) ws∧(∀Q:Bool→Lp→Prop,Q (t x) L1→ATs (cZ C scope s H Cc cl fp) ifs (Γ3 x) L1 Q)∧(t x=true→AV (cZ C scope s H Cc cl fp) elt (Γ3 x) L1 (f x)))
  (q:R ((xs.filter t).map f) L1):∃I:Nat→List D→Lp→Prop,I 0 [] L1∧(∀i acc L2,I i acc L2→G L2)∧
   (∀i d acc L2,(xs.map g)[i]? =some d→I i acc L2→∃Γ3 ws,(∀j∈ws,j∈own.map (·.2))∧∀s H Cc cl fp,AG (cZ C scope s H Cc cl fp) tg d (dB Γ (own.map (·.2))) Γ3 ws∧
    ATs (cZ C scope s H Cc cl fp) ifs Γ3 L2 fun k L3=>(k=true→∀s H Cc cl fp,AE (cZ C scope s H Cc cl fp) elt Γ3 L3 fun y L4=>acc.length < sizeLine∧I (i+1) (acc++ [y]) L4)∧(k=false→I (i+1) acc L3))∧
   ∀acc L2,I (xs.map g).length acc L2→R acc L2:=by
 refine ⟨fun i acc L2=>acc=((xs.take i).filter t).map f∧L2=L1,⟨rfl,rfl⟩,fun i acc L2 h=>by rw [h.2];exact hG,fun i d acc L2 hd ⟨ea,el⟩=> ?_,fun acc L2 ⟨ea,el⟩=> ?_⟩
 ·subst el
  rw [List.getElem?_map] at hd
  cases ex:xs[i]? with
  | none=>rw [ex] at hd;cases hd
  | some x=>
   rw [ex] at hd
   cases hd
   have hi:=(List.getElem?_eq_some_iff.mp ex).1
   have hm:=List.mem_of_getElem? ex
   have hlen:((xs.take i).filter t).length≤i:=Nat.le_trans (List.length_filter_le _ _) (by rw [List.length_take];omega)
   refine ⟨Γ3 x,ws,hw,fun s H Cc cl fp=>⟨(hf x hm s H Cc cl fp).1,(hf x hm s H Cc cl fp).2.1 _ ⟨fun ht s H Cc cl fp=>(hf x hm s H Cc cl fp).2.2 ht _ ⟨?_,?_,rfl⟩,fun hn=>⟨?_,rfl⟩⟩⟩⟩
   ·rw [ea,List.length_map]
    omega
   ·rw [ea,List.take_add_one,ex,List.filter_append,List.map_append]
    show _=_++([x].filter t).map f
    rw [List.filter_cons_of_pos ht]
    rfl
   ·rw [ea,List.take_add_one,ex,List.filter_append,List.map_append]
    show _=_++([x].filter t).map f
    rw [List.filter_cons_of_neg (by rw [hn];exact Bool.false_ne_true)]
    simp
 ·subst el
  rw [ea,List.length_map,List.take_length]
  exact q
theorem oH (i:Nat) {x:Str} {px:Pos} {scope:Scope} {R:List D→Lp→Prop}
  (h:AI C (.Name x px) iter Γ L fun ds G L1=> ∃(α:Type) (xs:List α) (g f:α→D),ds=xs.map g∧G L1∧ds.length≤sizeLine∧(∀y∈xs,∀s H Cc cl fp,AV (cZ C scope s H Cc cl fp) elt ((dB Γ [i]).set i (some (g y))) L1 (f y))∧R (xs.map f) L1)
  (hN:C.X.N[i]? =some x:=by rfl) (hag:∀s H Cc cl fp d Γ,AG (cZ C scope s H Cc cl fp) (.Name x px) d Γ (Γ.set i (some d)) [i]:=by (intro _ _ _ _ _ _ _;exact aM _))
  (ok:BlkOk C.X.N C.X.env.scope scope [(x,i)]:=by (dsimp only [uF,cZ,cxOf,envOfC,compEnvC,Cx.blk];exact blkOk_by (by decide+kernel))) (hs:∀x,foldedSetIterable iter C.X.env x=pure x:=by intro _;rfl):AL C (.ListComp elt [⟨.Name x px,iter,[],0⟩] scope pos) Γ L R:=
 aBx [(x,i)] (fun F σ H okk RV go=>h F σ H okk RV fun J H' L' ds G c f it ⟨α,xs,g,f',e,hG,hz,hf,q⟩=>by
  subst e
  rw [List.length_map] at hz
  exact go J H' L' _ G c f it (vO (t:=fun _=>true) hG hz (fun j hj=>hj) (fun y hy s H Cc cl fp=>⟨hag s H Cc cl fp _ _,fun Q q=>jA q,fun _=>hf y hy s H Cc cl fp⟩) (by rw [List.filter_eq_self.mpr fun _ _=>rfl];exact q))) ok hs
theorem al_filt1 (i:Nat) {x:Str} {px:Pos} {scope:Scope} {R:List D→Lp→Prop}
  (h:AI C (.Name x px) iter Γ L fun ds G L1=> ∃(α:Type) (xs:List α) (g:α→D) (t:α→Bool) (f:α→D),ds=xs.map g∧G L1∧ds.length≤sizeLine∧(∀y∈xs,∀s H Cc cl fp,AVT (cZ C scope s H Cc cl fp) c ((dB Γ [i]).set i (some (g y))) L1 (t y)∧(t y=true→AV (cZ C scope s H Cc cl fp) elt ((dB Γ [i]).set i (some (g y))) L1 (f y)))∧R ((xs.filter t).map f) L1)
  (hN:C.X.N[i]? =some x:=by rfl) (hag:∀s H Cc cl fp d Γ,AG (cZ C scope s H Cc cl fp) (.Name x px) d Γ (Γ.set i (some d)) [i]:=by (intro _ _ _ _ _ _ _;exact aM _))
  (ok:BlkOk C.X.N C.X.env.scope scope [(x,i)]:=by (dsimp only [uF,cZ,cxOf,envOfC,compEnvC,Cx.blk];exact blkOk_by (by decide+kernel))) (hs:∀x,foldedSetIterable iter C.X.env x=pure x:=by intro _;rfl):AL C (.ListComp elt [⟨.Name x px,iter,[c],0⟩] scope pos) Γ L R:=
 aBx [(x,i)] (fun F σ H okk RV go=>h F σ H okk RV fun J H' L' ds G cc f it ⟨α,xs,g,t,f',e,hG,hz,hf,q⟩=>by
  subst e
  rw [List.length_map] at hz
  exact go J H' L' _ G cc f it (vO (t:=t) hG hz (fun j hj=>hj) (fun y hy s H Cc cl fp=>⟨hag s H Cc cl fp _ _,fun Q q=>ats_one ((hf y hy s H Cc cl fp).1 Q q),(hf y hy s H Cc cl fp).2⟩) q)) ok hs
end
end DL
namespace DL
open PySem PySem.Spec PyProof.Rows L2
section
variable {C:Ctx} {Γ:Gm} {L:Lp} {e a b c o tg iter elt:Expr} {es:List Expr} {pos p p1 p2:Pos} {st:Stmt} {sts:List Stmt} {E:AEnds} {Q:D→Lp→Prop} {x y d:D} {ds:List D} {kds:List (List Key×D)}
theorem kds_get {F:Fz} {H:Hp} {K:PySem.W.Frag} {kvs:List (List Key×V)} {kds:List (List Key×D)} (h:KDs K F H kvs kds) {i:Nat} {k:List Key} {v:V} (e:kvs[i]? =some (k,v)):∃d,kds[i]? =some (k,d):=by
 induction h generalizing i with
 | nil=>simp at e
 | @cons p q l1 l2 h1 h2 ih=>
  cases i with
  | zero=>
   simp at e
   subst e
   refine ⟨q.2,?_⟩
   have:=h1.1
   simp only at this
   rw [this]
   rfl
  | succ i=>exact ih (i:=i) (by simpa using e)
theorem itkt_is {t:Addr} {od:Obj} {kvs:List (List Key×V)} {L0:Lp} {F0:Fz} {H0:Hp} (st:∀F L H,Fr L0 F0 H0 L F H→H t=some (.frz od (.dT kvs))) (rr:KDs C.X.K F0 H0 kvs kds) (hk:∀q∈kds,KOk q.1):aA9 C (Itkt t od kvs) (kds.map fun x=>kD x.1) (fun _=>True) L0 F0 H0:=by
 intro F i H L s c g
 have hl:kvs.length=kds.length:=Paired.length rr
 have ht:=st F L H s
 rw [List.length_map]
 refine ⟨fun h=>⟨ht,by omega⟩,fun h=>⟨ht,by omega⟩,fun x H' y hi=> ?_⟩
 obtain ⟨e1,k,v,q,e2,e3,e4⟩:=y
 subst e1 e3
 obtain ⟨d,hd⟩:=kds_get rr e2
 exact ⟨kD k,by rw [List.getElem?_map,hd];rfl,aAK e4 (hk _ (List.mem_of_getElem? hd)),.inl rfl⟩
theorem ai_fdct {R:List D→(Lp→Prop)→Lp→Prop} (h:AE C e Γ L fun d L1=> ∃kds,d= .fdct kds∧R (kds.map fun x=>kD x.1) (fun _=>True) L1):AI C tg e Γ L R:=fun F σ H ok RV go=>
 qR (pi_keys bA) (h _ σ H ok _ fun v d H1 L1 r c f ⟨kds,ed,q⟩=>by
  subst ed
  obtain ⟨a,kvs,ea,hrd,rr,hk⟩:=DR.fz.at_ c r
  cases r with
  | @fdct a' kvs' _ o hl ha hk' hn he hi=>
   cases ea
   have ekv:kvs=kvs':=by
    rcases hrd with z | ⟨o',z⟩
    ·rw [ha] at z;cases z
    ·rw [ha] at z;cases z;rfl
   subst ekv
   exact ⟨_,o,rfl,.inr ⟨kvs,ha,go _ H1 L1 _ _ c f (itkt_is (fun F2 L2 H2 s=>s.fk _ _ hl ha) rr hk) q⟩⟩)
theorem unlock {F:Fz} {H:Hp} {t:Addr} {od:Obj} {kvs:List (List Key×V)} (c:C.Con L F H) (ht:H t=some (.frz od (.dT kvs))) (fD:¬F t) (rr:KDs C.X.K F H kvs kds) (hk:∀q∈kds,KOk q.1):Mv F H F (upd H t (.dT kvs))∧C.Con (put L t (.dct kds)) F (upd H t (.dT kvs)):=by
 have ne:∀b u,H b=some u→u≠ .frz od (.dT kvs)→b≠t:=fun b u eb nd q=>by rw [q,ht] at eb;exact nd (Option.some.inj eb).symm
 have st:Stay H (upd H t (.dT kvs)):=⟨fun b vs eb=>by rw [upd_ne (ne b _ eb fun z=>nomatch z)];exact eb,fun b o xs eb=>by rw [upd_ne (ne b _ eb fun z=>by cases z)];exact eb,fun b eb=>by rw [upd_ne (ne b _ eb fun z=>nomatch z)];exact eb⟩
 have mv:Mv F H F (upd H t (.dT kvs)):= .hid st fD
 refine ⟨mv,⟨fun b u eb=> ?_,fun b z=> ?_⟩⟩
 ·by_cases hb:b=t
  ·subst hb
   rw [aF] at eb
   cases eb
   exact ⟨kvs,upd_same,KDs.mono mv rr,hk⟩
  ·rw [aK hb] at eb
   exact (c.at_ b u eb).mono mv (upd_ne hb)
 ·have hb:b≠t:=fun q=>fD (q ▸z)
  rw [aK hb,upd_ne hb]
  exact c.fz b z
theorem put_del {t q:Addr} {u w:MO} (ht:L t=some u) (hq:del L t q=none) (hqt:q≠t):put (put (del L t) q w) t u=put L q w:=by
 funext b
 unfold put del
 by_cases h1:b=t
 ·rw [if_pos h1,h1,if_neg (fun z=>hqt z.symm),ht]
 ·rw [if_neg h1,if_neg h1]
theorem al_keys1 (i:Nat) {x:Str} {px:Pos} {scope:Scope} {R:List D→Lp→Prop} {α:Type} {xs:List α} {g f:α→D} (hd:DR L d kds) (hi:∀L',AV C iter Γ L' d) (ek:(kds.map fun x=>kD x.1)=xs.map g) (hz:xs.length≤sizeLine)
  (hf:∀L',Le L' L→∀y∈xs,∀s H Cc cl fp,AV (cZ C scope s H Cc cl fp) elt ((dB Γ [i]).set i (some (g y))) L' (f y)) (q:R (xs.map f) L)
  (hN:C.X.N[i]? =some x:=by rfl) (hag:∀s H Cc cl fp d Γ,AG (cZ C scope s H Cc cl fp) (.Name x px) d Γ (Γ.set i (some d)) [i]:=by (intro _ _ _ _ _ _ _;exact aM _))
  (ok:BlkOk C.X.N C.X.env.scope scope [(x,i)]:=by (dsimp only [uF,cZ,cxOf,envOfC,compEnvC,Cx.blk];exact blkOk_by (by decide+kernel))) (hs:∀x,foldedSetIterable iter C.X.env x=pure x:=by intro _;rfl):AL C (.ListComp elt [⟨.Name x px,iter,[],0⟩] scope pos) Γ L R:=by
 rcases hd with ⟨t,rfl,ht⟩ | rfl
 ·intro F σ H okk QV go
  obtain ⟨kvs,e,rr,hk⟩:=okk.con.at_ t _ ht
  have nft:=okk.con.nw ht
  refine dD (pe_lock (pe_lc (g:=gB C scope (.Name x px)) (tt:=ttB C scope []) (te:=teB C scope elt) C.calm C.nd yF ok (fun s H0 Cc cl fp=>⟨fun pins s1 σ1 H1 v u Q1 I r q=>(q s H0 Cc cl fp).run pins s1 u I r⟩) (fun s H0 Cc cl fp=>⟨fun pins s1 σ1 H1 Q1 I q=>(q s H0 Cc cl fp).run pins s1 I⟩) (fun s H0 Cc cl fp=>⟨fun pins s1 σ1 H1 Q1 I q=>(q s H0 Cc cl fp).run pins s1 I⟩) hs)) ⟨t,.dT kvs,e,True.intro,fun od=> ?_⟩
  have ne:∀b u,H b=some u→(∀k,u≠ .dT k)→b≠t:=fun b u eb nd z=>by rw [z,e] at eb;exact nd _ (Option.some.inj eb).symm
  have st:Stay H (upd H t (.frz od (.dT kvs))):=⟨fun b vs eb=>by rw [upd_ne (ne b _ eb fun _ z=>nomatch z)];exact eb,fun b o xs eb=>by rw [upd_ne (ne b _ eb fun _ z=>nomatch z)];exact eb,fun b eb=>by rw [upd_ne (ne b _ eb fun _ z=>nomatch z)];exact eb⟩
  have mv:Mv F H F (upd H t (.frz od (.dT kvs))):= .hid st nft
  have fr:Fr L F H (del L t) F (upd H t (.frz od (.dT kvs))):=⟨fun b u eb _ nb=>by rw [upd_ne (fun z=>by rw [z,ht] at nb;cases nb)];exact eb,fun b z=>cA z,st,fun b z=> .inl ((jG t).ne z),mv.fz,mv.fk,fun b z=> .inl z⟩
  have c1:C.Con (del L t) F (upd H t (.frz od (.dT kvs))):=((okk.con.le (jG t)).hid st del_same nft)
  have ok1:Ok C Γ (del L t) F σ (upd H t (.frz od (.dT kvs))):=⟨okk.sl.mono mv,c1,okk.lr.step fr⟩
  have rr1:=KDs.mono mv rr
  refine lc_read0 (own:= [(x,i)]) (Q:=fun d L2=> ∃q,d= .ptr q∧del L t q=none∧L2=put (del L t) q (.lst (xs.map f))) ok1 (fun v d H' L' r c f2 ⟨q',ed,hq,eL⟩=> ?_) (fun RV g2=> ?_)
  ·subst ed eL
   obtain ⟨lt,ft,ht'⟩:=f2.hid upd_same (fun _ z=>nomatch z) del_same nft
   have hqt:q'≠t:=fun z=>by rw [z,aF] at lt;cases lt
   obtain ⟨mv2,c2⟩:=unlock c ht' ft (KDs.mono f2.mv rr1) hk
   rw [put_del ht hq hqt] at c2
   have hq0:L q'=none:=by rw [del_ne hqt] at hq;exact hq
   refine ⟨ht',go v (.ptr q') _ _ (r.mono mv2) c2 ?_ ⟨L,q',_,rfl,hq0,rfl,fun _=>q⟩⟩
   refine ⟨fun b u eb no nb=> ?_,fun b z=>cA (f2.live b (cA z)),(st.trans f2.stay).trans mv2.stay,fun b z=> ?_,fun b z=>f2.fz b z,fun b u z eb=>mv2.fk b u (f2.fz b z) (f2.fk b u z (mv.fk b u z eb)),fun b z=> ?_⟩
   ·have hb:b≠t:=fun z=>by rw [z,ht] at nb;cases nb
    rw [upd_ne hb]
    exact f2.keep b u (by rw [upd_ne hb];exact eb) no (by rw [del_ne hb];exact nb)
   ·by_cases hb:b=q'
    ·rw [hb]
     rcases f2.dom q' (by rw [aF];simp) with z2 | z2
     ·exact absurd hq z2
     ·rw [upd_ne hqt] at z2
      exact .inr z2
    ·rw [aK hb] at z
     exact .inl z
   ·rcases f2.off b z with z | z | z
    ·exact .inl z
    ·exact .inr (.inl ((jG t).ne z))
    ·by_cases hb:b=t
     ·rw [hb,upd_same] at z;cases z
     ·rw [upd_ne hb] at z
      exact .inr (.inr z)
  ·refine qR (pi_keys bA) (hi (del L t) (fun d L2=>d= .ptr t∧L2=del L t) ⟨rfl,rfl⟩ _ σ _ ok1 _ fun v d H2 L2 r2 c2 f2 ⟨ed,eL⟩=> ?_)
   subst ed eL
   have ht2:=f2.keep t _ upd_same (fun _ z=>nomatch z) del_same
   refine ⟨t,od,r2.ptrE,.inr ⟨kvs,ht2,g2 _ H2 _ (kds.map fun x=>kD x.1) (fun _=>True) c2 f2 (itkt_is (fun F3 L3 H3 s=>s.keep t _ ht2 (fun _ z=>nomatch z) del_same) (KDs.mono f2.mv rr1) hk) ?_⟩⟩
   rw [ek]
   obtain ⟨I,i0,i1,i2,i3⟩:=vO (C:=C) (tg:= .Name x px) (Γ:=Γ) (elt:=elt) (own:= [(x,i)]) (scope:=scope) (ifs:= []) (xs:=xs) (g:=g) (f:=f) (t:=fun _=>true) (G:=fun _=>True) (L1:=del L t) (R:=fun acc L2=>acc=xs.map f∧L2=del L t) (Γ3:=fun y=>(dB Γ [i]).set i (some (g y))) (ws:= [i]) trivial hz (fun j hj=>hj) (fun y hy s H Cc cl fp=>⟨hag s H Cc cl fp _ _,fun Q q=>jA q,fun _=>hf (del L t) (jG t) y hy s H Cc cl fp⟩) ⟨by rw [List.filter_eq_self.mpr fun _ _=>rfl],rfl⟩
   refine ⟨I,i0,i1,i2,fun acc L2 hI p hp=> ?_⟩
   obtain ⟨e1,e2⟩:=i3 acc L2 hI
   subst e1 e2
   exact ⟨p,rfl,hp,rfl⟩
 ·exact oH i (ai_fdct (hi L _ ⟨kds,rfl,α,xs,g,f,ek,trivial,by rw [ek,List.length_map];exact hz,fun y hy s H Cc cl fp=>hf L (.refl L) y hy s H Cc cl fp,q⟩)) hN hag ok hs
end
end DL
namespace DL
open PySem PySem.Spec PyProof.Rows L2
section
variable {C:Ctx} {Γ:Gm} {L:Lp} {a b c e:Expr} {pos:Pos} {Q:D→Lp→Prop}
theorem aA4 (hu:C.X.A.units+64 < cLine) (h:AE C a Γ L fun x L1=>AE C b Γ L1 fun y L2=>L2R C (rEqA C.X.K) x y L2 Q) (hm:behindInMarks .Eq b=false:=by rfl):AE C (.Compare a [.Eq] [b] pos) Γ L Q:=eQ (zK hu) hm h
theorem qN (hu:C.X.A.units+64 < cLine) {Q:Bool→Lp→Prop} (h:AE C a Γ L fun x L1=>AE C b Γ L1 fun y L2=>L2R C (rEqA C.X.K) x y L2 fun d L3=> ∃k,d= .bl k∧Q k L3) (hm:behindInMarks .Eq b=false:=by rfl):AT C (.Compare a [.Eq] [b] pos) Γ L Q:=eU (zK hu) hm h
theorem ae_ne (hu:C.X.A.units+64 < cLine) (h:AE C a Γ L fun x L1=>AE C b Γ L1 fun y L2=>L2R C (rNeA C.X.K) x y L2 Q) (hm:behindInMarks .NotEq b=false:=by rfl):AE C (.Compare a [.NotEq] [b] pos) Γ L Q:=eQ (zJ hu) hm h
theorem at_ne (hu:C.X.A.units+64 < cLine) {Q:Bool→Lp→Prop} (h:AE C a Γ L fun x L1=>AE C b Γ L1 fun y L2=>L2R C (rNeA C.X.K) x y L2 fun d L3=> ∃k,d= .bl k∧Q k L3) (hm:behindInMarks .NotEq b=false:=by rfl):AT C (.Compare a [.NotEq] [b] pos) Γ L Q:=eU (zJ hu) hm h
theorem ae_lt (hu:C.X.A.units+64 < cLine) (h:AE C a Γ L fun x L1=>AE C b Γ L1 fun y L2=>L2R C (rLtA C.X.K) x y L2 Q) (hm:behindInMarks .Lt b=false:=by rfl):AE C (.Compare a [.Lt] [b] pos) Γ L Q:=eQ (op_ltA hu) hm h
theorem at_lt (hu:C.X.A.units+64 < cLine) {Q:Bool→Lp→Prop} (h:AE C a Γ L fun x L1=>AE C b Γ L1 fun y L2=>L2R C (rLtA C.X.K) x y L2 fun d L3=> ∃k,d= .bl k∧Q k L3) (hm:behindInMarks .Lt b=false:=by rfl):AT C (.Compare a [.Lt] [b] pos) Γ L Q:=eU (op_ltA hu) hm h
theorem ae_le (h:AE C a Γ L fun x L1=>AE C b Γ L1 fun y L2=>L2R C (rLeA) x y L2 Q) (hm:behindInMarks .LtE b=false:=by rfl):AE C (.Compare a [.LtE] [b] pos) Γ L Q:=eQ (nQ) hm h
theorem at_le {Q:Bool→Lp→Prop} (h:AE C a Γ L fun x L1=>AE C b Γ L1 fun y L2=>L2R C (rLeA) x y L2 fun d L3=> ∃k,d= .bl k∧Q k L3) (hm:behindInMarks .LtE b=false:=by rfl):AT C (.Compare a [.LtE] [b] pos) Γ L Q:=eU (nQ) hm h
theorem ae_gt (h:AE C a Γ L fun x L1=>AE C b Γ L1 fun y L2=>L2R C (rGtA) x y L2 Q) (hm:behindInMarks .Gt b=false:=by rfl):AE C (.Compare a [.Gt] [b] pos) Γ L Q:=eQ (op_gtA) hm h
theorem aA3 {Q:Bool→Lp→Prop} (h:AE C a Γ L fun x L1=>AE C b Γ L1 fun y L2=>L2R C (rGtA) x y L2 fun d L3=> ∃k,d= .bl k∧Q k L3) (hm:behindInMarks .Gt b=false:=by rfl):AT C (.Compare a [.Gt] [b] pos) Γ L Q:=eU (op_gtA) hm h
theorem ae_ge (h:AE C a Γ L fun x L1=>AE C b Γ L1 fun y L2=>L2R C (rGeA) x y L2 Q) (hm:behindInMarks .GtE b=false:=by rfl):AE C (.Compare a [.GtE] [b] pos) Γ L Q:=eQ (op_geA) hm h
theorem at_ge {Q:Bool→Lp→Prop} (h:AE C a Γ L fun x L1=>AE C b Γ L1 fun y L2=>L2R C (rGeA) x y L2 fun d L3=> ∃k,d= .bl k∧Q k L3) (hm:behindInMarks .GtE b=false:=by rfl):AT C (.Compare a [.GtE] [b] pos) Γ L Q:=eU (op_geA) hm h
theorem ae_in (hu:C.X.A.units+1 < cLine) (h:AE C a Γ L fun x L1=>AE C b Γ L1 fun y L2=>L2R C (rInA C.X.K) x y L2 Q) (hm:behindInMarks .In b=false:=by rfl):AE C (.Compare a [.In] [b] pos) Γ L Q:=eQ (aAE hu) hm h
theorem at_in (hu:C.X.A.units+1 < cLine) {Q:Bool→Lp→Prop} (h:AE C a Γ L fun x L1=>AE C b Γ L1 fun y L2=>L2R C (rInA C.X.K) x y L2 fun d L3=> ∃k,d= .bl k∧Q k L3) (hm:behindInMarks .In b=false:=by rfl):AT C (.Compare a [.In] [b] pos) Γ L Q:=eU (aAE hu) hm h
theorem ae_nin (hu:C.X.A.units+1 < cLine) (h:AE C a Γ L fun x L1=>AE C b Γ L1 fun y L2=>L2R C (rNotInA C.X.K) x y L2 Q) (hm:behindInMarks .NotIn b=false:=by rfl):AE C (.Compare a [.NotIn] [b] pos) Γ L Q:=eQ (op_notInA hu) hm h
theorem at_nin (hu:C.X.A.units+1 < cLine) {Q:Bool→Lp→Prop} (h:AE C a Γ L fun x L1=>AE C b Γ L1 fun y L2=>L2R C (rNotInA C.X.K) x y L2 fun d L3=> ∃k,d= .bl k∧Q k L3) (hm:behindInMarks .NotIn b=false:=by rfl):AT C (.Compare a [.NotIn] [b] pos) Γ L Q:=eU (op_notInA hu) hm h
theorem ae_is (h:AE C a Γ L fun x L1=>AE C b Γ L1 fun y L2=>L2R C (rIsA) x y L2 Q) (hm:behindInMarks .Is b=false:=by rfl):AE C (.Compare a [.Is] [b] pos) Γ L Q:=eQ (op_isA) hm h
theorem at_is {Q:Bool→Lp→Prop} (h:AE C a Γ L fun x L1=>AE C b Γ L1 fun y L2=>L2R C (rIsA) x y L2 fun d L3=> ∃k,d= .bl k∧Q k L3) (hm:behindInMarks .Is b=false:=by rfl):AT C (.Compare a [.Is] [b] pos) Γ L Q:=eU (op_isA) hm h
theorem ae_isn (h:AE C a Γ L fun x L1=>AE C b Γ L1 fun y L2=>L2R C (rIsNotA) x y L2 Q) (hm:behindInMarks .IsNot b=false:=by rfl):AE C (.Compare a [.IsNot] [b] pos) Γ L Q:=eQ (op_isNotA) hm h
theorem at_isn {Q:Bool→Lp→Prop} (h:AE C a Γ L fun x L1=>AE C b Γ L1 fun y L2=>L2R C (rIsNotA) x y L2 fun d L3=> ∃k,d= .bl k∧Q k L3) (hm:behindInMarks .IsNot b=false:=by rfl):AT C (.Compare a [.IsNot] [b] pos) Γ L Q:=eU (op_isNotA) hm h
theorem jM (h:AE C a Γ L fun x L1=>AE C b Γ L1 fun y L2=>L2R C (rAddA C.X.K) x y L2 Q):AE C (.BinOp a .Add b pos) Γ L Q:=bD op_addA h
theorem ae_sub (h:AE C a Γ L fun x L1=>AE C b Γ L1 fun y L2=>L2R C (rSubA) x y L2 Q):AE C (.BinOp a .Sub b pos) Γ L Q:=bD op_subA h
theorem ae_mul (h:AE C a Γ L fun x L1=>AE C b Γ L1 fun y L2=>L2R C (rMulA) x y L2 Q):AE C (.BinOp a .Mult b pos) Γ L Q:=bD op_mulA h
theorem ae_mod (h:AE C a Γ L fun x L1=>AE C b Γ L1 fun y L2=>L2R C (rModA) x y L2 Q):AE C (.BinOp a .Mod b pos) Γ L Q:=bD op_modA h
theorem ae_div (h:AE C a Γ L fun x L1=>AE C b Γ L1 fun y L2=>L2R C (rDivA) x y L2 Q):AE C (.BinOp a .FloorDiv b pos) Γ L Q:=bD op_divA h
theorem jL {p:Pos} (hm:C.X.mg "len"=none) (h:AE C a Γ L fun x L1=>LcR C (rLenA C.X.K) [x] L1 Q) (hg:Gl C.X "len" :=by rfl) (he:starEach [a] C.X.env= [(false,eval a C.X.env)]:=by rfl):AE C (.Call (.Name "len" p) [a] [] pos) Γ L Q:=aP call_lenA hm (aC (h.mono fun x L1 q=>aD q) he) (hg:=hg) (he:=he)
theorem ae_c_int {p:Pos} (hm:C.X.mg "int"=none) (h:AE C a Γ L fun x L1=>LcR C (aBi) [x] L1 Q) (hg:Gl C.X "int" :=by rfl) (he:starEach [a] C.X.env= [(false,eval a C.X.env)]:=by rfl):AE C (.Call (.Name "int" p) [a] [] pos) Γ L Q:=aR call_int1 hm (aC (h.mono fun x L1 q=>aD q) he) (hg:=hg) (he:=he)
theorem ae_c_abs {p:Pos} (hm:C.X.mg "abs"=none) (h:AE C a Γ L fun x L1=>LcR C (rAbs) [x] L1 Q) (hg:Gl C.X "abs" :=by rfl) (he:starEach [a] C.X.env= [(false,eval a C.X.env)]:=by rfl):AE C (.Call (.Name "abs" p) [a] [] pos) Γ L Q:=aP call_abs hm (aC (h.mono fun x L1 q=>aD q) he) (hg:=hg) (he:=he)
theorem ae_c_tuple {p:Pos} (hm:C.X.mg "tuple"=none) (h:AE C a Γ L fun x L1=>LcR C (zG C.X.K) [x] L1 Q) (hg:Gl C.X "tuple" :=by rfl) (he:starEach [a] C.X.env= [(false,eval a C.X.env)]:=by rfl):AE C (.Call (.Name "tuple" p) [a] [] pos) Γ L Q:=aR call_tuple_of hm (aC (h.mono fun x L1 q=>aD q) he) (hg:=hg) (he:=he)
theorem ae_c_max {p:Pos} (hm:C.X.mg "max"=none) (h:AE C a Γ L fun x L1=>AE C b Γ L1 fun y L2=>LcR C (rMx) [x,y] L2 Q) (hg:Gl C.X "max" :=by rfl) (he:starEach [a,b] C.X.env=(false,eval a C.X.env)::starEach [b] C.X.env:=by rfl) (he2:starEach [b] C.X.env= [(false,eval b C.X.env)]:=by rfl) (hpl:(backTo pos (starEach [b] C.X.env)).any (·.1)=false:=by rfl):AE C (.Call (.Name "max" p) [a,b] [] pos) Γ L Q:=aP (call_max2 C.calm) hm (aC (h.mono fun x L1 q=>aC (q.mono fun y L2 q=>aD q) he2) he) (hg:=hg) (he:=he) (hpl:=hpl)
theorem ae_c_min {p:Pos} (hm:C.X.mg "min"=none) (h:AE C a Γ L fun x L1=>AE C b Γ L1 fun y L2=>LcR C (rMn) [x,y] L2 Q) (hg:Gl C.X "min" :=by rfl) (he:starEach [a,b] C.X.env=(false,eval a C.X.env)::starEach [b] C.X.env:=by rfl) (he2:starEach [b] C.X.env= [(false,eval b C.X.env)]:=by rfl) (hpl:(backTo pos (starEach [b] C.X.env)).any (·.1)=false:=by rfl):AE C (.Call (.Name "min" p) [a,b] [] pos) Γ L Q:=aP (call_min2 C.calm) hm (aC (h.mono fun x L1 q=>aC (q.mono fun y L2 q=>aD q) he2) he) (hg:=hg) (he:=he) (hpl:=hpl)
theorem ae_c_isi {p:Pos} (hm:C.X.mg "isinstance"=none) (h:AE C a Γ L fun x L1=>AE C b Γ L1 fun y L2=>LcR C (rIsi C.X.K) [x,y] L2 Q) (hg:Gl C.X "isinstance" :=by rfl) (he:starEach [a,b] C.X.env=(false,eval a C.X.env)::starEach [b] C.X.env:=by rfl) (he2:starEach [b] C.X.env= [(false,eval b C.X.env)]:=by rfl) (hpl:(backTo pos (starEach [b] C.X.env)).any (·.1)=false:=by rfl):AE C (.Call (.Name "isinstance" p) [a,b] [] pos) Γ L Q:=aP call_isi hm (aC (h.mono fun x L1 q=>aC (q.mono fun y L2 q=>aD q) he2) he) (hg:=hg) (he:=he) (hpl:=hpl)
theorem ae_lele (h:AE C a Γ L fun x L1=>AE C b Γ L1 fun y L2=>L2R C rLeA x y L2 fun d L3=> ∃k,d= .bl k∧(k=true→AE C c Γ L3 fun z L4=>L2R C rLeA y z L4 Q)∧(k=false→Q (.bl false) L3)) (hm:lastMarks [.LtE,.LtE] [b,c]=false:=by rfl):AE C (.Compare a [.LtE,.LtE] [b,c] pos) Γ L Q:=ae_chain nQ nQ h (pe_chain nQ nQ bA bA bA (hm:=hm))
theorem at_lele {Q:Bool→Lp→Prop} (h:AE C a Γ L fun x L1=>AE C b Γ L1 fun y L2=>L2R C rLeA x y L2 fun d L3=> ∃k,d= .bl k∧(k=true→AE C c Γ L3 fun z L4=>L2R C rLeA y z L4 fun d L5=> ∃k,d= .bl k∧Q k L5)∧(k=false→Q false L3)) (hm:lastMarks [.LtE,.LtE] [b,c]=false:=by rfl):AT C (.Compare a [.LtE,.LtE] [b,c] pos) Γ L Q:=at_chain nQ nQ h (pt_chain nQ nQ bA bA bA (hm:=hm))
end
end DL
namespace DL
open PySem PySem.Spec PyProof.Rows L2
section
variable {C:Ctx} {Γ:Gm} {L:Lp} {Q:D→Lp→Prop}

theorem eq_W {a b:List Wd} (q:Q (.bl (decide (a=b))) L):L2R C (rEqA C.X.K) (dW a) (dW b) L Q:=eq_E (α:=List Str) q

theorem aBP {a b:List Wd} (q:Q (.bl (!decide (a=b))) L):L2R C (rNeA C.X.K) (dW a) (dW b) L Q:=ne_E (α:=List Str) q
theorem eq_C {a b:List Cell} (q:Q (.bl (decide (a=b))) L):L2R C (rEqA C.X.K) (dC a) (dC b) L Q:=eq_E (α:=List (List Str)) q
theorem aBR {a b:List Cell} (q:Q (.bl (!decide (a=b))) L):L2R C (rNeA C.X.K) (dC a) (dC b) L Q:=ne_E (α:=List (List Str)) q
theorem eq_W0 {a:List Wd} (q:Q (.bl a.isEmpty) L):L2R C (rEqA C.X.K) (dW a) (.tup []) L Q:=by
 have h:L2R C (rEqA C.X.K) (dW a) (dW []) L Q:=eq_W (by cases a <;> exact q)
 exact h
theorem isi_tt {ds:List D} (q:Q (.bl true) L):LcR C (rIsi C.X.K) [.tup ds,.ty "tuple"] L Q:=xJ trivial (by exact (by decide+kernel:kitB "tuple" "tuple"=some true)) q
theorem isi_ii {i:Int} (q:Q (.bl true) L):LcR C (rIsi C.X.K) [.int i,.ty "int"] L Q:=xJ trivial (by exact (by decide+kernel:kitB "int" "int"=some true)) q
theorem isi_ib {i:Int} (q:Q (.bl false) L):LcR C (rIsi C.X.K) [.int i,.ty "bool"] L Q:=xJ trivial (by exact (by decide+kernel:kitB "int" "bool"=some false)) q
theorem isi_ss {x:Str} (q:Q (.bl true) L):LcR C (rIsi C.X.K) [.str x,.ty "str"] L Q:=xJ trivial (by exact (by decide+kernel:kitB "str" "str"=some true)) q
theorem isi_is {i:Int} (q:Q (.bl false) L):LcR C (rIsi C.X.K) [.int i,.ty "str"] L Q:=xJ trivial (by exact (by decide+kernel:kitB "int" "str"=some false)) q
theorem isi_ts {ds:List D} (q:Q (.bl false) L):LcR C (rIsi C.X.K) [.tup ds,.ty "str"] L Q:=xJ trivial (by exact (by decide+kernel:kitB "tuple" "str"=some false)) q
theorem isi_st {x:Str} (q:Q (.bl false) L):LcR C (rIsi C.X.K) [.str x,.ty "tuple"] L Q:=xJ trivial (by exact (by decide+kernel:kitB "str" "tuple"=some false)) q
theorem isi_bb {b:Bool} (q:Q (.bl true) L):LcR C (rIsi C.X.K) [.bl b,.ty "bool"] L Q:=xJ trivial (by exact (by decide+kernel:kitB "bool" "bool"=some true)) q
theorem as_post {E:AEnds} {st:Stmt} (M:Gm→Lp→Prop) (h:AS C st Γ L {E with nx:=M}) (h2:∀Γ' L',M Γ' L'→E.nx Γ' L'):AS C st Γ L E:=fun F σ H ok DD go=>h F σ H ok DD ⟨fun s H2 Γ2 L2 o f q=>go.nx s H2 Γ2 L2 o f (h2 _ _ q),go.rt,go.bk,go.ct⟩
theorem q_bl {b b':Bool} (q:Q (.bl b) L) (h:b=b'):Q (.bl b') L:=h ▸q
end
end DL
namespace DL
open PySem PySem.Spec PyProof.Rows L2
def wrt (rs:Rl) (cs:List Cell) (a:Nat):List Cell:=if gM rs cs a=0 then [cs.getD a []] else (lk rs (kAt rs cs a)).getD []
theorem rwF_step {rs:Rl} {cs:List Cell} {n a:Nat} (h:a < cs.length):rwF rs cs (n+1) a=wrt rs cs a++rwF rs cs n (a+max 1 (gM rs cs a)):=by
 unfold wrt
 by_cases h0:gM rs cs a=0
 ·rw [if_pos h0,rwF_0 h h0,h0]
  rfl
 ·obtain ⟨z,h1,h2,h3⟩:=mZ h0
  rw [if_neg h0,h2,rwF_1 h h0 h2,Nat.max_eq_right (by omega)]
  rfl
theorem wrt_len {rs:Rl} (hR:RL2 rs) (cs:List Cell) (a:Nat):(wrt rs cs a).length≤2:=by
 unfold wrt
 split
 ·show 1≤2;decide
 ·cases e:lk rs (kAt rs cs a) with
  | none=>exact Nat.zero_le _
  | some z=>exact hR.lk e
theorem kAt_len (rs:Rl) (cs:List Cell) (a:Nat):(kAt rs cs a).length=gM rs cs a:=by
 by_cases h0:gM rs cs a=0
 ·rw [vP h0,h0];rfl
 ·exact (mZ h0).choose_spec.2.2
theorem qJ {rs:Rl} {cs:List Cell} {a:Nat} (h:a < cs.length):a+max 1 (gM rs cs a)≤cs.length:=by
 by_cases h0:gM rs cs a=0
 ·rw [h0];show a+1≤_;omega
 ·obtain ⟨z,h1,h2,h3⟩:=mZ h0
  have:=wAt_end h1 (by omega)
  omega
def one (ws:List Wd):List Cell:=ws.map fun w=> [w]
end DL
namespace DL
open PySem PySem.Spec PyProof.Rows L2
def wait (rs:Rl) (cs:List Cell) (a:Nat):Bool:=decide (cs.length - a < 3) && match wAt cs a (cs.length - a) with | some ws=>rs.any fun r=>decide (cs.length - a < r.1.length) && decide (r.1.take (cs.length - a)=ws) | none=>false
def goes (w:Bool) (rs:Rl) (cs:List Cell) (a:Nat):Bool:=decide (a < cs.length) && (w || !wait rs cs a)
def rwG (w:Bool) (rs:Rl) (cs:List Cell):Nat→Nat→List Cell×Nat
 | 0,a=>([],a)
 | n+1,a=>if goes w rs cs a then (wrt rs cs a++(rwG w rs cs n (a+max 1 (gM rs cs a))).1,(rwG w rs cs n (a+max 1 (gM rs cs a))).2) else ([],a)
def rw2 (w:Bool) (rs:Rl) (cs:List Cell):List Cell×List Cell:=((rwG w rs cs cs.length 0).1,cs.drop (rwG w rs cs cs.length 0).2)
theorem fP {w:Bool} {rs:Rl} {cs:List Cell} {n a:Nat} (h:goes w rs cs a=false):rwG w rs cs n a=([],a):=by
 cases n with
 | zero=>rfl
 | succ n=>
  show (if goes w rs cs a then _ else _)=_
  rw [h]
  rfl
theorem cU {w:Bool} {rs:Rl} {cs:List Cell} {n a:Nat} (h:goes w rs cs a=true):rwG w rs cs (n+1) a=(wrt rs cs a++(rwG w rs cs n (a+max 1 (gM rs cs a))).1,(rwG w rs cs n (a+max 1 (gM rs cs a))).2):=by
 show (if goes w rs cs a then _ else _)=_
 rw [h]
 rfl
theorem mG {w:Bool} {rs:Rl} {cs:List Cell} {a:Nat} (h:goes w rs cs a=true):a < cs.length:=by
 unfold goes at h
 rw [Bool.and_eq_true] at h
 exact of_decide_eq_true h.1
theorem rwG_whole {rs:Rl} {cs:List Cell}:∀n a,a≤cs.length→cs.length≤a+n→rwG true rs cs n a=(rwF rs cs n a,cs.length)
 | 0,a,h1,h2=>by
  have:a=cs.length:=by omega
  subst this
  rfl
 | n+1,a,h1,h2=>by
  by_cases h:a < cs.length
  ·have hg:goes true rs cs a=true:=by unfold goes;rw [decide_eq_true h];rfl
   have he:=qJ (rs:=rs) h
   rw [cU hg,rwF_step h,rwG_whole n _ he (by omega)]
  ·have hg:goes true rs cs a=false:=by unfold goes;rw [decide_eq_false h];rfl
   rw [fP hg,rwF_end (by omega)]
   have:a=cs.length:=by omega
   rw [this]
theorem fY (rs:Rl) (cs:List Cell):rw2 true rs cs=(rw1 rs cs,[]):=by
 unfold rw2 rw1
 rw [rwG_whole _ _ (Nat.zero_le _) (by omega)]
 simp
theorem rwG_len {w:Bool} {rs:Rl} (hR:RL2 rs) (cs:List Cell):∀n a,(rwG w rs cs n a).1.length≤2*n
 | 0,a=>Nat.zero_le _
 | n+1,a=>by
  by_cases h:goes w rs cs a=true
  ·rw [cU h,List.length_append]
   have h1:=wrt_len hR cs a
   have h2:=rwG_len (w:=w) hR cs n (a+max 1 (gM rs cs a))
   omega
  ·rw [fP (by simpa using h)]
   exact Nat.zero_le _
theorem rA {rs:Rl} {cs:List Cell}:∀n a,a≤cs.length→cs.length≤a+n→(rwG false rs cs n a).2≤cs.length∧∀c∈cs.drop (rwG false rs cs n a).2,c.length=1
 | 0,a,h1,h2=>by
  have:a=cs.length:=by omega
  subst this
  refine ⟨Nat.le_refl _,fun c hc=> ?_⟩
  rw [show (rwG false rs cs 0 cs.length).2=cs.length from rfl,List.drop_length] at hc
  cases hc
 | n+1,a,h1,h2=>by
  by_cases h:goes false rs cs a=true
  ·have hl:=mG h
   have he:=qJ (rs:=rs) hl
   rw [cU h]
   exact rA n _ he (by omega)
  ·have hf:goes false rs cs a=false:=by simpa using h
   rw [fP hf]
   refine ⟨h1,fun c hc=> ?_⟩
   unfold goes at hf
   by_cases hl:a < cs.length
   ·rw [decide_eq_true hl] at hf
    have hw:wait rs cs a=true:=by simpa using hf
    unfold wait at hw
    rw [Bool.and_eq_true] at hw
    cases e:wAt cs a (cs.length - a) with
    | none=>rw [e] at hw;cases hw.2
    | some ws=>
     obtain ⟨_,hone⟩:=rQ e
     refine hone c ?_
     rw [List.take_of_length_le (by rw [List.length_drop];exact Nat.le_refl _)]
     exact hc
   ·rw [List.drop_eq_nil_of_le (by omega)] at hc
    cases hc
theorem uX (rs:Rl) (cs:List Cell):∀c∈(rw2 false rs cs).2,c.length=1:=(rA cs.length 0 (Nat.zero_le _) (by omega)).2
theorem uW {w:Bool} {rs:Rl} (hR:RL2 rs) (cs:List Cell):(rw2 w rs cs).1.length≤2*cs.length:=rwG_len hR cs _ _
end DL
namespace DL
open PySem PySem.Spec PyProof.Rows L2
theorem rw2_one (wh:Bool) (rs:Rl) (cs:List Cell):∀c∈(rw2 wh rs cs).2,c.length=1:=by
 cases wh with
 | false=>exact uX rs cs
 | true=>
  rw [fY]
  intro c hc
  cases hc
def aAl (wh:Bool) (acc:List (List Wd)×List Cell) (q:Rl×List Wd):List (List Wd)×List Cell:=(acc.1++ [(rw2 wh q.1 (one q.2++acc.2)).2.map hd0],(rw2 wh q.1 (one q.2++acc.2)).1)
def thr (wh:Bool) (qs:List (Rl×List Wd)) (cs:List Cell):List (List Wd)×List Cell:=qs.foldl (aAl wh) ([],cs)
theorem thr_snoc (wh:Bool) (qs:List (Rl×List Wd)) (q:Rl×List Wd) (cs:List Cell):thr wh (qs++ [q]) cs=aAl wh (thr wh qs cs) q:=by
 unfold thr
 rw [List.foldl_append]
 rfl
theorem thr_len1 (wh:Bool) (qs:List (Rl×List Wd)) (cs:List Cell):(thr wh qs cs).1.length=qs.length:=by
 have key:∀(qs:List (Rl×List Wd)) (a:List (List Wd)×List Cell),(qs.foldl (aAl wh) a).1.length=a.1.length+qs.length:=by
  intro qs
  induction qs with
  | nil=>intro a;rfl
  | cons q qs ih=>
   intro a
   rw [List.foldl_cons,ih]
   unfold aAl
   rw [List.length_append,List.length_cons,List.length_cons,List.length_nil]
   omega
 rw [show thr wh qs cs=qs.foldl (aAl wh) ([],cs) from rfl,key]
 simp
def grow (n:Nat):Nat→Nat
 | 0=>n
 | k+1=>2*(grow n k+1000)
theorem thr_len2 {wh:Bool} {qs:List (Rl×List Wd)} (cs:List Cell):(∀q∈qs,RL2 q.1∧q.2.length≤1000)→∀i,i≤qs.length→(thr wh (qs.take i) cs).2.length≤grow cs.length i
 | _,0,_=>by rw [List.take_zero];exact Nat.le_refl _
 | h,i+1,hi=>by
  have ih:=thr_len2 (wh:=wh) cs h i (by omega)
  have hx:i < qs.length:=hi
  rw [List.take_add_one,List.getElem?_eq_getElem hx]
  show (thr wh (qs.take i++ [qs[i]]) cs).2.length≤_
  rw [thr_snoc]
  have hq:=h qs[i] (List.getElem_mem hx)
  refine Nat.le_trans (uW hq.1 _) ?_
  rw [List.length_append]
  have e1:(one qs[i].2).length=qs[i].2.length:=List.length_map ..
  rw [e1]
  show _≤2*(grow cs.length i+1000)
  omega
end DL
namespace DL
open PySem PySem.Spec PyProof.Rows L2
inductive Tg where
 | cmp (op:CmpOp) | bin (op:Operator) | inp (op:Operator)
def Tg.f:Tg→Value→Value→Sem Value
 | .cmp op=>compareOp op
 | .bin op=>binaryOp op
 | .inp op=>inplaceOp op
structure OpJ (C:DL.Ctx) (t:Tg) (Γ:Gm) (x y:D) (L:Lp) (Q:D→Lp→Prop):Prop where
 run:∀Z σ H,Ok C Γ L Z σ H→∀vx vy,Rep C.X.K Z H vx x→Rep C.X.K Z H vy y→∀QV,Go C L Z H Q QV→∀pins s v u,Inv C.X pins σ H s→RelV vx v→RelV vy u→wpAny (model C.X.prog C.X.w) C.X.A (t.f v u) (EP C.X pins σ QV) C.X.xe s
section
variable {C:DL.Ctx} {Γ:Gm} {L:Lp} {a b e:Expr} {pos:Pos} {Q:D→Lp→Prop} {x y:D} {t:Tg}
theorem OpJ.of {r:L2.R2} (ho:OpR C.X t.f r) (h:L2R C r x y L Q):OpJ C t Γ x y L Q:=⟨fun Z σ H ok vx vy rx ry QV go pins s v u I r1 r2=>ho pins s σ H vx vy v u QV I r1 r2 (h Z vx vy H ok.con rx ry QV go)⟩
theorem xQ {pins:List (Addr×Obj)} {σ:L2.St} {Z:Fz} {H:Hp} {s:Shared} {QV:VK} (h:AE C a Γ L fun x L1=>AE C b Γ L1 fun y L2=>OpJ C t Γ x y L2 Q) (ok:Ok C Γ L Z σ H) (go:Go C L Z H Q QV) (I:Inv C.X pins σ H s):
  wpAny (model C.X.prog C.X.w) C.X.A (eval a C.X.env) (fun v s1=>wpAny (model C.X.prog C.X.w) C.X.A (eval b C.X.env) (fun u s2=>wpAny (model C.X.prog C.X.w) C.X.A (t.f v u) (EP C.X pins σ QV) C.X.xe s2) C.X.xe s1) C.X.xe s:=by
 refine thn ((h Z σ H ok (fun vx H1=> ∃x L1 Z1,Rep C.X.K Z1 H1 vx x∧C.Con L1 Z1 H1∧Fr L Z H L1 Z1 H1∧AE C b Γ L1 fun y L2=>OpJ C t Γ x y L2 Q) fun v d H' L' r c f q=>⟨d,L',_,r,c,f,q⟩).run pins s I) fun v s1 ⟨vx,H1,I1,r1,x,L1,Z1,rx,c1,f1,q1⟩=> ?_
 refine thn ((q1 Z1 σ H1 (ok.step c1 f1) (fun vy H2=> ∃y L2 Z2,Rep C.X.K Z2 H2 vy y∧C.Con L2 Z2 H2∧Fr L1 Z1 H1 L2 Z2 H2∧OpJ C t Γ x y L2 Q) fun v d H' L' r c f q=>⟨d,L',_,r,c,f,q⟩).run pins s1 I1) fun u s2 ⟨vy,H2,I2,r2,y,L2,Z2,ry,c2,f2,q2⟩=> ?_
 exact q2.run Z2 σ H2 (ok.step c2 (f1.trans f2)) vx vy (rx.mono f2.mv) ry QV (go.after (f1.trans f2)) pins s2 v u I2 r1 r2
theorem ae_binJ {op:Operator} (h:AE C a Γ L fun x L1=>AE C b Γ L1 fun y L2=>OpJ C (.bin op) Γ x y L2 Q):AE C (.BinOp a op b pos) Γ L Q:=fun Z σ H ok QV go=>⟨fun pins s I=>wpAny_BinOp (xQ h ok go I)⟩
theorem yR {op:CmpOp} (h:AE C a Γ L fun x L1=>AE C b Γ L1 fun y L2=>OpJ C (.cmp op) Γ x y L2 Q) (hm:behindInMarks op b=false:=by rfl):AE C (.Compare a [op] [b] pos) Γ L Q:=fun Z σ H ok QV go=>⟨fun pins s I=>wpAny_Compare1 (xQ h ok go I) hm⟩
theorem tO {op:CmpOp} {Q:Bool→Lp→Prop} (h:AE C a Γ L fun x L1=>AE C b Γ L1 fun y L2=>OpJ C (.cmp op) Γ x y L2 fun d L3=> ∃k,d= .bl k∧Q k L3) (hm:behindInMarks op b=false:=by rfl):AT C (.Compare a [op] [b] pos) Γ L Q:=fun Z σ H ok QV go=>⟨fun pins s I=>by
 refine wpAny_isTrue_Compare1 (thn (xQ (QV:=fun v H'=> ∃k L' Z',v= .bl k∧C.Con L' Z' H'∧Fr L Z H L' Z' H'∧Q k L') h ok (fun v d H' L' r c f ⟨k,ed,q⟩=>⟨k,L',_,by subst ed;exact r.blE,c,f,q⟩) I) fun v s1 hb=>thn hb fun u s2 hc=>thn hc fun w s3 ⟨z,H3,I3,r3,k,L3,Z3,e,c3,f3,q3⟩=> ?_) hm
 subst e
 cases r3
 exact wpAny_truthy_bool ⟨H3,I3,go k H3 L3 c3 f3 q3⟩⟩
theorem j_eqC {i j:List Cell} (hu:C.X.A.units+64 < cLine) (q:Q (.bl (decide (i=j))) L):OpJ C (.cmp .Eq) Γ (dC i) (dC j) L Q:=OpJ.of (t:= .cmp .Eq) (zK hu) (eq_C q)
theorem j_eqX  (hu:C.X.A.units+64 < cLine) (hx:okD x=true) (dx:(py x).depth≤64) (q:Q (.bl true) L):OpJ C (.cmp .Eq) Γ x x L Q:=OpJ.of (t:= .cmp .Eq) (zK hu) (eq_self hx dx q)
theorem j_neW {i j:List Wd} (hu:C.X.A.units+64 < cLine) (q:Q (.bl (!decide (i=j))) L):OpJ C (.cmp .NotEq) Γ (dW i) (dW j) L Q:=OpJ.of (t:= .cmp .NotEq) (zJ hu) (aBP q)
theorem j_neC {i j:List Cell} (hu:C.X.A.units+64 < cLine) (q:Q (.bl (!decide (i=j))) L):OpJ C (.cmp .NotEq) Γ (dC i) (dC j) L Q:=OpJ.of (t:= .cmp .NotEq) (zJ hu) (aBR q)
theorem j_inL {i:Str} {ys:List Str} (hu:C.X.A.units+1 < cLine) (hp:LR L y (ys.map D.str)) (q:Q (.bl (decide (i∈ys))) L):OpJ C (.cmp .In) Γ (.str i) y L Q:=OpJ.of (t:= .cmp .In) (aAE hu) (in_L hp q)
end
end DL
namespace DL
open PySem PySem.Spec PySem.Calls PyProof.Rows L2
section
variable {prog:Program} {w:World} {A:Around} {E:Value→Shared→Prop} {s:Shared} {K:PySem.W.Frag} {y C:Addr} {oy od:Obj}
structure XcC (K:PySem.W.Frag) (C:Addr):Prop where
 x:XfC K C
 i:SlX.SIsi K C
theorem xc_cls {Q:Option Value→Shared→Prop} (T:XcC K C) (KI:K.In s.heap) (J:PySem.W.InstAt s.heap y oy C (some od)) (h:Q (some (.ref C)) {s with toks:=s.toks+1}):wpAny (model prog w) A (getAttr? (.ref y) "__class__") Q E s:=by
 have hic:(PySem.W.clsIn K C).isSome=true:=by
  obtain ⟨cd,hc,_⟩:=PySem.W.any_some T.x.hdC
  rw [hc]
  rfl
 have hf:PySem.W.findObj K C (some od) "__class__"=some (.bind (.builtin "getset_descriptor.__get__") (.builtin "object.__class__")):=PySem.W.findObj_data hic T.i.ca T.i.cn T.i.ct
 obtain ⟨hh,gg,dd,tt,oo⟩:=s
 have T0:=J.type (M:=model prog w)
 have T1:=PySem.W.looks_findIn (M:=model prog w) KI T.x.ga
 have T2:=PySem.W.looks_findIn (M:=model prog w) KI T.x.gg
 have T3:=PySem.W.looks_find (M:=model prog w) KI J hf
 have sb:PySem.W.Looks (model prog w) hh (isInstance (.ref y) (.type "BaseException")) true:=T0.andThen (PySem.W.looks_subIn KI T.x.exC)
 have n0:(false && onTheHeap (Value.builtin "BaseException.__getattribute__"))=false:=rfl
 have n2:(Value.builtin "BaseException.__getattribute__"==Value.builtin "object.__getattribute__")=false:=by decide+kernel
 have n1:(onTheHeap (Value.ref C) && Value.builtin "BaseException.__getattribute__"==Value.builtin "object.__getattribute__")=false:=by rw [n2];rfl
 unfold getAttr? getAttrBy? getAttrBy
 refine wpAny_bind (wpAny_mkText (wpAny_bind (wpAny_attempt (wpAny_holding (wpAny_bind (T0.at (wpAny_bind (T1.at ?_))))))))
 show wpAny _ _ (if (onTheHeap (Value.ref C) && Value.builtin "BaseException.__getattribute__"==Value.builtin "object.__getattribute__")=true then _ else _) _ _ _
 rw [n1,if_neg Bool.false_ne_true]
 unfold getAttrByItsOwn hookBefore
 refine wpAny_bind ?_
 rw [if_pos (show onTheHeap (Value.ref C)=true from rfl)]
 refine T2.at ?_
 refine wpAny_bind (wpAny_attempt (wpAny_holding ?_))
 unfold callGetattribute
 rw [n0,if_neg Bool.false_ne_true]
 unfold boundAndCalled
 rw [PySem.F.excAttr_ValueError.ga.bind (.ref y)]
 refine wpAny_bind (wpAny_pure ?_)
 show wpAny _ _ (call (.builtin "BaseException.__getattribute__") [.ref y,.str "__class__" tt]) _ _ _
 refine wpAny_call (codeAny_call_builtin PySem.F.excAttr_ValueError.ga.plain PySem.F.entry_bexc_ga ?_)
 refine @PySem.W.check_slot (model prog w) _ _ ⟨hh,gg,dd,tt+1,oo⟩ "BaseException.__getattribute__" "BaseException" "__getattribute__" (.ref y) [.str "__class__" tt] [] _ (by decide+kernel) (by decide+kernel) sb (PySem.F.args_bexc_ga (.ref y) (.str "__class__" tt)) ?_
 unfold Builtin.«object.__getattribute__»
 refine wpAny_bind (wpAny_of_eq (a:=((Value.ref y:Value),[Value.str "__class__" tt])) (by first | rfl | (simp only [slotArgs];rfl)) ?_)
 refine wpAny_bind (wpAny_pure (wpAny_bind (T0.at (wpAny_bind (T3.at ?_)))))
 show wpAny _ _ (holding [Value.builtin "object.__class__"] (call (.builtin "getset_descriptor.__get__") [.builtin "object.__class__",.ref y,.ref C]) >>=ret) _ _ _
 refine wpAny_bind (wpAny_holding (wpAny_call (PySem.W.class_get (s:=⟨hh,gg,dd,tt+1,oo⟩) (ox:=oy) (od:=some od) KI J T.i.cm ?_)))
 refine wpAny_pure ?_
 show wpAny _ _ (handedOut (.ref C)) _ _ _
 rw [PySem.W.handedOut_of (v:= .ref C) rfl]
 first
  | exact wpAny_pure (wpAny_pure h)
  | exact wpAny_pure h
  | exact wpAny_pure (wpAny_bind (wpAny_pure (wpAny_pure h)))
theorem kitx_err (T:XcC K C):PySem.W.KitX K (.ref y) (.ref C) (fun h=>PySem.W.InstAt h y oy C (some od)) where
 ty:=fun _ _ _ J=>J.type
 it:=fun _ _ KI _=>by
  obtain ⟨cd,hc,_⟩:=PySem.W.any_some T.x.hdC
  unfold PySem.W.clsIn at hc
  split at hc
  ·rename_i k1 k2 k3 k4 ho
   intro A' Q' E' s' k q
   unfold isType loadHead
   exact wpAny_bind (wpAny_loadPart (k _ _ (KI _ _ ho)) (wpAny_pure q))
  ·cases hc
 ne:=fun h tp d2 its n sl KI htp=>by
  obtain ⟨cd,hc,_⟩:=PySem.W.any_some T.x.hdC
  refine Bool.eq_false_iff.mpr fun q=> ?_
  have e:C=tp:=Value.ref.inj (beq_iff_eq.mp q)
  subst e
  unfold PySem.W.clsIn at hc
  split at hc
  ·rename_i k1 k2 k3 k4 ho
   have z:=(KI _ _ ho).symm.trans htp
   cases z
  ·cases hc
 ca:=fun KI J k=>xc_cls T KI J k
end
end DL
namespace DL
open PySem PySem.Spec PyProof.Rows L2
inductive TyL (K:PySem.W.Frag) (L:Lp):D→Value→Prop where
 | non:TyL K L .non (.type "NoneType")
 | bl (b:Bool):TyL K L (.bl b) (.type "bool")
 | int (i:Int):TyL K L (.int i) (.type "int")
 | str (x:Str):TyL K L (.str x) (.type "str")
 | tup (ds:List D):TyL K L (.tup ds) (.type "tuple")
 | flst (ds:List D):TyL K L (.flst ds) (.type "list")
 | fdct (kds:List (List Key×D)):TyL K L (.fdct kds) (.type "dict")
 | kdct (kds:List (Key×D)):TyL K L (.kdct kds) (.type "dict")
 | wds (ys:List Str):TyL K L (.wds ys) (.type "tuple")
 | lst {a:Addr} {ds:List D} (h:L a=some (.lst ds)):TyL K L (.ptr a) (.type "list")
 | dct {a:Addr} {kds:List (List Key×D)} (h:L a=some (.dct kds)):TyL K L (.ptr a) (.type "dict")
 | ins {x:D} {Cl:Addr} (c:SlX.SCls K Cl) (i:SlX.SIsi K Cl) (h:mU L x Cl):TyL K L x (.ref Cl)
 | iin {a Cl:Addr} {fs:List (Str×D)} (c:SlX.SCls K Cl) (i:SlX.SIsi K Cl) (h:L a=some (.iin Cl fs)):TyL K L (.ptr a) (.ref Cl)
 | iob {Cl:Addr} {fs:List (Str×D)} (c:SlX.SCls K Cl) (i:SlX.SIsi K Cl):TyL K L (.iob Cl fs) (.ref Cl)
 | exc {a Cl:Addr} {fs:List (Str×D)} (T:XcC K Cl) (h:L a=some (.exc Cl fs)):TyL K L (.ptr a) (.ref Cl)
section
variable {C:DL.Ctx} {Γ:Gm} {L:Lp} {Q:D→Lp→Prop} {x y:D} {t:Value} {Z:Fz} {H:Hp} {pins:List (Addr×Obj)} {σ:L2.St} {s:Shared} {v:V} {u:Value}
theorem exc_inst {a Cl:Addr} {fs:List (Str×D)} (h:L a=some (.exc Cl fs)) (c:C.Con L Z H) (I:Inv C.X pins σ H s):∃oe od dx fvs,PySem.W.InstAt s.heap a oe Cl (some od)∧H dx=some (.xd fvs)∧(∀n v,fvs.lookup n=some v→∃u,RelV v u∧PySem.W.lookIn n od=some (some u))∧Paired (fun (p:Str×V) (q:Str×D)=>p.1=q.1∧Rep C.X.K Z H p.2 q.2) fvs fs:=by
 obtain ⟨dx,fvs,e,_,hd,r⟩:=c.at_ _ _ h
 obtain ⟨⟨oe,vs,e1,e2,e3,e4⟩,_⟩:=(show ObjOk C.X.prog C.X.w H s.heap a (ErO (.ref Cl) (some dx) a) from I.hok a _ e)
 obtain ⟨mA,hns,hr⟩:=(show ObjOk C.X.prog C.X.w H s.heap dx (.xd fvs) from I.hok dx _ hd)
 obtain ⟨od,ho,hl⟩:=lookIn_ns hns
 exact ⟨oe,od,dx,fvs,⟨e1,e2,by unfold PySem.W.notCls;rw [e4] <;> rfl,by rw [e3];exact ho⟩,hd,fun n v lv=>by
  obtain ⟨u,hu,ru⟩:=RelO.some_of (v:=v) (o:=mA n) (by rw [←lv];exact hr n)
  exact ⟨u,ru,by rw [hl,hu]⟩,r⟩
theorem TyL.kit (ty:TyL C.X.K L x t) (c:C.Con L Z H) (r:Rep C.X.K Z H v x) (I:Inv C.X pins σ H s) (ru:RelV v u):∃P:Heap→Prop,PySem.W.KitX C.X.K u t P∧P s.heap∧u≠ .builtin "__main__.__loader__#opaque" :=by
 cases ty with
 | non=>rw [r.nonE] at ru;exact kit_of I ru (.base .non)
 | bl b=>rw [r.blE] at ru;exact kit_of I ru (.base (.bl b))
 | int i=>rw [r.intE] at ru;exact kit_of I ru (.base (.int i))
 | str z=>rw [r.strE] at ru;exact kit_of I ru (.base (.str z))
 | tup ds=>
  obtain ⟨a,ws,rfl,ha,_⟩:=r.tupE
  exact kit_of I ru (.base (.tup ha))
 | flst ds=>
  cases r with
  | flst hl h=>exact kit_of I ru (.base (.lst h))
 | fdct kds=>
  cases r with
  | @fdct a kvs kds o hl h=>
   cases (show u=Value.ref a from ru)
   obtain ⟨_,_,_,xs,_,o,es,ep,h1,h2,_⟩:=(show ObjOk C.X.prog C.X.w H s.heap a (.frz o (.dT kvs)) from I.hok a _ h)
   exact ⟨_,PySem.W.kitx_dict,⟨o,h1,h2.1⟩,fun z=>nomatch z⟩
 | kdct kds=>
  cases r with
  | @kdct a kvs kds o hl h=>
   cases (show u=Value.ref a from ru)
   obtain ⟨_,hg,hx,_⟩:=I.frzK h
   exact ⟨_,PySem.W.kitx_dict,⟨o,hg,hx.1⟩,fun z=>nomatch z⟩
 | wds ys=>
  cases r with
  | @wds a _ o hl h=>exact kit_of I ru (.fTuple h)
 | lst h=>
  obtain ⟨ws,ha,_⟩:=c.at_ _ _ h
  rw [r.ptrE] at ru
  exact kit_of I ru (.base (.lst ha))
 | dct h=>
  obtain ⟨ws,ha,_⟩:=c.at_ _ _ h
  rw [r.ptrE] at ru
  exact kit_of I ru (.base (.dT ha))
 | @ins x Cl hc hi h=>
  obtain ⟨a,dx,vs,rfl,hs⟩:=h.slt c r
  cases (show u=Value.ref a from ru)
  obtain ⟨sl,od,_,J,_⟩:=SlX.slt_inst I hs
  exact ⟨_,OwX.kitx_slt hc.ic (hc.get _) hi.ca hi.cn hi.ct hi.cm,J,fun z=>nomatch z⟩
 | @iin a Cl fs hc hi h=>
  obtain ⟨dx,vfs,hH,_⟩:=c.at_ _ _ h
  rw [r.ptrE] at ru
  cases (show u=Value.ref a from ru)
  obtain ⟨mA,O,_⟩:=ins_get I.hok hH
  obtain ⟨od,J,_⟩:=O.look
  exact ⟨_,OwX.kitx_slt hc.ic (hc.get _) hi.ca hi.cn hi.ct hi.cm,J,fun z=>nomatch z⟩
 | @iob Cl fs hc hi=>
  cases r with
  | @iob a _ dx vfs _ hl h=>
   cases (show u=Value.ref a from ru)
   obtain ⟨mA,O,_⟩:=ins_get I.hok h
   obtain ⟨od,J,_⟩:=O.look
   exact ⟨_,OwX.kitx_slt hc.ic (hc.get _) hi.ca hi.cn hi.ct hi.cm,J,fun z=>nomatch z⟩
 | @exc a Cl fs T h=>
  rw [r.ptrE] at ru
  cases (show u=Value.ref a from ru)
  obtain ⟨oe,od,_,_,J,_⟩:=exc_inst h c I
  exact ⟨_,kitx_err T,J,fun z=>nomatch z⟩
theorem TyL.look (ty:TyL C.X.K L x t) (c:C.Con L Z H) (r:Rep C.X.K Z H v x) (I:Inv C.X pins σ H s) (ru:RelV v u):PySem.W.Looks (model C.X.prog C.X.w) s.heap (typeOf u) t:=by
 obtain ⟨P,k,p,_⟩:=ty.kit c r I ru
 exact k.ty _ _ I.kIn p
end
section
variable {prog:Program} {w:World} {A:Around} {E:Value→Shared→Prop} {s:Shared} {K:PySem.W.Frag} {x C f:Addr} {ox:Obj} {od:Option Obj} {b tb:Value}
end
section
variable {C:DL.Ctx} {Γ:Gm} {L:Lp} {Q:D→Lp→Prop} {x y:D} {t:Value} {Cl g:Addr} {k:Nat} {sp:SpA}
theorem j_binO {op:Operator} (hc:PySem.W.selfFirst C.X.K Cl=true) (hs:PySem.W.findIn C.X.K (.ref Cl) (PySem.dunder op.info.2)=some (some (.ref g))) (hf:PySem.W.isFn C.X.K (.ref g)=true) (F:FnA C.X.prog C.X.w C.X.K C.X.mg C.X.base k g sp) (hr:Room k C.X.A)
  (ix:mU L x Cl) (iy:mU L y Cl) (q:sp [x,y] L Q (C.R Γ)):OpJ C (.bin op) Γ x y L Q:=⟨fun Z σ H ok vx vy rx ry QV go pins s v u I r1 r2=>by
 obtain ⟨a,dx,vs,rfl,st⟩:=ix.slt ok.con rx
 obtain ⟨b,dy,ws,rfl,st2⟩:=iy.slt ok.con ry
 cases (show v=Value.ref a from r1)
 cases (show u=Value.ref b from r2)
 obtain ⟨sl,od,_,J,_⟩:=SlX.slt_inst I st
 obtain ⟨sl',od',_,J',_⟩:=SlX.slt_inst I st2
 obtain ⟨m,hF⟩:=I.fr
 refine PySem.W.binop_K hF I.ok.mod.kin J J'.type hc hs hf ?_
 refine wpAny_mono (wpAny_call (uY (us:= [.ref a,.ref b]) (vs:= [.ref a,.ref b]) F hr I ok (.cons rfl (.cons rfl .nil)) (.cons rx (.cons ry .nil)) q go)) (fun w s' z=> ?_) fun _ _ x=>x
 obtain ⟨z',H',I',rz,qz⟩:=z
 exact SlX.cmpback rz ⟨z',H',I',rz,qz⟩⟩
@[irreducible] def rIsiA (C:DL.Ctx):List V→Hp→VK→Prop:=fun xs H QV=> ∃(a b:V) (k:Bool),xs= [a,b]∧(∀pins σ s u w,Inv C.X pins σ H s→RelV a u→RelV b w→∃t P,PySem.W.KitX C.X.K u t P∧P s.heap∧u≠ .builtin "__main__.__loader__#opaque"∧PySem.W.kitOne C.X.K t w=some k)∧QV (.bl k) H
theorem lN:CallR C.X (.builtin "isinstance") (rIsiA C):=by
 intro pins s σ H xs us Q I r h
 unfold rIsiA at h
 obtain ⟨a,b,k,rfl,hk,q⟩:=h
 obtain ⟨u1,u2,rfl,r1,r2⟩:=vals2 r
 obtain ⟨t,P,Z,p,hx,e⟩:=hk pins σ s u1 u2 I r1 r2
 exact PySem.W.kia_one Z I.kIn p e hx fun tk=>⟨.bl k,H,I.tok tk,rfl,q⟩
theorem isa_B {T:String} {b:Bool} (ty:TyL C.X.K L x t) (e:PySem.W.kitOne C.X.K t (.type T)=some b) (q:Q (.bl b) L):LcR C (rIsiA C) [x,.ty T] L Q:=fun Z vs H c r QV go=>by
 obtain ⟨v,w,rfl,r1,r2⟩:=r.twoE
 unfold rIsiA
 refine ⟨v,w,b,rfl,fun pins σ s u w' I ru rw=> ?_,go _ _ H L (.bl _) c (.refl L H) q⟩
 rw [r2.tyE] at rw
 cases (show w'=Value.type T from rw)
 obtain ⟨P,k,p,hx⟩:=ty.kit c r1 I ru
 exact ⟨t,P,k,p,hx,e⟩
theorem isa_O {b:Bool} (ty:TyL C.X.K L x t) (e:PySem.W.kitOne C.X.K t (.ref Cl)=some b) (q:Q (.bl b) L):LcR C (rIsiA C) [x,.ptr Cl] L Q:=fun Z vs H c r QV go=>by
 obtain ⟨v,w,rfl,r1,r2⟩:=r.twoE
 unfold rIsiA
 refine ⟨v,w,b,rfl,fun pins σ s u w' I ru rw=> ?_,go _ _ H L (.bl _) c (.refl L H) q⟩
 rw [r2.ptrE] at rw
 cases (show w'=Value.ref Cl from rw)
 obtain ⟨P,k,p,hx⟩:=ty.kit c r1 I ru
 exact ⟨t,P,k,p,hx,e⟩
end
end DL
namespace DL
open PySem PySem.Spec PyProof.Rows L2
section
variable {C:DL.Ctx} {Γ:Gm} {L:Lp} {Q:D→Lp→Prop} {x y:D} {t:Value} {Cl g:Addr} {k:Nat} {sp:SpA} {a b e o:Expr} {es:List Expr} {pos p p1:Pos} {E:AEnds}
structure CaJ (C:DL.Ctx) (f:Value) (Γ:Gm) (ds:List D) (L:Lp) (Q:D→Lp→Prop):Prop where
 run:∀Z σ H,Ok C Γ L Z σ H→∀vs,aZ C.X.K Z H vs ds→∀QV,Go C L Z H Q QV→∀pins s us,Inv C.X pins σ H s→Vals vs us→wpAny (model C.X.prog C.X.w) C.X.A (call f us) (EP C.X pins σ QV) C.X.xe s
theorem CaJ.of {f:Value} {ds:List D} {r:List V→Hp→VK→Prop} (hc:CallR C.X f r) (h:LcR C r ds L Q):CaJ C f Γ ds L Q:=⟨fun Z σ H ok vs rd QV go pins s us I r=>hc pins s σ H vs us QV I r (h Z vs H ok.con rd QV go)⟩
theorem ae_callBJ {x:Str} {id:String} (hm:C.X.mg x=none) (h:AA C (e::es) Γ L fun ds L1=>CaJ C (.builtin id) Γ ds L1 Q) (hv:bootBuiltins x=some (.builtin id):=by decide+kernel) (hg:Gl C.X x:=by rfl) (hn:x≠"__name__" :=by decide) (hdb:(x==("__debug__" :Str))=false:=by decide)
  (he:starEach (e::es) C.X.env=(false,eval e C.X.env)::starEach es C.X.env:=by rfl) (hpl:(backTo pos (starEach es C.X.env)).any (·.1)=false:=by rfl):AE C (.Call (.Name x p) (e::es) [] pos) Γ L Q:=fun Z σ H ok QV go=>⟨fun pins s I=>by
 refine wpAny_Call_Name_kw (ld_blt I hg hm hv ?_ hn hdb)
 refine PyProof.Rows.callWith_builtin1 (thn ((h Z σ H ok (fun vs H1=> ∃ds L1 Z1,aZ C.X.K Z1 H1 vs ds∧C.Con L1 Z1 H1∧Fr L Z H L1 Z1 H1∧CaJ C (.builtin id) Γ ds L1 Q) fun vs ds H1 L1 r1 c1 f1 q1=>⟨ds,L1,_,r1,c1,f1,q1⟩).run pos pins s I) fun us s1 ⟨vs,H1,I1,r1,ds,L1,Z1,rd,c1,f1,q1⟩=> ?_) he hpl
 exact q1.run Z1 σ H1 (ok.step c1 f1) vs rd QV (go.after f1) pins s1 us I1 r1⟩
theorem ae_isiJ (hm:C.X.mg "isinstance"=none) (h:AE C a Γ L fun x L1=>AE C b Γ L1 fun y L2=>LcR C (rIsiA C) [x,y] L2 Q) (hg:Gl C.X "isinstance" :=by rfl) (he:starEach [a,b] C.X.env=(false,eval a C.X.env)::starEach [b] C.X.env:=by rfl) (he2:starEach [b] C.X.env= [(false,eval b C.X.env)]:=by rfl) (hpl:(backTo pos (starEach [b] C.X.env)).any (·.1)=false:=by rfl):AE C (.Call (.Name "isinstance" p) [a,b] [] pos) Γ L Q:=
 aP lN hm (aC (h.mono fun x L1 q=>aC (q.mono fun y L2 q2=>aD q2) he2) he) (hg:=hg) (he:=he) (hpl:=hpl)
structure SbJ (C:DL.Ctx) (value slice:Expr) (Γ:Gm) (x y:D) (L:Lp) (Q:D→Lp→Prop):Prop where
 run:∀Z σ H,Ok C Γ L Z σ H→∀vx vy,Rep C.X.K Z H vx x→Rep C.X.K Z H vy y→∀QV,Go C L Z H Q QV→∀pins s v u,Inv C.X pins σ H s→RelV vx v→RelV vy u→wpAny (model C.X.prog C.X.w) C.X.A (subscriptTail value slice v u) (EP C.X pins σ QV) C.X.xe s
theorem SbJ.of {r:R2} (hs:PlainIx b) (hr:IxR C.X r) (h:L2R C r x y L Q):SbJ C a b Γ x y L Q:=⟨fun Z σ H ok vx vy rx ry QV go pins s v u I r1 r2=>hr a b pins s σ H vx vy v u QV I r1 r2 (h Z vx vy H ok.con rx ry QV go) (hs _ _)⟩
theorem ae_sbJ (h:AE C a Γ L fun x L1=>AE C b Γ L1 fun y L2=>SbJ C a b Γ x y L2 Q):AE C (.Subscript a b pos) Γ L Q:=fun Z σ H ok QV go=>⟨fun pins s I=>by
 refine Subscript_ ?_
 refine thn ((h Z σ H ok (fun vx H1=> ∃x L1 Z1,Rep C.X.K Z1 H1 vx x∧C.Con L1 Z1 H1∧Fr L Z H L1 Z1 H1∧AE C b Γ L1 fun y L2=>SbJ C a b Γ x y L2 Q) fun v d H' L' r c f q=>⟨d,L',_,r,c,f,q⟩).run pins s I) fun v s1 ⟨vx,H1,I1,r1,x,L1,Z1,rx,c1,f1,q1⟩=> ?_
 refine thn ((q1 Z1 σ H1 (ok.step c1 f1) (fun vy H2=> ∃y L2 Z2,Rep C.X.K Z2 H2 vy y∧C.Con L2 Z2 H2∧Fr L1 Z1 H1 L2 Z2 H2∧SbJ C a b Γ x y L2 Q) fun v d H' L' r c f q=>⟨d,L',_,r,c,f,q⟩).run pins s1 I1) fun u s2 ⟨vy,H2,I2,r2,y,L2,Z2,ry,c2,f2,q2⟩=> ?_
 exact q2.run Z2 σ H2 (ok.step c2 (f1.trans f2)) vx vy (rx.mono f2.mv) ry QV (go.after (f1.trans f2)) pins s2 v u I2 r1 r2⟩
structure StJ (C:DL.Ctx) (Γ:Gm) (x i v:D) (L:Lp) (Q:Lp→Prop):Prop where
 run:∀Z σ H,Ok C Γ L Z σ H→∀vx vi vv,Rep C.X.K Z H vx x→Rep C.X.K Z H vi i→Rep C.X.K Z H vv v→∀QV:Hp→Prop,(∀{Z'} H' L',C.Con L' Z' H'→Fr L Z H L' Z' H'→Q L'→QV H')→∀pins s ux ui uv,Inv C.X pins σ H s→RelV vx ux→RelV vi ui→RelV vv uv→
  wpAny (model C.X.prog C.X.w) C.X.A (setItem ux ui uv) (fun _ s'=> ∃H',Inv C.X pins σ H' s'∧QV H') C.X.xe s
theorem as_subJ (h:AE C e Γ L fun v L1=>AE C o Γ L1 fun x L2=>AE C b Γ L2 fun i L3=>StJ C Γ x i v L3 fun L4=>E.nx Γ L4)
  (hs:swapsWith e (some (.Subscript o b p1)) pos.line C.X.env=pure false:=by rfl):AS C (.Assign [.Subscript o b p1] e pos) Γ L E:=fun Z σ H ok DD go=>⟨fun pins s I=>by
 refine wpAny_Assign_Subscript ?_ hs
 refine thn ((h Z σ H ok (fun vv H1=> ∃v L1 Z1,Rep C.X.K Z1 H1 vv v∧C.Con L1 Z1 H1∧Fr L Z H L1 Z1 H1∧AE C o Γ L1 fun x L2=>AE C b Γ L2 fun i L3=>StJ C Γ x i v L3 fun L4=>E.nx Γ L4) fun v d H' L' r c f q=>⟨d,L',_,r,c,f,q⟩).run pins s I) fun uv s1 ⟨vv,H1,I1,r1,v,L1,Z1,rv,c1,f1,q1⟩=> ?_
 refine thn ((q1 Z1 σ H1 (ok.step c1 f1) (fun vx H2=> ∃x L2 Z2,Rep C.X.K Z2 H2 vx x∧C.Con L2 Z2 H2∧Fr L1 Z1 H1 L2 Z2 H2∧AE C b Γ L2 fun i L3=>StJ C Γ x i v L3 fun L4=>E.nx Γ L4) fun v d H' L' r c f q=>⟨d,L',_,r,c,f,q⟩).run pins s1 I1) fun ux s2 ⟨vx,H2,I2,r2,x,L2,Z2,rx,c2,f2,q2⟩=> ?_
 refine thn ((q2 Z2 σ H2 (ok.step c2 (f1.trans f2)) (fun vi H3=> ∃i L3 Z3,Rep C.X.K Z3 H3 vi i∧C.Con L3 Z3 H3∧Fr L2 Z2 H2 L3 Z3 H3∧StJ C Γ x i v L3 fun L4=>E.nx Γ L4) fun v d H' L' r c f q=>⟨d,L',_,r,c,f,q⟩).run pins s2 I2) fun ui s3 ⟨vi,H3,I3,r3,i,L3,Z3,ri,c3,f3,q3⟩=> ?_
 have f13:=(f1.trans f2).trans f3
 refine thn (q3.run Z3 σ H3 (ok.step c3 f13) vx vi vv (rx.mono f3.mv) ri ((rv.mono f2.mv).mono f3.mv) (fun H4=>DD.nx σ H4) (fun H4 L4 c4 f4 q4=>go.nx σ H4 Γ L4 (ok.step c4 (f13.trans f4)) (f13.trans f4) q4) pins s3 ux ui uv I3 r2 r3 r1) fun _ s4 ⟨H4,I4,q4⟩=> ?_
 exact ⟨σ,H4,I4,q4⟩⟩
end
end DL
namespace DL
open PySem PySem.Spec PyProof.Rows L2
section
variable {C:DL.Ctx} {Γ:Gm} {L:Lp} {e e2:Expr} {pos:Pos}
theorem ass_frz (n:Nat) {d d':D} {L':Lp} {st:List Stmt} {E:AEnds} (hn:Γ[n]? =some (some d)) (z:Frz C L d L' d') (h:ASs C st (Γ.set n (some d')) L' E):ASs C st Γ L E:=fun F σ H ok DD go=>⟨fun pins s I=>by
 obtain ⟨v,hv,rv⟩:=ok.sl.get n d hn
 obtain ⟨F',H',I',r',c',f'⟩:=z pins σ s F H v I ok.con rv
 have sl:Sl C.X.K F' H' σ (Γ.set n (some d')):=by
  have:=(ok.sl.mono f'.mv).set n r'
  rwa [show σ.set n (some v)=σ from by
   apply List.ext_getElem?
   intro j
   by_cases e:j=n
   ·subst e
    rw [hv,List.getElem?_set_self (List.getElem?_eq_some_iff.mp hv).1]
   ·rw [List.getElem?_set_ne (Ne.symm e)]] at this
 exact (h F' σ H' ⟨sl,c',ok.lr.step f'⟩ DD (go.after f')).run pins s I'⟩
theorem as_setMap (n i:Nat) {E:AEnds} {x y:Str} {px py spos:Pos} {scope:Scope} {elt iter:Expr}
  (h:AI C (.Name x px) iter Γ L fun ds G L1=> ∃(α:Type) (xs:List α) (g f:α→D),ds=xs.map g∧G L1∧ds.length≤sizeLine∧(∀y∈xs,∀s H Cc cl fp,AV (cZ C scope s H Cc cl fp) elt ((dB Γ [i]).set i (some (g y))) L1 (f y))∧∀p,L1 p=none→E.nx (Γ.set n (some (.ptr p))) (put L1 p (.lst (xs.map f))))
  (hag:∀s H Cc cl fp d Γ,AG (cZ C scope s H Cc cl fp) (.Name x px) d Γ (Γ.set i (some d)) [i]:=by (intro _ _ _ _ _ _ _;exact aM _))
  (hy:C.X.N[n]? =some y:=by rfl) (hyl:C.X.env.scope.names.lookup y=some .local:=by rfl) (hsw:swapsWith (.ListComp elt [⟨.Name x px,iter,[],0⟩] scope pos) (some (.Name y py)) spos.line C.X.env=pure true:=by exact sw_true rfl rfl rfl (by decide+kernel))
  (ok:BlkOk C.X.N C.X.env.scope scope [(x,i)]:=by (dsimp only [uF,cZ,cxOf,envOfC,compEnvC,Cx.blk];exact blkOk_by (by decide+kernel))) (hs:∀x,foldedSetIterable iter C.X.env x=pure x:=by intro _;rfl):AS C (.Assign [.Name y py] (.ListComp elt [⟨.Name x px,iter,[],0⟩] scope pos) spos) Γ L E:=
 wF n [(x,i)] (fun F σ H okk RV go=>h F σ H okk RV fun J H' L' ds G c f it ⟨α,xs,g,f',e,hG,hz,hf,q⟩=>by
  subst e
  rw [List.length_map] at hz
  exact go J H' L' _ G c f it (vO (R:=fun acc L2=> ∀p,L2 p=none→E.nx (Γ.set n (some (.ptr p))) (put L2 p (.lst acc))) (t:=fun _=>true) hG hz (fun j hj=>hj) (fun y hy s H Cc cl fp=>⟨hag s H Cc cl fp _ _,fun Q q=>jA q,fun _=>hf y hy s H Cc cl fp⟩) (by rw [List.filter_eq_self.mpr fun _ _=>rfl];exact q))) hy hyl hsw ok hs
end
end DL
namespace DL
open PySem PySem.Spec PyProof.Rows L2
def FnG (P:Program) (w:World) (K:PySem.W.Frag) (mg:Str→Option Value) (base:Heap) (k:Nat) (f:Addr) (sp:SpA):Prop:=
 ∀(A:Around) (outer:List Env) (s:Shared) (H:Hp) (us:List Value) (vs:List V) (Q:VK) (E:XK),Room k A→A.guards=some []→Env0 P w K mg base A outer s H→Vals vs us→aBA P w K sp vs H Q E→codeAny (model P w) A (.call (.ref f) ⟨us,[]⟩) (CR (L2.CX P w) outer P w H s Q E) s
structure DefG (P:Program) (w:World) (K:PySem.W.Frag) (mg:Str→Option Value) (base:Heap) (x:Str) (k:Nat) (sp:SpA):Prop where
 ex:∃f,mg x=some (.ref f)∧PySem.W.keepIn K (.ref f)=true∧FnG P w K mg base k f sp
theorem guards_deeper (A:Around) (env:Env):(A.deeper env).guards=A.guards:=by
 first | rfl | simp [Around.deeper]
section
variable {P:Program} {w:World} {K:PySem.W.Frag} {mg:Str→Option Value} {base:Heap} {x qual:Str} {st:Stmt} {f:Addr} {fd:FuncData} {N ps:List Str} {k:Nat} {sp:SpA}
theorem fnG0 (F:Fun K x qual st f fd) (S:FnScope N ps (defScope st))
  (hbody:∀(cdv:Value) (A:Around) (outer:List Env) (s:Shared) (H:Hp) (E:XK) (ds:List D) (L:Lp) (Q:D→Lp→Prop) (R:Value→List (Str×D)→Lp→Prop),Room k (A.deeper (envOfC qual (defScope st) s.heap.objs.size f cdv))→(A.deeper (envOfC qual (defScope st) s.heap.objs.size f cdv)).guards=some []→sp ds L Q R→
   ASs (uF P w K mg base N qual (defScope st) f cdv A outer s H E S.nd R) (defBody st) (uD N ds) L (uG Q))
  (len:∀ds L Q R,sp ds L Q R→ds.length=ps.length) {A:Around} {outer:List Env} {s:Shared} {H:Hp} {us:List Value} {vs:List V} {Q:VK} {E:XK} {args:Args} (hr:Room (k+1) A) (hg:A.guards=some []) (e0:Env0 P w K mg base A outer s H) (hb:BindsTo s fd args (ps.zip us)) (r:Vals vs us) (h:aBA P w K sp vs H Q E):
  codeAny (model P w) A (.call (.ref f) args) (CR (L2.CX P w) outer P w H s Q E) s:=by
 obtain ⟨oc,od,kV,doc,pm,an,cdv,ct,osl,rfl,lk,hcd⟩:=F.ex
 obtain ⟨ds,L,Z,Q',R',rd,c,hsp,hq,he⟩:=h
 have hl:vs.length=ps.length:=by rw [rd.length];exact len _ _ _ _ hsp
 have up:∀b o,base.get? b=some o→s.heap.get? b=some o:=fun b o z=>(e0.bs b o z).1
 have KX:K.In s.heap:=e0.mod.kin.keeps up
 have kinds:∀y∈ps.zip us,(defScope st).names.lookup y.1=some .local∨((defScope st).names.lookup y.1=some .cell∧((cellsFrom (s.heap.objs.size+1) (defScope st).names []).lookup y.1).isSome=true):=fun y hy=>
  (S.par y.1 (List.of_mem_zip (a:=y.1) (b:=y.2) hy).1).imp id fun z=>⟨z,PySem.W.cellsFrom_some _ _ _ (.inl z)⟩
 refine codeAny_call_function hr.depth (KX _ _ lk) rfl S.co S.gen rfl (PySem.W.codeRec_of KX hcd) (hb _ _ _ _ (wpAny_newFunctionEnv_cells S.kind kinds fun env ee s1 z=> ?_))
 subst ee
 refine ⟨(e0.mod.nolimit.keeps up).keeps z.toInCall.keep,codeAny_func ?_⟩
 have body:=hbody cdv A outer s H E ds L Q' R' (hr.deeper _) ((guards_deeper _ _).trans hg) hsp _ (L2.start N vs) H ⟨uU rd,c,⟨fun cls d σ' H' Γ' L' fs _ c' f' xd q=>he cls fs L' q d H' xd c' f',True.intro⟩⟩
  {nx:=fun _ H'=>Q .non H',rt:=Q} ⟨fun σ' H' Γ' L' ok' f' ⟨L2,le,q⟩=>hq .non L2 q .non H' .non (ok'.con.le le) (f'.leR le),fun v d H' L' rv c' f' ⟨L2,le,q⟩=>hq d L2 q v H' rv (c'.le le) (f'.leR le),fun _ _ _ _ _ _ z=>z.elim,fun _ _ _ _ _ _ z=>z.elim⟩
 have I:Inv (cxOf (L2.CX P w) P w K mg base N qual (defScope st) f cdv A outer s H E) [] (L2.start N vs) H s1:=inv_start S hr.hd e0 hl r z
 refine wpAny_mono (body.run [] s1 I) (fun fl s' hs=> ?_) fun _ _ z=>z
 cases fl with
 | ret u=>obtain ⟨v,σ',H',J,rv,q⟩:=hs;exact ⟨v,H',J.os,J.bare,J.base,J.hok,rv,q⟩
 | next=>obtain ⟨σ',H',J,q⟩:=hs;exact ⟨.non,H',J.os,J.bare,J.base,J.hok,rfl,q⟩
 | brk=>obtain ⟨_,_,_,q⟩:=hs;exact q.elim
 | cont=>obtain ⟨_,_,_,q⟩:=hs;exact q.elim
end
end DL
namespace DL
open PySem PySem.Spec PyProof.Rows L2
theorem fnG {P:Program} {w:World} {K:PySem.W.Frag} {mg:Str→Option Value} {base:Heap} {x qual:Str} {st:Stmt} {f:Addr} {fd:FuncData} {N ps:List Str} {k:Nat} {sp:SpA} (F:Fun K x qual st f fd) (S:FnScope N ps (defScope st)) (hb:Binds K fd ps []) (len:∀ds L Q R,sp ds L Q R→ds.length=ps.length)
  (hbody:∀(cdv:Value) (A:Around) (outer:List Env) (s:Shared) (H:Hp) (E:XK) (ds:List D) (L:Lp) (Q:D→Lp→Prop) (R:Value→List (Str×D)→Lp→Prop),Room k (A.deeper (envOfC qual (defScope st) s.heap.objs.size f cdv))→(A.deeper (envOfC qual (defScope st) s.heap.objs.size f cdv)).guards=some []→sp ds L Q R→
   ASs (uF P w K mg base N qual (defScope st) f cdv A outer s H E S.nd R) (defBody st) (uD N ds) L (uG Q)):FnG P w K mg base (k+1) f sp:=fun A outer s H us vs Q E hr hg e0 r h=>by
 have hl:us.length=ps.length:=by
  obtain ⟨ds,L,Z,Q',R',rd,c,hsp,_⟩:=h
  rw [←r.length,rd.length]
  exact len _ _ _ _ hsp
 have b:=hb s us (e0.mod.kin.keeps fun b o z=>(e0.bs b o z).1) (by rw [List.append_nil];exact hl)
 rw [List.append_nil] at b
 exact fnG0 F S hbody len hr hg e0 b r h
section
variable {C:DL.Ctx} {Γ:Gm} {L:Lp} {e:Expr} {es:List Expr} {p pos:Pos} {Q:D→Lp→Prop} {x:Str} {k:Nat} {sp:SpA}
theorem wR (F:DefG C.X.prog C.X.w C.X.K C.X.mg C.X.base x k sp) (hr:Room k C.X.A) (hgd:C.X.A.guards=some []) (h:AA C (e::es) Γ L fun ds L1=>sp ds L1 Q (C.R Γ)) (hg:Gl C.X x:=by rfl) (hdb:(x==("__debug__" :Str))=false:=by decide)
  (he:starEach (e::es) C.X.env=(false,eval e C.X.env)::starEach es C.X.env:=by rfl) (hpl:(backTo pos (starEach es C.X.env)).any (·.1)=false:=by rfl):AE C (.Call (.Name x p) (e::es) [] pos) Γ L Q:=fun Z σ H ok QV go=>by
 refine ⟨fun pins s I=> ?_⟩
 obtain ⟨f,hm,hk,G⟩:=F.ex
 refine wpAny_Call_Name_kw (ld_glob I hg hm ?_ hdb)
 refine PySem.W.callWith_K (h₀:=C.X.base) I.ok.mod.kin hk (thn ((h _ σ H ok (fun vs H1=> ∃ds L1 Z1,aZ C.X.K Z1 H1 vs ds∧C.Con L1 Z1 H1∧Fr L Z H L1 Z1 H1∧sp ds L1 Q (C.R Γ)) (fun vs ds H1 L1 r c f q=>⟨ds,L1,_,r,c,f,q⟩)).run pos pins s I) fun us s1 ⟨vs,H1,I1,r,ds,L1,Z1,rd,c1,f1,q⟩=>⟨I1.kIn,wpAny_call ?_⟩) he hpl
 have ok1:=ok.step c1 f1
 have go1:Go C L1 Z1 H1 Q QV:=go.after f1
 refine codeAny_mono (G C.X.A C.X.stack s1 H1 us vs QV (L2.WE C.W σ) hr hgd I1.env0 r ⟨ds,L1,Z1,Q,C.R Γ,rd,ok1.con,q,fun d L' q v H' rv c f=>go1 v d H' L' rv c f q,fun cls fs L' q d H' xd c f=>ok1.lr.of cls d σ H' Γ L' fs (ok1.sl.mono f.mv) c f xd q⟩) fun r s' hq=> ?_
 cases r with
 | error e=>exact passAt C.tk σ pins H1 s1 e s' I1 hq
 | ok fl=>
  cases fl with
  | ret u=>exact I1.after hq
  | next=>exact hq.elim
  | brk=>exact hq.elim
  | cont=>exact hq.elim
end
theorem call_law {P:Program} {w:World} {K:PySem.W.Frag} {mg mb:Str→Option Value} {CX:CXT} {fa a:Addr} {s₁:Shared} {vs:List Value} {ns:List Int}
  (KX:K.In s₁.heap) (hm:s₁.heap.Ns mainGlobals mg) (hb:s₁.heap.Ns builtinsNs mb) (hbb:∀x:Str,x≠"__name__"→mb x=bootBuiltins x) (hlim:s₁.heap.NoLimit) (hg:s₁.gens= #[])
  (ha:s₁.heap.get? a=some {cls:= .type "list",data:= .seq vs.toArray}) (hi:IntsAre vs ns) (hl:ns.length≤sizeLine) (hsy:∃mm,s₁.heap.Ns sysModules mm)
  (F:∀(base:Heap) (H:Hp),K.In base→base.Ns mainGlobals mg→(∃o,base.get? sysModules=some o)→Env0 P w K mg base callerA [] s₁ H→Only H→SqL K H a (ns.map V.int)→codeAny (model P w) callerA (.call (.ref fa) ⟨[.ref a],[]⟩) (CR CX [] P w H s₁ (fun v _=>v= .bl true) fun _ _ _=>False) s₁)
  (hX:∀H e s',CX [] H s₁ (fun _ _ _=>False) e s'→False):
  codeAny (model P w) callerA (.call (.ref fa) ⟨[.ref a],[]⟩) (fun r s'=>r= .ok (.ret (.bool true))∧OldK s₁.heap s'.heap∧s'.os=s₁.os∧AllBare s'.gens) s₁:=by
 have rv:=vals_ints hi
 have main:∀H:Hp,Only H→SqL K H a (ns.map V.int)→HOk P w H s₁.heap→(∀b,H b≠none→b=a)→(H a≠none→K.lookup a=none)→
   codeAny (model P w) callerA (.call (.ref fa) ⟨[.ref a],[]⟩) (fun r s'=>r= .ok (.ret (.bool true))∧OldK s₁.heap s'.heap∧s'.os=s₁.os∧AllBare s'.gens) s₁:=by
  intro H hO hS hok hA hK
  have out:∀{b:Addr} {o:Obj},s₁.heap.get? b=some o→(H b≠none→False)→(hidT s₁.heap H).get? b=some o:=fun {b o} z nz=>hidT_get z (by
   cases q:H b with
   | none=>rfl
   | some u=>exact (nz (by rw [q];simp)).elim)
  have nsk:∀{b:Addr} {m:Str→Option Value},s₁.heap.Ns b m→(hidT s₁.heap H).Ns b m:=fun {b m} h=>by
   obtain ⟨o,es,ep,z,d,r⟩:=h
   refine ⟨o,es,ep,out z fun nz=> ?_,d,r⟩
   have eb:=hA b nz
   rw [eb,ha] at z
   cases z
   cases (show Data.seq vs.toArray _=Data.dict es ep from d)
  have kb:K.In (hidT s₁.heap H):=fun b o z=>out (KX b o z) fun nz=>by
   have eb:=hA b nz
   rw [eb] at z nz
   rw [hK nz] at z
   cases z
  have md:Mod K mg (hidT s₁.heap H):=⟨kb,nsk hm,⟨mb,nsk hb,hbb⟩,let ⟨mc,h1,h2⟩:=hlim;⟨mc,nsk h1,h2⟩⟩
  have e0:Env0 P w K mg (hidT s₁.heap H) callerA [] s₁ H:=⟨rfl,md,fun b o z=>of_hidT z,Nat.le_of_eq (hidT_size _ _),trivial,(fun b z=>nomatch z),hok,.of_eq hg⟩
  refine codeAny_mono (F _ H kb (nsk hm) (let ⟨_,z⟩:=hsy;let ⟨o,_,_,e,_⟩:=nsk z;⟨o,e⟩) e0 hO hS) fun r s' hr=> ?_
  match r,hr with
  | .error e,hr=>exact (hX H e s' hr).elim
  | .ok (.ret u),⟨v,H',os,bare,un,hok',ru,ev⟩=>
   subst ev
   cases (show u=Value.bool true from ru)
   refine ⟨rfl,OldK.of_keep fun b o z=> ?_,os,bare⟩
   rcases hO b with q | ⟨ob,xs,q⟩
   ·exact un.keep b o z q (fun zz=>nomatch zz) (by simp)
   ·obtain ⟨e1,_⟩:=hok b _ q
    obtain ⟨e2,_⟩:=hok' b _ (un.frzs b ob _ q)
    rw [z] at e1
    cases e1
    exact e2
 cases hk:K.lookup a with
 | some o=>
  have z:=KX a o hk
  rw [ha] at z
  cases z
  exact main (fun _=>none) (fun _=> .inl rfl) (.inr ⟨_,vs.toArray,_,hk,rfl,rfl,rfl,by rw [List.size_toArray,hi.length];exact hl,by simpa using rv⟩) (fun b u z=>nomatch z) (fun b z=>(z rfl).elim) fun z=>(z rfl).elim
 | none=>
  have at1:upd (fun _=>none) a (.frz {cls:= .type "list",data:= .seq vs.toArray} (.lst (ns.map V.int))) a=some (.frz {cls:= .type "list",data:= .seq vs.toArray} (.lst (ns.map V.int))):=upd_same
  have at2:∀b,b≠a→upd (fun _=>none) a (.frz {cls:= .type "list",data:= .seq vs.toArray} (.lst (ns.map V.int))) b=none:=fun b nb=>upd_ne nb
  refine main (upd (fun _=>none) a (.frz {cls:= .type "list",data:= .seq vs.toArray} (.lst (ns.map V.int)))) (fun b=> ?_) (.inl (.inr ⟨_,at1⟩)) (fun b u z=> ?_) (fun b z=> ?_) fun _=>hk
  ·by_cases eb:b=a
   ·subst eb;exact .inr ⟨_,_,at1⟩
   ·exact .inl (at2 b eb)
  ·by_cases eb:b=a
   ·subst eb
    rw [at1] at z
    cases z
    exact ⟨ha,by rw [List.length_map];exact hl,vs,_,rv,ha⟩
   ·rw [at2 b eb] at z
    cases z
  ·exact Classical.byContradiction fun eb=>z (at2 b eb)
theorem walk_G {l:PySem.W.OpenLaw} {n k:Nat} {q:Program} {loose:List Str} {XP:(Str→Option Value)→Heap→Prop} {YP:World→Heap→Prop} {d:DefRec} {K:Params→PySem.W.Frag} {sp:SpA}
  (hn:l.most=some n) (hn2:n≤sizeLine) (hdf:d.params.defaults= []) (hr:Room k callerA)
  (hY:∀(w:World) (h:Heap),YP w h→(K w.params).In h)
  (F:∀(w:World) (mg:Str→Option Value) (fa:Addr) (h:Heap),(K w.params).In h→h.Ns mainGlobals mg→mg d.name=some (.ref fa)→∀base:Heap,(K w.params).In base→base.Ns mainGlobals mg→(∃o,base.get? sysModules=some o)→FnG l.prog w (K w.params) mg base k fa sp)
  (hsp:∀(ns:List Int) (Q:D→Lp→Prop) (R:Value→List (Str×D)→Lp→Prop),Q (.bl true) (fun _=>none)→sp [.ilst ns] (fun _=>none) Q R) (hin:importsNone q=true:=by rfl):
  PySem.W.WalkO q loose XP YP l.row.toRowW d [] (fun f vs=>PySem.call f vs):=by
 refine Att.attach_call hn hdf fun w s₀ s₁ mg mb fa o pm cd doc a vs ns G Y ho hd hcd hmg hobj hints hlen hg=> ?_
 have kx:=hY w _ Y
 exact call_law (CX:=L2.CX l.prog w) kx G.T.g G.T.b G.T.builtins G.T.nolimit hg hobj hints (Nat.le_trans hlen hn2) (let ⟨mm,z,_⟩:=(G.T.seer hin).mods;⟨mm,z⟩) (fun base H kb hm hsy e0 hO hS=>F w mg fa _ kx G.T.g hmg base kb hm hsy callerA [] s₁ H [.ref a] [.ref a] _ _ hr rfl e0 (.cons rfl .nil) (law_sp hO hS (hsp ns))) fun H e s' z=>law_cx z
end DL
namespace DL
open PySem PySem.Spec PyProof.Rows L2
def aBr:Key→PyData
 | .inl i=> .int i
 | .inr x=> .str x
mutual
def pyE:D→PyData
 | .non=> .none
 | .bl b=> .bool b
 | .int i=> .int i
 | .str x=> .str x
 | .tup ds=> .tuple (tZ ds)
 | .flst ds=> .list (tZ ds)
 | .kdct kds=> .dict (aAC kds)
 | .ty _=> .none
 | .ptr _=> .none
 | .ilst _=> .none
 | .obj _ _=> .none
 | .fdct _=> .none
 | .wds _=> .none
 | .tk _=> .none
 | .iob _ _=> .none
def tZ:List D→List PyData
 | []=> []
 | d::ds=>pyE d::tZ ds
def aAC:List (Key×D)→List (PyData×PyData)
 | []=> []
 | (k,d)::r=>(aBr k,pyE d)::aAC r
end
mutual
def okE:D→Bool
 | .non=>true
 | .bl _=>true
 | .int _=>true
 | .str _=>true
 | .tup ds=>wV ds
 | .flst ds=>wV ds
 | .kdct kds=>aBm kds
 | .ty _=>false
 | .ptr _=>false
 | .ilst _=>false
 | .obj _ _=>false
 | .fdct _=>false
 | .wds _=>false
 | .tk _=>false
 | .iob _ _=>false
def wV:List D→Bool
 | []=>true
 | d::ds=>okE d && wV ds
def aBm:List (Key×D)→Bool
 | []=>true
 | (_,d)::r=>okE d && aBm r
end
theorem okEs_mem:∀{ds:List D},wV ds=true→∀d∈ds,okE d=true
 | d::ds,h,x,hx=>by
  rw [wV,Bool.and_eq_true] at h
  rcases List.mem_cons.mp hx with rfl | hx
  ·exact h.1
  ·exact okEs_mem h.2 x hx
mutual
theorem yH:∀d:D,okD d=true→okE d=true
 | .non,_=>by rw [okE]
 | .bl _,_=>by rw [okE]
 | .int _,_=>by rw [okE]
 | .str _,_=>by rw [okE]
 | .tup ds,h=>by rw [okE];rw [okD] at h;exact okEs_okD ds h
 | .ty _,h=>by simp [okD] at h
 | .ptr _,h=>by simp [okD] at h
 | .ilst _,h=>by simp [okD] at h
 | .obj _ _,h=>by simp [okD] at h
 | .flst _,h=>by simp [okD] at h
 | .fdct _,h=>by simp [okD] at h
 | .kdct _,h=>by simp [okD] at h
 | .wds _,h=>by simp [okD] at h
 | .tk _,h=>by simp [okD] at h
 | .iob _ _,h=>by simp [okD] at h
theorem okEs_okD:∀ds:List D,gA ds=true→wV ds=true
 | [],_=>by rw [wV]
 | d::ds,h=>by
  rw [gA,Bool.and_eq_true] at h
  rw [wV,yH d h.1,okEs_okD ds h.2]
  rfl
end
section
variable {X:Cx} {pins:List (Addr×Obj)} {σ:L2.St} {H:Hp} {s:Shared} {Z:Fz}
theorem Inv.nsys (I:Inv X pins σ H s) (hs:∃o,X.base.get? sysModules=some o) {a:Addr} {u:HO} (ha:H a=some u):a≠sysModules:=fun e=>by
 obtain ⟨o,ho⟩:=hs
 have:=(I.bs _ _ ho).2
 rw [←e,ha] at this
 cases this
theorem key_reads {h:Heap} {k:Key} {v:Value} (e:keyIs k v=true):Reads h v (aBr k) []:=by
 rcases keyIs_shape e with ⟨i,t,rfl,rfl⟩ | ⟨x,t,rfl,rfl⟩
 ·exact .int i t
 ·exact .str x t
mutual
theorem Rep.rd (I:Inv X pins σ H s) (hs:∃o,X.base.get? sysModules=some o):∀(d:D) (v:V) (u:Value),okE d=true→Rep X.K Z H v d→RelV v u→∃as,Reads s.heap u (pyE d) as∧sysModules∉as
 | .non,_,u,_,r,ru=>by
  rw [r.nonE] at ru
  cases (show u=Value.none from ru)
  rw [pyE]
  exact ⟨[],.none,by simp⟩
 | .bl b,_,u,_,r,ru=>by
  rw [r.blE] at ru
  cases (show u=Value.bool b from ru)
  rw [pyE]
  exact ⟨[],.bool b,by simp⟩
 | .int i,_,u,_,r,ru=>by
  rw [r.intE] at ru
  obtain ⟨t,rfl⟩:=ru
  rw [pyE]
  exact ⟨[],.int i t,by simp⟩
 | .str x,_,u,_,r,ru=>by
  rw [r.strE] at ru
  obtain ⟨t,rfl⟩:=ru
  rw [pyE]
  exact ⟨[],.str x t,by simp⟩
 | .tup ds,_,u,h,r,ru=>by
  obtain ⟨a,vs,rfl,ha,ra⟩:=r.tupE
  cases (show u=Value.ref a from ru)
  rw [okE] at h
  obtain ⟨its,rv,⟨o,ho,hc,n,hd⟩,_⟩:=I.tuple (SqT.of ha)
  obtain ⟨as,h1,h2⟩:=aZ.rd I hs ds vs its h ra rv
  rw [pyE]
  exact ⟨as,.tuple ho hc hd (by simpa using h1),h2⟩
 | .flst ds,_,u,h,r,ru=>by
  cases r with
  | @flst a vs _ hl ha hz hn hi=>
   cases (show u=Value.ref a from ru)
   rw [okE] at h
   obtain ⟨its,rv,⟨o,n,ho,hc,hd,hdt⟩,_⟩:=I.list (SqL.of ha)
   obtain ⟨as,h1,h2⟩:=aZ.rd I hs ds vs its h (aZ.of_get hn hi) rv
   rw [pyE]
   refine ⟨a::as,.list ho hc hdt (by simpa using h1),fun z=> ?_⟩
   rcases List.mem_cons.mp z with e | e
   ·exact Inv.nsys I hs ha e.symm
   ·exact h2 e
 | .kdct kds,_,u,h,r,ru=>by
  cases r with
  | @kdct a kvs _ o hl ha hn he hi=>
   cases (show u=Value.ref a from ru)
   rw [okE] at h
   obtain ⟨_,hg,hx,es,ep,vs,hdt,hsz,kv,_,_,h1,h2,h3,h4,h5,h6⟩:=I.frzK ha
   rw [hg] at h1
   cases h1
   rw [hdt] at h3
   cases h3
   obtain ⟨as,bs,g1,g2,g3,g4⟩:=Repk.rd I hs kds kvs vs es.toList h hn he hi kv h5
   rw [pyE]
   refine ⟨_,.dict hg hx.1 hdt g1 g2,fun z=> ?_⟩
   rcases List.mem_append.mp z with z | z
   ·rcases List.mem_cons.mp z with e | e
    ·exact Inv.nsys I hs ha e.symm
    ·exact g3 e
   ·exact g4 z
 | .ty _,_,_,h,_,_=>by simp [okE] at h
 | .ptr _,_,_,h,_,_=>by simp [okE] at h
 | .ilst _,_,_,h,_,_=>by simp [okE] at h
 | .obj _ _,_,_,h,_,_=>by simp [okE] at h
 | .fdct _,_,_,h,_,_=>by simp [okE] at h
 | .wds _,_,_,h,_,_=>by simp [okE] at h
 | .tk _,_,_,h,_,_=>by simp [okE] at h
 | .iob _ _,_,_,h,_,_=>by simp [okE] at h
theorem aZ.rd (I:Inv X pins σ H s) (hs:∃o,X.base.get? sysModules=some o):∀(ds:List D) (vs:List V) (us:List Value),wV ds=true→aZ X.K Z H vs ds→Vals vs us→∃as,ReadsAll s.heap us (tZ ds) as∧sysModules∉as
 | [],_,_,_,r,rv=>by
  cases r
  cases rv
  rw [tZ]
  exact ⟨[],.nil,by simp⟩
 | d::ds,_,_,h,r,rv=>by
  rw [wV,Bool.and_eq_true] at h
  cases r with
  | cons r1 r2=>
   cases rv with
   | cons v1 v2=>
    obtain ⟨as,a1,a2⟩:=Rep.rd I hs d _ _ h.1 r1 v1
    obtain ⟨bs,b1,b2⟩:=aZ.rd I hs ds _ _ h.2 r2 v2
    rw [tZ]
    exact ⟨as++bs,.cons a1 b1,fun z=>(List.mem_append.mp z).elim a2 b2⟩
theorem Repk.rd (I:Inv X pins σ H s) (hs:∃o,X.base.get? sysModules=some o):∀(kds:List (Key×D)) (kvs:List (Key×V)) (vs:List (Key×Value)) (es:List DictEntry),aBm kds=true→kvs.length=kds.length→(∀(i:Nat) (v:Key×V) (d:Key×D),kvs[i]? =some v→kds[i]? =some d→v.1=d.1)→
  (∀(i:Nat) (v:Key×V) (d:Key×D),kvs[i]? =some v→kds[i]? =some d→Rep X.K Z H v.2 d.2)→KV kvs vs→Pairs (mixKind X.prog X.w) es vs→∃as bs,ReadsAll s.heap (es.map (·.key)) ((aAC kds).map (·.1)) as∧ReadsAll s.heap (es.map (·.val)) ((aAC kds).map (·.2)) bs∧sysModules∉as∧sysModules∉bs
 | [],[],_,_,_,_,_,_,kv,pr=>by
  cases kv
  cases pr
  rw [aAC]
  exact ⟨[],[],.nil,.nil,by simp,by simp⟩
 | [],_::_,_,_,_,hl,_,_,_,_=>by simp at hl
 | (k,d)::kds,[],_,_,_,hl,_,_,_,_=>by simp at hl
 | (k,d)::kds,v::kvs,_,_,h,hl,he,hi,kv,pr=>by
  rw [aBm,Bool.and_eq_true] at h
  cases kv with
  | @cons _ q _ _ r1 r2=>
   cases pr with
   | cons p1 p0 p2=>
    obtain ⟨as,bs,g1,g2,g3,g4⟩:=Repk.rd I hs kds kvs _ _ h.2 (by simpa using hl) (fun i x y e1 e2=>he (i+1) x y (by simpa using e1) (by simpa using e2)) (fun i x y e1 e2=>hi (i+1) x y (by simpa using e1) (by simpa using e2)) r2 p2
    have ek:v.1=k:=he 0 v (k,d) rfl rfl
    have rk:=key_reads (h:=s.heap) (show keyIs q.1 _=true from p1)
    rw [←r1.1,ek] at rk
    obtain ⟨cs,c1,c2⟩:=Rep.rd I hs d v.2 q.2 h.1 (hi 0 v (k,d) rfl rfl) r1.2
    rw [aAC]
    refine ⟨[]++as,cs++bs,.cons rk g1,.cons ?_ g2,by simpa using g3,fun z=>(List.mem_append.mp z).elim c2 g4⟩
    show Reads s.heap _ (pyE d) cs
    dsimp only
    rw [p0]
    exact c1
end
theorem cr_repr (hg:X.A.guards=some []) (hs:∃o,X.base.get? sysModules=some o):CallR X (.builtin "repr") (fun vs H Q=> ∃(Z:Fz) (a:Addr) (d:D),vs= [.ref a]∧Rep X.K Z H (.ref a) d∧okE d=true∧(pyE d).showable=true∧X.A.units+((pyE d).depth+1) < cLine∧(pyE d).shown.length≤sizeLine∧Q (.str (pyE d).shown) H):=fun pins s σ H vs us Q I r ⟨Z,a,d,ev,rd,ok,hsh,hu,hz,q⟩=>by
 subst ev
 obtain ⟨u,rfl,ru⟩:=vals1 r
 cases (show u=Value.ref a from ru)
 obtain ⟨as,h1,h2⟩:=Rep.rd I hs d _ _ ok rd (show RelV (.ref a) (.ref a) from rfl)
 refine repr_of_reads' h1 hsh (fun _=>h2) hg hu (fun _ _ z=>z) (fun h' t tk k=> ?_) hz
 exact ⟨.str (pyE d).shown,H,I.kept (t':=tk) k,⟨t,rfl⟩,q⟩
end
section
variable {C:DL.Ctx} {Γ:Gm} {L:Lp} {Q:D→Lp→Prop}
@[irreducible] def rRepr (X:Cx):List V→Hp→VK→Prop:=fun vs H Q=> ∃(Z:Fz) (a:Addr) (d:D),vs= [.ref a]∧Rep X.K Z H (.ref a) d∧okE d=true∧(pyE d).showable=true∧X.A.units+((pyE d).depth+1) < cLine∧(pyE d).shown.length≤sizeLine∧Q (.str (pyE d).shown) H
theorem pC {X:Cx} (hg:X.A.guards=some []) (hs:∃o,X.base.get? sysModules=some o):CallR X (.builtin "repr") (rRepr X):=by
 unfold rRepr
 exact cr_repr hg hs
theorem zW {ds:List D} (ok:wV ds=true) (hsh:(pyE (.tup ds)).showable=true) (hu:C.X.A.units+64 < cLine) (hd:(pyE (.tup ds)).depth≤60) (hz:(pyE (.tup ds)).shown.length≤sizeLine) (hso:SOk (pyE (.tup ds)).shown) (q:Q (.str (pyE (.tup ds)).shown) L):LcR C (rRepr C.X) [.tup ds] L Q:=fun F vs H c r0 QV go=>by
 obtain ⟨v,rfl,r⟩:=r0.oneE
 obtain ⟨a,ws,rfl,ha,ra⟩:=r.tupE
 unfold rRepr
 exact ⟨F,a,.tup ds,rfl,r,by rw [okE];exact ok,hsh,by omega,hz,go _ _ H L (.str _ hso) c (.refl L H) q⟩
end
end DL
namespace DL
open PySem PySem.Spec PyProof.Rows L2
def Sg (x:Str):Prop:= ∀c∈x.cps.toList,c < 0x110000
theorem aAc {x:Str}:PyData.strOk x=true↔Sg x:=by
 unfold PyData.strOk Sg
 rw [Array.all_eq_true']
 simp
theorem mD {a b:Str} (ha:Sg a) (hb:Sg b):Sg (a++b):=fun c hc=>by
 have e:(a++b).cps.toList=a.cps.toList++b.cps.toList:=by show (a.cps++b.cps).toList=_;simp
 rw [e] at hc
 exact (List.mem_append.mp hc).elim (ha c) (hb c)
theorem chr_lt (c:Char):c.toNat < 0x110000:=by
 have:=c.valid
 rcases this with h | h
 ·have:c.toNat < 0xd800:=h
  omega
 ·exact h.2
theorem lW (s:String):Sg (Str.ofString s):=fun c hc=>by
 have e:(Str.ofString s).cps.toList=s.toList.map Char.toNat:=by
  unfold Str.ofString
  simp [cpsOfBytes_string]
 rw [e] at hc
 obtain ⟨z,_,rfl⟩:=List.mem_map.mp hc
 exact chr_lt z
theorem pY:∀(ts:List Str),(∀t∈ts,Sg t)→Sg (Str.join ", " ts)
 | [],_=>fun c hc=>absurd hc (by show c∉([]:List Nat);simp)
 | [x],h=>h x List.mem_cons_self
 | x::y::r,h=>mD (mD (h x List.mem_cons_self) (lW ", ")) (pY (y::r) fun t ht=>h t (List.mem_cons_of_mem _ ht))
theorem sg_from:∀(ts:List Str) (k:Nat) (acc:Str),Sg acc→(∀t∈ts,Sg t)→Sg (textFrom k acc ts)
 | [],_,_,ha,_=>ha
 | t::ts,k,acc,ha,h=>by
  unfold textFrom
  refine sg_from ts (k+1) _ (mD (mD ha ?_) (h t List.mem_cons_self)) fun x hx=>h x (List.mem_cons_of_mem _ hx)
  exact lW _
theorem sg_char {q c:Nat} (hq:q < 0x110000) (hc:c < 0x110000):∀z∈Builtin.Str.reprChar q c,z < 0x110000:=by
 intro z hz
 have hex:∀n,∀z∈(List.replicate (n - ((Nat.toDigits 16 c).map Char.toNat).length) 48++(Nat.toDigits 16 c).map Char.toNat),z < 0x110000:=fun n z hz=>by
  rcases List.mem_append.mp hz with h | h
  ·rw [(List.mem_replicate.mp h).2];decide
  ·obtain ⟨x,_,rfl⟩:=List.mem_map.mp h
   exact chr_lt x
 unfold Builtin.Str.reprChar at hz
 dsimp only at hz
 split at hz
 ·simp only [List.mem_cons,List.not_mem_nil,or_false] at hz
  rcases hz with rfl | rfl
  ·decide
  ·exact hc
 split at hz
 ·simp only [List.mem_cons,List.not_mem_nil,or_false] at hz
  rcases hz with rfl | rfl <;> decide
 split at hz
 ·simp only [List.mem_cons,List.not_mem_nil,or_false] at hz
  rcases hz with rfl | rfl <;> decide
 split at hz
 ·simp only [List.mem_cons,List.not_mem_nil,or_false] at hz
  rcases hz with rfl | rfl <;> decide
 split at hz
 ·rw [List.mem_singleton.mp hz];exact hc
 split at hz
 ·rcases List.mem_append.mp hz with h | h
  ·simp only [List.mem_cons,List.not_mem_nil,or_false] at h
   rcases h with rfl | rfl <;> decide
  ·exact hex 2 z h
 split at hz
 ·rcases List.mem_append.mp hz with h | h
  ·simp only [List.mem_cons,List.not_mem_nil,or_false] at h
   rcases h with rfl | rfl <;> decide
  ·exact hex 4 z h
 ·rcases List.mem_append.mp hz with h | h
  ·simp only [List.mem_cons,List.not_mem_nil,or_false] at h
   rcases h with rfl | rfl <;> decide
  ·exact hex 8 z h
theorem sg_fold {q:Nat} (hq:q < 0x110000):∀(l:List Nat) (acc:Array Nat),(∀c∈l,c < 0x110000)→(∀c∈acc.toList,c < 0x110000)→∀c∈(l.foldl (fun out c=>out++(Builtin.Str.reprChar q c).toArray) acc).toList,c < 0x110000
 | [],_,_,ha=>ha
 | x::l,acc,hl,ha=>by
  rw [List.foldl_cons]
  refine sg_fold hq l _ (fun c hc=>hl c (List.mem_cons_of_mem _ hc)) fun c hc=> ?_
  rw [Array.toList_append] at hc
  rcases List.mem_append.mp hc with h | h
  ·exact ha c h
  ·exact sg_char hq (hl x List.mem_cons_self) c h
theorem sg_repr {x:Str} (h:Sg x):Sg (reprText x):=by
 have hq:reprQuote x < 0x110000:=by unfold reprQuote;split <;> decide
 intro c hc
 unfold reprText at hc
 rw [Array.toList_push,←Array.foldl_toList] at hc
 rcases List.mem_append.mp hc with hc | hc
 ·exact sg_fold hq _ _ h (fun c hc=>by simp at hc;rw [hc];exact hq) c hc
 ·rw [List.mem_singleton.mp hc];exact hq
mutual
def sgD:PyData→Bool
 | .none=>true
 | .bool _=>true
 | .int _=>true
 | .str x=>PyData.strOk x
 | .list xs=>aA7 xs
 | .tuple xs=>aA7 xs
 | .dict kvs=>aBa kvs
def aA7:List PyData→Bool
 | []=>true
 | x::xs=>sgD x && aA7 xs
def aBa:List (PyData×PyData)→Bool
 | []=>true
 | (k,v)::r=>sgD k && sgD v && aBa r
end
mutual
theorem qY:∀d:PyData,sgD d=true→Sg d.shown
 | .none,_=>by rw [PyData.shown];exact lW "None"
 | .bool b,_=>by rw [PyData.shown];cases b <;> exact lW _
 | .int i,_=>by rw [PyData.shown];exact lW _
 | .str x,h=>by
  rw [sgD] at h
  rw [PyData.shown]
  exact sg_repr (aAc.mp h)
 | .list xs,h=>by
  rw [sgD] at h
  rw [PyData.shown]
  exact mD (sg_from _ 0 _ (lW "[") (oA xs h)) (lW "]")
 | .tuple xs,h=>by
  rw [sgD] at h
  rw [PyData.shown]
  exact mD (mD (lW "(") (pY _ (oA xs h))) (lW _)
 | .dict kvs,h=>by
  rw [sgD] at h
  rw [PyData.shown]
  exact mD (mD (lW "{") (pY _ (sg_shownKv kvs h))) (lW "}")
theorem oA:∀xs:List PyData,aA7 xs=true→∀t∈PyData.shownAll xs,Sg t
 | [],_,t,ht=>by rw [PyData.shownAll] at ht;cases ht
 | x::xs,h,t,ht=>by
  rw [aA7,Bool.and_eq_true] at h
  rw [PyData.shownAll] at ht
  rcases List.mem_cons.mp ht with rfl | ht
  ·exact qY x h.1
  ·exact oA xs h.2 t ht
theorem sg_shownKv:∀kvs:List (PyData×PyData),aBa kvs=true→∀t∈PyData.shownKv kvs,Sg t
 | [],_,t,ht=>by rw [PyData.shownKv] at ht;cases ht
 | (k,v)::r,h,t,ht=>by
  rw [aBa,Bool.and_eq_true,Bool.and_eq_true] at h
  rw [PyData.shownKv] at ht
  rcases List.mem_cons.mp ht with rfl | ht
  ·exact mD (mD (qY k h.1.1) (lW ": ")) (qY v h.1.2)
  ·exact sg_shownKv r h.2 t ht
end
end DL
namespace DL
open PySem PySem.Spec PyProof.Rows L2
section
variable {C:DL.Ctx} {L:Lp} {Q:D→Lp→Prop} {d:D}
theorem okE_ty {K:PySem.W.Frag} (h:okE d=true):TyL K L d (.type (tyD d)):=by
 cases d with
 | non=>exact .non
 | bl b=>exact .bl b
 | int i=>exact .int i
 | str x=>exact .str x
 | tup ds=>exact .tup ds
 | flst ds=>exact .flst ds
 | kdct kds=>exact .kdct kds
 | _=>simp [okE] at h
theorem qG {T:String} {k:Bool} (h:okE d=true) (hk:kitB (tyD d) T=some k) (q:Q (.bl k) L):LcR C (rIsiA C) [d,.ty T] L Q:=isa_B (okE_ty h) (kit_ty hk) q
theorem kitE_str (h:okE d=true):kitB (tyD d) "str"=some (match d with | .str _=>true | _=>false):=by
 cases d with
 | non=>exact (by decide+kernel:kitB "NoneType" "str"=some false)
 | bl b=>exact (by decide+kernel:kitB "bool" "str"=some false)
 | int i=>exact (by decide+kernel:kitB "int" "str"=some false)
 | str x=>exact (by decide+kernel:kitB "str" "str"=some true)
 | tup ds=>exact (by decide+kernel:kitB "tuple" "str"=some false)
 | flst ds=>exact (by decide+kernel:kitB "list" "str"=some false)
 | kdct ds=>exact (by decide+kernel:kitB "dict" "str"=some false)
 | _=>simp [okE] at h
theorem rF (h:okE d=true):kitB (tyD d) "tuple"=some (match d with | .tup _=>true | _=>false):=by
 cases d with
 | non=>exact (by decide+kernel:kitB "NoneType" "tuple"=some false)
 | bl b=>exact (by decide+kernel:kitB "bool" "tuple"=some false)
 | int i=>exact (by decide+kernel:kitB "int" "tuple"=some false)
 | str x=>exact (by decide+kernel:kitB "str" "tuple"=some false)
 | tup ds=>exact (by decide+kernel:kitB "tuple" "tuple"=some true)
 | flst ds=>exact (by decide+kernel:kitB "list" "tuple"=some false)
 | kdct ds=>exact (by decide+kernel:kitB "dict" "tuple"=some false)
 | _=>simp [okE] at h
theorem vH {ds:List D} (h:wV ds=true) {i:Nat} {d:D} (hd:ds[i]? =some d):okE d=true:=okEs_mem h d (List.mem_of_getElem? hd)
theorem aAF (ws:List Wd):okE (dW ws)=true:=yH _ (sY ws)
theorem okE_dR (rs:Rl):okE (dR rs)=true:=yH _ (okD_dR rs)
end
end DL
namespace DL
open PySem PySem.Spec PyProof.Rows L2
def aBT (t:Addr) (od:Obj) (kvs:List (List Key×V)):It:=
 ⟨fun n G=>G t=some (.frz od (.dT kvs))∧n < kvs.length,fun n G x G'=> ∃T k v c,kvs[n]? =some (k,v)∧x= .ref T∧G T=none∧G c=some (.tup (k.map kV))∧G'=upd G T (.tup [.ref c,v]),fun n G=>G t=some (.frz od (.dT kvs))∧kvs.length≤n⟩
theorem aAv {X:Cx} {pins:List (Addr×Obj)} {σ:L2.St} {G:Hp} {s:Shared} {t:Addr} {od:Obj} {kvs:List (List Key×V)} (I:Inv X pins σ G s) (h:G t=some (.frz od (.dT kvs))):
  ∃es ep,od.data= .dict es ep∧s.heap.DictRaw t es ep∧(t==sysModules)=false∧s.TypeIs (.ref t) "dict"∧es.size=kvs.length∧∀n k v,kvs[n]? =some (k,v)→∃(hn:n < es.size) (c:Addr),es[n].key= .ref c∧G c=some (.tup (k.map kV))∧RelV v es[n].val:=by
 obtain ⟨hd,z,hs,xs,pr,o',es,ep,ho,hx,hdt,he,_⟩:=I.hok t _ h
 rw [hd] at ho
 cases ho
 have l1:es.size=xs.length:=size_of_entries he
 have l2:kvs.length=xs.length:=Paired.length pr
 refine ⟨es,ep,hdt,⟨od,hd,hx,hdt⟩,hs,⟨od,hd,hx.1⟩,by omega,fun n k v e=> ?_⟩
 obtain ⟨b,hb,e1,e2,e3⟩:=paired_get pr e
 have hn:n < es.size:=by rw [l1];exact (List.getElem?_eq_some_iff.mp hb).1
 have q:=entry_at he n
 rw [hb,Array.getElem?_eq_getElem hn] at q
 have q:=Option.some.inj q
 exact ⟨hn,b.2.1,by rw [q];rfl,e2,by rw [q];exact e3⟩
theorem turn_itT {P:Program} {w:World} {K:PySem.W.Frag} {t:Addr} {od:Obj} {es:Array DictEntry} {ep:Nat} {kvs:List (List Key×V)} {elts:List Expr} {kk:Nat} {tpos:Pos} (it:Addr) (hod:od.data= .dict es ep):
  Turn P w K (.Tuple elts kk tpos) (aBT t od kvs) [it] it (fun n h=> ∃ok ov,IsItemIter h it t n kvs.length ep ok ov) where
 mem:=List.mem_cons_self
 obj:=fun n h ⟨ok,ov,e⟩ b hb=>by
  rw [List.mem_singleton.mp hb]
  exact ⟨_,e,fun v z=>nomatch z⟩
 keep:=fun n h h' ⟨ok,ov,e⟩ k=>⟨ok,ov,k it List.mem_cons_self _ e⟩
 item:=by
  intro X hP hw hK hc n pins s σ G E I hf ⟨ok,ov,hit⟩ ⟨hd,hn⟩
  subst hP hw hK
  obtain ⟨es',ep',hdt,raw,_,_,hsz,ent⟩:=aAv I hd
  rw [hod] at hdt
  cases hdt
  obtain ⟨⟨k,v⟩,hkv⟩:∃p,kvs[n]? =some p:=⟨kvs[n],List.getElem?_eq_getElem hn⟩
  obtain ⟨hn2,c,e1,e2,e3⟩:=ent n k v hkv
  rw [←hsz] at hit
  have hlt:it < s.heap.objs.size:=Heap.lt_size hit
  refine PySem.wpAny_pyNext_items_item_raw hit raw hn2 fun h' ho hT hz hk=> ?_
  refine ⟨_,rfl,wpAny_letOwnedTupleGo_items (s:={s with heap:=h'}) ho fun h2 he' sb=> ?_⟩
  have hT2:h2.get? s.heap.objs.size=some {cls:= .type "tuple",data:= .seq #[es[n].key,es[n].val]}:=(sb.2 _ (Nat.ne_of_gt hlt)).trans hT
  have new:ObjOk X.prog X.w (upd G s.heap.objs.size (.tup [.ref c,v])) h2 s.heap.objs.size (.tup [.ref c,v]):=⟨by show 2≤sizeLine;decide,[es[n].key,es[n].val],.cons e1 (.cons e3 .nil),⟨_,hT2,rfl,_,rfl⟩⟩
  have J:=I.turnedNew (t':=s.toks) (ch:= [it]) (fun b ob hb e=>(sb.2 b (by simpa using hb)).trans (hk b ob (by simpa using hb) e)) hf (Nat.le_refl _) new
  refine ⟨.ref s.heap.objs.size,_,J,rfl,⟨_,k,v,c,hkv,rfl,I.hok.fresh (Nat.le_refl _),e2,rfl⟩,⟨es[n].key,es[n].val,by rw [←hsz];exact he'⟩,fun b hb=> ?_⟩
  rw [List.mem_singleton.mp hb,upd_ne (Nat.ne_of_lt hlt)]
  exact (hf it List.mem_cons_self).1
 done:=by
  intro X hP hw hK hc n pins s σ G E I hf ⟨ok,ov,hit⟩ ⟨hd,hn⟩
  subst hP hw hK
  obtain ⟨f0,f1,f2,f3,f4,f5⟩:=hf it List.mem_cons_self
  obtain ⟨es',ep',hdt,raw,_,_,hsz,ent⟩:=aAv I hd
  rw [hod] at hdt
  cases hdt
  rw [←hsz] at hit
  exact PySem.wpAny_pyNext_items_end_raw (I.ok.hd hc) hit raw (by omega) fun h' eb=>⟨rfl,I.turned (t':=s.toks) (fun b ob hb e=>eb b ob hb e) f0 f1 f3 f4 f5⟩
 self:=fun A n s Q E ⟨_,_,e⟩ h=>PySem.W.kcp_self e h
end DL
namespace DL
open PySem PySem.Spec PyProof.Rows L2
abbrev sX (elt t0 i0 t1 i1:Expr) (scope:Scope) (pos:Pos):Expr:= .SetComp elt [⟨t0,i0,[],0⟩,⟨t1,i1,[],0⟩] scope pos
theorem sx_out (elt t0 i0 t1 i1:Expr) (scope:Scope) (pos:Pos) (it acc:Value) (env:Env):
  compTurn (sX elt t0 i0 t1 i1 scope pos) 0 it acc env=(do
   standAt i0.pos
   match ←pyNext it with
   | none=>pure (.done .next)
   | some v=>
    letOwnedTupleGo t0 it v
    assign t0 env v
    let src ←eval i1 env
    standAt i1.pos
    let src ←foldedSetIterable i1 env src
    let _ ←runOwn (.compStart (sX elt t0 i0 t1 i1 scope pos) 1 (←holding [src] (pyIter src)) acc env) env
    again (.compLoop (sX elt t0 i0 t1 i1 scope pos) 0 it acc env)):=by rfl
theorem sx_in (elt t0 i0 t1 i1:Expr) (scope:Scope) (pos:Pos) (it acc:Value) (env:Env):
  compTurn (sX elt t0 i0 t1 i1 scope pos) 1 it acc env=(do
   standAt i1.pos
   match ←pyNext it with
   | none=>pure (.done .next)
   | some v=>
    letOwnedTupleGo t1 it v
    assign t1 env v
    (do let y ←eval elt env;standAt elt.pos;let _ ←call (.builtin "set.add") [acc,y])
    again (.compLoop (sX elt t0 i0 t1 i1 scope pos) 1 it acc env)):=by rfl
section
variable {prog:Program} {w:World} {A:Around} {R:Result→Shared→Prop} {s:Shared} {elt t0 i0 t1 i1:Expr} {scope:Scope} {pos:Pos} {it acc:Value} {env:Env}
abbrev Nt (prog:Program) (w:World) (A:Around) (env:Env) (R:Result→Shared→Prop):Value→Shared→Prop:=notedBy (model prog w) A env fun e s'=>R (.error e) s'
theorem sx_loop0 (hs:∀x,foldedSetIterable i1 env x=pure x) (J:Nat→Shared→Prop)
  (go:∀n s,J n s→wpAny (model prog w) A (pyNext it) (fun r a1=>match r with
   | none=>R (.ok .next) a1
   | some v => wpAny (model prog w) A (letOwnedTupleGo t0 it v) (fun _ a2 => wpAny (model prog w) A (assign t0 env v) (fun _ a3 =>
     wpAny (model prog w) A (eval i1 env) (fun x a4=>wpAny (model prog w) A (pyIter x) (fun it1 a5=>
       codeAny (model prog w) A (.compStart (sX elt t0 i0 t1 i1 scope pos) 1 it1 acc env) (fun r s'=>match r with
        | .ok _=> ∃m,m < n∧J m s'
        | .error _=>False) a5) (Nt prog w A env R) a4) (Nt prog w A env R) a3) (Nt prog w A env R) a2) (Nt prog w A env R) a1) (Nt prog w A env R) s)
  (n:Nat) (h:J n s):codeAny (model prog w) A (.compLoop (sX elt t0 i0 t1 i1 scope pos) 0 it acc env) R s:=by
 refine codeAny_loop rfl J (fun n s hJ=> ?_) n h
 show wpAny _ A ((compTurn (sX elt t0 i0 t1 i1 scope pos) 0 it acc env).onRaise (fun x=>do noteFrame x env;theTreesLotGoes x)) _ _ s
 refine wpAny_noted ?_
 rw [sx_out]
 refine wpAny_bind (wpAny_standAt (wpAny_bind (wpAny_mono (go n s hJ) (fun r a1 g1=> ?_) fun _ _ z=>z)))
 cases r with
 | none=>exact wpAny_pure g1
 | some v=>
  refine wpAny_bind (wpAny_mono g1 (fun _ a2 g2=>wpAny_bind (wpAny_mono g2 (fun _ a3 g3=>wpAny_bind (wpAny_mono g3 (fun x a4 g4=> ?_) fun _ _ z=>z)) fun _ _ z=>z)) fun _ _ z=>z)
  refine wpAny_bind (wpAny_standAt (wpAny_bind (wpAny_of_eq (hs x) (wpAny_bind (wpAny_holding (wpAny_mono g4 (fun it1 a5 g5=> ?_) fun _ _ z=>z))))))
  refine wpAny_bind (wpAny_runOwn ?_)
  rw [Around.mark_none]
  refine codeAny_mono g5 fun r s' hr=> ?_
  cases r with
  | ok f=>exact wpAny_pure ⟨rfl,hr⟩
  | error e=>exact hr.elim
theorem sx_loop1 (J:Nat→Shared→Prop)
  (go:∀n s,J n s→wpAny (model prog w) A (pyNext it) (fun r a1=>match r with
   | none=>R (.ok .next) a1
   | some v => wpAny (model prog w) A (letOwnedTupleGo t1 it v) (fun _ a2 => wpAny (model prog w) A (assign t1 env v) (fun _ a3 =>
     wpAny (model prog w) A (eval elt env) (fun x a4=>wpAny (model prog w) A (call (.builtin "set.add") [acc,x]) (fun _ a5=> ∃m,m < n∧J m a5) (Nt prog w A env R) a4) (Nt prog w A env R) a3) (Nt prog w A env R) a2) (Nt prog w A env R) a1) (Nt prog w A env R) s)
  (n:Nat) (h:J n s):codeAny (model prog w) A (.compLoop (sX elt t0 i0 t1 i1 scope pos) 1 it acc env) R s:=by
 refine codeAny_loop rfl J (fun n s hJ=> ?_) n h
 show wpAny _ A ((compTurn (sX elt t0 i0 t1 i1 scope pos) 1 it acc env).onRaise (fun x=>do noteFrame x env;theTreesLotGoes x)) _ _ s
 refine wpAny_noted ?_
 rw [sx_in]
 refine wpAny_bind (wpAny_standAt (wpAny_bind (wpAny_mono (go n s hJ) (fun r a1 g1=> ?_) fun _ _ z=>z)))
 cases r with
 | none=>exact wpAny_pure g1
 | some v=>
  refine wpAny_bind (wpAny_mono g1 (fun _ a2 g2=>wpAny_bind (wpAny_mono g2 (fun _ a3 g3=> ?_) fun _ _ z=>z)) fun _ _ z=>z)
  exact wpAny_bind (wpAny_bind (wpAny_mono g3 (fun x a4 g4=>wpAny_bind (wpAny_standAt (wpAny_bind (wpAny_mono g4 (fun _ a5 g5=>wpAny_pure (wpAny_pure ⟨rfl,g5⟩)) fun _ _ z=>z)))) fun _ _ z=>z))
theorem sx_start1 (h0:codeAny (model prog w) A (.compLoop (sX elt t0 i0 t1 i1 scope pos) 1 it acc env) R s)
  (h:wpAny (model prog w) A (pyIter it) (fun it' s'=>codeAny (model prog w) A (.compLoop (sX elt t0 i0 t1 i1 scope pos) 1 it' acc env) R s') (Nt prog w A env R) s):
  codeAny (model prog w) A (.compStart (sX elt t0 i0 t1 i1 scope pos) 1 it acc env) R s:=by
 refine codeAny_of_tree ?_
 show wpAny _ _ ((compStart (sX elt t0 i0 t1 i1 scope pos) 1 it acc env).onRaise (fun x=>do noteFrame x env;standAt theWindowsPlace)) _ _ s
 refine wpAny_notedAt ?_
 unfold compStart
 show wpAny _ _ (ask >>=_) _ _ s
 refine wpAny_bind (wpAny_askSetting (wpAny_ite ?_))
 split
 ·first
   | exact wpAny_bind (wpAny_pure (wpAny_pure (And.intro rfl h0)))
   | exact wpAny_pure (And.intro rfl h0)
 ·first
   | exact wpAny_bind (wpAny_rule (wpAny_bind (wpAny_standAt (wpAny_bind (wpAny_mono h (fun jt a1 g1=>wpAny_pure (And.intro rfl g1)) fun _ _ z=>z)))))
   | (refine wpAny_bind (wpAny_rule ?_);show wpAny _ _ (standAt i1.pos >>=_) _ _ s;exact wpAny_bind (wpAny_standAt (wpAny_bind (wpAny_mono h (fun jt a1 g1=>wpAny_pure (And.intro rfl g1)) fun _ _ z=>z))))
end
section
variable {P:Program} {w:World} {A:Around} {E:Value→Shared→Prop} {s:Shared} {a:Addr} {S:Str→Bool} {n:Nat}
theorem setX_add {k:Str} {tk:Tok} {Q:Value→Shared→Prop} (R:nO w s.heap a S n) (room:n+1 < scanBound)
  (hQ:∀h',Heap.SameBut a s.heap h'→nO w h' a (fun j=>S j || decide (j=k)) (if S k=true then n else n+1)→Q .none {s with heap:=h',toks:=s.toks+1}):
  wpAny (model P w) A (call (.builtin "set.add") [.ref a,.str k tk]) Q E s:=by
 have so:s.heap.SetOf (strKind P w) a S n:=nO.setOf R
 refine wpAny_call_entry F.slot_set_add so.typeIs F.entry_set_add ?_ (F.args_set_add_2 _ _)
 unfold Builtin.«set.add» Builtin.Frozenset.oneOther
 simp only [List.isEmpty_nil,bind_assoc]
 unfold Builtin.Frozenset.addrOf setAdd
 refine wpAny_bind (wpAny_pure ?_)
 refine wpAny_bind (wpAny_pure ?_)
 refine wpAny_bind (wpAny_holding (wpAny_bind ((strKind P w).pyHash (k:=k) (Froz.is_str k tk) ?_)))
 refine setX_addH (s:={s with toks:=s.toks+1}) R room fun h' sb r=> ?_
 show wpAny _ _ (ret Value.none) _ _ _
 exact wpAny_pure ⟨_,rfl,hQ h' sb r⟩
end
abbrev lV (w:World) (a:Addr) (S:Str→Bool) (n:Nat):HO:= .ext fun h=>nO w h a S n
theorem addX_ok {X:Cx} {pins:List (Addr×Obj)} {σ:L2.St} {H:Hp} {s:Shared} {E:Value→Shared→Prop} {t:Addr} {S:Str→Bool} {n:Nat} {y:Str} {tk:Tok} {Q:Value→Shared→Prop} (I:Inv X pins σ H s) (ht:H t=some (lV X.w t S n)) (room:n+1 < scanBound)
  (h:∀s',Inv X pins σ (upd H t (lV X.w t (fun j=>S j || decide (j=y)) (if S y=true then n else n+1))) s'→Q .none s'):wpAny (model X.prog X.w) X.A (call (.builtin "set.add") [.ref t,.str y tk]) Q E s:=by
 have R:nO X.w s.heap t S n:=(I.hok t _ ht).1
 refine setX_add R room fun h' sb new=> ?_
 have he:∃u,h'.get? t=some u:=by
  obtain ⟨o,_,_,_,ho,_⟩:=new
  exact ⟨o,ho⟩
 exact h _ (I.write (e:=t) (t':=s.toks+1) (by rw [ht];trivial) (.inl rfl) (fun b u hb hu=>(sb.2 b hb).trans hu) he (qZ new))
end DL
namespace DL
open PySem PySem.Spec PyProof.Rows L2
section
variable {X:Cx}
def tSX (w:World) (wi:TI) (g:TG) (wi1:TI) (g1:TG) (te:TE) (vs vs1:List Nat):TE:=fun σ H Q=>wi σ H fun J H1=> ∀t,H1 t=none→∃W:Nat→Nat→Hp→Prop,(∃m,W 0 m (upd H1 t (lV w t (fun _=>false) 0)))∧∀i m H,W i m H→
 (J.stop i H∧Q (.ref t) H)∨(J.go i H∧∃Nx:Hp→Prop,(∀H',Nx H'→∃m',m' < m∧W (i+1) m' H')∧∀x H',J.yld i H x H'→g x (wipe σ vs) H' fun σ2 H2=>wipe σ2 vs=wipe σ vs∧
  wi1 σ2 H2 fun J1 H4=> ∃W1:Nat→Nat→Hp→Prop,(∃m,W1 0 m H4)∧∀j k H,W1 j k H→
   (J1.stop j H∧Nx H)∨(J1.go j H∧∃Nx1:Hp→Prop,(∀H',Nx1 H'→∃k',k' < k∧W1 (j+1) k' H')∧∀x H',J1.yld j H x H'→g1 x (wipe σ2 vs1) H' fun σ3 H5=>wipe σ3 vs1=wipe σ2 vs1∧
    te σ3 H5 fun y H7=> ∃(c:Str) (S:Str→Bool) (n:Nat),y= .str c∧H7 t=some (lV w t S n)∧n+1 < scanBound∧Nx1 (upd H7 t (lV w t (fun j=>S j || decide (j=c)) (if S c=true then n else n+1)))))
abbrev BE (X:Cx) (scope:Scope) (p:Cx→Prop):Prop:= ∀(s:Shared) (H:Hp) (a:Addr) (cl:List (Str×Addr)) (fp:List Addr),p (X.blk s H scope (compEnvC scope cl a X.env) fp)
theorem sx_core {pins:List (Addr×Obj)} {s:Shared} {σ:L2.St} {H:Hp} {Q:VK} {elt tg iter tg1 iter1:Expr} {scope:Scope} {own:List (Str×Nat)} {vs1:List Nat} {pos p2:Pos} {wi wi1:TI} {g g1:TG} {te:TE} {use:Option (Value→Sem Unit)} {Qf:Value→Shared→Prop}
  (hc:X.calm=true) (hN:X.N.Nodup) (I:Inv X pins σ H s) (hi:PI X tg iter wi) (ok:BlkOk X.N X.env.scope scope own) (hv:∀i∈vs1,i∈own.map (·.2))
  (hg:BE X scope fun X=>PG X tg g) (he:BE X scope fun X=>PE X elt te) (hi1:BE X scope fun X=>PI X tg1 iter1 wi1) (hg1:BE X scope fun X=>PG X tg1 g1) (hs:∀x,foldedSetIterable iter X.env x=pure x) (hs1:∀env x,foldedSetIterable iter1 env x=pure x)
  (h:tSX X.w wi g wi1 g1 te (own.map (·.2)) vs1 σ H Q)
  (fine:∀t a s' m H',Inv X pins σ H' s'→Q (.ref t) H'→s'.heap.Ns a m→FpOk X pins H' a→compPost (model X.prog X.w) X.A X.xe use Qf (.ref t) a (.ok .next) s'):
  wpAny (model X.prog X.w) X.A (comprehension (sX elt tg iter tg1 iter1 scope pos) scope X.env p2 (newSet (.type "set")) false (eval iter X.env) use) Qf X.xe s:=by
 have free:∀y∈scope.names,y.2= .free→∃c,X.env.cells.lookup y.1=some c:=fun y hy e=>(ok.free y hy e).elim (fun k=>I.ok.has _ (.inl k)) fun k=>I.ok.has _ (.inr k)
 refine wpAny_comprehension_free (use:=use) rfl hs (closure_ok free) ok.kind (fun y hy e=>by rw [ok.uniq y hy,e]) (thn (hi.run pins s σ H _ I h) fun _ _ hx=>thn hx fun _ b2 h2=> ?_)
 obtain ⟨it,fp,tn,J,H2,e,I2,T,st2,f2,q⟩:=h2
 subst e
 refine PpSet.newSet_ok (newEnv_comp ?_)
 generalize ht:b2.heap.objs.size=t
 have htn:H2 t=none:=I2.hok.fresh (Nat.le_of_eq ht)
 obtain ⟨W,⟨m0,w0⟩,turn⟩:=q t htn
 generalize hb3:({b2 with heap:=b2.heap.push (bV X.w)}:Shared)=b3
 have e3:b3.heap=b2.heap.push (bV X.w):=by rw [←hb3]
 have up:∀b o,b2.heap.get? b=some o→b3.heap.get? b=some o:=fun b o z=>by rw [e3];exact Heap.get?_push_of_some _ z
 have I3:Inv X pins σ (upd H2 t (lV X.w t (fun _=>false) 0)) b3:=by
  subst hb3
  refine I2.laid (t':=b2.toks) up (Nat.le_of_eq ht) (qZ (pZ ?_))
  rw [←ht]
  exact Heap.get?_push_size _ rfl
 have lt:∀b∈fp,b < b2.heap.objs.size:=fun b hb=>let ⟨o,z,_⟩:=T.obj _ _ st2 b hb;Heap.lt_size z
 have f3:∀b∈fp,FpOk X pins (upd H2 t (lV X.w t (fun _=>false) 0)) b∧b < b3.heap.objs.size:=fun b hb=>
  ⟨⟨(upd_ne (by rw [←ht];exact Nat.ne_of_lt (lt b hb))).trans (f2 b hb).1,(f2 b hb).2⟩,by rw [e3,Heap.size_push];exact Nat.lt_succ_of_lt (lt b hb)⟩
 have st3:tn 0 b3.heap:=T.keep _ _ _ st2 fun b _ o z=>up b o z
 have I4:=block_start I3 ok hN f3
 generalize hcl:cellsFrom (b3.heap.objs.size+1) scope.names (cloFrom X.env.cells scope.names [])=cl at I4 ⊢
 have pg:=hg b3 (upd H2 t (lV X.w t (fun _=>false) 0)) b3.heap.objs.size cl fp
 have pe:=he b3 (upd H2 t (lV X.w t (fun _=>false) 0)) b3.heap.objs.size cl fp
 have pi1:=hi1 b3 (upd H2 t (lV X.w t (fun _=>false) 0)) b3.heap.objs.size cl fp
 have pg1:=hg1 b3 (upd H2 t (lV X.w t (fun _=>false) 0)) b3.heap.objs.size cl fp
 show codeAny _ _ (.compStart (sX elt tg iter tg1 iter1 scope pos) 0 (.ref it) (.ref t) (compEnvC scope cl b3.heap.objs.size X.env)) (compPost (model X.prog X.w) X.A X.xe use Qf (.ref t) b3.heap.objs.size) {b3 with heap:=pushCells (b3.heap.push {cls:= .type "dict",data:= .dict #[]}) scope.names}
 have nfp:∀b∈fp,(upd H2 t (lV X.w t (fun _=>false) 0)) b=none:=fun b hb=>(f3 b hb).1.1
 generalize hce:compEnvC scope cl b3.heap.objs.size X.env=ce at I4 pg pe pi1 pg1 ⊢
 have cL:ce.locals=b3.heap.objs.size:=by subst hce;rfl
 generalize hH3:upd H2 t (lV X.w t (fun _=>false) 0)=H3 at I3 I4 pg pe pi1 pg1 w0 nfp f3
 generalize hb4:({b3 with heap:=pushCells (b3.heap.push {cls:= .type "dict",data:= .dict #[]}) scope.names}:Shared)=b4 at I4 ⊢
 have st4:tn 0 b4.heap:=T.keep _ _ _ st3 fun b _ o z=>by subst hb4;exact pushCells_keeps _ _ _ _ (Heap.get?_push_of_some _ z)
 generalize hY:X.blk b3 H3 scope ce fp=Y at I4 pg pe pi1 pg1
 have yp:Y.prog=X.prog:=by subst hY;rfl
 have yw:Y.w=X.w:=by subst hY;rfl
 have yA:Y.A=X.A:=by subst hY;rfl
 have ye:Y.env=ce:=by subst hY;rfl
 have stat:∀{σ':L2.St} {H':Hp} {s':Shared},Inv Y [] σ' H' s'→(∀b∈fp,H' b=none)→∀b∈fp,FpOk Y [] H' b:=fun {σ' H' s'} I' hn b hb=>by
  subst hY
  exact ⟨hn b hb,(I'.ok.exf b hb).1,I'.ok.exfs b hb,.inl hb,fun x c z=>(I'.ok.exf b hb).2 x c z,fun p hp=>absurd (show p∈([]:List (Addr×Obj))++ [] from hp) (by simp)⟩
 subst hY
 have loop:codeAny (model X.prog X.w) X.A (.compLoop (sX elt tg iter tg1 iter1 scope pos) 0 (.ref it) (.ref t) ce) (compPost (model X.prog X.w) X.A X.xe use Qf (.ref t) b3.heap.objs.size) b4:=by
  refine sx_loop0 (hs1 ce) (fun n s'=> ∃i H',Inv (X.blk b3 H3 scope ce fp) [] (wipe σ (own.map (·.2))) H' s'∧tn i s'.heap∧(∀b∈fp,H' b=none)∧W i n H') ?_ m0 ⟨0,H3,I4,st4,nfp,w0⟩
  rintro n b5 ⟨i,H5,I5,st5,n5,w5⟩
  rcases turn i n H5 w5 with ⟨stop,qq⟩ | ⟨go,Nx,hNx,step⟩
  ·refine thnF (T.done (X.blk b3 H3 scope ce fp) rfl rfl rfl hc i [] b5 _ H5 (fun _ _=>False) I5 (stat I5 n5) st5 stop) fun r b6 ⟨hr,I6⟩=> ?_
   subst hr
   have I7:Inv X pins σ H5 b6:=I3.call' (ch:=fp) I6.os I6.base I6.hok I6.bare fun b hb=>let z:=(f3 b hb).1.2;⟨z.2.2.1,z.1,z.2.2.2.1,z.2.2.2.2⟩
   have n0:H5 b3.heap.objs.size=none:=by
    have z:H5 ce.locals=none:=I6.free
    rwa [cL] at z
   obtain ⟨m,hn,_⟩:=I6.loc
   have hn:b6.heap.Ns ce.locals m:=hn
   rw [cL] at hn
   exact fine t b3.heap.objs.size b6 m H5 I7 qq hn (I3.fpOk (Nat.le_refl _) n0)
  ·refine thnF (T.item (X.blk b3 H3 scope ce fp) rfl rfl rfl hc i [] b5 _ H5 (fun _ _=>False) I5 (stat I5 n5) st5 go) fun r b6 ⟨u,hr,h6⟩=> ?_
   subst hr
   refine thnF h6 fun _ b7 ⟨x,H7,I7,r7,y7,st7,n7⟩=> ?_
   refine thnF (pg.run _ b7 _ H7 x u _ (I7.pinned (stat I7 n7) (T.obj _ _ st7)) r7 (step x H7 y7)) fun _ b8 ⟨σ8,H8,I8,hw8,q8⟩=> ?_
   have fin:∀{σ9:L2.St} {s':Shared} {H':Hp},Inv (X.blk b3 H3 scope ce fp) ([]++pinsAt fp b7.heap) σ9 H' s'→(wipe σ (own.map (·.2))).length=σ9.length→(∀(j:Nat) v,(wipe σ (own.map (·.2)))[j]? =some (some v)→σ9[j]? =some (some v))→Nx H'→
     ∃m,m < n∧∃i H',Inv (X.blk b3 H3 scope ce fp) [] (wipe σ (own.map (·.2))) H' s'∧tn i s'.heap∧(∀b∈fp,H' b=none)∧W i m H':=fun {σ9 s' H'} I' hl hk nx=>by
    obtain ⟨m',hm,w'⟩:=hNx H' nx
    have pin:∀b∈fp,∀o,b7.heap.get? b=some o→s'.heap.get? b=some o∧H' b=none:=fun b hb o z=>
     have z:=I'.pin (b,o) (List.mem_append_right _ (List.mem_append_right _ (mem_pinsAt hb z)))
     ⟨z.1,z.2.1⟩
    exact ⟨m',hm,i+1,H',(I'.unpinned (pins:= [])).weak hl hk,T.keep _ _ _ st7 fun b hb o z=>(pin b hb o z).1,fun b hb=>let ⟨o,z,_⟩:=T.obj _ _ st7 b hb;(pin b hb o z).2,w'⟩
   have hl8:(wipe σ (own.map (·.2))).length=σ8.length:=by rw [←hw8,wipe_length]
   have hk9:∀(j:Nat) v,(wipe σ (own.map (·.2)))[j]? =some (some v)→(wipe σ8 vs1)[j]? =some (some v):=fun j v z=>by
    rw [←hw8] at z
    obtain ⟨z1,z2⟩:=wipe_some z
    rw [wipe_out fun k=>z2 (hv j k)]
    exact z1
   refine thnF (pi1.run _ b8 σ8 H8 _ I8 q8) fun _ _ hx=>thnF hx fun _ c1 h11=> ?_
   obtain ⟨it1,fp1,tn1,J1,H11,e1,I11,T1,st11,f11,W1,⟨m1,w1⟩,turn1⟩:=h11
   subst e1
   have stat1:∀{H':Hp},(∀b∈fp1,H' b=none)→∀b∈fp1,FpOk (X.blk b3 H3 scope ce fp) ([]++pinsAt fp b7.heap) H' b:=fun hn b hb=>⟨hn b hb,(f11 b hb).2⟩
   have loop1:codeAny (model X.prog X.w) X.A (.compLoop (sX elt tg iter tg1 iter1 scope pos) 1 (.ref it1) (.ref t) ce)
     (fun r s'=>match r with
      | .ok _=> ∃m,m < n∧∃i H',Inv (X.blk b3 H3 scope ce fp) [] (wipe σ (own.map (·.2))) H' s'∧tn i s'.heap∧(∀b∈fp,H' b=none)∧W i m H'
      | .error _=>False) c1:=by
    refine sx_loop1 (fun k s'=> ∃j H',Inv (X.blk b3 H3 scope ce fp) ([]++pinsAt fp b7.heap) (wipe σ8 vs1) H' s'∧tn1 j s'.heap∧(∀b∈fp1,H' b=none)∧W1 j k H') ?_ m1 ⟨0,H11,I11.weak (wipe_length _ _) (fun j v z=>(wipe_some z).1),st11,fun b hb=>(f11 b hb).1,w1⟩
    rintro k c2 ⟨j,H12,I12,st12,n12,w12⟩
    rcases turn1 j k H12 w12 with ⟨stop1,nx1⟩ | ⟨go1,Nx1,hNx1,step1⟩
    ·refine thnF (T1.done (X.blk b3 H3 scope ce fp) rfl rfl rfl hc j _ c2 (wipe σ8 vs1) H12 (fun _ _=>False) I12 (stat1 n12) st12 stop1) fun r c3 ⟨hr,I13⟩=> ?_
     subst hr
     exact fin I13 (hl8.trans (wipe_length σ8 vs1).symm) hk9 nx1
    ·refine thnF (T1.item (X.blk b3 H3 scope ce fp) rfl rfl rfl hc j _ c2 (wipe σ8 vs1) H12 (fun _ _=>False) I12 (stat1 n12) st12 go1) fun r c3 ⟨u1,hr,h13⟩=> ?_
     subst hr
     refine thnF h13 fun _ c4 ⟨x1,H14,I14,r14,y14,st14,n14⟩=> ?_
     refine thnF (pg1.run _ c4 (wipe σ8 vs1) H14 x1 u1 _ (I14.pinned (stat1 n14) (T1.obj _ _ st14)) r14 (step1 x1 H14 y14)) fun _ c5 ⟨σ15,H15,I15,hw15,q15⟩=> ?_
     refine thnF (pe.run _ c5 σ15 H15 _ I15 q15) fun z c7 ⟨yv,H17,I17,r17,tx,S0,k0,ey,ht17,hz17,nx⟩=> ?_
     subst ey
     obtain ⟨tk,rfl⟩:=r17
     refine addX_ok (X:=X.blk b3 H3 scope ce fp) I17 ht17 hz17 fun c8 I'=> ?_
     obtain ⟨m',hm,w'⟩:=hNx1 _ nx
     have pin:∀b∈fp1,∀o,c4.heap.get? b=some o→c8.heap.get? b=some o∧upd H17 t (lV X.w t (fun j=>S0 j || decide (j=tx)) (if S0 tx=true then k0 else k0+1)) b=none:=fun b hb o z=>
      have z:=I'.pin (b,o) (List.mem_append_right _ (List.mem_append_right _ (mem_pinsAt hb z)))
      ⟨z.1,z.2.1⟩
     exact ⟨m',hm,j+1,_,I'.unpinned.weak (by rw [←hw15,wipe_length]) (fun j v z=>by rw [←hw15] at z;exact (wipe_some z).1),T1.keep _ _ _ st14 fun b hb o z=>(pin b hb o z).1,fun b hb=>let ⟨o,z,_⟩:=T1.obj _ _ st14 b hb;(pin b hb o z).2,w'⟩
   exact sx_start1 loop1 (T1.self X.A 0 _ _ _ st11 loop1)
 exact PpSet.codeAny_compStart_set loop (T.self X.A 0 _ _ _ st4 loop)
theorem pe_sx {elt tg iter tg1 iter1:Expr} {scope:Scope} {own:List (Str×Nat)} {vs1:List Nat} {pos:Pos} {wi wi1:TI} {g g1:TG} {te:TE} (hc:X.calm=true) (hN:X.N.Nodup) (hi:PI X tg iter wi) (ok:BlkOk X.N X.env.scope scope own) (hv:∀i∈vs1,i∈own.map (·.2))
  (hg:BE X scope fun X=>PG X tg g) (he:BE X scope fun X=>PE X elt te) (hi1:BE X scope fun X=>PI X tg1 iter1 wi1) (hg1:BE X scope fun X=>PG X tg1 g1) (hs:∀x,foldedSetIterable iter X.env x=pure x:=by intro _;rfl) (hs1:∀env x,foldedSetIterable iter1 env x=pure x:=by intro _ _;rfl):
  PE X (.SetComp elt [⟨tg,iter,[],0⟩,⟨tg1,iter1,[],0⟩] scope pos) (tSX X.w wi g wi1 g1 te (own.map (·.2)) vs1):=by
 refine ⟨fun pins s σ H Q I h=> ?_⟩
 rw [PpSet.eval_SetComp]
 refine sx_core hc hN I hi ok hv hg he hi1 hg1 hs hs1 h fun t a s' m H' I' q hn ⟨f0,f1,f2,f3,f4,f5⟩=>⟨m,hn,fun h2 sb=>⟨.ref t,H',?_,rfl,q⟩⟩
 exact I'.turned (t':=s'.toks) (fun b o hb e=>(sb.2 b hb).trans e) f0 f1 f3 f4 f5
end
end DL
namespace DL
open PySem PySem.Spec PyProof.Rows L2
abbrev wiB (C:Ctx) (scope:Scope) (tg iter:Expr):TI:=fun σ H R=> ∀s H0 Cc cl fp,WI (cZ C scope s H0 Cc cl fp).X tg iter σ H R
theorem Stay.ext {H:Hp} {p:Addr} {f:Heap→Prop} {o:HO} (h:H p=some (.ext f)):Stay H (upd H p o):=
 ⟨fun a vs e=>by rw [upd_ne (fun q=>by rw [q,h] at e;cases e)];exact e,fun a ob u e=>by rw [upd_ne (fun q=>by rw [q,h] at e;cases e)];exact e,fun a e=>by rw [upd_ne (fun q=>by rw [q,h] at e;cases e)];exact e⟩
section
variable {C:Ctx} {Γ:Gm} {L:Lp} {elt tg iter tg1 iter1:Expr} {pos:Pos} {Q:D→Lp→Prop}
def Two (C:Ctx) (scope:Scope) (Γ:Gm) (L:Lp) (tg tg1 iter1 elt:Expr) (vs vs1:List Nat) (d:D) (ys:List D):Prop:= ∃Γ3 ws,(∀j∈ws,j∈vs)∧∀s H Cc cl fp,AG (cZ C scope s H Cc cl fp) tg d (dB Γ vs) Γ3 ws∧AV (cZ C scope s H Cc cl fp) iter1 Γ3 L (.tup ys)∧
 ∀y∈ys,∃Γ5 ws1,(∀j∈ws1,j∈vs1)∧∀s H Cc cl fp,AG (cZ C scope s H Cc cl fp) tg1 y (dB Γ3 vs1) Γ5 ws1∧AV (cZ C scope s H Cc cl fp) elt Γ5 L y
theorem ae_sx (own:List (Str×Nat)) (vs1:List Nat) {scope:Scope}
  (h:AI C tg iter Γ L fun ds G L1=>G L1∧∃xss:List (List Str),ds=xss.map (fun xs=>D.tup (xs.map D.str))∧xss.flatten.length+1 < scanBound∧(∀xs∈xss,Two C scope Γ L1 tg tg1 iter1 elt (own.map (·.2)) vs1 (.tup (xs.map D.str)) (xs.map D.str))∧
   ∀t n,L1 t=none→n≤xss.flatten.length→Q (.ptr t) (put L1 t (.txs (fun k=>decide (k∈xss.flatten)) n)))
  (ok:BlkOk C.X.N C.X.env.scope scope own:=by (dsimp only [uF,cZ,cxOf,envOfC,compEnvC,Cx.blk];exact blkOk_by (by decide+kernel))) (hv:∀i∈vs1,i∈own.map (·.2):=by decide) (hs:∀x,foldedSetIterable iter C.X.env x=pure x:=by intro _;rfl) (hs1:∀env x,foldedSetIterable iter1 env x=pure x:=by intro _ _;rfl):
  AE C (.SetComp elt [⟨tg,iter,[],0⟩,⟨tg1,iter1,[],0⟩] scope pos) Γ L Q:=fun F σ H okk QV go=>by
 refine dD (pe_sx (wi:=WI C.X tg iter) (g:=gB C scope tg) (wi1:=wiB C scope tg1 iter1) (g1:=gB C scope tg1) (te:=teB C scope elt) C.calm C.nd yF ok hv (fun s H0 Cc cl fp=>⟨fun pins s1 σ1 H1 v u Q1 I r q=>(q s H0 Cc cl fp).run pins s1 u I r⟩) (fun s H0 Cc cl fp=>⟨fun pins s1 σ1 H1 Q1 I q=>(q s H0 Cc cl fp).run pins s1 I⟩) (fun s H0 Cc cl fp=>⟨fun pins s1 σ1 H1 Q1 I q=>(q s H0 Cc cl fp).run pins s1 I⟩) (fun s H0 Cc cl fp=>⟨fun pins s1 σ1 H1 v u Q1 I r q=>(q s H0 Cc cl fp).run pins s1 u I r⟩) hs hs1) ?_
 refine h _ σ H okk _ fun {F1} J H1 L1 ds G c1 f1 it ⟨hG,xss,eds,hz,hb,q⟩=> ?_
 subst eds
 intro t ht
 have f1t:=c1.nf ht
 have l1t:=c1.free ht
 refine ⟨fun i m H2=>m=xss.length - i∧i≤xss.length∧∃F2 n,C.Con L1 F2 H2∧Fr L1 F1 H1 L1 F2 H2∧¬F2 t∧H2 t=some (lV C.X.w t (fun k=>decide (k∈(xss.take i).flatten)) n)∧n≤(xss.take i).flatten.length∧∀k∈(xss.take i).flatten,SOk k,
  ⟨xss.length,by simp,Nat.zero_le _,F1,0,c1.new ht,.new ht,f1t,by rw [upd_same];rfl,Nat.zero_le _,fun _ z=>nomatch z⟩,?_⟩
 rintro i m H2 ⟨rfl,hi,F2,n,c2,f2,f2t,h2t,hn,hS⟩
 obtain ⟨k1,k2,k3⟩:=it i H2 L1 f2 c2 hG
 rw [List.length_map] at k1 k2 k3
 by_cases hlt:i < xss.length
 ·refine .inr ⟨k1 hlt,fun H3=> ∃F2 n,C.Con L1 F2 H3∧Fr L1 F1 H1 L1 F2 H3∧¬F2 t∧H3 t=some (lV C.X.w t (fun k=>decide (k∈(xss.take (i+1)).flatten)) n)∧n≤(xss.take (i+1)).flatten.length∧∀k∈(xss.take (i+1)).flatten,SOk k,fun H3 hN=>⟨xss.length - (i+1),by omega,rfl,hlt,hN⟩,fun x H' y=> ?_⟩
  obtain ⟨d,hd,rd,hH⟩:=k3 x H' y hlt
  rw [List.getElem?_map,List.getElem?_eq_getElem hlt] at hd
  cases hd
  have etk:xss.take (i+1)=xss.take i++ [xss[i]]:=by rw [List.take_add_one,List.getElem?_eq_getElem hlt];rfl
  have eln:xss.flatten.length=(xss.take (i+1)).flatten.length+(xss.drop (i+1)).flatten.length:=by rw [←List.length_append,←List.flatten_append,List.take_append_drop]
  rw [etk,List.flatten_append] at eln ⊢
  have hm:xss[i]∈xss:=List.getElem_mem hlt
  generalize xss[i]=xs at*
  have exs: [xs].flatten=xs:=by simp
  rw [exs] at eln ⊢
  generalize (xss.take i).flatten=pre at*
  have fH:Fr L1 F2 H2 L1 F2 H':=by
   rcases hH with e | ⟨T,vs,nT,e⟩
   ·rw [e];exact .refl L1 H2
   ·rw [e];exact .new nT
  have cH:C.Con L1 F2 H':=by
   rcases hH with e | ⟨T,vs,nT,e⟩
   ·rw [e];exact c2
   ·rw [e];exact c2.new nT
  obtain ⟨_,_,h3t⟩:=fH.hid h2t (fun _ z=>nomatch z) l1t f2t
  have slw:Sl C.X.K F2 H' (wipe σ (own.map (·.2))) (dB Γ (own.map (·.2))):=(okk.sl.mono ((f1.trans f2).trans fH).mv).wipe _
  obtain ⟨Γ3,ws,hws,hbody⟩:=hb xs hm
  intro s0 H0 Cc cl fp
  refine (hbody s0 H0 Cc cl fp).1 _ _ H' x slw rd _ fun σ3 sl3 but=>⟨But.wiped but hws,?_⟩
  intro s1 H01 Cc1 cl1 fp1
  refine qR (pi_tup bA) ((hbody s1 H01 Cc1 cl1 fp1).2.1 (fun d L'=>d= .tup (xs.map D.str)∧L'=L1) ⟨rfl,rfl⟩ _ σ3 H' ⟨sl3,cH,⟨fun _ _ _ _ _ _ _ _ _ _ _ z=>z.elim,True.intro⟩⟩ _ fun {F4} v d H4 L4 r4 c4 f4 ⟨ed,eL⟩=> ?_)
  subst ed eL
  obtain ⟨a,vs,rfl,ha,ra⟩:=r4.tupE
  obtain ⟨_,f4t,h4t⟩:=f4.hid h3t (fun _ z=>nomatch z) l1t f2t
  have fr4:=(f2.trans fH).trans f4
  have hvl:vs.length=xs.length:=by rw [ra.length,List.length_map]
  refine ⟨a,rfl,⟨vs,SqT.of ha⟩,fun j k H5=>k=xs.length - j∧j≤xs.length∧∃F5 n,C.Con L4 F5 H5∧Fr L4 F1 H1 L4 F5 H5∧Mv F4 H4 F5 H5∧¬F5 t∧H5 t=some (lV C.X.w t (fun k=>decide (k∈pre++xs.take j)) n)∧n≤(pre++xs.take j).length∧∀k∈pre++xs.take j,SOk k,
   ⟨xs.length,by simp,Nat.zero_le _,F4,n,c4,fr4,⟨.refl H4,fun _ z=>z,fun _ _ _ z=>z⟩,f4t,by rw [h4t,List.take_zero,List.append_nil],by simpa using hn,by simpa using hS⟩,?_⟩
  rintro j k H5 ⟨rfl,hj,F5,n5,c5,f5,m5,f5t,h5t,hn5,hS5⟩
  have sq:SqT C.X.K H5 a vs:=SqT.of (m5.stay.tup _ _ ha)
  by_cases hjl:j < xs.length
  ·refine .inr ⟨⟨vs,vs[j]'(by omega),sq,List.getElem?_eq_getElem _⟩,fun H6=> ∃F5 n,C.Con L4 F5 H6∧Fr L4 F1 H1 L4 F5 H6∧Mv F4 H4 F5 H6∧¬F5 t∧H6 t=some (lV C.X.w t (fun k=>decide (k∈pre++xs.take (j+1))) n)∧n≤(pre++xs.take (j+1)).length∧∀k∈pre++xs.take (j+1),SOk k,fun H6 hN=>⟨xs.length - (j+1),by omega,rfl,hjl,hN⟩,fun x6 H6 y6=> ?_⟩
   obtain ⟨e6,y6⟩:=y6
   subst e6
   obtain ⟨d6,hd6,rd6⟩:=ra.getV (y6 vs sq)
   rw [List.getElem?_map,List.getElem?_eq_getElem hjl] at hd6
   cases hd6
   obtain ⟨Γ5,ws1,hws1,hin⟩:=(hbody s1 H01 Cc1 cl1 fp1).2.2 (.str xs[j]) (List.mem_map.mpr ⟨_,List.getElem_mem hjl,rfl⟩)
   intro s2 H02 Cc2 cl2 fp2
   refine (hin s2 H02 Cc2 cl2 fp2).1 _ _ H6 x6 (((sl3.mono f4.mv).mono m5).wipe vs1) (rd6.mono m5) _ fun σ7 sl7 but7=>⟨But.wiped but7 hws1,?_⟩
   intro s3 H03 Cc3 cl3 fp3
   refine (hin s3 H03 Cc3 cl3 fp3).2 (fun d L'=>d= .str xs[j]∧L'=L4) ⟨rfl,rfl⟩ _ σ7 H6 ⟨sl7,c5,⟨fun _ _ _ _ _ _ _ _ _ _ _ z=>z.elim,True.intro⟩⟩ _ fun {F8} v8 d8 H8 L8 r8 c8 f8 ⟨ed,eL⟩=> ?_
   subst ed eL
   obtain ⟨_,f8t,h8t⟩:=f8.hid h5t (fun _ z=>nomatch z) l1t f5t
   have ev:v8= .str xs[j]:=by cases r8;rfl
   have so:SOk xs[j]:=r8.bnd
   have et:xs.take (j+1)=xs.take j++ [xs[j]]:=by rw [List.take_add_one,List.getElem?_eq_getElem hjl];rfl
   have st:=Stay.ext (o:=lV C.X.w t (fun k=>decide (k∈pre++xs.take (j+1))) (if decide (xs[j]∈pre++xs.take j)=true then n5 else n5+1)) h8t
   have hl5:(pre++xs.take j).length≤pre.length+j:=by rw [List.length_append,List.length_take];omega
   have ef:(fun k=>decide (k∈pre++xs.take j) || decide (k=xs[j]))=fun k=>decide (k∈pre++xs.take (j+1)):=by
    funext k
    rw [et]
    generalize xs.take j=zs
    generalize xs[j]=z
    simp [Bool.or_assoc]
   rw [List.length_append] at eln
   refine ⟨xs[j],_,n5,ev,h8t,by omega,F8,_,?_,?_,?_,f8t,by rw [upd_same,ef],?_,?_⟩
   ·rw [ef];exact c8.hid st l1t f8t
   ·rw [ef];exact (f5.trans f8).hidw ht f1t st
   ·rw [ef];exact (m5.trans f8.mv).trans (.hid st f8t)
   ·rw [et,←List.append_assoc,List.length_append]
    show _≤_+1
    split <;> omega
   ·intro k hk
    rw [et,←List.append_assoc] at hk
    rcases List.mem_append.mp hk with hk | hk
    ·exact hS5 k hk
    ·rw [List.mem_singleton.mp hk];exact so
  ·have e:j=xs.length:=by omega
   subst e
   rw [List.take_length] at h5t hn5 hS5
   exact .inl ⟨⟨vs,sq,by omega⟩,F5,n5,c5,f5,f5t,h5t,hn5,hS5⟩
 ·have e:i=xss.length:=by omega
  subst e
  rw [List.take_length] at h2t hn hS
  exact .inl ⟨k2 rfl,go _ _ H2 (put L1 t (.txs (fun k=>decide (k∈xss.flatten)) n)) (.ptr t) (c2.shw f2t ⟨h2t,fun k hk=>hS k (of_decide_eq_true hk)⟩) ((f1.trans f2).shw (f1.nul ht)) (q t n l1t hn)⟩
end
end DL
namespace DL
open PySem PySem.Spec PyProof.Rows L2
abbrev itD (x:List Key×D):D:= .tup [kD x.1,x.2]
def iItT (td:TE):TI:=fun σ H R=>td σ H fun x H1=> ∃d o kvs,x= .ref d∧H1 d=some (.frz o (.dT kvs))∧R (aBT d o kvs) H1
theorem pi_itT {X:Cx} {e:Expr} {td:TE} {apos cpos:Pos} {elts:List Expr} {kk:Nat} {tpos:Pos} (he:PE X e td) (hbase:attributeBase e "items" X.env (eval e X.env)=eval e X.env:=by rfl) (hline:(apos.endLine==cpos.line)=true:=by rfl):
  PI X (.Tuple elts kk tpos) (.Call (.Attribute e "items" apos) [] [] cpos) (iItT td):=by
 refine ⟨fun pins s σ H R I h=>wpAny_Call_method (T:="dict") (id:="dict.items") hbase rfl hline F.plainAttrs_dict F.slot_dict_items F.type_dict_items (thn (he.run pins s σ H _ I h) fun u s1 hu=> ?_)⟩
 obtain ⟨x,H1,I1,rx,d,o,kvs,rfl,hd,q⟩:=hu
 obtain rfl:u=Value.ref d:=rx
 obtain ⟨es,ep,hdt,raw,hs,ty,hsz,_⟩:=aAv I1 hd
 refine ⟨ty,?_,?_⟩
 ·intro a' ea
  cases ea
  obtain ⟨o2,h1,h2,_⟩:=raw
  exact ⟨o2,h1,h2.2.1⟩
 have up:∀b ob,s1.heap.get? b=some ob→(s1.heap.push {cls:= .type "dict_items",data:= .fields #[.ref d]}).get? b=some ob:=fun b ob z=>Heap.get?_push_of_some _ z
 have I2:Inv X pins σ H1 {s1 with heap:=s1.heap.push {cls:= .type "dict_items",data:= .fields #[.ref d]}}:=I1.kept (t':=s1.toks) up
 have fin:wpAny (model X.prog X.w) X.A (pyIter (.ref s1.heap.objs.size)) (PIE X pins σ (.Tuple elts kk tpos) R) X.xe {s1 with heap:=s1.heap.push {cls:= .type "dict_items",data:= .fields #[.ref d]}}:=by
  refine PySem.wpAny_pyIter_items_raw (d:=d) ⟨_,Heap.get?_push_size _ rfl,rfl,rfl⟩ (raw.at fun ob z=>up d ob z) (pi_one (tk:=s1.toks) I2 _ (turn_itT _ hdt) ⟨.none,.none,?_⟩ q)
  rw [←hsz]
  exact Heap.get?_push_size _ rfl
 show wpAny _ _ (callWith cpos (.builtin "dict.items") [.ref d] [] []) _ X.xe s1
 exact method_meetsIn F.slot_dict_items F.entry_dict_items rfl (PySem.evalArgs_none ⟨rfl,ty,F.args_dict_items_1 _,_,PySem.meets_dict_items_raw d hs,⟨es,ep,raw⟩,fin⟩)
section
variable {C:Ctx} {Γ:Gm} {L:Lp} {elt tg iter tg1 iter1 e:Expr} {pos:Pos} {Q:D→Lp→Prop} {kds:List (List Key×D)} {E:AEnds} {d:D}
theorem itit_is {t:Addr} {od:Obj} {kvs:List (List Key×V)} {L0:Lp} {F0:Fz} {H0:Hp} (st:∀F L H,Fr L0 F0 H0 L F H→H t=some (.frz od (.dT kvs))) (rr:KDs C.X.K F0 H0 kvs kds) (hk:∀q∈kds,KOk q.1):aA9 C (aBT t od kvs) (kds.map itD) (fun _=>True) L0 F0 H0:=by
 intro F i H L s c g
 have hl:kvs.length=kds.length:=Paired.length rr
 have ht:=st F L H s
 rw [List.length_map]
 refine ⟨fun h=>⟨ht,by omega⟩,fun h=>⟨ht,by omega⟩,fun x H' y hi=> ?_⟩
 obtain ⟨T,k,v,cc,e1,rfl,nT,hcc,rfl⟩:=y
 obtain ⟨⟨k2,d2⟩,hb,z1,z2⟩:=paired_get rr e1
 cases (show k=k2 from z1)
 refine ⟨itD (k,d2),by rw [List.getElem?_map,hb];rfl,?_,.inr ⟨T,_,nT,rfl⟩⟩
 have mv:Mv F H F (upd H T (.tup [.ref cc,v])):= .new nT
 have r1:Rep C.X.K F (upd H T (.tup [.ref cc,v])) (.ref cc) (kD k):=(aAK hcc (hk _ (List.mem_of_getElem? hb))).mono mv
 have r2:Rep C.X.K F (upd H T (.tup [.ref cc,v])) v d2:=(z2.mono s.mv).mono mv
 exact .tup upd_same (by show 2≤sizeLine;decide) rfl fun j v' d' e1 e2=>by
  match j with
  | 0=>cases e1;cases e2;exact r1
  | 1=>cases e1;cases e2;exact r2
  | j+2=>cases e1
theorem lc2_read {own:List (Str×Nat)} {vs1:List Nat} {scope:Scope} {F:Fz} {σ:L2.St} {H:Hp} (okk:Ok C Γ L F σ H) {QV:VK} (go:Go C L F H Q QV)
  (h:AIp C tg iter L F σ H fun ds G L1=>G L1∧∃ys:D→List D,(ds.flatMap ys).length≤sizeLine∧(∀d∈ds,Two C scope Γ L1 tg tg1 iter1 elt (own.map (·.2)) vs1 d (ys d))∧∀p,L1 p=none→Q (.ptr p) (put L1 p (.lst (ds.flatMap ys)))):
  tLc2 (WI C.X tg iter) (gB C scope tg) tYes (wiB C scope tg1 iter1) (gB C scope tg1) tYes (teB C scope elt) (own.map (·.2)) vs1 σ H QV:=by
 refine h _ fun {F1} J H1 L1 ds G c1 f1 it ⟨hG,ys,hz,hb,q⟩=> ?_
 intro t ht
 have f1t:=c1.nf ht
 have l1t:=c1.free ht
 refine ⟨fun i m H2=>m=ds.length - i∧i≤ds.length∧∃F2 vacc,C.Con L1 F2 H2∧Fr L1 F1 H1 L1 F2 H2∧¬F2 t∧H2 t=some (.lst vacc)∧aZ C.X.K F2 H2 vacc ((ds.take i).flatMap ys),
  ⟨ds.length,by simp,Nat.zero_le _,F1,[],c1.new ht,.new ht,f1t,upd_same,.nil⟩,?_⟩
 rintro i m H2 ⟨rfl,hi,F2,vacc,c2,f2,f2t,h2t,ra⟩
 obtain ⟨k1,k2,k3⟩:=it i H2 L1 f2 c2 hG
 by_cases hlt:i < ds.length
 ·refine .inr ⟨k1 hlt,fun H3=> ∃F2 vacc,C.Con L1 F2 H3∧Fr L1 F1 H1 L1 F2 H3∧¬F2 t∧H3 t=some (.lst vacc)∧aZ C.X.K F2 H3 vacc ((ds.take (i+1)).flatMap ys),fun H3 hN=>⟨ds.length - (i+1),by omega,rfl,hlt,hN⟩,fun x H' y=> ?_⟩
  obtain ⟨d,hd,rd,hH⟩:=k3 x H' y hlt
  rw [List.getElem?_eq_getElem hlt] at hd
  cases hd
  have etk:ds.take (i+1)=ds.take i++ [ds[i]]:=by rw [List.take_add_one,List.getElem?_eq_getElem hlt];rfl
  have eln:(ds.flatMap ys).length=((ds.take (i+1)).flatMap ys).length+((ds.drop (i+1)).flatMap ys).length:=by rw [←List.length_append,←List.flatMap_append,List.take_append_drop]
  rw [etk,List.flatMap_append,List.length_append] at eln
  rw [etk,List.flatMap_append]
  have hm:ds[i]∈ds:=List.getElem_mem hlt
  have e1: [ds[i]].flatMap ys=ys ds[i]:=by simp
  rw [e1] at eln ⊢
  obtain ⟨Γ3,ws,hws,hbody⟩:=hb ds[i] hm
  generalize ds[i]=dd at*
  generalize (ds.take i).flatMap ys=pre at*
  generalize ys dd=xs at*
  have fH:Fr L1 F2 H2 L1 F2 H':=by
   rcases hH with e | ⟨T,vs,nT,e⟩
   ·rw [e];exact .refl L1 H2
   ·rw [e];exact .new nT
  have cH:C.Con L1 F2 H':=by
   rcases hH with e | ⟨T,vs,nT,e⟩
   ·rw [e];exact c2
   ·rw [e];exact c2.new nT
  obtain ⟨_,_,h3t⟩:=fH.hid h2t (fun _ z=>nomatch z) l1t f2t
  have slw:Sl C.X.K F2 H' (wipe σ (own.map (·.2))) (dB Γ (own.map (·.2))):=(okk.sl.mono ((f1.trans f2).trans fH).mv).wipe _
  intro s0 H0 Cc cl fp
  refine (hbody s0 H0 Cc cl fp).1 _ _ H' x slw rd _ fun σ3 sl3 but=>⟨But.wiped but hws,?_⟩
  unfold tYes
  dsimp only
  rw [if_pos rfl]
  intro s1 H01 Cc1 cl1 fp1
  refine qR (pi_tup bA) ((hbody s1 H01 Cc1 cl1 fp1).2.1 (fun d L'=>d= .tup xs∧L'=L1) ⟨rfl,rfl⟩ _ σ3 H' ⟨sl3,cH,⟨fun _ _ _ _ _ _ _ _ _ _ _ z=>z.elim,True.intro⟩⟩ _ fun {F4} v d H4 L4 r4 c4 f4 ⟨ed,eL⟩=> ?_)
  subst ed eL
  obtain ⟨a,vs,rfl,ha,rb⟩:=r4.tupE
  obtain ⟨_,f4t,h4t⟩:=f4.hid h3t (fun _ z=>nomatch z) l1t f2t
  have fr4:=(f2.trans fH).trans f4
  have hvl:vs.length=xs.length:=rb.length
  refine ⟨a,rfl,⟨vs,SqT.of ha⟩,fun j k H5=>k=xs.length - j∧j≤xs.length∧∃F5 vacc,C.Con L4 F5 H5∧Fr L4 F1 H1 L4 F5 H5∧Mv F4 H4 F5 H5∧¬F5 t∧H5 t=some (.lst vacc)∧aZ C.X.K F5 H5 vacc (pre++xs.take j),
   ⟨xs.length,by simp,Nat.zero_le _,F4,vacc,c4,fr4,⟨.refl H4,fun _ z=>z,fun _ _ _ z=>z⟩,f4t,h4t,by rw [List.take_zero,List.append_nil];exact (ra.mono fH.mv).mono f4.mv⟩,?_⟩
  rintro j k H5 ⟨rfl,hj,F5,vacc5,c5,f5,m5,f5t,h5t,ra5⟩
  have sq:SqT C.X.K H5 a vs:=SqT.of (m5.stay.tup _ _ ha)
  by_cases hjl:j < xs.length
  ·refine .inr ⟨⟨vs,vs[j]'(by omega),sq,List.getElem?_eq_getElem _⟩,fun H6=> ∃F5 vacc,C.Con L4 F5 H6∧Fr L4 F1 H1 L4 F5 H6∧Mv F4 H4 F5 H6∧¬F5 t∧H6 t=some (.lst vacc)∧aZ C.X.K F5 H6 vacc (pre++xs.take (j+1)),fun H6 hN=>⟨xs.length - (j+1),by omega,rfl,hjl,hN⟩,fun x6 H6 y6=> ?_⟩
   obtain ⟨e6,y6⟩:=y6
   subst e6
   obtain ⟨d6,hd6,rd6⟩:=rb.getV (y6 vs sq)
   rw [List.getElem?_eq_getElem hjl] at hd6
   cases hd6
   obtain ⟨Γ5,ws1,hws1,hin⟩:=(hbody s1 H01 Cc1 cl1 fp1).2.2 xs[j] (List.getElem_mem hjl)
   intro s2 H02 Cc2 cl2 fp2
   refine (hin s2 H02 Cc2 cl2 fp2).1 _ _ H6 x6 (((sl3.mono f4.mv).mono m5).wipe vs1) (rd6.mono m5) _ fun σ7 sl7 but7=>⟨But.wiped but7 hws1,?_⟩
   rw [if_pos rfl]
   intro s3 H03 Cc3 cl3 fp3
   refine (hin s3 H03 Cc3 cl3 fp3).2 (fun d L'=>d=xs[j]∧L'=L4) ⟨rfl,rfl⟩ _ σ7 H6 ⟨sl7,c5,⟨fun _ _ _ _ _ _ _ _ _ _ _ z=>z.elim,True.intro⟩⟩ _ fun {F8} v8 d8 H8 L8 r8 c8 f8 ⟨ed,eL⟩=> ?_
   subst ed eL
   obtain ⟨_,f8t,h8t⟩:=f8.hid h5t (fun _ z=>nomatch z) l1t f5t
   have et:xs.take (j+1)=xs.take j++ [xs[j]]:=by rw [List.take_add_one,List.getElem?_eq_getElem hjl];rfl
   have st:Stay H8 (upd H8 t (.lst (vacc5++ [v8]))):= .lst h8t
   have ra8:=ra5.mono f8.mv
   have hl8:=ra8.length
   rw [List.length_append,List.length_take] at hl8
   refine ⟨vacc5,h8t,by omega,F8,vacc5++ [v8],c8.hid st l1t f8t,(f5.trans f8).hidw ht f1t st,(m5.trans f8.mv).trans (.hid st f8t),f8t,upd_same,?_⟩
   rw [et,←List.append_assoc]
   exact (ra8.append (.cons r8 .nil)).mono (.hid st f8t)
  ·have e:j=xs.length:=by omega
   subst e
   rw [List.take_length] at ra5
   exact .inl ⟨⟨vs,sq,by omega⟩,F5,vacc5,c5,f5,f5t,h5t,ra5⟩
 ·have e:i=ds.length:=by omega
  subst e
  rw [List.take_length] at ra
  exact .inl ⟨k2 rfl,go _ _ H2 (put L1 t (.lst (ds.flatMap ys))) (.ptr t) (c2.shw f2t ⟨vacc,h2t,ra,hz⟩) ((f1.trans f2).shw (f1.nul ht)) (q t l1t)⟩
theorem as_items2 (n:Nat) (own:List (Str×Nat)) (vs1:List Nat) {y:Str} {py spos apos cpos tpos:Pos} {kk:Nat} {elts:List Expr} {scope:Scope} (hd:DR L d kds) (hi:∀L',(L'=L∨∃t,d= .ptr t∧L'=del L t)→AV C e Γ L' d) (ys:D→List D) (hz:((kds.map itD).flatMap ys).length≤sizeLine)
  (hf:∀L',Le L' L→∀x∈kds,Two C scope Γ L' (.Tuple elts kk tpos) tg1 iter1 elt (own.map (·.2)) vs1 (itD x) (ys (itD x))) (q:∀p,L p=none→E.nx (Γ.set n (some (.ptr p))) (put L p (.lst ((kds.map itD).flatMap ys))))
  (hy:C.X.N[n]? =some y:=by rfl) (hyl:C.X.env.scope.names.lookup y=some .local:=by rfl) (hsw:swapsWith (.ListComp elt [⟨.Tuple elts kk tpos,.Call (.Attribute e "items" apos) [] [] cpos,[],0⟩,⟨tg1,iter1,[],0⟩] scope pos) (some (.Name y py)) spos.line C.X.env=pure true:=by exact sw_true rfl rfl rfl (by decide+kernel))
  (ok:BlkOk C.X.N C.X.env.scope scope own:=by (dsimp only [uF,cZ,cxOf,envOfC,compEnvC,Cx.blk];exact blkOk_by (by decide+kernel))) (hv:∀i∈vs1,i∈own.map (·.2):=by decide) (hs:∀x,foldedSetIterable (.Call (.Attribute e "items" apos) [] [] cpos) C.X.env x=pure x:=by intro _;rfl) (hs1:∀env x,foldedSetIterable iter1 env x=pure x:=by intro _ _;rfl)
  (hbase:attributeBase e "items" C.X.env (eval e C.X.env)=eval e C.X.env:=by rfl) (hline:(apos.endLine==cpos.line)=true:=by rfl):
  AS C (.Assign [.Name y py] (.ListComp elt [⟨.Tuple elts kk tpos,.Call (.Attribute e "items" apos) [] [] cpos,[],0⟩,⟨tg1,iter1,[],0⟩] scope pos) spos) Γ L E:=by
 have ps:=ps_setLc2 (wi:=WI C.X (.Tuple elts kk tpos) (.Call (.Attribute e "items" apos) [] [] cpos)) (g:=gB C scope (.Tuple elts kk tpos)) (tt:=tYes) (wi1:=wiB C scope tg1 iter1) (g1:=gB C scope tg1) (tt1:=tYes) (te:=teB C scope elt) C.calm C.nd hy hyl hsw yF ok hv
  (fun s H0 Cc cl fp=>⟨fun pins s1 σ1 H1 v u Q1 I r q=>(q s H0 Cc cl fp).run pins s1 u I r⟩) (fun s H0 Cc cl fp=>pts_nil) (fun s H0 Cc cl fp=>⟨fun pins s1 σ1 H1 Q1 I q=>(q s H0 Cc cl fp).run pins s1 I⟩) (fun s H0 Cc cl fp=>⟨fun pins s1 σ1 H1 v u Q1 I r q=>(q s H0 Cc cl fp).run pins s1 u I r⟩) (fun s H0 Cc cl fp=>pts_nil) (fun s H0 Cc cl fp=>⟨fun pins s1 σ1 H1 Q1 I q=>(q s H0 Cc cl fp).run pins s1 I⟩) hs hs1
 intro F σ H okk DD go
 rcases hd with ⟨t,rfl,ht⟩ | rfl
 ·obtain ⟨kvs,e0,rr,hk⟩:=okk.con.at_ t _ ht
  have nft:=okk.con.nw ht
  refine jP (ps_lock ps) ⟨t,.dT kvs,e0,True.intro,fun od=> ?_⟩
  have ne:∀b u,H b=some u→(∀k,u≠ .dT k)→b≠t:=fun b u eb nd z=>by rw [z,e0] at eb;exact nd _ (Option.some.inj eb).symm
  have st:Stay H (upd H t (.frz od (.dT kvs))):=⟨fun b vs eb=>by rw [upd_ne (ne b _ eb fun _ z=>nomatch z)];exact eb,fun b o xs eb=>by rw [upd_ne (ne b _ eb fun _ z=>nomatch z)];exact eb,fun b eb=>by rw [upd_ne (ne b _ eb fun _ z=>nomatch z)];exact eb⟩
  have mv:Mv F H F (upd H t (.frz od (.dT kvs))):= .hid st nft
  have fr:Fr L F H (del L t) F (upd H t (.frz od (.dT kvs))):=⟨fun b u eb _ nb=>by rw [upd_ne (fun z=>by rw [z,ht] at nb;cases nb)];exact eb,fun b z=>cA z,st,fun b z=> .inl ((jG t).ne z),mv.fz,mv.fk,fun b z=> .inl z⟩
  have c1:C.Con (del L t) F (upd H t (.frz od (.dT kvs))):=((okk.con.le (jG t)).hid st del_same nft)
  have ok1:Ok C Γ (del L t) F σ (upd H t (.frz od (.dT kvs))):=⟨okk.sl.mono mv,c1,okk.lr.step fr⟩
  have rr1:=KDs.mono mv rr
  refine lc2_read (Q:=fun d L2=> ∃q,d= .ptr q∧del L t q=none∧L2=put (del L t) q (.lst ((kds.map itD).flatMap ys))) ok1 (fun {F9} v d H' L' r c f2 ⟨q',ed,hq,eL⟩=> ?_) (fun RV g2=> ?_)
  ·subst ed eL
   obtain ⟨lt,ft,ht'⟩:=f2.hid upd_same (fun _ z=>nomatch z) del_same nft
   have hqt:q'≠t:=fun z=>by rw [z,aF] at lt;cases lt
   obtain ⟨mv2,c2⟩:=unlock c ht' ft (KDs.mono f2.mv rr1) hk
   rw [put_del ht hq hqt] at c2
   have hq0:L q'=none:=by rw [del_ne hqt] at hq;exact hq
   have fr2:Fr L F H (put L q' (.lst ((kds.map itD).flatMap ys))) F9 (upd H' t (.dT kvs)):=by
    refine ⟨fun b u eb no nb=> ?_,fun b z=>cA (f2.live b (cA z)),(st.trans f2.stay).trans mv2.stay,fun b z=> ?_,fun b z=>f2.fz b z,fun b u z eb=>mv2.fk b u (f2.fz b z) (f2.fk b u z (mv.fk b u z eb)),fun b z=> ?_⟩
    ·have hb:b≠t:=fun z=>by rw [z,ht] at nb;cases nb
     rw [upd_ne hb]
     exact f2.keep b u (by rw [upd_ne hb];exact eb) no (by rw [del_ne hb];exact nb)
    ·by_cases hb:b=q'
     ·rw [hb]
      rcases f2.dom q' (by rw [aF];simp) with z2 | z2
      ·exact absurd hq z2
      ·rw [upd_ne hqt] at z2
       exact .inr z2
     ·rw [aK hb] at z
      exact .inl z
    ·rcases f2.off b z with z | z | z
     ·exact .inl z
     ·exact .inr (.inl ((jG t).ne z))
     ·by_cases hb:b=t
      ·rw [hb,upd_same] at z;cases z
      ·rw [upd_ne hb] at z
       exact .inr (.inr z)
   exact ⟨ht',go.nx _ _ _ _ ⟨(okk.sl.mono fr2.mv).set n (r.mono mv2),c2,okk.lr.step fr2⟩ fr2 (q q' hq0)⟩
  ·refine qR (pi_itT bA hbase hline) (hi (del L t) (.inr ⟨t,rfl,rfl⟩) (fun d L2=>d= .ptr t∧L2=del L t) ⟨rfl,rfl⟩ _ σ _ ok1 _ fun v d H2 L2 r2 c2 f2 ⟨ed,eL⟩=> ?_)
   subst ed eL
   have ht2:=f2.keep t _ upd_same (fun _ z=>nomatch z) del_same
   refine ⟨t,od,kvs,r2.ptrE,ht2,g2 _ H2 _ (kds.map itD) (fun _=>True) c2 f2 (itit_is (fun F3 L3 H3 s=>s.keep t _ ht2 (fun _ z=>nomatch z) del_same) (KDs.mono f2.mv rr1) hk) ⟨trivial,ys,hz,fun d hd=> ?_,fun p hp=>⟨p,rfl,hp,rfl⟩⟩⟩
   obtain ⟨x,hx,rfl⟩:=List.mem_map.mp hd
   exact hf _ (jG t) x hx
 ·refine jP ps (lc2_read (Q:=fun d L1=>E.nx (Γ.set n (some d)) L1) okk (fun v d H1 L1 r c f q=>go.nx _ H1 _ L1 ⟨(okk.sl.mono f.mv).set n r,c,okk.lr.step f⟩ f q) fun RV g2=> ?_)
  refine qR (pi_itT bA hbase hline) (hi L (.inl rfl) (fun d L2=>d= .fdct kds∧L2=L) ⟨rfl,rfl⟩ _ σ H okk _ fun v d H1 L1 r c f ⟨ed,eL⟩=> ?_)
  subst ed eL
  obtain ⟨a,kvs,ea,hrd,rr,hk⟩:=DR.fz.at_ c r
  cases r with
  | @fdct a' kvs' _ o hl ha hk' hn he hi=>
   cases ea
   have ekv:kvs=kvs':=by
    rcases hrd with z | ⟨o',z⟩
    ·rw [ha] at z;cases z
    ·rw [ha] at z;cases z;rfl
   subst ekv
   refine ⟨_,o,kvs,rfl,ha,g2 _ H1 L1 _ (fun _=>True) c f (itit_is (fun F2 L2 H2 s=>s.fk _ _ hl ha) rr hk) ⟨trivial,ys,hz,fun d hd=> ?_,q⟩⟩
   obtain ⟨x,hx,rfl⟩:=List.mem_map.mp hd
   exact hf _ (.refl _) x hx
end
end DL
namespace GQ2
open PySem PySem.SeqAt GQ
open AutoSeq1 (wpAny_loadPart')
open MeetsSeq MeetsSeq2 MeetsSeq3 SeqRoads2
section
variable {prog:Program} {w:World} {A:Around} {R:Result→Shared→Prop}
end
section
variable {prog:Program} {w:World} {A:Around} {E:Value→Shared→Prop} {s:Shared}
end
end GQ2
namespace DL
open PySem PySem.Spec PyProof.Rows L2
structure EqI (C:DL.Ctx) (k:Nat) (Γ:Gm) (x y:D) (L:Lp) (Q:Bool→Lp→Prop):Prop where
 run:∀A,Sub C.X k A→∀Z σ H,Ok C Γ L Z σ H→∀vx vy,Rep C.X.K Z H vx x→Rep C.X.K Z H vy y→∀QB:Bool→Hp→Prop,(∀{Z'} b H' L',C.Con L' Z' H'→Fr L Z H L' Z' H'→Q b L'→QB b H')→∀pins s v u,Inv C.X pins σ H s→RelV vx v→RelV vy u→
  wpAny (model C.X.prog C.X.w) A (eqBool v u) (fun r s'=> ∃H',Inv C.X pins σ H' s'∧QB r H') C.X.xe s
def aBU (C:DL.Ctx) (k:Nat) (Γ:Gm):List D→List D→Lp→(Bool→Lp→Prop)→Prop
 | [],[],L,Q=>Q true L
 | x::xs,y::ys,L,Q=>EqI C k Γ x y L fun b L1=>(b=true→aBU C k Γ xs ys L1 Q)∧(b=false→Q false L1)
 | _,_,_,_=>False
section
variable {C:DL.Ctx} {Γ:Gm} {L:Lp} {x y:D} {k:Nat} {Cl g:Addr} {sp:SpA} {t:Value}
theorem aBU.same:∀{xs ys:List D} {L:Lp} {Q:Bool→Lp→Prop},aBU C k Γ xs ys L Q→xs.length=ys.length∨xs≠ []:=fun {xs ys} _ _ h=>by
 cases xs with
 | nil=>
  cases ys with
  | nil=>exact .inl rfl
  | cons=>exact h.elim
 | cons=>exact .inr (fun z=>nomatch z)
end
end DL
namespace DL
open PySem PySem.Spec PyProof.Rows L2
section
variable {P:Program} {w:World} {A:Around} {E:Value→Shared→Prop} {s:Shared}
set_option maxHeartbeats 3200000 in
theorem call_setX_tup {l:Addr} {items:Array Value} (xs:List Str) {Q:Value→Shared→Prop} (hh:A.handled=none) (hl:s.heap.IsTuple l items) (hit:StrsAre items.toList xs) (hb:xs.length+1 < scanBound)
  (h:∀(h':Heap) (tk c:Nat),nO w h' s.heap.objs.size (fun j=>decide (j∈xs)) c→c≤xs.length→(∀b o,s.heap.get? b=some o→h'.get? b=some o)→Q (.ref s.heap.objs.size) {s with heap:=h',toks:=tk}):
  wpAny (model P w) A (call (.type "set") [.ref l]) Q E s:=by
 have hisz:items.size=xs.length:=by rw [←StrsAre.len_eq hit,Array.length_toList]
 obtain ⟨c0,tl,hmro⟩:=PySem.F.called_set.mro
 have k_made:=PySem.F.called_set.made
 have k_sub:=PySem.F.called_set.sub
 refine wpAny_call (codeAny_of_tree ?_)
 show wpAny _ _ (callAny (.type "set") _) _ _ _
 refine wpAny_pure ⟨Code.quiet_builtin _ (by decide+kernel),codeAny_builtin PySem.F.entry_type_call ?_⟩
 rw [Around.under_plain (weight_type_call_type "set" [.ref l] []) rfl]
 have k_1:=PySem.F.called_set.notType
 have k_2:=PySem.F.called_set.canCreate
 have k_3:=PySem.F.typeCall_set_1 (.ref l)
 repeat (any_goals (first | assumption | wp_step))
 refine codeAny_mono (code_set_led1 (.ref l) (E:=E) (Q₁:=fun ob s₁=>ob= .ref s.heap.objs.size∧s₁={s with heap:=s.heap.push (bV w)}) ⟨rfl,rfl⟩) fun r s₁ hr=> ?_
 cases r with
 | error e=>exact hr
 | ok fl=>
  cases fl with
  | ret ob=>
   obtain ⟨rfl,rfl⟩:=hr
   have hS:(s.heap.push (bV w)).get? s.heap.objs.size=some (bV w):=Heap.get?_push_size _ rfl
   have hT:Shared.TypeIs {s with heap:=s.heap.push (bV w)} (.ref s.heap.objs.size) "set" :=⟨_,hS,rfl⟩
   have k_4:=PySem.F.called_set.init.lookup
   have k_5:=PySem.F.called_set.init.bind (.ref s.heap.objs.size)
   repeat (any_goals (first | assumption | wp_step))
   refine codeAny_mono (codeAny_call_builtin (R:=wants (fun r s₂=>r= .none∧∃h' tk c,s₂={s with heap:=h',toks:=tk}∧nO w h' s.heap.objs.size (fun j=>decide (j∈xs)) c∧c≤xs.length∧
     (∀b o,s.heap.get? b=some o→h'.get? b=some o)) E) PySem.F.called_set.init.plain PySem.F.entry_set_init (check_set_init_1 hT ?_)) fun r₂ s₂ hr₂=> ?_
   ·obtain ⟨ol,hol,hcl,nl,hdl⟩:=hl
    obtain ⟨ocls,odict,odata,oslots⟩:=ol
    simp only at hcl hdl
    subst hcl;subst hdl
    have hol':(s.heap.push (bV w)).get? l=some {cls:= .type "tuple",dict:=odict,data:= .seq items nl,slots:=oslots}:=Heap.get?_push_of_some _ hol
    have k_6:=PySem.F.sub_tuple_set
    have k_7:=PySem.F.sub_tuple_frozenset
    have k_8:(Value.type "tuple"==Value.type "dict")=false:=by decide
    have hl1:(s.heap.push (bV w)).IsTuple l items:=⟨_,hol',rfl,nl,rfl⟩
    unfold Builtin.«set.__init__» noKeywords Builtin.Frozenset.updateFrom
    generalize hPI:pyIter=PI
    wp_walk
    subst hPI
    refine wpAny_pyIter_tuple hl1 ?_
    refine wpAny_bind (wpAny_runValue ?_)
    have hlS:l < s.heap.objs.size:=Heap.lt_size hol
    have hh3:A.in1.in1.in1.handled=none:=by simp [hh]
    have hz1:(s.heap.push (bV w)).objs.size=s.heap.objs.size+1:=Heap.size_push ..
    have hneI:l≠(s.heap.push (bV w)).objs.size:=by
     rw [hz1];exact Nat.ne_of_lt (Nat.lt_succ_of_lt hlS)
    have hSf:s.heap.objs.size∉ [(s.heap.push (bV w)).objs.size,l]:=by
     rw [hz1];simp only [List.mem_cons,List.not_mem_nil,or_false,not_or]
     exact ⟨Nat.ne_of_lt (Nat.lt_succ_self _),Nat.ne_of_gt hlS⟩
    have hval:∀(i:Nat) (v:Value),items[i]? =some v→∃k t,xs[i]? =some k∧v= .str k t:=fun i v hv=>by
     have hi:i < xs.length:=by rw [←hisz];exact (Array.getElem?_eq_some_iff.mp hv).1
     obtain ⟨t,e⟩:=SS.strs_at hit i v (by rw [Array.getElem?_toList];exact hv)
     refine ⟨xs[i],t,List.getElem?_eq_getElem hi,?_⟩
     rw [e,List.getD_eq_getElem?_getD,List.getElem?_eq_getElem hi] <;> rfl
    refine setX_loop ((Walks.tuple hh3 _ l hneI items).toS) s.heap.objs.size
     hSf xs hisz hb hval (items.size - 0) 0 _ (by omega) (Nat.zero_le _)
     ⟨⟨_,Heap.get?_push_size _ rfl,rfl,rfl⟩,(hl1.at fun o z=>Heap.get?_push_of_some _ z)⟩ ?hS0 ?hR
    case hS0=>
     refine ⟨0,Nat.le_refl 0,(pZ (Heap.get?_push_of_some _ hS)).congr fun k=> ?_⟩
     simp
    case hR=>
     intro s' c' hm hc' hS'
     obtain ⟨h',g2,d',tk',os'⟩:=s'
     obtain rfl:g2=s.gens:=hm.gens
     obtain rfl:d'=s.drawn:=hm.drawn
     obtain rfl:os'=s.os:=hm.os
     show wpAny _ _ _ _ _ _
     refine wpAny_pure ?_
     show wpAny _ _ (ret Value.none) _ _ _
     rw [hisz] at hc'
     refine wpAny_pure ⟨rfl,h',tk',c',rfl,hS',hc',fun b o e=> ?_⟩
     have hb0:b < s.heap.objs.size:=Heap.lt_size e
     refine hm.heap b o ?_ (Heap.get?_push_of_some _ (Heap.get?_push_of_some _ e))
     rw [hz1]
     simp only [List.mem_cons,List.not_mem_nil,or_false,not_or]
     exact ⟨Nat.ne_of_lt hb0,Nat.ne_of_lt (Nat.lt_succ_of_lt hb0)⟩
   ·cases r₂ with
    | error e=>exact hr₂
    | ok fl₂=>
     cases fl₂ with
     | ret r=>
      obtain ⟨rfl,h',tk,c',rfl,hS',hc',hk'⟩:=hr₂
      repeat (any_goals (first | assumption | wp_step))
      exact h _ _ _ hS' hc' hk'
     | _=>exact hr₂.elim
  | _=>exact hr.elim
end
section
variable {X:Cx}
abbrev rSetT (K:PySem.W.Frag) (w:World):List V→Hp→VK→Prop:=fun vs H Q=> ∃(l:Addr) (xs:List Str),vs= [.ref l]∧SqT K H l (xs.map V.str)∧xs.length+1 < scanBound∧
 ∀a n,H a=none→n≤xs.length→Q (.ref a) (upd H a (.ext fun h=>nO w h a (fun k=>decide (k∈xs)) n))
theorem cr_setT (hc:X.calm=true):CallR X (.type "set") (rSetT X.K X.w):=fun pins s σ H vs us Q I r ⟨l,xs,ev,hl,hb,q⟩=>by
 subst ev
 obtain ⟨u,rfl,ru⟩:=vals1 r
 obtain rfl:u=Value.ref l:=ru
 obtain ⟨its,rv,pl,hz⟩:=I.tuple hl
 have hn:H s.heap.objs.size=none:=I.hok.fresh (Nat.le_refl _)
 refine call_setX_tup (P:=X.prog) (w:=X.w) xs (I.ok.hd hc) pl (by simpa using rW rv) hb fun h' tk c R hle k=> ?_
 exact ⟨.ref s.heap.objs.size,_,I.laid (t':=tk) k (Nat.le_refl _) (qZ R),rfl,q _ c hn hle⟩
end
section
variable {C:DL.Ctx} {Γ:Gm} {L:Lp} {Q:D→Lp→Prop} {x y:D}
theorem c_setT {xs:List Str} (hb:xs.length+1 < scanBound) (q:∀l n,L l=none→n≤xs.length→Q (.ptr l) (put L l (.txs (fun k=>decide (k∈xs)) n))):LcR C (rSetT C.X.K C.X.w) [.tup (xs.map D.str)] L Q:=fun F vs H c r0 QV go=>by
 obtain ⟨v,rfl,r⟩:=r0.oneE
 obtain ⟨p,ws,rfl,ha,ra⟩:=r.tupE
 have e:=cW ra
 subst e
 refine ⟨p,xs,rfl,SqT.of ha,hb,fun l n hl hn=>go _ _ _ (put L l (.txs (fun k=>decide (k∈xs)) n)) (.ptr l) (c.newL hl ⟨upd_same,fun k hk=> ?_⟩) (.newL hl) (q l n (c.free hl) hn)⟩
 obtain ⟨i,hi⟩:=List.getElem?_of_mem (of_decide_eq_true hk)
 obtain ⟨v,_,rv⟩:=ra.get (show (xs.map D.str)[i]? =some (.str k) by rw [List.getElem?_map,hi];rfl)
 exact rv.bnd
theorem LR.dp {ds:List D} {F:Fz} {H:Hp} {v:V} (h:LR L x ds) (c:C.Con L F H) (r:Rep C.X.K F H v x) (ok:gA ds=true):Dp C.X.K H v (.list (pys ds))∧(PyData.list (pys ds)).canLay0=true:=by
 obtain ⟨a,vs,rfl,ha,ra,_⟩:=h.at_ c r
 obtain ⟨h1,h2⟩:=aZ.dp ds vs ok ra
 exact ⟨.lst (SqL.of ha) h1,by rw [PyData.canLay0];exact h2⟩
end
end DL
namespace DL
open PySem PySem.Spec PyProof.Rows L2
def aBK (K:PySem.W.Frag) (fld:Str):Sp:=fun vs H Q _=> ∃(a C:Addr) (y:V),vs= [.ref a,y]∧OexC K C∧PySem.W.findIn K (.ref C) fld=some none∧H a=some (exo a C none)∧∀dx,H dx=none→dx≠a→Q .non (upd (upd H dx (exd dx [(fld,y)])) a (exo a C (some dx)))
theorem vis_par {N ps:List Str} {sc:Scope} (S:FnScope N ps sc) {x:Str} (h:x∈ps):Vis sc x:=(S.par x h).elim .inl fun z=> .inr (.inl z)
theorem fn_we {P:Program} {w:World} {K:PySem.W.Frag} {mg:Str→Option Value} {base:Heap} {x qual:Str} {st:Stmt} {f:Addr} {fd:FuncData} {v fld:Str} {p1 p2 p3 pos:Pos} (F:FunX K x qual st f fd) (S:FnScope ["self",v] ["self",v] (defScope st))
  (hbd:defBody st= [.Assign [.Attribute (.Name "self" p1) fld p2] (.Name v p3) pos]) (hd:(v==("__debug__" :Str))=false) (hcd2:(v==("__classdict__" :Str))=false):FnOk P w K mg base (L2.CX P w) 1 f fd ["self",v] (aBK K fld):=by
 obtain ⟨oc,od,dV,kV,doc,pm,an,cdv,ct,osl,rfl,lk,hcd⟩:=F.ex
 refine fn_of (k:=0) lk hcd S (fun vs H Q E ⟨a,C,y,e,_⟩=>by rw [e];rfl) fun A outer s H vs Q E hr ⟨a,C,y,e,T,hno,ha,q⟩=> ?_
 subst e
 rw [hbd]
 refine ⟨_,pss_one (ps_ost (pe_var (i:=0) rfl (vis_par S List.mem_cons_self)) (pe_var (i:=1) rfl (vis_par S (List.mem_cons_of_mem _ List.mem_cons_self)) hd hcd2)),?_⟩
 exact ⟨y,rfl,.ref a,rfl,a,C,rfl,T,hno,.inl ⟨ha,fun dx h1 h2=>q dx h1 h2⟩⟩
end DL
namespace DL
open PySem PySem.Spec PyProof.Rows L2
open PySem.W (ksEnv ksFn ks_superIn clsIn mroIn nsIn typeIn fnIn codeIn)
structure SuSc (sc:Scope) (v:Str):Prop where
 kind:sc.kind= .function
 co:sc.isCoroutine=false
 gen:sc.isGenerator=false
 slf:sc.names.lookup ("self" :Str)=some .local
 par:sc.names.lookup v=some .local
 sup:sc.names.lookup ("super" :Str)=some .globalImplicit
 cls:sc.names.lookup ("__class__" :Str)=some .free
 nocell:∀x∈sc.names,x.2≠ .cell
 only:∀x∈sc.names,x.2= .free→x.1=("__class__" :Str)
 ne:("self" :Str)≠v
 d1:(v==("__debug__" :Str))=false
 d2:(v==("__classdict__" :Str))=false
end DL
namespace DL
open PySem PySem.Spec PyProof.Rows L2
def spG (K:PySem.W.Frag) (C:Addr) (ns:List Str):Sp:=fun vs H Q _=> ∃(a:Addr) (y:V),vs= [.ref a,y]∧H a=some (exo a C none)∧∀(dx:Addr) (H':Hp),H dx=none→dx≠a→H' a=some (exo a C (some dx))→H' dx=some (exd dx (ns.map fun n=>(n,y)))→(∀b,b≠a→b≠dx→H' b=H b)→Q .non H'
theorem spG_we {K:PySem.W.Frag} {C:Addr} {fld:Str} (T:OexC K C) (n1:PySem.W.findIn K (.ref C) fld=some none) {vs:List V} {H:Hp} {Q:VK} {E:XK} (h:spG K C [fld] vs H Q E):aBK K fld vs H Q E:=by
 obtain ⟨a,y,e,ha,q⟩:=h
 exact ⟨a,C,y,e,T,n1,ha,fun dx h1 h2=>q dx _ h1 h2 upd_same (by rw [upd_ne h2];exact upd_same) fun b h3 h4=>by rw [upd_ne h3,upd_ne h4]⟩
structure Err1 (P:Program) (w:World) (K:PySem.W.Frag) (mg:Str→Option Value) (base:Heap) (x:Str) (Cl:Addr) (k:Nat) (ns:List Str):Prop where
 T:OexC K Cl
 nm:mg x=some (.ref Cl)
 ex:∃(fI:Addr) (fd:FuncData) (v:Str),PySem.W.findIn K (.ref Cl) "__init__"=some (some (.ref fI))∧PySem.W.typeIn K (.ref fI)=some (.type "function")∧Binds K fd ["self",v] []∧FnOk P w K mg base (L2.CX P w) k fI fd ["self",v] (spG K Cl ns)
theorem Fr.newF {L:Lp} {F:Fz} {H:Hp} {p:Addr} {o:HO} {c:Prop} (h:H p=none):Fr L F H L (fun b=>F b∨(b=p∧c)) (upd H p o):=
 ⟨fun a u e _ _=>by rw [upd_ne (ne_of_none e h)];exact e,fun a z=>cA z,.new h,fun _ z=> .inl z,fun _ z=> .inl z,fun a u _ e=>by rw [upd_ne (ne_of_none e h)];exact e,fun a z=>z.elim .inl fun z=> .inr (.inr (by rw [z.1];exact h))⟩
theorem Con.newF {P:Program} {w:World} {K:PySem.W.Frag} {L:Lp} {F:Fz} {H:Hp} {p:Addr} {o:HO} {c:Prop} (x:Con P w K L F H) (h:H p=none) (h1:∀y,o≠ .own y) (h2:c→o≠ .xd []):Con P w K L (fun b=>F b∨(b=p∧c)) (upd H p o):=⟨fun a u e=>by
 obtain ⟨z,q,_⟩:=(x.at_ a u e).some
 exact (x.at_ a u e).mono (Fr.newF (L:=L) h).mv (upd_ne (ne_of_none q h)),fun a z=>by
 rcases z with z | ⟨z,hc⟩
 ·obtain ⟨n,u,e,q⟩:=x.fz a z
  exact ⟨n,u,by rw [upd_ne (ne_of_none e h)];exact e,q⟩
 ·rw [z]
  exact ⟨x.free h,o,upd_same,h1,h2 hc⟩⟩
section
variable {C:DL.Ctx} {Γ:Gm} {L:Lp} {e:Expr} {x:Str} {p pos:Pos} {k:Nat} {Cl:Addr} {ns:List Str} {E:AEnds}
def AM (C:DL.Ctx) (e:Expr) (Γ:Gm) (L:Lp) (Q:Value→List (Str×D)→Lp→Prop):Prop:= ∀F σ H,Ok C Γ L F σ H→∀QX:XK,(∀{F'} cls d H' L' fs,C.Con L' F' H'→Fr L F H L' F' H'→aAm C.X.K F' H' d fs→Q cls fs L'→QX cls (some d) H')→∃t,PMk C.X e t∧t σ H QX
theorem am_err {Q:Value→List (Str×D)→Lp→Prop} (E1:Err1 C.X.prog C.X.w C.X.K C.X.mg C.X.base x Cl k ns) (hr:Room (k+1) C.X.A) (h:AE C e Γ L fun d L1=>Q (.ref Cl) (ns.map fun n=>(n,d)) L1) (hg:Gl C.X x:=by rfl) (hdb:(x==("__debug__" :Str))=false:=by decide)
  (he:starEach [e] C.X.env= [(false,eval e C.X.env)]:=by rfl):AM C (.Call (.Name x p) [e] [] pos) Γ L Q:=fun F σ H ok QX go=>by
 obtain ⟨fI,fd,v,iC,tI,hb,F1⟩:=E1.ex
 refine ⟨_,pmk_oex E1.T iC tI F1 hr hb (dvs:= []) .nil passL hg E1.nm qT hdb he rfl,?_⟩
 have hA:AA C [e] Γ L fun ds L1=> ∃d,ds= [d]∧Q (.ref Cl) (ns.map fun n=>(n,d)) L1:=aC (h.mono fun d L1 q=>aD ⟨d,rfl,q⟩) he
 refine hA F σ H ok _ fun {F1} vs ds H1 L1 r c f ⟨d,ed,q⟩=> ?_
 subst ed
 obtain ⟨y,rfl,ry⟩:=r.oneE
 refine ⟨by show 1≤1000;decide,fun a ha=>⟨a,y,rfl,upd_same,fun dx H' h1 h2 h3 h4 h5=>⟨rfl,dx,_,h3,h4,?_,?_⟩⟩⟩
 ·rw [upd_ne h2] at h1
  exact h1
 ·rw [upd_ne h2] at h1
  have e1:upd (L2.del H' a) dx (.xd (ns.map fun n=>(n,y)))=upd H1 dx (.xd (ns.map fun n=>(n,y))):=by
   funext b
   by_cases hb:b=dx
   ·rw [hb,upd_same,upd_same]
   ·rw [upd_ne hb,upd_ne hb]
    by_cases hb2:b=a
    ·rw [hb2,L2.del_same,ha]
    ·rw [L2.del_ne hb2,h5 b hb2 hb,upd_ne hb2]
  rw [e1]
  refine go (F':=fun b=>F1 b∨(b=dx∧ns≠ [])) (.ref Cl) dx _ L1 (ns.map fun n=>(n,d)) (c.newF h1 (fun _ z=>nomatch z) fun hn z=> ?_) (f.trans (.newF h1)) ⟨_,?_,upd_same,?_⟩ q
  ·cases ns with
   | nil=>exact hn rfl
   | cons a l=>cases z
  ·cases ns with
   | nil=>exact .inl rfl
   | cons a l=>exact .inr (.inr ⟨rfl,fun z=>nomatch z⟩)
  have key:∀l:List Str,Paired (fun (p:Str×V) (q:Str×D)=>p.1=q.1∧Rep C.X.K (fun b=>F1 b∨(b=dx∧ns≠ [])) (upd H1 dx (.xd (ns.map fun n=>(n,y)))) p.2 q.2) (l.map fun n=>(n,y)) (l.map fun n=>(n,d)):=by
   intro l
   induction l with
   | nil=>exact .nil
   | cons n l ih=>exact .cons ⟨rfl,ry.mono (Fr.newF (L:=L) h1).mv⟩ ih
  exact key ns
theorem as_raise (h:AM C e Γ L (C.R Γ)):AS C (.Raise (some e) none pos) Γ L E:=fun F σ H ok DD go=>by
 obtain ⟨t,hp,q⟩:=h F σ H ok (fun cls d H'=>C.W cls d σ H') fun {F'} cls d H' L' fs c f xd r=>ok.lr.of cls d σ H' Γ L' fs (ok.sl.mono f.mv) c f xd r
 exact jP (ps_raise C.calm C.tk hp) q
end
end DL
namespace DL
open PySem PySem.Spec PyProof.Rows L2
abbrev Sui:=Addr→Value→Option Addr→L2.TS
inductive Cls (X:Cx):List ExceptHandler→List (Value×Nat×Sui)→Prop
 | nil:Cls X [] []
 | cons {x n : Str} {c : Value} {i : Nat} {S : Sui} {b : Stmt} {bs : List Stmt} {p1 p2 : Pos} {hs : List ExceptHandler} {l : List (Value × Nat × Sui)} (hc : Names X x c) (hi : X.N[i]? = some n) (hn : X.env.kindOf n = some .local)
   (su:∀a oe cls d pn,Zc cls d oe→(∃fv,oe.data= .fields fv)→PSs (X.suite a ((a,oe)::pn)) (b::bs) (S a cls d)) (r:Cls X hs l):Cls X (.ExceptHandler (some (.Name x p1)) (some n) (b::bs) p2::hs) ((c,i,S)::l)
section
variable {X:Cx} {body:List Stmt} {h0:ExceptHandler} {hs:List ExceptHandler} {l:List (Value×Nat×Sui)} {pos:Pos} {tb:WX→L2.TS} {W0:WX}
end
end DL
namespace DL
open PySem PySem.Spec PyProof.Rows L2
theorem aAm.mono {K:PySem.W.Frag} {L L':Lp} {F F':Fz} {H H':Hp} {d:Addr} {fs:List (Str×D)} (x:aAm K F H d fs) (f:Fr L F H L' F' H') (hd:L d=none):aAm K F' H' d fs:=by
 obtain ⟨fv,hz,h,p⟩:=x
 exact ⟨fv,hz.imp id (f.fz d),f.keep d _ h (fun y z=>nomatch z) hd,Paired.mono p fun _ _ z=>⟨z.1,z.2.mono f.mv⟩⟩
theorem aAm.off {P:Program} {w:World} {K:PySem.W.Frag} {L:Lp} {F:Fz} {H:Hp} {d:Addr} {fs:List (Str×D)} (x:aAm K F H d fs) (c:Con P w K L F H):L d=none:=by
 cases e:L d with
 | none=>rfl
 | some mo=>
  obtain ⟨fv,_,h,p⟩:=x
  have z:=c.at_ d mo e
  cases mo with
  | lst ds=>obtain ⟨vs,q,_⟩:=z;rw [h] at q;cases q
  | dct ks=>obtain ⟨vs,q,_⟩:=z;rw [h] at q;cases q
  | ins C gs=>
   obtain ⟨dx,vs,q,_⟩:=z
   rcases q with ⟨q,_⟩ | ⟨q,_⟩
   ·rw [h] at q;cases q
   ·rw [h] at q;unfold SlX.SlO at q;cases q
  | set S n=>have q:H d=_:=z;rw [h] at q;cases q
  | txs S n=>have q:H d=_:=z.1;rw [h] at q;cases q
  | kd kds=>obtain ⟨kvs,q,_⟩:=z;rw [h] at q;cases q
  | nd kds=>obtain ⟨xs,q,_⟩:=z;rw [h] at q;unfold ndO at q;cases q
  | iin Ci fi=>obtain ⟨dx',vfs,q,_⟩:=z;rw [h] at q;cases q
  | tab n=>obtain ⟨ps,q,_⟩:=z;rw [h] at q;cases q
  | exc Ci fi=>obtain ⟨dx',vfs,q,_⟩:=z;rw [h] at q;unfold ErO at q;cases q
theorem aAm.get {K:PySem.W.Frag} {F:Fz} {H:Hp} {d:Addr} {fs:List (Str×D)} {f:Str} {x:D} (h:aAm K F H d fs) (e:fs.lookup f=some x):∃fv v,H d=some (.xd fv)∧fv.lookup f=some v∧Rep K F H v x:=by
 obtain ⟨fv,_,h,p⟩:=h
 have key:∀{fv:List (Str×V)} {fs:List (Str×D)},Paired (fun (p:Str×V) (q:Str×D)=>p.1=q.1∧Rep K F H p.2 q.2) fv fs→fs.lookup f=some x→∃v,fv.lookup f=some v∧Rep K F H v x:=by
  intro fv
  induction fv with
  | nil=>intro fs p e;cases p;cases e
  | cons a fv ih=>
   intro fs p e
   cases p with
   | cons q t=>
    rename_i b fs
    obtain ⟨a1,a2⟩:=a
    obtain ⟨b1,b2⟩:=b
    obtain ⟨q1,q2⟩:=q
    dsimp only at q1 q2
    subst q1
    rw [List.lookup_cons] at e ⊢
    cases z:f==a1 with
    | true=>rw [z] at e;cases e;exact ⟨a2,rfl,q2⟩
    | false=>rw [z] at e;exact ih t e
 obtain ⟨v,h1,h2⟩:=key p e
 exact ⟨fv,v,h,h1,h2⟩
section
variable {X:Cx} {dd:Addr} {fs:List (Str×D)} {Γ:Gm} {L:Lp} {e:Expr} {es:List Expr} {pos:Pos} {d:D} {ds:List D}
end
abbrev Cz:=Value×Nat×Nat×Expr
inductive ClsD (C:DL.Ctx):List ExceptHandler→List Cz→Prop
 | nil:ClsD C [] []
 | cons {x n y : Str} {c : Value} {i j : Nat} {e : Expr} {p1 p2 p3 p4 : Pos} {hs : List ExceptHandler} {l : List Cz} (hc : Names C.X x c) (hi : C.X.N[i]? = some n) (hn : C.X.env.kindOf n = some .local) (hj : C.X.N[j]? = some y) (hy : C.X.env.scope.names.lookup y = some .local) (hij : i ≠ j)
   (sw:swapsWith e (some (.Name y p3)) p4.line C.X.env=pure false) (r:ClsD C hs l):ClsD C (.ExceptHandler (some (.Name x p1)) (some n) [.Assign [.Name y p3] e p4] p2::hs) ((c,i,j,e)::l)
end DL
namespace DL
open PySem PySem.Spec PyProof.Rows L2
structure ErX (P:Program) (w:World) (K:PySem.W.Frag) (mg:Str→Option Value) (base:Heap) (x:Str) (Cl:Addr) (k:Nat) (ns:List Str):Prop where
 e:Err1 P w K mg base x Cl k ns
 xf:XfC K Cl
 no:∀n∈ns,PySem.W.findIn K (.ref Cl) n=some none
 xm:PySem.W.exmOne K (.ref Cl) (.ref Cl)=some true
section
variable {P:Program} {w:World} {K:PySem.W.Frag} {mg:Str→Option Value} {base:Heap} {x:Str} {Cl f:Addr} {fd:FuncData} {v fld:Str}
theorem er_we (F:FnOk P w K mg base (L2.CX P w) 1 f fd ["self",v] (aBK K fld)) (hb:Binds K fd ["self",v] []) (T:OexC K Cl) (nm:mg x=some (.ref Cl)) (hI:PySem.W.findIn K (.ref Cl) "__init__"=some (some (.ref f))) (hT:PySem.W.typeIn K (.ref f)=some (.type "function"))
  (no:PySem.W.findIn K (.ref Cl) fld=some none) (xf:XfC K Cl) (xm:PySem.W.exmOne K (.ref Cl) (.ref Cl)=some true):ErX P w K mg base x Cl 1 [fld]:=
 ⟨⟨T,nm,f,fd,v,hI,hT,hb,F.imp fun vs H Q E h=>spG_we T no h⟩,xf,fun n hn=>by rw [List.mem_singleton.mp hn];exact no,xm⟩
theorem FnA.or {k:Nat} {g:Addr} {s1 s2:SpA} (h1:FnA P w K mg base k g s1) (h2:FnA P w K mg base k g s2):FnA P w K mg base k g fun ds L Q R=>s1 ds L Q R∨s2 ds L Q R:=by
 intro A outer s H us vs Q E hr e0 r h
 obtain ⟨ds,L,Z,Q',R',rd,c,hs | hs,q1,q2⟩:=h
 ·exact h1 A outer s H us vs Q E hr e0 r ⟨ds,L,Z,Q',R',rd,c,hs,q1,q2⟩
 ·exact h2 A outer s H us vs Q E hr e0 r ⟨ds,L,Z,Q',R',rd,c,hs,q1,q2⟩
theorem FnA.weak {k:Nat} {g:Addr} {s1 s2:SpA} (h1:FnA P w K mg base k g s1) (hi:∀ds L Q R,s2 ds L Q R→s1 ds L Q R):FnA P w K mg base k g s2:=by
 intro A outer s H us vs Q E hr e0 r h
 obtain ⟨ds,L,Z,Q',R',rd,c,hs,q1,q2⟩:=h
 exact h1 A outer s H us vs Q E hr e0 r ⟨ds,L,Z,Q',R',rd,c,hi _ _ _ _ hs,q1,q2⟩
end
section
variable {C:DL.Ctx} {Γ:Gm} {L:Lp} {Q:D→Lp→Prop}
end
end DL
namespace DL
open PySem PySem.Spec PyProof.Rows L2
theorem rP (xs:List Cell) (b a m:Nat):wAt xs (b+a) m=wAt (xs.drop b) a m:=by
 unfold wAt
 rw [List.drop_drop]
theorem qL (rs:Rl) (xs:List Cell) (b a m:Nat):fits rs xs (b+a) m=fits rs (xs.drop b) a m:=by
 unfold fits
 rw [rP]
theorem jQ (rs:Rl) (xs:List Cell) (b a:Nat):gM rs xs (b+a)=gM rs (xs.drop b) a:=by
 unfold gM
 rw [qL,qL,qL]
theorem kAt_shift (rs:Rl) (xs:List Cell) (b a:Nat):kAt rs xs (b+a)=kAt rs (xs.drop b) a:=by
 unfold kAt
 rw [jQ,rP]
theorem wrt_shift (rs:Rl) (xs:List Cell) (b a:Nat):wrt rs xs (b+a)=wrt rs (xs.drop b) a:=by
 unfold wrt
 rw [jQ,kAt_shift,List.getD_eq_getElem?_getD,List.getD_eq_getElem?_getD,List.getElem?_drop]
theorem wait_shift (rs:Rl) (xs:List Cell) (b a:Nat):wait rs xs (b+a)=wait rs (xs.drop b) a:=by
 unfold wait
 rw [rP,List.length_drop,Nat.sub_add_eq]
theorem nH (w:Bool) (rs:Rl) (xs:List Cell) (b a:Nat):goes w rs xs (b+a)=goes w rs (xs.drop b) a:=by
 unfold goes
 rw [wait_shift,List.length_drop]
 congr 1
 by_cases h:b+a < xs.length
 ·rw [decide_eq_true h,decide_eq_true (by omega)]
 ·rw [decide_eq_false h,decide_eq_false (by omega)]
theorem sJ (w:Bool) (rs:Rl) (xs:List Cell) (b:Nat):∀n a,rwG w rs xs n (b+a)=((rwG w rs (xs.drop b) n a).1,b+(rwG w rs (xs.drop b) n a).2)
 | 0,a=>rfl
 | n+1,a=>by
  by_cases h:goes w rs xs (b+a)=true
  ·have h2:goes w rs (xs.drop b) a=true:=by rw [←nH];exact h
   rw [cU h,cU h2,jQ,wrt_shift,Nat.add_assoc,sJ w rs xs b n]
  ·have h1:goes w rs xs (b+a)=false:=by simpa using h
   have h2:goes w rs (xs.drop b) a=false:=by rw [←nH];exact h1
   rw [fP h1,fP h2]
theorem oN {w:Bool} {rs:Rl} {cs:List Cell}:∀n m a,cs.length≤a+n→cs.length≤a+m→rwG w rs cs n a=rwG w rs cs m a
 | 0,m,a,h1,h2=>by
  have hg:goes w rs cs a=false:=by unfold goes;rw [decide_eq_false (by omega)];rfl
  rw [fP hg,fP hg]
 | n+1,m,a,h1,h2=>by
  by_cases h:goes w rs cs a=true
  ·have hl:=mG h
   obtain ⟨m,rfl⟩:∃m',m=m'+1:=⟨m - 1,by omega⟩
   rw [cU h,cU h,oN n m _ (by omega) (by omega)]
  ·have hg:goes w rs cs a=false:=by simpa using h
   rw [fP hg,fP hg]
theorem wAt_all {xs:List Cell} (h:∀c∈xs,c.length=1):wAt xs 0 xs.length=some (xs.map hd0):=by
 unfold wAt
 rw [List.drop_zero,List.take_length,if_neg]
 ·rfl
 ·rintro (h1 | h1)
  ·exact Nat.lt_irrefl _ h1
  ·obtain ⟨c,hc,e⟩:=List.any_eq_true.mp h1
   exact of_decide_eq_true e (h c hc)
theorem wait_of {rs:Rl} {xs:List Cell} (hl:xs.length < 3) (h1:∀c∈xs,c.length=1) {r:List Wd×List Cell} (hr:r∈rs) (hn:xs.length < r.1.length) (ht:r.1.take xs.length=xs.map hd0):wait rs xs 0=true:=by
 unfold wait
 rw [Nat.sub_zero,decide_eq_true hl,wAt_all h1]
 show (rs.any _)=true
 exact List.any_eq_true.mpr ⟨r,hr,by rw [decide_eq_true hn,decide_eq_true ht];rfl⟩
theorem wait_ex {rs:Rl} {xs:List Cell} (h:wait rs xs 0=true):xs.length < 3∧(∀c∈xs,c.length=1)∧∃r∈rs,xs.length < r.1.length∧r.1.take xs.length=xs.map hd0:=by
 unfold wait at h
 rw [Nat.sub_zero,Bool.and_eq_true] at h
 refine ⟨of_decide_eq_true h.1,?_⟩
 cases e:wAt xs 0 xs.length with
 | none=>rw [e] at h;cases h.2
 | some ws=>
  rw [e] at h
  obtain ⟨e1,e2⟩:=rQ e
  rw [List.drop_zero,List.take_length] at e1 e2
  obtain ⟨r,hr,q⟩:=List.any_eq_true.mp h.2
  rw [Bool.and_eq_true] at q
  exact ⟨e2,r,hr,of_decide_eq_true q.1,by rw [of_decide_eq_true q.2,e1]⟩
theorem vR {rs:Rl} {xs:List Cell} (ys:List Cell) {m:Nat} (h:wait rs xs 0=false) (hm:m≤3):fits rs (xs++ys) 0 m=fits rs xs 0 m:=by
 by_cases hl:m≤xs.length
 ·unfold fits wAt
  rw [List.drop_zero,List.drop_zero,List.take_append_of_le_length hl]
 ·have e1:fits rs xs 0 m=false:=by
   rw [fits_eq,List.drop_zero,decide_eq_false (by rw [List.length_take];omega)]
   rfl
  rw [e1]
  cases e:fits rs (xs++ys) 0 m with
  | false=>rfl
  | true=>
   obtain ⟨w,z,k1,k2⟩:=fits_w e
   obtain ⟨e2,e3⟩:=rQ k1
   have e4:=wAt_len k1
   rw [List.drop_zero] at e2 e3
   have htk:(xs++ys).take m=xs++ys.take (m - xs.length):=by rw [List.take_append,List.take_of_length_le (by omega)]
   rw [htk] at e2 e3
   have:wait rs xs 0=true:=wait_of (by omega) (fun c hc=>e3 c (List.mem_append_left _ hc)) (xG k2) (by rw [e4];omega) (by
    show w.take xs.length=_
    rw [e2,List.map_append,List.take_append_of_le_length (by rw [List.length_map];exact Nat.le_refl _),List.take_of_length_le (by rw [List.length_map];exact Nat.le_refl _)])
   rw [h] at this
   cases this
theorem wait_app {rs:Rl} {xs:List Cell} (ys:List Cell) (h:wait rs xs 0=false):wait rs (xs++ys) 0=false:=by
 cases e:wait rs (xs++ys) 0 with
 | false=>rfl
 | true=>
  obtain ⟨e1,e2,r,hr,e3,e4⟩:=wait_ex e
  rw [List.length_append] at e1 e3 e4
  have:wait rs xs 0=true:=wait_of (by omega) (fun c hc=>e2 c (List.mem_append_left _ hc)) hr (by omega) (by
   have:=congrArg (List.take xs.length) e4
   rw [List.take_take,Nat.min_eq_left (by omega),List.map_append,List.take_append_of_le_length (by rw [List.length_map];exact Nat.le_refl _),List.take_of_length_le (l:=xs.map hd0) (by rw [List.length_map];exact Nat.le_refl _)] at this
   exact this)
  rw [h] at this
  cases this
theorem go_app {rs:Rl} {cs:List Cell} (ds:List Cell) {a:Nat} (h:goes false rs cs a=true):goes false rs (cs++ds) a=true∧gM rs (cs++ds) a=gM rs cs a∧wrt rs (cs++ds) a=wrt rs cs a:=by
 have hl:=mG h
 have hw:wait rs (cs.drop a) 0=false:=by
  rw [←wait_shift,Nat.add_zero]
  unfold goes at h
  rw [decide_eq_true hl] at h
  simpa using h
 have hd:(cs++ds).drop a=cs.drop a++ds:=List.drop_append_of_le_length (by omega)
 have hne:0 < (cs.drop a).length:=by rw [List.length_drop];omega
 have e1:gM rs (cs++ds) a=gM rs cs a:=by
  rw [show a=a+0 from rfl,jQ,jQ,hd]
  unfold gM
  rw [vR ds hw (by omega),vR ds hw (by omega),vR ds hw (by omega)]
 refine ⟨?_,e1,?_⟩
 ·rw [show a=a+0 from rfl,nH,hd]
  unfold goes
  rw [decide_eq_true (by rw [List.length_append];omega),wait_app ds hw]
  rfl
 ·unfold wrt kAt
  rw [e1]
  by_cases h0:gM rs cs a=0
  ·rw [if_pos h0,if_pos h0,List.getD_eq_getElem?_getD,List.getD_eq_getElem?_getD,List.getElem?_append_left hl]
  ·rw [if_neg h0,if_neg h0,if_neg h0]
   obtain ⟨z,k1,_⟩:=mZ h0
   have k2:=wAt_end k1 (by omega)
   have:wAt (cs++ds) a (gM rs cs a)=wAt cs a (gM rs cs a):=by
    unfold wAt
    rw [hd,List.take_append_of_le_length (by rw [List.length_drop];omega)]
   rw [this,if_neg h0]
theorem rwG_app {rs:Rl} {cs:List Cell} (ds:List Cell):∀n N a,a≤cs.length→cs.length≤a+n→cs.length+ds.length≤a+N→rwG false rs (cs++ds) N a=((rwG false rs cs n a).1++(rwG false rs (cs++ds) N (rwG false rs cs n a).2).1,(rwG false rs (cs++ds) N (rwG false rs cs n a).2).2)
 | 0,N,a,h0,h1,h2=>by
  show _=([]++_,_)
  rfl
 | n+1,N,a,h0,h1,h2=>by
  by_cases h:goes false rs cs a=true
  ·obtain ⟨g1,g2,g3⟩:=go_app ds h
   have hl:=mG h
   have he:=qJ (rs:=rs) hl
   obtain ⟨N,rfl⟩:∃N',N=N'+1:=⟨N - 1,by omega⟩
   rw [cU g1,cU h,g2,g3]
   have ih:=rwG_app (rs:=rs) ds n (N+1) (a+max 1 (gM rs cs a)) he (by omega) (by omega)
   rw [oN N (N+1) (a+max 1 (gM rs cs a)) (by rw [List.length_append];omega) (by rw [List.length_append];omega),ih]
   simp only [List.append_assoc]
  ·have hg:goes false rs cs a=false:=by simpa using h
   rw [fP hg]
   rfl
theorem rw2_app (rs:Rl) (cs ds:List Cell):rw2 false rs (cs++ds)=((rw2 false rs cs).1++(rw2 false rs ((rw2 false rs cs).2++ds)).1,(rw2 false rs ((rw2 false rs cs).2++ds)).2):=by
 unfold rw2
 obtain ⟨hb,_⟩:=rA (rs:=rs) (cs:=cs) cs.length 0 (Nat.zero_le _) (by omega)
 have h:=rwG_app (rs:=rs) (cs:=cs) ds cs.length (cs++ds).length 0 (Nat.zero_le _) (by omega) (by rw [List.length_append];omega)
 generalize rwG false rs cs cs.length 0=cb at h hb ⊢
 obtain ⟨c,b⟩:=cb
 rw [h]
 have hd:(cs++ds).drop b=cs.drop b++ds:=List.drop_append_of_le_length hb
 have e:=sJ false rs (cs++ds) b (cs++ds).length 0
 rw [hd,Nat.add_zero] at e
 have ef:rwG false rs (cs.drop b++ds) (cs++ds).length 0=rwG false rs (cs.drop b++ds) (cs.drop b++ds).length 0:=oN _ _ _ (by rw [List.length_append,List.length_append,List.length_drop];omega) (by omega)
 rw [ef] at e
 show (c++(rwG false rs (cs++ds) (cs++ds).length b).1,List.drop (rwG false rs (cs++ds) (cs++ds).length b).2 (cs++ds))=_
 rw [e,←List.drop_drop,hd]
theorem rwG_stop {rs:Rl} {cs:List Cell}:∀n a,a≤cs.length→cs.length≤a+n→goes false rs cs (rwG false rs cs n a).2=false
 | 0,a,h0,h1=>by
  show goes false rs cs a=false
  unfold goes
  rw [decide_eq_false (by omega)]
  rfl
 | n+1,a,h0,h1=>by
  by_cases h:goes false rs cs a=true
  ·rw [cU h]
   exact rwG_stop n _ (qJ (mG h)) (by omega)
  ·have hg:goes false rs cs a=false:=by simpa using h
   rw [fP hg]
   exact hg
end DL
namespace DL
open PySem PySem.Spec PyProof.Rows L2
theorem goes_whole {rs:Rl} {xs:List Cell} {a:Nat} (h:goes false rs xs a=true):goes true rs xs a=true:=by
 unfold goes
 rw [decide_eq_true (mG h)]
 rfl
theorem rwG_appT {rs:Rl} {cs:List Cell} (ds:List Cell):∀n N a,a≤cs.length→cs.length≤a+n→cs.length+ds.length≤a+N→rwG true rs (cs++ds) N a=((rwG false rs cs n a).1++(rwG true rs (cs++ds) N (rwG false rs cs n a).2).1,(rwG true rs (cs++ds) N (rwG false rs cs n a).2).2)
 | 0,N,a,h0,h1,h2=>by
  show _=([]++_,_)
  rfl
 | n+1,N,a,h0,h1,h2=>by
  by_cases h:goes false rs cs a=true
  ·obtain ⟨g1,g2,g3⟩:=go_app ds h
   have hl:=mG h
   have he:=qJ (rs:=rs) hl
   obtain ⟨N,rfl⟩:∃N',N=N'+1:=⟨N - 1,by omega⟩
   rw [cU (goes_whole g1),cU h,g2,g3]
   have ih:=rwG_appT (rs:=rs) ds n (N+1) (a+max 1 (gM rs cs a)) he (by omega) (by omega)
   rw [oN N (N+1) (a+max 1 (gM rs cs a)) (by rw [List.length_append];omega) (by rw [List.length_append];omega),ih]
   simp only [List.append_assoc]
  ·have hg:goes false rs cs a=false:=by simpa using h
   rw [fP hg]
   rfl
theorem rw2_appT (rs:Rl) (cs ds:List Cell):rw2 true rs (cs++ds)=((rw2 false rs cs).1++(rw2 true rs ((rw2 false rs cs).2++ds)).1,(rw2 true rs ((rw2 false rs cs).2++ds)).2):=by
 unfold rw2
 obtain ⟨hb,_⟩:=rA (rs:=rs) (cs:=cs) cs.length 0 (Nat.zero_le _) (by omega)
 have h:=rwG_appT (rs:=rs) (cs:=cs) ds cs.length (cs++ds).length 0 (Nat.zero_le _) (by omega) (by rw [List.length_append];omega)
 generalize rwG false rs cs cs.length 0=cb at h hb ⊢
 obtain ⟨c,b⟩:=cb
 rw [h]
 have hd:(cs++ds).drop b=cs.drop b++ds:=List.drop_append_of_le_length hb
 have e:=sJ true rs (cs++ds) b (cs++ds).length 0
 rw [hd,Nat.add_zero] at e
 have ef:rwG true rs (cs.drop b++ds) (cs++ds).length 0=rwG true rs (cs.drop b++ds) (cs.drop b++ds).length 0:=oN _ _ _ (by rw [List.length_append,List.length_append,List.length_drop];omega) (by omega)
 rw [ef] at e
 show (c++(rwG true rs (cs++ds) (cs++ds).length b).1,List.drop (rwG true rs (cs++ds) (cs++ds).length b).2 (cs++ds))=_
 rw [e,←List.drop_drop,hd]
theorem rw1_app (rs:Rl) (cs ds:List Cell):rw1 rs (cs++ds)=(rw2 false rs cs).1++rw1 rs ((rw2 false rs cs).2++ds):=by
 have h:=congrArg Prod.fst (rw2_appT rs cs ds)
 rw [fY,fY] at h
 exact h
theorem yG:∀{l:List Cell},(∀c∈l,c.length=1)→one (l.map hd0)=l
 | [],_=>rfl
 | c::l,h=>by
  show [hd0 c]::one (l.map hd0)=_
  rw [yG fun d hd=>h d (List.mem_cons_of_mem _ hd)]
  congr 1
  match c,h c List.mem_cons_self with
  | [x],_=>rfl
theorem thr_acc (wh:Bool):∀(qs:List (Rl×List Wd)) (a l:List (List Wd)) (c:List Cell),qs.foldl (aAl wh) (a++l,c)=(a++(qs.foldl (aAl wh) (l,c)).1,(qs.foldl (aAl wh) (l,c)).2)
 | [],_,_,_=>rfl
 | q::qs,a,l,c=>by
  rw [List.foldl_cons,List.foldl_cons]
  show qs.foldl (aAl wh) ((a++l)++ [_],_)=_
  rw [List.append_assoc,thr_acc wh qs]
  rfl
theorem gK (wh:Bool) (q:Rl×List Wd) (qs:List (Rl×List Wd)) (cs:List Cell):thr wh (q::qs) cs=((rw2 wh q.1 (one q.2++cs)).2.map hd0::(thr wh qs (rw2 wh q.1 (one q.2++cs)).1).1,(thr wh qs (rw2 wh q.1 (one q.2++cs)).1).2):=by
 show qs.foldl (aAl wh) ([(rw2 wh q.1 (one q.2++cs)).2.map hd0]++ [],(rw2 wh q.1 (one q.2++cs)).1)=_
 rw [thr_acc]
 rfl
def bg (rss:List Rl) (cs:List Cell):List (List Wd)×List Cell:=thr false (rss.map fun r=>(r,[])) cs
theorem wA (r:Rl) (rss:List Rl) (cs:List Cell):bg (r::rss) cs=((rw2 false r cs).2.map hd0::(bg rss (rw2 false r cs).1).1,(bg rss (rw2 false r cs).1).2):=by
 unfold bg
 rw [List.map_cons,gK]
 rfl
theorem aAR:∀(rss:List Rl) (cs x:List Cell),(bg rss cs).2++(thr true (rss.zip (bg rss cs).1) x).2=aAf rss (cs++x)
 | [],cs,x=>rfl
 | r::rss,cs,x=>by
  rw [wA,List.zip_cons_cons,gK]
  dsimp only
  rw [yG (uX r cs),fY,aAR rss]
  show _=aAf rss (rw1 r (cs++x))
  exact congrArg (aAf rss) (rw1_app r cs x).symm
theorem aAQ:∀rss:List Rl,bg rss []=(rss.map fun _=> [],[])
 | []=>rfl
 | r::rss=>by
  rw [wA]
  have e:rw2 false r []=([],[]):=rfl
  rw [e]
  show (_::(bg rss []).1,(bg rss []).2)=_
  rw [aAQ rss]
  rfl
end DL
namespace DL
open PySem PySem.Spec PyProof.Rows L2
end DL
namespace DL
open PySem PySem.Spec PyProof.Rows L2
abbrev Pd:=List (List Wd)
structure RowC where
 p:Pd
 q:Pd
 a:List Cell
 b:List Cell
deriving DecidableEq
def bH (r:RowC):D:= .tup [dC r.p,dC r.q,dC r.a,dC r.b]
def cpl:List Cell→List Cell→Nat
 | x::xs,y::ys=>if x=y then cpl xs ys+1 else 0
 | _,_=>0
theorem cpl_drop:∀(xs ys f g:List Cell),xs++f=ys++g→xs.drop (cpl xs ys)++f=ys.drop (cpl xs ys)++g∧(xs.drop (cpl xs ys)= []∨ys.drop (cpl xs ys)= [])
 | [],ys,f,g,h=>by unfold cpl;exact ⟨h,.inl rfl⟩
 | x::xs,[],f,g,h=>by unfold cpl;exact ⟨h,.inr rfl⟩
 | x::xs,y::ys,f,g,h=>by
  injection h with h1 h2
  subst h1
  unfold cpl
  rw [if_pos rfl]
  exact cpl_drop xs ys f g h2
theorem cpl_back:∀(xs ys f g:List Cell),xs.drop (cpl xs ys)++f=ys.drop (cpl xs ys)++g→xs++f=ys++g
 | [],ys,f,g,h=>by unfold cpl at h;exact h
 | x::xs,[],f,g,h=>by unfold cpl at h;exact h
 | x::xs,y::ys,f,g,h=>by
  unfold cpl at h
  by_cases e:x=y
  ·rw [if_pos e] at h
   subst e
   rw [List.cons_append,List.cons_append,cpl_back xs ys f g h]
  ·rw [if_neg e] at h
   exact h
theorem cpl_self:∀xs:List Cell,cpl xs xs=xs.length
 | []=>rfl
 | x::xs=>by unfold cpl;rw [if_pos rfl,cpl_self xs];rfl
section
variable (r1 r2:List Rl)
def dZ (r:RowC) (w:Wd):RowC:=
 ⟨(thr false (r1.zip r.p) [[w]]).1,(thr false (r2.zip r.q) [[w]]).1,
  (r.a++(thr false (r1.zip r.p) [[w]]).2).drop (cpl (r.a++(thr false (r1.zip r.p) [[w]]).2) (r.b++(thr false (r2.zip r.q) [[w]]).2)),
  (r.b++(thr false (r2.zip r.q) [[w]]).2).drop (cpl (r.a++(thr false (r1.zip r.p) [[w]]).2) (r.b++(thr false (r2.zip r.q) [[w]]).2))⟩
def mF (r:RowC):Bool:=decide (r.a++(thr true (r1.zip r.p) []).2=r.b++(thr true (r2.zip r.q) []).2)
def aAg:RowC:=⟨r1.map fun _=> [],r2.map fun _=> [],[],[]⟩
def xN (row:RowC) (text:List Wd):List Wd→List (RowC×List Wd)→List Wd ⊕ List (RowC×List Wd)
 | [],ts=> .inr ts
 | w::ws,ts=>if mF r1 r2 (dZ r1 r2 row w)=true then xN row text ws (if (ts.map (·.1)).contains (dZ r1 r2 row w) then ts else ts++ [(dZ r1 r2 row w,text++ [w])]) else .inl (text++ [w])
def zR (al:List Wd):Nat→Nat→List (RowC×List Wd)→List Wd ⊕ List (RowC×List Wd)
 | 0,_,ts=> .inr ts
 | n+1,k,ts=>match ts[k]? with
  | none=> .inr ts
  | some x=>match xN r1 r2 x.1 x.2 al ts with
   | .inl t=> .inl t
   | .inr ts'=>zR al n (k+1) ts'
end
def pfx (rs:Rl):List (List Wd):= []::rs.flatMap fun r=> [r.1.take 1,r.1.take 2]
theorem pfx_len (rs:Rl):(pfx rs).length=1+2*rs.length:=by
 unfold pfx
 rw [List.length_cons,List.length_flatMap]
 have:(rs.map fun r=>([r.1.take 1,r.1.take 2]:List (List Wd)).length).sum=2*rs.length:=by
  induction rs with
  | nil=>rfl
  | cons r rs ih=>
   rw [List.map_cons,List.sum_cons,ih]
   show 2+2*rs.length=2*(rs.length+1)
   omega
 rw [this]
 omega
theorem left_pfx (rs:Rl) (cs:List Cell):(rw2 false rs cs).2.map hd0∈pfx rs:=by
 have hs:=rwG_stop (rs:=rs) (cs:=cs) cs.length 0 (Nat.zero_le _) (by omega)
 unfold rw2
 generalize (rwG false rs cs cs.length 0).2=b at hs ⊢
 have hs0:goes false rs (cs.drop b) 0=false:=by rw [←nH];exact hs
 show (cs.drop b).map hd0∈pfx rs
 by_cases h0:0 < (cs.drop b).length
 ·unfold goes at hs0
  rw [decide_eq_true h0] at hs0
  have hw:wait rs (cs.drop b) 0=true:=by simpa using hs0
  obtain ⟨h3,h1,r,hr,hn,ht⟩:=wait_ex hw
  rw [←ht]
  refine List.mem_cons_of_mem _ (List.mem_flatMap.mpr ⟨r,hr,?_⟩)
  generalize (cs.drop b).length=n at h0 h3
  match n,h0,h3 with
  | 1,_,_=>exact List.mem_cons_self
  | 2,_,_=>exact List.mem_cons_of_mem _ List.mem_cons_self
 ·have:cs.drop b= []:=List.length_eq_zero_iff.mp (by omega)
  rw [this]
  exact List.mem_cons_self
def tW:List Rl→List Pd
 | []=> [[]]
 | rs::rss=>(pfx rs).flatMap fun x=>(tW rss).map (x:: ·)
theorem iY {α β:Type} (f:α→List β) (n:Nat):∀xs:List α,(∀x∈xs,(f x).length=n)→(xs.flatMap f).length=xs.length*n
 | [],_=>by simp
 | x::xs,h=>by
  rw [List.flatMap_cons,List.length_append,h x List.mem_cons_self,iY f n xs fun y hy=>h y (List.mem_cons_of_mem _ hy),List.length_cons,Nat.add_mul,Nat.one_mul,Nat.add_comm]
theorem uL:∀rss:List Rl,(∀rs∈rss,rs.length≤6)→(tW rss).length≤13 ^ rss.length
 | [],_=>by decide
 | rs::rss,h=>by
  have ih:=uL rss fun r hr=>h r (List.mem_cons_of_mem _ hr)
  have h0:=h rs List.mem_cons_self
  unfold tW
  rw [iY _ (tW rss).length _ (fun x _=>List.length_map ..),pfx_len,List.length_cons,Nat.pow_succ,Nat.mul_comm (13 ^ rss.length)]
  exact Nat.mul_le_mul (by omega) ih
theorem oM:∀(rss:List Rl) (ps:Pd) (cs:List Cell),ps.length=rss.length→(thr false (rss.zip ps) cs).1∈tW rss
 | [],ps,cs,_=>by
  rw [List.zip_nil_left]
  exact List.mem_cons_self
 | rs::rss,[],cs,h=>by cases h
 | rs::rss,p::ps,cs,h=>by
  rw [List.zip_cons_cons,gK]
  exact List.mem_flatMap.mpr ⟨_,left_pfx rs _,List.mem_map.mpr ⟨_,oM rss ps _ (by simpa using h),rfl⟩⟩
theorem vK:∀rss:List Rl,(rss.map fun _=>([]:List Wd))∈tW rss
 | []=>List.mem_cons_self
 | rs::rss=>List.mem_flatMap.mpr ⟨[],List.mem_cons_self,List.mem_map.mpr ⟨_,vK rss,rfl⟩⟩
theorem gH:∀{rss:List Rl} {p:Pd},p∈tW rss→p.length=rss.length∧∀x∈p,x.length≤2
 | [],p,h=>by
  rw [List.mem_singleton.mp h]
  exact ⟨rfl,fun x hx=>nomatch hx⟩
 | rs::rss,p,h=>by
  obtain ⟨x,hx,hp⟩:=List.mem_flatMap.mp h
  obtain ⟨p',hp',rfl⟩:=List.mem_map.mp hp
  obtain ⟨h1,h2⟩:=gH hp'
  refine ⟨by rw [List.length_cons,List.length_cons,h1],fun y hy=> ?_⟩
  rcases List.mem_cons.mp hy with rfl | hy
  ·rcases List.mem_cons.mp hx with rfl | hx
   ·exact Nat.zero_le _
   ·obtain ⟨r,_,hy⟩:=List.mem_flatMap.mp hx
    rcases List.mem_cons.mp hy with rfl | hy
    ·exact Nat.le_trans (List.length_take_le ..) (by decide)
    ·rw [List.mem_singleton.mp hy];exact List.length_take_le ..
  ·exact h2 y hy
structure RowOk (r1 r2:List Rl) (r:RowC):Prop where
 p:r.p∈tW r1
 q:r.q∈tW r2
 one:r.a= []∨r.b= []
 same:mF r1 r2 r=true
theorem xZ (r1 r2:List Rl):RowOk r1 r2 (aAg r1 r2):=by
 refine ⟨vK r1,vK r2,.inl rfl,decide_eq_true ?_⟩
 have key:∀rss:List Rl,(thr true (rss.zip (rss.map fun _=>([]:List Wd))) []).2= []:=by
  intro rss
  induction rss with
  | nil=>rfl
  | cons r rss ih=>
   rw [List.map_cons,List.zip_cons_cons,gK]
   have e:rw2 true r (DL.one []++ [])=([],[]):=rfl
   dsimp only
   rw [e]
   exact ih
 show []++(thr true (r1.zip (r1.map fun _=> [])) []).2= []++(thr true (r2.zip (r2.map fun _=> [])) []).2
 rw [key,key]
theorem step_ok {r1 r2:List Rl} {r:RowC} (h:RowOk r1 r2 r) (w:Wd) (hs:mF r1 r2 (dZ r1 r2 r w)=true):RowOk r1 r2 (dZ r1 r2 r w):=by
 refine ⟨oM r1 _ _ (gH h.p).1,oM r2 _ _ (gH h.q).1,?_,hs⟩
 have e:=of_decide_eq_true hs
 have e2:=cpl_back _ _ _ _ e
 exact (cpl_drop _ _ _ _ e2).2
theorem RowOk.inj {r1 r2:List Rl} {r s:RowC} (h:RowOk r1 r2 r) (k:RowOk r1 r2 s) (ep:r.p=s.p) (eq:r.q=s.q):r=s:=by
 obtain ⟨p,q,a,b⟩:=r
 obtain ⟨p',q',a',b'⟩:=s
 cases ep
 cases eq
 have h1:=of_decide_eq_true h.same
 have h2:=of_decide_eq_true k.same
 have h3:=h.one
 have h4:=k.one
 dsimp only at h1 h2 h3 h4
 generalize (thr true (r1.zip p) []).2=f at h1 h2
 generalize (thr true (r2.zip q) []).2=g at h1 h2
 have l1:=congrArg List.length h1
 have l2:=congrArg List.length h2
 simp only [List.length_append] at l1 l2
 rcases h3 with rfl | rfl <;> rcases h4 with rfl | rfl
 ·have:b=b':=by
   rw [List.nil_append] at h1 h2
   rw [h1] at h2
   exact List.append_cancel_right h2
  rw [this]
 ·have e1:b= []:=List.length_eq_zero_iff.mp (by simp at l1 l2;omega)
  have e2:a'= []:=List.length_eq_zero_iff.mp (by simp at l1 l2;omega)
  rw [e1,e2]
 ·have e1:a= []:=List.length_eq_zero_iff.mp (by simp at l1 l2;omega)
  have e2:b'= []:=List.length_eq_zero_iff.mp (by simp at l1 l2;omega)
  rw [e1,e2]
 ·have:a=a':=by
   rw [List.nil_append] at h1 h2
   rw [←h2] at h1
   exact List.append_cancel_right h1
  rw [this]
theorem iH {α:Type} [DecidableEq α]:∀{xs ys:List α},xs.Nodup→(∀x∈xs,x∈ys)→xs.length≤ys.length
 | [],_,_,_=>Nat.zero_le _
 | x::xs,ys,hn,h=>by
  obtain ⟨n1,n2⟩:=List.nodup_cons.mp hn
  have hx:=h x List.mem_cons_self
  have:=iH (xs:=xs) (ys:=ys.erase x) n2 fun y hy=>(List.mem_erase_of_ne (show y≠x from fun e=>n1 (by rw [←e];exact hy))).mpr (h y (List.mem_cons_of_mem _ hy))
  rw [List.length_erase_of_mem hx] at this
  have:0 < ys.length:=List.length_pos_of_mem hx
  rw [List.length_cons]
  omega
theorem xY {r1 r2:List Rl} (h1:∀rs∈r1,rs.length≤6) (h2:∀rs∈r2,rs.length≤6) (l1:r1.length≤2) (l2:r2.length≤2) {rows:List RowC} (hn:rows.Nodup) (h:∀r∈rows,RowOk r1 r2 r):rows.length≤28561:=by
 have e:(rows.map fun r=>(r.p,r.q)).Nodup:=by
  refine List.pairwise_map.mpr (List.Pairwise.imp_of_mem (fun {a b} ha hb hab=> ?_) hn)
  intro z
  injection z with z1 z2
  exact hab ((h a ha).inj (h b hb) z1 z2)
 have:=iH (ys:=(tW r1).flatMap fun p=>(tW r2).map fun q=>(p,q)) e fun x hx=>by
  obtain ⟨r,hr,rfl⟩:=List.mem_map.mp hx
  exact List.mem_flatMap.mpr ⟨r.p,(h r hr).p,List.mem_map.mpr ⟨r.q,(h r hr).q,rfl⟩⟩
 rw [List.length_map,iY _ (tW r2).length _ (fun x _=>List.length_map ..)] at this
 have a1:=uL r1 h1
 have a2:=uL r2 h2
 have b1:13 ^ r1.length≤13 ^ 2:=Nat.pow_le_pow_right (by decide) l1
 have b2:13 ^ r2.length≤13 ^ 2:=Nat.pow_le_pow_right (by decide) l2
 have:=Nat.mul_le_mul (Nat.le_trans a1 b1) (Nat.le_trans a2 b2)
 omega
end DL
namespace DL
open PySem PySem.Spec PyProof.Rows L2
structure RuN (rs:Rl):Prop where
 len:rs.length≤6
 key:∀r∈rs,kyD (dW r.1)=true
 cel:∀r∈rs,csD (dC r.2)=true
 nd:(rs.map (·.1)).Nodup
theorem RuN.ne {rs:Rl} (h:RuN rs):∀r∈rs,r.1≠ []:=fun r hr e=>by
 have:=(qI (h.key r hr)).2.1
 rw [e] at this
 exact absurd this (by decide)
theorem RuOk.n {rs:Rl} (h:RuOk rs):RuN rs:=⟨h.len,h.key,h.cel,riseK_nodup h.up⟩
theorem RuN.srt {rs:Rl} (h:RuN rs):RuOk (DL.srt rs):=
 ⟨by rw [(bB rs).length_eq];exact h.len,fun r hr=>h.key r ((bB rs).mem_iff.mp hr),fun r hr=>h.cel r ((bB rs).mem_iff.mp hr),uM h.nd⟩
theorem RuN.r2 {rs:Rl} (h:RuN rs):RL2 rs:=fun r hr=>(vX (h.cel r hr)).1
end DL
namespace DL
open PySem PySem.Spec PyProof.Rows L2
section
variable {X:Cx} {pins:List (Addr×Obj)} {σ:L2.St} {H:Hp} {s:Shared} {Z:Fz}
mutual
theorem Rep.nst (I:Inv X pins σ H s):∀(d:D) (v:V) (u:Value),okN d=true→Rep X.K Z H v d→RelV v u→NestedIs s.heap (nk d) u
 | .non,_,u,_,r,ru=>by
  rw [r.nonE] at ru
  cases (show u=Value.none from ru)
  rw [nk]
  exact .none
 | .bl b,_,u,_,r,ru=>by
  rw [r.blE] at ru
  cases (show u=Value.bool b from ru)
  rw [nk]
  exact .bool rfl
 | .int i,_,u,_,r,ru=>by
  rw [r.intE] at ru
  obtain ⟨t,rfl⟩:=ru
  rw [nk]
  exact .int i t
 | .str x,_,u,_,r,ru=>by
  rw [r.strE] at ru
  obtain ⟨t,rfl⟩:=ru
  rw [nk]
  exact .text x t
 | .tup ds,_,u,h,r,ru=>by
  obtain ⟨a,vs,rfl,ha,ra⟩:=r.tupE
  cases (show u=Value.ref a from ru)
  rw [okN] at h
  obtain ⟨its,rv,⟨o,ho,hc,n,hd⟩,_⟩:=I.tuple (SqT.of ha)
  rw [nk]
  exact .tup ho hc hd (by simpa using aZ.nst I ds vs its h ra rv)
 | .ty _,_,_,h,_,_=>by simp [okN] at h
 | .ptr _,_,_,h,_,_=>by simp [okN] at h
 | .ilst _,_,_,h,_,_=>by simp [okN] at h
 | .obj _ _,_,_,h,_,_=>by simp [okN] at h
 | .flst _,_,_,h,_,_=>by simp [okN] at h
 | .fdct _,_,_,h,_,_=>by simp [okN] at h
 | .kdct _,_,_,h,_,_=>by simp [okN] at h
 | .wds _,_,_,h,_,_=>by simp [okN] at h
 | .iob _ _,_,_,h,_,_=>by simp [okN] at h
 | .tk ds,_,u,h,r,ru=>by
  obtain ⟨a,vs,rfl,ha,ra,_⟩:=r.tkE
  cases (show u=Value.ref a from ru)
  rw [okN] at h
  obtain ⟨its,rv,⟨o,ho,hc,n,hd⟩,_⟩:=I.tuple ha.sq
  rw [nk]
  exact .tup ho hc hd (by simpa using aZ.nst I ds vs its h ra rv)
theorem aZ.nst (I:Inv X pins σ H s):∀(ds:List D) (vs:List V) (us:List Value),aAi ds=true→aZ X.K Z H vs ds→Vals vs us→NestedAll s.heap (nks ds) us
 | [],_,_,_,.nil,.nil=>by rw [nks];exact .nil
 | d::ds,_,_,h,.cons r t,.cons ru tu=>by
  rw [aAi,Bool.and_eq_true] at h
  rw [nks]
  exact .cons (Rep.nst I d _ _ h.1 r ru) (aZ.nst I ds _ _ h.2 t tu)
end
end
def aAH (kds:List (D×D)) (k:D):Option D:=(kds.find? fun x=>decide (nk x.1=nk k)).map (·.2)
def uA (kds:List (D×D)) (k d:D):List (D×D):=if (aAH kds k).isSome=true then kds.map fun x=>if nk x.1=nk k then (x.1,d) else x else kds++ [(k,d)]
abbrev EnR (K:PySem.W.Frag) (F:Fz) (H:Hp) (x:NestedKey×Addr×Value) (q:D×D):Prop:=x.1=nk q.1∧okN q.1=true∧(nk q.1).depth≤8∧Rep K F H (.ref x.2.1) q.1∧∃v,RelV v x.2.2∧Rep K F H v q.2
theorem zM {K:PySem.W.Frag} {F:Fz} {H:Hp} (k:D):∀{xs:List (NestedKey×Addr×Value)} {kds:List (D×D)},Paired (EnR K F H) xs kds→
  (atKey xs (nk k)=none∧aAH kds k=none)∨∃p d v,atKey xs (nk k)=some p∧aAH kds k=some d∧RelV v p.2∧Rep K F H v d
 | _,_,.nil=> .inl ⟨rfl,rfl⟩
 | _,_,.cons (a:=x) (b:=q) r t=>by
  obtain ⟨e,_,_,_,v,rv,rd⟩:=r
  unfold atKey aAH
  rw [List.find?_cons,List.find?_cons,e]
  by_cases h:nk q.1=nk k
  ·rw [decide_eq_true h]
   exact .inr ⟨x.2,q.2,v,rfl,rfl,rv,rd⟩
  ·rw [decide_eq_false h]
   exact zM k t
theorem enr_put {K:PySem.W.Frag} {F:Fz} {H:Hp} {k d:D} {b:Addr} {v:V} {u:Value} (hk:okN k=true) (h8:(nk k).depth≤8) (rk:Rep K F H (.ref b) k) (rv:RelV v u) (rd:Rep K F H v d) {xs:List (NestedKey×Addr×Value)} {kds:List (D×D)} (h:Paired (EnR K F H) xs kds):
  Paired (EnR K F H) (storedH xs (nk k) b u) (uA kds k d):=by
 have key:∀{xs:List (NestedKey×Addr×Value)} {kds:List (D×D)},Paired (EnR K F H) xs kds→Paired (EnR K F H) (xs.map (putAt (nk k) u)) (kds.map fun x=>if nk x.1=nk k then (x.1,d) else x):=by
  intro xs kds h
  induction h with
  | nil=>exact .nil
  | @cons x q xs kds r t ih=>
   refine .cons ?_ ih
   obtain ⟨e,h1,h2,h3,h4⟩:=r
   by_cases h:nk q.1=nk k
   ·have e1:putAt (nk k) u x=(x.1,x.2.1,u):=by unfold putAt;rw [if_pos (e.trans h)]
    have e2:(if nk q.1=nk k then (q.1,d) else q)=(q.1,d):=if_pos h
    show EnR K F H (putAt (nk k) u x) (if nk q.1=nk k then (q.1,d) else q)
    rw [e1,e2]
    exact ⟨e,h1,h2,h3,v,rv,rd⟩
   ·have e1:putAt (nk k) u x=x:=by unfold putAt;rw [if_neg (fun z=>h (e.symm.trans z))]
    have e2:(if nk q.1=nk k then (q.1,d) else q)=q:=if_neg h
    show EnR K F H (putAt (nk k) u x) (if nk q.1=nk k then (q.1,d) else q)
    rw [e1,e2]
    exact ⟨e,h1,h2,h3,h4⟩
 have app:∀{xs:List (NestedKey×Addr×Value)} {kds:List (D×D)},Paired (EnR K F H) xs kds→Paired (EnR K F H) (xs++ [(nk k,b,u)]) (kds++ [(k,d)]):=by
  intro xs kds h
  induction h with
  | nil=>exact .cons ⟨rfl,hk,h8,rk,v,rv,rd⟩ .nil
  | cons r t ih=>exact .cons r ih
 unfold storedH uA
 rcases zM k h with ⟨e1,e2⟩ | ⟨p,d',v',e1,e2,_⟩
 ·rw [e1,e2]
  exact app h
 ·rw [e1,e2]
  exact key h
theorem ndPut_len (kds:List (D×D)) (k d:D):(uA kds k d).length≤kds.length+1:=by
 unfold uA
 split
 ·rw [List.length_map];omega
 ·rw [List.length_append];exact Nat.le_refl _
section
variable {C:DL.Ctx} {Γ:Gm} {L:Lp} {Q:D→Lp→Prop} {pos:Pos} {kds:List (D×D)} {a:Addr} {k d:D} {Z:Fz} {H:Hp} {pins:List (Addr×Obj)} {σ:L2.St} {s:Shared}
theorem tE {xs:List (NestedKey×Addr×Value)} (I:Inv C.X pins σ H s) (e:H a=some (ndO C.X.prog C.X.w a xs)) (r:Paired (EnR C.X.K Z H) xs kds):
  xs.length≤sizeLine∧(a==sysModules)=false∧s.heap.DictOfH (nestedKind C.X.prog C.X.w) a xs:=by
 obtain ⟨⟨h1,h2,o,es,ep,g1,g2,g3,g4,g5⟩,_⟩:=I.hok a _ e
 refine ⟨h1,h2,o,es,ep,g1,g2,g3,g4,fun x hx=> ?_,g5⟩
 have key:∀{xs:List (NestedKey×Addr×Value)} {kds:List (D×D)},Paired (EnR C.X.K Z H) xs kds→∀x∈xs,(nestedKind C.X.prog C.X.w).is s.heap x.1 x.2.1:=by
  intro xs kds h
  induction h with
  | nil=>exact fun x hx=>nomatch hx
  | cons r t ih=>
   intro x hx
   rcases List.mem_cons.mp hx with rfl | hx
   ·obtain ⟨e,h1,h2,h3,_⟩:=r
    rw [e]
    exact ⟨Rep.nst I _ _ _ h1 h3 rfl,h2⟩
   ·exact ih x hx
 exact key r x hx
theorem aBp {P:Program} {w:World} {H':Hp} {h':Heap} {xs:List (NestedKey×Addr×Value)} (hz:xs.length≤sizeLine) (hd:(a==sysModules)=false) (h:h'.DictOfH (nestedKind P w) a xs):ObjOk P w H' h' a (ndO P w a xs):=by
 obtain ⟨o,es,ep,g1,g2,g3,g4,g5,g6⟩:=h
 refine ⟨⟨hz,hd,o,es,ep,g1,g2,g3,g4,g6⟩,⟨o,g1⟩,fun h1 h2 z kk=> ?_⟩
 obtain ⟨z1,z2,o',es',ep',k1,k2,k3,k4,k5⟩:=z
 exact ⟨z1,z2,o',es',ep',kk _ k1,k2,k3,k4,k5⟩
theorem aAX (hu:C.X.A.units+16 < cLine):(nestedKind C.X.prog C.X.w).room C.X.A.in1:=by
 show C.X.A.in1.units+8 < cLine
 have:C.X.A.in1.units≤C.X.A.units+1:=Nat.le_refl _
 omega
theorem yX {v:V} {u:Value} (hk:∃es,k= .tup es) (r:Rep C.X.K Z H v k) (ru:RelV v u):∃b,v= .ref b∧u= .ref b:=by
 obtain ⟨es,rfl⟩:=hk
 obtain ⟨b,vs,rfl,_⟩:=r.tupE
 exact ⟨b,rfl,ru⟩
theorem j_ninN (hu:C.X.A.units+16 < cLine) (ha:L a=some (.nd kds)) (ht:∃es,k= .tup es) (hk:okN k=true) (h8:(nk k).depth≤8) (q:Q (.bl (!(aAH kds k).isSome)) L):OpJ C (.cmp .NotIn) Γ k (.ptr a) L Q:=⟨fun Z σ H ok vx vy rx ry QV go pins s v u I r1 r2=>by
 obtain ⟨xs,e,rr⟩:=ok.con.at_ a _ ha
 obtain ⟨b,rfl,rfl⟩:=yX ht rx r1
 rw [ry.ptrE] at r2
 cases (show u=Value.ref a from r2)
 obtain ⟨hz,hd,hm⟩:=tE I e rr
 have e2:(atKey xs (nk k)).isSome=(aAH kds k).isSome:=by
  rcases zM k rr with ⟨e1,e2⟩ | ⟨p,d,v,e1,e2,_⟩ <;> rw [e1,e2] <;> rfl
 rw [←e2] at q
 refine notIn_keyed (kvs:=pairsH xs) (aAX hu) ⟨Rep.nst I _ _ _ hk rx rfl,h8⟩ hd ⟨xs,hm,rfl⟩ ?_
 rw [valueAt_pairsH,Option.isSome_map]
 exact ⟨.bl _,H,I.tok _,rfl,go _ _ H L (.bl _) ok.con (.refl L H) q⟩⟩
theorem sb_N {va sl:Expr} (hu:C.X.A.units+16 < cLine) (ha:L a=some (.nd kds)) (ht:∃es,k= .tup es) (hk:okN k=true) (h8:(nk k).depth≤8) (hd:aAH kds k=some d) (q:Q d L) (hs:PlainIx sl):SbJ C va sl Γ (.ptr a) k L Q:=⟨fun Z σ H ok vx vy rx ry QV go pins s v u I r1 r2=>by
 obtain ⟨xs,e,rr⟩:=ok.con.at_ a _ ha
 obtain ⟨b,rfl,rfl⟩:=yX ht ry r2
 rw [rx.ptrE] at r1
 cases (show v=Value.ref a from r1)
 obtain ⟨hz,hd2,hm⟩:=tE I e rr
 rcases zM k rr with ⟨e1,e2⟩ | ⟨p,d',v',e1,e2,rv,rd⟩
 ·rw [hd] at e2;cases e2
 ·rw [hd] at e2
  cases e2
  exact tail_any hm.typeIs slot_dict_getitem.lookup (wpAny_getItem_heap (aAX hu) ⟨Rep.nst I _ _ _ hk ry rfl,h8⟩ hm e1 ⟨v',H,I.tok _,rv,go _ _ H L rd ok.con (.refl L H) q⟩) (hs _ _)⟩
theorem st_N {QL:Lp→Prop} (hu:C.X.A.units+16 < cLine) (ha:L a=some (.nd kds)) (ht:∃es,k= .tup es) (hk:okN k=true) (h8:(nk k).depth≤8) (hz:kds.length < sizeLine) (q:QL (put L a (.nd (uA kds k d)))):StJ C Γ (.ptr a) k d L QL:=⟨fun Z σ H ok vx vi vv rx ri rv QV go pins s ux ui uv I r1 r2 r3=>by
 obtain ⟨xs,e,rr⟩:=ok.con.at_ a _ ha
 obtain ⟨b,rfl,rfl⟩:=yX ht ri r2
 rw [rx.ptrE] at r1
 cases (show ux=Value.ref a from r1)
 obtain ⟨hz1,hd,hm⟩:=tE I e rr
 have hl:xs.length=kds.length:=Paired.length rr
 refine wpAny_setItem_heap (hsz:=by omega) (aAX hu) ⟨Rep.nst I _ _ _ hk ri rfl,h8⟩ hm fun h' hm' hs=> ?_
 have rr2:=enr_put hk h8 ri r3 rv rr
 have hl2:(storedH xs (nk k) b uv).length≤sizeLine:=by
  rw [Paired.length rr2]
  have:=ndPut_len kds k d
  omega
 have hx:∃q,h'.get? a=some q:=let ⟨o,_,_,ho,_⟩:=hm';⟨o,ho⟩
 have I2:=d_write (ob:=ndO C.X.prog C.X.w a (storedH xs (nk k) b uv)) (t':=s.toks+(nestedKind C.X.prog C.X.w).draws (nk k)) I (by rw [e];exact True.intro) hs hx (aBp hl2 hd hm')
 have f2:Fr L Z H (put L a (.nd (uA kds k d))) Z (upd H a (ndO C.X.prog C.X.w a (storedH xs (nk k) b uv))):=Fr.write ok.con ha
 refine ⟨_,I2,go _ (put L a (.nd (uA kds k d))) (ok.con.write (mo':= .nd (uA kds k d)) ha ⟨_,upd_same,Paired.mono rr2 fun p q ⟨z1,z2,z3,z4,v,z5,z6⟩=>⟨z1,z2,z3,z4.mono f2.mv,v,z5,z6.mono f2.mv⟩⟩) f2 q⟩⟩
end
end DL
namespace DL
open PySem PySem.Spec PyProof.Rows L2
mutual
theorem xF:∀d:D,okD d=true→okN d=true
 | .non,_=>by rw [okN]
 | .bl _,_=>by rw [okN]
 | .int _,_=>by rw [okN]
 | .str _,_=>by rw [okN]
 | .tup ds,h=>by rw [okN];rw [okD] at h;exact okNs_of ds h
 | .ty _,h=>by simp [okD] at h
 | .ptr _,h=>by simp [okD] at h
 | .ilst _,h=>by simp [okD] at h
 | .obj _ _,h=>by simp [okD] at h
 | .flst _,h=>by simp [okD] at h
 | .fdct _,h=>by simp [okD] at h
 | .kdct _,h=>by simp [okD] at h
 | .wds _,h=>by simp [okD] at h
 | .iob _ _,h=>by simp [okD] at h
 | .tk _,h=>by simp [okD] at h
theorem okNs_of:∀ds:List D,gA ds=true→aAi ds=true
 | [],_=>by rw [aAi]
 | d::ds,h=>by
  rw [gA,Bool.and_eq_true] at h
  rw [aAi,xF d h.1,okNs_of ds h.2]
  rfl
end
section
variable {C:DL.Ctx} {Γ:Gm} {L:Lp} {Q:D→Lp→Prop} {pos:Pos} {kds:List (D×D)} {a:Addr} {k d:D} {ke ve:Expr}
theorem dict_one {prog:Program} {w:World} {A:Around} {E:Value→Shared→Prop} {s:Shared} {env:Env} {Qv:Value→Shared→Prop} (hu:(nestedKind prog w).room A)
  (h:wpAny (model prog w) A (evalPairs [(eval ke env,do let x ←eval ve env;standAt pos;pure x)]) (fun vs s₁=> ∃ps,CarriesH (nestedKind prog w) s₁.heap vs ps∧s₁.heap.DictOfH (nestedKind prog w) s.heap.objs.size []∧
   ∀h' tk,h'.DictOfH (nestedKind prog w) s.heap.objs.size (storedAllH [] ps)→Heap.SameBut s.heap.objs.size s₁.heap h'→Qv (.ref s.heap.objs.size) {s₁ with heap:=h',toks:=tk}) E
   {s with heap:=s.heap.push {cls:= .type "dict",data:= .dict #[]}}) (hs:(evalEachOpt [some ke] env).zip ((evalEach [ve] env).map fun v=>do let x ←v;standAt pos;pure x)= [(some (eval ke env),do let x ←eval ve env;standAt pos;pure x)]:=by rfl):
  wpAny (model prog w) A (eval (.Dict [some ke] [ve] pos) env) Qv E s:=by
 have e:=dictDisplay_pairs [(eval ke env,(do let x ←eval ve env;standAt pos;pure x:Sem Value))] (by simp) (by show 1 < 17;decide)
 rw [arm_eval_Dict,hs]
 rw [show ([(some (eval ke env),(do let x ←eval ve env;standAt pos;pure x:Sem Value))]:List (Option (Sem Value)×Sem Value))= [(eval ke env,(do let x ←eval ve env;standAt pos;pure x:Sem Value))].map (fun p=>(some p.1,p.2)) from rfl,e]
 refine wpAny_bind (wpAny_standAt (wpAny_bind (wpAny_subDictH (knd:=nestedKind prog w) hu (by show 1≤15;decide) (wpAny_mono h (fun vs s₁ ⟨ps,hc,hm,hq⟩=>⟨ps,hc,hm,fun h' tk z1 z2=>wpAny_pure (hq h' tk z1 z2)⟩) fun _ _ x=>x))))
theorem ae_nd1 (hu:C.X.A.units+16 < cLine) (h:AE C ke Γ L fun k L1=>AE C ve Γ L1 fun d L2=>(∃es,k= .tup es)∧okN k=true∧(nk k).depth≤8∧∀p,L2 p=none→Q (.ptr p) (put L2 p (.nd [(k,d)])))
  (hs:(evalEachOpt [some ke] C.X.env).zip ((evalEach [ve] C.X.env).map fun v=>do let x ←v;standAt pos;pure x)= [(some (eval ke C.X.env),do let x ←eval ve C.X.env;standAt pos;pure x)]:=by rfl):AE C (.Dict [some ke] [ve] pos) Γ L Q:=fun Z σ H ok QV go=>⟨fun pins s I=>by
 have hn:H s.heap.objs.size=none:=I.hok.fresh (Nat.le_refl _)
 have hd:(s.heap.objs.size==sysModules)=false:=beq_eq_false_iff_ne.mpr (Ne.symm (Nat.ne_of_lt I.big))
 have I1:Inv C.X pins σ (upd H s.heap.objs.size (ndO C.X.prog C.X.w s.heap.objs.size [])) {s with heap:=s.heap.push {cls:= .type "dict",data:= .dict #[]},toks:=s.toks}:=I.laid (fun _ _ q=>Heap.get?_push_of_some _ q) (Nat.le_refl _) (aBp (Nat.zero_le _) hd (Heap.DictOfH.new s.heap))
 refine dict_one (aAX (C:=C) hu |> fun z=>by
  have:C.X.A.units+8 < cLine:=by omega
  exact this) ?_ hs
 have ok1:Ok C Γ L Z σ (upd H s.heap.objs.size (ndO C.X.prog C.X.w s.heap.objs.size [])):=ok.step (ok.con.new hn) (.new hn)
 refine evalPairs_cons (thn ((h Z σ _ ok1 (fun v G=> ∃k L1 Z1,Rep C.X.K Z1 G v k∧C.Con L1 Z1 G∧Fr L Z (upd H s.heap.objs.size (ndO C.X.prog C.X.w s.heap.objs.size [])) L1 Z1 G∧AE C ve Γ L1 fun d L2=>(∃es,k= .tup es)∧okN k=true∧(nk k).depth≤8∧∀p,L2 p=none→Q (.ptr p) (put L2 p (.nd [(k,d)]))) fun v d H' L' r c f q=>⟨d,L',_,r,c,f,q⟩).run pins _ I1) fun u1 s1 ⟨v1,G1,J1,r1,k,L1,Z1,rk,c1,f1,q1⟩=> ?_)
 refine wpAny_bind (thn ((q1 Z1 σ G1 (ok1.step c1 f1) (fun v G=> ∃d L2 Z2,Rep C.X.K Z2 G v d∧C.Con L2 Z2 G∧Fr L1 Z1 G1 L2 Z2 G∧(∃es,k= .tup es)∧okN k=true∧(nk k).depth≤8∧∀p,L2 p=none→Q (.ptr p) (put L2 p (.nd [(k,d)]))) fun v d H' L' r c f q=>⟨d,L',_,r,c,f,q⟩).run pins _ J1) fun u2 s2 ⟨v2,G2,J2,r2,d,L2,Z2,rd,c2,f2,ht,hk,h8,q2⟩=> ?_)
 refine wpAny_bind (wpAny_standAt (wpAny_pure (evalPairs_nil ?_)))
 have rk2:=rk.mono f2.mv
 obtain ⟨b,rfl,rfl⟩:=yX ht rk2 r1
 have e2:G2 s.heap.objs.size=some (ndO C.X.prog C.X.w s.heap.objs.size []):=by
  have nL:L s.heap.objs.size=none:=ok.con.free hn
  have g1:=f1.keep _ _ upd_same (fun y z=>by unfold ndO at z;cases z) nL
  refine f2.keep _ _ g1 (fun y z=>by unfold ndO at z;cases z) ?_
  cases e:L1 s.heap.objs.size with
  | none=>rfl
  | some o=>
   rcases f1.dom _ (by rw [e];simp) with z | z
   ·exact absurd nL z
   ·rw [upd_same] at z;cases z
 obtain ⟨hz,_,hm⟩:=tE (Z:=Z2) (kds:= []) J2 e2 .nil
 refine ⟨[(nk k,b,u2)],⟨rfl,rfl,⟨Rep.nst J2 _ _ _ hk rk2 rfl,h8⟩,trivial⟩,hm,fun h' tk hm' hs'=> ?_⟩
 have hx:∃q,h'.get? s.heap.objs.size=some q:=let ⟨o,_,_,ho,_⟩:=hm';⟨o,ho⟩
 have hm':h'.DictOfH (nestedKind C.X.prog C.X.w) s.heap.objs.size [(nk k,b,u2)]:=hm'
 have I3:=d_write (ob:=ndO C.X.prog C.X.w s.heap.objs.size [(nk k,b,u2)]) (t':=tk) J2 (by rw [e2];exact True.intro) hs' hx (aBp (by show 1≤sizeLine;decide) hd hm')
 have n2:L2 s.heap.objs.size=none:=by
  cases e:L2 s.heap.objs.size with
  | none=>rfl
  | some o=>
   rcases (f1.trans f2).dom _ (by rw [e];simp) with z | z
   ·exact absurd (ok.con.free hn) z
   ·rw [upd_same] at z;cases z
 have nz:¬Z2 s.heap.objs.size:=fun z=>by
  rcases (f1.trans f2).off _ z with y | y | y
  ·exact ok.con.nf hn y
  ·exact y (ok.con.free hn)
  ·rw [upd_same] at y;cases y
 have nx:∀{c:Addr} {o:HO},G2 c=some o→(∀y,o≠ndO C.X.prog C.X.w s.heap.objs.size y)→c≠s.heap.objs.size:=fun {c o} e n z=>by rw [z,e2] at e;exact n _ (Option.some.inj e).symm
 have st:Stay G2 (upd G2 s.heap.objs.size (ndO C.X.prog C.X.w s.heap.objs.size [(nk k,b,u2)])):=⟨fun c vs e=>by rw [upd_ne (nx e fun y z=>by unfold ndO at z;cases z)];exact e,fun c o xs e=>by rw [upd_ne (nx e fun y z=>by unfold ndO at z;cases z)];exact e,fun c e=>by rw [upd_ne (nx e fun y z=>by unfold ndO at z;cases z)];exact e⟩
 have mv:Mv Z2 G2 Z2 (upd G2 s.heap.objs.size (ndO C.X.prog C.X.w s.heap.objs.size [(nk k,b,u2)])):=⟨st,fun _ z=>z,fun c o z e=>by rw [upd_ne (show c≠s.heap.objs.size from fun y=>nz (by rw [←y];exact z))];exact e⟩
 refine ⟨.ref s.heap.objs.size,_,I3,rfl,go (F':=Z2) _ _ _ (put L2 s.heap.objs.size (.nd [(k,d)])) (.ptr _) ⟨fun c o e=> ?_,fun c z=> ?_⟩ ⟨fun c o e no nL=> ?_,fun c z=> ?_,?_,fun c z=> ?_,?_,?_,?_⟩ (q2 _ n2)⟩
 ·by_cases hc:c=s.heap.objs.size
  ·subst hc
   rw [aF] at e
   cases e
   exact ⟨_,upd_same,.cons ⟨rfl,hk,h8,rk2.mono mv,v2,r2,rd.mono mv⟩ .nil⟩
  ·rw [aK hc] at e
   exact (c2.at_ c o e).mono mv (upd_ne hc)
 ·obtain ⟨z1,o,z2,z3,z4⟩:=c2.fz c z
  have hc:c≠s.heap.objs.size:=fun y=>nz (by rw [←y];exact z)
  exact ⟨by rw [aK hc];exact z1,o,by rw [upd_ne hc];exact z2,z3,z4⟩
 ·have hc:c≠s.heap.objs.size:=fun y=>by rw [y,hn] at e;cases e
  rw [upd_ne hc]
  exact (f1.trans f2).keep c o (by rw [upd_ne hc];exact e) no nL
 ·exact cA ((f1.trans f2).live c (cA z))
 ·have s0:Stay H (upd H s.heap.objs.size (ndO C.X.prog C.X.w s.heap.objs.size [])):=(Fr.new (L:=L) (F:=Z) hn).stay
  exact (s0.trans (f1.trans f2).stay).trans st
 ·by_cases hc:c=s.heap.objs.size
  ·exact .inr (by rw [hc];exact hn)
  ·rw [aK hc] at z
   rcases (f1.trans f2).dom c z with y | y
   ·exact .inl y
   ·rw [upd_ne hc] at y;exact .inr y
 ·exact (f1.trans f2).fz
 ·intro c o z e
  have hc:c≠s.heap.objs.size:=fun y=>by rw [y,hn] at e;cases e
  rw [upd_ne hc]
  exact (f1.trans f2).fk c o z (by rw [upd_ne hc];exact e)
 ·intro c z
  rcases (f1.trans f2).off c z with y | y | y
  ·exact .inl y
  ·exact .inr (.inl y)
  ·by_cases hc:c=s.heap.objs.size
   ·exact .inr (.inr (by rw [hc];exact hn))
   ·rw [upd_ne hc] at y;exact .inr (.inr y)⟩
end
end DL
namespace DL
open PySem PySem.Spec PyProof.Rows L2
theorem items_refs2 {es:Array DictEntry} {acc:Array Value} {bs:List Addr} (hs:es.size=bs.length) (hx:∀i (hi:i < es.size),∃y,bs[i]? =some y∧es[i].key= .ref y) (hacc:ItemsOf (fun i v=> ∃hi:i < es.size,v=es[i].key) acc es.size):acc.toList=bs.map Value.ref:=by
 apply List.ext_getElem?
 intro i
 by_cases hi:i < es.size
 ·obtain ⟨y,h1,h2⟩:=hx i hi
  have hia:i < acc.size:=by rw [hacc.1];exact hi
  obtain ⟨_,hv⟩:=hacc.2 i acc[i] (Array.getElem?_eq_getElem hia)
  rw [Array.getElem?_toList,Array.getElem?_eq_getElem hia,List.getElem?_map,h1,hv,h2]
  rfl
 ·rw [List.getElem?_eq_none (by rw [Array.length_toList,hacc.1];omega),List.getElem?_eq_none (by simp;omega)]
theorem sort_raw {X:Cx} {pins:List (Addr×Obj)} {σ:L2.St} {H:Hp} {s:Shared} {Q:VK} {a:Addr} {bs:List Addr} {ds:List D} {F:Fz} {es:Array DictEntry} {ep:Nat} (hc:X.calm=true) (hu:X.A.units+100 < cLine) (I:Inv X pins σ H s) (lo:(a==sysModules)=false) (raw:s.heap.DictRaw a es ep) (hs:es.size=bs.length) (hx:∀i (hi:i < es.size),∃y,bs[i]? =some y∧es[i].key= .ref y) (z:bs.length≤sizeLine)
  (rd:aZ X.K F H (bs.map V.ref) ds) (hok:gA ds=true) (hal:PySem.W.AllAlike (ds.map py)) (hso:PySem.W.Sortable (ds.map py)) (hde:∀d∈ds,(py d).depth≤64) (q:∀p ys,H p=none→aZ X.K F H ys (ds.mergeSort leD)→Q (.ref p) (upd H p (.lst ys))):
  wpAny (model X.prog X.w) X.A (call (.builtin "sorted") [.ref a]) (EP X pins σ Q) X.xe s:=by
 have hlen:es.size≤sizeLine:=by rw [hs];exact z
 refine PySem.Calls.call_function_entry PyProof.Rows.kind_sorted PyProof.Rows.plain_sorted PyProof.Rows.entry_sorted (PyProof.Rows.args_sorted1 _) ?_
 unfold Builtin.«sorted»
 refine wpAny_bind (m:=checkCount "sorted" 1 1 _) (wpAny_pure ?_)
 refine wpAny_bind (PySem.W.kdu_collect (A:=X.A.in1) (KdlSrc.rawDict (ep:=ep) (es:=es) lo) (I.ok.hd hc) raw hlen fun h' tk acc hk hacc=> ?_)
 have e:=items_refs2 hs hx hacc
 have I1:Inv X pins σ H {s with heap:=h',toks:=tk}:=I.kept hk
 have key:∀{vs:List V} {its:List Value} {ds:List D},gA ds=true→Vals vs its→aZ X.K F H vs ds→Paired (fun (v:Value) (d:D)=>(∃x,RelV x v∧Rep X.K F H x d)∧∃as,Reads h' v (py d) as) its ds:=by
  intro vs its ds hok rv rd
  induction rd generalizing its with
  | nil=>cases rv;exact .nil
  | cons r1 r2 ih=>
   rw [gA,Bool.and_eq_true] at hok
   cases rv with
   | cons q1 q2=>exact .cons ⟨⟨_,q1,r1⟩,Dp.reads I1 _ _ _ (Rep.dp _ _ hok.1 r1).1 q1⟩ (ih hok.2 q2)
 have hp:=key hok (vals_refs bs) rd
 rw [←e] at hp
 have hl3:acc.toList.length≤sizeLine:=by rw [Array.length_toList,hacc.1];exact hlen
 refine wpAny_bind (wpAny_newList ?_ hl3)
 have hoL:(h'.push (seqObj "list" acc.toList.toArray 0)).get? h'.objs.size=some (seqObj "list" acc.toList.toArray 0):=Heap.get?_push_size _ rfl
 have er:PySem.W.EachIs (fun v d=> ∃as,Reads (h'.push (seqObj "list" acc.toList.toArray 0)) v (py d) as∧h'.objs.size∉as) acc.toList ds:=by
  refine bT (Paired.mono hp fun v d zz=> ?_)
  obtain ⟨as,ra⟩:=zz.2
  refine ⟨as,PyProof.Rows.Reads.keeps (fun _ _=>Heap.get?_push_of_some _) ra,fun hm=> ?_⟩
  obtain ⟨o,ho⟩:=PyProof.On.reads_mem_get ra _ hm
  exact absurd (Heap.lt_size ho) (Nat.lt_irrefl _)
 show wpAny _ _ _ _ _ {s with heap:=h'.push (seqObj "list" acc.toList.toArray 0),toks:=tk}
 refine wpAny_bind (wpAny_holding (PySem.W.list_sort_data (s:={s with heap:=h'.push (seqObj "list" acc.toList.toArray 0),toks:=tk}) (R:=fun v d=> ∃x,RelV x v∧Rep X.K F H x d) (enc:=py) (bs:=ds) (n:=0) hoL (bT (Paired.mono hp fun _ _ z=>z.1)) er hal hso (by
  rw [←rd.length,List.length_map];exact z) (fun b hb=>by have:=hde b hb;show X.A.units+1+1+_ < _;omega) fun out hlo hout=> ?_))
 have back:∀{out:List Value} {ds:List D},Paired (fun (v:Value) (d:D)=> ∃x,RelV x v∧Rep X.K F H x d) out ds→∃ys,Vals ys out∧aZ X.K F H ys ds:=by
  intro out ds h
  induction h with
  | nil=>exact ⟨[],.nil,.nil⟩
  | cons h1 h2 ih=>
   obtain ⟨x,e1,e2⟩:=h1
   obtain ⟨ys,e3,e4⟩:=ih
   exact ⟨x::ys,.cons e1 e3,.cons e2 e4⟩
 obtain ⟨ys,v1,v2⟩:=back (fU hout)
 obtain ⟨e',he'⟩:=PyProof.Rows.sortedHeap_at (vs:=acc.toList) (out:=List.toArray out) hoL
 have hl4:ys.length≤sizeLine:=by
  rw [v1.length,hlo,←rd.length,List.length_map]
  exact z
 refine wpAny_pure ⟨_,rfl,.ref h'.objs.size,upd H h'.objs.size (.lst ys),I1.laid (t':=tk) (fun b u eb=> ?_) (Nat.le_refl _) ⟨hl4,out,e',v1,by simpa using he'⟩,rfl,q _ ys (I1.hok.fresh (Nat.le_refl _)) v2⟩
 have hb:b < h'.objs.size:=Heap.lt_size eb
 rw [PyProof.Rows.sortedHeap_old (Nat.ne_of_lt hb) (by rw [size_push'];exact Nat.lt_succ_of_lt hb)]
 exact Heap.get?_push_of_some _ eb
theorem enr_reps {K:PySem.W.Frag} {F:Fz} {H:Hp}:∀{xs:List (NestedKey×Addr×Value)} {kds:List (D×D)},Paired (EnR K F H) xs kds→aZ K F H ((xs.map (·.2.1)).map V.ref) (kds.map (·.1))
 | _,_,.nil=> .nil
 | _,_,.cons r t=> .cons r.2.2.2.1 (enr_reps t)
section
variable {C:DL.Ctx} {Γ:Gm} {L:Lp} {Q:D→Lp→Prop} {kds:List (D×D)} {a:Addr}
theorem ca_sortN (hc:C.X.calm=true) (hu:C.X.A.units+100 < cLine) (ha:L a=some (.nd kds)) (hok:gA (kds.map (·.1))=true) (hal:PySem.W.AllAlike ((kds.map (·.1)).map py)) (hso:PySem.W.Sortable ((kds.map (·.1)).map py)) (hde:∀d∈kds.map (·.1),(py d).depth≤64)
  (q:∀l,L l=none→Q (.ptr l) (put L l (.lst ((kds.map (·.1)).mergeSort leD)))):CaJ C (.builtin "sorted") Γ [.ptr a] L Q:=⟨fun Z σ H ok vs rd QV go pins s us I r=>by
 obtain ⟨v,rfl,r1⟩:=rd.oneE
 obtain ⟨u,rfl,ru⟩:=vals1 r
 rw [r1.ptrE] at ru
 cases (show u=Value.ref a from ru)
 obtain ⟨xs,e,rr⟩:=ok.con.at_ a _ ha
 obtain ⟨hz,lo,dd⟩:=tE I e rr
 obtain ⟨es,ep,raw,hs,hx⟩:=dd.raw
 have hz2:kds.length≤sizeLine:=by rw [←Paired.length rr];exact hz
 refine sort_raw (bs:=xs.map (·.2.1)) (ds:=kds.map (·.1)) hc hu I lo raw (by rw [List.length_map];exact hs) (fun i hi=> ?_) (by rw [List.length_map];exact hz) (enr_reps rr) hok hal hso hde fun p ys hp ry=>go _ _ _ (put L p (.lst ((kds.map (·.1)).mergeSort leD))) (.ptr p) (ok.con.newL hp ⟨ys,upd_same,ry.mono (.new hp),?_⟩) (.newL hp) (q p (ok.con.free hp))
 ·obtain ⟨y,h1,h2,_⟩:=hx i hi
  exact ⟨y.2.1,by rw [List.getElem?_map,h1];rfl,h2⟩
 ·rw [List.length_mergeSort,List.length_map]
  exact hz2⟩
end
end DL
namespace DL
open PySem PySem.Spec PyProof.Rows L2
theorem yI {α:Type} (f:α→D):∀xs:List α,nks (xs.map f)=xs.map fun x=>nk (f x)
 | []=>by rw [List.map_nil,nks];rfl
 | x::xs=>by rw [List.map_cons,nks,yI f xs];rfl
theorem aBn (ws:List Wd):nk (dW ws)= .tup (ws.map .text):=by
 unfold dW
 rw [nk,yI]
 exact congrArg NestedKey.tup (List.map_congr_left fun x _=>by rw [nk])
theorem aBo (cs:List Cell):nk (dC cs)= .tup (cs.map fun c=> .tup (c.map .text)):=by
 unfold dC
 rw [nk,yI]
 exact congrArg NestedKey.tup (List.map_congr_left fun x _=>aBn x)
theorem vM {α β:Type} {f:α→β} (hf:∀x y,f x=f y→x=y):∀{xs ys:List α},xs.map f=ys.map f→xs=ys
 | [],[],_=>rfl
 | [],_::_,h=>by cases h
 | _::_,[],h=>by cases h
 | x::xs,y::ys,h=>by
  injection h with h1 h2
  rw [hf x y h1,vM hf h2]
theorem oW {a b:List Cell} (h:nk (dC a)=nk (dC b)):a=b:=by
 rw [aBo,aBo] at h
 exact vM (fun x y e=>vM (fun x y e=>NestedKey.text.inj e) (NestedKey.tup.inj e)) (NestedKey.tup.inj h)
theorem aAG (r:RowC):nk (bH r)= .tup [nk (dC r.p),nk (dC r.q),nk (dC r.a),nk (dC r.b)]:=by
 unfold bH
 rw [nk,nks,nks,nks,nks,nks]
theorem nk_row_inj {r s:RowC} (h:nk (bH r)=nk (bH s)):r=s:=by
 rw [aAG,aAG] at h
 have h:=NestedKey.tup.inj h
 injection h with h1 h
 injection h with h2 h
 injection h with h3 h
 injection h with h4 _
 cases r
 cases s
 have e1:=oW h1
 have e2:=oW h2
 have e3:=oW h3
 have e4:=oW h4
 dsimp only at e1 e2 e3 e4
 rw [e1,e2,e3,e4]
theorem vJ {n:Nat}:∀{ks:List NestedKey},(∀k∈ks,k.depth≤n)→NestedKey.depthAll ks≤n
 | [],_=>by rw [NestedKey.depthAll];exact Nat.zero_le _
 | k::ks,h=>by
  rw [NestedKey.depthAll]
  have h1:=h k List.mem_cons_self
  have h2:=vJ fun x hx=>h x (List.mem_cons_of_mem _ hx)
  omega
theorem nkd_dW (ws:List Wd):(nk (dW ws)).depth≤1:=by
 rw [aBn,NestedKey.depth]
 have:=vJ (n:=0) (ks:=ws.map .text) fun k hk=>by
  obtain ⟨x,_,rfl⟩:=List.mem_map.mp hk
  rw [NestedKey.depth]
  exact Nat.le_refl _
 omega
theorem nkd_dC (cs:List Cell):(nk (dC cs)).depth≤2:=by
 rw [aBo,NestedKey.depth]
 have:=vJ (n:=1) (ks:=cs.map fun c=>NestedKey.tup (c.map .text)) fun k hk=>by
  obtain ⟨x,_,rfl⟩:=List.mem_map.mp hk
  rw [←aBn]
  exact nkd_dW x
 omega
theorem qH (r:RowC):(nk (bH r)).depth≤8:=by
 rw [aAG,NestedKey.depth]
 have:=vJ (n:=2) (ks:= [nk (dC r.p),nk (dC r.q),nk (dC r.a),nk (dC r.b)]) fun k hk=>by
  simp only [List.mem_cons,List.not_mem_nil,or_false] at hk
  rcases hk with rfl | rfl | rfl | rfl <;> exact nkd_dC _
 omega
theorem qF (r:RowC):okN (bH r)=true:=by
 unfold bH
 rw [okN,aAi,aAi,aAi,aAi,aAi,xF _ (kW _),xF _ (kW _),xF _ (kW _),xF _ (kW _)]
 rfl
def dTx (ts:List (RowC×List Wd)):List (D×D):=ts.map fun x=>(bH x.1,dW x.2)
theorem dTx_at (ts:List (RowC×List Wd)) (r:RowC):aAH (dTx ts) (bH r)=((ts.find? fun x=>decide (x.1=r)).map fun x=>dW x.2):=by
 unfold aAH dTx
 rw [List.find?_map,Option.map_map]
 have e:((fun (x:D×D)=>decide (nk x.1=nk (bH r))) ∘ fun (x:RowC×List Wd)=>(bH x.1,dW x.2))=fun x=>decide (x.1=r):=by
  funext x
  show decide (nk (bH x.1)=nk (bH r))=decide (x.1=r)
  by_cases h:x.1=r
  ·rw [h,decide_eq_true rfl,decide_eq_true rfl]
  ·rw [decide_eq_false h,decide_eq_false fun z=>h (nk_row_inj z)]
 rw [e]
 rfl
theorem yM (ts:List (RowC×List Wd)) (r:RowC):(aAH (dTx ts) (bH r)).isSome=(ts.map (·.1)).contains r:=by
 rw [dTx_at,Option.isSome_map,Bool.eq_iff_iff,List.find?_isSome,List.contains_iff_mem,List.mem_map]
 exact ⟨fun ⟨x,hx,e⟩=>⟨x,hx,of_decide_eq_true e⟩,fun ⟨x,hx,e⟩=>⟨x,hx,decide_eq_true e⟩⟩
theorem dTx_put {ts:List (RowC×List Wd)} {r:RowC} (h:(ts.map (·.1)).contains r=false) (t:List Wd):uA (dTx ts) (bH r) (dW t)=dTx (ts++ [(r,t)]):=by
 unfold uA
 rw [yM,h]
 unfold dTx
 rw [List.map_append]
 rfl
theorem dTx_get {ts:List (RowC×List Wd)} (nd:(ts.map (·.1)).Nodup) {x:RowC×List Wd} (h:x∈ts):aAH (dTx ts) (bH x.1)=some (dW x.2):=by
 rw [dTx_at]
 induction ts with
 | nil=>cases h
 | cons y ts ih=>
  rw [List.map_cons,List.nodup_cons] at nd
  rw [List.find?_cons]
  rcases List.mem_cons.mp h with rfl | h
  ·rw [decide_eq_true rfl];rfl
  ·rw [decide_eq_false fun e=>nd.1 (by rw [e];exact List.mem_map_of_mem h)]
   exact ih nd.2 h
theorem alk_all {α:Type} {f:α→D} (hf:∀x y,PySem.W.alike (py (f x)) (py (f y))=true):∀xs ys:List α,PySem.W.alikeAll (pys (xs.map f)) (pys (ys.map f))=true
 | [],_=>by rw [List.map_nil,pys,PySem.W.alikeAll]
 | x::xs,[]=>by rw [List.map_cons,List.map_nil,pys,pys,PySem.W.alikeAll]
 | x::xs,y::ys=>by rw [List.map_cons,List.map_cons,pys,pys,PySem.W.alikeAll,hf,alk_all hf xs ys];rfl
theorem rM (a b:List Cell):PySem.W.alike (py (dC a)) (py (dC b))=true:=by
 unfold dC
 rw [py,py,PySem.W.alike]
 exact alk_all wH a b
theorem alike_row (r s:RowC):PySem.W.alike (py (bH r)) (py (bH s))=true:=by
 unfold bH
 rw [py,py,PySem.W.alike,pys,pys,pys,pys,pys,pys,pys,pys,pys,pys,PySem.W.alikeAll,PySem.W.alikeAll,PySem.W.alikeAll,PySem.W.alikeAll,PySem.W.alikeAll,rM,rM,rM,rM]
 rfl
theorem tL (ts:List (RowC×List Wd)):PySem.W.AllAlike (((dTx ts).map (·.1)).map py):=fun d hd d' hd'=>by
 obtain ⟨x,hx,rfl⟩:=List.mem_map.mp hd
 obtain ⟨x',hx',rfl⟩:=List.mem_map.mp hd'
 obtain ⟨y,hy,rfl⟩:=List.mem_map.mp hx
 obtain ⟨y',hy',rfl⟩:=List.mem_map.mp hx'
 obtain ⟨z,_,rfl⟩:=List.mem_map.mp hy
 obtain ⟨z',_,rfl⟩:=List.mem_map.mp hy'
 exact alike_row _ _
theorem mH (ts:List (RowC×List Wd)):PySem.W.Sortable (((dTx ts).map (·.1)).map py):= .inl fun d hd=>by
 obtain ⟨x,hx,rfl⟩:=List.mem_map.mp hd
 obtain ⟨y,hy,rfl⟩:=List.mem_map.mp hx
 obtain ⟨z,_,rfl⟩:=List.mem_map.mp hy
 refine ⟨py (dC z.1.p),pys [dC z.1.q,dC z.1.a,dC z.1.b],?_⟩
 show py (bH z.1)=_
 unfold bH
 rw [py,pys]
theorem dTx_depth (ts:List (RowC×List Wd)):∀d∈(dTx ts).map (·.1),(py d).depth≤64:=fun d hd=>by
 obtain ⟨y,hy,rfl⟩:=List.mem_map.mp hd
 obtain ⟨z,_,rfl⟩:=List.mem_map.mp hy
 show (py (bH z.1)).depth≤64
 unfold bH
 rw [py]
 refine Nat.le_trans (uH (n:=10) fun d hd=> ?_) (by decide)
 rw [pys,pys,pys,pys,pys] at hd
 simp only [List.mem_cons,List.not_mem_nil,or_false] at hd
 rcases hd with rfl | rfl | rfl | rfl <;> exact Nat.le_trans (dep_dC _) (by decide)
end DL
namespace DL
abbrev aBS:=Bool×List Nat×Nat
abbrev Rws:=List aBS
def rowAt (rows:Rws) (s:Nat):aBS:=rows.getD s (false,[],0)
def gl (r:aBS):Option Nat→Nat
 | none=>r.2.2
 | some c=>r.2.1.getD c 0
structure MOk (n:Nat) (rows:Rws):Prop where
 len:∀r∈rows,r.2.1.length=n
 go:∀r∈rows,∀g∈r.2.1,g < rows.length
 oth:∀r∈rows,r.2.2 < rows.length
theorem rowAt_get {rows:Rws} {s:Nat} (h:s < rows.length):rows[s]? =some (rowAt rows s):=by
 unfold rowAt
 rw [List.getD_eq_getElem?_getD,List.getElem?_eq_getElem h]
 rfl
theorem rowAt_mem {rows:Rws} {s:Nat} (h:s < rows.length):rowAt rows s∈rows:=List.mem_of_getElem? (rowAt_get h)
theorem MOk.gl {n:Nat} {rows:Rws} (h:MOk n rows) {s:Nat} (hs:s < rows.length) (c:Option Nat) (hc:∀k,c=some k→k < n):DL.gl (rowAt rows s) c < rows.length:=by
 have hm:=rowAt_mem hs
 cases c with
 | none=>exact h.oth _ hm
 | some k=>
  refine h.go _ hm _ ?_
  have hk:k < (rowAt rows s).2.1.length:=by rw [h.len _ hm];exact hc k rfl
  show (rowAt rows s).2.1.getD k 0∈_
  rw [List.getD_eq_getElem?_getD,List.getElem?_eq_getElem hk]
  exact List.getElem_mem hk
def addO {α:Type} [DecidableEq α] (o:List α) (g:α):List α:=if g∈o then o else o++ [g]
def ddp {α:Type} [DecidableEq α] (xs:List α):List α:=xs.foldl addO []
def colsN (cols:List Nat):List (Option Nat):=cols.map some++ [none]
structure OrdI (cols:List Nat) (rows:Rws) (first k:Nat) (o:List Nat):Prop where
 nd:o.Nodup
 lt:∀s∈o,s < rows.length
 zero:o[0]? =some first
 kl:k≤o.length
 cl:∀(i s:Nat),i < k→o[i]? =some s→∀c∈colsN cols,gl (rowAt rows s) c∈o
section
variable {n:Nat} {cols:List Nat} {rows:Rws} {first k:Nat} {o:List Nat}
end
end DL
namespace DL
open PySem PySem.Spec PyProof.Rows L2
inductive ClD:D→Value→Prop where
 | ty (n:String):ClD (.ty n) (.type n)
 | own (a:Addr):ClD (.ptr a) (.ref a)
section
variable {C:DL.Ctx} {Γ:Gm} {L:Lp} {Q:D→Lp→Prop} {x:D} {t:Value} {a b:Expr} {p pos:Pos}
end
end DL
namespace DL
open PySem PySem.Spec PySem.Calls PyProof.Rows L2
section
variable {X0:Cx} {dd:Addr} {fs:List (Str×D)} {Γ:Gm} {L:Lp} {pos p1 p2 p3:Pos}
end
end DL
namespace DL
open PySem PySem.Spec PyProof.Rows L2
def asc (x:Str):Bool:=x.cps.toList.all fun c=>decide (c < 128)
def smI (i:Int):Bool:=decide (-999999999999≤i) && decide (i≤999999999999)
def smK:Key→Bool
 | .inl i=>smI i
 | .inr x=>asc x
mutual
def shw:D→Bool
 | .non=>true
 | .bl _=>true
 | .int i=>smI i
 | .str x=>asc x
 | .tup ds=>aAu ds
 | .flst ds=>aAu ds
 | .kdct kds=>aBF kds
 | .ty _=>false
 | .ptr _=>false
 | .ilst _=>false
 | .obj _ _=>false
 | .fdct _=>false
 | .wds _=>false
 | .tk _=>false
 | .iob _ _=>false
def aAu:List D→Bool
 | []=>true
 | d::ds=>shw d && aAu ds
def aBF:List (Key×D)→Bool
 | []=>true
 | (k,d)::r=>smK k && shw d && aBF r
end
structure ShP (d:PyData):Prop where
 lf:d.leavesShort 13=true
 sg:sgD d=true
 sh:d.showable=true
theorem shp_int {i:Int} (h:smI i=true):ShP (.int i):=by
 unfold smI at h
 rw [Bool.and_eq_true] at h
 have h1:=of_decide_eq_true h.1
 have h2:=of_decide_eq_true h.2
 refine ⟨?_,by rw [sgD],?_⟩
 ·rw [PyData.leavesShort]
  exact decide_eq_true (PyData.shown_int_le2 h1 h2)
 ·rw [PyData.showable]
  refine decide_eq_true ?_
  have h3:i.natAbs < 2 ^ 40:=by
   have:(2:Nat) ^ 40=1099511627776:=by decide
   omega
  by_cases hz:i.natAbs=0
  ·rw [hz];decide
  ·have:=(Nat.log2_lt hz).mpr h3
   omega
theorem shp_str {x:Str} (h:asc x=true):ShP (.str x):=by
 unfold asc at h
 have h1:=List.all_eq_true.mp h
 refine ⟨?_,?_,by rw [PyData.showable]⟩
 ·rw [PyData.leavesShort]
  exact List.all_eq_true.mpr fun c hc=>decide_eq_true (Nat.lt_trans (of_decide_eq_true (h1 c hc)) (by decide))
 ·rw [sgD]
  exact aAc.mpr fun c hc=>by have:=of_decide_eq_true (h1 c hc);omega
mutual
theorem zA:∀d:D,shw d=true→okE d=true∧ShP (pyE d)
 | .non,_=>by rw [okE,pyE];exact ⟨rfl,by rw [PyData.leavesShort],by rw [sgD],by rw [PyData.showable]⟩
 | .bl b,_=>by rw [okE,pyE];exact ⟨rfl,by rw [PyData.leavesShort],by rw [sgD],by rw [PyData.showable]⟩
 | .int i,h=>by rw [shw] at h;rw [okE,pyE];exact ⟨rfl,shp_int h⟩
 | .str x,h=>by rw [shw] at h;rw [okE,pyE];exact ⟨rfl,shp_str h⟩
 | .tup ds,h=>by
  rw [shw] at h
  obtain ⟨h1,h2,h3,h4⟩:=xX ds h
  rw [okE,pyE]
  exact ⟨h1,by rw [PyData.leavesShort];exact h2,by rw [sgD];exact h3,by rw [PyData.showable];exact h4⟩
 | .flst ds,h=>by
  rw [shw] at h
  obtain ⟨h1,h2,h3,h4⟩:=xX ds h
  rw [okE,pyE]
  exact ⟨h1,by rw [PyData.leavesShort];exact h2,by rw [sgD];exact h3,by rw [PyData.showable];exact h4⟩
 | .kdct kds,h=>by
  rw [shw] at h
  obtain ⟨h1,h2,h3,h4⟩:=shwk_ok kds h
  rw [okE,pyE]
  exact ⟨h1,by rw [PyData.leavesShort];exact h2,by rw [sgD];exact h3,by rw [PyData.showable];exact h4⟩
 | .ty _,h=>by simp [shw] at h
 | .ptr _,h=>by simp [shw] at h
 | .ilst _,h=>by simp [shw] at h
 | .obj _ _,h=>by simp [shw] at h
 | .fdct _,h=>by simp [shw] at h
 | .wds _,h=>by simp [shw] at h
 | .tk _,h=>by simp [shw] at h
 | .iob _ _,h=>by simp [shw] at h
theorem xX:∀ds:List D,aAu ds=true→wV ds=true∧PyData.leavesShortAll 13 (tZ ds)=true∧aA7 (tZ ds)=true∧PyData.showableAll (tZ ds)=true
 | [],_=>by rw [wV,tZ,PyData.leavesShortAll,aA7,PyData.showableAll];exact ⟨rfl,rfl,rfl,rfl⟩
 | d::ds,h=>by
  rw [aAu,Bool.and_eq_true] at h
  obtain ⟨a0,a1,a2,a3⟩:=zA d h.1
  obtain ⟨b0,b1,b2,b3⟩:=xX ds h.2
  rw [wV,tZ,PyData.leavesShortAll,aA7,PyData.showableAll,a0,a1,a2,a3,b0,b1,b2,b3]
  exact ⟨rfl,rfl,rfl,rfl⟩
theorem shwk_ok:∀kds:List (Key×D),aBF kds=true→aBm kds=true∧PyData.leavesShortKv 13 (aAC kds)=true∧aBa (aAC kds)=true∧PyData.showableKv (aAC kds)=true
 | [],_=>by rw [aBm,aAC,PyData.leavesShortKv,aBa,PyData.showableKv];exact ⟨rfl,rfl,rfl,rfl⟩
 | (k,d)::r,h=>by
  rw [aBF,Bool.and_eq_true,Bool.and_eq_true] at h
  obtain ⟨a0,a1,a2,a3⟩:=zA d h.1.2
  obtain ⟨b0,b1,b2,b3⟩:=shwk_ok r h.2
  have hk:ShP (aBr k):=by
   have hh:=h.1.1
   cases k with
   | inl i=>exact shp_int hh
   | inr x=>exact shp_str hh
  obtain ⟨c1,c2,c3⟩:=hk
  rw [aBm,aAC,PyData.leavesShortKv,aBa,PyData.showableKv,a0,a1,a2,a3,b0,b1,b2,b3,c1,c2,c3]
  exact ⟨rfl,rfl,rfl,rfl⟩
end
structure Vd (m n:Nat) (d:D):Prop where
 sh:shw d=true
 dp:(pyE d).depth≤m
 bk:(pyE d).bulk≤n
theorem Vd.mono {m n m' n':Nat} {d:D} (h:Vd m n d) (hm:m≤m') (hn:n≤n'):Vd m' n' d:=⟨h.sh,Nat.le_trans h.dp hm,Nat.le_trans h.bk hn⟩
theorem Vd.ok {m n:Nat} {d:D} (h:Vd m n d):okE d=true:=(zA d h.sh).1
section
variable {C:DL.Ctx} {L:Lp} {Q:D→Lp→Prop}
end
end DL
namespace DL
open PySem PySem.Spec PyProof.Rows L2
section
variable {C:DL.Ctx} {Γ:Gm} {L:Lp} {Q:D→Lp→Prop} {pos p p2 apos:Pos} {e o ke ve:Expr} {es:List Expr}
def aBz (kds:List (Key×D)) (k:Key):Option D:=(kds.find? fun kv=>decide (kv.1=k)).map (·.2)
def aAZ (kds:List (Key×D)) (k:Key) (v:D):List (Key×D):=
 if kds.any (fun kv=>decide (kv.1=k)) then kds.map fun kv=>if kv.1=k then (kv.1,v) else kv else kds++ [(k,v)]
abbrev KKs (K:PySem.W.Frag) (F:Fz) (H:Hp):List (Key×V)→List (Key×D)→Prop:=Paired fun p q=>p.1=q.1∧Rep K F H p.2 q.2
theorem KKs.val {K:PySem.W.Frag} {F:Fz} {H:Hp} {kvs:List (Key×V)} {kds:List (Key×D)} (r:KKs K F H kvs kds) (k:Key):
  (valV kvs k=none∧aBz kds k=none)∨∃v d,valV kvs k=some v∧aBz kds k=some d∧Rep K F H v d:=by
 induction r with
 | nil=>exact .inl ⟨rfl,rfl⟩
 | @cons p q ps qs h t ih=>
  obtain ⟨h1,h2⟩:=h
  by_cases e:p.1=k
  ·refine .inr ⟨p.2,q.2,valV_pos e,?_,h2⟩
   unfold aBz
   rw [List.find?_cons_of_pos (by simpa using h1.symm.trans e)]
   rfl
  ·have e2:aBz (q::qs) k=aBz qs k:=by
    unfold aBz
    rw [List.find?_cons_of_neg (by simpa using fun z=>e (h1.trans z))]
   rw [valV_neg e,e2]
   exact ih
theorem KKs.put {K:PySem.W.Frag} {F:Fz} {H:Hp} {kvs:List (Key×V)} {kds:List (Key×D)} (r:KKs K F H kvs kds) (k:Key) {v:V} {d:D} (rv:Rep K F H v d):KKs K F H (putK kvs k v) (aAZ kds k d):=by
 have ea:(kvs.any fun kv=>decide (kv.1=k))=kds.any fun kv=>decide (kv.1=k):=by
  induction r with
  | nil=>rfl
  | @cons p q ps qs h t ih=>rw [List.any_cons,List.any_cons,ih,h.1]
 have k1:∀{kvs:List (Key×V)} {kds:List (Key×D)},KKs K F H kvs kds→KKs K F H (kvs.map fun kv=>if kv.1=k then (kv.1,v) else kv) (kds.map fun kv=>if kv.1=k then (kv.1,d) else kv):=by
  intro kvs kds r
  induction r with
  | nil=>exact .nil
  | @cons p q ps qs h t ih=>
   rw [List.map_cons,List.map_cons]
   refine .cons ?_ ih
   by_cases e:p.1=k
   ·rw [if_pos e,if_pos (h.1.symm.trans e)]
    exact ⟨h.1,rv⟩
   ·rw [if_neg e,if_neg (fun z=>e (h.1.trans z))]
    exact h
 have k2:∀{kvs:List (Key×V)} {kds:List (Key×D)},KKs K F H kvs kds→KKs K F H (kvs++ [(k,v)]) (kds++ [(k,d)]):=by
  intro kvs kds r
  induction r with
  | nil=>exact .cons ⟨rfl,rv⟩ .nil
  | cons h t ih=>exact .cons h ih
 unfold putK aAZ
 rw [ea]
 split
 ·exact k1 r
 ·exact k2 r
theorem KKs.mono {K:PySem.W.Frag} {F F':Fz} {H H':Hp} {kvs:List (Key×V)} {kds:List (Key×D)} (s:Mv F H F' H') (r:KKs K F H kvs kds):KKs K F' H' kvs kds:=Paired.mono r fun _ _ z=>⟨z.1,z.2.mono s⟩
theorem KKs.len {K:PySem.W.Frag} {F:Fz} {H:Hp} {kvs:List (Key×V)} {kds:List (Key×D)} (r:KKs K F H kvs kds):kvs.length=kds.length:=Paired.length r
variable {kds:List (Key×D)} {a:Addr} {k:Key} {d:D}
end
end DL
namespace DL
open PySem PySem.Spec PyProof.Rows L2
theorem Rep.wdsE {K:PySem.W.Frag} {F:Fz} {H:Hp} {v:V} {ys:List Str} (r:Rep K F H v (.wds ys)):∃a o,v= .ref a∧F a∧H a=some (.frz o (.tup (ys.map V.str)))∧o.dict=none∧ys.length≤sizeLine∧∀y∈ys,SOk y:=by
 cases r with
 | wds hl h ho hz hs=>exact ⟨_,_,rfl,hl,h,ho,hz,hs⟩
theorem reps_strs_of {K:PySem.W.Frag} {F:Fz} {H:Hp}:∀{ys:List Str},(∀y∈ys,SOk y)→aZ K F H (ys.map V.str) (ys.map D.str)
 | [],_=> .nil
 | y::ys,h=> .cons (.str y (h y List.mem_cons_self)) (reps_strs_of fun z hz=>h z (List.mem_cons_of_mem _ hz))
def TS (d:D) (xs:List D):Prop:=d= .tup xs∨∃ys,d= .wds ys∧xs=ys.map .str
theorem TS.u (ys:List Str):TS (.wds ys) (ys.map .str):= .inr ⟨ys,rfl,rfl⟩
theorem TS.t (xs:List D):TS (.tup xs) xs:= .inl rfl
theorem TS.at_ {K:PySem.W.Frag} {F:Fz} {H:Hp} {v:V} {d:D} {xs:List D} (h:TS d xs) (r:Rep K F H v d):∃a vs,v= .ref a∧aZ K F H vs xs∧xs.length≤sizeLine∧SqT K H a vs∧∀{F' H'},Mv F H F' H'→SqT K H' a vs:=by
 rcases h with rfl | ⟨ys,rfl,rfl⟩
 ·have hb:=r.bnd
  obtain ⟨a,vs,rfl,ha,ra⟩:=r.tupE
  exact ⟨a,vs,rfl,ra,hb,SqT.of ha,fun m=>SqT.of (m.stay.tup _ _ ha)⟩
 ·obtain ⟨a,o,rfl,fa,ha,_,hz,hs⟩:=r.wdsE
  exact ⟨a,_,rfl,reps_strs_of hs,by rw [List.length_map];exact hz,.inl (.inr ⟨o,ha⟩),fun m=> .inl (.inr ⟨o,m.fk _ _ fa ha⟩)⟩
section
variable {C:DL.Ctx} {Γ:Gm} {L:Lp} {Q:D→Lp→Prop} {pos p p2 apos:Pos} {e e2 o tg:Expr} {es:List Expr} {ys:List Str} {d:D} {xs:List D}
end
end DL
namespace DL
open PySem PySem.Spec PyProof.Rows L2
section
variable {C:DL.Ctx} {Γ:Gm} {L:Lp} {pos p:Pos} {e e2:Expr}
structure Ap2 (z TI TO i1 i2 a b:Addr):Prop where
 S:ZipSep2 z TI TO i1 i2 [i1,a] [i2,b]
 ai:a≠i1
 bi:b≠i2
end
end DL
namespace DL
open PySem PySem.Spec PyProof.Rows L2
section
variable {C:DL.Ctx} {Γ:Gm} {L:Lp} {Q:D→Lp→Prop} {pos p p2 apos:Pos} {e o fe:Expr} {es:List Expr} {d x y:D} {k:Nat} {g pm Cl:Addr} {mc:Value} {sp:SpA} {m:Str} {pl:Sem Bool}
end
end DL
namespace DL
open PySem PySem.Spec PyProof.Rows L2
section
variable {C:DL.Ctx} {Γ:Gm} {L:Lp} {Q:D→Lp→Prop} {kds:List (D×D)} {a:Addr}
end
section
variable {α:Type} [DecidableEq α]
end
end DL
namespace DL
open PySem PySem.Spec PyProof.Rows L2
section
variable {C:Ctx} {Γ:Gm} {L:Lp} {pos:Pos}
end
end DL
namespace DL
open PySem PySem.Spec PyProof.Rows L2
def toS (x:Str):List (Int ⊕ List Nat):=PySem.W.keyToks (.str x)
section
variable {C:Ctx} {Γ:Gm} {L:Lp} {Q:D→Lp→Prop} {pos p p2:Pos} {e:Expr}
end
end DL
namespace DL
open PySem PySem.Spec PyProof.Rows L2
section
variable {C:Ctx} {Γ:Gm} {L:Lp} {pos:Pos} {elt iter c:Expr}
theorem ixN_nat {n j:Nat} (h:j < n):ixN n (j:Int)=some j:=by
 unfold ixN
 rw [if_pos (by omega),if_pos (by omega)]
 congr 1
end
end DL
namespace DL
open PySem PySem.Spec PyProof.Rows L2
section
variable {C:Ctx} {L:Lp} {Q:D→Lp→Prop}
end
end DL
namespace DL
open PySem PySem.Spec PyProof.Rows L2
section
variable {C:Ctx} {Γ:Gm} {L:Lp} {e o1 b1 o2 b2:Expr} {pos p1 p2 pt:Pos} {kt:Nat} {E:AEnds}
end
end DL
namespace DL
open PySem PySem.Spec PyProof.Rows L2
section
variable {C:Ctx} {L:Lp} {Q:D→Lp→Prop} {ys:List Str}
end
end DL
namespace DL
open PySem PySem.Spec PyProof.Rows L2
section
variable {C:Ctx} {L:Lp} {Q:D→Lp→Prop} {x y:D}
end
end DL
namespace DL
open PySem PySem.Spec PyProof.Rows L2
section
variable {C:Ctx} {L:Lp} {Q:D→Lp→Prop}
end
end DL
namespace DL
open PySem PySem.Spec PyProof.Rows L2
section
variable {C:Ctx} {Γ:Gm} {L:Lp} {Q:D→Lp→Prop} {x:D} {o e:Expr} {pos apos:Pos} {α:Type} [Enc α] [DecidableEq α]
end
end DL
namespace DL
open PySem PySem.Spec PyProof.Rows L2
section
variable {C:DL.Ctx} {Γ:Gm} {L:Lp} {Q:D→Lp→Prop} {pos:Pos} {k1 v1 k2 v2 k3 v3 k4 v4:Expr}
end
end DL
namespace DL
open PySem PySem.Spec PyProof.Rows L2
section
variable {C:DL.Ctx} {Γ:Gm} {L:Lp} {Q:D→Lp→Prop} {x y:D} {Cl g:Addr} {k:Nat} {sp:SpA} {a e:Expr} {es:List Expr} {pos p:Pos}
end
end DL
namespace DL
open PySem PySem.Spec PyProof.Rows L2
section
variable {C:DL.Ctx} {L:Lp} {Q:D→Lp→Prop} {ys zs:List Str} {x y:D}
end
end DL
namespace DL
open PySem PySem.Spec PyProof.Rows L2
section
variable {C:DL.Ctx} {L:Lp} {Q:D→Lp→Prop}
end
end DL
namespace DL
open PySem PySem.Spec PyProof.Rows L2
section
variable {C:DL.Ctx} {L:Lp} {Q:D→Lp→Prop}
end
structure NI (L M:Lp) (p:Addr) (mo:MO):Prop where
 le:∀a u,L a=some u→a≠p→M a=some u
 p:M p=some mo
section
variable {L M:Lp} {p n:Addr} {mo mo' o:MO}
theorem NI.refl (h:L p=some mo):NI L L p mo:=⟨fun _ _ e _=>e,h⟩
theorem NI.fin (h:NI L M p mo):Le (put L p mo) M:=fun a u e=>by
 by_cases ea:a=p
 ·subst ea
  rw [aF] at e
  rw [←e]
  exact h.p
 ·rw [aK ea] at e
  exact h.le a u e ea
theorem NI.new (h:NI L M p mo) (hn:M n=none):NI L (put M n o) p mo:=⟨fun a u e ha=>by
 have:=h.le a u e ha
 rw [aK (aQ this hn)]
 exact this,by rw [aK (aQ h.p hn)];exact h.p⟩
theorem NI.pot (h:NI L M p mo):NI L (put M p mo') p mo':=⟨fun a u e ha=>by rw [aK ha];exact h.le a u e ha,aF⟩
theorem NI.own (h:NI L M p mo) (hn:L n=none) (hp:n≠p):NI L (put M n o) p mo:=⟨fun a u e ha=>by
 rw [aK (aQ e hn)]
 exact h.le a u e ha,by rw [aK hp.symm];exact h.p⟩
theorem NI.none (h:NI L M p mo) (hn:M n=none):L n=none:=by
 cases e:L n with
 | none=>rfl
 | some u=>
  by_cases hp:n=p
  ·subst hp
   rw [h.p] at hn
   cases hn
  ·rw [h.le n u e hp] at hn
   cases hn
theorem NI.ne (h:NI L M p mo) (hn:M n= .none):n≠p:=fun e=>by
 subst e
 rw [h.p] at hn
 cases hn
end
end DL
namespace DL
open PySem PySem.Spec PyProof.Rows L2
section
variable {C:DL.Ctx} {Γ:Gm} {L:Lp} {Q:D→Lp→Prop} {kds:List (D×D)} {a:Addr}
end
def ltD (x y:D):Bool:=PySem.W.dataLt (py x) (py y)
theorem zL (x y:D):leD x y= !ltD y x:=rfl
theorem tG (a b c:D) (h1:leD a b=true) (h2:leD b c=true):leD a c=true:=by
 rw [zL,Bool.not_eq_true'] at*
 cases h:ltD c a with
 | false=>rfl
 | true=>
  rcases (listOrd itemOrd).negTrans _ (PySem.W.keyToks (py b)) _ h with z | z
  ·exact absurd (show ltD c b=true from z) (by rw [h2];decide)
  ·exact absurd (show ltD b a=true from z) (by rw [h1];decide)
theorem tH (a b:D):(leD a b || leD b a)=true:=by
 rw [zL,zL]
 cases h:ltD b a with
 | false=>rfl
 | true=>
  cases h2:ltD a b with
  | false=>rfl
  | true=>
   have t:=(listOrd itemOrd).trans _ _ _ h h2
   have i:=(listOrd itemOrd).irrefl (PySem.W.keyToks (py b))
   have t2:(listOrd itemOrd).blt (PySem.W.keyToks (py b)) (PySem.W.keyToks (py b))=true:=t
   rw [t2] at i
   cases i
theorem sort_same {xs ys:List D} (pm:xs.Perm ys) (anti:∀a∈xs,∀b∈xs,ltD a b=false→ltD b a=false→a=b):xs.mergeSort leD=ys.mergeSort leD:=by
 have p1:=List.mergeSort_perm xs leD
 have p2:=List.mergeSort_perm ys leD
 refine List.Perm.eq_of_pairwise (le:=fun a b=>leD a b=true) (fun a b ha hb h1 h2=> ?_) (List.pairwise_mergeSort tG tH xs) (List.pairwise_mergeSort tG tH ys) ((p1.trans pm).trans p2.symm)
 rw [zL,Bool.not_eq_true'] at h1 h2
 exact anti a (p1.mem_iff.mp ha) b (pm.mem_iff.mpr (p2.mem_iff.mp hb)) h2 h1
theorem sort_twice {xs:List D}:(xs.mergeSort leD).mergeSort leD=xs.mergeSort leD:=List.mergeSort_of_pairwise (List.pairwise_mergeSort tG tH xs)
end DL
namespace DV
open PySem PySem.Spec PyProof.Rows L2
section
variable {P:Program} {w:World}
abbrev Nk (P:Program) (w:World) (h:Heap) (k:NestedKey) (a:Addr):Prop:=(nestedKind P w).is h k a
abbrev nh (w:World) (k:NestedKey):Int:=NestedKey.hash w k
def aAk (P:Program) (w:World) (n:Nat) (s:Shared) (v:Value):Prop:= ∀(A:Around) (E:Value→Shared→Prop) (Q:Bool→Shared→Prop),Q false s→wpAny (model P w) A (ofAClassStatement n v) Q E s
def uK (P:Program) (w:World) (n:Nat) (s:Shared) (v:Value):Prop:= ∀(A:Around) (E:Value→Shared→Prop) (Q:Bool→Shared→Prop),(∀b,Q b s)→wpAny (model P w) A (hashByValue n v) Q E s
theorem vI {n:Nat} {s:Shared} {v:Value} (e:ofAClassStatement n v=pure false):aAk P w n s v:=fun A E Q q=>by rw [e];exact wpAny_pure q
theorem tK {n:Nat} {s:Shared} {v:Value} {b:Bool} (e:hashByValue n v=pure b):uK P w n s v:=fun A E Q q=>by rw [e];exact wpAny_pure (q b)
theorem noCls_tup {n m:Nat} {s:Shared} {a:Addr} {o:Obj} {vs:Array Value} (ho:s.heap.get? a=some o) (hc:o.cls= .type "tuple") (hd:o.data= .seq vs m) (hv:∀v∈vs.toList,aAk P w n s v):aAk P w (n+1) s (.ref a):=fun A E Q q=>by
 have hT:s.TypeIs (.ref a) "tuple" :=⟨o,ho,hc⟩
 have e:(("tuple" :String)=="tuple")=true:=by decide
 unfold ofAClassStatement;refine wpAny_bind (wpAny_typeOf hT ?_);dsimp only
 simp only [e,if_true,Bool.not_true,Bool.false_eq_true,if_false]
 show wpAny _ _ (seqItems? (.ref a) >>=_) _ _ s
 refine wpAny_bind (wpAny_seqItems ho hd (wpAny_bind ?_));show wpAny _ _ (forIn vs _ _) _ _ s
 rw [←Array.forIn_toList];refine wpAny_forIn_list _ (fun l r s'=>r.1=none∧s'=s∧∀v∈l,aAk P w n s v) _ ?_ ?_ _ _ ⟨rfl,rfl,hv⟩
 ·rintro v l r s' ⟨e1,rfl,all⟩;refine wpAny_bind (all v List.mem_cons_self _ _ _ ?_)
  simp only [Bool.false_eq_true,if_false];exact wpAny_pure ⟨rfl,rfl,fun u hu=>all u (List.mem_cons_of_mem _ hu)⟩
 ·rintro ⟨r1,r2⟩ s' ⟨e1,rfl,_⟩;simp only at e1;subst e1;exact wpAny_pure q
theorem hvTold_tup {n m:Nat} {s:Shared} {a:Addr} {o:Obj} {vs:Array Value} (ho:s.heap.get? a=some o) (hc:o.cls= .type "tuple") (hd:o.data= .seq vs m) (hv:∀v∈vs.toList,uK P w n s v):uK P w (n+1) s (.ref a):=fun A E Q q=>by
 have hT:s.TypeIs (.ref a) "tuple" :=⟨o,ho,hc⟩
 unfold hashByValue;refine wpAny_bind (wpAny_specialOf hT F.slot_tuple_hash.lookup ?_)
 show wpAny _ _ (seqItems? (.ref a) >>=_) _ _ s
 refine wpAny_bind (wpAny_seqItems ho hd (wpAny_bind ?_));show wpAny _ _ (forIn vs _ _) _ _ s
 rw [←Array.forIn_toList];refine wpAny_forIn_list _ (fun l r s'=>r.1=none∧s'=s∧∀v∈l,uK P w n s v) _ ?_ ?_ _ _ ⟨rfl,rfl,hv⟩
 ·rintro v l r s' ⟨e1,rfl,all⟩;refine wpAny_bind (all v List.mem_cons_self _ _ _ fun b=> ?_)
  cases b
  ·simp only [Bool.not_false,if_true];exact wpAny_pure (wpAny_pure (q _))
  ·simp only [Bool.not_true,Bool.false_eq_true,if_false];exact wpAny_pure ⟨rfl,rfl,fun u hu=>all u (List.mem_cons_of_mem _ hu)⟩
 ·rintro ⟨r1,r2⟩ s' ⟨e1,rfl,_⟩;simp only at e1;subst e1;exact wpAny_pure (q _)
mutual
theorem tD:∀(k:NestedKey) (v:Value) (n:Nat) (s:Shared),NestedIs s.heap k v→k.depth≤n→aAk P w n s v
 | .none,_,n,s,x,_=>by cases x;exact vI (by cases n <;> rfl)
 | .num i,_,n,s,x,_=>by cases x <;> exact vI (by cases n <;> rfl)
 | .text y,_,n,s,x,_=>by cases x;exact vI (by cases n <;> rfl)
 | .tup ks,_,n,s,x,hn=>by
  cases x with
  | tup g1 g2 g3 g4=>
   rw [NestedKey.depth] at hn
   match n,hn with
   | m+1,hn=>exact noCls_tup g1 g2 g3 (noCls_keys ks _ m s g4 (Nat.le_of_succ_le_succ hn))
theorem noCls_keys:∀(ks:List NestedKey) (vs:List Value) (n:Nat) (s:Shared),NestedAll s.heap ks vs→NestedKey.depthAll ks≤n→∀v∈vs,aAk P w n s v
 | [],_,n,s,x,_,v,hv=>by cases x;cases hv
 | k::ks,_,n,s,x,hn,v,hv=>by
  cases x with
  | cons x1 x2=>
   rw [NestedKey.depthAll] at hn
   rcases List.mem_cons.mp hv with rfl | hv
   ·exact tD k _ n s x1 (Nat.le_trans (Nat.le_max_left _ _) hn)
   ·exact noCls_keys ks _ n s x2 (Nat.le_trans (Nat.le_max_right _ _) hn) v hv
end
mutual
theorem qK:∀(k:NestedKey) (v:Value) (n:Nat) (s:Shared),NestedIs s.heap k v→k.depth≤n→uK P w n s v
 | .none,_,n,s,x,_=>by cases x;exact tK (b:=true) (by cases n <;> rfl)
 | .num i,_,n,s,x,_=>by cases x <;> exact tK (b:=true) (by cases n <;> rfl)
 | .text y,_,n,s,x,_=>by cases x;exact tK (b:=false) (by cases n <;> rfl)
 | .tup ks,_,n,s,x,hn=>by
  cases x with
  | tup g1 g2 g3 g4=>
   rw [NestedKey.depth] at hn
   match n,hn with
   | m+1,hn=>exact hvTold_tup g1 g2 g3 (hvTold_keys ks _ m s g4 (Nat.le_of_succ_le_succ hn))
theorem hvTold_keys:∀(ks:List NestedKey) (vs:List Value) (n:Nat) (s:Shared),NestedAll s.heap ks vs→NestedKey.depthAll ks≤n→∀v∈vs,uK P w n s v
 | [],_,n,s,x,_,v,hv=>by cases x;cases hv
 | k::ks,_,n,s,x,hn,v,hv=>by
  cases x with
  | cons x1 x2=>
   rw [NestedKey.depthAll] at hn
   rcases List.mem_cons.mp hv with rfl | hv
   ·exact qK k _ n s x1 (Nat.le_trans (Nat.le_max_left _ _) hn)
   ·exact hvTold_keys ks _ n s x2 (Nat.le_trans (Nat.le_max_right _ _) hn) v hv
end
end
section
variable {P:Program} {w:World} {A:Around} {E:Value→Shared→Prop} {s:Shared}
theorem unseen {k:NestedKey} {b:Addr} {Q:Bool→Shared→Prop} (kb:Nk P w s.heap k b) {ys:List Value} (all:∀y∈ys,∃j c,y=Value.ref c∧Nk P w s.heap j c) (q:Q false s):wpAny (model P w) A (searchCouldBeSeen (.ref b) ys) Q E s:=by
 unfold searchCouldBeSeen
 refine wpAny_bind (wpAny_forIn_list _ (fun l r s'=>r.1=none∧s'=s∧∀y∈l,∃j c,y=Value.ref c∧Nk P w s.heap j c) _ ?_ ?_ _ _ ⟨rfl,rfl,all⟩)
 ·rintro v l r s' ⟨e1,rfl,al⟩
  obtain ⟨j,c,rfl,kc⟩:=al v List.mem_cons_self
  have al2:∀y∈l,∃j c,y=Value.ref c∧Nk P w s'.heap j c:=fun y hy=>al y (List.mem_cons_of_mem _ hy)
  dsimp only
  by_cases hv:(b==c || (carriedByValue (.ref b) && carriedByValue (.ref c)))=true
  ·exact wp_if_pos hv (wpAny_pure ⟨rfl,rfl,al2⟩)
  ·refine wp_if_neg hv (wpAny_bind ((nestedKind P w).quiet kb ?_));simp only [Bool.not_true,Bool.false_eq_true,if_false]
   refine wpAny_bind ((nestedKind P w).quiet kc ?_);simp only [Bool.not_true,Bool.false_eq_true,if_false]
   refine wpAny_bind (tD k _ 8 s' kb.1 kb.2 _ _ _ ?_);simp only [Bool.false_eq_true,if_false]
   refine wpAny_bind (tD j _ 8 s' kc.1 kc.2 _ _ _ ?_);simp only [Bool.false_eq_true,if_false]
   exact wpAny_pure ⟨rfl,rfl,al2⟩
 ·rintro ⟨r1,r2⟩ s' ⟨e1,rfl,_⟩;simp only at e1;subst e1;exact wpAny_pure q
end
end DV
namespace DU
open PySem PySem.Spec PyProof.Rows L2 TS
structure Msk (m:Nat):Prop where
 all:∀j,j≤m→∃b,b≤m∧lcgN m b=j
 rnd:lcgN m (m+1)=0
def chk (m:Nat):Bool:=((List.range (m+1)).all fun j=>(List.range (m+1)).any fun b=>lcgN m b==j) && (lcgN m (m+1)==0)
theorem Msk.of {m:Nat} (h:chk m=true):Msk m:=by
 unfold chk at h
 rw [Bool.and_eq_true] at h
 refine ⟨fun j hj=> ?_,eq_of_beq h.2⟩
 obtain ⟨b,hb,e⟩:=List.any_eq_true.mp (List.all_eq_true.mp h.1 j (List.mem_range.mpr (by omega)))
 exact ⟨b,by have:=List.mem_range.mp hb;omega,eq_of_beq e⟩
theorem msk7:Msk 7:= .of (by decide+kernel)
theorem msk31:Msk 31:= .of (by decide+kernel)
theorem msk127:Msk 127:= .of (by decide+kernel)
theorem Msk.per {m:Nat} (h:Msk m):∀k,lcgN m (m+1+k)=lcgN m k
 | 0=>h.rnd
 | k+1=>congrArg (fun x=>(x*5+1) % (m+1)) (h.per k)
theorem Msk.from_ {m:Nat} (h:Msk m) {i j:Nat} (hi:i≤m) (hj:j≤m):∃k,k≤m∧lcgI m i k=j:=by
 obtain ⟨a,ha,rfl⟩:=h.all i hi
 obtain ⟨b,hb,rfl⟩:=h.all j hj
 by_cases c:a≤b
 ·exact ⟨b - a,by omega,by rw [lcgN_add,show a+(b - a)=b by omega]⟩
 ·exact ⟨m+1+b - a,by omega,by rw [lcgN_add,show a+(m+1+b - a)=m+1+b by omega,h.per]⟩
theorem free_one {m:Nat} (owner:Array (Option Nat)):∀(f n i b:Nat),n < f→i≤m→oAt owner (itL m i b n).1=none→∃j,SetTable.layClean.free m owner f i b=some j∧j≤m∧oAt owner j=none
 | 0,_,_,_,hn,_,_=>absurd hn (Nat.not_lt_zero _)
 | f+1,n,i,b,hn,hi,hfree=>by
  rw [free_succ]
  have hb:=runEnd_bd hi
  cases hfd:(List.range (SetTable.runEnd m i+1 - i)).find? fun k=>(oAt owner (i+k)).isNone with
  | some k=>
   have h1:=List.find?_some hfd
   have h2:=List.mem_range.mp (List.mem_of_find?_eq_some hfd)
   refine ⟨i+k,rfl,by omega,?_⟩
   cases e:oAt owner (i+k) with
   | none=>rfl
   | some x=>rw [e] at h1;cases h1
  | none=>
   cases n with
   | zero=>
    have h1:=List.find?_eq_none.mp hfd 0 (List.mem_range.mpr (by omega))
    have h2:oAt owner (i+0)=none:=hfree
    rw [h2] at h1
    exact absurd rfl h1
   | succ n=>
    exact free_one owner f n _ _ (by omega) (Nat.le_of_lt_succ (Nat.mod_lt _ (Nat.succ_pos _))) hfree
theorem free_any {m:Nat} (hm:Msk m) (owner:Array (Option Nat)) (h:Int) {j:Nat} (hj:j≤m) (hf:oAt owner j=none):
  ∃j',SetTable.layClean.free m owner (SetTable.turns m) (SetTable.bits h % (m+1)) (SetTable.bits h)=some j'∧j'≤m∧oAt owner j'=none:=by
 obtain ⟨k,hk,e⟩:=hm.from_ (runI_le m (SetTable.bits h) 12) hj
 refine free_one owner _ (12+k) _ _ (by unfold SetTable.turns;omega) (Nat.le_of_lt_succ (Nat.mod_lt _ (Nat.succ_pos _))) ?_
 rw [itL_run]
 show oAt owner (runI m (SetTable.bits h) (12+k))=none
 rw [runI_tail (bits_lt h),e]
 exact hf
structure Ow (m n:Nat) (owner:Array (Option Nat)):Prop where
 sz:owner.size=m+1
 all:∀k,k < n→∃j,j≤m∧oAt owner j=some k
 ps:∃ps:List Nat,ps.length=n∧∀j,j≤m→oAt owner j≠none→j∈ps
theorem Ow.step {m n:Nat} (hm:Msk m) {owner:Array (Option Nat)} (W:Ow m n owner) (hl:n≤m) (h:Int):
  ∃j,SetTable.layClean.free m owner (SetTable.turns m) (SetTable.bits h % (m+1)) (SetTable.bits h)=some j∧Ow m (n+1) (owner.setIfInBounds j (some n)):=by
 obtain ⟨ps,hps,hin⟩:=W.ps
 obtain ⟨j0,h0,hn0⟩:=st_missing ps (m+1) (by omega)
 have hj0:oAt owner j0=none:=Classical.byContradiction fun z=>hn0 (hin j0 (by omega) z)
 obtain ⟨j,e1,e2,e3⟩:=free_any hm owner h (show j0≤m by omega) hj0
 have hjs:j < owner.size:=by rw [W.sz];omega
 refine ⟨j,e1,⟨by rw [Array.size_setIfInBounds];exact W.sz,fun k hk=> ?_,j::ps,by rw [List.length_cons,hps],fun i hi z=> ?_⟩⟩
 ·by_cases c:k=n
  ·exact ⟨j,e2,by rw [c];exact oAt_set_self _ hjs⟩
  ·obtain ⟨i,hi,e⟩:=W.all k (by omega)
   refine ⟨i,hi,?_⟩
   rw [oAt_set_ne _ (fun z=>by rw [z,e3] at e;cases e)]
   exact e
 ·by_cases c:i=j
  ·rw [c];exact List.mem_cons_self
  ·rw [oAt_set_ne _ c] at z
   exact List.mem_cons_of_mem _ (hin i hi z)
end DU
namespace DV
open PySem PySem.Spec PyProof.Rows L2 DU
def orb (m:Nat):Nat→Nat→List Nat
 | 0,_=> []
 | n+1,x=>x::orb m n ((x*5+1) % (m+1))
theorem orb_get (m:Nat):∀n a b,b < n→(orb m n (lcgN m a))[b]? =some (lcgN m (a+b))
 | 0,_,_,h=>absurd h (Nat.not_lt_zero _)
 | n+1,a,0,_=>rfl
 | n+1,a,b+1,h=>by
  have:=orb_get m n (a+1) b (by omega)
  show (orb m n (lcgN m (a+1)))[b]? =_
  rw [this,show a+1+b=a+(b+1) by omega]
def chk2 (m:Nat):Bool:=((List.range (m+1)).all fun j=>(orb m (m+1) 0).contains j) && (lcgN m (m+1)==0)
theorem orb_len (m:Nat):∀n x,(orb m n x).length=n
 | 0,_=>rfl
 | n+1,x=>congrArg (· +1) (orb_len m n _)
theorem msk_of {m:Nat} (h:chk2 m=true):Msk m:=by
 unfold chk2 at h
 rw [Bool.and_eq_true] at h
 refine ⟨fun j hj=> ?_,eq_of_beq h.2⟩
 have hc:=List.all_eq_true.mp h.1 j (List.mem_range.mpr (by omega))
 obtain ⟨b,hb⟩:=List.getElem?_of_mem (List.contains_iff_mem.mp hc)
 have hl:=(List.getElem?_eq_some_iff.mp hb).1
 rw [orb_len] at hl
 have e:=orb_get m (m+1) 0 b hl
 rw [show lcgN m 0=0 from rfl,hb,Nat.zero_add] at e
 exact ⟨b,by omega,(Option.some.inj e).symm⟩
theorem msk511:Msk 511:=msk_of (by decide+kernel)
def Mk (m:Nat):Prop:=m=7∨m=31∨m=127∨m=511
theorem Mk.msk {m:Nat} (h:Mk m):Msk m:=by rcases h with rfl | rfl | rfl | rfl <;> first | exact msk7 | exact msk31 | exact msk127 | exact msk511
theorem Mk.odd {m:Nat} (h:Mk m):m % 2=1:=by rcases h with rfl | rfl | rfl | rfl <;> rfl
theorem Mk.le {m:Nat} (h:Mk m):m≤511:=by rcases h with rfl | rfl | rfl | rfl <;> decide
theorem aAp (m:Nat) (h:Int) (k:Nat):way m h k≤m:=by
 have hi:SetTable.bits h % (m+1)≤m:=Nat.le_of_lt_succ (Nat.mod_lt _ (Nat.succ_pos _))
 have r:=runEnd_bd hi
 have q:=nth_in (m:=m) k (runAt m (SetTable.bits h % (m+1)) (SetTable.bits h)) (show SetTable.bits h % (m+1)+(SetTable.runEnd m (SetTable.bits h % (m+1)) - SetTable.bits h % (m+1))≤m by omega)
 show (nth m (runAt m (SetTable.bits h % (m+1)) (SetTable.bits h)) k).j≤m
 omega
theorem meets {m:Nat} (hm:Msk m) (h:Int) {j:Nat} (hj:j≤m):∃n,n≤m+12∧runI m (SetTable.bits h) n=j:=by
 obtain ⟨k,hk,e⟩:=hm.from_ (runI_le m (SetTable.bits h) 12) hj
 exact ⟨12+k,by omega,(runI_tail (bits_lt h) k).trans e⟩
theorem meets_way {m:Nat} (hm:Msk m) (h:Int) {j:Nat} (hj:j≤m):∃k,k < 10*SetTable.turns m∧way m h k=j:=by
 obtain ⟨n,hn,e⟩:=meets hm h hj
 obtain ⟨k,hk,e2⟩:=run_nth m (SetTable.bits h) n
 exact ⟨k,by unfold SetTable.turns;omega,(congrArg SetTable.Probe.j e2).trans e⟩
structure Tb (t:SetTable) (hs:List Int):Prop where
 ris:Ris t.place.toList
 dm:t.dummies= #[]
 sz:t.place.size=hs.length
 mok:Mk t.mask
 bd:∀x∈t.place.toList,x≤t.mask
 reach:∀(i:Nat) (h:Int) (j:Nat),hs[i]? =some h→t.place.toList[i]? =some j→∃k,way t.mask h k=j∧∀k',k' < k→way t.mask h k'∈t.place.toList
section
variable {t:SetTable} {hs:List Int} {h:Int} {K:Nat}
theorem Tb.first (T:Tb t hs) (hl:hs.length≤t.mask) (h:Int):∃K,K < 10*SetTable.turns t.mask∧way t.mask h K∉t.place.toList∧∀k,k < K→way t.mask h k∈t.place.toList:=by
 obtain ⟨j,hj,hn⟩:=st_missing t.place.toList (t.mask+1) (by rw [Array.length_toList,T.sz];omega)
 obtain ⟨k,hk,e⟩:=meets_way T.mok.msk h (show j≤t.mask by omega)
 obtain ⟨K,h1,h2,h3⟩:=st_least (p:=fun k=>way t.mask h k∉t.place.toList) k (by rw [e];exact hn)
 exact ⟨K,by omega,h2,fun k' hk'=>Classical.byContradiction fun c=>h3 k' hk' c⟩
theorem Tb.before (T:Tb t hs) {i j:Nat} (hK:way t.mask h K∉t.place.toList) (hi:hs[i]? =some h) (hj:t.place.toList[i]? =some j):∃k,k < K∧way t.mask h k=j:=by
 obtain ⟨k,e,hb⟩:=T.reach i h j hi hj
 refine ⟨k,Classical.byContradiction fun c=> ?_,e⟩
 by_cases c2:k=K
 ·rw [←c2,e] at hK
  exact hK (List.mem_of_getElem? hj)
 ·exact hK (hb K (by omega))
theorem Tb.put (T:Tb t hs) (hK:way t.mask h K∉t.place.toList) (hb:∀k,k < K→way t.mask h k∈t.place.toList):
  (t.put (way t.mask h K)).2=SetTable.below t.place (way t.mask h K)∧SetTable.below t.place (way t.mask h K)≤hs.length∧
  Tb (t.put (way t.mask h K)).1 (hs.take (SetTable.below t.place (way t.mask h K))++h::hs.drop (SetTable.below t.place (way t.mask h K)))∧
  (t.put (way t.mask h K)).1.mask=t.mask∧(t.put (way t.mask h K)).1.led=t.led∧(t.put (way t.mask h K)).1.plain=t.plain∧(t.put (way t.mask h K)).1.moves=t.moves∧(t.put (way t.mask h K)).1.finger=t.finger∧
  (t.put (way t.mask h K)).1.fill=hs.length+1:=by
 have hle:=aAp t.mask h K
 have self:∃k,way t.mask h k=way t.mask h K∧∀k',k' < k→way t.mask h k'∈t.place.toList:=⟨K,rfl,hb⟩
 generalize way t.mask h K=j at hK hle self ⊢
 have c1:=(below_cut T.ris j).1
 have np:t.place[SetTable.below t.place j]?≠some j:=fun e=>hK (List.mem_of_getElem? (by rw [Array.getElem?_toList];exact e))
 have ip:SetTable.below t.place j≤t.place.toList.length:=by rw [Array.length_toList];exact c1
 have ih:SetTable.below t.place j≤hs.length:=by rw [←T.sz];exact c1
 have places:=put_place t j
 have grown:(t.put j).1.place.size=hs.length+1:=by
  rw [←Array.length_toList,places,len_ins _ ip,Array.length_toList,T.sz]
 have still:∀x∈t.place.toList,x∈(t.put j).1.place.toList:=fun x hx=>by rw [places];exact mem_ins.2 (.inr hx)
 have more:∀{h':Int} {j':Nat},(∃k,way t.mask h' k=j'∧∀k',k' < k→way t.mask h' k'∈t.place.toList)→∃k,way t.mask h' k=j'∧∀k',k' < k→way t.mask h' k'∈(t.put j).1.place.toList:=fun ⟨k,e,z⟩=>⟨k,e,fun k' hk'=>still _ (z k' hk')⟩
 refine ⟨rfl,ih,⟨ris_insert T.ris np,put_dm T.dm j,by rw [len_ins _ ih];exact grown,T.mok,fun x hx=> ?_,fun i h' j' g1 g2=> ?_⟩,rfl,rfl,rfl,rfl,rfl,?_⟩
 ·rw [places] at hx
  rcases mem_ins.1 hx with rfl | z
  ·exact hle
  ·exact T.bd x z
 ·rw [tins_get hs ih] at g1
  rw [places,tins_get _ ip] at g2
  refine more ?_
  rcases Nat.lt_trichotomy i (SetTable.below t.place j) with c | c | c
  ·rw [if_pos c] at g1 g2
   exact T.reach i h' j' g1 g2
  ·rw [if_neg (by omega),if_pos c] at g1 g2
   rw [←Option.some.inj g1,←Option.some.inj g2]
   exact self
  ·rw [if_neg (by omega),if_neg (by omega)] at g1 g2
   exact T.reach (i - 1) h' j' g1 g2
 ·show (t.put j).1.place.size+(t.put j).1.dummies.size=hs.length+1
  rw [grown,put_dm T.dm j]
  rfl
end
theorem find_way {m:Nat} (hm:Msk m) (ow:Array (Option Nat)) (h:Int) {j:Nat} (hj:j≤m) (hf:oAt ow j=none):
  ∃K,SetTable.layClean.free m ow (SetTable.turns m) (SetTable.bits h % (m+1)) (SetTable.bits h)=some (way m h K)∧oAt ow (way m h K)=none∧∀k,k < K→oAt ow (way m h k)≠none:=by
 obtain ⟨n,hn,e⟩:=meets hm h hj
 have hw:way m h (off m (SetTable.bits h % (m+1)) (SetTable.bits h) n)=j:=by
  show (nth m (runAt m (SetTable.bits h % (m+1)) (SetTable.bits h)) (off m (SetTable.bits h % (m+1)) (SetTable.bits h) n)).j=j
  rw [nth_off,itL_run]
  exact e
 obtain ⟨K,k1,k2,k3⟩:=st_least (p:=fun k=>oAt ow (way m h k)=none) (off m (SetTable.bits h % (m+1)) (SetTable.bits h) n) (by rw [hw];exact hf)
 refine ⟨K,free_spec m ow (SetTable.turns m) n _ _ K (by unfold SetTable.turns;omega) k1 (fun k hk=> ?_) (Option.isNone_iff_eq_none.mpr k2),k2,k3⟩
 cases z:oAt ow (nth m (runAt m (SetTable.bits h % (m+1)) (SetTable.bits h)) k).j with
 | none=>exact absurd z (k3 k hk)
 | some _=>rfl
theorem own_more {m:Nat} (hm:Msk m) {done:List Int} {ow:Array (Option Nat)} (W:Own m done ow) (hl:done.length≤m) (h:Int):
  ∃j,SetTable.layClean.free m ow (SetTable.turns m) (SetTable.bits h % (m+1)) (SetTable.bits h)=some j∧Own m (done++ [h]) (ow.setIfInBounds j (some done.length)):=by
 obtain ⟨ps,hps,hin⟩:=W.ps
 obtain ⟨j0,h0,hn0⟩:=st_missing ps (m+1) (by omega)
 obtain ⟨K,e1,e2,e3⟩:=find_way hm ow h (show j0≤m by omega) (Classical.byContradiction fun z=>hn0 (hin j0 (by omega) z))
 have hle:=aAp m h K
 have self:=oAt_set_self (owner:=ow) (some done.length) (show way m h K < ow.size by rw [W.sz];omega)
 have keep:∀i,oAt ow i≠none→oAt (ow.setIfInBounds (way m h K) (some done.length)) i≠none:=fun i hi=>by
  by_cases c:i=way m h K
  ·rw [c,self];exact fun z=>nomatch z
  ·rw [oAt_set_ne _ c];exact hi
 have old:∀{j k:Nat},oAt ow j=some k→oAt (ow.setIfInBounds (way m h K) (some done.length)) j=some k:=fun {j k} e=>by
  rw [oAt_set_ne _ fun z=>by rw [z,e2] at e;cases e]
  exact e
 refine ⟨_,e1,⟨by rw [Array.size_setIfInBounds];exact W.sz,fun j k hj e=> ?_,fun k hk=> ?_,way m h K::ps,by simp [hps],fun j hj e=> ?_⟩⟩
 ·by_cases c:j=way m h K
  ·rw [c,self] at e
   rw [←Option.some.inj e]
   exact ⟨h,K,by simp,c.symm,fun i hi=>keep _ (e3 i hi)⟩
  ·rw [oAt_set_ne _ c] at e
   obtain ⟨h',K',a1,a2,a3⟩:=W.at_ j k hj e
   exact ⟨h',K',by rw [List.getElem?_append_left (List.getElem?_eq_some_iff.mp a1).1];exact a1,a2,fun i hi=>keep _ (a3 i hi)⟩
 ·rw [List.length_append,List.length_singleton] at hk
  rcases Nat.lt_or_ge k done.length with c | c
  ·obtain ⟨j,hj,e⟩:=W.all k c
   exact ⟨j,hj,old e⟩
  ·rw [show k=done.length by omega]
   exact ⟨_,hle,self⟩
 ·by_cases c:j=way m h K
  ·rw [c];exact List.mem_cons_self
  ·rw [oAt_set_ne _ c] at e
   exact List.mem_cons_of_mem _ (hin j hj e)
theorem own_all {m:Nat} (hm:Msk m):∀(rest done:List Int) (ow:Array (Option Nat)),Own m done ow→done.length+rest.length≤m→∃ow',rest.foldl (stepF m) (some (ow,done.length))=some (ow',(done++rest).length)∧Own m (done++rest) ow'
 | [],done,ow,W,_=>⟨ow,by rw [List.append_nil];rfl,by rw [List.append_nil];exact W⟩
 | h::rest,done,ow,W,hl=>by
  rw [List.length_cons] at hl
  obtain ⟨j,e,W'⟩:=own_more hm W (by omega) h
  obtain ⟨ow',f,W2⟩:=own_all hm rest (done++ [h]) _ W' (by rw [List.length_append,List.length_singleton];omega)
  rw [List.append_assoc] at f W2
  exact ⟨ow',by rw [List.foldl_cons,stepF_some e];rw [List.length_append] at f;exact f,W2⟩
theorem relaid_tb (t:SetTable) {hs:Array Int} {wanted M:Nat} (hw:SetTable.sizeAbove wanted - 1=M) (hM:Mk M) (hn:hs.size≤M):
  ∃t' order,t.relaid hs wanted=some (t',order)∧order.toList.Perm (List.range hs.size)∧Tb t' (order.toList.map fun i=>hs.getD i 0)∧t'.mask=M∧t'.led=t.led∧t'.plain=t.plain∧t'.dummies= #[]:=by
 obtain ⟨ow,f,W⟩:=own_all hM.msk hs.toList [] _ (Own.init M) (by rw [Array.length_toList];show 0+hs.size≤M;omega)
 rw [List.nil_append] at W
 have e:SetTable.layClean M hs=some ow:=by rw [layClean_eq,show hs.toList.foldl (stepF M) (some (Array.replicate (M+1) none,0))=_ from f];rfl
 have hr:t.relaid hs wanted=some (tabOf t M ow,((liveOf M ow).map (·.2)).toArray):=by rw [relaid_eq,hw,e];rfl
 have ris:=ris_live (fun j=>ow.getD j none) (List.range (M+1)) (by unfold Ris;first | exact List.pairwise_lt_range | exact List.pairwise_lt_range _)
 have r1:Ris ((liveOf M ow).map (·.1)):=ris.1
 have nd:((liveOf M ow).map (·.1)).Nodup:=List.Pairwise.imp (fun h=>Nat.ne_of_lt h) r1
 have live:∀{q:Nat×Nat},q∈liveOf M ow→q.1≤M∧oAt ow q.1=some q.2:=fun {q} hq=>(mem_live W.sz).1 (show (q.1,q.2)∈liveOf M ow from hq)
 have seat:∀k,k < hs.size→k∈(liveOf M ow).map (·.2):=fun k hk=>by
  obtain ⟨j,b1,b2⟩:=W.all k (by rw [Array.length_toList];exact hk)
  exact List.mem_map.mpr ⟨(j,k),(mem_live W.sz).2 ⟨b1,b2⟩,rfl⟩
 have hlen:(liveOf M ow).length=hs.size:=by
  obtain ⟨ps,p1,p2⟩:=W.ps
  have a:=nat_nodup_len ((liveOf M ow).map (·.1)) ps nd fun x hx=>by
   obtain ⟨q,hq,rfl⟩:=List.mem_map.mp hx
   exact p2 q.1 (live hq).1 (by rw [(live hq).2];exact fun z=>nomatch z)
  have b:=nat_nodup_len (List.range hs.size) ((liveOf M ow).map (·.2)) List.nodup_range fun k hk=>seat k (List.mem_range.mp hk)
  have hz:hs.toList.length=hs.size:=Array.length_toList
  rw [List.length_map,p1] at a
  rw [List.length_map,List.length_range] at b
  omega
 refine ⟨_,_,hr,perm_range hs.size _ (by show ((liveOf M ow).map (·.2)).length=_;rw [List.length_map];exact hlen) seat,⟨r1,rfl,?_,hM,fun x hx=> ?_,fun i h j g1 g2=> ?_⟩,rfl,rfl,rfl,rfl⟩
 ·show ((liveOf M ow).map (·.1)).toArray.size=(((liveOf M ow).map (·.2)).map fun i=>hs.getD i 0).length
  rw [List.size_toArray,List.length_map,List.length_map,List.length_map]
 ·obtain ⟨q,hq,rfl⟩:=List.mem_map.mp (show x∈(liveOf M ow).map (·.1) from hx)
  exact (live hq).1
 ·have g1:(((liveOf M ow).map (·.2)).map fun i=>hs.getD i 0)[i]? =some h:=g1
  have g2:((liveOf M ow).map (·.1))[i]? =some j:=g2
  rw [List.getElem?_map,List.getElem?_map] at g1
  rw [List.getElem?_map] at g2
  obtain ⟨q,hq,rfl⟩:=Option.map_eq_some_iff.mp g2
  rw [hq] at g1
  have g1:hs.getD q.2 0=h:=Option.some.inj g1
  obtain ⟨b1,b2⟩:=live (List.mem_of_getElem? hq)
  obtain ⟨h0,K,a1,a2,a3⟩:=W.at_ q.1 q.2 b1 b2
  have e0:h0=h:=by
   rw [←g1,Array.getD_eq_getD_getElem?,←Array.getElem?_toList,a1]
   rfl
  rw [←e0]
  refine ⟨K,a2,fun k' hk'=> ?_⟩
  show way M h0 k'∈(liveOf M ow).map (·.1)
  obtain ⟨k2,z⟩:=Option.ne_none_iff_exists'.mp (a3 k' hk')
  exact List.mem_map.mpr ⟨(way M h0 k',k2),(mem_live W.sz).2 ⟨aAp M h0 k',z⟩,rfl⟩
end DV
namespace DV
open PySem PySem.Spec PyProof.Rows L2
theorem size_308:SetTable.sizeAbove (SetTable.grown 77)=512:=by decide+kernel
def enN (w:World) (L:List (Addr×NestedKey)):List (Int×Value):=L.map fun p=>(nh w p.2,Value.ref p.1)
structure SN (P:Program) (w:World) (h:Heap) (a:Addr) (L:List (Addr×NestedKey)) (es:Array (Int×Value)) (ep:Nat) (t:SetTable):Prop where
 ob:∃o,h.get? a=some o∧o.ExactSet∧o.data= .set es ep t
 en:es.toList=enN w L
 tb:Tb t (L.map fun p=>nh w p.2)
 nd:(L.map (·.2)).Nodup
 ks:∀p∈L,Nk P w h p.2 p.1
 ld:w.params.followText "set-order"=true∨t.led=true
 rm:L.length*5 < t.mask*3
 few:L.length < 300
section
variable {P:Program} {w:World} {A:Around} {E:Value→Shared→Prop} {s:Shared} {a:Addr} {L:List (Addr×NestedKey)} {es:Array (Int×Value)} {ep:Nat} {t:SetTable}
theorem oY (h:es.toList=enN w L):es.size=L.length:=by
 rw [←Array.length_toList,h];exact List.length_map ..
theorem aA2 (h:es.toList=enN w L) {i:Nat} {p:Addr×NestedKey} (e:L[i]? =some p):es[i]? =some (nh w p.2,Value.ref p.1):=by
 rw [←Array.getElem?_toList,h];show (L.map _)[i]? =_;rw [List.getElem?_map,e];rfl
theorem fit_of {n:Nat} (h1:t.place.size=n) (h2:t.dummies= #[]) (h3:n≤t.mask):t.fits n=true:=by
 unfold SetTable.fits SetTable.fill;rw [h2,Bool.and_eq_true,beq_iff_eq,decide_eq_true_eq]
 exact ⟨h1,by show t.place.size+0≤t.mask;omega⟩
theorem SN.sz (R:SN P w s.heap a L es ep t):t.place.size=es.size:=by
 have:=R.tb.sz;rw [List.length_map] at this;rw [this,oY R.en]
theorem SN.fit (R:SN P w s.heap a L es ep t):t.fits es.size=true:=fit_of R.sz R.tb.dm (by have h1:=R.rm;rw [oY R.en];omega)
theorem SN.ngw (R:SN P w s.heap a L es ep t):¬t.gaveWay=true:=by
 unfold SetTable.gaveWay;rw [R.tb.mok.odd];decide
abbrev pr (t:SetTable) (g:Int) (c:Nat):SetTable.Probe:=nth t.mask (runAt t.mask (SetTable.bits g % (t.mask+1)) (SetTable.bits g)) c
theorem pr_dummy (t:SetTable) (g:Int) (c:Nat):(pr t g c).dummy=none:=by
 have go:∀(n:Nat) (p:SetTable.Probe),p.dummy=none→(nth t.mask p n).dummy=none:=fun n=>by
  induction n with
  | zero=>exact fun p h=>h
  | succ n ih=>exact fun p h=>ih (adv t.mask p) (by unfold adv;split <;> exact h)
 exact go c _ rfl
theorem pr_add (t:SetTable) (g:Int) (c q:Nat):nth t.mask (pr t g c) q=pr t g (c+q):=(nth_add t.mask c _ q).symm
theorem seek (R:SN P w s.heap a L es ep t) {x:Addr} {k:NestedKey} (kx:Nk P w s.heap k x) {g:Int} (eg:nh w k=g) (hu:(nestedKind P w).room A) {K:Nat} (hKf:K < 10*SetTable.turns t.mask)
  (hK:way t.mask g K∉t.place.toList) (hKb:∀c,c < K→way t.mask g c∈t.place.toList) {Q:SetFound→Shared→Prop}
  (qin:k∈L.map (·.2)→Q (.there none) s) (qout:k∉L.map (·.2)→Q (.free (way t.mask g K) false) s):
  ∀(f c:Nat) (st:Option SetTable.Probe),st.getD (t.probeStart g)=pr t g c→c≤K→K - c < f→
   (∀(i:Nat) p,L[i]? =some p→p.2=k→∃c',c≤c'∧c' < K∧t.place.toList[i]? =some (way t.mask g c'))→
   wpAny (model P w) A (setSearchFrom a (.ref x) g true f st) Q E s:=by
 intro f;induction f with
 | zero=>exact fun c st _ _ z=>absurd z (Nat.not_lt_zero _)
 | succ f ih=>
  intro c st est hc hf hre
  obtain ⟨o,ho,hex,hd⟩:=R.ob
  have hj:∀q,(nth t.mask (pr t g c) q).j=way t.mask g (c+q):=fun q=>congrArg SetTable.Probe.j (pr_add t g c q)
  have hat:∀(i:Nat) p,L[i]? =some p→(fun i=>(es[i]?.map (·.1)).getD 0) i=nh w p.2:=fun i p hp=>by show (es[i]?.map (·.1)).getD 0=_;rw [aA2 R.en hp];rfl
  have spec:=go_spec t R.tb.ris R.tb.dm (fun i=>(es[i]?.map (·.1)).getD 0) g (10*SetTable.turns t.mask) (K - c) _ (pr_dummy t g c) (by omega) (fun q hq=>by rw [hj];exact hKb (c+q) (by omega)) (by rw [hj,Nat.add_sub_cancel' hc];exact hK)
  rw [setSearchFrom_succ];refine wpAny_bind (wpAny_setState_of ho hd R.fit ?_);dsimp only;refine wp_if_neg R.ngw ?_
  try refine wpAny_bind (wpAny_pure ?_)
  rcases spec with ⟨q,i,hq,hi,hh,hno,hpr⟩ | ⟨hno,hpr⟩
  ·have hpr2:t.probe (fun i=>(es[i]?.map (·.1)).getD 0) g (st.getD (t.probeStart g))=some (.candidate (way t.mask g (c+q)) i (pr t g (c+(q+1)))):=by rw [est,←hj,←pr_add];exact hpr
   rw [hpr2];dsimp only;rw [hj] at hi
   have hil:i < L.length:=by
    have h1:=(List.getElem?_eq_some_iff.mp hi).1;rw [Array.length_toList,R.sz,oY R.en] at h1;exact h1
   obtain ⟨p,hp⟩:∃p,L[i]? =some p:=⟨_,List.getElem?_eq_getElem hil⟩
   have pm:p∈L:=List.mem_of_getElem? hp
   have rest:wpAny (model P w) A (searchRest a (.ref x) g true f es t (way t.mask g (c+q)) i (pr t g (c+(q+1)))) Q E s:=by
    unfold searchRest;rw [aA2 R.en hp];dsimp only
    refine wpAny_bind (wpAny_holding ((nestedKind P w).eqBool hu (R.ks p pm) kx ?_));refine wpAny_bind (wpAny_setState_of ho hd R.fit ?_);dsimp only
    by_cases hkk:p.2=k
    ·exact wp_if_pos (by simp [hkk]) (wpAny_pure (qin (List.mem_map.mpr ⟨p,pm,hkk⟩)))
    ·refine wp_if_neg (by simp [hkk]) ?_
     try refine wpAny_bind (wpAny_pure ?_)
     rw [sameMem];dsimp only
     have hsl:t.slot (way t.mask g (c+q))= .live i:=slot_live R.tb.ris hi
     simp only [if_true,hsl,aA2 R.en hp];refine wpAny_bind (wpAny_isSame_ref_self (wpAny_bind (wpAny_pure ?_)));simp only [if_true]
     refine wp_if_neg (by simp [hkk]) (ih (c+(q+1)) _ rfl (by omega) (by omega) fun i0 p0 h0 hk0=> ?_)
     obtain ⟨c',a1,a2,a3⟩:=hre i0 p0 h0 hk0
     refine ⟨c',?_,a2,a3⟩
     rcases Nat.lt_trichotomy c' (c+q) with z | z | z
     ·exact absurd ((hat i0 p0 h0).trans ((congrArg (nh w) hk0).trans eg)) (hno (c' - c) i0 (by omega) (by rw [hj,Nat.add_sub_cancel' a1];exact a3))
     ·rw [z] at a3;have s0:=slot_live R.tb.ris a3;rw [hsl] at s0;injection s0 with s0
      rw [←s0,hp] at h0;exact absurd ((congrArg Prod.snd (Option.some.inj h0)).trans hk0) hkk
     ·omega
   by_cases hl:t.led=true
   ·refine wp_if_neg (by simp [hl]) ?_
    try refine wpAny_bind (wpAny_pure ?_)
    exact rest
   ·refine wp_if_pos (by simp [hl]) (wpAny_bind (unseen kx (fun y hy=> ?_) ?_))
    ·obtain ⟨e,he,ee⟩:=List.mem_map.mp hy
     have he2 : e ∈ es.toList := by have h1 : e ∈ es ∧ e.1 = g := by simpa using he
                                    simpa using h1.1
     rw [R.en] at he2;obtain ⟨p2,hp2,e2⟩:=List.mem_map.mp he2
     exact ⟨p2.2,p2.1,by rw [←ee,←e2],R.ks p2 hp2⟩
    ·refine wp_if_neg (by decide) ?_
     try refine wpAny_bind (wpAny_pure ?_)
     exact rest
  ·have hpr2:t.probe (fun i=>(es[i]?.map (·.1)).getD 0) g (st.getD (t.probeStart g))=some (.empty (way t.mask g K) none):=by
    have e2:way t.mask g K=(nth t.mask (pr t g c) (K - c)).j:=by rw [hj,Nat.add_sub_cancel' hc]
    rw [est,e2];exact hpr
   rw [hpr2];dsimp only
   refine wpAny_pure (qout fun hm=> ?_)
   obtain ⟨p0,h0,hk0⟩:=List.mem_map.mp hm
   obtain ⟨i0,h00⟩:=List.getElem?_of_mem h0
   obtain ⟨c',a1,a2,a3⟩:=hre i0 p0 h00 hk0
   exact hno (c' - c) i0 (by omega) (by rw [hj,Nat.add_sub_cancel' a1];exact a3) ((hat i0 p0 h00).trans ((congrArg (nh w) hk0).trans eg))
theorem seek0 (R:SN P w s.heap a L es ep t) {x:Addr} {k:NestedKey} (kx:Nk P w s.heap k x) {g:Int} (eg:nh w k=g) (hu:(nestedKind P w).room A) {Q:SetFound→Shared→Prop} (qin:k∈L.map (·.2)→Q (.there none) s)
  (qout:∀K,k∉L.map (·.2)→way t.mask g K∉t.place.toList→(∀c,c < K→way t.mask g c∈t.place.toList)→Q (.free (way t.mask g K) false) s):wpAny (model P w) A (setSearch a (.ref x) g true) Q E s:=by
 have h0:=R.rm
 obtain ⟨K,hKf,hK,hKb⟩:=R.tb.first (by rw [List.length_map];omega) g
 have big:K < 100000:=Nat.lt_of_lt_of_le hKf (by unfold SetTable.turns;rcases R.tb.mok with e | e | e | e <;> omega)
 refine seek R kx eg hu hKf hK hKb qin (fun z=>qout K z hK hKb) 100000 0 none rfl (Nat.zero_le _) (by omega) fun i p hp hk=> ?_
 have hi:(L.map fun p=>nh w p.2)[i]? =some g:=by rw [List.getElem?_map,hp,←eg,←hk];rfl
 obtain ⟨j,hj⟩:∃j,t.place.toList[i]? =some j:=⟨_,List.getElem?_eq_getElem (by rw [Array.length_toList,R.sz,oY R.en];exact (List.getElem?_eq_some_iff.mp hp).1)⟩
 obtain ⟨c,hc,e⟩:=R.tb.before hK hi hj
 exact ⟨c,Nat.zero_le _,hc,by rw [hj,e]⟩
theorem Nk.beside {h h':Heap} {k:NestedKey} {b:Addr} {o:Obj} (kb:Nk P w h k b) (ho:h.get? a=some o) (hd:o.data= .set es ep t) (hs:Heap.SameBut a h h'):Nk P w h' k b:=
 nestedKind_stays.stays (fun c ob vs n hc e=>(hs.2 c fun z=>by subst z;rw [ho] at hc;cases hc;rw [hd] at e;cases e).trans hc) kb
theorem put_perm' {α:Type} (L:List α) (p:Nat) (x:α):(L.take p++x::L.drop p).Perm (x::L):=by
 have h:=(List.perm_middle (a:=x) (l₁:=L.take p) (l₂:=L.drop p));rwa [List.take_append_drop] at h
theorem enN_put (p:Nat) (x:Addr) (k:NestedKey):enN w (L.take p++(x,k)::L.drop p)=(enN w L).take p++(nh w k,Value.ref x)::(enN w L).drop p:=by
 unfold enN;rw [List.map_append,List.map_cons,List.map_take,List.map_drop]
theorem vU {α β:Type} {es:Array α} {L:List β} {f:β→α} (h:es.toList=L.map f):∀l:List Nat,l.filterMap (fun i=>es[i]?)=(l.filterMap fun i=>L[i]?).map f
 | []=>rfl
 | i::l=>by
  have e:es[i]? =(L[i]?).map f:=by rw [←Array.getElem?_toList,h,List.getElem?_map]
  cases q:L[i]? with
  | none=>rw [List.filterMap_cons_none (by rw [e,q];rfl),List.filterMap_cons_none q];exact vU h l
  | some v=>rw [List.filterMap_cons_some (by rw [e,q];rfl),List.filterMap_cons_some q,List.map_cons,vU h l]
theorem filt_len {α:Type} {L:List α}:∀l:List Nat,(∀i∈l,i < L.length)→∀{γ:Type} (f:α→γ) (d:γ) (v:Nat→γ),(∀i x,L[i]? =some x→v i=f x)→(l.filterMap fun i=>L[i]?).map f=l.map v
 | [],_,_,_,_,_,_=>rfl
 | i::l,h,_,f,d,v,hv=>by
  have hi:=h i List.mem_cons_self
  rw [List.filterMap_cons_some (List.getElem?_eq_getElem hi),List.map_cons,List.map_cons,filt_len l (fun j hj=>h j (List.mem_cons_of_mem _ hj)) f d v hv,hv i _ (List.getElem?_eq_getElem hi)]
theorem reorder (order:Array Nat) (hr:es.toList=enN w L) (hp:order.toList.Perm (List.range L.length)):
  ∃L2,(order.filterMap (es[·]?)).toList=enN w L2∧L2.Perm L∧(L2.map fun p=>nh w p.2)=order.toList.map fun i=>(es.map (·.1)).getD i 0:=by
 refine ⟨order.toList.filterMap fun i=>L[i]?,?_,?_,?_⟩
 ·rw [Array.toList_filterMap];exact vU hr _
 ·have h1:=hp.filterMap fun i=>L[i]?
  rwa [List.filterMap_getElem?_range_length] at h1
 ·refine filt_len (L:=L) order.toList (fun i hi=>List.mem_range.mp (hp.mem_iff.mp hi)) (fun p=>nh w p.2) 0 _ fun i x hx=> ?_
  have e5:(es.map (·.1))[i]? =some (nh w x.2):=by rw [Array.getElem?_map,aA2 hr hx];rfl
  simp [Array.getD_eq_getD_getElem?,e5]
theorem relay {o:Obj} (ho:s.heap.get? a=some o) (hex:o.ExactSet) (hd:o.data= .set es ep t) (hr:es.toList=enN w L) (hsz:t.place.size=es.size) (hdm:t.dummies= #[]) (hfl:es.size≤t.mask)
  (nd:(L.map (·.2)).Nodup) (ks:∀p∈L,Nk P w s.heap p.2 p.1) (ld:w.params.followText "set-order"=true∨t.led=true) (few:L.length < 300) {wanted M:Nat} (hw:SetTable.sizeAbove wanted - 1=M) (hM:Mk M) (hw2:SetTable.sizeAbove wanted≤512) (hn:L.length*5 < M*3)
  {Q:Unit→Shared→Prop} (q:∀h' L' es' ep' t',Heap.SameBut a s.heap h'→SN P w h' a L' es' ep' t'→L'.Perm L→Q () {s with heap:=h'}):wpAny (model P w) A (setRelay a wanted) Q E s:=by
 have hsl:=oY hr
 obtain ⟨t',order,e,hp,T,em,el,_,edm⟩:=relaid_tb t (hs:=es.map (·.1)) (wanted:=wanted) hw hM (by rw [Array.size_map,hsl];omega)
 rw [Array.size_map,hsl] at hp
 obtain ⟨L2,r1,r2,r3⟩:=reorder order hr hp
 rw [←r3] at T
 have hs2:(order.filterMap (es[·]?)).size=es.size:=by rw [oY r1,r2.length_eq,hsl]
 rw [setRelay_eq];refine wpAny_bind (wpAny_setState_of ho hd (fit_of hsz hdm hfl) ?_);dsimp only
 refine wp_if_neg (by rw [sizeLine_eq];omega) ?_
 try refine wpAny_bind (wpAny_pure ?_)
 rw [e];dsimp only;refine wpAny_bind (wp_if_neg (by rw [hs2];simp) ?_)
 try refine wpAny_bind (wpAny_pure ?_)
 refine wpAny_pure ?_;dsimp only
 refine wpAny_storeSet_of ho hd ?_ (by rw [hs2,hsl,sizeLine_eq];omega)
 have sb:Heap.SameBut a s.heap (s.heap.update a (Obj.putSet (order.filterMap (es[·]?)) t')):=Heap.SameBut.update ..
 exact q _ L2 _ (ep+1) t' sb ⟨⟨_,store_at ho hd,⟨hex.1,hex.2.1,hex.2.2⟩,rfl⟩,r1,T,(r2.map (·.2)).nodup_iff.mpr nd,fun p hpm=>(ks p (r2.mem_iff.mp hpm)).beside ho hd sb,by rw [el];exact ld,by rw [r2.length_eq,em];exact hn,by rw [r2.length_eq];exact few⟩ r2
theorem addKey (R:SN P w s.heap a L es ep t) {x:Addr} {k:NestedKey} (kx:Nk P w s.heap k x) (hu:(nestedKind P w).room A) (hfew:L.length+1 < 300) {Q:Bool→Shared→Prop}
  (q:∀b h' L' es' ep' t',Heap.SameBut a s.heap h'→SN P w h' a L' es' ep' t'→(k∈L.map (·.2)→L'=L)→(k∉L.map (·.2)→L'.Perm ((x,k)::L))→Q b {s with heap:=h'}):
  wpAny (model P w) A (setAddHashed a (.ref x) (nh w k)) Q E s:=by
 obtain ⟨o,ho,hex,hd⟩:=R.ob
 have hsl:=oY R.en
 have hroom:=R.rm
 unfold setAddHashed;refine wpAny_holding ?_
 rw [show (100000:Nat)=99999+1 from rfl,setAddHashedIn_succ];refine wpAny_bind (wpAny_setState_of ho hd R.fit ?_);dsimp only;refine wp_if_neg (by simp [byScan,Value.scannable]) ?_
 try refine wpAny_bind (wpAny_pure ?_)
 refine wpAny_bind (seek0 R kx rfl hu (fun hm=> ?_) fun K hm hK hb=> ?_) <;> dsimp only
 ·exact wpAny_pure (q false s.heap L es ep t (Heap.SameBut.refl a s.heap) R (fun _=>rfl) fun z=>absurd hm z)
 refine wpAny_bind (wpAny_setState_of ho hd R.fit ?_);dsimp only
 obtain ⟨q1,q2,q3,q4,q5,_,_,_,q9⟩:=R.tb.put hK hb
 generalize hpt:t.put (way t.mask (nh w k) K)=pt at q1 q3 q4 q5 q9 ⊢
 obtain ⟨t1,p⟩:=pt;dsimp only at q1 q3 q4 q5 q9 ⊢;subst q1
 have hin:(SetTable.insertAt es (SetTable.below t.place (way t.mask (nh w k) K)) (nh w k,Value.ref x)).toList=enN w (L.take (SetTable.below t.place (way t.mask (nh w k) K))++(x,k)::L.drop (SetTable.below t.place (way t.mask (nh w k) K))):=by rw [SetTable.toList_insertAt,enN_put,R.en]
 generalize hpp:SetTable.below t.place (way t.mask (nh w k) K)=p at q2 q3 hin ⊢
 have pm:=put_perm' L p (x,k)
 have hlen:(L.take p++(x,k)::L.drop p).length=L.length+1:=pm.length_eq
 have hhs:(L.take p++(x,k)::L.drop p).map (fun p=>nh w p.2)=(L.map fun p=>nh w p.2).take p++nh w k::(L.map fun p=>nh w p.2).drop p:=by rw [List.map_append,List.map_cons,List.map_take,List.map_drop]
 rw [←hhs] at q3
 have nd1:((L.take p++(x,k)::L.drop p).map (·.2)).Nodup:=(pm.map (·.2)).nodup_iff.mpr (List.nodup_cons.mpr ⟨hm,R.nd⟩)
 have hes:=(oY hin).trans hlen
 generalize SetTable.insertAt es p (nh w k,Value.ref x)=es1 at hin hes ⊢
 generalize L.take p++(x,k)::L.drop p=L1 at pm hlen q3 nd1 hin
 -- by value or not, the table differs in that mark alone
 have go:∀pl:Bool,wpAny (model P w) A (do
   storeSet a es1 (if pl=true then t1 else {t1 with plain:=false})
   if (!false && (if pl=true then t1 else {t1 with plain:=false}).tooFull)=true then setRelay a (SetTable.grown (es.size+1))
   return true) Q E s:=fun pl=>by
  obtain ⟨t2,ht2,f1,f2,f3,f4,f5⟩:∃t2:SetTable,(if pl=true then t1 else {t1 with plain:=false})=t2∧Tb t2 (L1.map fun p=>nh w p.2)∧t2.mask=t1.mask∧t2.led=t1.led∧t2.fill=t1.fill∧t2.tooFull=t1.tooFull:=by
   cases pl
   ·exact ⟨{t1 with plain:=false},rfl,⟨q3.ris,q3.dm,q3.sz,q3.mok,q3.bd,q3.reach⟩,rfl,rfl,rfl,rfl⟩
   ·exact ⟨t1,rfl,q3,rfl,rfl,rfl,rfl⟩
  rw [ht2];refine wpAny_bind (wpAny_storeSet_of ho hd ?_ (by rw [hes,sizeLine_eq];omega))
  have sb:Heap.SameBut a s.heap (s.heap.update a (Obj.putSet es1 t2)):=Heap.SameBut.update ..
  have ho1:=store_at (es':=es1) (t':=t2) ho hd
  generalize s.heap.update a (Obj.putSet es1 t2)=h1 at sb ho1 ⊢
  have ks1:∀p∈L1,Nk P w h1 p.2 p.1:=fun p hp=>by
   rcases List.mem_cons.mp (pm.mem_iff.mp hp) with e | hp
   ·rw [e];exact kx.beside ho hd sb
   ·exact (R.ks p hp).beside ho hd sb
  have ld1:w.params.followText "set-order"=true∨t2.led=true:=by rw [f3,q5];exact R.ld
  by_cases hf:t2.tooFull=true
  ·have hfull:(L.length+1)*5≥t1.mask*3:=by
    have h:=hf;rw [f5] at h;unfold SetTable.tooFull at h;rw [decide_eq_true_eq,q9,List.length_map] at h;exact h
   have c2:(t.mask=7∧L.length=4)∨(t.mask=31∧L.length=18)∨(t.mask=127∧L.length=76):=by
    rw [q4] at hfull
    rcases R.tb.mok with e | e | e | e <;> rw [e] at hfull hroom
    ·exact .inl ⟨e,by omega⟩
    ·exact .inr (.inl ⟨e,by omega⟩)
    ·exact .inr (.inr ⟨e,by omega⟩)
    ·omega
   have sz2:t2.place.size=es1.size:=by have h:=f1.sz;rw [List.length_map,hlen] at h;rw [h,hes]
   have on:∀M,SetTable.sizeAbove (SetTable.grown (L.length+1)) - 1=M→Mk M→SetTable.sizeAbove (SetTable.grown (L.length+1))≤512→(L.length+1)*5 < M*3→wpAny (model P w) A (setRelay a (SetTable.grown (L.length+1))) (fun _ s'=>wpAny (model P w) A (pure true) Q E s') E {s with heap:=h1}:=fun M b1 b2 b3 b4=>
    relay (s:={s with heap:=h1}) ho1 ⟨hex.1,hex.2.1,hex.2.2⟩ rfl hin sz2 f1.dm (by rw [hes,f2,q4];rcases c2 with ⟨e,e2⟩ | ⟨e,e2⟩ | ⟨e,e2⟩ <;> omega) nd1 ks1 ld1 (by rw [hlen];exact hfew) b1 b2 b3 (by rw [hlen];exact b4) fun h2 L2 es2 ep2 t3 sb2 R2 pm2=>wpAny_pure (q true h2 L2 es2 ep2 t3 (sb.trans sb2) R2 (fun z=>absurd z hm) fun _=>pm2.trans pm)
   rw [hsl]
   dsimp only;refine wp_if_pos (by simp [hf]) (wpAny_bind ?_)
   rcases c2 with ⟨_,e2⟩ | ⟨_,e2⟩ | ⟨_,e2⟩
   ·exact on 31 (by rw [e2,size_20]) (.inr (.inl rfl)) (by rw [e2,size_20];decide) (by omega)
   ·exact on 127 (by rw [e2,size_76]) (.inr (.inr (.inl rfl))) (by rw [e2,size_76];decide) (by omega)
   ·exact on 511 (by rw [e2,size_308]) (.inr (.inr (.inr rfl))) (by rw [e2,size_308];decide) (by omega)
  ·dsimp only;refine wp_if_neg (by simp [hf]) (wpAny_pure (q true h1 L1 es1 (ep+1) t2 sb ⟨⟨_,ho1,⟨hex.1,hex.2.1,hex.2.2⟩,rfl⟩,hin,f1,nd1,ks1,ld1,?_,by rw [hlen];exact hfew⟩ (fun z=>absurd z hm) fun _=>pm))
   have h:=hf;rw [f5] at h;unfold SetTable.tooFull at h;rw [decide_eq_true_eq,q9,List.length_map] at h;rw [hlen,f2];omega
 have tail:∀pl:Bool,wpAny (model P w) A (do
   let byValue:Bool:=pl
   storeSet a es1 (if byValue=true then t1 else {t1 with plain:=false})
   if (!false && (if byValue=true then t1 else {t1 with plain:=false}).tooFull)=true then setRelay a (SetTable.grown (es.size+1))
   return true) Q E s:=go
 by_cases hpl:t1.plain=true
 ·first
   | (refine wpAny_bind ?_;refine wp_if_pos hpl ?_;exact qK k _ 8 s kx.1 kx.2 _ _ _ fun b=>tail b)
   | exact wp_if_pos hpl (wpAny_bind (qK k _ 8 s kx.1 kx.2 _ _ _ fun b=>tail b))
 ·first
   | (refine wpAny_bind ?_;refine wp_if_neg hpl ?_;exact wpAny_pure (tail true))
   | exact wp_if_neg hpl (wpAny_bind (wpAny_pure (tail true)))
   | exact wp_if_neg hpl (tail true)
end
end DV
namespace DV
open PySem PySem.Spec PyProof.Rows L2
structure Had (ks:List (Addr×NestedKey)) (i:Nat) (L:List (Addr×NestedKey)):Prop where
 all:∀k,k∈L.map (·.2)↔k∈(ks.take i).map (·.2)
 sub:∀p∈L,p∈ks
 len:L.length≤i
section
variable {P:Program} {w:World} {A:Around} {E:Value→Shared→Prop} {s:Shared} {a:Addr}
theorem Nk.stay {h h':Heap} {k:NestedKey} {b:Addr} (x:Nk P w h k b) (kk:∀c o,h.get? c=some o→h'.get? c=some o):Nk P w h' k b:=nestedKind_stays.stays (fun c o _ _ e _=>kk c o e) x
theorem SN.stay {h h':Heap} {L:List (Addr×NestedKey)} {es:Array (Int×Value)} {ep:Nat} {t:SetTable} (R:SN P w h a L es ep t) (ha:∀o,h.get? a=some o→h'.get? a=some o) (hk:∀p∈L,Nk P w h' p.2 p.1):SN P w h' a L es ep t:=
 ⟨let ⟨o,ho,r⟩:=R.ob;⟨o,ha o ho,r⟩,R.en,R.tb,R.nd,hk,R.ld,R.rm,R.few⟩
theorem sn_fresh {h:Heap} (ho:h.get? a=some (DL.bV w)):SN P w h a [] #[] 0 (.fresh 0 0 (!w.params.followText "set-order")):=
 ⟨⟨_,ho,⟨rfl,rfl,rfl⟩,rfl⟩,rfl,⟨List.Pairwise.nil,rfl,rfl,.inl rfl,(fun x hx=>by cases hx),(fun i g j hi=>by simp at hi)⟩,List.nodup_nil,(fun p hp=>nomatch hp),by
  show _∨(!w.params.followText "set-order")=true;cases w.params.followText "set-order" <;> first | exact .inl rfl | exact .inr rfl,by show 0*5 < 7*3;decide,by show 0 < 300;decide⟩
theorem map_take1 {ks:List (Addr×NestedKey)} {i:Nat} {p:Addr×NestedKey} (h:ks[i]? =some p) (k:NestedKey):k∈(ks.take (i+1)).map (·.2)↔k∈(ks.take i).map (·.2)∨k=p.2:=by
 rw [List.take_add_one,h,List.map_append,List.mem_append];show _∨k∈ [p.2]↔_;rw [List.mem_singleton]
theorem fillN {I:Addr} {fp wr:List Addr} {G:Array GenState→Array GenState→Prop} {n:Nat} {Pv:Nat→Value→Prop} {St:Nat→Shared→Prop} {R:Result→Shared→Prop}
  (W:WalksS P w A.in1 I fp wr G n Pv St) (D:Addr) (hDf:D∉fp) (ks:List (Addr×NestedKey)) (hn:n=ks.length) (hfew:ks.length < 300) (hval:∀i v,Pv i v→∃p,ks[i]? =some p∧v= .ref p.1)
  (h0:Heap) (hk0:∀p∈ks,Nk P w h0 p.2 p.1) (hD0:h0.get? D=none) (hw0:∀b∈wr,h0.get? b=none) (hu:(nestedKind P w).room A.in1):
  ∀(k i:Nat) (s:Shared),n - i=k→i≤n→St i s→(∀b o,h0.get? b=some o→s.heap.get? b=some o)→(∃L es ep t,SN P w s.heap D L es ep t∧Had ks i L)→
   (∀s' L es ep t,Moved (D::wr) G s s'→SN P w s'.heap D L es ep t→Had ks n L→(∀b o,h0.get? b=some o→s'.heap.get? b=some o)→R (.ok (.ret .none)) s')→
   codeAny (model P w) A (.builtin "set.update.loop" ⟨[.ref D,.ref I],[]⟩) R s:=by
 have hDw:D∉wr:=fun z=>hDf (W.sub _ z)
 have hsub:∀b∈wr,b∈D::wr:=fun b z=>List.mem_cons_of_mem _ z
 have kept:∀{s s':Shared},Moved wr G s s'→(∀b o,h0.get? b=some o→s.heap.get? b=some o)→∀b o,h0.get? b=some o→s'.heap.get? b=some o:=fun hm kk b o e=>hm.heap b o (fun z=>by rw [hw0 b z] at e;cases e) (kk b o e)
 intro k;induction k with
 | zero=>
  intro i s hk' hi hst kk ⟨L,es,ep,t,hS,hd⟩ hR
  obtain rfl:i=n:=by omega
  refine codeAny_builtin PyProof.Rows.F.entry_set_update_loop ?_;rw [Around.under_plainId PyProof.Rows.F.plain_set_update_loop _]
  show wpAny _ A.in1 (pyNext (.ref I) >>=_) _ _ s
  refine wpAny_bind (W.done s _ _ hst fun s' hm=> ?_);show wpAny _ A.in1 (ret Value.none) _ _ s'
  exact wpAny_pure (hR s' L es ep t (hm.mono hsub) (hS.stay (fun o e=>hm.heap D o hDw e) fun p hp=>(hk0 p (hd.sub p hp)).stay (kept hm kk)) hd (kept hm kk))
 | succ k ih=>
  intro i s hk' hi hst kk ⟨L,es,ep,t,hS,hd⟩ hR
  have hlt:i < n:=by omega
  refine codeAny_builtin PyProof.Rows.F.entry_set_update_loop ?_;rw [Around.under_plainId PyProof.Rows.F.plain_set_update_loop _]
  show wpAny _ A.in1 (pyNext (.ref I) >>=_) _ _ s
  refine wpAny_bind (W.item i s _ _ hlt hst fun v s' hP hst' hm=> ?_)
  obtain ⟨p,hp,rfl⟩:=hval i v hP
  have hk1:=kept hm kk
  have hS':SN P w s'.heap D L es ep t:=hS.stay (fun o e=>hm.heap D o hDw e) fun q hq=>(hk0 q (hd.sub q hq)).stay hk1
  have kx:Nk P w s'.heap p.2 p.1:=(hk0 p (List.mem_of_getElem? hp)).stay hk1
  show wpAny _ A.in1 (holding [Value.ref p.1] (setAdd D (.ref p.1)) >>=_) _ _ s'
  refine wpAny_bind (wpAny_holding ?_);unfold setAdd;refine wpAny_holding (wpAny_bind ((nestedKind P w).pyHash hu kx ?_))
  refine addKey (s:={s' with toks:=s'.toks+(nestedKind P w).draws p.2}) hS' kx hu (by have:=hd.len;omega) fun b h' L' es' ep' t' hsb hS2 c1 c2=> ?_
  have hd':Had ks (i+1) L':=by
   by_cases c:p.2∈L.map (·.2)
   ·rw [c1 c];exact ⟨fun j=>by rw [map_take1 hp,hd.all];exact ⟨.inl,fun z=>z.elim id fun e=>by rw [e,←hd.all];exact c⟩,hd.sub,Nat.le_succ_of_le hd.len⟩
   ·have pm:=c2 c
    exact ⟨fun j=>by rw [map_take1 hp,(pm.map (·.2)).mem_iff,←hd.all];show j∈p.2::_↔_;rw [List.mem_cons];exact Or.comm,fun q hq=>(List.mem_cons.mp (pm.mem_iff.mp hq)).elim (fun e=>by rw [e];exact List.mem_of_getElem? hp) (hd.sub q),by rw [pm.length_eq];exact Nat.succ_le_succ hd.len⟩
  have hk2:∀b o,h0.get? b=some o→h'.get? b=some o:=fun b o e=>(hsb.2 b fun z=>by rw [z,hD0] at e;cases e).trans (hk1 b o e)
  refine wpAny_pure ⟨plainId_quiet PyProof.Rows.F.plain_set_update_loop _,ih (i+1) _ (by omega) hlt (W.frame _ s' _ _ hst' (Nat.le_add_right _ _) fun b hb o e=> ?_) hk2 ⟨L',es',ep',t',hS2,hd'⟩ fun s'' L2 es2 ep2 t2 hm'' hS'' g'' kk''=> ?_⟩
  ·rw [hsb.2 b fun q:b=D=>hDf (by rw [←q];exact hb)];exact e
  ·refine hR s'' L2 es2 ep2 t2 (Moved.trans W.gtrans ((hm.mono hsub).then_heap (Nat.le_add_right _ _) fun b o hb e=> ?_) hm'') hS'' g'' kk''
   rw [hsb.2 b fun q:b=D=>hb (by rw [q];exact List.mem_cons_self)];exact e
end
end DV
namespace DV
open PySem PySem.Spec PyProof.Rows L2 DL
theorem tupRef' {K:PySem.W.Frag} {Z:Fz} {H:Hp} {d:D} {v:V} {u:Value} (hk:∃es,d= .tup es) (r:Rep K Z H v d) (ru:RelV v u):∃b,v= .ref b∧u= .ref b:=by
 obtain ⟨es,rfl⟩:=hk
 obtain ⟨b,vs,rfl,_⟩:=r.tupE
 exact ⟨b,rfl,ru⟩
theorem keysOf {X:Cx} {pins:List (Addr×Obj)} {σ:L2.St} {H:Hp} {s:Shared} {Z:Fz} (I:Inv X pins σ H s):∀(ds:List D) (vs:List V) (us:List Value),(∀d∈ds,(∃es,d= .tup es)∧okN d=true∧(nk d).depth≤8)→aZ X.K Z H vs ds→Vals vs us→
  ∃ks:List (Addr×NestedKey),us=ks.map (fun p=>Value.ref p.1)∧(∀p∈ks,Nk X.prog X.w s.heap p.2 p.1)∧ks.map (·.2)=ds.map nk
 | [],_,_,_,.nil,.nil=>⟨[],rfl,(fun p hp=>nomatch hp),rfl⟩
 | d::ds,v::_,u::_,h,.cons r t,.cons ru tu=>by
  obtain ⟨ks,e1,e2,e3⟩:=keysOf I ds _ _ (fun x hx=>h x (List.mem_cons_of_mem _ hx)) t tu
  obtain ⟨ht,hk,h8⟩:=h d List.mem_cons_self
  obtain ⟨b,rfl,rfl⟩:=tupRef' ht r ru
  refine ⟨(b,nk d)::ks,by rw [e1];rfl,fun p hp=> ?_,by rw [List.map_cons,List.map_cons,e3]⟩
  rcases List.mem_cons.mp hp with rfl | hp
  ·exact ⟨Rep.nst I d _ _ hk r rfl,h8⟩
  ·exact e2 p hp
section
variable {C:DL.Ctx} {Γ:Gm} {L:Lp} {Q:D→Lp→Prop} {a:Expr} {p p2 pos q:Pos}
end
end DV
namespace DV
open PySem PySem.Spec PyProof.Rows L2 DL
theorem picks {X:Cx} {Z:Fz} {H:Hp}:∀(ds:List D) (vs:List V) (us:List Value) (ks:List (Addr×NestedKey)),aZ X.K Z H vs ds→Vals vs us→us=ks.map (fun p=>Value.ref p.1)→ks.map (·.2)=ds.map nk→
  ∀p∈ks,∃d∈ds,nk d=p.2∧∃x,RelV x (Value.ref p.1)∧Rep X.K Z H x d
 | [],_,_,[],_,_,_,_,p,hp=>nomatch hp
 | [],_,_,_::_,_,_,_,e,_,_=>by cases e
 | d::ds,v::vs,u::us,[],_,_,e,_,_,_=>by cases e
 | d::ds,v::vs,u::us,k::ks,.cons r t,.cons ru tu,e1,e2,p,hp=>by
  obtain ⟨e3,e4⟩:=List.cons.inj e1
  obtain ⟨e5,e6⟩:=List.cons.inj e2
  rcases List.mem_cons.mp hp with rfl | hp
  ·exact ⟨d,List.mem_cons_self,e5.symm,v,by have e3:u=Value.ref p.1:=e3;rw [←e3];exact ru,r⟩
  ·obtain ⟨d',h1,h2⟩:=picks ds vs us ks t tu e4 e6 p hp
   exact ⟨d',List.mem_cons_of_mem _ h1,h2⟩
theorem pickAll {R:Addr×NestedKey→D→Prop}:∀{L:List (Addr×NestedKey)},(∀p∈L,∃d,R p d)→∃es:List D,Paired R L es
 | [],_=>⟨[],.nil⟩
 | p::L,h=>by
  obtain ⟨d,hd⟩:=h p List.mem_cons_self
  obtain ⟨es,he⟩:=pickAll (L:=L) fun q hq=>h q (List.mem_cons_of_mem _ hq)
  exact ⟨d::es,.cons hd he⟩
theorem paired_mem {α β:Type} {R:α→β→Prop}:∀{xs:List α} {ys:List β},Paired R xs ys→∀y∈ys,∃x∈xs,R x y
 | _,_,.nil,y,hy=>nomatch hy
 | x::xs,y'::ys,.cons h t,y,hy=>by
  rcases List.mem_cons.mp hy with rfl | hy
  ·exact ⟨x,List.mem_cons_self,h⟩
  ·obtain ⟨z,hz,hr⟩:=paired_mem t y hy
   exact ⟨z,List.mem_cons_of_mem _ hz,hr⟩
theorem paired_keys {R:Addr×NestedKey→D→Prop} (hR:∀p d,R p d→nk d=p.2):∀{L:List (Addr×NestedKey)} {es:List D},Paired R L es→es.map nk=L.map (·.2)
 | _,_,.nil=>rfl
 | p::L,d::es,.cons h t=>by rw [List.map_cons,List.map_cons,hR p d h,paired_keys hR t]
theorem paired_perm {α β:Type} {R:α→β→Prop} {xs xs':List α} (pm:xs'.Perm xs):∀{ys:List β},Paired R xs ys→∃ys',ys'.Perm ys∧Paired R xs' ys':=by
 induction pm with
 | nil=>exact fun h=>by cases h;exact ⟨[],.refl _,.nil⟩
 | cons x p ih=>
  intro ys h
  cases h with
  | cons h t=>
   obtain ⟨ys',p',t'⟩:=ih t
   exact ⟨_::ys',p'.cons _,.cons h t'⟩
 | swap x y l=>
  intro ys h
  cases h with
  | cons h1 t=>
   cases t with
   | cons h2 t=>exact ⟨_::_::_,List.Perm.swap _ _ _,.cons h2 (.cons h1 t)⟩
 | trans p1 p2 ih1 ih2=>
  intro ys h
  obtain ⟨ys1,q1,t1⟩:=ih2 h
  obtain ⟨ys2,q2,t2⟩:=ih1 t1
  exact ⟨ys2,q2.trans q1,t2⟩
theorem pairedM {α β:Type} {R S:α→β→Prop}:∀{xs:List α} {ys:List β},(∀x y,y∈ys→R x y→S x y)→Paired R xs ys→Paired S xs ys
 | _,_,_,.nil=> .nil
 | _::_,_::_,h,.cons r t=> .cons (h _ _ List.mem_cons_self r) (pairedM (fun x y hy=>h x y (List.mem_cons_of_mem _ hy)) t)
theorem perm_map_inv {α β:Type} {f:α→β} {l:List α} {vs:List β} (h:vs.Perm (l.map f)):∃l':List α,vs=l'.map f∧l'.Perm l:=by
 generalize hm:l.map f=ms at h
 induction h generalizing l with
 | nil=>exact ⟨[],rfl,by cases l with | nil=>exact .refl _ | cons _ _=>cases hm⟩
 | cons x p ih=>
  cases l with
  | nil=>cases hm
  | cons y l=>
   obtain ⟨e1,e2⟩:=List.cons.inj hm
   obtain ⟨l',h1,h2⟩:=ih e2
   exact ⟨y::l',by rw [List.map_cons,e1,h1],h2.cons y⟩
 | swap x y l0=>
  cases l with
  | nil=>cases hm
  | cons a l=>
   obtain ⟨e1,e2⟩:=List.cons.inj hm
   cases l with
   | nil=>cases e2
   | cons b l=>
    obtain ⟨e3,e4⟩:=List.cons.inj e2
    exact ⟨b::a::l,by rw [List.map_cons,List.map_cons,e1,e3,e4],List.Perm.swap _ _ _⟩
 | trans p1 p2 ih1 ih2=>
  obtain ⟨l1,h1,h2⟩:=ih2 hm
  obtain ⟨l2,h3,h4⟩:=ih1 h1.symm
  exact ⟨l2,h3,h4.trans h2⟩
theorem paired_map {α β γ:Type} {f:α→γ} {R:γ→β→Prop}:∀{xs:List α} {ys:List β},Paired (fun x y=>R (f x) y) xs ys→Paired R (xs.map f) ys
 | _,_,.nil=> .nil
 | _::_,_::_,.cons h t=> .cons h (paired_map t)
section
variable {C:DL.Ctx} {Γ:Gm} {L:Lp} {Q:D→Lp→Prop} {a:Expr} {p p2 pos q:Pos}
end
end DV
namespace DV
open PySem PySem.Spec PyProof.Rows L2
section
variable {P:Program} {w:World} {A:Around} {E:Value→Shared→Prop} {s:Shared} {a:Addr}
set_option maxHeartbeats 3200000 in
theorem call_setNT {l:Addr} {items:Array Value} (ks:List (Addr×NestedKey)) {Q:Value→Shared→Prop} (hh:A.handled=none) (hl:s.heap.IsTuple l items) (hit:items.toList=ks.map fun p=>Value.ref p.1) (hk0:∀p∈ks,Nk P w s.heap p.2 p.1) (hfew:ks.length < 300) (hu:A.units+16 < cLine)
  (h:∀(h':Heap) (tk:Nat) L es ep t,SN P w h' s.heap.objs.size L es ep t→Had ks ks.length L→(∀b o,s.heap.get? b=some o→h'.get? b=some o)→Q (.ref s.heap.objs.size) {s with heap:=h',toks:=tk}):
  wpAny (model P w) A (call (.type "set") [.ref l]) Q E s:=by
 have hisz:items.size=ks.length:=by rw [←Array.length_toList,hit,List.length_map]
 obtain ⟨c0,tl,hmro⟩:=PySem.F.called_set.mro
 have k_made:=PySem.F.called_set.made
 have k_sub:=PySem.F.called_set.sub
 refine wpAny_call (codeAny_of_tree ?_)
 show wpAny _ _ (callAny (.type "set") _) _ _ _
 refine wpAny_pure ⟨Code.quiet_builtin _ (by decide+kernel),codeAny_builtin PySem.F.entry_type_call ?_⟩
 rw [Around.under_plain (weight_type_call_type "set" [.ref l] []) rfl]
 have k_1:=PySem.F.called_set.notType
 have k_2:=PySem.F.called_set.canCreate
 have k_3:=PySem.F.typeCall_set_1 (.ref l)
 repeat (any_goals (first | assumption | wp_step))
 refine codeAny_mono (code_set_led1 (.ref l) (E:=E) (Q₁:=fun ob s₁=>ob= .ref s.heap.objs.size∧s₁={s with heap:=s.heap.push (DL.bV w)}) ⟨rfl,rfl⟩) fun r s₁ hr=> ?_
 cases r with
 | error e=>exact hr
 | ok fl=>
  cases fl with
  | ret ob=>
   obtain ⟨rfl,rfl⟩:=hr
   have hS:(s.heap.push (DL.bV w)).get? s.heap.objs.size=some (DL.bV w):=Heap.get?_push_size _ rfl
   have hT:Shared.TypeIs {s with heap:=s.heap.push (DL.bV w)} (.ref s.heap.objs.size) "set" :=⟨_,hS,rfl⟩
   have k_4:=PySem.F.called_set.init.lookup
   have k_5:=PySem.F.called_set.init.bind (.ref s.heap.objs.size)
   repeat (any_goals (first | assumption | wp_step))
   refine codeAny_mono (codeAny_call_builtin (R:=wants (fun r s₂=>r= .none∧∃h' tk L es ep t,s₂={s with heap:=h',toks:=tk}∧SN P w h' s.heap.objs.size L es ep t∧Had ks ks.length L∧(∀b o,s.heap.get? b=some o→h'.get? b=some o)) E) PySem.F.called_set.init.plain PySem.F.entry_set_init (check_set_init_1 hT ?_)) fun r₂ s₂ hr₂=> ?_
   ·obtain ⟨ol,hol,hcl,nl,hdl⟩:=hl
    obtain ⟨ocls,odict,odata,oslots⟩:=ol
    simp only at hcl hdl
    subst hcl;subst hdl
    have hol':(s.heap.push (DL.bV w)).get? l=some {cls:= .type "tuple",dict:=odict,data:= .seq items nl,slots:=oslots}:=Heap.get?_push_of_some _ hol
    have k_6:=PySem.F.sub_tuple_set
    have k_7:=PySem.F.sub_tuple_frozenset
    have k_8:(Value.type "tuple"==Value.type "dict")=false:=by decide
    have hl1:(s.heap.push (DL.bV w)).IsTuple l items:=⟨_,hol',rfl,nl,rfl⟩
    unfold Builtin.«set.__init__» noKeywords Builtin.Frozenset.updateFrom
    generalize hPI:pyIter=PI
    wp_walk
    subst hPI
    refine wpAny_pyIter_tuple hl1 ?_
    refine wpAny_bind (wpAny_runValue ?_)
    have hlS:l < s.heap.objs.size:=Heap.lt_size hol
    have hh3:A.in1.in1.in1.handled=none:=by simp [hh]
    have hz1:(s.heap.push (DL.bV w)).objs.size=s.heap.objs.size+1:=Heap.size_push ..
    have hneI:l≠(s.heap.push (DL.bV w)).objs.size:=by rw [hz1];exact Nat.ne_of_lt (Nat.lt_succ_of_lt hlS)
    have hSf:s.heap.objs.size∉ [(s.heap.push (DL.bV w)).objs.size,l]:=by
     rw [hz1];simp only [List.mem_cons,List.not_mem_nil,or_false,not_or];exact ⟨Nat.ne_of_lt (Nat.lt_succ_self _),Nat.ne_of_gt hlS⟩
    have hval:∀(i:Nat) (v:Value),items[i]? =some v→∃p,ks[i]? =some p∧v= .ref p.1:=fun i v hv=>by
     have z:items.toList[i]? =some v:=by rw [Array.getElem?_toList];exact hv
     rw [hit,List.getElem?_map] at z;obtain ⟨p,hp,e⟩:=Option.map_eq_some_iff.mp z;exact ⟨p,hp,e.symm⟩
    have free:∀b,s.heap.objs.size≤b→s.heap.get? b=none:=fun b hb=>by
     cases z:s.heap.get? b with
     | none=>rfl
     | some o=>exact absurd (Heap.lt_size z) (Nat.not_lt.mpr hb)
    refine fillN ((Walks.tuple hh3 _ l hneI items).toS) s.heap.objs.size hSf ks hisz hfew hval s.heap hk0 (free _ (Nat.le_refl _)) (fun b hb=>free b (by rw [List.mem_singleton.mp hb,hz1];exact Nat.le_succ _)) ?hU (items.size - 0) 0 _ (by omega) (Nat.zero_le _)
     ⟨⟨_,Heap.get?_push_size _ rfl,rfl,rfl⟩,(hl1.push _)⟩ (fun b o e=>Heap.get?_push_of_some _ (Heap.get?_push_of_some _ e)) ?hS0 ?hR
    case hU=>
     show A.in1.in1.in1.units+8 < cLine
     simp only [Around.in1_units];omega
    case hS0=>exact ⟨[],#[],0,_,sn_fresh (Heap.get?_push_of_some _ hS),fun k=>by simp,(fun p hp=>nomatch hp),Nat.le_refl 0⟩
    case hR=>
     intro s' L es ep t hm hS' hd' kk'
     obtain ⟨h',g2,d',tk',os'⟩:=s'
     obtain rfl:g2=s.gens:=hm.gens
     obtain rfl:d'=s.drawn:=hm.drawn
     obtain rfl:os'=s.os:=hm.os
     show wpAny _ _ _ _ _ _
     refine wpAny_pure ?_
     show wpAny _ _ (ret Value.none) _ _ _
     rw [hisz] at hd'
     exact wpAny_pure ⟨rfl,h',tk',L,es,ep,t,rfl,hS',hd',kk'⟩
   ·cases r₂ with
    | error e=>exact hr₂
    | ok fl₂=>
     cases fl₂ with
     | ret r=>
      obtain ⟨rfl,h',tk,L,es,ep,t,rfl,hS',hd',kk'⟩:=hr₂
      repeat (any_goals (first | assumption | wp_step))
      exact h _ _ _ _ _ _ hS' hd' kk'
     | _=>exact hr₂.elim
  | _=>exact hr.elim
end
end DV
namespace DV
open PySem PySem.Spec PyProof.Rows L2 DL
section
variable {C:DL.Ctx} {Γ:Gm} {L:Lp} {Q:D→Lp→Prop} {a:Expr} {p p2 pos q:Pos}
set_option maxHeartbeats 3200000 in
theorem ae_sortSetT (hu:C.X.A.units+100 < cLine) (hm:C.X.mg "sorted"=none) (hm2:C.X.mg "set"=none)
  (h:AE C a Γ L fun x L1=> ∃(ds:List D),x= .tup ds∧(∀d∈ds,(∃es,d= .tup es)∧okN d=true∧(nk d).depth≤8∧okD d=true∧(py d).depth≤64)∧ds.length < 300∧(∀es:List D,(∀d∈es,d∈ds)→PySem.W.AllAlike (es.map py)∧PySem.W.Sortable (es.map py))∧
   ∀(t:Addr) (es:List D),L1 t=none→(∀d∈es,d∈ds)→(es.map nk).Nodup→(∀k,k∈es.map nk↔k∈ds.map nk)→Q (.ptr t) (put L1 t (.lst (es.mergeSort leD))))
  (hg:Gl C.X "sorted" :=by rfl) (hg2:Gl C.X "set" :=by rfl) (hc:C.X.calm=true:=by rfl) (na:starEach [a] C.X.env=(false,eval a C.X.env)::starEach [] C.X.env:=by rfl):AE C (.Call (.Name "sorted" p) [.Call (.Name "set" p2) [a] [] q] [] pos) Γ L Q:=fun Z σ H ok QV go=>⟨fun pins s I=>by
 refine Call_ (ld_blt I hg hm PyProof.Rows.boot_sorted ?_)
 refine PyProof.Rows.callWith_builtin1 (PyProof.Rows.args_cons ?_ rfl) rfl rfl
 refine Call_ (ld_blt I hg2 hm2 PyProof.Rows.boot_set ?_)
 refine PyProof.Rows.callWith_type1 (PyProof.Rows.args_cons (thn ((h Z σ H ok (fun v H1=> ∃d L1 Z1,Rep C.X.K Z1 H1 v d∧C.Con L1 Z1 H1∧Fr L Z H L1 Z1 H1∧∃(ds:List D),d= .tup ds∧(∀d∈ds,(∃es,d= .tup es)∧okN d=true∧(nk d).depth≤8∧okD d=true∧(py d).depth≤64)∧ds.length < 300∧(∀es:List D,(∀d∈es,d∈ds)→PySem.W.AllAlike (es.map py)∧PySem.W.Sortable (es.map py))∧∀(t:Addr) (es:List D),L1 t=none→(∀d∈es,d∈ds)→(es.map nk).Nodup→(∀k,k∈es.map nk↔k∈ds.map nk)→Q (.ptr t) (put L1 t (.lst (es.mergeSort leD)))) fun v d H1 L1 r1 c1 f1 q1=>⟨d,L1,_,r1,c1,f1,q1⟩).run pins s I) fun v s1 ⟨x,H1,I1,r1,d,L1,Z1,rd,c1,f1,ds,ed,hds,h64,hsrt,q1⟩=>PyProof.Rows.args_nil ?_) na) na rfl
 subst ed
 obtain ⟨l,ws,rfl,ha,ra⟩:=rd.tupE
 obtain rfl:v=Value.ref l:=r1
 have hz:ds.length≤sizeLine:=rd.bnd
 obtain ⟨its,rv,hL,_⟩:=I1.tuple (SqT.of ha)
 obtain ⟨ks,e1,e2,e3⟩:=keysOf I1 ds ws its (fun d hd=>⟨(hds d hd).1,(hds d hd).2.1,(hds d hd).2.2.1⟩) ra rv
 have hpk:=picks ds ws its ks ra rv e1 e3
 have hlen:ks.length=ds.length:=by have:=congrArg List.length e3;rwa [List.length_map,List.length_map] at this
 refine call_setNT ks (I1.ok.hd hc) hL (by simpa using e1) e2 (by omega) (by first | omega | (simp only [Around.in1_units];omega)) fun h' tk LL es ep t hS hd kk=> ?_
 refine PyProof.Rows.args_nil ?_
 obtain ⟨o,ho,hex,hdt⟩:=hS.ob
 have I2:Inv C.X pins σ H1 {s1 with heap:=h',toks:=tk}:=I1.kept fun b o e=>kk b o e
 obtain ⟨es0,hes0⟩:=pickAll (R:=fun p d=>(d∈ds∧nk d=p.2)∧∃x,RelV x (Value.ref p.1)∧Rep C.X.K Z1 H1 x d) fun p hp=>by
  obtain ⟨d,h1,h2,h3⟩:=hpk p (hd.sub p hp)
  exact ⟨d,⟨h1,h2⟩,h3⟩
 have m0:∀d∈es0,d∈ds:=fun d hd0=>by
  obtain ⟨p,_,h1,_⟩:=paired_mem hes0 d hd0
  exact h1.1
 have k0:es0.map nk=LL.map (·.2):=paired_keys (fun p d h=>h.1.2) hes0
 have nd0:(es0.map nk).Nodup:=by rw [k0];exact hS.nd
 have al0:∀k,k∈es0.map nk↔k∈ds.map nk:=fun k=>by rw [k0,hd.all,List.take_length,e3]
 obtain ⟨hal,hso⟩:=hsrt es0 m0
 have hL2:LL.length < 300:=hS.few
 refine PySem.Calls.call_function_entry PyProof.Rows.kind_sorted PyProof.Rows.plain_sorted PyProof.Rows.entry_sorted (PyProof.Rows.args_sorted1 _) ?_
 unfold Builtin.«sorted»
 refine wpAny_bind (m:=checkCount "sorted" 1 1 _) (wpAny_pure ?_)
 refine wpAny_bind (L2.collect_set (s:={s1 with heap:=h',toks:=tk}) (A:=C.X.A.in1) (I2.ok.hd hc) ⟨o,ho,hex.1,hdt⟩ (SN.fit (s:={s1 with heap:=h',toks:=tk}) hS) (by rw [oY hS.en];unfold scanBound;omega) hS.tb.ris hS.ld fun s2 vs k1 hz2 g1 o1 pm=> ?_)
 have hen:es.toList.map (·.2)=LL.map fun p=>Value.ref p.1:=by rw [hS.en];unfold enN;rw [List.map_map];rfl
 rw [hen] at pm
 obtain ⟨LP,hLP,pp⟩:=perm_map_inv pm
 subst hLP
 obtain ⟨es1,pe1,hes1⟩:=paired_perm pp hes0
 have m1:∀d∈es1,d∈ds:=fun d hd1=>m0 d (pe1.mem_iff.mp hd1)
 obtain ⟨hal,hso⟩:=hsrt es1 m1
 have hes2:Paired (fun (v:Value) (d:D)=>(∃x,RelV x v∧Rep C.X.K Z1 H1 x d)∧∃as,Reads h' v (py d) as) (LP.map fun p=>Value.ref p.1) es1:=by
  refine paired_map (f:=fun p:Addr×NestedKey=>Value.ref p.1) (pairedM ?_ hes1)
  intro p d hdm ⟨_,x,rx,rp⟩
  exact ⟨⟨x,rx,rp⟩,Dp.reads I2 _ _ _ (Rep.dp _ _ (hds d (m1 d hdm)).2.2.2.1 rp).1 rx⟩
 have hvl:(LP.map fun p=>Value.ref p.1).length < 300:=by rw [List.length_map,pp.length_eq];exact hL2
 have hlz:(LP.map fun p=>Value.ref p.1).length≤sizeLine:=by rw [bU];omega
 refine wpAny_bind (wpAny_newList ?_ hlz)
 generalize hvs:(LP.map fun p=>Value.ref p.1)=vs at hes2 hvl hlz ⊢
 have hoL:(s2.heap.push (seqObj "list" vs.toArray 0)).get? s2.heap.objs.size=some (seqObj "list" vs.toArray 0):=Heap.get?_push_size _ rfl
 have er:PySem.W.EachIs (fun v d=> ∃as,Reads (s2.heap.push (seqObj "list" vs.toArray 0)) v (py d) as∧s2.heap.objs.size∉as) vs es1:=by
  refine bT (Paired.mono hes2 fun v d zz=> ?_)
  obtain ⟨as,ra⟩:=zz.2
  have ra2:=PyProof.Rows.Reads.keeps (fun b o e=>k1 b o e) ra
  refine ⟨as,PyProof.Rows.Reads.keeps (fun _ _=>Heap.get?_push_of_some _) ra2,fun hm=> ?_⟩
  obtain ⟨o,ho⟩:=PyProof.On.reads_mem_get ra2 _ hm
  exact absurd (Heap.lt_size ho) (Nat.lt_irrefl _)
 show wpAny _ _ _ _ _ {s2 with heap:=s2.heap.push (seqObj "list" vs.toArray 0)}
 have hel:es1.length=vs.length:=(Paired.length hes2).symm
 refine wpAny_bind (wpAny_holding (PySem.W.list_sort_data (s:={s2 with heap:=s2.heap.push (seqObj "list" vs.toArray 0)}) (R:=fun v d=> ∃x,RelV x v∧Rep C.X.K Z1 H1 x d) (enc:=py) (bs:=es1) (n:=0) hoL (bT (Paired.mono hes2 fun _ _ z=>z.1)) er hal hso (by
  rw [hel];exact hlz) (fun b hb=>by have:=(hds b (m1 b hb)).2.2.2.2;show C.X.A.units+1+1+_ < _;omega) fun out hlo hout=> ?_))
 have back:∀{out:List Value} {ds:List D},Paired (fun (v:Value) (d:D)=> ∃x,RelV x v∧Rep C.X.K Z1 H1 x d) out ds→∃ys,Vals ys out∧aZ C.X.K Z1 H1 ys ds:=by
  intro out ds h
  induction h with
  | nil=>exact ⟨[],.nil,.nil⟩
  | cons h1 h2 ih=>
   obtain ⟨x,e1,e2⟩:=h1
   obtain ⟨ys,e3,e4⟩:=ih
   exact ⟨x::ys,.cons e1 e3,.cons e2 e4⟩
 obtain ⟨ys,v1,v2⟩:=back (fU hout)
 obtain ⟨e',he'⟩:=PyProof.Rows.sortedHeap_at (vs:=vs) (out:=List.toArray out) hoL
 have hl4:ys.length≤sizeLine:=by
  rw [v1.length,hlo,hel]
  exact hlz
 have hnew:H1 s2.heap.objs.size=none:=I2.hok.fresh hz2
 generalize hs3:({s1 with heap:=h',toks:=tk}:Shared)=s3 at I2
 have k1':∀b u,s3.heap.get? b=some u→s2.heap.get? b=some u:=fun b u e=>k1 b u (by rw [←hs3] at e;exact e)
 have hz3:s3.heap.objs.size≤s2.heap.objs.size:=by rw [←hs3];exact hz2
 have g3:s2.gens=s3.gens:=by rw [←hs3];exact g1
 have o3:s2.os=s3.os:=by rw [←hs3];exact o1
 have key:∀h3,(∀b u,s2.heap.get? b=some u→h3.get? b=some u)→h3.get? s2.heap.objs.size=some (seqObj "list" (List.toArray out) e')→
   EP C.X pins σ QV (.ref s2.heap.objs.size) {s2 with heap:=h3}:=fun h3 kk3 hg3=>by
  have J:Inv C.X pins σ (upd H1 s2.heap.objs.size (.lst ys)) {s3 with heap:=h3,gens:=s2.gens,drawn:=s2.drawn,toks:=s2.toks}:=
   I2.call (ch:= []) (Un.laid (fun b u e=>kk3 b u (k1' b u e)) hz3 hnew) (I2.hok.laid (fun b u e=>kk3 b u (k1' b u e)) hz3 ⟨hl4,out,e',v1,by simpa using hg3⟩) (by rw [g3];exact I2.bare) (fun _ z=>nomatch z)
  have e:({s2 with heap:=h3}:Shared)={s3 with heap:=h3,gens:=s2.gens,drawn:=s2.drawn,toks:=s2.toks}:=by
   clear hs3 I2 I1
   cases s2
   cases s3
   cases o3
   rfl
  rw [e]
  refine ⟨.ref s2.heap.objs.size,_,J,rfl,?_⟩
  exact go.after f1 _ (.ptr s2.heap.objs.size) (upd H1 s2.heap.objs.size (.lst ys)) (put L1 s2.heap.objs.size (.lst (es1.mergeSort leD))) (.ptr _) (c1.newL hnew ⟨ys,upd_same,v2.mono (.new hnew),by rw [List.length_mergeSort,hel];exact hlz⟩) (.newL hnew) (q1 _ es1 (c1.free hnew) m1 (by rw [(pe1.map nk).nodup_iff];exact nd0) (fun k=>by rw [(pe1.map nk).mem_iff];exact al0 k))
 refine wpAny_pure ⟨_,rfl,key _ (fun b u eb=> ?_) he'⟩
 have hb':b < s2.heap.objs.size:=Heap.lt_size eb
 rw [PyProof.Rows.sortedHeap_old (Nat.ne_of_lt hb') (by rw [size_push'];exact Nat.lt_succ_of_lt hb')]
 exact Heap.get?_push_of_some _ eb⟩
end
end DV
namespace DL
open PySem PySem.Spec PyProof.Rows L2
section
variable {C:DL.Ctx} {Γ:Gm} {L:Lp} {Q:D→Lp→Prop} {es:List Expr} {k:Nat} {pos:Pos}
end
end DL
namespace DL
open PySem PySem.Spec PyProof.Rows L2
abbrev rIsB:R2:=fun x y H Q=> ∃a b,x= .bl a∧y= .bl b∧Q (.bl (a==b)) H
theorem op_isB {X:Cx}:OpR X (compareOp .Is) rIsB:=by
 intro pins s σ H x y v u Q I rx ry h
 obtain ⟨a,b,rfl,rfl,q⟩:=h
 cases rx
 cases ry
 exact is_bool (fin_bl I q rfl)
section
variable {C:DL.Ctx} {L:Lp} {Q:D→Lp→Prop}
theorem is_B {a b:Bool} (q:Q (.bl (a==b)) L):L2R C rIsB (.bl a) (.bl b) L Q:=fun F vx vy H c rx ry QV go=>by
 rw [rx.blE,ry.blE]
 exact ⟨a,b,rfl,rfl,go _ _ H L (.bl _) c (.refl L H) q⟩
end
end DL
namespace DL
open PySem PySem.Spec PyProof.Rows L2
section
variable {C:DL.Ctx} {Γ:Gm} {L:Lp} {Q:D→Lp→Prop} {t:Addr} {rs:Rl} {k:List Wd} {z:List Cell} {Z:Fz} {H:Hp} {pins:List (Addr×Obj)} {σ:L2.St} {s:Shared}
theorem key_tup {v:V} (r:Rep C.X.K Z H v (dW k)):∃b,v= .ref b∧H b=some (.tup ((kS k).map kV)):=by
 obtain ⟨b,vs,rfl,hb,rv⟩:=r.tupE
 refine ⟨b,rfl,?_⟩
 have key:∀{vs:List V} {ws:List Wd},aZ C.X.K Z H vs (ws.map D.str)→vs=(kS ws).map kV:=by
  intro vs ws h
  induction ws generalizing vs with
  | nil=>cases h;rfl
  | cons w ws ih=>
   cases h with
   | cons h1 h2=>rw [h1.strE,ih h2];rfl
 rw [hb,key rv]
theorem ae_get2W {o e g:Expr} {apos cpos:Pos} (hu:C.X.A.units+1 < cLine) (h:AE C o Γ L fun x L1=> ∃t kds,x= .ptr t∧L1 t=some (.dct kds)∧AE C e Γ L1 fun y L2=>AE C g Γ L2 fun d L3=> ∃rs k,y=dW k∧L3 t=some (.dct (tbl rs))∧Q (match lk rs k with | some z=>dC z | none=>d) L3)
  (m:M2 C.X o "get" apos e g cpos:=by exact ⟨rfl,rfl,rfl,rfl⟩):AE C (.Call (.Attribute o "get" apos) [e,g] [] cpos) Γ L Q:=fun Z σ H ok QV go=>
 dD (pe_dget2 hu bA bA bA m) (h Z σ H ok _ fun {Z1} vx x H1 L1 rx c1 f1 ⟨t,kds,ex,ht0,q1⟩=>by
  subst ex
  obtain ⟨kvs0,e0,_⟩:=c1.at_ t _ ht0
  refine ⟨t,rx.ptrE,.inr ⟨kvs0,.inl e0⟩,q1 Z1 σ H1 (ok.step c1 f1) _ fun {Z2} vy y H2 L2 ry c2 f2 q2=> ?_⟩
  refine q2 Z2 σ H2 (ok.step c2 (f1.trans f2)) _ fun {Z3} vd d H3 L3 rd c3 f3 ⟨rs,k,ey,ht,q⟩=> ?_
  subst ey
  obtain ⟨b,rfl,hb⟩:=key_tup (C:=C) (ry.mono f3.mv)
  obtain ⟨kvs,e,rr,hK⟩:=c3.at_ t _ ht
  refine ⟨valV kvs (kS k),DGet.t e hb,?_⟩
  have f:=(f1.trans f2).trans f3
  have h1:∀{kvs:List (List Key×V)} {kds:List (List Key×D)},Paired (fun (p:List Key×V) (q:List Key×D)=>p.1=q.1∧Rep C.X.K Z3 H3 p.2 q.2) kvs kds→(valV kvs (kS k)=none∧valD kds (kS k)=none)∨∃v d,valV kvs (kS k)=some v∧valD kds (kS k)=some d∧Rep C.X.K Z3 H3 v d:=by
   intro kvs kds h
   induction h with
   | nil=>exact .inl ⟨rfl,rfl⟩
   | @cons p q ps qs r t ih=>
    unfold valD valV
    rw [List.find?_cons,List.find?_cons,r.1]
    by_cases hk:q.1=kS k
    ·rw [decide_eq_true hk]
     exact .inr ⟨p.2,q.2,rfl,rfl,r.2⟩
    ·rw [decide_eq_false hk]
     exact ih
  rcases h1 rr with ⟨e1,e2⟩ | ⟨v,d',e1,e2,rv⟩
  ·rw [rR] at e2
   have e3:lk rs k=none:=by simpa using e2
   rw [e3] at q
   rw [e1]
   exact go _ _ H3 L3 rd c3 f q
  ·rw [rR] at e2
   obtain ⟨z,e3,rfl⟩:=Option.map_eq_some_iff.mp e2
   rw [e3] at q
   rw [e1]
   exact go _ _ H3 L3 rv c3 f q)
end
end DL
namespace DL
open PySem PySem.Spec PyProof.Rows L2
section
variable {prog:Program} {w:World} {A:Around} {E:Value→Shared→Prop} {s:Shared}
theorem same0 {nm:String} {a b:Addr} {oa ob:Obj} {es:Array DictEntry} {ep ep':Nat} {Q:Bool→Shared→Prop} (ha:(a==sysModules)=false) (hb:(b==sysModules)=false)
  (hoa:s.heap.get? a=some oa) (hda:oa.data= .dict es ep) (hob:s.heap.get? b=some ob) (hdb:ob.data= .dict #[] ep') (h:Q (decide (es.size=0)) s):wpAny (model prog w) A (Builtin.Dict.samePairs nm a b) Q E s:=by
 unfold Builtin.Dict.samePairs Builtin.Dict.showsAll
 rw [if_neg (show ¬(a==sysModules)=true by rw [ha];exact Bool.false_ne_true),if_neg (show ¬(b==sysModules)=true by rw [hb];exact Bool.false_ne_true)]
 refine wpAny_bind (wpAny_pure (wpAny_bind (wpAny_pure ?_)))
 refine wpAny_bind (wpAny_dictEntries hoa hda ?_)
 dsimp only
 refine wpAny_bind (wpAny_dictEntries hob hdb ?_)
 by_cases hsz:es.size=0
 ·rw [decide_eq_true hsz] at h
  rw [if_neg (by rw [hsz];simp)]
  refine wpAny_bind (wpAny_dictEpoch hoa hda ?_)
  refine wpAny_bind ?_
  rw [Std.Legacy.Range.forIn_eq_forIn_range']
  simp only [Std.Legacy.Range.size,Nat.sub_zero,Nat.add_sub_cancel,Nat.div_one]
  refine wpAny_forIn_list _ (fun rest q s'=>s'=s∧q=(none,())∧rest= []) _ ?_ ?_ _ _ ⟨rfl,rfl,by rw [hsz];rfl⟩
  ·rintro x rest q s' ⟨_,_,hr⟩
   cases hr
  ·rintro q s' ⟨rfl,rfl,_⟩
   exact wpAny_pure h
 ·rw [decide_eq_false hsz] at h
  rw [if_pos (by simpa using hsz)]
  exact wpAny_bind (wpAny_rule (wpAny_pure h))
end
section
variable {C:DL.Ctx} {Γ:Gm} {L:Lp} {Q:D→Lp→Prop}
theorem j_neD0 {a b:Addr} {kds:List (List Key×D)} (hu:C.X.A.units+1 < cLine) (ha:L a=some (.dct kds)) (hb:L b=some (.dct [])) (q:Q (.bl (!kds.isEmpty)) L):OpJ C (.cmp .NotEq) Γ (.ptr a) (.ptr b) L Q:=⟨fun Z σ H ok vx vy rx ry QV go pins s v u I r1 r2=>by
 obtain ⟨kvs,e1,rr,_⟩:=ok.con.at_ a _ ha
 obtain ⟨kvs2,e2,rr2,_⟩:=ok.con.at_ b _ hb
 rw [rx.ptrE] at r1
 rw [ry.ptrE] at r2
 cases (show v=Value.ref a from r1)
 cases (show u=Value.ref b from r2)
 obtain ⟨_,n1,xs,p1,o,es,ep,ho,hex,hd,he,_⟩:=I.hok a _ e1
 obtain ⟨_,n2,xs2,p2,o2,es2,ep2,ho2,hex2,hd2,he2,_⟩:=I.hok b _ e2
 cases rr2
 cases p2
 have hes2:es2= #[]:=by
  have:es2.toList= []:=he2
  exact Array.toList_eq_nil_iff.mp this
 subst hes2
 have hl:es.size=kds.length:=by
  rw [←Array.length_toList,he,List.length_map,←Paired.length p1]
  exact Paired.length rr
 have fin:EP C.X pins σ QV (.bool (!kds.isEmpty)) s:=⟨.bl _,H,I,rfl,go _ _ H L (.bl _) ok.con (.refl L H) q⟩
 have ta:s.TypeIs (.ref a) "dict" :=⟨o,ho,hex.1⟩
 have tb:s.TypeIs (.ref b) "dict" :=⟨o2,ho2,hex2.1⟩
 show wpAny _ _ (richCompare .NotEq (.ref a) (.ref b)) _ _ s
 refine wpAny_richCompare_same_room (op:= .NotEq) ta tb PySem.F.slot_dict_ne (wpAny_call_entry PySem.F.slot_dict_ne ta PySem.F.entry_dict_ne ?_ (PySem.F.args_dict_ne_2 _ _)) (by omega)
 show wpAny _ _ (Builtin.Dict.dictSlotArgs "__ne__" ⟨[.ref a,.ref b],[]⟩ >>=_) _ _ s
 refine wpAny_bind ?_
 unfold Builtin.Dict.dictSlotArgs
 refine wpAny_bind (wpAny_notOrdered_dict ta ?_)
 show wpAny _ _ (pure (Value.ref a,Value.ref b)) _ _ s
 refine wpAny_pure ?_
 refine wpAny_bind (wpAny_isInstance (T:="dict") tb PySem.F.sub_dict_dict ?_)
 simp only [Bool.not_true,Bool.false_eq_true,if_false]
 refine wpAny_bind (wpAny_pure (wpAny_bind (wpAny_pure ?_)))
 refine wpAny_bind (same0 n1 n2 ho hd ho2 hd2 ?_)
 refine wpAny_pure ⟨_,rfl,(fun x=>nomatch x),?_⟩
 have e:decide (es.size=0)=kds.isEmpty:=by
  rw [hl]
  cases kds <;> rfl
 rw [e,show (kds.isEmpty==false)= !kds.isEmpty by cases kds.isEmpty <;> rfl]
 exact fin⟩
end
end DL
namespace DL
open PySem PySem.Spec PyProof.Rows L2
section
variable {C:DL.Ctx} {Γ:Gm} {L:Lp} {Q:D→Lp→Prop} {pos:Pos}
end
end DL
namespace DL
open PySem PySem.Spec PyProof.Rows L2
section
variable {C:DL.Ctx} {Γ:Gm} {L:Lp} {Q:D→Lp→Prop} {e o:Expr} {pos apos p p2 pos2:Pos}
theorem aZ.rev {K:PySem.W.Frag} {F:Fz} {H:Hp}:∀{xs:List V} {ys:List D},aZ K F H xs ys→aZ K F H xs.reverse ys.reverse
 | _,_,.nil=> .nil
 | _,_,.cons h1 h2=>by rw [List.reverse_cons,List.reverse_cons];exact aZ.append (aZ.rev h2) (.cons h1 .nil)
end
end DL
namespace DU
open PySem PySem.Spec PyProof.Rows L2 TS DL
section
variable {P:Program} {w:World} {A:Around} {E:Value→Shared→Prop} {s:Shared} {a:Addr} {S:Str→Bool} {n:Nat}
end
end DU
namespace DU
open PySem PySem.Spec PyProof.Rows L2 TS DL
section
variable {P:Program} {w:World} {A:Around} {E:Value→Shared→Prop} {s:Shared} {a r:Addr} {S:Str→Bool} {n:Nat}
end
end DU
namespace DU
open PySem PySem.Spec PyProof.Rows L2 TS DL
section
variable {P:Program} {w:World} {A:Around} {E:Value→Shared→Prop} {s:Shared} {a r:Addr} {S T:Str→Bool} {n m:Nat}
structure Wk (w:World) (S:Str→Bool) (n:Nat) (es:Array (Int×Value)):Prop where
 g:∀e∈es.toList,TxE w e
 m:∀k,S k=true↔k∈es.toList.map txOf
 z:es.size=n
end
end DU
namespace DU
open PySem PySem.Spec PyProof.Rows L2 TS DL
section
variable {P:Program} {w:World} {A:Around} {E:Value→Shared→Prop} {s:Shared} {a r:Addr} {S T:Str→Bool} {n m:Nat}
end
end DU
namespace DU
open PySem PySem.Spec PyProof.Rows L2 TS DL
end DU
namespace DU
open PySem PySem.Spec PyProof.Rows L2 TS DL
section
variable {P:Program} {w:World} {A:Around} {E:Value→Shared→Prop} {s:Shared} {a b r:Addr} {S T:Str→Bool} {n m:Nat}
end
end DU
namespace DU
open PySem PySem.Spec PyProof.Rows L2 TS DL
section
variable {P:Program} {w:World} {A:Around} {E:Value→Shared→Prop} {s:Shared} {a b r:Addr} {S T:Str→Bool} {n m:Nat}
end
section
variable {C:DL.Ctx} {Γ:Gm} {L:Lp} {Q:D→Lp→Prop}
end
end DU
namespace DU
open PySem PySem.Spec PyProof.Rows L2 TS DL
section
variable {C:DL.Ctx} {Γ:Gm} {L:Lp} {Q:D→Lp→Prop}
end
end DU
namespace DL
open PySem PySem.Spec PyProof.Rows L2
section
variable {C:DL.Ctx} {Γ:Gm} {L:Lp} {Q:D→Lp→Prop} {a b tg:Expr} {pos:Pos}
end
end DL
namespace DL
open PySem PySem.Spec PyProof.Rows L2
def TK (d:D) (xs:List D):Prop:=d= .tup xs∨d= .tk xs
theorem TK.t (xs:List D):TK (.tup xs) xs:= .inl rfl
theorem TK.k (xs:List D):TK (.tk xs) xs:= .inr rfl
theorem TK.at_ {K:PySem.W.Frag} {F:Fz} {H:Hp} {v:V} {d:D} {xs:List D} (h:TK d xs) (r:Rep K F H v d):∃a vs,v= .ref a∧aZ K F H vs xs∧xs.length≤sizeLine∧TpK K H a vs:=by
 rcases h with rfl | rfl
 ·have hb:=r.bnd
  obtain ⟨a,vs,rfl,ha,ra⟩:=r.tupE
  exact ⟨a,vs,rfl,ra,hb,.inl ha⟩
 ·obtain ⟨a,vs,rfl,ha,ra,hz⟩:=r.tkE
  exact ⟨a,vs,rfl,ra,hz,ha⟩
inductive KC (K:PySem.W.Frag):Value→D→Prop where
 | non:KC K .none .non
 | bl (b:Bool):KC K (.bool b) (.bl b)
 | int (i:Int) (t:Tok):KC K (.int i t) (.int i)
 | tk {a:Addr} {ds:List D} (o:Obj) (its:Array Value) (n:Nat) (h:K.lookup a=some o) (h1:o.cls= .type "tuple") (h2:o.data= .seq its n) (hz:its.size≤sizeLine) (hl:its.size=ds.length) (hi:∀(i:Nat) (v:Value) (d:D),its.toList[i]? =some v→ds[i]? =some d→KC K v d):KC K (.ref a) (.tk ds)
theorem KC.rep {K:PySem.W.Frag} {F:Fz} {H:Hp} {u:Value} {d:D} (k:KC K u d):∃v,RelV v u∧Rep K F H v d:=by
 induction k with
 | non=>exact ⟨.non,rfl,.non⟩
 | bl b=>exact ⟨.bl b,rfl,.bl b⟩
 | int i t=>exact ⟨.int i,⟨t,rfl⟩,.int i⟩
 | @tk a ds o its n h h1 h2 hz hl hi ih=>
  have key:∀(us:List Value) (ds:List D),us.length=ds.length→(∀(i:Nat) (v:Value) (d:D),us[i]? =some v→ds[i]? =some d→∃w,RelV w v∧Rep K F H w d)→∃vs,Vals vs us∧aZ K F H vs ds:=by
   intro us
   induction us with
   | nil=>
    intro ds hl _
    cases ds with
    | nil=>exact ⟨[],.nil,.nil⟩
    | cons d ds=>cases hl
   | cons u us ih2=>
    intro ds hl hx
    cases ds with
    | nil=>cases hl
    | cons d ds=>
     obtain ⟨w,w1,w2⟩:=hx 0 u d rfl rfl
     obtain ⟨ws,w3,w4⟩:=ih2 ds (by simpa using hl) fun i v d' e1 e2=>hx (i+1) v d' (by simpa using e1) (by simpa using e2)
     exact ⟨w::ws,.cons w1 w3,.cons w2 w4⟩
  obtain ⟨vs,v1,v2⟩:=key its.toList ds (by simpa using hl) ih
  exact ⟨.ref a,rfl,Rep.tkI (.inr ⟨o,its,n,h,h1,h2,hz,v1⟩) v2 (by rw [←hl];exact hz)⟩
section
variable {C:DL.Ctx} {Γ:Gm} {L:Lp} {Q:D→Lp→Prop} {pos p:Pos} {e:Expr} {es:List Expr} {d:D} {xs:List D}
end
end DL
namespace DL
open PySem PySem.Spec PyProof.Rows L2
theorem KC.t0 {K:PySem.W.Frag} {a:Addr} {od:Option Addr} {n:Nat} {sl:Array (Option Value)} (h:K.lookup a=some ⟨.type "tuple",od,.seq #[] n,sl⟩):KC K (.ref a) (.tk []):=
 .tk _ #[] n h rfl rfl (Nat.zero_le _) rfl fun i v d hv _=>by simp at hv
theorem KC.t2 {K:PySem.W.Frag} {a:Addr} {od:Option Addr} {n:Nat} {sl:Array (Option Value)} {u1 u2:Value} {d1 d2:D} (h:K.lookup a=some ⟨.type "tuple",od,.seq #[u1,u2] n,sl⟩) (k1:KC K u1 d1) (k2:KC K u2 d2):KC K (.ref a) (.tk [d1,d2]):=
 .tk _ #[u1,u2] n h rfl rfl (by show 2≤sizeLine;decide) rfl fun i v d hv hd=>by
  match i with
  | 0=>cases hv;cases hd;exact k1
  | 1=>cases hv;cases hd;exact k2
  | i+2=>simp at hv
end DL
namespace DL
open PySem PySem.Spec PyProof.Rows L2
structure LamP (sc scope:Scope) (ps:List Str):Prop where
 kd:scope.kind= .function
 nc:scope.isCoroutine=false
 ng:scope.isGenerator=false
 cl:∀y∈scope.names,y.2≠ .cell
 fr:∀y∈scope.names,y.2= .free→sc.names.lookup y.1=some .cell∨sc.names.lookup y.1=some .free
 pr:∀x∈ps,scope.names.lookup x=some .local
def FvOk (N:List Str) (scope:Scope) (fv:List (Str×Nat)):Prop:= ∀q∈fv,N[q.2]? =some q.1∧scope.names.lookup q.1=some .free
def lamN (ps:List Str) (fv:List (Str×Nat)):List Str:=ps++fv.map (·.1)
def lamG {α:Type} (vs:List α) (fv:List (Str×Nat)) (Γ:List (Option α)):List (Option α):=vs.map some++fv.map fun q=>(Γ[q.2]?).join
def lcx (X:Cx) (A:Around) (outer:List Env) (s:Shared) (H:Hp) (E:XK) (N:List Str) (scope:Scope) (f c':Addr):Cx:={LamX.lamCx X A outer s H E scope f c' with N:=N}
section
variable {X:Cx} {pins:List (Addr×Obj)} {σ:L2.St} {H HZ:Hp} {s s1:Shared}
end
end DL
namespace DL
open PySem PySem.Spec PyProof.Rows L2
structure CanCall (P:Program) (w:World) (K:PySem.W.Frag) (mg:Str→Option Value) (base:Heap) (k:Nat) (fs:List Addr) (s0:Shared) (H0:Hp) (T:Lp→Fz→Hp→Prop) (f:Addr) (G:SpA):Prop where
 at_:∀(s:Shared) (H:Hp),Un fs [] H0 H s0.heap s.heap→PySem.W.FnAt f s.heap
 run:∀(A:Around) (outer:List Env) (s:Shared) (L:Lp) (Z:Fz) (H:Hp) (us:List Value) (vs:List V) (ds:List D) (Q:D→Lp→Prop) (R:Value→List (Str×D)→Lp→Prop) (QV:VK) (EV:XK),
  Room k A→Env0 P w K mg base A outer s H→Un fs [] H0 H s0.heap s.heap→T L Z H→Vals vs us→aZ K Z H vs ds→Con P w K L Z H→G ds L Q R→
  (∀{Z'} d L',Q d L'→∀v H',Rep K Z' H' v d→Con P w K L' Z' H'→Fr L Z H L' Z' H'→QV v H')→(∀{Z'} cls fs L',R cls fs L'→∀d H',aAm K Z' H' d fs→Con P w K L' Z' H'→Fr L Z H L' Z' H'→EV cls (some d) H')→
  codeAny (model P w) A (.call (.ref f) ⟨us,[]⟩) (CR (L2.CX P w) outer P w H s QV EV) s
theorem CanCall.imp {P:Program} {w:World} {K:PySem.W.Frag} {mg:Str→Option Value} {base:Heap} {k:Nat} {fs:List Addr} {s0:Shared} {H0:Hp} {T:Lp→Fz→Hp→Prop} {f:Addr} {G G':SpA} (c:CanCall P w K mg base k fs s0 H0 T f G) (h:∀ds L Q R,G' ds L Q R→G ds L Q R):CanCall P w K mg base k fs s0 H0 T f G':=
 ⟨c.at_,fun A outer s L Z H us vs ds Q R QV EV hr e un t r rd con g=>c.run A outer s L Z H us vs ds Q R QV EV hr e un t r rd con (h _ _ _ _ g)⟩
abbrev CallC (C:Ctx) (k:Nat) (f:Addr) (G:SpA):Prop:=CanCall C.X.prog C.X.w C.X.K C.X.mg C.X.base k (frs C.X.outer) C.X.s_0 C.X.H_0 C.T f G
def lctx (C:Ctx) (A:Around) (outer:List Env) (s:Shared) (H:Hp) (E:XK) (N:List Str) (nd:N.Nodup) (scope:Scope) (f c':Addr) (R:Value→List (Str×D)→Lp→Prop):Ctx where
 X:=lcx C.X A outer s H E N scope f c'
 W:=fun cls d _ H=>E cls d H
 R:=fun _=>R
 tk:=takes_of rfl rfl rfl rfl
 po:=passes_of rfl
 calm:=rfl
 nd:=nd
structure LamD (C:Ctx) (pa:Arguments) (bd:Expr) (sc:Scope) (k:Nat) (Γ:Gm) (G:SpA):Prop where
 ex:∃(ps:List Str) (fv:List (Str×Nat)) (nd:(lamN ps fv).Nodup),LamP C.X.env.scope sc ps∧FvOk C.X.N sc fv∧
  (∀(q:Str) (cl:List (Str×Addr)) (pm cv ctv:Value) (us:List Value),us.length=ps.length→bindArgs (PySem.W.kla_fn "<lambda>" q pa bd sc cl pm cv ctv) ⟨us,[]⟩=pure (ps.zip us))∧
  (∀ds L Q R,G ds L Q R→ds.length=ps.length)∧
  ∀A outer s H E f c' ds L Q R,Room k (A.deeper (LamX.lamEnv C.X sc s.heap.objs.size f c'))→G ds L Q R→AE (lctx C A outer s H E (lamN ps fv) nd sc f c' R) bd (lamG ds fv Γ) L fun d L'=> ∃L2,Le L2 L'∧Q d L2
section
variable {C:Ctx} {Γ:Gm} {L:Lp} {pins:List (Addr×Obj)} {σ:L2.St} {F:Fz} {H:Hp} {s:Shared}
end
end DL
namespace DL
open PySem PySem.Spec PyProof.Rows L2
def grown (H:Hp) (P:Addr) (ps:Array Value) (c:Addr) (q:Str):Hp:=upd (upd H P (.tbl ps)) c (LamX.CodeO c q)
section
variable {P:Program} {w:World} {K:PySem.W.Frag} {L:Lp} {F:Fz} {H:Hp} {p c:Addr} {q:Str} {ps more:Array Value}
end
section
variable {C:Ctx} {Γ:Gm} {L:Lp} {pins:List (Addr×Obj)} {σ:L2.St} {F:Fz} {H:Hp} {s:Shared}
end
end DL
namespace DL
open PySem PySem.Spec PyProof.Rows L2
def FnC (P:Program) (w:World) (K:PySem.W.Frag) (mg:Str→Option Value) (base:Heap) (k kc:Nat) (g:Addr) (spF:Addr→SpA→SpA):Prop:=
 ∀(A:Around) (outer:List Env) (s:Shared) (L:Lp) (Z:Fz) (H:Hp) (us:List Value) (vs:List V) (ds:List D) (f:Addr) (G:SpA) (Q:D→Lp→Prop) (R:Value→List (Str×D)→Lp→Prop) (QV:VK) (EV:XK),
  Room k A→Env0 P w K mg base A outer s H→Vals vs us→aZ K Z H vs ds→Con P w K L Z H→CanCall P w K mg base kc (frs outer) s H (fun L' Z' H'=>Fr L Z H L' Z' H') f G→spF f G ds L Q R→
  (∀{Z'} d L',Q d L'→∀v H',Rep K Z' H' v d→Con P w K L' Z' H'→Fr L Z H L' Z' H'→QV v H')→(∀{Z'} cls fs L',R cls fs L'→∀d H',aAm K Z' H' d fs→Con P w K L' Z' H'→Fr L Z H L' Z' H'→EV cls (some d) H')→
  codeAny (model P w) A (.call (.ref g) ⟨us,[]⟩) (CR (L2.CX P w) outer P w H s QV EV) s
theorem FnC.mono {P:Program} {w:World} {K:PySem.W.Frag} {mg:Str→Option Value} {base:Heap} {j k kc:Nat} {g:Addr} {spF:Addr→SpA→SpA} (F:FnC P w K mg base j kc g spF) (h:j≤k):FnC P w K mg base k kc g spF:=
 fun A outer s L Z H us vs ds f G Q R QV EV hr=>F A outer s L Z H us vs ds f G Q R QV EV (hr.mono h)
structure DefC (P:Program) (w:World) (K:PySem.W.Frag) (mg:Str→Option Value) (base:Heap) (x:Str) (k kc:Nat) (spF:Addr→SpA→SpA):Prop where
 ex:∃g,mg x=some (.ref g)∧PySem.W.keepIn K (.ref g)=true∧FnC P w K mg base k kc g spF
theorem DefC.mono {P:Program} {w:World} {K:PySem.W.Frag} {mg:Str→Option Value} {base:Heap} {x:Str} {j k kc:Nat} {spF:Addr→SpA→SpA} (F:DefC P w K mg base x j kc spF) (h:j≤k):DefC P w K mg base x k kc spF:=by
 obtain ⟨g,h1,h2,h3⟩:=F.ex
 exact ⟨g,h1,h2,h3.mono h⟩
section
variable {C:Ctx} {Γ:Gm} {L:Lp} {e:Expr} {es:List Expr} {pos p:Pos} {Q:D→Lp→Prop} {x:Str} {k kc:Nat} {f:Addr} {G:SpA}
theorem CallC.later {pins:List (Addr×Obj)} {σ:L2.St} {Z:Fz} {H:Hp} {s:Shared} (c:CallC C kc f G) (hx:C.X.ex= []) (I:Inv C.X pins σ H s) (ok:Ok C Γ L Z σ H):CanCall C.X.prog C.X.w C.X.K C.X.mg C.X.base kc (frs C.X.stack) s H (fun L' Z' H'=>Fr L Z H L' Z' H') f G:=by
 have far:∀{s':Shared} {H':Hp},Un (frs C.X.stack) [] H H' s.heap s'.heap→HOk C.X.prog C.X.w H' s'.heap→Un (frs C.X.outer) [] C.X.H_0 H' C.X.s_0.heap s'.heap:=fun {s' H'} un hok=>by
  have J:=I.call (h':=s'.heap) (g':=s.gens) (d':=s.drawn) (t':=s.toks) (ch:= []) un hok I.bare fun b z=>absurd z (by simp)
  have b:=J.base
  rw [hx] at b
  exact b
 have near:∀{s':Shared} {H':Hp},Un (frs C.X.stack) [] H H' s.heap s'.heap→Un (frs C.X.outer) [] C.X.H_0 H' C.X.s_0.heap s'.heap:=fun {s' H'} un=>by
  have b:=I.base
  rw [hx] at b
  have old:∀a o,C.X.s_0.heap.get? a=some o→a∈frs C.X.stack→a∈frs C.X.outer:=fun a o e hm=>by
   rcases List.mem_cons.mp (I.stkSub a hm) with z | z
   ·exact absurd (Nat.lt_of_lt_of_le (Heap.lt_size e) (by rw [z];exact I.ok.above)) (Nat.lt_irrefl _)
   ·exact z
  refine ⟨fun a o h1 h2 h3 h4=>un.keep a o (b.keep a o h1 h2 h3 h4) (b.free a o h1 h2 h4) (fun z=>h3 (old a o h1 z)) h4,fun a o h1 h2 h3 h4=> ?_,fun a o h1 h2 h4=> ?_,fun a o h1 h4=> ?_,fun a xs h=>un.tups a xs (b.tups a xs h),fun a o u h=>un.frzs a o u (b.frzs a o u h),fun a ps h=> ?_⟩
  ·obtain ⟨sl,e⟩:=b.slot a o h1 h2 h3 h4
   obtain ⟨sl2,e2⟩:=un.any e (b.free a o h1 h2 h4) h4
   exact ⟨sl2,e2⟩
  ·obtain ⟨o2,e2⟩:=b.there a o h1 h4
   exact un.free a o2 e2 (b.free a o h1 h2 h4) h4
  ·obtain ⟨o2,e2⟩:=b.there a o h1 h4
   exact un.there a o2 e2 h4
  ·obtain ⟨m1,e1⟩:=b.tbls a ps h
   obtain ⟨m2,e2⟩:=un.tbls a _ e1
   exact ⟨m1++m2,by rw [e2,Array.append_assoc]⟩
 exact ⟨fun s' H' un=>c.at_ s' H' (near un),fun A outer s' L' Z' H' us vs ds Q R QV EV hr e0 un fr r rd con g gq ge=>c.run A outer s' L' Z' H' us vs ds Q R QV EV hr e0 (near un) (C.tfr ok.lr.tk fr) r rd con g gq ge⟩
end
end DL
namespace DL
open PySem PySem.Spec PyProof.Rows L2
section
variable {C:DL.Ctx} {Γ:Gm} {L:Lp} {E:AEnds} {e b:Expr} {pos p1 p2 p3:Pos} {x k:Str} {cs:List MatchCase} {body:List Stmt}
end
end DL
namespace DL
open PySem PySem.Spec PyProof.Rows L2
structure WDc (K:PySem.W.Frag) (w:World) (t:Addr) (kvs:List (Str×Str)):Prop where
 it:∃es n,K.lookup t=some ⟨.type "dict",none,.dict es n,#[]⟩∧(t==sysModules)=false∧es.size=kvs.length∧∀i k v,kvs[i]? =some (k,v)→∃hi:i < es.size,(∃a,es[i].key= .str k a)∧∃b,es[i].val= .str v b
 ix:∀k v,(k,v)∈kvs→KDct K w t k (.str v)
 sk:∀q∈kvs,SOk q.1∧SOk q.2
section
variable {C:DL.Ctx} {Γ:Gm} {L:Lp} {a b e o:Expr} {pos p p1 p2 p3 p4:Pos} {Q:D→Lp→Prop} {E:AEnds} {kvs:List (Str×Str)}
end
end DL
namespace DL
open PySem PySem.Spec PyProof.Rows L2
def mergeKD (kds more:List (Key×D)):List (Key×D):=more.foldl (fun acc kv=>aAZ acc kv.1 kv.2) kds
theorem KKs.merge {K:PySem.W.Frag} {F:Fz} {H:Hp}:∀{more:List (Key×V)} {mds:List (Key×D)} {kvs:List (Key×V)} {kds:List (Key×D)},KKs K F H more mds→KKs K F H kvs kds→KKs K F H (mergeK kvs more) (mergeKD kds mds)
 | _,_,_,_,.nil,r=>r
 | _,_,kvs,kds,.cons (a:=p) (b:=q) h t,r=>by
  show KKs K F H (mergeK (putK kvs p.1 p.2) _) (mergeKD (aAZ kds q.1 q.2) _)
  rw [←h.1]
  exact KKs.merge t (r.put p.1 h.2)
section
variable {C:DL.Ctx} {Γ:Gm} {L:Lp} {Q:D→Lp→Prop}
end
end DL
namespace HT
open PySem PySem.Spec PyProof.Rows L2
section
variable {prog:Program} {w:World} {A:Around} {E:Value→Shared→Prop} {s:Shared}
end
end HT
namespace DL
open PySem PySem.Spec PyProof.Rows L2
section
variable {C:DL.Ctx} {Γ:Gm} {L:Lp} {Q:D→Lp→Prop} {e k:Expr} {p2 pos:Pos}
end
end DL
namespace DL
open PySem PySem.Spec PyProof.Rows L2
section
variable {C:DL.Ctx} {Γ:Gm} {L:Lp} {Q:D→Lp→Prop} {e:Expr} {k:Nat} {p1 p2 p3 pos:Pos}
theorem ae_revL (h:AE C e Γ L fun d L1=> ∃a ds,d= .ptr a∧L1 a=some (.lst ds)∧∀p,L1 p=none→Q (.ptr p) (put L1 p (.lst ds.reverse))):AE C (.Subscript e (.Slice none none (some (.UnaryOp .USub (.Constant (.int 1) k p1) p2)) p3) pos) Γ L Q:=fun F σ H ok QV go=>
 dD (pe_revL bA) (h _ σ H ok _ fun v d H1 L1 r c f ⟨a,ds,ed,ha,q⟩=>by
  subst ed
  obtain ⟨ws,h1,ra,hz⟩:=c.at_ a _ ha
  exact ⟨a,ws,r.ptrE,SqL.of h1,fun p hp=>go _ _ _ (put L1 p (.lst ds.reverse)) (.ptr p) (c.newL hp ⟨ws.reverse,upd_same,ra.rev.mono (.new hp),by rw [List.length_reverse];exact hz⟩) (f.trans (.newL hp)) (q p (c.free hp))⟩)
end
end DL
namespace K
open PySem PySem.Spec PyProof.Rows L2 DL
def top (i : Nat) : Stmt := PySem.Challenge.pw_widenedwords_k36_comparisons_turned_abou.main.body.getD i (.Pass ⟨0, 0, 0, 0⟩)
def inC (i j:Nat):Stmt:=match top i with | .ClassDef _ _ _ body _ _ _ _ _ _ _=>body.getD j (.Pass ⟨0,0,0,0⟩) | s=>s
abbrev iV:Stmt:=top 3
theorem sc_cells_of:FnScope ["words","word"] ["words"] (defScope iV):=⟨rfl,rfl,rfl,by decide+kernel,rfl,by decide+kernel,by decide+kernel⟩
abbrev iJ:Stmt:=top 4
theorem sc_words_at:FnScope ["cells","at","many","some","cell"] ["cells","at","many"] (defScope iJ):=⟨rfl,rfl,rfl,by decide+kernel,rfl,by decide+kernel,by decide+kernel⟩
abbrev mW:Stmt:=top 5
theorem sc_key_at:FnScope ["rules","cells","at","many","words"] ["rules","cells","at"] (defScope mW):=⟨rfl,rfl,rfl,by decide+kernel,rfl,by decide+kernel,by decide+kernel⟩
abbrev dI:Stmt:=top 6
theorem sc_is_waiting:FnScope ["rules","cells","at","many","words","key"] ["rules","cells","at"] (defScope dI):=⟨rfl,rfl,rfl,by decide+kernel,rfl,by decide+kernel,by decide+kernel⟩
abbrev eX:Stmt:=top 7
theorem sc_rewritten:FnScope ["rules","cells","is_whole","found","at","key"] ["rules","cells","is_whole"] (defScope eX):=⟨rfl,rfl,rfl,by decide+kernel,rfl,by decide+kernel,by decide+kernel⟩
abbrev jV:Stmt:=top 8
theorem sc_through:FnScope ["stages","pending","cells","is_whole","held","rules","words","left","one"] ["stages","pending","cells","is_whole"] (defScope jV):=⟨rfl,rfl,rfl,by decide+kernel,rfl,by decide+kernel,by decide+kernel⟩
abbrev bQ:Stmt:=top 9
theorem sc_nothing_pending:FnScope ["stages","rules"] ["stages"] (defScope bQ):=⟨rfl,rfl,rfl,by decide+kernel,rfl,by decide+kernel,by decide+kernel⟩
abbrev jU:Stmt:=top 10
theorem sc_written:FnScope ["stages","text"] ["stages","text"] (defScope jU):=⟨rfl,rfl,rfl,by decide+kernel,rfl,by decide+kernel,by decide+kernel⟩
abbrev qC:Stmt:=top 11
theorem sc_start:FnScope ["rewriter"] ["rewriter"] (defScope qC):=⟨rfl,rfl,rfl,by decide+kernel,rfl,by decide+kernel,by decide+kernel⟩
abbrev qD:Stmt:=top 12
theorem sc_go_on:FnScope ["rewriter","pending","cell"] ["rewriter","pending","cell"] (defScope qD):=⟨rfl,rfl,rfl,by decide+kernel,rfl,by decide+kernel,by decide+kernel⟩
abbrev kE:Stmt:=top 13
theorem sc_flushed:FnScope ["rewriter","pending"] ["rewriter","pending"] (defScope kE):=⟨rfl,rfl,rfl,by decide+kernel,rfl,by decide+kernel,by decide+kernel⟩
abbrev jW:Stmt:=top 20
theorem sc_is_word:FnScope ["value","letter"] ["value"] (defScope jW):=⟨rfl,rfl,rfl,by decide+kernel,rfl,by decide+kernel,by decide+kernel⟩
abbrev jX:Stmt:=top 21
theorem sc_is_text:FnScope ["value","word"] ["value"] (defScope jX):=⟨rfl,rfl,rfl,by decide+kernel,rfl,by decide+kernel,by decide+kernel⟩
abbrev mX:Stmt:=top 22
theorem sc_is_key:FnScope ["value"] ["value"] (defScope mX):=⟨rfl,rfl,rfl,by decide+kernel,rfl,by decide+kernel,by decide+kernel⟩
abbrev eZ:Stmt:=top 23
theorem sc_is_rising:FnScope ["values","one","other"] ["values"] (defScope eZ):=⟨rfl,rfl,rfl,by decide+kernel,rfl,by decide+kernel,by decide+kernel⟩
abbrev iK:Stmt:=top 24
theorem sc_is_words:FnScope ["value","most"] ["value","most"] (defScope iK):=⟨rfl,rfl,rfl,by decide+kernel,rfl,by decide+kernel,by decide+kernel⟩
abbrev jZ:Stmt:=top 25
theorem sc_is_cell:FnScope ["value"] ["value"] (defScope jZ):=⟨rfl,rfl,rfl,by decide+kernel,rfl,by decide+kernel,by decide+kernel⟩
abbrev iT:Stmt:=top 26
theorem sc_is_cells:FnScope ["value","cell"] ["value"] (defScope iT):=⟨rfl,rfl,rfl,by decide+kernel,rfl,by decide+kernel,by decide+kernel⟩
abbrev eY:Stmt:=top 27
theorem sc_next_word:FnScope ["word","start"] ["word"] (defScope eY):=⟨rfl,rfl,rfl,by decide+kernel,rfl,by decide+kernel,by decide+kernel⟩
abbrev dJ:Stmt:=top 28
theorem sc_fresh_word:FnScope ["words","found"] ["words"] (defScope dJ):=⟨rfl,rfl,rfl,by decide+kernel,rfl,by decide+kernel,by decide+kernel⟩
abbrev bK:Stmt:=top 32
theorem sc_common_beginning:FnScope ["one","other","many","here","there"] ["one","other"] (defScope bK):=⟨rfl,rfl,rfl,by decide+kernel,rfl,by decide+kernel,by decide+kernel⟩
abbrev dG:Stmt:=top 33
theorem sc_row_behind:FnScope ["one","other","row","word","pending","beside","ahead","behind","more","others","many"] ["one","other","row","word"] (defScope dG):=⟨rfl,rfl,rfl,by decide+kernel,rfl,by decide+kernel,by decide+kernel⟩
abbrev cJ:Stmt:=top 34
theorem sc_is_same_here:FnScope ["one","other","row","pending","beside","ahead","behind"] ["one","other","row"] (defScope cJ):=⟨rfl,rfl,rfl,by decide+kernel,rfl,by decide+kernel,by decide+kernel⟩
abbrev eG:Stmt:=top 35
theorem sc_compare:FnScope ["one","other","words","first","texts","waiting","at","row","word","later"] ["one","other"] (defScope eG):=⟨rfl,rfl,rfl,by decide+kernel,rfl,by decide+kernel,by decide+kernel⟩
abbrev cC:Stmt:=top 36
theorem sc_is_comparison:FnScope ["one","other","value"] ["one","other","value"] (defScope cC):=⟨rfl,rfl,rfl,by decide+kernel,rfl,by decide+kernel,by decide+kernel⟩
abbrev aW:Stmt:=inC 38 0
theorem sc_WideError___init__:FnScope ["self","value"] ["self","value"] (defScope aW):=⟨rfl,rfl,rfl,by decide+kernel,rfl,by decide+kernel,by decide+kernel⟩
abbrev bW:Stmt:=inC 47 1
theorem sc_Chain___init__:FnScope ["self","former","latter"] ["self","former","latter"] (defScope bW):=⟨rfl,rfl,rfl,by decide+kernel,rfl,by decide+kernel,by decide+kernel⟩
abbrev cQ:Stmt:=inC 47 3
theorem sc_Chain_words:FnScope ["self"] ["self"] (defScope cQ):=⟨rfl,rfl,rfl,by decide+kernel,rfl,by decide+kernel,by decide+kernel⟩
abbrev cM:Stmt:=inC 47 4
theorem sc_Chain_stages:FnScope ["self"] ["self"] (defScope cM):=⟨rfl,rfl,rfl,by decide+kernel,rfl,by decide+kernel,by decide+kernel⟩
abbrev bY:Stmt:=inC 47 6
theorem sc_Chain___call__:FnScope ["self","text"] ["self","text"] (defScope bY):=⟨rfl,rfl,rfl,by decide+kernel,rfl,by decide+kernel,by decide+kernel⟩
abbrev jY:Stmt:=top 50
theorem sc_is_rule:FnScope ["value"] ["value"] (defScope jY):=⟨rfl,rfl,rfl,by decide+kernel,rfl,by decide+kernel,by decide+kernel⟩
abbrev iQ:Stmt:=top 51
theorem sc_is_rules:FnScope ["value","rule","one","other"] ["value"] (defScope iQ):=⟨rfl,rfl,rfl,by decide+kernel,rfl,by decide+kernel,by decide+kernel⟩
abbrev iU:Stmt:=top 52
theorem sc_in_order:FnScope ["table","key"] ["table"] (defScope iU):=⟨rfl,rfl,rfl,by decide+kernel,rfl,by decide+kernel,by decide+kernel⟩
abbrev bF:Stmt:=inC 54 1
theorem sc_Book___init__:FnScope ["self","rules","key","cells"] ["self","rules"] (defScope bF):=⟨rfl,rfl,rfl,by decide+kernel,rfl,by decide+kernel,by decide+kernel⟩
abbrev dY:Stmt:=inC 54 3
theorem sc_Book_words:FnScope ["self","some","key","cells","words","word"] ["self"] (defScope dY):=⟨rfl,rfl,rfl,by decide+kernel,rfl,by decide+kernel,by decide+kernel⟩
abbrev fO:Stmt:=inC 54 4
theorem sc_Book_copy:FnScope ["self"] ["self"] (defScope fO):=⟨rfl,rfl,rfl,by decide+kernel,rfl,by decide+kernel,by decide+kernel⟩
abbrev cR:Stmt:=inC 54 6
theorem sc_Book_stages:FnScope ["self"] ["self"] (defScope cR):=⟨rfl,rfl,rfl,by decide+kernel,rfl,by decide+kernel,by decide+kernel⟩
abbrev cD:Stmt:=inC 54 9
theorem sc_Book___call__:FnScope ["self","text"] ["self","text"] (defScope cD):=⟨rfl,rfl,rfl,by decide+kernel,rfl,by decide+kernel,by decide+kernel⟩
abbrev bR:Stmt:=inC 54 18
theorem sc_Book___rshift__:FnScope ["self","other"] ["self","other"] (defScope bR):=⟨rfl,rfl,rfl,by decide+kernel,rfl,by decide+kernel,by decide+kernel⟩
abbrev dN:Stmt:=top 56
theorem sc__law_pot:FnScope ["_law_script","_law_k","_law_cell_here","_law_own","_law_mixed"] ["_law_script","_law_k"] (defScope dN):=⟨rfl,rfl,rfl,by decide+kernel,rfl,by decide+kernel,by decide+kernel⟩
abbrev fG:Stmt:=top 57
theorem sc__law_take:FnScope ["_law_pot_here","_law_upto","_law_digit","_law_prime","_law_mixed"] ["_law_pot_here","_law_upto"] (defScope fG):=⟨rfl,rfl,rfl,by decide+kernel,rfl,by decide+kernel,by decide+kernel⟩
abbrev kJ:Stmt:=top 58
theorem sc__law_of:FnScope ["_law_pot_here","_law_some"] ["_law_pot_here","_law_some"] (defScope kJ):=⟨rfl,rfl,rfl,by decide+kernel,rfl,by decide+kernel,by decide+kernel⟩
abbrev fB:Stmt:=top 59
theorem sc__law_word:FnScope ["_law_pot_here","_law_way","_law_many","_law_lap"] ["_law_pot_here"] (defScope fB):=⟨rfl,rfl,rfl,by decide+kernel,rfl,by decide+kernel,by decide+kernel⟩
abbrev dO:Stmt:=top 60
theorem sc__law_names:FnScope ["_law_pot_here","_law_many","_law_stem","_law_found","_law_spot","_law_lap","_law_word_here","_law_one"] ["_law_pot_here","_law_many"] (defScope dO):=⟨rfl,rfl,rfl,by decide+kernel,rfl,by decide+kernel,by decide+kernel⟩
abbrev fL:Stmt:=top 61
theorem sc__law_cell:FnScope ["_law_pot_here","_law_names_here","_law_some","_law_lap"] ["_law_pot_here","_law_names_here"] (defScope fL):=⟨rfl,rfl,rfl,by decide+kernel,rfl,by decide+kernel,by decide+kernel⟩
abbrev dX:Stmt:=top 62
theorem sc__law_cells:FnScope ["_law_pot_here","_law_names_here","_law_lap"] ["_law_pot_here","_law_names_here"] (defScope dX):=⟨rfl,rfl,rfl,by decide+kernel,rfl,by decide+kernel,by decide+kernel⟩
abbrev iW:Stmt:=top 63
theorem sc__law_key:FnScope ["_law_pot_here","_law_names_here","_law_lap"] ["_law_pot_here","_law_names_here"] (defScope iW):=⟨rfl,rfl,rfl,by decide+kernel,rfl,by decide+kernel,by decide+kernel⟩
abbrev fM:Stmt:=top 64
theorem sc__law_book:FnScope ["_law_pot_here","_law_names_here","_law_most","_law_rules","_law_lap","_law_key_here"] ["_law_pot_here","_law_names_here","_law_most"] (defScope fM):=⟨rfl,rfl,rfl,by decide+kernel,rfl,by decide+kernel,by decide+kernel⟩
abbrev fK:Stmt:=top 65
theorem sc__law_plan:FnScope ["_law_pot_here","_law_names_here","_law_most","_law_chains","_law_long","_law_sides","_law_lap","_law_extra"] ["_law_pot_here","_law_names_here","_law_most","_law_chains"] (defScope fK):=⟨rfl,rfl,rfl,by decide+kernel,rfl,by decide+kernel,by decide+kernel⟩
abbrev fJ:Stmt:=top 66
theorem sc__law_side:FnScope ["_law_side_here","_law_first"] ["_law_side_here"] (defScope fJ):=⟨rfl,rfl,rfl,by decide+kernel,rfl,by decide+kernel,by decide+kernel⟩
abbrev dU:Stmt:=top 67
theorem sc__law_kin:FnScope ["_law_pot_here","_law_side_here","_law_names_here","_law_way","_law_at","_law_rules","_law_key_here","_law_one","_law_word_here","_law_books"] ["_law_pot_here","_law_side_here","_law_names_here"] (defScope dU):=⟨rfl,rfl,rfl,by decide+kernel,rfl,by decide+kernel,by decide+kernel⟩
abbrev bG:Stmt:=top 68
theorem sc__law_itself_right:FnScope ["_law_side_here","_law_here","_law_there","_law_told","_law_row"] ["_law_side_here"] (defScope bG):=⟨rfl,rfl,rfl,by decide+kernel,rfl,by decide+kernel,by decide+kernel⟩
abbrev dM:Stmt:=top 69
theorem sc__law_right:FnScope ["_law_pot_here","_law_names_here","_law_one","_law_other","_law_here","_law_there","_law_told","_law_back","_law_due","_law_row"] ["_law_pot_here"] (defScope dM):=⟨rfl,rfl,rfl,by decide+kernel,rfl,by decide+kernel,by decide+kernel⟩
abbrev aAe:Stmt:=top 70
theorem sc_law:FnScope ["_law_script","_law_k"] ["_law_script"] (defScope aAe):=⟨rfl,rfl,rfl,by decide+kernel,rfl,by decide+kernel,by decide+kernel⟩
end K
set_option hygiene false in
local macro_rules | `(tactic| k_get) => `(tactic| first
 | refine aA 0 rfl ?_ | refine aA 1 rfl ?_ | refine aA 2 rfl ?_ | refine aA 3 rfl ?_ | refine aA 4 rfl ?_ | refine aA 5 rfl ?_ | refine aA 6 rfl ?_ | refine aA 7 rfl ?_ | refine aA 8 rfl ?_ | refine aA 9 rfl ?_ | refine aA 10 rfl ?_ | refine aA 11 rfl ?_ | refine aA 12 rfl ?_
 | refine aG ?_ | refine tV ?_ | refine ae_non ?_ | refine lA ?_ | refine bM ?_ | refine jH ?_
 | refine lB ?_ | refine ae_or ?_ | refine pJ ?_ | refine ae_not ?_ | refine ae_neg ?_ | refine wM ?_
 | refine aA4 (u64 hr) ?_ | refine ae_ne (u64 hr) ?_ | refine ae_lt (u64 hr) ?_ | refine ae_le ?_ | refine ae_gt ?_ | refine ae_ge ?_ | refine ae_in (u1 hr) ?_ | refine ae_nin (u1 hr) ?_ | refine ae_is ?_ | refine ae_isn ?_
 | refine ae_lele ?_
 | refine jM ?_ | refine ae_sub ?_ | refine ae_mul ?_ | refine ae_mod ?_ | refine ae_div ?_
 | refine iI sl_A ?_ | refine bJ (nA (u1 hr)) ?_
 | refine jL B.len ?_ | refine ae_c_int B.int ?_ | refine ae_c_abs B.abs ?_ | refine ae_c_max B.max ?_ | refine ae_c_min B.min ?_ | refine ae_c_isi B.isinstance ?_
 | refine ae_tupL B.tuple (?_:AL _ (.ListComp _ _ _ _) _ _ _) | refine ae_c_tuple B.tuple ?_ | refine ae_allL B.all ?_ | refine ae_anyL B.any ?_
 | refine aH (by assumption) (hr.mono (by omega)) ?_
 | refine pK ?_
 | refine jB (T:="tuple") B.tuple (by decide+kernel) ?_ | refine jB (T:="str") B.str (by decide+kernel) ?_ | refine jB (T:="list") B.list (by decide+kernel) ?_ | refine jB (T:="int") B.int (by decide+kernel) ?_ | refine jB (T:="bool") B.bool (by decide+kernel) ?_)
set_option hygiene false in
local macro_rules | `(tactic| k_put) => `(tactic| first
 | refine aBy ?_ | refine xM ?_ ?_ | refine add_S ?_ ?_ | refine sub_I ?_ | refine aA1 ?_ | refine aBQ ?_ | refine aBu ?_ | refine aBG ?_ | refine lt_I ?_ | refine lt_S ?_ | refine le_I ?_ | refine aBH ?_ | refine ge_I ?_
 | refine isa_N ?_ | refine isnota_N ?_ | refine aA0 ?_ rfl | refine ixa_N ?_ rfl | refine aBt (by assumption) ?_ rfl | refine mod_I ?_ ?_ | refine div_I ?_ ?_ | refine mul_I ?_ ?_ | refine mul_S ?_ ?_ ?_ ?_ | refine in_W (by assumption) ?_ | refine notIn_W (by assumption) ?_ | refine in_sign ?_ | refine in_L (by assumption) ?_ | refine notIn_L (by assumption) ?_ | refine in_T ?_ | refine notIn_T ?_ | refine eq_W0 ?_ | refine eq_W ?_ | refine aBP ?_ | refine eq_C ?_ | refine aBR ?_ | refine aBe ?_)
set_option hygiene false in
local macro_rules | `(tactic| k_go) => `(tactic| first
 | (show DL.ASs _ _ _ _ _;first | refine aO ?_ | refine aJ ?_ | refine bO ?_)
 | (show DL.AS _ _ _ _ _;first | refine aX ?_ | refine cX ?_ | refine wG ?_ | refine aY 0 ?_ | refine aY 1 ?_ | refine aY 2 ?_ | refine aY 3 ?_ | refine aY 4 ?_ | refine aY 5 ?_ | refine aY 6 ?_ | refine aY 7 ?_ | refine aY 8 ?_ | refine aY 9 ?_ | refine aY 10 ?_ | refine aY 11 ?_ | refine pG 0 ip_add rfl ?_ | refine pG 1 ip_add rfl ?_ | refine pG 2 ip_add rfl ?_ | refine pG 3 ip_add rfl ?_ | refine pG 4 ip_add rfl ?_ | refine pG 5 ip_add rfl ?_ | refine pG 6 ip_add rfl ?_ | refine as_retN ?_ | refine as_pass ?_ | refine as_break ?_ | refine as_continue ?_)
 | (show AE _ _ _ _ _;k_get)
 | (show AT _ _ _ _ _;first | refine aAT (?_:AW _ (.BoolOp _ _ _) _ _ _) | refine mO ?_ | refine qN (u64 hr) ?_ | refine at_ne (u64 hr) ?_ | refine at_lt (u64 hr) ?_ | refine at_le ?_ | refine aA3 ?_ | refine at_ge ?_ | refine at_in (u1 hr) ?_ | refine at_nin (u1 hr) ?_ | refine at_is ?_ | refine at_isn ?_ | refine at_lele ?_ | refine nR ?_)
 | (show AW _ _ _ _ _;first | refine zX ?_ | refine uB ?_ | refine wB ?_ | refine tM ?_)
 | (show AA _ _ _ _ _;first | refine aC ?_ | refine aD ?_)
 | (show AO _ _ _ _ _;first | refine lO ?_ | refine lQ ?_)
 | (show L2R _ _ _ _ _ _;k_put)
 | (show LcR _ _ _ _ _;first | refine len_T ?_ | refine len_N ?_ | refine len_S ?_ | refine len_L (by assumption) ?_ | refine len_D (by assumption) ?_ | refine mK ?_ | refine c_intB ?_ | refine aBv ?_ | refine c_max ?_ | refine c_min ?_ | refine c_tupT ?_ | refine lr_tup (by assumption) ?_ | refine isi_tt ?_ | refine isi_ii ?_ | refine isi_ib ?_ | refine isi_ss ?_ | refine isi_is ?_ | refine isi_ts ?_ | refine isi_st ?_ | refine isi_bb ?_)
 | (show LsR _ _ _ _ _ _ _;first | refine sla_T ?_ | refine sla_S ?_)
 | refine ⟨Nat.le_of_ble_eq_true rfl,?_⟩
 | refine ⟨_,rfl,?_⟩ | refine ⟨_,_,rfl,?_⟩ | refine ⟨_,_,_,rfl,?_⟩ | refine ⟨_,_,_,_,rfl,?_⟩
 | exact ⟨_,.refl _,q⟩)
set_option hygiene false in
local macro_rules | `(tactic| walk) => `(tactic| repeat k_go)
set_option hygiene false in
local macro_rules | `(tactic| k_few) => `(tactic| first | refine ⟨fun _ => ?_, (fun z => Bool.noConfusion z)⟩ | refine ⟨(fun z => Bool.noConfusion z), fun _ => ?_⟩)
set_option hygiene false in
local macro_rules | `(tactic| k_not) => `(tactic| refine ⟨fun hk => ?_, fun hk => ?_⟩)
namespace K
open PySem PySem.Spec PyProof.Rows L2 DL
structure Bl (mg:Str→Option Value):Prop where
 tuple:mg "tuple"=none
 list:mg "list"=none
 len:mg "len"=none
 any:mg "any"=none
 all:mg "all"=none
 range:mg "range"=none
 zip:mg "zip"=none
 isinstance:mg "isinstance"=none
 str:mg "str"=none
 sorted:mg "sorted"=none
 set:mg "set"=none
 dict:mg "dict"=none
 max:mg "max"=none
 min:mg "min"=none
 abs:mg "abs"=none
 int:mg "int"=none
 bool:mg "bool"=none
 sum:mg "sum"=none
 reversed:mg "reversed"=none
 repr:mg "repr"=none
 enumerate:mg "enumerate"=none
def GI (mg:Str→Option Value) (x:Str) (i:Int):Prop:= ∃t,mg x=some (.int i t)
section
variable {P:Program} {w:World} {K:PySem.W.Frag} {mg:Str→Option Value} {base:Heap} {f:Addr} {fd:FuncData}
def lJ:SpA:=fun ds L Q _=> ∃ws:List Wd,ds= [dW ws]∧Q (dC (ws.map fun w=> [w])) L
theorem ok_cells_of (F:Fun K "cells_of" "cells_of" iV f fd) (hb:Binds K fd ["words"] []) (B:Bl mg):FnA P w K mg base 1 f lJ:=by
 refine fnA F sc_cells_of hb (fun ds L Q R h=>by obtain ⟨ws,rfl,_⟩:=h;rfl) fun cdv A outer s H E ds L Q R hr h=> ?_
 obtain ⟨ws,rfl,q⟩:=h
 walk
 refine oH 1 (mQ ?_)
 walk
 refine fun hz=>⟨_,ws,.str,fun w=>dW [w],rfl,trivial,hz,fun y hy s H Cc cl fp Q q=> ?_,L,.refl L,?_⟩
 ·walk
  exact q
 ·unfold dC at q
  rw [List.map_map] at q
  exact q
def lE:SpA:=fun ds L Q _=> ∃(cs:List Cell) (a m:Nat),ds= [dC cs,.int a,.int m]∧Q (match wAt cs a m with | some ws=>dW ws | none=> .non) L
theorem ok_words_at (F:Fun K "words_at" "words_at" iJ f fd) (hb:Binds K fd ["cells","at","many"] []) (B:Bl mg):FnA P w K mg base 1 f lE:=by
 refine fnA F sc_words_at hb (fun ds L Q R h=>by obtain ⟨_,_,_,rfl,_⟩:=h;rfl) fun cdv A outer s H E ds L Q R hr h=> ?_
 obtain ⟨cs,a,m,rfl,q⟩:=h
 have e1:cut (cs.map dW) (some (a:Int)) (some ((a:Int)+(m:Int)))=((cs.drop a).take m).map dW:=by
  rw [show (a:Int)+(m:Int)=((a+m:Nat):Int) by omega,aAM,Nat.add_sub_cancel_left,←List.map_drop,←List.map_take]
 unfold wAt at q
 walk
 rw [e1]
 generalize (cs.drop a).take m=sm at q ⊢
 rw [List.length_map]
 k_not
 ·have hk:=of_decide_eq_true hk
  rw [if_pos (.inl (by omega))] at q
  k_few
  walk
 ·have hk:=of_decide_eq_false hk
  walk
  refine oH 4 (mQ ?_)
  walk
  refine fun hz=>⟨_,sm,dW,fun c=> .bl (!decide ((c.length:Int)=1)),rfl,trivial,hz,fun y hy s H Cc cl fp Q q=> ?_,sm.map fun c=> !decide ((c.length:Int)=1),by rw [List.map_map];rfl,?_⟩
  ·walk
   rw [List.length_map]
   exact q
  ·walk
   have ea:(sm.map fun c=> !decide ((c.length:Int)=1)).any id=sm.any fun c=>decide (c.length≠1):=by
    rw [List.any_map]
    congr 1
    funext c
    by_cases h:c.length=1 <;> simp [h]
    omega
   rw [ea]
   k_not
   ·rw [if_pos (.inr hk)] at q
    walk
   ·rename_i hz2
    rw [if_neg (fun z=>z.elim (fun z=>hz2 (by omega)) (fun z=>by rw [hk] at z;cases z))] at q
    have h1:∀c∈sm,c.length=1:=fun c hc=>by simpa using List.any_eq_false.mp hk c hc
    walk
    refine oH 4 (mQ ?_)
    walk
    refine fun hz=>⟨_,sm,dW,fun c=> .str (c.headD Str.empty),rfl,trivial,hz,fun y hy s H Cc cl fp Q q=> ?_,L,.refl L,?_⟩
    ·match y,h1 y hy with
     | [x],_=>
      walk
      exact q
    ·rw [show (sm.map fun c=>D.str (c.headD Str.empty))=(sm.map fun c=>c.headD Str.empty).map D.str by rw [List.map_map];rfl]
     exact q
def rY:SpA:=fun ds L Q _=> ∃(t:D) (rs:Rl) (cs:List Cell) (a:Nat),ds= [t,dC cs,.int a]∧DR L t (tbl rs)∧Q (dW (kAt rs cs a)) L
theorem ok_key_at (F:Fun K "key_at" "key_at" mW f fd) (hb:Binds K fd ["rules","cells","at"] []) (B:Bl mg) (g1:GI mg "MOST_KEY_rewriting" 3) (d1:Def P w K mg base "words_at" 1 lE):FnA P w K mg base 2 f rY:=by
 refine fnA F sc_key_at hb (fun ds L Q R h=>by obtain ⟨_,_,_,_,rfl,_⟩:=h;rfl) fun cdv A outer s H E ds L Q R hr h=> ?_
 obtain ⟨t,rs,cs,a,rfl,ht,q⟩:=h
 obtain ⟨tk,g1⟩:=g1
 refine aJ (tR (ai_range3 B.range (aC (jK g1 (aC (aG (aC (ae_neg (aG ⟨1,rfl,aD ⟨3,0,-1,3,rfl,RgC.neg (by decide) (by decide) (by decide) (by decide),?_⟩⟩)))))))))
 refine ⟨fun i Γ2 L2=>L2=L∧(∃x y,Γ2= [some t,some (dC cs),some (.int a),x,y])∧(∀m,3 - i < m→m≤3→fits rs cs a m=false),⟨rfl,⟨none,none,rfl⟩,fun m h1 h2=>absurd h1 (by omega)⟩,fun _ _ _ _=>trivial,?_,?_⟩
 ·rintro i d Γ2 L2 hd ⟨rfl,⟨x,y,rfl⟩,hn⟩
  have hi:i < 3∧d= .int ((3 - i:Nat):Int):=by
   unfold oU at hd
   rw [List.getElem?_map] at hd
   by_cases hi:i < 3
   ·rw [List.getElem?_range hi] at hd
    refine ⟨hi,?_⟩
    have e:=(Option.some.inj hd).symm
    rw [e]
    exact congrArg D.int (by omega)
   ·rw [List.getElem?_eq_none (by simpa using hi)] at hd
    cases hd
  obtain ⟨hi,rfl⟩:=hi
  have nx:fits rs cs a (3 - i)=false→∀m,3 - (i+1) < m→m≤3→fits rs cs a m=false:=fun hf m h1 h2=>by
   by_cases e:m=3 - i
   ·rw [e];exact hf
   ·exact hn m (by omega) h2
  refine ⟨_,_,aM 3,?_⟩
  walk
  cases hw:wAt cs a (3 - i) with
  | none=>
   have hf:fits rs cs a (3 - i)=false:=by unfold fits;rw [hw]
   walk
   k_few
   k_few
   exact bO ⟨rfl,⟨_,_,rfl⟩,nx hf⟩
  | some ws=>
   walk
   k_few
   walk
   k_not
   ·walk
    have hf:fits rs cs a (3 - i)=true:=by unfold fits;rw [hw];exact hk
    have hz:gM rs cs a=3 - i:=by
     unfold gM
     match i,hi with
     | 0,_=>rw [if_pos hf]
     | 1,_=>rw [hn 3 (by omega) (by omega),if_neg (by decide),if_pos hf]
     | 2,_=>rw [hn 3 (by omega) (by omega),hn 2 (by omega) (by omega),if_neg (by decide),if_neg (by decide),if_pos hf]
    have hk:kAt rs cs a=ws:=by
     unfold kAt
     rw [hz,if_neg (by omega),hw]
     rfl
    rw [hk] at q
    exact ⟨L2,.refl L2,q⟩
   ·exact bO ⟨rfl,⟨_,_,rfl⟩,nx (by unfold fits;rw [hw];exact hk)⟩
 ·rintro Γ2 L2 ⟨rfl,⟨x,y,rfl⟩,hn⟩
  have hz:gM rs cs a=0:=by
   unfold gM
   rw [hn 3 (by unfold oU;simp) (by omega),hn 2 (by unfold oU;simp) (by omega),hn 1 (by unfold oU;simp) (by omega)]
   rfl
  rw [vP hz] at q
  walk
def lG:SpA:=fun ds L Q _=> ∃(t:D) (rs:Rl) (cs:List Cell) (a:Nat),ds= [t,dC cs,.int a]∧DR L t (tbl rs)∧rs.length≤1000∧a≤cs.length∧Q (.bl (wait rs cs a)) L
theorem ok_is_waiting (F:Fun K "is_waiting" "is_waiting" dI f fd) (hb:Binds K fd ["rules","cells","at"] []) (B:Bl mg) (g1:GI mg "MOST_KEY_rewriting" 3) (d1:Def P w K mg base "words_at" 1 lE):FnA P w K mg base 2 f lG:=by
 refine fnA F sc_is_waiting hb (fun ds L Q R h=>by obtain ⟨_,_,_,_,rfl,_⟩:=h;rfl) fun cdv A outer s H E ds L Q R hr h=> ?_
 obtain ⟨t,rs,cs,a,rfl,ht,hz,ha,q⟩:=h
 obtain ⟨tk,g1⟩:=g1
 have em:((cs.map dW).length:Int) - (a:Int)=((cs.length - a:Nat):Int):=by rw [List.length_map];omega
 unfold wait at q
 walk
 rw [em]
 generalize cs.length - a=m at q ⊢
 refine jK g1 ?_
 walk
 k_not
 ·rw [decide_eq_false (by have:=of_decide_eq_true hk;omega:¬m < 3)] at q
  walk
 ·rw [decide_eq_true (by have:=of_decide_eq_false hk;omega:m < 3)] at q
  walk
  cases hw:wAt cs a m with
  | none=>
   rw [hw] at q
   walk
   k_few
   exact ⟨L,.refl L,q⟩
  | some ws=>
   rw [hw] at q
   walk
   k_few
   walk
   refine al_keys1 5 (α:=List Wd×List Cell) (xs:=rs) (g:=fun r=>dW r.1) (f:=fun r=> .bl (decide ((m:Int) < (r.1.length:Int)) && decide (r.1.take m=ws))) ht (fun L' Q q=> ?_) (by unfold tbl;rw [List.map_map];exact List.map_congr_left fun r _=>qU r.1) (by rw [bU];omega) (fun L' le y hy s H Cc cl fp Q q=> ?_) ?_
   ·walk
    exact q
   ·walk
    rw [List.length_map]
    k_not
    ·rw [hk] at q
     walk
     rw [zQ,←List.map_take]
     show L2R _ _ (dW _) _ _ _
     walk
     exact q
    ·rw [hk] at q
     exact q
   ·refine ⟨rs.map fun r=>decide ((m:Int) < (r.1.length:Int)) && decide (r.1.take m=ws),by rw [List.map_map];rfl,L,.refl L,?_⟩
    rw [List.any_map]
    refine q_bl q ?_
    rw [Bool.true_and]
    show rs.any _=rs.any _
    congr 1
    funext r
    show _=(decide ((m:Int) < (r.1.length:Int)) && decide (r.1.take m=ws))
    congr 1
    exact decide_eq_decide.mpr (by omega)
end
end K
namespace K
open PySem PySem.Spec PyProof.Rows L2 DL
section
variable {P:Program} {w:World} {K:PySem.W.Frag} {mg:Str→Option Value} {base:Heap} {f:Addr} {fd:FuncData}
def jE:SpA:=fun ds L Q _=> ∃(t:D) (rs:Rl) (cs:List Cell) (wh:Bool),ds= [t,dC cs,.bl wh]∧DR L t (tbl rs)∧RL2 rs∧rs.length≤1000∧cs.length≤1000000∧Q (.tup [dC (rw2 wh rs cs).1,dC (rw2 wh rs cs).2]) L
theorem ok_rewritten (F:Fun K "rewritten" "rewritten" eX f fd) (hb:Binds K fd ["rules","cells","is_whole"] []) (B:Bl mg) (d1:Def P w K mg base "key_at" 2 rY) (d2:Def P w K mg base "is_waiting" 2 lG):FnA P w K mg base 3 f jE:=by
 refine fnA F sc_rewritten hb (fun ds L Q R h=>by obtain ⟨_,_,_,_,rfl,_⟩:=h;rfl) fun cdv A outer s H E ds L Q R hr h=> ?_
 obtain ⟨t,rs,cs,wh,rfl,ht,hR,hrl,hz,q⟩:=h
 refine aJ (tQ 3 4 ?_)
 walk
 intro l hl
 walk
 refine as_post (fun Γ' L'=> ∃(fnd:List Cell) (a:Nat) (x:Option D),L'=put L l (.lst (fnd.map dW))∧Γ'= [some t,some (dC cs),some (.bl wh),some (.ptr l),some (.int a),x]∧(rwG wh rs cs cs.length 0)=(fnd,a)) ?_ ?_
 ·refine wD (fun m Γ1 L1=> ∃(fnd:List Cell) (a:Nat) (x:Option D),L1=put L l (.lst (fnd.map dW))∧Γ1= [some t,some (dC cs),some (.bl wh),some (.ptr l),some (.int a),x]∧(rwG wh rs cs cs.length 0)=(fnd++(rwG wh rs cs m a).1,(rwG wh rs cs m a).2)∧cs.length≤a+m∧fnd.length≤2*a∧a≤cs.length) cs.length ⟨[],0,none,rfl,rfl,rfl,by omega,Nat.le_refl _,by omega⟩ ?_
  rintro m Γ1 L1 ⟨fnd,a,x,rfl,rfl,inv,hm,hf,ha⟩
  have ht2:DR (put L l (.lst (fnd.map dW))) t (tbl rs):=ht.put hl
  have hlen:(cs.map dW).length=cs.length:=List.length_map ..
  have out:goes wh rs cs a=false→∃(fnd':List Cell) (a':Nat) (x':Option D),put L l (.lst (fnd.map dW))=put L l (.lst (fnd'.map dW))∧ [some t,some (dC cs),some (.bl wh),some (.ptr l),some (.int a),x]= [some t,some (dC cs),some (.bl wh),some (.ptr l),some (.int a'),x']∧(rwG wh rs cs cs.length 0)=(fnd',a'):=fun hg=>⟨fnd,a,x,rfl,rfl,by rw [inv,fP hg,List.append_nil]⟩
  refine AT.mono (Q:=fun k L2=>k=goes wh rs cs a∧L2=put L l (.lst (fnd.map dW))) ?_ ?_
  ·unfold goes
   walk
   rw [hlen]
   k_not
   ·rw [decide_eq_true (by have:=of_decide_eq_true hk;omega:a < cs.length)]
    walk
    k_not
    ·rw [hk]
     exact ⟨rfl,rfl⟩
    ·rw [hk]
     walk
     exact ⟨t,rs,cs,a,rfl,ht2,hrl,ha,_,rfl,rfl,rfl⟩
   ·rw [decide_eq_false (by have:=of_decide_eq_false hk;omega:¬a < cs.length)]
    exact ⟨rfl,rfl⟩
  ·rintro k L2 ⟨hk,rfl⟩
   refine ⟨fun h=> ?_,fun h=>out (by rw [←hk];exact h)⟩
   have hg:goes wh rs cs a=true:=by rw [←hk];exact h
   have hlt:=mG hg
   obtain ⟨m,rfl⟩:∃m',m=m'+1:=⟨m - 1,by omega⟩
   rw [cU hg] at inv
   have hwl:=wrt_len hR cs a
   have hend:=qJ (rs:=rs) hlt
   walk
   refine ⟨t,rs,cs,a,rfl,ht2,?_⟩
   walk
   walk
   k_not
   ·have h0:gM rs cs a=0:=by
     have:=kAt_len rs cs a
     cases e:kAt rs cs a with
     | nil=>rw [e] at this;exact this.symm
     | cons y ys=>rw [e] at hk;cases hk
    have hg:atI (cs.map dW) ((a:Nat):Int)=some (dW (cs.getD a [])):=by
     refine atI_nat ?_
     rw [List.getElem?_map,List.getElem?_eq_getElem hlt,List.getD_eq_getElem?_getD,List.getElem?_eq_getElem hlt]
     rfl
    have ew:wrt rs cs a= [cs.getD a []]:=if_pos h0
    walk
    refine ⟨l,_,rfl,aF,?_⟩
    walk
    refine aA0 ⟨_,aF,by rw [List.length_map,bU];omega,?_⟩ hg
    walk
    refine ⟨m,by omega,fnd++ [cs.getD a []],a+1,some (dW (kAt rs cs a)),?_,rfl,?_,by omega,by rw [List.length_append,List.length_singleton];omega,by omega⟩
    ·rw [cI,List.map_append];rfl
    ·rw [inv,ew,h0,List.append_assoc];rfl
   ·have h0:gM rs cs a≠0:=fun h0=>by
     rw [vP h0] at hk
     cases hk
    obtain ⟨z,h1,h2,h3⟩:=mZ h0
    have h4:=hR.lk h2
    have ew:wrt rs cs a=z:=by unfold wrt;rw [if_neg h0,h2];rfl
    walk
    refine ae_extT ?_
    walk
    refine ⟨l,_,rfl,aF,?_⟩
    walk
    refine ixa_W ht2 ⟨_,_,rfl,aF,by rw [List.length_map,List.length_map,bU];omega,?_⟩ h2
    walk
    refine ⟨m,by omega,fnd++z,a+gM rs cs a,some (dW (kAt rs cs a)),?_,?_,?_,by omega,by rw [List.length_append];omega,by omega⟩
    ·rw [cI,List.map_append]
    ·show [some t,some (dC cs),some (.bl wh),some (.ptr l),some (.int ((a:Int)+(((kAt rs cs a).map D.str).length:Int))),some (dW (kAt rs cs a))]=_
     rw [List.length_map,h3]
     rfl
    ·rw [inv,ew,Nat.max_eq_right (by omega),List.append_assoc]
 ·rintro Γ' L' ⟨fnd,a,x,rfl,rfl,inv⟩
  unfold rw2 at q
  rw [inv] at q
  walk
  have hp:LR (put L l (.lst (fnd.map dW))) (.ptr l) (fnd.map dW):= .st aF
  walk
  rw [lL,←List.map_drop]
  exact ⟨L,aU hl,q⟩
end
end K
namespace K
open PySem PySem.Spec PyProof.Rows L2 DL
section
variable {P:Program} {w:World} {K:PySem.W.Frag} {mg:Str→Option Value} {base:Heap} {f:Addr} {fd:FuncData}
abbrev Sg:=List (D×Rl×List Wd)
def aBJ (L:Lp) (ts:Sg):Prop:=ts.length≤2∧∀t∈ts,DR L t.1 (tbl t.2.1)∧RL2 t.2.1∧t.2.1.length≤1000∧t.2.2.length≤1000
def dT (ts:Sg):D:= .tup (ts.map (·.1))
def dP (ts:Sg):D:= .tup (ts.map fun t=>dW t.2.2)
def dH (hs:List (List Wd)):D:= .tup (hs.map dW)
def jR:SpA:=fun ds L Q _=> ∃(ts:Sg) (cs:List Cell) (wh:Bool),ds= [dT ts,dP ts,dC cs,.bl wh]∧aBJ L ts∧cs.length≤100000∧Q (.tup [dH (thr wh (ts.map (·.2)) cs).1,dC (thr wh (ts.map (·.2)) cs).2]) L
theorem ok_through (F:Fun K "through" "through" jV f fd) (hb:Binds K fd ["stages","pending","cells","is_whole"] []) (B:Bl mg) (d1:Def P w K mg base "cells_of" 1 lJ) (d2:Def P w K mg base "rewritten" 3 jE):FnA P w K mg base 4 f jR:=by
 refine fnA F sc_through hb (fun ds L Q R h=>by obtain ⟨_,_,_,rfl,_⟩:=h;rfl) fun cdv A outer s H E ds L Q R hr h=> ?_
 obtain ⟨ts,cs,wh,rfl,⟨hl2,hs⟩,hz,q⟩:=h
 walk
 intro l hl
 walk
 refine tR (wI B.zip ?_)
 walk
 intro hz2
 have hzl:(qW (ts.map (·.1)) (ts.map fun t=>dW t.2.2)).length=ts.length:=by
  unfold qW
  rw [List.length_zipWith,List.length_map,List.length_map,Nat.min_self]
 refine ⟨fun i Γ2 L2=>L2=put L l (.lst ((thr wh ((ts.map (·.2)).take i) cs).1.map dW))∧∃x y z u,Γ2= [some (dT ts),some (dP ts),some (dC (thr wh ((ts.map (·.2)).take i) cs).2),some (.bl wh),some (.ptr l),x,y,z,u],⟨rfl,none,none,none,none,rfl⟩,fun _ _ _ _=>trivial,?_,?_⟩
 ·rintro i d Γ2 L2 hd ⟨rfl,x,y,z,u,rfl⟩
  have hi:i < ts.length:=by
   have:=(List.getElem?_eq_some_iff.mp hd).1
   rwa [hzl] at this
  have hd2:d= .tup [ts[i].1,dW ts[i].2.2]:=by
   have e:=(List.getElem?_eq_some_iff.mp hd).2
   rw [←e]
   unfold qW
   simp
  subst hd2
  have hti:=hs ts[i] (List.getElem_mem hi)
  have etk:thr wh ((ts.map (·.2)).take (i+1)) cs=aAl wh (thr wh ((ts.map (·.2)).take i) cs) ts[i].2:=by
   rw [List.take_add_one,List.getElem?_map,List.getElem?_eq_getElem hi]
   exact thr_snoc ..
  have hcl:=thr_len2 (wh:=wh) (qs:=ts.map (·.2)) cs (fun q hq=>by
   obtain ⟨t,ht,rfl⟩:=List.mem_map.mp hq
   exact ⟨(hs t ht).2.1,(hs t ht).2.2.2⟩) i (by rw [List.length_map];omega)
  have hgr:grow cs.length i≤300000:=by
   match i,(show i < 2 by omega) with
   | 0,_=>show cs.length≤_;omega
   | 1,_=>show 2*(cs.length+1000)≤_;omega
  have hln:=thr_len1 wh ((ts.map (·.2)).take i) cs
  rw [List.length_take,List.length_map] at hln
  generalize thr wh ((ts.map (·.2)).take i) cs=T at*
  generalize ts[i]=t at*
  obtain ⟨tb,rs,pd⟩:=t
  replace hti:DR L tb (tbl rs)∧RL2 rs∧rs.length≤1000∧pd.length≤1000:=hti
  have hop:(one pd).length=pd.length:=List.length_map ..
  have h1:=rw2_one wh rs (one pd++T.2)
  refine ⟨_,_,kZ (aV (aM 5) (aV (aM 6) fV)),?_⟩
  refine aJ (pH ?_)
  walk
  ·show jE [tb,.tup ((one pd).map dW++T.2.map dW),.bl wh] _ _ _
   rw [←List.map_append]
   refine ⟨tb,rs,one pd++T.2,wh,rfl,hti.1.put hl,hti.2.1,hti.2.2.1,by rw [List.length_append];omega,?_⟩
   refine ⟨_,_,kZ (aV (aM 2) (aV (aM 7) fV)),?_⟩
   walk
   refine ⟨l,_,rfl,aF,?_⟩
   walk
   refine oH 8 (mQ ?_)
   walk
   refine fun hz=>⟨_,(rw2 wh rs (one pd++T.2)).2,dW,fun c=> .str (hd0 c),rfl,trivial,hz,fun y hy s H Cc cl fp Q q=> ?_,_,aF,by rw [List.length_map,bU];omega,?_⟩
   ·match y,h1 y hy with
    | [x],_=>
     walk
     exact q
   ·walk
    dsimp only
    rw [etk]
    refine ⟨?_,_,_,_,_,rfl⟩
    rw [cI]
    unfold aAl
    rw [List.map_append,show ((rw2 wh rs (one pd++T.2)).2.map fun c=>D.str (hd0 c))=((rw2 wh rs (one pd++T.2)).2.map hd0).map D.str by rw [List.map_map];rfl]
    rfl
  ·show ((one pd).map dW).length+(T.2.map dW).length≤_
   rw [List.length_map,List.length_map,bU]
   omega
 ·rintro Γ2 L2 ⟨rfl,x,y,z,u,rfl⟩
  rw [hzl,List.take_of_length_le (by rw [List.length_map];exact Nat.le_refl _)]
  have hp:LR (put L l (.lst ((thr wh (ts.map (·.2)) cs).1.map dW))) (.ptr l) ((thr wh (ts.map (·.2)) cs).1.map dW):= .st aF
  walk
  exact ⟨L,aU hl,q⟩
def cP:SpA:=fun ds L Q _=> ∃(ts:List D),ds= [.tup ts]∧Q (.tup (ts.map fun _=> .tup [])) L
theorem ok_nothing_pending (F:Fun K "nothing_pending" "nothing_pending" bQ f fd) (hb:Binds K fd ["stages"] []) (B:Bl mg):FnA P w K mg base 1 f cP:=by
 refine fnA F sc_nothing_pending hb (fun ds L Q R h=>by obtain ⟨_,rfl,_⟩:=h;rfl) fun cdv A outer s H E ds L Q R hr h=> ?_
 obtain ⟨ts,rfl,q⟩:=h
 walk
 refine oH 1 (mQ ?_)
 walk
 refine fun hz=>⟨_,ts,id,fun _=> .tup [],by rw [List.map_id],trivial,hz,fun y hy s H Cc cl fp Q q=> ?_,L,.refl L,q⟩
 walk
 exact q
def sg0 (ts:List (D×Rl)):Sg:=ts.map fun t=>(t.1,t.2,[])
def mV:SpA:=fun ds L Q _=> ∃(ts:List (D×Rl)) (ws:List Wd),ds= [.tup (ts.map (·.1)),dW ws]∧aBJ L (sg0 ts)∧ws.length≤100000∧Q (dC (thr true ((sg0 ts).map (·.2)) (one ws)).2) L
theorem ok_written (F:Fun K "written" "written" jU f fd) (hb:Binds K fd ["stages","text"] []) (B:Bl mg) (d1:Def P w K mg base "cells_of" 1 lJ) (d2:Def P w K mg base "nothing_pending" 1 cP) (d3:Def P w K mg base "through" 4 jR):FnA P w K mg base 5 f mV:=by
 refine fnA F sc_written hb (fun ds L Q R h=>by obtain ⟨_,_,rfl,_⟩:=h;rfl) fun cdv A outer s H E ds L Q R hr h=> ?_
 obtain ⟨ts,ws,rfl,hs,hz,q⟩:=h
 have e1:dT (sg0 ts)= .tup (ts.map (·.1)):=by unfold dT sg0;rw [List.map_map];rfl
 have e2:dP (sg0 ts)= .tup ((ts.map (·.1)).map fun _=> .tup []):=by unfold dP sg0;rw [List.map_map,List.map_map];rfl
 walk
 rw [←e1,←e2]
 refine ⟨sg0 ts,one ws,true,rfl,hs,by show (ws.map _).length≤_;rw [List.length_map];exact hz,?_⟩
 walk
end
end K
namespace K
open PySem PySem.Spec PyProof.Rows L2 DL
def GS (mg:Str→Option Value) (x y:Str):Prop:= ∃t,mg x=some (.str y t)
section
variable {P:Program} {w:World} {K:PySem.W.Frag} {mg:Str→Option Value} {base:Heap} {f:Addr} {fd:FuncData}
def pP:SpA:=fun ds L Q _=> ∃d:D,ds= [d]∧okE d=true∧Q (.bl (wdD d)) L
theorem ok_is_word (F:Fun K "is_word" "is_word" jW f fd) (hb:Binds K fd ["value"] []) (B:Bl mg) (g1:GI mg "MOST_LETTERS" 8) (g2:GS mg "LETTERS" "abcdefghijklmnopqrstuvwxyz"):FnA P w K mg base 1 f pP:=by
 refine fnA F sc_is_word hb (fun ds L Q R h=> ?_) fun cdv A outer s H E ds L Q R hr h=> ?_
 ·obtain ⟨_,rfl,_⟩:=h;rfl
 ·obtain ⟨d,rfl,hd,q⟩:=h
  obtain ⟨t1,g1⟩:=g1
  obtain ⟨t2,g2⟩:=g2
  by_cases hx:∃x,d= .str x
  ·obtain ⟨x,rfl⟩:=hx
   refine aJ (cX (aAT (uB (mO (nR (aP lN B.isinstance (aC (aA 0 rfl (aC (jB (T:="str") B.str (by decide+kernel) (aD (qG hd (kitE_str hd) ⟨true,rfl,(fun z=>nomatch z),fun _=>tM (mO ?_)⟩))))))))))))
   refine at_chain op_le op_le (aG (aP call_len_str B.len (aC (aA 0 rfl (aD (aAP (aBd ⟨_,rfl,fun h1=>jK g1 (aBd ⟨_,rfl,?_⟩),fun h1=> ?_⟩))))))) (pt_chain op_le op_le bA bA bA)
   ·have h1':=of_decide_eq_true h1
    refine ⟨fun h2=>aO (aX (tV ⟨L,.refl L,?_⟩)),fun h2=>bO (aO (aX (nM [("letter",1)] B.all (ai_str (aA 0 rfl ⟨x,rfl,fun hx=>⟨fun d=>match d with | .str z=>decide (z.cps.toList.headD 0∈abc) | _=>false,trivial,?_,yK (fun j hj=>hj) (fun i d hd s H Cc cl fp=>⟨aM 1,fun Q q=> ?_⟩),L,.refl L,?_⟩⟩)))))⟩
    ·have e:wdD (.str x)=false:=by
      show wdS x=false
      unfold wdS
      have:¬(x.length:Int)≤8:=by simpa using h2
      rw [decide_eq_false (by omega:¬x.length≤8),Bool.and_false]
      rfl
     rw [e] at q
     exact q
    ·rw [signs_len];exact hx.len
    ·obtain ⟨k,hk,rfl⟩:=signs_get hd
     exact eQ op_in_sign rfl (aA 1 rfl (jJ g2 (r_inSign q) (hz:=⟨by decide+kernel,by decide+kernel⟩)))
    ·have e:wdD (.str x)=(DL.cV x).all fun d=>match d with | .str z=>decide (z.cps.toList.headD 0∈abc) | _=>false:=by
      show wdS x=_
      unfold wdS
      have h8:(x.length:Int)≤8:=by simpa using h2
      rw [decide_eq_true (by omega:1≤x.length),decide_eq_true (by omega:x.length≤8)]
      unfold DL.cV
      rw [List.all_map]
      rfl
     rw [e] at q
     exact q
   ·refine ⟨fun _=>aO (aX (tV ⟨L,.refl L,?_⟩)),(fun z=>nomatch z)⟩
    have e:wdD (.str x)=false:=by
     show wdS x=false
     unfold wdS
     have:¬(1:Int)≤(x.length:Int):=of_decide_eq_false h1
     rw [decide_eq_false (by omega:¬1≤x.length)]
     rfl
    rw [e] at q
    exact q
  ·have e:wdD d=false:=by
    cases d <;> first | rfl | exact absurd ⟨_,rfl⟩ hx
   have hk:kitB (tyD d) "str"=some false:=by
    rw [kitE_str hd]
    cases d <;> first | rfl | exact absurd ⟨_,rfl⟩ hx
   rw [e] at q
   exact aJ (cX (aAT (uB (mO (nR (aP lN B.isinstance (aC (aA 0 rfl (aC (jB (T:="str") B.str (by decide+kernel) (aD (qG hd hk ⟨false,rfl,fun _=>⟨fun _=>aO (aX (tV ⟨L,.refl L,q⟩)),(fun z=>nomatch z)⟩,(fun z=>nomatch z)⟩))))))))))))
end
end K
namespace K
open PySem PySem.Spec PyProof.Rows L2 DL
section
variable {P:Program} {w:World} {K:PySem.W.Frag} {mg:Str→Option Value} {base:Heap} {f:Addr} {fd:FuncData}
def eV:SpA:=fun ds L Q _=> ∃d:D,ds= [d]∧okE d=true∧Q (.bl (txD d)) L
theorem ok_is_text (F:Fun K "is_text" "is_text" jX f fd) (hb:Binds K fd ["value"] []) (B:Bl mg) (d1:Def P w K mg base "is_word" 1 pP):FnA P w K mg base 2 f eV:=by
 refine fnA F sc_is_text hb (fun ds L Q R h=> ?_) fun cdv A outer s H E ds L Q R hr h=> ?_
 ·obtain ⟨_,rfl,_⟩:=h;rfl
 ·obtain ⟨d,rfl,hd,q⟩:=h
  refine aO (aX (lB (aP lN B.isinstance (aC (aA 0 rfl (aC (jB (T:="tuple") B.tuple (by decide+kernel) (aD (qG hd (rF hd) ?_)))))))))
  cases d with
  | tup ds=>
   rw [okE] at hd
   refine ⟨_,rfl,fun _=>pJ (nM [("word",1)] B.all (mQ (aA 0 rfl ⟨_,rfl,fun hz=>⟨wdD,trivial,hz,yK (fun j hj=>hj) (fun i d hi s H Cc cl fp=>⟨aM 1,fun Q q=>aH d1 (hr.mono (by omega)) (aC (aA 1 rfl (aD ⟨d,rfl,vH hd hi,q⟩)))⟩),L,.refl L,q⟩⟩))),(fun z=>nomatch z)⟩
  | _=>exact ⟨_,rfl,(fun z=>nomatch z),fun _=>⟨L,.refl L,q⟩⟩
def sE:SpA:=fun ds L Q _=> ∃d:D,ds= [d]∧okE d=true∧Q (.bl (kyD d)) L
theorem ok_is_key (F:Fun K "is_key" "is_key" mX f fd) (hb:Binds K fd ["value"] []) (B:Bl mg) (g1:GI mg "MOST_KEY_words" 3) (d1:Def P w K mg base "is_text" 2 eV):FnA P w K mg base 3 f sE:=by
 refine fnA F sc_is_key hb (fun ds L Q R h=> ?_) fun cdv A outer s H E ds L Q R hr h=> ?_
 ·obtain ⟨_,rfl,_⟩:=h;rfl
 ·obtain ⟨d,rfl,hd,q⟩:=h
  obtain ⟨t1,g1⟩:=g1
  refine aO (aX (lB (aH d1 (hr.mono (by omega)) (aC (aA 0 rfl (aD ⟨d,rfl,hd,_,rfl,fun ht=> ?_,fun ht=>⟨L,.refl L,?_⟩⟩))))))
  ·obtain ⟨ws,rfl,hw⟩:=yW ht
   have e:kyD (dW ws)=(decide (1≤ws.length) && decide (ws.length≤3)):=by
    show ((ws.map D.str).all wdD && decide (1≤(ws.map D.str).length) && decide ((ws.map D.str).length≤3))=_
    rw [show (ws.map D.str).all wdD=true from ht,List.length_map]
    rfl
   rw [e] at q
   refine pJ (ae_chain op_le op_le (aG (aP call_len_seq B.len (aC (aA 0 rfl (aD (uI (aBd ⟨_,rfl,fun h1=>jK g1 (aBd ⟨L,.refl L,?_⟩),fun h1=>⟨L,.refl L,?_⟩⟩))))))) (pe_chain op_le op_le bA bA bA))
   ·have h1:=of_decide_eq_true h1
    rw [List.length_map] at h1 ⊢
    rw [decide_eq_true (by omega:1≤ws.length),Bool.true_and] at q
    rw [show decide ((ws.length:Int)≤3)=decide (ws.length≤3) from by by_cases h:ws.length≤3 <;> simp [h] <;> omega]
    exact q
   ·have h1:=of_decide_eq_false h1
    rw [List.length_map] at h1
    rw [decide_eq_false (by omega:¬1≤ws.length)] at q
    exact q
  ·have e:kyD d=false:=by
    cases d with
    | tup ds=>
     show (ds.all wdD && _ && _)=false
     rw [show ds.all wdD=false from ht]
     rfl
    | _=>rfl
   rw [e] at q
   exact q
def lY:SpA:=fun ds L Q _=> ∃ws:List Wd,ds= [dW ws]∧Q (.bl (adj ws)) L
theorem ok_is_rising (F:Fun K "is_rising" "is_rising" eZ f fd) (hb:Binds K fd ["values"] []) (B:Bl mg):FnA P w K mg base 1 f lY:=by
 refine fnA F sc_is_rising hb (fun ds L Q R h=> ?_) fun cdv A outer s H E ds L Q R hr h=> ?_
 ·obtain ⟨_,rfl,_⟩:=h;rfl
 ·obtain ⟨ws,rfl,q⟩:=h
  refine aO (aX (nM [("one",1),("other",2)] B.all (wI B.zip (aC (aA 0 rfl (aC (iI sl_tupA (aA 0 rfl (lO (aG ⟨1,rfl,lQ (aAd (aD ⟨_,_,rfl,fun hz=>⟨ltP,trivial,?_,?_,L,.refl L,?_⟩⟩))⟩))))))))))
  ·unfold qW
   rw [List.length_zipWith]
   exact Nat.le_trans (Nat.min_le_left _ _) hz
  ·intro i d hd
   have:∃x y,d= .tup [.str x,.str y]:=by
    unfold qW at hd
    rw [List.getElem?_zipWith] at hd
    rw [vW,←List.map_drop,List.getElem?_map,List.getElem?_map] at hd
    cases e1:ws[i]? with
    | none=>rw [e1] at hd;cases hd
    | some x=>
     cases e2:(ws.drop 1)[i]? with
     | none=>rw [e1,e2] at hd;cases hd
     | some y=>rw [e1,e2] at hd;cases hd;exact ⟨x,y,rfl⟩
   obtain ⟨x,y,rfl⟩:=this
   refine ⟨_,_,?_,fun s H Cc cl fp=>⟨kZ (aV (aM 1) (aV (aM 2) fV)),fun Q q=>eQ op_lt_str rfl (aA 1 rfl (aA 2 rfl (r_ltS q)))⟩⟩
   intro j hj
   exact hj
  ·rw [vW,←List.map_drop,adj_zip]
   exact q
def nU:SpA:=fun ds L Q _=> ∃(d:D) (m:Nat),ds= [d,.int m]∧okE d=true∧Q (.bl (wsD m d)) L
theorem ok_is_words (F:Fun K "is_words" "is_words" iK f fd) (hb:Binds K fd ["value","most"] []) (B:Bl mg) (d1:Def P w K mg base "is_text" 2 eV) (d2:Def P w K mg base "is_rising" 1 lY):FnA P w K mg base 3 f nU:=by
 refine fnA F sc_is_words hb (fun ds L Q R h=> ?_) fun cdv A outer s H E ds L Q R hr h=> ?_
 ·obtain ⟨_,_,rfl,_⟩:=h;rfl
 ·obtain ⟨d,m,rfl,hd,q⟩:=h
  refine aO (aX (lB (aH d1 (hr.mono (by omega)) (aC (aA 0 rfl (aD ⟨d,rfl,hd,_,rfl,fun ht=> ?_,fun ht=>⟨L,.refl L,?_⟩⟩))))))
  ·obtain ⟨ws,rfl,hw⟩:=yW ht
   rw [wsD_dW m ws ht] at q
   refine lB (eQ op_le rfl (aP call_len_seq B.len (aC (aA 0 rfl (aD (uI (aA 1 rfl (aBd ⟨_,rfl,fun h1=>pJ (aH d2 (hr.mono (by omega)) (aC (aA 0 rfl (aD ⟨ws,rfl,L,.refl L,?_⟩)))),fun h1=>⟨L,.refl L,?_⟩⟩))))))))
   ·have h1:=of_decide_eq_true h1
    rw [List.length_map] at h1
    rw [decide_eq_true (by omega:ws.length≤m),Bool.true_and] at q
    exact q
   ·have h1:=of_decide_eq_false h1
    rw [List.length_map] at h1
    rw [decide_eq_false (by omega:¬ws.length≤m)] at q
    exact q
  ·rw [wsD_no ht] at q
   exact q
def pU:SpA:=fun ds L Q _=> ∃(d:D),ds= [d]∧okE d=true∧Q (.bl (ceD d)) L
theorem ok_is_cell (F:Fun K "is_cell" "is_cell" jZ f fd) (hb:Binds K fd ["value"] []) (g1:GI mg "MOST_CELL" 3) (d1:Def P w K mg base "is_words" 3 nU):FnA P w K mg base 4 f pU:=by
 refine fnA F sc_is_cell hb (fun ds L Q R h=> ?_) fun cdv A outer s H E ds L Q R hr h=> ?_
 ·obtain ⟨_,rfl,_⟩:=h;rfl
 ·obtain ⟨d,rfl,hd,q⟩:=h
  obtain ⟨t1,g1⟩:=g1
  refine aO (aX (aH d1 (hr.mono (by omega)) (aC (aA 0 rfl (aC (jK g1 (aD ⟨d,3,rfl,hd,L,.refl L,?_⟩)))))))
  rw [ceD_ws] at q
  exact q
def nY:SpA:=fun ds L Q _=> ∃(d:D),ds= [d]∧okE d=true∧Q (.bl (csD d)) L
theorem ok_is_cells (F:Fun K "is_cells" "is_cells" iT f fd) (hb:Binds K fd ["value"] []) (B:Bl mg) (g1:GI mg "MOST_CELLS" 2) (d1:Def P w K mg base "is_cell" 4 pU):FnA P w K mg base 5 f nY:=by
 refine fnA F sc_is_cells hb (fun ds L Q R h=> ?_) fun cdv A outer s H E ds L Q R hr h=> ?_
 ·obtain ⟨_,rfl,_⟩:=h;rfl
 ·obtain ⟨d,rfl,hd,q⟩:=h
  obtain ⟨t1,g1⟩:=g1
  refine aO (aX (lB (aP lN B.isinstance (aC (aA 0 rfl (aC (jB (T:="tuple") B.tuple (by decide+kernel) (aD (qG hd (rF hd) ?_)))))))))
  cases d with
  | tup ds=>
   rw [okE] at hd
   refine ⟨_,rfl,fun _=> ?_,(fun z=>nomatch z)⟩
   refine lB (eQ op_le rfl (aP call_len_seq B.len (aC (aA 0 rfl (aD (uI (jK g1 (aBd ⟨_,rfl,fun h1=>pJ (nM [("cell",1)] B.all (mQ (aA 0 rfl ⟨_,rfl,fun hz=>⟨ceD,trivial,hz,yK (fun j hj=>hj) (fun i d hi s H Cc cl fp=>⟨aM 1,fun Q q=>aH d1 (hr.mono (by omega)) (aC (aA 1 rfl (aD ⟨d,rfl,vH hd hi,q⟩)))⟩),L,.refl L,?_⟩⟩))),fun h1=>⟨L,.refl L,?_⟩⟩))))))))
   ·have h1:=of_decide_eq_true h1
    rw [show csD (.tup ds)=(decide (ds.length≤2) && ds.all ceD) from rfl,decide_eq_true (by omega:ds.length≤2)] at q
    exact q
   ·have h1:=of_decide_eq_false h1
    rw [show csD (.tup ds)=(decide (ds.length≤2) && ds.all ceD) from rfl,decide_eq_false (by omega:¬ds.length≤2)] at q
    exact q
  | _=>exact ⟨_,rfl,(fun z=>nomatch z),fun _=>⟨L,.refl L,q⟩⟩
end
end K
namespace K
open PySem PySem.Spec PyProof.Rows L2 DL
section
variable {P:Program} {w:World} {K:PySem.W.Frag} {mg:Str→Option Value} {base:Heap} {f:Addr} {fd:FuncData}
def pQ:SpA:=fun ds L Q _=> ∃d:D,ds= [d]∧okE d=true∧Q (.bl (ruD d)) L
theorem ok_is_rule (F:Fun K "is_rule" "is_rule" jY f fd) (hb:Binds K fd ["value"] []) (B:Bl mg) (d1:Def P w K mg base "is_key" 3 sE) (d2:Def P w K mg base "is_cells" 5 nY):FnA P w K mg base 6 f pQ:=by
 refine fnA F sc_is_rule hb (fun ds L Q R h=> ?_) fun cdv A outer s H E ds L Q R hr h=> ?_
 ·obtain ⟨_,rfl,_⟩:=h;rfl
 ·obtain ⟨d,rfl,hd,q⟩:=h
  refine aO (aX (lB (aP lN B.isinstance (aC (aA 0 rfl (aC (jB (T:="tuple") B.tuple (by decide+kernel) (aD (qG hd (rF hd) ?_)))))))))
  cases d with
  | tup ds=>
   rw [okE] at hd
   refine ⟨_,rfl,fun _=> ?_,(fun z=>nomatch z)⟩
   refine lB (eQ op_eq rfl (aP call_len_seq B.len (aC (aA 0 rfl (aD (uI (aG (aBf ⟨_,rfl,fun h1=> ?_,fun h1=>⟨L,.refl L,?_⟩⟩))))))))
   ·have h1:=of_decide_eq_true h1
    match ds,h1 with
    | [k,c],_=>
     rw [wV,wV,Bool.and_eq_true,Bool.and_eq_true] at hd
     refine lB (aH d1 (hr.mono (by omega)) (aC (bJ ix_tup (aA 0 rfl (aG (aAw rfl (aD ⟨k,rfl,hd.1,_,rfl,fun hk=>pJ (aH d2 (hr.mono (by omega)) (aC (bJ ix_tup (aA 0 rfl (aG (aAw rfl (aD ⟨c,rfl,hd.2.1,L,.refl L,?_⟩))))))),fun hk=>⟨L,.refl L,?_⟩⟩)))))))
     ·rw [show ruD (.tup [k,c])=(kyD k && csD c) from rfl,hk] at q
      exact q
     ·rw [show ruD (.tup [k,c])=(kyD k && csD c) from rfl,hk] at q
      exact q
   ·have h1:=of_decide_eq_false h1
    have e:ruD (.tup ds)=false:=by
     unfold ruD
     split
     ·rename_i k c e
      cases e
      exact absurd rfl h1
     ·rfl
    rw [e] at q
    exact q
  | _=>exact ⟨_,rfl,(fun z=>nomatch z),fun _=>⟨L,.refl L,q⟩⟩
def nW:SpA:=fun ds L Q _=> ∃d:D,ds= [d]∧okE d=true∧Q (.bl (rsD d)) L
theorem ok_is_rules (F:Fun K "is_rules" "is_rules" iQ f fd) (hb:Binds K fd ["value"] []) (B:Bl mg) (g1:GI mg "MOST_RULES" 6) (d1:Def P w K mg base "is_rule" 6 pQ):FnA P w K mg base 7 f nW:=by
 refine fnA F sc_is_rules hb (fun ds L Q R h=> ?_) fun cdv A outer s H E ds L Q R hr h=> ?_
 ·obtain ⟨_,rfl,_⟩:=h;rfl
 ·obtain ⟨d,rfl,hd,q⟩:=h
  obtain ⟨t1,g1⟩:=g1
  refine aJ (cX (aAT (uB (mO (nR (aP lN B.isinstance (aC (aA 0 rfl (aC (jB (T:="tuple") B.tuple (by decide+kernel) (aD (qG hd (rF hd) ?_))))))))))))
  cases d with
  | tup ds=>
   rw [okE] at hd
   refine ⟨_,rfl,(fun z=>nomatch z),fun _=> ?_⟩
   refine uB (eU op_gt rfl (aP call_len_seq B.len (aC (aA 0 rfl (aD (uI (jK g1 (aBN ⟨_,rfl,fun h1=>⟨fun _=>aO (aX (tV ⟨L,.refl L,?_⟩)),(fun z=>nomatch z)⟩,fun h1=>tM (mO (nR (nM [("rule",1)] B.all (mQ (aA 0 rfl ⟨_,rfl,fun hz=>⟨ruD,trivial,hz,yK (fun j hj=>hj) (fun i d hi s H Cc cl fp=>⟨aM 1,fun Q q=>aH d1 (hr.mono (by omega)) (aC (aA 1 rfl (aD ⟨d,rfl,vH hd hi,q⟩)))⟩),⟨_,rfl,fun hn=>aO (aX (tV ⟨L,.refl L,?_⟩)),fun hn=>bO ?_⟩⟩⟩)))))⟩))))))))
   ·have h1:=of_decide_eq_true h1
    rw [show rsD (.tup ds)=(decide (ds.length≤6) && ds.all ruD && (qW ds (ds.drop 1)).all ltR) from rfl,decide_eq_false (by omega:¬ds.length≤6)] at q
    exact q
   ·have hn:ds.all ruD=false:=by simpa using hn
    rw [show rsD (.tup ds)=(decide (ds.length≤6) && ds.all ruD && (qW ds (ds.drop 1)).all ltR) from rfl,hn,Bool.and_false] at q
    exact q
   ·have hn:ds.all ruD=true:=by simpa using hn
    have h1:=of_decide_eq_false h1
    obtain ⟨rs,rfl⟩:=rules_dR hn
    rw [show rsD (.tup (rs.map dRu))=(decide ((rs.map dRu).length≤6) && (rs.map dRu).all ruD && (qW (rs.map dRu) ((rs.map dRu).drop 1)).all ltR) from rfl,hn,decide_eq_true (by omega:(rs.map dRu).length≤6),Bool.true_and,Bool.true_and] at q
    refine aO (aX (nM [("one",2),("other",3)] B.all (wI B.zip (aC (aA 0 rfl (aC (iI sl_tupA (aA 0 rfl (lO (aG ⟨1,rfl,lQ (aAd (aD ⟨_,_,rfl,fun hz=>⟨ltR,trivial,?_,?_,L,.refl L,?_⟩⟩))⟩))))))))))
    ·unfold qW
     rw [List.length_zipWith]
     exact Nat.le_trans (Nat.min_le_left _ _) hz
    ·intro i d hd
     have:∃x y,d= .tup [dRu x,dRu y]:=by
      unfold qW at hd
      rw [List.getElem?_zipWith] at hd
      rw [vW,←List.map_drop,List.getElem?_map,List.getElem?_map] at hd
      cases e1:rs[i]? with
      | none=>rw [e1] at hd;cases hd
      | some x=>
       cases e2:(rs.drop 1)[i]? with
       | none=>rw [e1,e2] at hd;cases hd
       | some y=>rw [e1,e2] at hd;cases hd;exact ⟨x,y,rfl⟩
     obtain ⟨x,y,rfl⟩:=this
     refine ⟨_,_,?_,fun s H Cc cl fp=>⟨kZ (aV (aM 2) (aV (aM 3) fV)),fun Q q=>eQ (op_ltD (u64 hr)) rfl (bJ ix_tup (aA 2 rfl (aG (aAw rfl (bJ ix_tup (aA 3 rfl (aG (aAw rfl (r_ltD (sY _) (sY _) (wH _ _) (by rw [aAh];exact fun z=>nomatch z) (Nat.le_trans (zP _) (by decide)) q)))))))))⟩⟩
     intro j hj
     exact hj
    ·rw [vW]
     exact q
  | _=>exact ⟨_,rfl,fun _=>⟨fun _=>aO (aX (tV ⟨L,.refl L,q⟩)),(fun z=>nomatch z)⟩,(fun z=>nomatch z)⟩
def nZ:SpA:=fun ds L Q _=> ∃(t:D) (rs:Rl),ds= [t]∧DR L t (tbl rs)∧rs.length≤1000∧(∀r∈rs,r.1≠ [])∧(rs.map (·.1)).Nodup∧Q (dR (srt rs)) L
theorem ok_in_order (F:Fun K "in_order" "in_order" iU f fd) (hb:Binds K fd ["table"] []) (B:Bl mg):FnA P w K mg base 1 f nZ:=by
 refine fnA F sc_in_order hb (fun ds L Q R h=> ?_) fun cdv A outer s H E ds L Q R hr h=> ?_
 ·obtain ⟨_,_,rfl,_⟩:=h;rfl
 ·obtain ⟨t,rs,rfl,ht,hz,hk,nd,q⟩:=h
  refine aO (aX (wJ [("key",1)] B.tuple (uJ (aP (cr_sortDT rfl (yV hr)) B.sorted (aC (aA 0 rfl (aD (c_sortW ht (by rw [bU];omega) hk fun l hl=>⟨l,_,rfl,aF,fun hz2=>⟨fun d=> .tup [d,dC ((lk rs (eO d)).getD [])],aF,hz2,yK (fun j hj=>hj) (fun i d hi s H Cc cl fp=>⟨aM 1,fun Q q=> ?_⟩),L,aU hl,?_⟩⟩))))))))
  ·rw [List.getElem?_map] at hi
   cases e:(srt rs)[i]? with
   | none=>rw [e] at hi;cases hi
   | some r=>
    rw [e] at hi
    cases hi
    have hm:r∈rs:=(bB rs).mem_iff.mp (List.mem_of_getElem? e)
    have hl2:=oE nd hm
    have ht2:DR (put L l (.lst ((srt rs).map fun r=>dW r.1))) t (tbl rs):=ht.put hl
    refine bM (aC (aA 1 rfl (aC (wN (u1 hr) (aA 0 rfl (aA 1 rfl ⟨rs,r.1,r.2,rfl,ht2,hl2,aD ⟨by show 2≤sizeLine;decide,?_⟩⟩))))))
    have e3:eO (dW r.1)=r.1:=by
     show ((r.1.map D.str).map fun d=>match d with | .str x=>x | _=>Str.empty)=r.1
     rw [List.map_map]
     exact List.map_id _
    rw [e3,hl2] at q
    exact q
  ·have e:((srt rs).map fun r=>dW r.1).map (fun d=>D.tup [d,dC ((lk rs (eO d)).getD [])])=(srt rs).map dRu:=by
    rw [List.map_map]
    refine List.map_congr_left fun r hr2=> ?_
    have hl2:=oE nd ((bB rs).mem_iff.mp hr2)
    have e3:eO (dW r.1)=r.1:=by
     show ((r.1.map D.str).map fun d=>match d with | .str x=>x | _=>Str.empty)=r.1
     rw [List.map_map]
     exact List.map_id _
    show D.tup [dW r.1,dC ((lk rs (eO (dW r.1))).getD [])]=dRu r
    rw [e3,hl2]
    rfl
   rw [e]
   exact q
end
end K
namespace K
open PySem PySem.Spec PyProof.Rows L2 DL
section
variable {P:Program} {w:World} {K:PySem.W.Frag} {mg:Str→Option Value} {base:Heap} {f:Addr} {fd:FuncData} {BK pT:Addr}
structure BkC (K:PySem.W.Frag) (BK pT:Addr):Prop where
 sc:SlX.SCls K BK
 sl:SlX.Slot1 K BK "table" pT 0
def Bk (BK:Addr) (L:Lp) (b:D) (rs:Rl):Prop:= ∃t,xO L b BK 0 t∧DR L t (tbl rs)
theorem Bk.ins {L:Lp} {b:D} {rs:Rl} (h:Bk BK L b rs):mU L b BK:=let ⟨_,h,_⟩:=h;h.ins
def fBk (BK:Addr) (rs:Rl):D:= .obj BK [.fdct (tbl rs)]
theorem fBk.bk {L:Lp} {rs:Rl}:Bk BK L (fBk BK rs) rs:=⟨_,.fz rfl,.fz⟩
def dF (BK:Addr):SpA:=fun ds L Q _=> ∃(a:Addr) (rs:Rl),ds= [.ptr a,dR rs]∧L a=some (.ins BK [])∧RuOk rs∧∀t,L t=none→Q .non (put (put L t (.dct (tbl rs))) a (.ins BK [some (.ptr t)]))
theorem ok_Book_init (F:FunX K "__init__" "Book.__init__" bF f fd) (hb:Binds K fd ["self","rules"] []) (bc:BkC K BK pT) (d1:Def P w K mg base "is_rules" 7 nW):FnA P w K mg base 8 f (dF BK):=by
 refine fnAX F sc_Book___init__ hb (fun ds L Q R h=>by obtain ⟨_,_,rfl,_⟩:=h;rfl) fun cdv A outer s H E ds L Q R hr h=> ?_
 obtain ⟨a,rs,rfl,ha,hR,q⟩:=h
 refine aJ (cX (mO (nR (aH d1 (hr.mono (by omega)) (aC (aA 1 rfl (aD ⟨_,rfl,okE_dR rs,_,rfl,?_⟩)))))))
 rw [rsD_dR,rsOk_of hR]
 refine ⟨(fun z=>nomatch z),fun _=>bO (aO (aBw (ae_dcT [("key",2),("cells",3)] (Room.units0 hr) (mQ (aA 1 rfl ⟨_,rfl,fun hz=> ?_⟩)))))⟩
 refine ⟨fun i acc L2=>L2=L∧acc=tbl (rs.take i),⟨rfl,rfl⟩,fun _ _ _ _=>trivial,?_,?_⟩
 ·rintro i d acc L2 hd ⟨rfl,rfl⟩
  rw [List.getElem?_map] at hd
  cases e:rs[i]? with
  | none=>rw [e] at hd;cases hd
  | some r=>
   rw [e] at hd
   cases hd
   have hi:=(List.getElem?_eq_some_iff.mp e).1
   refine ⟨_,_,fun j hj=>hj,fun s H Cc cl fp=>⟨kZ (aV (aM 2) (aV (aM 3) fV)),aA 2 rfl ⟨kS r.1,(qU r.1).symm,fun s H Cc cl fp=>aA 3 rfl ⟨?_,rfl,?_⟩⟩⟩⟩
   ·unfold tbl
    rw [List.length_map,List.length_take,bU]
    have:=hR.len
    omega
   ·rw [yD]
    congr 1
    unfold vC
    have hn:(rs.take i).any (fun x=>decide (x.1=r.1))=false:=by
     rw [List.any_eq_false]
     intro x hx hxe
     have hxe:=of_decide_eq_true hxe
     obtain ⟨j,hj⟩:=List.getElem?_of_mem hx
     rw [List.getElem?_take] at hj
     split at hj
     ·rename_i hji
      have hp:=List.pairwise_iff_getElem.mp hR.up j i (by omega) hi hji
      have e1:=(List.getElem?_eq_some_iff.mp hj).2
      have e2:=(List.getElem?_eq_some_iff.mp e).2
      rw [e1,e2,hxe,vN] at hp
      cases hp
     ·cases hj
    rw [hn,List.take_add_one,e]
    rfl
 ·rintro acc L2 ⟨rfl,rfl⟩ t ht
  rw [List.length_map,List.take_length]
  refine aA 0 rfl ⟨a,BK,[],pT,0,rfl,?_,bc.sc,bc.sl,_,.refl _,q t ht⟩
  rw [aK (aQ ha ht)]
  exact ha
theorem _root_.DL.xO.le {L L':Lp} {x d:D} {Cl:Addr} {i:Nat} (h:xO L x Cl i d) (le:Le L L'):xO L' x Cl i d:=by
 rcases h with ⟨b,fs,e,h1,h2⟩ | ⟨fs,e,h2⟩
 ·exact .inl ⟨b,fs,e,le _ _ h1,h2⟩
 ·exact .inr ⟨fs,e,h2⟩
theorem Bk.le {L L':Lp} {b:D} {rs:Rl} (h:Bk BK L b rs) (le:Le L L'):Bk BK L' b rs:=by
 obtain ⟨t,h1,h2⟩:=h
 exact ⟨t,h1.le le,h2.le le⟩
def nb (BK:Addr) (L:Lp) (t x:Addr) (rs:Rl):Lp:=put (put L t (.dct (tbl rs))) x (.ins BK [some (.ptr t)])
structure Nw (L:Lp) (t x:Addr):Prop where
 t0:L t=none
 x0:L x=none
 ne:t≠x
theorem Nw.le {L:Lp} {t x:Addr} {rs:Rl} (h:Nw L t x):Le L (nb BK L t x rs):=(aU h.t0).trans (aU (by rw [aK (Ne.symm h.ne)];exact h.x0))
theorem Nw.bk {L:Lp} {t x:Addr} {rs:Rl} (h:Nw L t x):Bk BK (nb BK L t x rs) (.ptr x) rs:=
 ⟨.ptr t,.st (fs:= [some (.ptr t)]) aF rfl,.inl ⟨t,rfl,by unfold nb;rw [aK h.ne];exact aF⟩⟩
theorem Nw.frz {C:DL.Ctx} {L:Lp} {t x:Addr} {rs:Rl} (h:Nw L t x):Frz C (nb BK L t x rs) (.ptr x) L (fBk BK rs):=by
 generalize hL3:nb BK L t x rs=L3
 have h3x:L3 x=some (.ins BK [some (.ptr t)]):=by rw [←hL3];exact aF
 have h3t:L3 t=some (.dct (tbl rs)):=by rw [←hL3];unfold nb;rw [aK h.ne];exact aF
 have z1:=frz_fld (C:=C) (Cl:=BK) (i:=0) (x':= .fdct (tbl rs)) (L':=DL.del L3 t) h3x rfl (frz_dct h3t) (by rw [DL.del_ne (Ne.symm h.ne)];exact h3x)
 have z2:=frz_ins (C:=C) (Cl:=BK) (gs:= [.fdct (tbl rs)]) (L:=put (DL.del L3 t) x (.ins BK [some (.fdct (tbl rs))])) (a:=x) aF (by simp)
 have z3:=z1.trans z2
 have e:DL.del (put (DL.del L3 t) x (.ins BK [some (.fdct (tbl rs))])) x=L:=by
  funext b
  unfold DL.del put
  by_cases h1:b=x
  ·rw [if_pos h1,h1,h.x0]
  ·rw [if_neg h1,if_neg h1]
   show (if b=t then none else L3 b)=_
   by_cases h2:b=t
   ·rw [if_pos h2,h2,h.t0]
   ·rw [if_neg h2,←hL3]
    unfold nb
    rw [aK h1,aK h2]
 rw [e] at z3
 exact z3
end
theorem ae_book {BK gI:Addr} {C:DL.Ctx} {Γ:Gm} {L:Lp} {e:Expr} {p pos:Pos} {Q:D→Lp→Prop} (M:Mk C.X.K BK gI) (Fi:FnA C.X.prog C.X.w C.X.K C.X.mg C.X.base 8 gI (dF BK)) (hm:C.X.mg "Book"=some (.ref BK)) (hr:Room 9 C.X.A)
  (h:AE C e Γ L fun d L1=> ∃rs,d=dR rs∧RuOk rs∧∀t x,Nw L1 t x→Q (.ptr x) (nb BK L1 t x rs)) (hg:Gl C.X "Book" :=by rfl) (he:starEach [e] C.X.env= [(false,eval e C.X.env)]:=by rfl):AE C (.Call (.Name "Book" p) [e] [] pos) Γ L Q:=
 ae_make M Fi hm hr (aC (h.mono fun d L1 ⟨rs,ed,hR,q⟩=>aD fun x hx=>by
  subst ed
  refine ⟨x,rs,rfl,aF,hR,fun t ht=>⟨rfl,?_⟩⟩
  have htx:t≠x:=fun e=>by rw [e,aF] at ht;cases ht
  have ht0:L1 t=none:=by rw [aK htx] at ht;exact ht
  have e:put (put (put L1 x (.ins BK [])) t (.dct (tbl rs))) x (.ins BK [some (.ptr t)])=nb BK L1 t x rs:=by
   funext b
   unfold nb
   by_cases h1:b=x
   ·rw [h1,aF,aF]
   ·rw [aK h1,aK h1]
    by_cases h2:b=t
    ·rw [h2,aF,aF]
    ·rw [aK h2,aK h2,aK h1]
  rw [e]
  exact q t x ⟨ht0,hx,htx⟩) he) (hg:=hg) (he:=he)
section
variable {P:Program} {w:World} {K:PySem.W.Frag} {mg:Str→Option Value} {base:Heap} {f:Addr} {fd:FuncData} {BK CH pT pF pL gI gC gS gY gJ:Addr}
def jF (BK:Addr):SpA:=fun ds L Q _=> ∃(b:D) (rs:Rl),ds= [b]∧Bk BK L b rs∧RuN rs∧∀t x,Nw L t x→Q (.ptr x) (nb BK L t x (srt rs))
theorem ok_Book_copy (F:Fun K "copy" "Book.copy" fO f fd) (hb:Binds K fd ["self"] []) (bc:BkC K BK pT) (mkk:Mk K BK gI) (fi:FnA P w K mg base 8 gI (dF BK)) (nm:mg "Book"=some (.ref BK)) (d1:Def P w K mg base "in_order" 1 nZ):FnA P w K mg base 10 f (jF BK):=by
 refine fnA F sc_Book_copy hb (fun ds L Q R h=>by obtain ⟨_,_,rfl,_⟩:=h;rfl) fun cdv A outer s H E ds L Q R hr h=> ?_
 obtain ⟨b,rs,rfl,⟨t,hf,ht⟩,hR,q⟩:=h
 refine aO (aX (ae_book mkk fi nm (hr.mono (by omega)) (aH d1 (hr.mono (by omega)) (aC (xK (aA 0 rfl ⟨BK,pT,0,t,hf,bc.sc,bc.sl,aD ⟨t,rs,rfl,ht,by have:=hR.len;omega,hR.ne,hR.nd,srt rs,rfl,hR.srt,fun t x h=>⟨_,.refl _,q t x h⟩⟩⟩))))))
def tx1 (rs:Rl):List (List Wd):=rs.flatMap fun r=>r.1::r.2
abbrev iyD:D→List D:=fun d=>match d with | .tup [k,.tup cs]=>k::cs | _=> []
theorem aAL:∀rs:Rl,(((tbl rs).map itD).flatMap iyD)=(tx1 rs).map dW
 | []=>rfl
 | r::rs=>by
  have ih:=aAL rs
  unfold tbl tx1 at ih ⊢
  rw [List.map_cons,List.map_cons,List.flatMap_cons,List.flatMap_cons,ih,List.map_append]
  have e:itD (kS r.1,dC r.2)= .tup [dW r.1,.tup (r.2.map dW)]:=by unfold itD;rw [qU];rfl
  rw [e]
  rfl
theorem tx1_len:∀{rs:Rl},(∀r∈rs,r.2.length≤2)→(tx1 rs).length≤3*rs.length
 | [],_=>Nat.zero_le _
 | r::rs,h=>by
  have ih:=tx1_len (rs:=rs) fun x hx=>h x (List.mem_cons_of_mem _ hx)
  have h0:=h r List.mem_cons_self
  unfold tx1 at ih ⊢
  rw [List.flatMap_cons,List.length_append,List.length_cons,List.length_cons]
  omega
theorem flat_len:∀{xss:List (List Wd)},(∀x∈xss,x.length≤3)→xss.flatten.length≤3*xss.length
 | [],_=>Nat.zero_le _
 | x::xss,h=>by
  have ih:=flat_len (xss:=xss) fun y hy=>h y (List.mem_cons_of_mem _ hy)
  have h0:=h x List.mem_cons_self
  rw [List.flatten_cons,List.length_append,List.length_cons]
  omega
theorem uC {rs:Rl} (h:RuN rs):(tx1 rs).length≤18∧(tx1 rs).flatten.length≤54:=by
 have h1:=tx1_len (rs:=rs) h.r2
 have h2:=h.len
 have h3:=flat_len (xss:=tx1 rs) fun x hx=>by
  obtain ⟨r,hr,hx⟩:=List.mem_flatMap.mp hx
  rcases List.mem_cons.mp hx with rfl | hx
  ·exact (qI (h.key r hr)).2.2
  ·have:=(vX (h.cel r hr)).2 x hx
   rw [zV,Bool.and_eq_true,Bool.and_eq_true] at this
   exact of_decide_eq_true this.1.2
 omega
structure Wds (ks ys:List Wd):Prop where
 up:aAV ys
 mem:∀k,k∈ys↔k∈ks
 len:ys.length≤ks.length
theorem oR:∀{xs ys:List Wd},aAV xs→aAV ys→(∀k,k∈xs↔k∈ys)→xs=ys
 | [],[],_,_,_=>rfl
 | [],y::ys,_,_,h=>absurd ((h y).2 List.mem_cons_self) (by simp)
 | x::xs,[],_,_,h=>absurd ((h x).1 List.mem_cons_self) (by simp)
 | x::xs,y::ys,hx,hy,h=>by
  obtain ⟨a1,a2⟩:=List.pairwise_cons.mp hx
  obtain ⟨b1,b2⟩:=List.pairwise_cons.mp hy
  have e:x=y:=by
   rcases List.mem_cons.mp ((h x).1 List.mem_cons_self) with e | e
   ·exact e
   ·rcases List.mem_cons.mp ((h y).2 List.mem_cons_self) with e2 | e2
    ·exact e2.symm
    ·exact absurd (List.lt_trans (b1 x e) (a1 y e2)) (List.lt_irrefl _)
  subst e
  have:=oR a2 b2 fun k=>by
   constructor
   ·intro hk
    rcases List.mem_cons.mp ((h k).1 (List.mem_cons_of_mem _ hk)) with e | e
    ·subst e;exact absurd (a1 k hk) (List.lt_irrefl _)
    ·exact e
   ·intro hk
    rcases List.mem_cons.mp ((h k).2 (List.mem_cons_of_mem _ hk)) with e | e
    ·subst e;exact absurd (b1 k hk) (List.lt_irrefl _)
    ·exact e
  rw [this]
def iG (BK:Addr):SpA:=fun ds L Q _=> ∃(b:D) (rs:Rl),ds= [b]∧Bk BK L b rs∧RuN rs∧∀ys,Wds (tx1 rs).flatten ys→Q (dW ys) L
theorem ok_Book_words (F:Fun K "words" "Book.words" dY f fd) (hb:Binds K fd ["self"] []) (B:Bl mg) (bc:BkC K BK pT):FnA P w K mg base 1 f (iG BK):=by
 refine fnA F sc_Book_words hb (fun ds L Q R h=>by obtain ⟨_,_,rfl,_⟩:=h;rfl) fun cdv A outer s H E ds L Q R hr h=> ?_
 obtain ⟨b,rs,rfl,⟨t,hf,ht⟩,hR,q⟩:=h
 obtain ⟨n1,n2⟩:=uC hR
 have e1:(((tbl rs).map itD).flatMap iyD).length≤sizeLine:=by rw [aAL,List.length_map,bU];omega
 refine aJ (as_items2 1 [("key",2),("cells",3),("words",4)] [4] ht (fun L' hL Q' q'=> ?_) iyD e1 (fun L' le x hx=> ?_) fun p hp=> ?_)
 ·refine xK (aA 0 rfl ⟨BK,pT,0,t,?_,bc.sc,bc.sl,q'⟩)
  rcases hL with rfl | ⟨t',e,rfl⟩
  ·exact hf
  ·rcases hf with ⟨a,fs,e',h1,h2⟩ | ⟨fs,e',h2⟩
   ·refine .inl ⟨a,fs,e',?_,h2⟩
    rw [DL.del_ne]
    ·exact h1
    ·rintro rfl
     rcases ht with ⟨t2,e2,h3⟩ | e2
     ·rw [e] at e2
      cases e2
      rw [h1] at h3
      cases h3
     ·rw [e] at e2;cases e2
   ·exact .inr ⟨fs,e',h2⟩
 ·obtain ⟨r,hr2,rfl⟩:=List.mem_map.mp hx
  have e:itD (kS r.1,dC r.2)= .tup [dW r.1,.tup (r.2.map dW)]:=by unfold itD;rw [qU];rfl
  rw [e]
  have hl:=hR.r2 r hr2
  refine ⟨_,[2,3],by decide,fun s H Cc cl fp=>⟨kZ (aV (aM 2) (aV (aM 3) fV)),fun Q' q'=> ?_,fun y hy=>⟨_,[4],by decide,fun s H Cc cl fp=>⟨aM 4,fun Q' q'=>aA 4 rfl q'⟩⟩⟩⟩
  refine jM (bM (aC (aA 2 rfl (aD ⟨Nat.le_of_ble_eq_true rfl,aA 3 rfl (xM (xs:= [dW r.1]) (ys:=r.2.map dW) q' ?_)⟩))))
  rw [List.length_map,bU]
  show 1+_≤_
  omega
 ·rw [aAL]
  refine aO (aX (aR call_tuple_of B.tuple (aC (aP (rH rfl (yV hr)) B.sorted (aC (ae_sx [("words",4),("word",5)] [5] (uJ (aA 1 rfl ⟨p,_,rfl,aF,fun hz=>⟨aF,tx1 rs,rfl,by unfold scanBound;omega,fun xs hxs=> ?_,fun l1 m1 hl1 hm1=>aD (vZ aF (by rw [bU];omega) fun l2 zs hl2 hrise hmem hlen=>aD (mJ aF ⟨L,(aU hp).trans ((aU hl1).trans (aU hl2)),q zs ⟨hrise,fun k=>(hmem k).trans decide_eq_true_iff,by omega⟩⟩))⟩⟩))))))))
  exact ⟨_,[4],by decide,fun s H Cc cl fp=>⟨aM 4,fun Q' q'=>aA 4 rfl q',fun y hy=>⟨_,[5],by decide,fun s H Cc cl fp=>⟨aM 5,fun Q' q'=>aA 5 rfl q'⟩⟩⟩⟩
end
end K
namespace K
open PySem PySem.Spec PyProof.Rows L2 DL
section
variable {P:Program} {w:World} {K:PySem.W.Frag} {mg:Str→Option Value} {base:Heap} {f:Addr} {fd:FuncData} {BK CH pT pF pL pR pB pW gI gC gS gY gJ gR gB gW gT:Addr}
def fW (BK:Addr):SpA:=fun ds L Q _=> ∃(b t:D),ds= [b]∧xO L b BK 0 t∧Q (.tup [t]) L
theorem ok_Book_stages (F:Fun K "stages" "Book.stages" cR f fd) (hb:Binds K fd ["self"] []) (bc:BkC K BK pT):FnA P w K mg base 1 f (fW BK):=by
 refine fnA F sc_Book_stages hb (fun ds L Q R h=>by obtain ⟨_,_,rfl,_⟩:=h;rfl) fun cdv A outer s H E ds L Q R hr h=> ?_
 obtain ⟨b,t,rfl,hf,q⟩:=h
 walk
 refine xK ?_
 walk
 refine ⟨BK,pT,0,t,hf,bc.sc,bc.sl,?_⟩
 walk
structure ChC (K:PySem.W.Frag) (CH pF pL:Addr):Prop where
 sc:SlX.SCls K CH
 s1:SlX.Slot1 K CH "former" pF 0
 s2:SlX.Slot1 K CH "latter" pL 1
def fCh (CH BK:Addr) (r1 r2:Rl):D:= .obj CH [fBk BK r1,fBk BK r2]
def iD (CH BK:Addr):SpA:=fun ds L Q _=> ∃(a:Addr) (r1 r2:Rl) (b1 b2:D),ds= [.ptr a,b1,b2]∧L a=some (.ins CH [])∧Bk BK L b1 r1∧Bk BK L b2 r2∧(∀mo,Bk BK (put L a mo) b2 r2)∧RuN r1∧RuN r2∧Q .non (put L a (.ins CH [some (fBk BK (srt r1)),some (fBk BK (srt r2))]))
theorem ok_Chain_init (F:Fun K "__init__" "Chain.__init__" bW f fd) (hb:Binds K fd ["self","former","latter"] []) (bc:BkC K BK pT) (cc:ChC K CH pF pL) (m1:Meth K BK "copy" gY) (f1:FnA P w K mg base 10 gY (jF BK)):FnA P w K mg base 11 f (iD CH BK):=by
 refine fnA F sc_Chain___init__ hb (fun ds L Q R h=>by obtain ⟨_,_,_,_,_,rfl,_⟩:=h;rfl) fun cdv A outer s H E ds L Q R hr h=> ?_
 obtain ⟨a,r1,r2,b1,b2,rfl,ha,h1,h2,h3,k1,k2,q⟩:=h
 refine aJ (aBw (AE.frz (lU bc.sc m1 f1 (hr.mono (by omega)) (aA 1 rfl ⟨h1.ins,b1,r1,rfl,h1,k1,fun t x n=>⟨fBk BK (srt r1),_,n.frz,aA 0 rfl ⟨a,CH,[],pF,0,rfl,ha,cc.sc,cc.s1,?_⟩⟩⟩))))
 refine aO (aBw (AE.frz (lU bc.sc m1 f1 (hr.mono (by omega)) (aA 2 rfl ⟨(h3 _).ins,b2,r2,rfl,h3 _,k2,fun t x n=>⟨fBk BK (srt r2),_,n.frz,aA 0 rfl ⟨a,CH,_,pL,1,rfl,aF,cc.sc,cc.s2,?_⟩⟩⟩))))
 rw [cI]
 exact ⟨_,.refl _,q⟩
end
theorem Bk.put {BK a:Addr} {L:Lp} {b:D} {rs:Rl} {mo:MO} (h:Bk BK L b rs) (ha:L a=none):Bk BK (DL.put L a mo) b rs:=h.le (aU ha)
theorem ae_fchain {BK CH gJ:Addr} {C:DL.Ctx} {Γ:Gm} {L:Lp} {e1 e2:Expr} {p pos:Pos} {Q:D→Lp→Prop} (M:Mk C.X.K CH gJ) (Fi:FnA C.X.prog C.X.w C.X.K C.X.mg C.X.base 11 gJ (iD CH BK)) (hm:C.X.mg "Chain"=some (.ref CH)) (hr:Room 12 C.X.A)
  (h:AE C e1 Γ L fun b1 L1=>AE C e2 Γ L1 fun b2 L2=> ∃r1 r2,Bk BK L2 b1 r1∧Bk BK L2 b2 r2∧RuN r1∧RuN r2∧Q (fCh CH BK (srt r1) (srt r2)) L2) (hg:Gl C.X "Chain" :=by rfl) (he:starEach [e1,e2] C.X.env=(false,eval e1 C.X.env)::starEach [e2] C.X.env:=by rfl) (he2:starEach [e2] C.X.env= [(false,eval e2 C.X.env)]:=by rfl) (hpl:(backTo pos (starEach [e2] C.X.env)).any (·.1)=false:=by rfl):AE C (.Call (.Name "Chain" p) [e1,e2] [] pos) Γ L Q:=
 AE.frz (ae_make M Fi hm hr (aC (h.mono fun b1 L1 h2=>aC (h2.mono fun b2 L2 ⟨r1,r2,k1,k2,o1,o2,q⟩=>aD fun x hx=>by
  refine ⟨x,r1,r2,b1,b2,rfl,aF,k1.put hx,k2.put hx,fun mo=>by rw [cI];exact k2.put hx,o1,o2,⟨rfl,fCh CH BK (srt r1) (srt r2),L2,?_,q⟩⟩
  rw [cI]
  have z2:=frz_ins (C:=C) (Cl:=CH) (gs:= [fBk BK (srt r1),fBk BK (srt r2)]) (L:=put L2 x (.ins CH [some (fBk BK (srt r1)),some (fBk BK (srt r2))])) (a:=x) aF (by simp)
  rw [del_put hx] at z2
  exact z2) he2) he) (hg:=hg) (he:=he) (hpl:=hpl))
section
variable {P:Program} {w:World} {K:PySem.W.Frag} {mg:Str→Option Value} {base:Heap} {f:Addr} {fd:FuncData} {BK CH pT pF pL pR pB pW gI gC gS gY gJ gR gB gW gT:Addr}
def jO (BK CH:Addr):SpA:=fun ds L Q _=> ∃(b1 b2:D) (r1 r2:Rl),ds= [b1,b2]∧Bk BK L b1 r1∧Bk BK L b2 r2∧RuN r1∧RuN r2∧Q (fCh CH BK (srt r1) (srt r2)) L
theorem ok_Book_rshift (F:Fun K "__rshift__" "Book.__rshift__" bR f fd) (hb:Binds K fd ["self","other"] []) (B:Bl mg) (bc:BkC K BK pT) (si:SlX.SIsi K BK) (nb:mg "Book"=some (.ref BK)) (nm:mg "Chain"=some (.ref CH)) (mkj:Mk K CH gJ) (fj:FnA P w K mg base 11 gJ (iD CH BK)):FnA P w K mg base 13 f (jO BK CH):=by
 refine fnA F sc_Book___rshift__ hb (fun ds L Q R h=>by obtain ⟨_,_,_,_,rfl,_⟩:=h;rfl) fun cdv A outer s H E ds L Q R hr h=> ?_
 obtain ⟨b1,b2,r1,r2,rfl,h1,h2,k1,k2,q⟩:=h
 refine aJ (cX (mO (nR (ae_isiJ B.isinstance (aA 1 rfl (yQ (v:= .ref BK) (d:= .ptr BK) nb rfl (fun _=> .ptr BK) (isa_O (b:=true) (.ins bc.sc si h2.ins) (by unfold PySem.W.kitOne;rw [if_pos (beq_self_eq_true _)]) ⟨_,rfl,?_⟩)))))))
 k_few
 walk
 refine ae_fchain mkj fj nm (hr.mono (by omega)) ?_
 walk
 exact ⟨r1,r2,h1,h2,k1,k2,L,.refl L,q⟩
structure Ch (CH BK:Addr) (L:Lp) (x:D) (r1 r2:Rl):Prop where
 h1:xO L x CH 0 (fBk BK r1)
 h2:xO L x CH 1 (fBk BK r2)
theorem fCh.ch {L:Lp} {r1 r2:Rl}:Ch CH BK L (fCh CH BK r1 r2) r1 r2:=⟨.fz rfl,.fz rfl⟩
def eE (CH BK:Addr):SpA:=fun ds L Q _=> ∃(x:D) (r1 r2:Rl),ds= [x]∧Ch CH BK L x r1 r2∧Q (.tup [.fdct (tbl r1),.fdct (tbl r2)]) L
theorem ok_Chain_stages (F:Fun K "stages" "Chain.stages" cM f fd) (hb:Binds K fd ["self"] []) (bc:BkC K BK pT) (cc:ChC K CH pF pL) (m1:Meth K BK "stages" gT) (f1:FnA P w K mg base 1 gT (fW BK)):FnA P w K mg base 3 f (eE CH BK):=by
 refine fnA F sc_Chain_stages hb (fun ds L Q R h=>by obtain ⟨_,_,_,rfl,_⟩:=h;rfl) fun cdv A outer s H E ds L Q R hr h=> ?_
 obtain ⟨x,r1,r2,rfl,⟨h1,h2⟩,q⟩:=h
 refine aO (aX (jM (lU bc.sc m1 f1 (hr.mono (by omega)) (xK (aA 0 rfl ⟨CH,pF,0,_,h1,cc.sc,cc.s1,fBk.bk.ins,_,_,rfl,.fz rfl,lU bc.sc m1 f1 (hr.mono (by omega)) (xK (aA 0 rfl ⟨CH,pL,1,_,h2,cc.sc,cc.s2,fBk.bk.ins,_,_,rfl,.fz rfl,?_⟩))⟩)))))
 refine xM ⟨L,.refl L,q⟩ (by show 2≤sizeLine;rw [bU];decide)
theorem sg0_two {L:Lp} {r1 r2:Rl} (k1:RuOk r1) (k2:RuOk r2):aBJ L (sg0 [(.fdct (tbl r1),r1),(.fdct (tbl r2),r2)]):=by
 refine ⟨Nat.le_refl 2,fun t ht=> ?_⟩
 have e1:=k1.len
 have e2:=k2.len
 rcases List.mem_cons.mp ht with rfl | ht
 ·exact ⟨.fz,k1.r2,by show r1.length≤1000;omega,Nat.zero_le _⟩
 ·rw [List.mem_singleton.mp ht]
  exact ⟨.fz,k2.r2,by show r2.length≤1000;omega,Nat.zero_le _⟩
def Wd2 (r1 r2:Rl) (ys:List Wd):Prop:= ∃y1 y2,Wds (tx1 r1).flatten y1∧Wds (tx1 r2).flatten y2∧Wds (y1++y2) ys
def jN (CH BK:Addr):SpA:=fun ds L Q _=> ∃(x:D) (r1 r2:Rl),ds= [x]∧Ch CH BK L x r1 r2∧RuOk r1∧RuOk r2∧∀ys,Wd2 r1 r2 ys→Q (dW ys) L
end
theorem ae_both {C:DL.Ctx} {Γ:Gm} {L:Lp} {a b:Expr} {p1 p2 p3 p4 p5 p6 p7:Pos} {Q:D→Lp→Prop} (B:Bl C.X.mg) (hu:C.X.A.units+100 < cLine) (h:AE C a Γ L fun x L1=>AE C b Γ L1 fun y L2=> ∃ys zs,x=dW ys∧y=dW zs∧ys.length≤1000∧zs.length≤1000∧∀vs,Wds (ys++zs) vs→Q (dW vs) L2)
  (g1:Gl C.X "tuple" :=by rfl) (g2:Gl C.X "sorted" :=by rfl) (g3:Gl C.X "set" :=by rfl):AE C (.Call (.Name "tuple" p1) [.Call (.Name "sorted" p2) [.Call (.Name "set" p3) [.BinOp a .Add b p4] [] p5] [] p6] [] p7) Γ L Q:=by
 have h3:AE C (.Call (.Name "set" p3) [.BinOp a .Add b p4] [] p5) Γ L fun d L2=> ∃(ks:List Wd) (L1:Lp) (l1:Addr) (m1:Nat),d= .ptr l1∧L1 l1=none∧L2=put L1 l1 (.txs (fun k=>decide (k∈ks)) m1)∧m1≤ks.length∧ks.length≤2000∧∀vs,Wds ks vs→Q (dW vs) L1:=
  aR (hg:=g3) (cr_setT C.calm) B.set (aC (jM (h.mono fun x L1 h1=>h1.mono fun y L2 ⟨ys,zs,ex,ey,l1,l2,q⟩=>by
   subst ex ey
   refine xM (xs:=ys.map D.str) (ys:=zs.map D.str) ?_ (by rw [List.length_map,List.length_map,bU];omega)
   rw [←List.map_append]
   have hl:(ys++zs).length≤2000:=by rw [List.length_append];omega
   exact aD (c_setT (by unfold scanBound;omega) fun l1 m1 hl1 hm1=>⟨ys++zs,L2,l1,m1,rfl,hl1,rfl,hm1,hl,q⟩))))
 refine AE.drop (aR (hg:=g1) call_tuple_of B.tuple (aC (aP (hg:=g2) (rH C.calm hu) B.sorted (aC (h3.mono fun d L2 ⟨ks,L1,l1,m1,ed,hl1,eL,hm1,hk,q⟩=> ?_)))))
 subst ed eL
 exact aD (vZ aF (by rw [bU];omega) fun l2 vs hl2 hrise hmem hlen=>aD (mJ aF ⟨L1,(aU hl1).trans (aU hl2),q vs ⟨hrise,fun k=>(hmem k).trans decide_eq_true_iff,by omega⟩⟩))
section
variable {P:Program} {w:World} {K:PySem.W.Frag} {mg:Str→Option Value} {base:Heap} {f:Addr} {fd:FuncData} {BK CH pT pF pL pR pB pW gI gC gS gY gJ gR gB gW gT:Addr}
theorem ok_Chain_words (F:Fun K "words" "Chain.words" cQ f fd) (hb:Binds K fd ["self"] []) (B:Bl mg) (bc:BkC K BK pT) (cc:ChC K CH pF pL) (m1:Prop1 K BK "words" pW gW) (f1:FnA P w K mg base 1 gW (iG BK)):FnA P w K mg base 3 f (jN CH BK):=by
 refine fnA F sc_Chain_words hb (fun ds L Q R h=>by obtain ⟨_,_,_,rfl,_⟩:=h;rfl) fun cdv A outer s H E ds L Q R hr h=> ?_
 obtain ⟨x,r1,r2,rfl,⟨h1,h2⟩,k1,k2,q⟩:=h
 refine aO (aX (ae_both B (yV hr) ?_))
 refine wL bc.sc m1 f1 (hr.mono (by omega)) (xK (aA 0 rfl ⟨CH,pF,0,_,h1,cc.sc,cc.s1,fBk.bk.ins,_,r1,rfl,fBk.bk,k1.n,fun y1 w1=>wL bc.sc m1 f1 (hr.mono (by omega)) (xK (aA 0 rfl ⟨CH,pL,1,_,h2,cc.sc,cc.s2,fBk.bk.ins,_,r2,rfl,fBk.bk,k2.n,fun y2 w2=> ?_⟩))⟩))
 have n1:=(uC k1.n).2
 have n2:=(uC k2.n).2
 exact ⟨y1,y2,rfl,rfl,by have:=w1.len;omega,by have:=w2.len;omega,fun vs wv=>⟨_,.refl _,q vs ⟨y1,y2,w1,w2,wv⟩⟩⟩
theorem Bk.ne {L:Lp} {x x2:Addr} {rs:Rl} (h:Bk BK L (.ptr x) rs) (h0:L x2=none):x≠x2:=fun e=>by
 subst e
 obtain ⟨_,h1,_⟩:=h
 rcases h1 with ⟨a,fs,ea,h1,_⟩ | ⟨_,ea,_⟩
 ·cases ea
  rw [h0] at h1
  cases h1
 ·cases ea
end
end K
namespace K
open PySem PySem.Spec PyProof.Rows L2 DL
def aN:Nat→Wd
 | 0=>⟨#[97]⟩
 | n+1=>aN n++ ⟨#[97]⟩
theorem str_app_len (a b:Str):(a++b).length=a.length+b.length:=by show (a.cps++b.cps).size=_;rw [Array.size_append];rfl
theorem aAb:∀n,(aN n).length=n+1
 | 0=>rfl
 | n+1=>by
  show (aN n++(⟨#[97]⟩:Str)).length=_
  rw [str_app_len,aAb n]
  rfl
theorem aAU {i j:Nat} (h:aN i=aN j):i=j:=by
 have:=congrArg Str.length h
 rw [aAb,aAb] at this
 omega
def frs (ys:List Wd):Wd:=aN (((List.range 8).find? fun j=> !ys.contains (aN j)).getD 0)
theorem frs_eq {ys:List Wd} {j:Nat} (h8:j < 8) (hin:∀i,i < j→aN i∈ys) (hn:aN j∉ys):frs ys=aN j:=by
 unfold frs
 have e:((List.range 8).find? fun j=> !ys.contains (aN j))=some j:=by
  rw [List.find?_range_eq_some]
  refine ⟨by simpa using hn,List.mem_range.mpr h8,fun i hi=> ?_⟩
  simpa using hin i hi
 rw [e]
 rfl
section
variable {P:Program} {w:World} {K:PySem.W.Frag} {mg:Str→Option Value} {base:Heap} {f:Addr} {fd:FuncData}
def lX:SpA:=fun ds L Q _=> ∃x:Str,ds= [.str x]∧x.length < 8∧Q (.str (x++ ⟨#[97]⟩)) L
theorem ok_next_word (F:Fun K "next_word" "next_word" eY f fd) (hb:Binds K fd ["word"] []) (B:Bl mg) (g1:GI mg "MOST_LETTERS" 8) (g2:GS mg "LETTERS" "abcdefghijklmnopqrstuvwxyz"):FnA P w K mg base 1 f lX:=by
 refine fnA F sc_next_word hb (fun ds L Q R h=>by obtain ⟨_,rfl,_⟩:=h;rfl) fun cdv A outer s H E ds L Q R hr h=> ?_
 obtain ⟨x,rfl,hx,q⟩:=h
 obtain ⟨t1,g1⟩:=g1
 obtain ⟨t2,g2⟩:=g2
 walk
 refine jK g1 ?_
 walk
 rw [decide_eq_true (by omega:(x.length:Int) < 8)]
 k_few
 refine aO (aX (jM (aA 0 rfl (bJ (nA (u1 hr)) (jJ g2 (aG (ixa_S (k:=97) (add_S ⟨L,.refl L,q⟩ ?_) (by decide+kernel))))))))
 show x.length+1≤sizeLine
 rw [bU]
 omega
def lH:SpA:=fun ds L Q _=> ∃(l:D) (ys:List Wd),ds= [l]∧LR L l (ys.map D.str)∧ys.length≤7∧Q (.str (frs ys)) L
theorem ok_fresh_word (F:Fun K "fresh_word" "fresh_word" dJ f fd) (hb:Binds K fd ["words"] []) (g2:GS mg "LETTERS" "abcdefghijklmnopqrstuvwxyz") (d1:Def P w K mg base "next_word" 1 lX):FnA P w K mg base 2 f lH:=by
 refine fnA F sc_fresh_word hb (fun ds L Q R h=>by obtain ⟨_,_,rfl,_⟩:=h;rfl) fun cdv A outer s H E ds L Q R hr h=> ?_
 obtain ⟨l,ys,rfl,hl,h7,q⟩:=h
 obtain ⟨t2,g2⟩:=g2
 refine aJ (aY 1 (bJ (nA (u1 hr)) (jJ g2 (aG (ixa_S (k:=97) ?_ (by decide+kernel))))))
 refine aJ (wD (fun m Γ1 L1=> ∃j,j+m=8∧L1=L∧Γ1= [some l,some (.str (aN j))]∧∀i,i < j→aN i∈ys) 8 ⟨0,rfl,rfl,rfl,fun i hi=>by omega⟩ ?_)
 rintro m Γ1 L1 ⟨j,hj,rfl,rfl,hin⟩
 have hj7:j≤7:=by
  have:=iH (xs:=(List.range j).map aN) (ys:=ys) (List.pairwise_map.mpr (List.Pairwise.imp (fun {a b} hab z=>hab (aAU z)) List.nodup_range)) fun x hx=>by
   obtain ⟨i,hi,rfl⟩:=List.mem_map.mp hx
   exact hin i (List.mem_range.mp hi)
  rw [List.length_map,List.length_range] at this
  omega
 refine tO (aA 1 rfl (aA 0 rfl (j_inL (u1 hr) hl ⟨_,rfl,fun hk=> ?_,fun hk=> ?_⟩)))
 ·have hk:=of_decide_eq_true hk
  have hj6:j≤6:=by
   have:=iH (xs:=(List.range (j+1)).map aN) (ys:=ys) (List.pairwise_map.mpr (List.Pairwise.imp (fun {a b} hab z=>hab (aAU z)) List.nodup_range)) fun x hx=>by
    obtain ⟨i,hi,rfl⟩:=List.mem_map.mp hx
    have:=List.mem_range.mp hi
    by_cases e:i=j
    ·rw [e];exact hk
    ·exact hin i (by omega)
   rw [List.length_map,List.length_range] at this
   omega
  refine aO (aY 1 (aH d1 (hr.mono (by omega)) (aC (aA 1 rfl (aD ⟨_,rfl,by rw [aAb];omega,m - 1,by omega,j+1,by omega,rfl,rfl,fun i hi=> ?_⟩)))))
  by_cases e:i=j
  ·rw [e];exact hk
  ·exact hin i (by omega)
 ·have hk:=of_decide_eq_false hk
  rw [frs_eq (by omega) hin hk] at q
  exact aO (aX (aA 1 rfl ⟨L1,.refl L1,q⟩))
end
def Rw (CH BK:Addr) (L:Lp) (x:D) (rss:List Rl):Prop:=(∃rs,rss= [rs]∧Bk BK L x rs∧RuN rs)∨∃r1 r2,rss= [r1,r2]∧Ch CH BK L x r1 r2∧RuOk r1∧RuOk r2
theorem Ch.le {CH BK:Addr} {L L':Lp} {x:D} {r1 r2:Rl} (h:Ch CH BK L x r1 r2) (le:Le L L'):Ch CH BK L' x r1 r2:=⟨h.h1.le le,h.h2.le le⟩
theorem Rw.le {CH BK:Addr} {L L':Lp} {x:D} {rss:List Rl} (h:Rw CH BK L x rss) (le:Le L L'):Rw CH BK L' x rss:=by
 rcases h with ⟨rs,e,hb,hR⟩ | ⟨r1,r2,e,hc,k1,k2⟩
 ·exact .inl ⟨rs,e,hb.le le,hR⟩
 ·exact .inr ⟨r1,r2,e,hc.le le,k1,k2⟩
theorem Rw.n {CH BK:Addr} {L:Lp} {x:D} {rss:List Rl} (h:Rw CH BK L x rss):rss.length≤2∧∀rs∈rss,RuN rs:=by
 rcases h with ⟨rs,rfl,hb,hR⟩ | ⟨r1,r2,rfl,hc,k1,k2⟩
 ·exact ⟨by show 1≤2;decide,fun r hr=>by rw [List.mem_singleton.mp hr];exact hR⟩
 ·refine ⟨Nat.le_refl _,fun r hr=> ?_⟩
  rcases List.mem_cons.mp hr with rfl | hr
  ·exact k1.n
  ·rw [List.mem_singleton.mp hr];exact k2.n
structure RwW (P:Program) (w:World) (K:PySem.W.Frag) (mg:Str→Option Value) (base:Heap) (BK CH pT pF pL pW pV gT gU gW gV:Addr):Prop where
 bc:BkC K BK pT
 cc:ChC K CH pF pL
 mt:Meth K BK "stages" gT
 ft:FnA P w K mg base 1 gT (fW BK)
 mu:Meth K CH "stages" gU
 fu:FnA P w K mg base 3 gU (eE CH BK)
 pw:Prop1 K BK "words" pW gW
 fw:FnA P w K mg base 1 gW (iG BK)
 pv:Prop1 K CH "words" pV gV
 fv:FnA P w K mg base 3 gV (jN CH BK)
def cG:List Rl→List Wd
 | rss=>(rss.flatMap tx1).flatten
section
variable {C:DL.Ctx} {Γ:Gm} {L:Lp} {o:Expr} {apos pos:Pos} {Q:D→Lp→Prop} {BK CH pT pF pL pW pV gT gU gW gV:Addr} {x:D} {rss:List Rl}
variable (W:RwW C.X.prog C.X.w C.X.K C.X.mg C.X.base BK CH pT pF pL pW pV gT gU gW gV)
include W
theorem tU {pl:Sem Bool} (hr:Room 3 C.X.A) (hx:Rw CH BK L x rss) (ho:AV C o Γ L x) (q:∀ts:Sg,ts.map (·.2.1)=rss→(∀t∈ts,DR L t.1 (tbl t.2.1))→Q (dT ts) L)
  (ht:eval (.Call (.Attribute o "stages" apos) [] [] pos) C.X.env=(do
   let ov ←eval o C.X.env
   standAt apos.atName
   let (f,first) ←holding [ov] (getMethod ov "stages" pl)
   callWith pos f first (backTo pos (starEach [] C.X.env)) (backToKw pos (keywordEach [] C.X.env))):=by rfl):AE C (.Call (.Attribute o "stages" apos) [] [] pos) Γ L Q:=by
 rcases hx with ⟨rs,rfl,⟨t,hf,hd⟩,hR⟩ | ⟨r1,r2,rfl,hc,k1,k2⟩
 ·exact lU W.bc.sc W.mt W.ft (hr.mono (by omega)) (ho _ ⟨hf.ins,x,t,rfl,hf,q [(t,rs,[])] rfl fun z hz=>by rw [List.mem_singleton.mp hz];exact hd⟩) ht
 ·refine lU W.cc.sc W.mu W.fu hr (ho _ ⟨hc.h1.ins,x,r1,r2,rfl,hc,q [(.fdct (tbl r1),r1,[]),(.fdct (tbl r2),r2,[])] rfl fun z hz=> ?_⟩) ht
  rcases List.mem_cons.mp hz with rfl | hz
  ·exact .fz
  ·rw [List.mem_singleton.mp hz];exact .fz
end
end K
namespace K
open PySem PySem.Spec PyProof.Rows L2 DL
theorem pY:∀(ts:Sg) (p:Pd),p.length=ts.length→∃us:Sg,us.map (·.1)=ts.map (·.1)∧(us.map fun t=>t.2.2)=p∧us.map (·.2)=(ts.map (·.2.1)).zip p∧∀u∈us,(∃t∈ts,u.1=t.1∧u.2.1=t.2.1)∧u.2.2∈p
 | [],[],_=>⟨[],rfl,rfl,rfl,fun u hu=>nomatch hu⟩
 | [],_::_,h=>by cases h
 | _::_,[],h=>by cases h
 | t::ts,x::p,h=>by
  obtain ⟨us,e1,e2,e3,e4⟩:=pY ts p (by simpa using h)
  refine ⟨(t.1,t.2.1,x)::us,by rw [List.map_cons,List.map_cons,e1],by rw [List.map_cons,e2],by rw [List.map_cons,List.map_cons,List.zip_cons_cons,e3],fun u hu=> ?_⟩
  rcases List.mem_cons.mp hu with rfl | hu
  ·exact ⟨⟨t,List.mem_cons_self,rfl,rfl⟩,List.mem_cons_self⟩
  ·obtain ⟨⟨t',ht',z1,z2⟩,z3⟩:=e4 u hu
   exact ⟨⟨t',List.mem_cons_of_mem _ ht',z1,z2⟩,List.mem_cons_of_mem _ z3⟩
structure PdOk (rss:List Rl) (p:Pd):Prop where
 len:p.length=rss.length
 two:∀x∈p,x.length≤2
theorem wZ {rss:List Rl} {p:Pd} (h:p∈tW rss):PdOk rss p:=⟨(gH h).1,(gH h).2⟩
theorem cY {wh:Bool} {rss:List Rl} {p:Pd} (hl:rss.length≤2) (hR:∀rs∈rss,RuN rs) (hp:PdOk rss p) {cs:List Cell} (hc:cs.length≤1):(thr wh (rss.zip p) cs).2.length≤16:=by
 match rss,p,hl,hp.len,hR,hp.two with
 | [],[],_,_,_,_=>show cs.length≤16;omega
 | [r],[x],_,_,hR,h2=>
  have h:=h2 x List.mem_cons_self
  rw [List.zip_cons_cons,gK]
  show (rw2 wh r (one x++cs)).1.length≤16
  have e:=uW (w:=wh) (hR r List.mem_cons_self).r2 (one x++cs)
  have e1:(one x).length=x.length:=List.length_map ..
  rw [List.length_append,e1] at e
  omega
 | [r,r'],[x,x'],_,_,hR,h2=>
  have h:=h2 x List.mem_cons_self
  have h':=h2 x' (List.mem_cons_of_mem _ List.mem_cons_self)
  rw [List.zip_cons_cons,gK]
  dsimp only
  rw [List.zip_cons_cons,gK]
  dsimp only
  have e:=uW (w:=wh) (hR r List.mem_cons_self).r2 (one x++cs)
  have e1:(one x).length=x.length:=List.length_map ..
  rw [List.length_append,e1] at e
  generalize (rw2 wh r (one x++cs)).1=ys at e
  show (rw2 wh r' (one x'++ys)).1.length≤16
  have g:=uW (w:=wh) (hR r' (List.mem_cons_of_mem _ List.mem_cons_self)).r2 (one x'++ys)
  have g1:(one x').length=x'.length:=List.length_map ..
  rw [List.length_append,g1] at g
  omega
section
variable {P:Program} {w:World} {K:PySem.W.Frag} {mg:Str→Option Value} {base:Heap} {f:Addr} {fd:FuncData} {BK CH pT pF pL pW pV gT gU gW gV:Addr}
def uN (CH BK:Addr):SpA:=fun ds L Q _=> ∃(x:D) (rss:List Rl),ds= [x]∧Rw CH BK L x rss∧Q (dC (rss.map fun _=> [])) L
theorem ok_start (F:Fun K "start" "start" qC f fd) (hb:Binds K fd ["rewriter"] []) (W:RwW P w K mg base BK CH pT pF pL pW pV gT gU gW gV) (d1:Def P w K mg base "nothing_pending" 1 cP):FnA P w K mg base 4 f (uN CH BK):=by
 refine fnA F sc_start hb (fun ds L Q R h=>by obtain ⟨_,_,rfl,_⟩:=h;rfl) fun cdv A outer s H E ds L Q R hr h=> ?_
 obtain ⟨x,rss,rfl,hx,q⟩:=h
 refine aO (aX (aH d1 (hr.mono (by omega)) (aC (tU W (hr.mono (by omega)) hx (fun Q q=>aA 0 rfl q) fun ts e hd=>aD ⟨_,rfl,L,.refl L,?_⟩))))
 have e2:(D.tup ((ts.map (·.1)).map fun _=> .tup []))=dC (rss.map fun _=> []):=by
  rw [←e]
  unfold dC
  rw [List.map_map,List.map_map,List.map_map]
  rfl
 rw [e2]
 exact q
theorem aAc {L:Lp} {rss:List Rl} {p:Pd} {ts:Sg} (hl:rss.length≤2) (hR:∀rs∈rss,RuN rs) (hp:PdOk rss p) (e:ts.map (·.2.1)=rss) (hd:∀t∈ts,DR L t.1 (tbl t.2.1)):∃us:Sg,dT us=dT ts∧dP us=dC p∧us.map (·.2)=rss.zip p∧aBJ L us:=by
 have hlt:ts.length=rss.length:=by rw [←e,List.length_map]
 obtain ⟨us,e1,e2,e3,e4⟩:=pY ts p (by rw [hp.len,hlt])
 have hul:us.length=ts.length:=by have:=congrArg List.length e1;rwa [List.length_map,List.length_map] at this
 refine ⟨us,by unfold dT;rw [e1],?_,by rw [e3,e],by omega,fun u hu=> ?_⟩
 ·unfold dP dC
  rw [←e2,List.map_map]
  rfl
 ·obtain ⟨⟨t,ht,z1,z2⟩,z3⟩:=e4 u hu
  have hr:t.2.1∈rss:=by rw [←e];exact List.mem_map_of_mem ht
  have hn:=hR _ hr
  rw [z1,z2]
  exact ⟨hd t ht,hn.r2,by have:=hn.len;omega,by have:=hp.two _ z3;omega⟩
def uR (CH BK:Addr):SpA:=fun ds L Q _=> ∃(x:D) (rss:List Rl) (p:Pd) (c:Cell),ds= [x,dC p,dW c]∧Rw CH BK L x rss∧PdOk rss p∧Q (.tup [dC (thr false (rss.zip p) [c]).1,dC (thr false (rss.zip p) [c]).2]) L
theorem ok_go_on (F:Fun K "go_on" "go_on" qD f fd) (hb:Binds K fd ["rewriter","pending","cell"] []) (W:RwW P w K mg base BK CH pT pF pL pW pV gT gU gW gV) (d1:Def P w K mg base "through" 4 jR):FnA P w K mg base 5 f (uR CH BK):=by
 refine fnA F sc_go_on hb (fun ds L Q R h=>by obtain ⟨_,_,_,_,rfl,_⟩:=h;rfl) fun cdv A outer s H E ds L Q R hr h=> ?_
 obtain ⟨x,rss,p,c,rfl,hx,hp,q⟩:=h
 refine aO (aX (aH d1 (hr.mono (by omega)) (aC (tU W (hr.mono (by omega)) hx (fun Q q=>aA 0 rfl q) fun ts e hd=> ?_))))
 obtain ⟨us,e1,e2,e3,hs⟩:=aAc hx.n.1 hx.n.2 hp e hd
 refine aC (aA 1 rfl (aC (bM (aC (aA 2 rfl (aD ⟨Nat.le_of_ble_eq_true rfl,aC (tV (aD ?_))⟩))))))
 rw [←e1,←e2]
 refine ⟨us,[c],false,rfl,hs,by show 1≤100000;decide,L,.refl L,?_⟩
 rw [e3]
 exact q
def pX (CH BK:Addr):SpA:=fun ds L Q _=> ∃(x:D) (rss:List Rl) (p:Pd),ds= [x,dC p]∧Rw CH BK L x rss∧PdOk rss p∧Q (dC (thr true (rss.zip p) []).2) L
theorem ok_flushed (F:Fun K "flushed" "flushed" kE f fd) (hb:Binds K fd ["rewriter","pending"] []) (W:RwW P w K mg base BK CH pT pF pL pW pV gT gU gW gV) (d1:Def P w K mg base "through" 4 jR):FnA P w K mg base 5 f (pX CH BK):=by
 refine fnA F sc_flushed hb (fun ds L Q R h=>by obtain ⟨_,_,_,rfl,_⟩:=h;rfl) fun cdv A outer s H E ds L Q R hr h=> ?_
 obtain ⟨x,rss,p,rfl,hx,hp,q⟩:=h
 refine aO (aX (bJ (nA (u1 hr)) (aH d1 (hr.mono (by omega)) (aC (tU W (hr.mono (by omega)) hx (fun Q q=>aA 0 rfl q) fun ts e hd=> ?_)))))
 obtain ⟨us,e1,e2,e3,hs⟩:=aAc hx.n.1 hx.n.2 hp e hd
 refine aC (aA 1 rfl (aC (bM (aD ⟨Nat.le_of_ble_eq_true rfl,aC (tV (aD ?_))⟩))))
 rw [←e1,←e2]
 refine ⟨us,[],true,rfl,hs,by show 0≤100000;decide,aG (aA0 ⟨L,.refl L,?_⟩ rfl)⟩
 rw [e3]
 exact q
def sH:SpA:=fun ds L Q _=> ∃(a b:List Cell),ds= [dC a,dC b]∧a.length≤1000000∧Q (.int (cpl a b)) L
theorem aAO:∀(i:Nat) (a b:List Cell),(∀j,j < i→a[j]? =b[j]?)→i≤a.length→i≤b.length→(∀x y,a[i]? =some x→b[i]? =some y→x≠y)→cpl a b=i
 | 0,[],b,_,_,_,_=>by unfold cpl;rfl
 | 0,x::xs,[],_,_,_,_=>by unfold cpl;rfl
 | 0,x::xs,y::ys,_,_,_,h=>by
  unfold cpl
  rw [if_neg (h x y rfl rfl)]
 | i+1,[],b,_,h,_,_=>by cases h
 | i+1,x::xs,[],_,_,h,_=>by cases h
 | i+1,x::xs,y::ys,h0,h1,h2,h3=>by
  have e:x=y:=by have:=h0 0 (by omega);simpa using this
  unfold cpl
  rw [if_pos e,aAO i xs ys (fun j hj=>by have:=h0 (j+1) (by omega);simpa using this) (by simpa using h1) (by simpa using h2) fun a b ha hb=>h3 a b (by simpa using ha) (by simpa using hb)]
theorem ok_common (F:Fun K "common_beginning" "common_beginning" bK f fd) (hb:Binds K fd ["one","other"] []) (B:Bl mg):FnA P w K mg base 1 f sH:=by
 refine fnA F sc_common_beginning hb (fun ds L Q R h=>by obtain ⟨_,_,rfl,_⟩:=h;rfl) fun cdv A outer s H E ds L Q R hr h=> ?_
 obtain ⟨a,b,rfl,hz,q⟩:=h
 refine aJ (aY 2 (aG ?_))
 refine gG (fun Γ' L'=>L'=L∧∃x y,Γ'= [some (dC a),some (dC b),some (.int (cpl a b)),x,y]) ?_ ?_
 ·refine tR (wI B.zip (aC (aA 0 rfl (aC (aA 1 rfl (aD ⟨_,_,rfl,fun hz=> ?_⟩))))))
  have hzl:(qW (a.map dW) (b.map dW)).length=min a.length b.length:=by unfold qW;rw [List.length_zipWith,List.length_map,List.length_map]
  refine ⟨fun i Γ2 L2=>L2=L∧(∀j,j < i→a[j]? =b[j]?)∧∃x y,Γ2= [some (dC a),some (dC b),some (.int i),x,y],⟨rfl,(fun j hj=>by omega),_,_,rfl⟩,fun _ _ _ _=>trivial,?_,?_⟩
  ·rintro i d Γ2 L2 hd ⟨rfl,hj,x,y,rfl⟩
   have hi:=(List.getElem?_eq_some_iff.mp hd).1
   rw [hzl] at hi
   have ha:i < a.length:=by omega
   have hb2:i < b.length:=by omega
   have e:d= .tup [dW a[i],dW b[i]]:=by
    have:=(List.getElem?_eq_some_iff.mp hd).2
    rw [←this]
    unfold qW
    simp
   subst e
   refine ⟨_,_,kZ (aV (aM 3) (aV (aM 4) fV)),?_⟩
   refine aJ (cX (tO (aA 3 rfl (aA 4 rfl (j_neW (u64 hr) ⟨_,rfl,fun h=> ?_,fun h=>bO ?_⟩)))))
   ·have h:a[i]≠b[i]:=by simpa using h
    have ec:cpl a b=i:=aAO i a b hj (by omega) (by omega) fun x y hx hy=>by
     rw [List.getElem?_eq_getElem ha] at hx
     rw [List.getElem?_eq_getElem hb2] at hy
     cases hx
     cases hy
     exact h
    exact aO (as_break ⟨rfl,some (dW a[i]),some (dW b[i]),by rw [ec];rfl⟩)
   ·have h:a[i]=b[i]:=by simpa using h
    refine aO (pG 2 ip_add rfl (aG (aBe ⟨rfl,fun j hj2=> ?_,_,_,rfl⟩)))
    by_cases e:j=i
    ·rw [e,List.getElem?_eq_getElem ha,List.getElem?_eq_getElem hb2,h]
    ·exact hj j (by omega)
  ·rintro Γ2 L2 ⟨rfl,hj,x,y,rfl⟩
   rw [hzl] at hj ⊢
   have ec:cpl a b=min a.length b.length:=aAO (min a.length b.length) a b hj (by omega) (by omega) fun x y hx hy=>by
    have h1:=(List.getElem?_eq_some_iff.mp hx).1
    have h2:=(List.getElem?_eq_some_iff.mp hy).1
    omega
   exact ⟨rfl,x,y,by rw [ec]⟩
 ·rintro Γ' L' ⟨rfl,x,y,rfl⟩
  exact aO (aX (aA 2 rfl ⟨L',.refl L',q⟩))
end
end K
namespace K
open PySem PySem.Spec PyProof.Rows L2 DL
section
variable {P:Program} {w:World} {K:PySem.W.Frag} {mg:Str→Option Value} {base:Heap} {f:Addr} {fd:FuncData} {BK CH pT pF pL pW pV gT gU gW gV:Addr}
structure RwB (r1 r2:List Rl) (r:RowC):Prop where
 p:PdOk r1 r.p
 q:PdOk r2 r.q
 a:r.a.length≤1000
 b:r.b.length≤1000
theorem aAa {C:DL.Ctx} {L:Lp} {Q:D→Lp→Prop} {a b:List Cell} (q:Q (dC (a++b)) L) (h:a.length+b.length≤1000000):L2R C (rAddA C.X.K) (dC a) (dC b) L Q:=by
 refine xM (xs:=a.map dW) (ys:=b.map dW) ?_ (by rw [List.length_map,List.length_map,bU];omega)
 rw [←List.map_append]
 exact q
def gQ (CH BK:Addr):SpA:=fun ds L Q _=> ∃(x y:D) (r1 r2:List Rl) (r:RowC) (v:Wd),ds= [x,y,bH r,.str v]∧Rw CH BK L x r1∧Rw CH BK L y r2∧RwB r1 r2 r∧Q (bH (dZ r1 r2 r v)) L
set_option maxHeartbeats 0 in
theorem ok_row_behind (F:Fun K "row_behind" "row_behind" dG f fd) (hb:Binds K fd ["one","other","row","word"] []) (d1:Def P w K mg base "go_on" 5 (uR CH BK)) (d2:Def P w K mg base "common_beginning" 1 sH):FnA P w K mg base 6 f (gQ CH BK):=by
 refine fnA F sc_row_behind hb (fun ds L Q R h=>by obtain ⟨_,_,_,_,_,_,rfl,_⟩:=h;rfl) fun cdv A outer s H E ds L Q R hr h=> ?_
 obtain ⟨x,y,r1,r2,r,v,rfl,hx,hy,hB,q⟩:=h
 refine aJ (pH (aA 2 rfl ⟨_,_,kZ (aV (aM 4) (aV (aM 5) (aV (aM 6) (aV (aM 7) fV)))),?_⟩))
 have s1:=cY (wh:=false) hx.n.1 hx.n.2 hB.p (cs:= [[v]]) (Nat.le_refl 1)
 have s2:=cY (wh:=false) hy.n.1 hy.n.2 hB.q (cs:= [[v]]) (Nat.le_refl 1)
 have ha:=hB.a
 have hbb:=hB.b
 refine aJ (pH (aH d1 (hr.mono (by omega)) (aC (aA 0 rfl (aC (aA 4 rfl (aC (bM (aC (aA 3 rfl (aD ⟨Nat.le_of_ble_eq_true rfl,aD ⟨x,r1,r.p,[v],rfl,hx,hB.p,_,_,kZ (aV (aM 4) (aV (aM 8) fV)),?_⟩⟩)))))))))))
 refine aJ (pH (aH d1 (hr.mono (by omega)) (aC (aA 1 rfl (aC (aA 5 rfl (aC (bM (aC (aA 3 rfl (aD ⟨Nat.le_of_ble_eq_true rfl,aD ⟨y,r2,r.q,[v],rfl,hy,hB.q,_,_,kZ (aV (aM 5) (aV (aM 9) fV)),?_⟩⟩)))))))))))
 have e:dZ r1 r2 r v=⟨(thr false (r1.zip r.p) [[v]]).1,(thr false (r2.zip r.q) [[v]]).1,(r.a++(thr false (r1.zip r.p) [[v]]).2).drop (cpl (r.a++(thr false (r1.zip r.p) [[v]]).2) (r.b++(thr false (r2.zip r.q) [[v]]).2)),(r.b++(thr false (r2.zip r.q) [[v]]).2).drop (cpl (r.a++(thr false (r1.zip r.p) [[v]]).2) (r.b++(thr false (r2.zip r.q) [[v]]).2))⟩:=rfl
 rw [e] at q
 generalize thr false (r1.zip r.p) [[v]]=X at s1 q ⊢
 generalize thr false (r2.zip r.q) [[v]]=Y at s2 q ⊢
 refine aJ (tQ 6 7 (aC (jM (aA 6 rfl (aA 8 rfl (aAa (a:=r.a) (b:=X.2) ?_ (by omega)))))))
 refine aC (jM (aA 7 rfl (aA 9 rfl (aAa (a:=r.b) (b:=Y.2) (aD ⟨_,_,rfl,?_⟩) (by omega)))))
 refine aJ (aY 10 (aH d2 (hr.mono (by omega)) (aC (aA 6 rfl (aC (aA 7 rfl (aD ⟨_,_,rfl,by rw [List.length_append];omega,?_⟩)))))))
 refine aO (aX (bM (aC (aA 4 rfl (aC (aA 5 rfl (aC (iI sl_tupA (aA 6 rfl (lO (aA 10 rfl ⟨_,rfl,lQ (aAd ?_)⟩)))))))))))
 refine aC (iI sl_tupA (aA 7 rfl (lO (aA 10 rfl ⟨_,rfl,lQ (aAd (aD ⟨Nat.le_of_ble_eq_true rfl,L,.refl L,?_⟩))⟩))))
 rw [lL,lL,←List.map_drop,←List.map_drop]
 exact q
def jD (CH BK:Addr):SpA:=fun ds L Q _=> ∃(x y:D) (r1 r2:List Rl) (r:RowC),ds= [x,y,bH r]∧Rw CH BK L x r1∧Rw CH BK L y r2∧RwB r1 r2 r∧Q (.bl (mF r1 r2 r)) L
theorem ok_same_here (F:Fun K "is_same_here" "is_same_here" cJ f fd) (hb:Binds K fd ["one","other","row"] []) (d1:Def P w K mg base "flushed" 5 (pX CH BK)):FnA P w K mg base 6 f (jD CH BK):=by
 refine fnA F sc_is_same_here hb (fun ds L Q R h=>by obtain ⟨_,_,_,_,_,rfl,_⟩:=h;rfl) fun cdv A outer s H E ds L Q R hr h=> ?_
 obtain ⟨x,y,r1,r2,r,rfl,hx,hy,hB,q⟩:=h
 have s1:=cY (wh:=true) hx.n.1 hx.n.2 hB.p (cs:= []) (Nat.zero_le 1)
 have s2:=cY (wh:=true) hy.n.1 hy.n.2 hB.q (cs:= []) (Nat.zero_le 1)
 have ha:=hB.a
 have hbb:=hB.b
 refine aJ (pH (aA 2 rfl ⟨_,_,kZ (aV (aM 3) (aV (aM 4) (aV (aM 5) (aV (aM 6) fV)))),?_⟩))
 refine aO (aX (yR (jM (aA 5 rfl (aH d1 (hr.mono (by omega)) (aC (aA 0 rfl (aC (aA 3 rfl (aD ⟨x,r1,r.p,rfl,hx,hB.p,aAa ?_ (by omega)⟩))))))))))
 refine jM (aA 6 rfl (aH d1 (hr.mono (by omega)) (aC (aA 1 rfl (aC (aA 4 rfl (aD ⟨y,r2,r.q,rfl,hy,hB.q,aAa (j_eqC (u64 hr) ⟨L,.refl L,q⟩) (by omega)⟩)))))))
end
end K
namespace K
open PySem PySem.Spec PyProof.Rows L2 DL
def bZ (k:Nat) (mo:MO):Prop:= ∃a b c:Int,mo= .lst [.int a,.int b,.int c]∧0≤a∧0≤b∧b < 2305843009213693952∧0≤c∧c≤k
theorem bZ.mono {j k:Nat} {mo:MO} (h:bZ j mo) (hk:j≤k):bZ k mo:=by
 obtain ⟨a,b,c,e,h1,h2,h3,h4,h5⟩:=h
 exact ⟨a,b,c,e,h1,h2,h3,h4,by omega⟩
theorem oF {A B:Lp} (h:Le A B) (p:Addr) (o:MO):Le (put A p o) (put B p o):=fun a u e=>by
 by_cases ea:a=p
 ·subst ea
  rw [aF] at e ⊢
  exact e
 ·rw [aK ea] at e ⊢
  exact h a u e
theorem cp60:CPow 10 60:=⟨by decide,by decide,by decide⟩
theorem cp18:CPow 10 18:=⟨by decide,by decide,by decide⟩
theorem b01 (b:Bool): -(2 ^ 64) < (if b=true then (1:Int) else 0)∧(if b=true then (1:Int) else 0) < 2 ^ 64:=by cases b <;> decide
theorem b0 (b:Bool):0≤(if b=true then (1:Int) else 0):=by cases b <;> decide
section
variable {P:Program} {w:World} {K:PySem.W.Frag} {mg:Str→Option Value} {base:Heap} {f:Addr} {fd:FuncData}
def aAs:SpA:=fun ds L Q _=> ∃(ns:List Int) (k:Nat),ds= [.ilst ns,.int k]∧k < 1000∧∀p mo,L p=none→bZ 0 mo→Q (.ptr p) (put L p mo)
theorem ok_pot (F:Fun K "_law_pot" "_law_pot" dN f fd) (hb:Binds K fd ["_law_script","_law_k"] []) (B:Bl mg):FnA P w K mg base 1 f aAs:=by
 refine fnA F sc__law_pot hb (fun ds L Q R h=> ?_) fun cdv A outer s H E ds L Q R hr h=> ?_
 ·obtain ⟨_,_,rfl,_⟩:=h;rfl
 ·obtain ⟨ns,k,rfl,hk,q⟩:=h
  have key:∀v:Int,ASs (uF P w K mg base ["_law_script","_law_k","_law_cell_here","_law_own","_law_mixed"] "_law_pot" (defScope dN) f cdv A outer s H E sc__law_pot.nd R) (defBody dN).tail [some (.ilst ns),some (.int k),some (.int v),none,none] L (uG Q):=fun v=>by
   have a0:0≤(if v < 0 then -v else v):=by split <;> omega
   refine aJ (aY 3 (bD op_mul (bD op_mod (aR call_int1 B.int (aC (aP call_abs B.abs (aC (aA 2 rfl (aD (aBv (aD (mK (bD op_powX (bD op_pow (aG (aG (aBc cp60 (aG (r_powX big_ok (tY (by decide) ?_))))))))))))))))))))
   generalize hO:(if v < 0 then -v else v) % _=O
   have o0:0≤O:=by rw [←hO];exact Int.emod_nonneg _ (by decide)
   refine aR call_int1 B.int (aC (eQ op_ge rfl (aP call_abs B.abs (aC (aA 2 rfl (aD (aBv (bD op_pow (aG (aG (aBc cp18 (r_ge (aD (c_intB (tX (.inr (b01 _)) ?_)))))))))))))))
   generalize hO2:O*_=O2
   have o2:0≤O2:=by rw [←hO2];exact Int.mul_nonneg o0 (b0 _)
   refine aJ (aY 4 (bD op_add (bD op_add (bD op_mul (bD op_mod (aR call_int1 B.int (aC (aA 2 rfl (aD (mK (aG (tY (by decide) (aG (tX (.inr (by decide)) (bD op_mul (bD op_mul (aG (aA 1 rfl (tX (.inl (by decide)) (aA 1 rfl (tX (.inr (by omega)) (sU (aG (sU ?_))))))))))))))))))))))))
   generalize hM:(v % 2305843009213693951*70991+5323*(k:Int)*(k:Int)+71)=M
   refine aO (aX (jH (aC (aA 3 rfl (aC (bD op_mod (aR call_int1 B.int (aC (aA 4 rfl (aD (mK (aG (tY (by decide) (aC (aG (aD ⟨by show 3≤sizeLine;decide,fun p hp=>⟨_,.refl _,q p _ hp ⟨O2,_,0,rfl,o2,Int.emod_nonneg _ (by decide),?_,by decide,by decide⟩⟩⟩))))))))))))))))
   have:=Int.emod_lt_of_pos M (show (0:Int) < 2305843009213693921 by decide)
   omega
  refine aJ (aY 2 (wM (eU op_lt rfl (aA 1 rfl (aP call_len_seq B.len (aC (aA 0 rfl (aD (c_lenN (aBM ⟨_,rfl,fun h1=>bJ ix_list (aA 0 rfl (aA 1 rfl (r_ixN (k:=ns.getD k 0) ?_ (key _)))),fun h1=>bD op_add (bD op_mul (aG (aA 1 rfl (tX (.inl (by decide)) (aG (sU (key _)))))))⟩))))))))))
  have h1:=of_decide_eq_true h1
  have hlt:k < ns.length:=by omega
  refine atI_nat ?_
  rw [List.getD_eq_getElem?_getD,List.getElem?_eq_getElem hlt]
  rfl
def lF:SpA:=fun ds L Q _=> ∃(p:Addr) (mo:MO) (k n:Nat),ds= [.ptr p,.int n]∧L p=some mo∧bZ k mo∧k≤100000∧0 < n∧n≤1000000∧∀(j:Nat) mo',j < n→bZ (k+1) mo'→Q (.int j) (put L p mo')
theorem ok_take (F:Fun K "_law_take" "_law_take" fG f fd) (hb:Binds K fd ["_law_pot_here","_law_upto"] []) (B:Bl mg):FnA P w K mg base 1 f lF:=by
 refine fnA F sc__law_take hb (fun ds L Q R h=> ?_) fun cdv A outer s H E ds L Q R hr h=> ?_
 ·obtain ⟨_,_,_,_,rfl,_⟩:=h;rfl
 ·obtain ⟨p,mo,k,n,rfl,hp,⟨a,b,c,rfl,ha,hb0,hb1,hc0,hc1⟩,hk,hn,hn2,q⟩:=h
  have cd:CDiv a n:=⟨by omega,by omega⟩
  have fin:∀(x:Int) (mo':MO),bZ (k+1) mo'→Q (.int (x % (n:Int))) (put L p mo'):=fun x mo' h'=>by
   have h1:=Int.emod_nonneg x (show (n:Int)≠0 by omega)
   have h2:=Int.emod_lt_of_pos x (show (0:Int) < n by omega)
   have:=q (x % n).toNat mo' (by omega) h'
   rwa [Int.toNat_of_nonneg h1] at this
  refine aJ (cX (eU op_gt rfl (bJ ix_list (aA 0 rfl (aG (oV hp rfl (aG (aBN ⟨_,rfl,fun h1=> ?_,fun h1=> ?_⟩))))))))
  ·refine aJ (aY 2 (bD op_mod (aR call_int1 B.int (aC (bJ ix_list (aA 0 rfl (aG (oV hp rfl (aD (mK (aA 1 rfl (tY (by omega) ?_))))))))))))
   refine aJ (qQ set_list (bD op_fdiv (bJ ix_list (aA 0 rfl (aG (oV hp rfl (aA 1 rfl (aAx cd (aA 0 rfl (aG (wX (j:=0) hp rfl ?_)))))))))))
   refine aO (aX (aA 2 rfl ⟨_,.refl _,fin a _ ⟨a / n,b,c,rfl,Int.ediv_nonneg ha (by omega),hb0,hb1,hc0,by omega⟩⟩))
  ·refine bO (aJ (qQ set_list (bD op_add (bJ ix_list (aA 0 rfl (aG (oV hp rfl (aG (sU (aA 0 rfl (aG (wX (j:=2) hp rfl ?_))))))))))))
   have hp1:put L p (.lst ([.int a,.int b,.int c].set 2 (.int (c+1)))) p=some (.lst [.int a,.int b,.int (c+1)]):=aF
   have pot':bZ (k+1) (.lst [.int a,.int b,.int (c+1)]):=⟨a,b,c+1,rfl,ha,hb0,hb1,by omega,by omega⟩
   refine aJ (aY 3 (AE.drop (bJ ix_list (jH (aC (aG (aC (aG (aC (aG (aC (aG (aC (aG (aD ⟨by show 5≤sizeLine;decide,fun l hl=> ?_⟩)))))))))))))))
   have hpl:p≠l:=aQ hp1 hl
   have hp2:∀o,put (put L p (.lst ([.int a,.int b,.int c].set 2 (.int (c+1))))) l o p=some (.lst [.int a,.int b,.int (c+1)]):=fun o=>by rw [aK hpl];exact hp1
   have m0:=Int.emod_nonneg (c+1) (show (5:Int)≠0 by decide)
   have m1:=Int.emod_lt_of_pos (c+1) (show (0:Int) < 5 by decide)
   have hprime:∃pr:Int,0 < pr∧pr < 2147483648∧atI [D.int 2147483647,.int 2147483629,.int 2147483587,.int 2147483579,.int 2147483563] ((c+1) % 5)=some (.int pr):=by
    have:(c+1) % 5=0∨(c+1) % 5=1∨(c+1) % 5=2∨(c+1) % 5=3∨(c+1) % 5=4:=by omega
    rcases this with h | h | h | h | h <;> rw [h] <;> exact ⟨_,by decide,by decide,rfl⟩
   obtain ⟨pr,pr0,pr1,hpr⟩:=hprime
   refine bD op_mod (aR call_int1 B.int (aC (bJ ix_list (aA 0 rfl (aG (oV (hp2 _) rfl (aD (mK (aG (tY (by decide) (oV aF hpr ⟨_,aU hl,?_⟩)))))))))))
   have cc:c+1≤1000000:=by omega
   have sq0:0≤99991*(c+1):=Int.mul_nonneg (by decide) (by omega)
   have sq1:99991*(c+1)≤99991*1000000:=Int.mul_le_mul_of_nonneg_left cc (by decide)
   have sq2:0≤99991*(c+1)*(c+1):=Int.mul_nonneg sq0 (by omega)
   have sq3:99991*(c+1)*(c+1)≤99991*1000000*1000000:=Int.mul_le_mul sq1 cc (by omega) (by decide)
   have cp:CPow (b+99991*(c+1)*(c+1)+41) 3:=⟨by decide,by decide,by omega⟩
   refine aJ (aY 4 (bD op_mod (aR call_int1 B.int (aC (bD op_pow (aR call_int1 B.int (aC (bD op_add (bD op_add (bJ ix_list (aA 0 rfl (aG (oV hp1 rfl (bD op_mul (bD op_mul (aG (bJ ix_list (aA 0 rfl (aG (oV hp1 rfl (tX (.inl (by decide)) (bJ ix_list (aA 0 rfl (aG (oV hp1 rfl (tX (.inr (by omega)) (sU (aG (sU (aD (mK (aG (aBc cp (aD (mK (aA 3 rfl (tY pr0 ?_)))))))))))))))))))))))))))))))))))))
   generalize hM:(b+99991*(c+1)*(c+1)+41) ^ (3:Int).toNat % pr=M
   have M0:0≤M:=by rw [←hM];exact Int.emod_nonneg _ (by omega)
   have M1:M < pr:=by rw [←hM];exact Int.emod_lt_of_pos _ pr0
   refine aJ (aY 4 (bD op_mod (aR call_int1 B.int (aC (bD op_mul (aA 4 rfl (bD op_add (bD op_mod (aR call_int1 B.int (aC (aA 4 rfl (aD (mK (aG (tY (by decide) (bD op_mul (aG (bJ ix_list (aA 0 rfl (aG (oV hp1 rfl (tX (.inl (by decide)) (sU (tX (.inl (by omega)) (aD (mK (aG (tY (by decide) ?_))))))))))))))))))))))))))))
   generalize hM2:M*(M % 10009+83*(c+1)) % 2305843009213693907=M2
   refine aO (aX (bD op_mod (aR call_int1 B.int (aC (bD op_fdiv (aA 4 rfl (aG (aAx (by exact ⟨by decide,by decide⟩) (aD (mK (aA 1 rfl (tY (by omega) ⟨_,.refl _,fin _ _ pot'⟩))))))))))))
def xU:SpA:=fun ds L Q _=> ∃(p l:Addr) (mo:MO) (k:Nat) (xs:List D),ds= [.ptr p,.ptr l]∧L p=some mo∧bZ k mo∧k≤100000∧L l=some (.lst xs)∧l≠p∧0 < xs.length∧xs.length≤1000000∧∀d mo',d∈xs→bZ (k+1) mo'→Q d (put L p mo')
theorem ok_of (F:Fun K "_law_of" "_law_of" kJ f fd) (hb:Binds K fd ["_law_pot_here","_law_some"] []) (B:Bl mg) (d1:Def P w K mg base "_law_take" 1 lF):FnA P w K mg base 2 f xU:=by
 refine fnA F sc__law_of hb (fun ds L Q R h=> ?_) fun cdv A outer s H E ds L Q R hr h=> ?_
 ·obtain ⟨_,_,_,_,_,rfl,_⟩:=h;rfl
 ·obtain ⟨p,l,mo,k,xs,rfl,hp,hpot,hk,hl,hne,h0,h1,q⟩:=h
  refine aO (aX (bJ ix_list (aA 1 rfl (aH d1 (hr.mono (by omega)) (aC (aA 0 rfl (aC (aP call_len_seq B.len (aC (aA 1 rfl (aD (c_lenL hl (aD ⟨p,mo,k,xs.length,rfl,hp,hpot,hk,h0,h1,fun j mo' hj hm=> ?_⟩)))))))))))))
  refine oV (xs:=xs) (d:=xs[j]) (by rw [aK hne];exact hl) (atI_nat (List.getElem?_eq_getElem hj)) ⟨_,.refl _,q _ _ (List.getElem_mem hj) hm⟩
end
end K
namespace K
open PySem PySem.Spec PyProof.Rows L2 DL
theorem aAq {rss:List Rl} {k:Wd}:k∈cG rss↔∃rs∈rss,k∈(tx1 rs).flatten:=by
 unfold cG
 rw [List.mem_flatten]
 constructor
 ·rintro ⟨l,hl,hk⟩
  obtain ⟨rs,hrs,h⟩:=List.mem_flatMap.mp hl
  exact ⟨rs,hrs,List.mem_flatten.mpr ⟨l,h,hk⟩⟩
 ·rintro ⟨rs,hrs,h⟩
  obtain ⟨l,hl,hk⟩:=List.mem_flatten.mp h
  exact ⟨l,List.mem_flatMap.mpr ⟨rs,hrs,hl⟩,hk⟩
structure AlOk (r1 r2:List Rl) (vs:List Wd):Prop where
 up:aAV vs
 mem:∀k,k∈vs↔k∈cG r1∨k∈cG r2
theorem rise_nodup {vs:List Wd} (h:aAV vs):vs.Nodup:=List.Pairwise.imp (fun {a b} hab e=>by rw [e] at hab;exact List.lt_irrefl _ hab) h
section
variable {C:DL.Ctx} {Γ:Gm} {L:Lp} {o a b:Expr} {pos p2 p3 p4 p5 p6:Pos} {Q:D→Lp→Prop} {BK CH pT pF pL pW pV gT gU gW gV:Addr} {x:D} {rss:List Rl}
theorem ae_words (W:RwW C.X.prog C.X.w C.X.K C.X.mg C.X.base BK CH pT pF pL pW pV gT gU gW gV) (hr:Room 4 C.X.A) (hx:Rw CH BK L x rss) (ho:AV C o Γ L x) (q:∀ys,ys.length≤1000→(∀k,k∈ys↔k∈cG rss)→Q (dW ys) L) (hb:attributeBase o "words" C.X.env (eval o C.X.env)=eval o C.X.env:=by rfl):AE C (.Attribute o "words" pos) Γ L Q:=by
 rcases hx with ⟨rs,rfl,hk,hR⟩ | ⟨r1,r2,rfl,hc,k1,k2⟩
 ·refine wL W.bc.sc W.pw W.fw (hr.mono (by omega)) (ho _ ⟨hk.ins,x,rs,rfl,hk,hR,fun ys hy=>q ys ?_ fun k=> ?_⟩) hb
  ·have:=(uC hR).2
   have:=hy.len
   omega
  ·rw [hy.mem,aAq]
   exact ⟨fun h=>⟨rs,List.mem_cons_self,h⟩,fun ⟨rs',h1,h2⟩=>by rw [List.mem_singleton.mp h1] at h2;exact h2⟩
 ·refine wL W.cc.sc W.pv W.fv hr (ho _ ⟨hc.h1.ins,x,r1,r2,rfl,hc,k1,k2,fun ys ⟨y1,y2,w1,w2,w3⟩=>q ys ?_ fun k=> ?_⟩) hb
  ·have:=(uC k1.n).2
   have:=(uC k2.n).2
   have:=w1.len
   have:=w2.len
   have h3:=w3.len
   rw [List.length_append] at h3
   omega
  ·rw [w3.mem,aAq,List.mem_append,w1.mem,w2.mem]
   constructor
   ·rintro (h | h)
    ·exact ⟨r1,List.mem_cons_self,h⟩
    ·exact ⟨r2,List.mem_cons_of_mem _ List.mem_cons_self,h⟩
   ·rintro ⟨rs,h1,h2⟩
    rcases List.mem_cons.mp h1 with rfl | h1
    ·exact .inl h2
    ·rw [List.mem_singleton.mp h1] at h2;exact .inr h2
theorem ae_sset (B:Bl C.X.mg) (hu:C.X.A.units+100 < cLine) (h:AE C a Γ L fun x L1=>AE C b Γ L1 fun y L2=> ∃ys zs,x=dW ys∧y=dW zs∧ys.length≤1000∧zs.length≤1000∧∀vs l,Wds (ys++zs) vs→L2 l=none→Q (.ptr l) (put L2 l (.lst (vs.map D.str))))
  (g2:Gl C.X "sorted" :=by rfl) (g3:Gl C.X "set" :=by rfl):AE C (.Call (.Name "sorted" p2) [.Call (.Name "set" p3) [.BinOp a .Add b p4] [] p5] [] p6) Γ L Q:=by
 have h3:AE C (.Call (.Name "set" p3) [.BinOp a .Add b p4] [] p5) Γ L fun d L2=> ∃(ks:List Wd) (L1:Lp) (l1:Addr) (m1:Nat),d= .ptr l1∧L1 l1=none∧L2=put L1 l1 (.txs (fun k=>decide (k∈ks)) m1)∧m1≤ks.length∧ks.length≤2000∧∀vs l,Wds ks vs→L1 l=none→Q (.ptr l) (put L1 l (.lst (vs.map D.str))):=
  aR (hg:=g3) (cr_setT C.calm) B.set (aC (jM (h.mono fun x L1 h1=>h1.mono fun y L2 ⟨ys,zs,ex,ey,l1,l2,q⟩=>by
   subst ex ey
   refine xM (xs:=ys.map D.str) (ys:=zs.map D.str) ?_ (by rw [List.length_map,List.length_map,bU];omega)
   rw [←List.map_append]
   have hl:(ys++zs).length≤2000:=by rw [List.length_append];omega
   exact aD (c_setT (by unfold scanBound;omega) fun l1 m1 hl1 hm1=>⟨ys++zs,L2,l1,m1,rfl,hl1,rfl,hm1,hl,q⟩))))
 refine AE.drop (aP (hg:=g2) (rH C.calm hu) B.sorted (aC (h3.mono fun d L2 ⟨ks,L1,l1,m1,ed,hl1,eL,hm1,hk,q⟩=> ?_)))
 subst ed eL
 refine aD (vZ aF (by rw [bU];omega) fun l2 vs hl2 hrise hmem hlen=>⟨put L1 l2 (.lst (vs.map D.str)),oF (aU hl1) l2 _,q vs l2 ⟨hrise,fun k=>(hmem k).trans decide_eq_true_iff,by omega⟩ ?_⟩)
 rw [aK (fun e=>by rw [e,aF] at hl2;cases hl2)] at hl2
 exact hl2
end
def dCmp:List Wd ⊕ List (RowC×List Wd)→D
 | .inl t=> .tup [.str "different",dW t]
 | .inr ts=> .tup [.str "same",.tup ((ts.map fun x=>bH x.1).mergeSort leD)]
def CS (L:Lp) (lw td wt:Addr) (al:List Wd) (ts:List (RowC×List Wd)):Lp:=put (put (put L lw (.lst (al.map D.str))) td (.nd (dTx ts))) wt (.lst (ts.map fun x=>bH x.1))
structure CSn (L:Lp) (lw td wt:Addr):Prop where
 w0:L lw=none
 t0:L td=none
 a0:L wt=none
 tw:td≠lw
 aw:wt≠lw
 at_:wt≠td
section
variable {L:Lp} {lw td wt:Addr} {al:List Wd} {ts:List (RowC×List Wd)}
theorem CSn.le (h:CSn L lw td wt):Le L (CS L lw td wt al ts):=fun a o e=>by
 unfold CS
 rw [aK (aQ e h.a0),aK (aQ e h.t0),aK (aQ e h.w0)]
 exact e
theorem CSn.w (h:CSn L lw td wt):CS L lw td wt al ts lw=some (.lst (al.map D.str)):=by
 unfold CS
 rw [aK h.aw.symm,aK h.tw.symm,aF]
theorem CSn.t (h:CSn L lw td wt):CS L lw td wt al ts td=some (.nd (dTx ts)):=by
 unfold CS
 rw [aK h.at_.symm,aF]
theorem CSn.a (h:CSn L lw td wt):CS L lw td wt al ts wt=some (.lst (ts.map fun x=>bH x.1)):=by
 unfold CS
 rw [aF]
theorem CSn.add (h:CSn L lw td wt) (r:RowC) (t:List Wd):put (put (CS L lw td wt al ts) td (.nd (dTx (ts++ [(r,t)])))) wt (.lst ((ts.map fun x=>bH x.1)++ [bH r]))=CS L lw td wt al (ts++ [(r,t)]):=by
 unfold CS
 rw [List.map_append]
 funext c
 unfold put
 by_cases h1:c=wt
 ·rw [if_pos h1,if_pos h1];rfl
 ·rw [if_neg h1,if_neg h1]
  by_cases h2:c=td
  ·rw [if_pos h2,if_neg h1,if_pos h2]
  ·rw [if_neg h2,if_neg h2,if_neg h1,if_neg h2]
end
structure TbOk (r1 r2:List Rl) (ts:List (RowC×List Wd)) (n:Nat):Prop where
 nd:(ts.map (·.1)).Nodup
 ok:∀x∈ts,RowOk r1 r2 x.1
 tx:∀x∈ts,x.2.length≤n
theorem row_bnd {r1 r2:List Rl} {r:RowC} (l1:r1.length≤2) (l2:r2.length≤2) (h1:∀rs∈r1,RuN rs) (h2:∀rs∈r2,RuN rs) (h:RowOk r1 r2 r):RwB r1 r2 r:=by
 have e:=of_decide_eq_true h.same
 have s1:=cY (wh:=true) l1 h1 (wZ h.p) (cs:= []) (Nat.zero_le 1)
 have s2:=cY (wh:=true) l2 h2 (wZ h.q) (cs:= []) (Nat.zero_le 1)
 have e:=congrArg List.length e
 rw [List.length_append,List.length_append] at e
 refine ⟨wZ h.p,wZ h.q,?_,?_⟩ <;> rcases h.one with z | z <;> rw [z,List.length_nil] at e <;> first | omega | (rw [z,List.length_nil];omega)
theorem step_bnd {r1 r2:List Rl} {r:RowC} (l1:r1.length≤2) (l2:r2.length≤2) (h1:∀rs∈r1,RuN rs) (h2:∀rs∈r2,RuN rs) (h:RowOk r1 r2 r) (v:Wd):RwB r1 r2 (dZ r1 r2 r v):=by
 have hB:=row_bnd l1 l2 h1 h2 h
 have s1:=cY (wh:=false) l1 h1 hB.p (cs:= [[v]]) (Nat.le_refl 1)
 have s2:=cY (wh:=false) l2 h2 hB.q (cs:= [[v]]) (Nat.le_refl 1)
 have e:=of_decide_eq_true h.same
 have t1:=cY (wh:=true) l1 h1 hB.p (cs:= []) (Nat.zero_le 1)
 have t2:=cY (wh:=true) l2 h2 hB.q (cs:= []) (Nat.zero_le 1)
 have e:=congrArg List.length e
 rw [List.length_append,List.length_append] at e
 have hab:r.a.length≤16∧r.b.length≤16:=by
  rcases h.one with z | z <;> rw [z] at e ⊢ <;> simp only [List.length_nil] at e ⊢ <;> omega
 refine ⟨wZ (oM r1 _ _ hB.p.len),wZ (oM r2 _ _ hB.q.len),?_,?_⟩
 ·show (List.drop _ _).length≤1000
  rw [List.length_drop,List.length_append]
  omega
 ·show (List.drop _ _).length≤1000
  rw [List.length_drop,List.length_append]
  omega
end K
namespace K
open PySem PySem.Spec PyProof.Rows L2 DL
section
variable {P:Program} {w:World} {K:PySem.W.Frag} {mg:Str→Option Value} {base:Heap} {f:Addr} {fd:FuncData} {BK CH pT pF pL pW pV gT gU gW gV:Addr}
theorem r16 {k:Nat} {A:Around} (h:Room k A):A.units+16 < cLine:=by have:=u64 h;omega
abbrev whB (b:List Stmt) (i:Nat):List Stmt:=match b.getD i (.Pass ⟨0,0,0,0⟩) with | .While _ body _ _=>body | _=> []
abbrev foB (b:List Stmt) (i:Nat):List Stmt:=match b.getD i (.Pass ⟨0,0,0,0⟩) with | .For _ _ body _ _=>body | _=> []
theorem word_ok (g1:GS mg "DIFFERENT" "different") (d3:Def P w K mg base "row_behind" 6 (gQ CH BK)) (d4:Def P w K mg base "is_same_here" 6 (jD CH BK))
  {cdv:Value} {A:Around} {outer:List Env} {s:Shared} {H:Hp} {E:XK} {Q:D→Lp→Prop} {R:Value→List (Str×D)→Lp→Prop} {E2:AEnds} (hr:Room 7 (A.deeper (envOfC "compare" (defScope eG) s.heap.objs.size f cdv)))
  {L:Lp} {x y:D} {r1 r2:List Rl} {lw td wt:Addr} {al:List Wd} {ts:List (RowC×List Wd)} {n k:Nat} {z:RowC×List Wd} {v:Wd} {ws:List Wd} {first:D} {g9:Option D} (hx:Rw CH BK L x r1) (hy:Rw CH BK L y r2) (cs:CSn L lw td wt) (tb:TbOk r1 r2 ts (n+1)) (hz:z∈ts) (hzn:z.2.length≤n) (hn:n≤30000)
  (hret:∀d,xN r1 r2 z.1 z.2 (v::ws) ts= .inl d→E2.rt (.tup [.str "different",dW d]) L)
  (nx:∀ts' g9,TbOk r1 r2 ts' (n+1)→(∀u∈ts,u∈ts')→(∀u∈ts',u∈ts∨u.2.length≤n+1)→xN r1 r2 z.1 z.2 (v::ws) ts=xN r1 r2 z.1 z.2 ws ts'→(∃us,ts'=ts++us)→E2.nx [some x,some y,some (.ptr lw),some first,some (.ptr td),some (.ptr wt),some (.int k),some (bH z.1),some (.str v),g9] (CS L lw td wt al ts')):
  ASs (uF P w K mg base ["one","other","words","first","texts","waiting","at","row","word","later"] "compare" (defScope eG) f cdv A outer s H E sc_compare.nd R)
   (foB (whB (defBody eG) 4) 1) [some x,some y,some (.ptr lw),some first,some (.ptr td),some (.ptr wt),some (.int k),some (bH z.1),some (.str v),g9] (CS L lw td wt al ts) E2:=by
 have hle:=cs.le (al:=al) (ts:=ts)
 have hok:=tb.ok z hz
 have hB:=row_bnd hx.n.1 hy.n.1 hx.n.2 hy.n.2 hok
 have hB2:=step_bnd hx.n.1 hy.n.1 hx.n.2 hy.n.2 hok v
 have hlen:ts.length≤28561:=by
  have:=xY (fun rs h=>(hx.n.2 rs h).len) (fun rs h=>(hy.n.2 rs h).len) hx.n.1 hy.n.1 tb.nd fun r hr=>by
   obtain ⟨u,hu,rfl⟩:=List.mem_map.mp hr
   exact tb.ok u hu
  rwa [List.length_map] at this
 refine aJ (aY 9 (aH d3 (hr.mono (by omega)) (aC (aA 0 rfl (aC (aA 1 rfl (aC (aA 7 rfl (aC (aA 8 rfl (aD ⟨x,y,r1,r2,z.1,v,rfl,hx.le hle,hy.le hle,hB,?_⟩)))))))))))
 have eI:xN r1 r2 z.1 z.2 (v::ws) ts=if mF r1 r2 (dZ r1 r2 z.1 v)=true then xN r1 r2 z.1 z.2 ws (if (ts.map (·.1)).contains (dZ r1 r2 z.1 v) then ts else ts++ [(dZ r1 r2 z.1 v,z.2++ [v])]) else .inl (z.2++ [v]):=rfl
 generalize hL:dZ r1 r2 z.1 v=later at hB2 eI ⊢
 refine aJ (cX (mO (nR (aH d4 (hr.mono (by omega)) (aC (aA 0 rfl (aC (aA 1 rfl (aC (aA 9 rfl (aD ⟨x,y,r1,r2,later,rfl,hx.le hle,hy.le hle,hB2,_,rfl,fun hs=> ?_,fun hs=> ?_⟩)))))))))))
 ·have hs:mF r1 r2 later=false:=by simpa using hs
  rw [hs,if_neg (by simp)] at eI
  have q:=hret _ eI
  obtain ⟨t1,g1⟩:=g1
  refine aO (aX (AE.drop (bM (aC (jJ g1 (aC (jM (ae_sbJ (aA 4 rfl (aA 7 rfl (sb_N (r16 hr) cs.t ⟨_,rfl⟩ (qF _) (qH _) (dTx_get tb.nd hz) ?_ (fun _ _=>rfl))))))))))))
  refine bM (aC (aA 8 rfl (aD ⟨Nat.le_of_ble_eq_true rfl,xM (xs:=z.2.map D.str) (ys:= [.str v]) (aD ⟨Nat.le_of_ble_eq_true rfl,L,cs.le,?_⟩) ?_⟩)))
  ·have e:(D.tup (z.2.map D.str++ [D.str v]))=dW (z.2++ [v]):=by unfold dW;rw [List.map_append];rfl
   rw [e]
   exact q
  ·rw [List.length_map,bU]
   show _+1≤_
   omega
 ·have hs:mF r1 r2 later=true:=by simpa using hs
  rw [if_pos hs] at eI
  have hok2:RowOk r1 r2 later:=by rw [←hL];exact step_ok hok v (by rw [hL];exact hs)
  refine bO (aO (cX (tO (aA 9 rfl (aA 4 rfl (j_ninN (r16 hr) cs.t ⟨_,rfl⟩ (qF _) (qH _) ⟨_,rfl,fun hh=> ?_,fun hh=> ?_⟩))))))
  ·have hc:(ts.map (·.1)).contains later=false:=by rw [yM] at hh;simpa using hh
   rw [hc,if_neg (by simp)] at eI
   refine aJ (as_subJ (jM (ae_sbJ (aA 4 rfl (aA 7 rfl (sb_N (r16 hr) cs.t ⟨_,rfl⟩ (qF _) (qH _) (dTx_get tb.nd hz) ?_ (fun _ _=>rfl)))))))
   refine bM (aC (aA 8 rfl (aD ⟨Nat.le_of_ble_eq_true rfl,xM (xs:=z.2.map D.str) (ys:= [.str v]) ?_ ?_⟩)))
   ·have e:(D.tup (z.2.map D.str++ [D.str v]))=dW (z.2++ [v]):=by unfold dW;rw [List.map_append];rfl
    rw [e]
    refine aA 4 rfl (aA 9 rfl (st_N (r16 hr) cs.t ⟨_,rfl⟩ (qF _) (qH _) ?_ ?_))
    ·unfold dTx
     rw [List.length_map,bU]
     omega
    ·rw [dTx_put hc]
     have ha:put (CS L lw td wt al ts) td (.nd (dTx (ts++ [(later,z.2++ [v])]))) wt=some (.lst (ts.map fun x=>bH x.1)):=by rw [aK cs.at_];exact cs.a
     refine aO (wG (pK (aA 5 rfl ⟨wt,_,rfl,ha,aA 9 rfl ⟨_,ha,?_,?_⟩⟩)))
     ·rw [List.length_map,bU];omega
     ·rw [cs.add]
      have hni:later∉ts.map (·.1):=by simpa using hc
      refine nx (ts++ [(later,z.2++ [v])]) _ ⟨?_,fun u hu=> ?_,fun u hu=> ?_⟩ (fun u hu=>List.mem_append_left _ hu) (fun u hu=> ?_) eI ⟨_,rfl⟩
      ·rw [List.map_append]
       refine List.nodup_append.mpr ⟨tb.nd,by simp,fun a ha b hb e=> ?_⟩
       rw [List.map_cons,List.map_nil] at hb
       rw [List.mem_singleton.mp hb] at e
       rw [e] at ha
       exact hni ha
      ·rcases List.mem_append.mp hu with h | h
       ·exact tb.ok u h
       ·rw [List.mem_singleton.mp h];exact hok2
      ·rcases List.mem_append.mp hu with h | h
       ·exact tb.tx u h
       ·rw [List.mem_singleton.mp h,List.length_append];show z.2.length+1≤_;omega
      ·rcases List.mem_append.mp hu with h | h
       ·exact .inl h
       ·rw [List.mem_singleton.mp h,List.length_append];exact .inr (by show z.2.length+1≤_;omega)
   ·rw [List.length_map,bU]
    show _+1≤_
    omega
  ·have hc:(ts.map (·.1)).contains later=true:=by rw [yM] at hh;simpa using hh
   rw [hc,if_pos rfl] at eI
   exact bO (nx ts _ tb (fun u hu=>hu) (fun u hu=> .inl hu) eI ⟨[],by rw [List.append_nil]⟩)
end
end K
namespace K
open PySem PySem.Spec PyProof.Rows L2 DL
section
variable {P:Program} {w:World} {K:PySem.W.Frag} {mg:Str→Option Value} {base:Heap} {f:Addr} {fd:FuncData} {BK CH pT pF pL pW pV gT gU gW gV:Addr}
theorem dTx_ok (ts:List (RowC×List Wd)):gA ((dTx ts).map (·.1))=true:=by
 have e:(dTx ts).map (·.1)=ts.map fun x=>bH x.1:=by unfold dTx;rw [List.map_map];rfl
 rw [e]
 induction ts with
 | nil=>rfl
 | cons t ts ih=>
  rw [List.map_cons,gA,ih (by unfold dTx;rw [List.map_map];rfl)]
  unfold bH
  rw [okD,gA,gA,gA,gA,gA,kW,kW,kW,kW]
  rfl
def gD (r1 r2:List Rl) (vs:List Wd):List Wd ⊕ List (RowC×List Wd):=zR r1 r2 (vs++ [frs vs]) 28561 0 [(aAg r1 r2,[])]
def jT (CH BK:Addr):SpA:=fun ds L Q _=> ∃(x y:D) (r1 r2:List Rl) (nm:List Wd),ds= [x,y]∧Rw CH BK L x r1∧Rw CH BK L y r2∧nm.length≤7∧(∀k,k∈cG r1∨k∈cG r2→k∈nm)∧∀vs,AlOk r1 r2 vs→Q (dCmp (gD r1 r2 vs)) L
theorem cmpW_end {r1 r2:List Rl} {al:List Wd} {m k:Nat} {ts:List (RowC×List Wd)} (h:ts.length≤k):zR r1 r2 al m k ts= .inr ts:=by
 cases m with
 | zero=>rfl
 | succ m=>
  unfold zR
  rw [List.getElem?_eq_none h]
set_option maxHeartbeats 0 in
theorem ok_compare (F:Fun K "compare" "compare" eG f fd) (hb:Binds K fd ["one","other"] []) (B:Bl mg) (g1:GS mg "DIFFERENT" "different") (g2:GS mg "SAME" "same") (W:RwW P w K mg base BK CH pT pF pL pW pV gT gU gW gV) (d1:Def P w K mg base "fresh_word" 2 lH) (d2:Def P w K mg base "start" 4 (uN CH BK)) (d3:Def P w K mg base "row_behind" 6 (gQ CH BK)) (d4:Def P w K mg base "is_same_here" 6 (jD CH BK)):FnA P w K mg base 8 f (jT CH BK):=by
 refine fnA F sc_compare hb (fun ds L Q R h=>by obtain ⟨_,_,_,_,_,rfl,_⟩:=h;rfl) fun cdv A outer s H E ds L Q R hr h=> ?_
 obtain ⟨x,y,r1,r2,nm,rfl,hx,hy,hnm,hin,q⟩:=h
 refine aJ (aY 2 (ae_sset B (yV hr) (ae_words W (hr.mono (by omega)) hx (fun Q q=>aA 0 rfl q) fun y1 l1 m1=>ae_words W (hr.mono (by omega)) hy (fun Q q=>aA 1 rfl q) fun y2 l2 m2=>⟨y1,y2,rfl,rfl,l1,l2,fun vs lw hv hlw=> ?_⟩)))
 have hA:AlOk r1 r2 vs:=⟨hv.up,fun k=>by rw [hv.mem,List.mem_append,m1,m2]⟩
 have h7:vs.length≤7:=Nat.le_trans (iH (rise_nodup hv.up) fun k hk=>hin k ((hA.mem k).mp hk)) hnm
 have q:=q vs hA
 have hlr:LR (put L lw (.lst (vs.map D.str))) (.ptr lw) (vs.map D.str):= .st aF
 refine aJ (wG (pK (aA 2 rfl ⟨lw,_,rfl,aF,aH d1 (hr.mono (by omega)) (aC (aA 2 rfl (aD ⟨_,vs,rfl,hlr,h7,_,aF,by rw [List.length_map,bU];omega,?_⟩)))⟩)))
 rw [cI,show vs.map D.str++ [D.str (frs vs)]=(vs++ [frs vs]).map D.str by rw [List.map_append];rfl]
 unfold gD at q
 generalize hal:vs++ [frs vs]=al at q ⊢
 have hxw:=hx.le (aU hlw (o:= .lst (al.map D.str)))
 have hyw:=hy.le (aU hlw (o:= .lst (al.map D.str)))
 refine aJ (aY 3 (bM (aC (aH d2 (hr.mono (by omega)) (aC (aA 0 rfl (aD ⟨x,r1,rfl,hxw,aC (aH d2 (hr.mono (by omega)) (aC (aA 1 rfl (aD ⟨y,r2,rfl,hyw,aC (bM (aD ⟨Nat.le_of_ble_eq_true rfl,aC (bM (aD ⟨Nat.le_of_ble_eq_true rfl,aD ⟨Nat.le_of_ble_eq_true rfl,?_⟩⟩))⟩))⟩))))⟩)))))))
 show ASs _ _ [some x,some y,some (.ptr lw),some (bH (aAg r1 r2)),none,none,none,none,none,none] _ _
 refine aJ (as_par3 4 5 6 (aC (ae_nd1 (r16 hr) (aA 3 rfl (bM (aD ⟨Nat.le_of_ble_eq_true rfl,⟨_,rfl⟩,qF _,qH _,fun td htd=> ?_⟩))))))
 refine aC (jH (aC (aA 3 rfl (aD ⟨Nat.le_of_ble_eq_true rfl,fun wt hwt=>aC (aG (aD ⟨_,_,_,rfl,?_⟩))⟩))))
 have cs:CSn L lw td wt:=by
  have n1:td≠lw:=fun e=>by rw [e,aF] at htd;cases htd
  have n2:wt≠td:=fun e=>by rw [e,aF] at hwt;cases hwt
  rw [aK n2] at hwt
  have n3:wt≠lw:=fun e=>by rw [e,aF] at hwt;cases hwt
  rw [aK n1] at htd
  rw [aK n3] at hwt
  exact ⟨hlw,htd,hwt,n1,n3,n2⟩
 show ASs _ _ [some x,some y,some (.ptr lw),some (bH (aAg r1 r2)),some (.ptr td),some (.ptr wt),some (.int (0:Nat)),none,none,none] (CS L lw td wt al [(aAg r1 r2,[])]) _
 refine aJ (wD (fun m Γ1 L1=> ∃(k:Nat) (ts:List (RowC×List Wd)) (g7 g8 g9:Option D),k+m=28561∧zR r1 r2 al 28561 0 [(aAg r1 r2,[])]=zR r1 r2 al m k ts∧TbOk r1 r2 ts k∧L1=CS L lw td wt al ts∧Γ1= [some x,some y,some (.ptr lw),some (bH (aAg r1 r2)),some (.ptr td),some (.ptr wt),some (.int k),g7,g8,g9]) 28561 ⟨0,_,none,none,none,rfl,rfl,⟨by simp,fun u hu=>by rw [List.mem_singleton.mp hu];exact xZ r1 r2,fun u hu=>by rw [List.mem_singleton.mp hu];exact Nat.le_refl 0⟩,rfl,rfl⟩ ?_)
 rintro m Γ1 L1 ⟨k,ts,g7,g8,g9,hkm,eW,tb,rfl,rfl⟩
 have hlen:ts.length≤28561:=by
  have:=xY (fun rs h=>(hx.n.2 rs h).len) (fun rs h=>(hy.n.2 rs h).len) hx.n.1 hy.n.1 tb.nd fun r hr=>by
   obtain ⟨u,hu,rfl⟩:=List.mem_map.mp hr
   exact tb.ok u hu
  rwa [List.length_map] at this
 have hla:LR (CS L lw td wt al ts) (.ptr wt) (ts.map fun x=>bH x.1):= .st cs.a
 walk
 rw [List.length_map]
 refine ⟨fun hk=> ?_,fun hk=> ?_⟩
 ·have hlt:k < ts.length:=by have:=of_decide_eq_true hk;omega
  obtain ⟨m,rfl⟩:∃m',m=m'+1:=⟨m - 1,by omega⟩
  have ez:ts[k]? =some ts[k]:=List.getElem?_eq_getElem hlt
  have eW2:zR r1 r2 al (m+1) k ts=match xN r1 r2 ts[k].1 ts[k].2 al ts with | .inl t=> .inl t | .inr ts'=>zR r1 r2 al m (k+1) ts':=by
   show (match ts[k]? with | none=>_ | some x=>_)=_
   first | (rw [ez];rfl) | rw [ez]
  rw [eW2] at eW
  have hz:ts[k]∈ts:=List.getElem_mem hlt
  have hzn:=tb.tx _ hz
  generalize ts[k]=z at ez eW hz hzn
  refine aJ (aY 7 (bJ (nA (u1 hr)) (aA 5 rfl (aA 6 rfl (aBt hla ?_ (d:= .ptr wt) (x:=bH z.1) ?_)))))
  ·refine aJ (tR (uJ (aA 2 rfl ⟨lw,_,rfl,cs.w,fun hz2=> ?_⟩)))
   refine ⟨fun i Γ2 L2=> ∃(ts':List (RowC×List Wd)) (g8 g9:Option D),TbOk r1 r2 ts' (k+1)∧z∈ts'∧xN r1 r2 z.1 z.2 al ts=xN r1 r2 z.1 z.2 (al.drop i) ts'∧L2=CS L lw td wt al ts'∧Γ2= [some x,some y,some (.ptr lw),some (bH (aAg r1 r2)),some (.ptr td),some (.ptr wt),some (.int k),some (bH z.1),g8,g9],⟨ts,_,_,⟨tb.nd,tb.ok,fun u hu=>Nat.le_trans (tb.tx u hu) (Nat.le_succ _)⟩,hz,by rw [List.drop_zero],rfl,rfl⟩,fun i Γ2 L2 ⟨ts',_,_,_,_,_,e,_⟩=>by rw [e];exact cs.w,?_,?_⟩
   ·rintro i d Γ2 L2 hd ⟨ts',g8,g9,tb',hz',eI,rfl,rfl⟩
    rw [List.getElem?_map] at hd
    cases ev:al[i]? with
    | none=>rw [ev] at hd;cases hd
    | some v=>
     rw [ev] at hd
     cases hd
     have hi:=(List.getElem?_eq_some_iff.mp ev).1
     have edr:al.drop i=v::al.drop (i+1):=by
      rw [List.drop_eq_getElem_cons hi,(List.getElem?_eq_some_iff.mp ev).2]
     rw [edr] at eI
     refine ⟨_,_,aM 8,word_ok (Q:=Q) (ws:=al.drop (i+1)) (n:=k) g1 d3 d4 hr hx hy cs tb' hz' hzn (by omega) (fun t et=>⟨L,.refl L,?_⟩) fun ts2 g9 tb2 hsub _ e2 _=>⟨ts2,_,g9,tb2,hsub z hz',eI.trans e2,rfl,rfl⟩⟩
     rw [eI,et] at eW
     rw [eW] at q
     exact q
   ·rintro Γ2 L2 ⟨ts',g8,g9,tb',hz',eI,rfl,rfl⟩
    rw [List.length_map,List.drop_length] at eI
    rw [eI] at eW
    refine aO (pG 6 ip_add rfl (aG (aBe ⟨m,by omega,k+1,ts',_,_,_,by omega,eW,tb',rfl,rfl⟩)))
  ·have e2:(ts.map fun x=>bH x.1)[k]? =some (bH z.1):=by rw [List.getElem?_map,ez];rfl
   unfold atI ixN
   rw [if_pos (by omega)]
   have e3:ts[k]=z:=(List.getElem?_eq_some_iff.mp ez).2
   simp [hlt,e3]
 ·have hge:ts.length≤k:=by have:=of_decide_eq_false hk;omega
  rw [cmpW_end hge] at eW
  rw [eW] at q
  obtain ⟨t2,g2⟩:=g2
  refine aO (aX (AE.drop (bM (aC (jJ g2 (aC (aR call_tuple_of B.tuple (aC (ae_callBJ B.sorted (aC (aA 4 rfl (aD (ca_sortN rfl (yV hr) cs.t (dTx_ok ts) (tL ts) (mH ts) (dTx_depth ts) fun l hl=>aD (mJ aF (aD ⟨Nat.le_of_ble_eq_true rfl,L,cs.le.trans (aU hl),?_⟩)))))))))))))))
  have e:(dTx ts).map (·.1)=ts.map fun x=>bH x.1:=by unfold dTx;rw [List.map_map];rfl
  rw [e]
  exact ⟨L,.refl L,q⟩
end
end K
namespace DL
open PySem
def mtC (a b:List Str):Bool:=a.isEmpty || a.any fun x=>decide (x∈b)
end DL
namespace DL
open PySem
def EndAt (ws xs:List (List Str)) (k:Nat):Prop:=k≤xs.length∧∀i,i < k→mtC (ws.getD i []) (xs.getD (xs.length - k+i) [])=true
structure BegP (ws xs:List (List Str)) (b:List Nat):Prop where
 iff:∀k,k∈b↔0 < k∧k < ws.length∧EndAt ws xs k
end DL
namespace DL
open PySem
abbrev StP:=List (List Str)×List Nat×Bool
theorem aAS:∀(rss:List Rl) (cs ds:List (List Str)),bg rss (cs++ds)=((thr false (rss.zip (bg rss cs).1) ds).1,(bg rss cs).2++(thr false (rss.zip (bg rss cs).1) ds).2)
 | [],cs,ds=>rfl
 | r::rss,cs,ds=>by
  rw [wA,wA,List.zip_cons_cons,gK]
  dsimp only
  rw [yG (uX r cs),rw2_app,aAS rss]
def begs (rs:Rl):List (List Str):=ddp ([]::rs.flatMap fun r=>(List.range r.1.length).map fun i=>r.1.take i)
def univB:List Rl→List (List (List Str))
 | []=> [[]]
 | rs::rss=>(begs rs).flatMap fun x=>(univB rss).map (x:: ·)
structure StOk (rss:List Rl) (ws:List (List Str)) (s:StP):Prop where
 p:s.1∈univB rss
 b:s.2.1.Sublist (List.range' 1 (ws.length - 1))
 w:s.2.2=true→s=(rss.map fun _=> [],[],true)
end DL
namespace DL
open PySem
structure SwT (σ:Str→Str) (T:Str→Prop):Prop where
 fix:∀x,T x→σ x=x
 out:∀x,¬T x→¬T (σ x)
structure RuT (rs:Rl) (T:Str→Prop):Prop where
 k:∀r∈rs,∀x∈r.1,T x
 c:∀r∈rs,∀c∈r.2,∀x∈c,T x
section
variable {σ:Str→Str} {T:Str→Prop} (S:SwT σ T)
include S
omit S in
omit S in
omit S in
omit S in
end
end DL
namespace K
open PySem PySem.Spec PyProof.Rows L2 DL
theorem cpl_common:∀c u v:List Cell,cpl (c++u) (c++v)=c.length+cpl u v
 | [],u,v=>by rw [List.nil_append,List.nil_append];show _=0+_;omega
 | x::c,u,v=>by
  rw [List.cons_append,List.cons_append,List.length_cons]
  show (if x=x then cpl (c++u) (c++v)+1 else 0)=_
  rw [if_pos rfl,cpl_common c u v]
  omega
theorem aAN:∀x y:List Cell,x.take (cpl x y)=y.take (cpl x y)
 | [],y=>by unfold cpl;rw [List.take_zero,List.take_zero]
 | x::xs,[]=>by unfold cpl;rw [List.take_zero,List.take_zero]
 | x::xs,y::ys=>by
  unfold cpl
  by_cases e:x=y
  ·rw [if_pos e,List.take_succ_cons,List.take_succ_cons,aAN xs ys,e]
  ·rw [if_neg e,List.take_zero,List.take_zero]
theorem cpl_more (x y u v:List Cell):(x.drop (cpl x y)++u).drop (cpl (x.drop (cpl x y)++u) (y.drop (cpl x y)++v))=(x++u).drop (cpl (x++u) (y++v))∧(y.drop (cpl x y)++v).drop (cpl (x.drop (cpl x y)++u) (y.drop (cpl x y)++v))=(y++v).drop (cpl (x++u) (y++v)):=by
 obtain ⟨c,a,b,hx,hy,ea,eb⟩:∃c a b,x=c++a∧y=c++b∧x.drop (cpl x y)=a∧y.drop (cpl x y)=b:=
  ⟨x.take (cpl x y),x.drop (cpl x y),y.drop (cpl x y),(List.take_append_drop ..).symm,by rw [aAN,List.take_append_drop],rfl,rfl⟩
 rw [ea,eb,hx,hy,List.append_assoc,List.append_assoc,cpl_common]
 generalize a++u=s
 generalize b++v=t
 have key:∀z:List Cell,z.drop (cpl s t)=(c++z).drop (c.length+cpl s t):=fun z=>by
  rw [←List.drop_drop,List.drop_left]
 exact ⟨key s,key t⟩
section
variable (r1 r2:List Rl)
def clo (cs:List Cell):RowC:=⟨(bg r1 cs).1,(bg r2 cs).1,(bg r1 cs).2.drop (cpl (bg r1 cs).2 (bg r2 cs).2),(bg r2 cs).2.drop (cpl (bg r1 cs).2 (bg r2 cs).2)⟩
def uE (t:List Wd):RowC:=t.foldl (dZ r1 r2) (aAg r1 r2)
def oG (t:List Wd):Bool:=decide (aAf r1 (DL.one t)=aAf r2 (DL.one t))
end
section
variable {r1 r2:List Rl}
theorem clo_nil:clo r1 r2 []=aAg r1 r2:=by
 unfold clo aAg
 rw [aAQ,aAQ]
 rfl
theorem clo_step (cs:List Cell) (w:Wd):dZ r1 r2 (clo r1 r2 cs) w=clo r1 r2 (cs++ [[w]]):=by
 unfold dZ clo
 dsimp only
 rw [aAS r1 cs,aAS r2 cs]
 dsimp only
 obtain ⟨h1,h2⟩:=cpl_more (bg r1 cs).2 (bg r2 cs).2 (thr false (r1.zip (bg r1 cs).1) [[w]]).2 (thr false (r2.zip (bg r2 cs).1) [[w]]).2
 rw [h1,h2]
theorem fold_clo:∀(t:List Wd) (cs:List Cell),t.foldl (dZ r1 r2) (clo r1 r2 cs)=clo r1 r2 (cs++DL.one t)
 | [],cs=>by show clo r1 r2 cs=clo r1 r2 (cs++ []);rw [List.append_nil]
 | w::t,cs=>by
  rw [List.foldl_cons,clo_step,fold_clo t]
  have e:cs++ [[w]]++DL.one t=cs++DL.one (w::t):=by
   rw [List.append_assoc]
   rfl
  rw [e]
theorem uZ (t:List Wd):uE r1 r2 t=clo r1 r2 (DL.one t):=by
 unfold uE
 rw [←clo_nil,fold_clo,List.nil_append]
theorem oO (t:List Wd) (w:Wd):uE r1 r2 (t++ [w])=dZ r1 r2 (uE r1 r2 t) w:=by
 unfold uE
 rw [List.foldl_append]
 rfl
theorem vQ (t:List Wd):mF r1 r2 (uE r1 r2 t)=oG r1 r2 t:=by
 rw [uZ]
 unfold mF oG
 have e1:=aAR r1 (DL.one t) []
 have e2:=aAR r2 (DL.one t) []
 rw [List.append_nil] at e1 e2
 refine decide_eq_decide.mpr ?_
 rw [←e1,←e2]
 show ((bg r1 (DL.one t)).2.drop _++(thr true (r1.zip (bg r1 (DL.one t)).1) []).2=(bg r2 (DL.one t)).2.drop _++(thr true (r2.zip (bg r2 (DL.one t)).1) []).2)↔_
 generalize (thr true (r1.zip (bg r1 (DL.one t)).1) []).2=F
 generalize (thr true (r2.zip (bg r2 (DL.one t)).1) []).2=G
 generalize (bg r1 (DL.one t)).2=x
 generalize (bg r2 (DL.one t)).2=y
 have hx:x=x.take (cpl x y)++x.drop (cpl x y):=(List.take_append_drop ..).symm
 have hy:y=x.take (cpl x y)++y.drop (cpl x y):=by rw [aAN,List.take_append_drop]
 constructor
 ·intro h
  rw [hx,List.append_assoc,h,←List.append_assoc,←hy]
 ·intro h
  rw [hx,List.append_assoc] at h
  have h2:y++G=x.take (cpl x y)++(y.drop (cpl x y)++G):=by rw [←List.append_assoc,←hy]
  rw [h2] at h
  exact List.append_cancel_left h
abbrev Ov (al t:List Wd):Prop:= ∀w∈t,w∈al
theorem vY (row:RowC) (text:List Wd):∀(al:List Wd) (ts:List (RowC×List Wd)),
  (∀t,xN r1 r2 row text al ts= .inl t→∃w∈al,t=text++ [w]∧mF r1 r2 (dZ r1 r2 row w)=false)∧
  (∀ts',xN r1 r2 row text al ts= .inr ts'→(∃us,ts'=ts++us∧∀u∈us,∃w∈al,u=(dZ r1 r2 row w,text++ [w])∧mF r1 r2 u.1=true)∧(∀w∈al,mF r1 r2 (dZ r1 r2 row w)=true∧dZ r1 r2 row w∈ts'.map (·.1))∧((ts.map (·.1)).Nodup→(ts'.map (·.1)).Nodup))
 | [],ts=>⟨(fun t h=>nomatch h),fun ts' h=>by
  cases h
  exact ⟨⟨[],(List.append_nil _).symm,fun u hu=>nomatch hu⟩,(fun w hw=>nomatch hw),id⟩⟩
 | w::al,ts=>by
  unfold xN
  by_cases hs:mF r1 r2 (dZ r1 r2 row w)=true
  ·rw [if_pos hs]
   obtain ⟨h1,h2⟩:=vY row text al (if (ts.map (·.1)).contains (dZ r1 r2 row w) then ts else ts++ [(dZ r1 r2 row w,text++ [w])])
   refine ⟨fun t h=> ?_,fun ts' h=> ?_⟩
   ·obtain ⟨v,hv,e⟩:=h1 t h
    exact ⟨v,List.mem_cons_of_mem _ hv,e⟩
   ·obtain ⟨⟨us,e,hus⟩,hal,hnd⟩:=h2 ts' h
    by_cases hc:(ts.map (·.1)).contains (dZ r1 r2 row w)=true
    ·rw [if_pos hc] at e hnd
     refine ⟨⟨us,e,fun u hu=> ?_⟩,fun v hv=> ?_,hnd⟩
     ·obtain ⟨v,hv,e2⟩:=hus u hu
      exact ⟨v,List.mem_cons_of_mem _ hv,e2⟩
     ·rcases List.mem_cons.mp hv with rfl | hv
      ·refine ⟨hs,?_⟩
       rw [e,List.map_append]
       exact List.mem_append_left _ (List.contains_iff_mem.mp hc)
      ·exact hal v hv
    ·rw [if_neg hc] at e hnd
     refine ⟨⟨(dZ r1 r2 row w,text++ [w])::us,by rw [e,List.append_assoc];rfl,fun u hu=> ?_⟩,fun v hv=> ?_,fun nd=>hnd ?_⟩
     ·rcases List.mem_cons.mp hu with rfl | hu
      ·exact ⟨w,List.mem_cons_self,rfl,hs⟩
      ·obtain ⟨v,hv,e2⟩:=hus u hu
       exact ⟨v,List.mem_cons_of_mem _ hv,e2⟩
     ·rcases List.mem_cons.mp hv with rfl | hv
      ·refine ⟨hs,?_⟩
       rw [e,List.map_append,List.map_append]
       exact List.mem_append_left _ (List.mem_append_right _ List.mem_cons_self)
      ·exact hal v hv
     ·rw [List.map_append]
      refine List.nodup_append.mpr ⟨nd,List.nodup_cons.mpr ⟨(fun z=>nomatch z),List.nodup_nil⟩,fun a ha b hb e2=> ?_⟩
      rw [List.mem_singleton.mp hb] at e2
      have e2:a=dZ r1 r2 row w:=e2
      rw [e2] at ha
      exact hc (List.contains_iff_mem.mpr ha)
  ·rw [if_neg hs]
   exact ⟨(fun t h=>by cases h;exact ⟨w,List.mem_cons_self,rfl,by simpa using hs⟩),(fun ts' h=>nomatch h)⟩
structure BI (r1 r2:List Rl) (al:List Wd) (k:Nat) (ts:List (RowC×List Wd)):Prop where
 rn:∀u∈ts,uE r1 r2 u.2=u.1∧Ov al u.2∧mF r1 r2 u.1=true∧RowOk r1 r2 u.1
 nd:(ts.map (·.1)).Nodup
 mono:ts.Pairwise fun a b=>a.2.length≤b.2.length
 z:(aAg r1 r2,[])∈ts
 cl:∀i u,i < k→ts[i]? =some u→∀w∈al,mF r1 r2 (dZ r1 r2 u.1 w)=true∧∃v∈ts,v.1=dZ r1 r2 u.1 w∧v.2.length≤u.2.length+1
 top:∀u,ts[k]? =some u→∀v∈ts,v.2.length≤u.2.length+1
theorem aAD {α:Type} {f:α→Nat}:∀{xs:List α},xs.Pairwise (fun a b=>f a≤f b)→∀{i j:Nat} {a b:α},xs[i]? =some a→xs[j]? =some b→i≤j→f a≤f b
 | [],_,i,j,a,b,h,_,_=>by simp at h
 | x::xs,h,0,0,a,b,h1,h2,_=>by cases h1;cases h2;exact Nat.le_refl _
 | x::xs,h,0,j+1,a,b,h1,h2,_=>by
  cases h1
  exact (List.pairwise_cons.mp h).1 b (List.mem_of_getElem? (by simpa using h2))
 | x::xs,h,i+1,0,a,b,_,_,h3=>absurd h3 (by omega)
 | x::xs,h,i+1,j+1,a,b,h1,h2,h3=>aAD (List.pairwise_cons.mp h).2 (by simpa using h1) (by simpa using h2) (by omega)
theorem last_of {t:List Wd} {n:Nat} (h:t.length=n+1):∃t' w,t=t'++ [w]∧t'.length=n:=by
 have hne:t≠ []:=fun e=>by rw [e] at h;cases h
 refine ⟨t.dropLast,t.getLast hne,(List.dropLast_concat_getLast hne).symm,?_⟩
 rw [List.length_dropLast,h]
 rfl
theorem BI.cover {al:List Wd} {k:Nat} {ts:List (RowC×List Wd)} (B:BI r1 r2 al k ts) {u:RowC×List Wd} (hu:ts[k]? =some u):∀(n:Nat) (t:List Wd),t.length=n→n≤u.2.length→Ov al t→mF r1 r2 (uE r1 r2 t)=true∧∃v∈ts,v.1=uE r1 r2 t∧v.2.length≤t.length
 | 0,t,hn,_,_=>by
  have e:t= []:=List.length_eq_zero_iff.mp hn
  subst e
  exact ⟨(B.rn _ B.z).2.2.1,_,B.z,rfl,Nat.le_refl _⟩
 | n+1,t,hn,hle,hov=>by
  obtain ⟨t',w,rfl,hn'⟩:=last_of hn
  obtain ⟨_,v,hv,ev,hl⟩:=B.cover hu n t' hn' (by omega) fun x hx=>hov x (List.mem_append_left _ hx)
  obtain ⟨i,hi⟩:=List.getElem?_of_mem hv
  have hik:i < k:=by
   rcases Nat.lt_or_ge i k with h | h
   ·exact h
   ·have:=aAD (f:=fun a:RowC×List Wd=>a.2.length) B.mono hu hi h
    omega
  obtain ⟨h1,v2,hv2,e2,l2⟩:=B.cl i v hik hi w (hov w (List.mem_append_right _ List.mem_cons_self))
  rw [oO,←ev]
  refine ⟨h1,v2,hv2,e2,?_⟩
  rw [List.length_append]
  show _≤_+1
  omega
theorem BI.all {al:List Wd} {k:Nat} {ts:List (RowC×List Wd)} (B:BI r1 r2 al k ts) (hk:ts.length≤k):∀(n:Nat) (t:List Wd),t.length=n→Ov al t→mF r1 r2 (uE r1 r2 t)=true∧uE r1 r2 t∈ts.map (·.1)
 | 0,t,hn,_=>by
  have e:t= []:=List.length_eq_zero_iff.mp hn
  subst e
  exact ⟨(B.rn _ B.z).2.2.1,List.mem_map.mpr ⟨_,B.z,rfl⟩⟩
 | n+1,t,hn,hov=>by
  obtain ⟨t',w,rfl,hn'⟩:=last_of hn
  obtain ⟨_,hm⟩:=B.all hk n t' hn' fun x hx=>hov x (List.mem_append_left _ hx)
  obtain ⟨v,hv,ev⟩:=List.mem_map.mp hm
  obtain ⟨i,hi⟩:=List.getElem?_of_mem hv
  have hil:=(List.getElem?_eq_some_iff.mp hi).1
  obtain ⟨h1,v2,hv2,e2,_⟩:=B.cl i v (by omega) hi w (hov w (List.mem_append_right _ List.mem_cons_self))
  rw [oO,←ev]
  exact ⟨h1,List.mem_map.mpr ⟨v2,hv2,e2⟩⟩
theorem BI.next {al:List Wd} {k:Nat} {ts ts':List (RowC×List Wd)} (B:BI r1 r2 al k ts) {u:RowC×List Wd} (hu:ts[k]? =some u) (h:xN r1 r2 u.1 u.2 al ts= .inr ts'):BI r1 r2 al (k+1) ts':=by
 obtain ⟨⟨us,e,hus⟩,hal,hnd⟩:=(vY u.1 u.2 al ts).2 ts' h
 have hum:=List.mem_of_getElem? hu
 obtain ⟨ru,ou,su,ku⟩:=B.rn u hum
 have hk:=(List.getElem?_eq_some_iff.mp hu).1
 have old:∀{i:Nat} {v:RowC×List Wd},i < k+1→ts'[i]? =some v→ts[i]? =some v:=fun {i v} hi hv=>by
  rw [e,List.getElem?_append_left (by omega)] at hv
  exact hv
 have lu:∀v∈us,v.2.length=u.2.length+1:=fun v hv=>by
  obtain ⟨w,_,rfl,_⟩:=hus v hv
  show (u.2++ [w]).length=_
  rw [List.length_append]
  rfl
 have top':∀v∈ts',v.2.length≤u.2.length+1:=fun v hv=>by
  rw [e] at hv
  rcases List.mem_append.mp hv with hv | hv
  ·exact B.top u hu v hv
  ·exact Nat.le_of_eq (lu v hv)
 refine ⟨fun v hv=> ?_,hnd B.nd,?_,by rw [e];exact List.mem_append_left _ B.z,fun i v hi hv w hw=> ?_,fun v hv x hx=> ?_⟩
 ·rw [e] at hv
  rcases List.mem_append.mp hv with hv | hv
  ·exact B.rn v hv
  ·obtain ⟨w,hw,rfl,hs⟩:=hus v hv
   refine ⟨by show uE r1 r2 (u.2++ [w])=_;rw [oO,ru],fun x hx=> ?_,hs,step_ok ku w hs⟩
   rcases List.mem_append.mp hx with hx | hx
   ·exact ou x hx
   ·rw [List.mem_singleton.mp hx];exact hw
 ·rw [e]
  refine List.pairwise_append.mpr ⟨B.mono,?_,fun a ha b hb=>by rw [lu b hb];exact B.top u hu a ha⟩
  exact List.pairwise_of_forall_mem_list fun a ha b hb=>by rw [lu a ha,lu b hb];exact Nat.le_refl _
 ·have hv0:=old hi hv
  rcases Nat.lt_or_ge i k with hik | hik
  ·obtain ⟨h1,v2,hv2,e2,l2⟩:=B.cl i v hik hv0 w hw
   exact ⟨h1,v2,by rw [e];exact List.mem_append_left _ hv2,e2,l2⟩
  ·have ei:i=k:=by omega
   rw [ei,hu] at hv0
   cases hv0
   obtain ⟨h1,h2⟩:=hal w hw
   obtain ⟨v2,hv2,e2⟩:=List.mem_map.mp h2
   exact ⟨h1,v2,hv2,e2,top' v2 hv2⟩
 ·have h1:=top' x hx
  rcases Nat.lt_or_ge (k+1) ts.length with hlt | hge
  ·rw [e,List.getElem?_append_left hlt] at hv
   have:=aAD (f:=fun a:RowC×List Wd=>a.2.length) B.mono hu hv (by omega)
   omega
  ·rw [e,List.getElem?_append_right hge] at hv
   have:=lu v (List.mem_of_getElem? hv)
   omega
theorem cmpW_ok (h1:∀rs∈r1,rs.length≤6) (h2:∀rs∈r2,rs.length≤6) (l1:r1.length≤2) (l2:r2.length≤2) (al:List Wd):∀(n k:Nat) (ts:List (RowC×List Wd)),n+k=28561→BI r1 r2 al k ts→
  (∀t,zR r1 r2 al n k ts= .inl t→Ov al t∧oG r1 r2 t=false∧∀t',Ov al t'→t'.length < t.length→oG r1 r2 t'=true)∧
  (∀ts',zR r1 r2 al n k ts= .inr ts'→(∀u∈ts',uE r1 r2 u.2=u.1∧Ov al u.2∧RowOk r1 r2 u.1)∧(ts'.map (·.1)).Nodup∧∀t,Ov al t→oG r1 r2 t=true∧uE r1 r2 t∈ts'.map (·.1))
 | n,k,ts,hnk,B=>by
  have hl:ts.length≤28561:=by
   have:=xY h1 h2 l1 l2 B.nd fun r hr=>by
    obtain ⟨u,hu,rfl⟩:=List.mem_map.mp hr
    exact (B.rn u hu).2.2.2
   rwa [List.length_map] at this
  have fin:ts.length≤k→(∀t,(Sum.inr ts:List Wd ⊕ List (RowC×List Wd))= .inl t→Ov al t∧oG r1 r2 t=false∧∀t',Ov al t'→t'.length < t.length→oG r1 r2 t'=true)∧
    (∀ts',(Sum.inr ts:List Wd ⊕ List (RowC×List Wd))= .inr ts'→(∀u∈ts',uE r1 r2 u.2=u.1∧Ov al u.2∧RowOk r1 r2 u.1)∧(ts'.map (·.1)).Nodup∧∀t,Ov al t→oG r1 r2 t=true∧uE r1 r2 t∈ts'.map (·.1)):=fun hk=>by
   refine ⟨(fun t h=>nomatch h),fun ts' h=> ?_⟩
   cases h
   refine ⟨fun u hu=>⟨(B.rn u hu).1,(B.rn u hu).2.1,(B.rn u hu).2.2.2⟩,B.nd,fun t ht=> ?_⟩
   obtain ⟨a,b⟩:=B.all hk t.length t rfl ht
   rw [vQ] at a
   exact ⟨a,b⟩
  cases n with
  | zero=>exact fin (by omega)
  | succ n=>
   unfold zR
   cases hu:ts[k]? with
   | none=>exact fin (List.getElem?_eq_none_iff.mp hu)
   | some u=>
    dsimp only
    cases hI:xN r1 r2 u.1 u.2 al ts with
    | inl t=>
     refine ⟨fun t' h=> ?_,(fun ts' h=>nomatch h)⟩
     cases h
     obtain ⟨w,hw,rfl,hs⟩:=(vY u.1 u.2 al ts).1 t hI
     obtain ⟨ru,ou,_,_⟩:=B.rn u (List.mem_of_getElem? hu)
     refine ⟨fun x hx=> ?_,?_,fun t' ht' hlt=> ?_⟩
     ·rcases List.mem_append.mp hx with hx | hx
      ·exact ou x hx
      ·rw [List.mem_singleton.mp hx];exact hw
     ·rw [←vQ,oO,ru]
      exact hs
     ·rw [List.length_append] at hlt
      have hlt:t'.length < u.2.length+1:=hlt
      rw [←vQ]
      exact (B.cover hu t'.length t' rfl (by omega) ht').1
    | inr ts'=>
     exact cmpW_ok h1 h2 l1 l2 al n (k+1) ts' (by omega) (B.next hu hI)
theorem iZ (h1:∀rs∈r1,rs.length≤6) (h2:∀rs∈r2,rs.length≤6) (l1:r1.length≤2) (l2:r2.length≤2) (vs:List Wd):
  (∀t,gD r1 r2 vs= .inl t→Ov (vs++ [frs vs]) t∧oG r1 r2 t=false∧∀t',Ov (vs++ [frs vs]) t'→t'.length < t.length→oG r1 r2 t'=true)∧
  (∀ts',gD r1 r2 vs= .inr ts'→(∀u∈ts',uE r1 r2 u.2=u.1∧Ov (vs++ [frs vs]) u.2∧RowOk r1 r2 u.1)∧(ts'.map (·.1)).Nodup∧∀t,Ov (vs++ [frs vs]) t→oG r1 r2 t=true∧uE r1 r2 t∈ts'.map (·.1)):=by
 refine cmpW_ok h1 h2 l1 l2 _ 28561 0 _ rfl ⟨fun u hu=> ?_,by simp,List.pairwise_singleton _ _,List.mem_cons_self,fun i u hi=>absurd hi (Nat.not_lt_zero _),fun u hu v hv=> ?_⟩
 ·rw [List.mem_singleton.mp hu]
  exact ⟨rfl,(fun w hw=>nomatch hw),(xZ r1 r2).same,xZ r1 r2⟩
 ·rw [List.mem_singleton.mp hv]
  exact Nat.zero_le _
end
end K
namespace K
open PySem PySem.Spec PyProof.Rows L2 DL
section
variable {P:Program} {w:World} {K:PySem.W.Frag} {mg:Str→Option Value} {base:Heap} {f:Addr} {fd:FuncData} {BK CH BT pT pF pL gT:Addr}
theorem thr_one (wh:Bool) (rs:Rl) (cs:List Cell):thr wh [(rs,[])] cs=([(rw2 wh rs cs).2.map hd0],(rw2 wh rs cs).1):=rfl
def Tx (BT:Addr) (L:Lp) (R:Value→List (Str×D)→Lp→Prop) (d:D) (good:List Wd→Prop):Prop:=(∃ws,d=dW ws∧(∀x∈ws,wdS x=true)∧ws.length≤100000∧good ws)∨(okE d=true∧txD d=false∧R (.ref BT) [("value",d)] L)
abbrev BtC (P:Program) (w:World) (K:PySem.W.Frag) (mg:Str→Option Value) (base:Heap) (BT:Addr):Prop:=Err1 P w K mg base "BadText" BT 1 ["value"]
def lZ (BK BT:Addr):SpA:=fun ds L Q R=> ∃(b:D) (rs:Rl) (d:D),ds= [b,d]∧Bk BK L b rs∧RuOk rs∧Tx BT L R d fun ws=>Q (dC (rw1 rs (one ws))) L
theorem ok_Book_call (F:Fun K "__call__" "Book.__call__" cD f fd) (hb:Binds K fd ["self","text"] []) (bc:BkC K BK pT) (bt:BtC P w K mg base BT) (d1:Def P w K mg base "is_text" 2 eV) (d2:Def P w K mg base "written" 5 mV):FnA P w K mg base 6 f (lZ BK BT):=by
 refine fnA F sc_Book___call__ hb (fun ds L Q R h=>by obtain ⟨_,_,_,rfl,_⟩:=h;rfl) fun cdv A outer s H E ds L Q R hr h=> ?_
 obtain ⟨b,rs,d,rfl,⟨t,hf,ht⟩,hR,⟨ws,rfl,hw,hz,q⟩ | ⟨hd,htx,q⟩⟩:=h
 ·have hl:=hR.len
  walk
  refine ⟨aAF ws,_,rfl,?_⟩
  rw [aAr hw]
  k_few
  walk
  refine xK ?_
  walk
  refine ⟨BK,pT,0,t,hf,bc.sc,bc.sl,?_⟩
  walk
  refine ⟨[(t,rs)],ws,rfl,⟨by show 1≤2;decide,fun p hp=> ?_⟩,hz,L,.refl L,?_⟩
  ·rw [show p=(t,rs,[]) from List.mem_singleton.mp hp]
   exact ⟨ht,hR.r2,by show rs.length≤1000;omega,Nat.zero_le _⟩
  ·show Q (dC (thr true [(rs,[])] (one ws)).2) L
   rw [thr_one,fY]
   exact q
 ·walk
  refine ⟨hd,_,rfl,?_⟩
  rw [htx]
  k_few
  exact aO (as_raise (am_err bt (hr.mono (by omega)) (aA 1 rfl q)))
def lK (CH BK BT:Addr):SpA:=fun ds L Q R=> ∃(x:D) (r1 r2:Rl) (d:D),ds= [x,d]∧Ch CH BK L x r1 r2∧RuOk r1∧RuOk r2∧Tx BT L R d fun ws=>Q (dC (rw1 r2 (rw1 r1 (one ws)))) L
theorem ok_Chain_call (F:Fun K "__call__" "Chain.__call__" bY f fd) (hb:Binds K fd ["self","text"] []) (cc:ChC K CH pF pL) (bt:BtC P w K mg base BT) (m1:Meth K CH "stages" gT) (f1:FnA P w K mg base 3 gT (eE CH BK)) (d1:Def P w K mg base "is_text" 2 eV) (d2:Def P w K mg base "written" 5 mV):FnA P w K mg base 6 f (lK CH BK BT):=by
 refine fnA F sc_Chain___call__ hb (fun ds L Q R h=>by obtain ⟨_,_,_,_,rfl,_⟩:=h;rfl) fun cdv A outer s H E ds L Q R hr h=> ?_
 obtain ⟨x,r1,r2,d,rfl,hc,k1,k2,⟨ws,rfl,hw,hz,q⟩ | ⟨hd,htx,q⟩⟩:=h
 ·walk
  refine ⟨aAF ws,_,rfl,?_⟩
  rw [aAr hw]
  k_few
  walk
  refine lU cc.sc m1 f1 (hr.mono (by omega)) ?_
  walk
  refine ⟨hc.h1.ins,x,r1,r2,rfl,hc,?_⟩
  walk
  refine ⟨[(.fdct (tbl r1),r1),(.fdct (tbl r2),r2)],ws,rfl,sg0_two k1 k2,hz,L,.refl L,?_⟩
  show Q (dC (rw2 true r2 (rw2 true r1 (one ws)).1).1) L
  rw [fY,fY]
  exact q
 ·walk
  refine ⟨hd,_,rfl,?_⟩
  rw [htx]
  k_few
  exact aO (as_raise (am_err bt (hr.mono (by omega)) (aA 1 rfl q)))
end
end K
namespace K
open PySem PySem.Spec PyProof.Rows L2 DL
def aA8 (CH BK:Addr) (x:D) (rss:List Rl):Prop:=(∃r,rss= [r]∧x=fBk BK r)∨∃r1 r2,rss= [r1,r2]∧x=fCh CH BK r1 r2
theorem aA8.len {CH BK:Addr} {x:D} {rss:List Rl} (h:aA8 CH BK x rss):1≤rss.length∧rss.length≤2:=by
 rcases h with ⟨r,rfl,_⟩ | ⟨r1,r2,rfl,_⟩
 ·exact ⟨Nat.le_refl _,by show 1≤2;decide⟩
 ·exact ⟨by show 1≤2;decide,Nat.le_refl _⟩
structure RwD (P:Program) (w:World) (K:PySem.W.Frag) (mg:Str→Option Value) (base:Heap) (BK CH BT pT pF pL gI gR gC gE gY:Addr):Prop where
 bc:BkC K BK pT
 cc:ChC K CH pF pL
 bi:SlX.SIsi K BK
 ci:SlX.SIsi K CH
 bt:ErX P w K mg base "BadText" BT 1 ["value"]
 nm:mg "Book"=some (.ref BK)
 nc:mg "Chain"=some (.ref CH)
 mkk:Mk K BK gI
 fi:FnA P w K mg base 8 gI (dF BK)
 sf:PySem.W.selfFirst K BK=true
 rs:PySem.W.findIn K (.ref BK) "__rshift__"=some (some (.ref gR))
 rf:PySem.W.isFn K (.ref gR)=true
 fr:FnA P w K mg base 13 gR (jO BK CH)
 cb:StX.CallO K BK gC
 fcb:FnA P w K mg base 6 gC (lZ BK BT)
 ch:StX.CallO K CH gE
 fch:FnA P w K mg base 6 gE (lK CH BK BT)
 my:Meth K BK "copy" gY
 fy:FnA P w K mg base 10 gY (jF BK)
 k1:PySem.W.kitOne K (.ref CH) (.ref BK)=some false
section
variable {C:DL.Ctx} {Γ:Gm} {L:Lp} {a b o e:Expr} {p pos apos:Pos} {Q:D→Lp→Prop} {BK CH BT pT pF pL gI gR gC gE gY:Addr} {x d:D} {rss:List Rl}
theorem wO (M:Mk C.X.K BK gI) (Fi:FnA C.X.prog C.X.w C.X.K C.X.mg C.X.base 8 gI (dF BK)) (hm:C.X.mg "Book"=some (.ref BK)) (hr:Room 9 C.X.A)
  (h:AE C e Γ L fun d L1=> ∃rs,d=dR rs∧RuOk rs∧Q (fBk BK rs) L1) (hg:Gl C.X "Book" :=by rfl) (he:starEach [e] C.X.env= [(false,eval e C.X.env)]:=by rfl):AE C (.Call (.Name "Book" p) [e] [] pos) Γ L Q:=
 AE.frz (ae_book M Fi hm hr (h.mono fun d L1 ⟨rs,ed,hR,q⟩=>⟨rs,ed,hR,fun t x n=>⟨_,_,n.frz,q⟩⟩) hg he)
variable (W:RwD C.X.prog C.X.w C.X.K C.X.mg C.X.base BK CH BT pT pF pL gI gR gC gE gY)
include W
theorem ae_rwCall (hr:Room 6 C.X.A) (hx:aA8 CH BK x rss) (hR:∀rs∈rss,RuOk rs) (ho:AV C o Γ L x)
  (h:AE C e Γ L fun d L2=>Tx BT L2 (C.R Γ) d fun ws=>Q (dC (aAf rss (one ws))) L2)
  (hst:starEach [e] C.X.env= [(false,eval e C.X.env)]:=by rfl)
  (ht:eval (.Call o [e] [] pos) C.X.env=(do callWith pos (←eval o C.X.env) [] (backTo pos (starEach [e] C.X.env)) (backToKw pos (keywordEach [] C.X.env))):=by rfl):AE C (.Call o [e] [] pos) Γ L Q:=by
 rcases hx with ⟨r,rfl,rfl⟩ | ⟨r1,r2,rfl,rfl⟩
 ·exact ae_callO W.cb W.fcb hr (ho _ ⟨⟨BK,.inr ⟨_,rfl⟩⟩,aC (h.mono fun d L2 q=>aD ⟨fBk.bk.ins,_,r,d,rfl,fBk.bk,hR r List.mem_cons_self,q⟩) hst⟩) ht hst rfl
 ·exact ae_callO W.ch W.fch hr (ho _ ⟨⟨CH,.inr ⟨_,rfl⟩⟩,aC (h.mono fun d L2 q=>aD ⟨fCh.ch.h1.ins,_,r1,r2,d,rfl,fCh.ch,hR r1 List.mem_cons_self,hR r2 (List.mem_cons_of_mem _ List.mem_cons_self),q⟩) hst⟩) ht hst rfl
end
section
variable {P:Program} {w:World} {K:PySem.W.Frag} {mg:Str→Option Value} {base:Heap} {f:Addr} {fd:FuncData} {BK CH BT pT pF pL gI gR gC gE gY:Addr}
def uO (CH BK:Addr):SpA:=fun ds L Q _=> ∃(rss:List Rl),ds= [.tup (rss.map dR)]∧1≤rss.length∧rss.length≤2∧(∀rs∈rss,RuOk rs)∧∀x,aA8 CH BK x rss→Q x L
theorem ok_side (F:Fun K "_law_side" "_law_side" fJ f fd) (hb:Binds K fd ["_law_side_here"] []) (B:Bl mg) (C1:RwD P w K mg base BK CH BT pT pF pL gI gR gC gE gY):FnA P w K mg base 14 f (uO CH BK):=by
 refine fnA F sc__law_side hb (fun ds L Q R h=>by obtain ⟨_,rfl,_⟩:=h;rfl) fun cdv A outer s H E ds L Q R hr h=> ?_
 obtain ⟨rss,rfl,h1,h2,hR,q⟩:=h
 match rss,h1,h2,hR,q with
 | [r],_,_,hR,q=>
  have k1:=hR r List.mem_cons_self
  refine aJ (aY 1 (wO C1.mkk C1.fi C1.nm (hr.mono (by omega)) ?_))
  walk
  refine ⟨k1,?_⟩
  walk
  rw [show decide (((List.length (List.map dR [r]):Nat):Int)=1)=true from rfl]
  k_few
  walk
  exact ⟨L,.refl L,q _ (.inl ⟨r,rfl,rfl⟩)⟩
 | [r1,r2],_,_,hR,q=>
  have k1:=hR r1 List.mem_cons_self
  have k2:=hR r2 (List.mem_cons_of_mem _ List.mem_cons_self)
  refine aJ (aY 1 (wO C1.mkk C1.fi C1.nm (hr.mono (by omega)) ?_))
  walk
  refine ⟨k1,?_⟩
  walk
  rw [show decide (((List.length (List.map dR [r1,r2]):Nat):Int)=1)=false from rfl]
  k_few
  refine ae_binJ ?_
  walk
  refine wO C1.mkk C1.fi C1.nm (hr.mono (by omega)) ?_
  walk
  refine ⟨k2,?_⟩
  refine j_binO C1.sf C1.rs C1.rf C1.fr (hr.mono (by omega)) fBk.bk.ins fBk.bk.ins ⟨_,_,r1,r2,rfl,fBk.bk,fBk.bk,k1.n,k2.n,?_⟩
  rw [srt_self k1.up,srt_self k2.up]
  exact ⟨L,.refl L,q _ (.inr ⟨r1,r2,rfl,rfl⟩)⟩
end
end K
namespace K
open PySem PySem.Spec PyProof.Rows L2 DL
theorem aBq {L:Lp} {p l:Addr} {mo2 X mo':MO} (hl:put L p mo2 l=none):Le (put L p mo') (put (put (put L p mo2) l X) p mo'):=by
 have:=oF (aU (o:=X) hl) p mo'
 rwa [cI] at this
theorem fresh_ne {L:Lp} {p l:Addr} {mo:MO} (hl:put L p mo l=none):l≠p:=fun e=>by
 rw [e,aF] at hl
 cases hl
theorem fresh_L {L:Lp} {p l:Addr} {mo:MO} (hl:put L p mo l=none):L l=none:=by
 rw [aK (fresh_ne hl)] at hl
 exact hl
theorem few_cl:∀k∈cl ("aaabyz" :Str),k∈abc:=by decide+kernel
section
variable {P:Program} {w:World} {K:PySem.W.Frag} {mg:Str→Option Value} {base:Heap} {f:Addr} {fd:FuncData}
def xR:SpA:=fun ds L Q _=> ∃(p:Addr) (mo:MO) (k:Nat),ds= [.ptr p]∧L p=some mo∧bZ k mo∧k≤50000∧∀x mo',wdS x=true→bZ (k+20) mo'→Q (.str x) (put L p mo')
theorem ok_word (F:Fun K "_law_word" "_law_word" fB f fd) (hb:Binds K fd ["_law_pot_here"] []) (B:Bl mg) (d1:Def P w K mg base "_law_take" 1 lF) (d2:Def P w K mg base "_law_of" 2 xU):FnA P w K mg base 3 f xR:=by
 refine fnA F sc__law_word hb (fun ds L Q R h=> ?_) fun cdv A outer s H E ds L Q R hr h=> ?_
 ·obtain ⟨_,_,_,rfl,_⟩:=h;rfl
 ·obtain ⟨p,mo,k,rfl,hp,hpot,hk,q⟩:=h
  refine aJ (tQ 1 2 (aC (aH d1 (hr.mono (by omega)) (aC (aA 0 rfl (aC (aG (aD ⟨p,mo,k,4,rfl,hp,hpot,by omega,by omega,by omega,fun j mo1 hj h1=>aC (bD op_add (aG (aH d1 (hr.mono (by omega)) (aC (aA 0 rfl (aC (aG (aD ⟨p,mo1,k+1,8,rfl,aF,h1,by omega,by omega,by omega,fun i mo2 hi h2=>sU (aD ⟨_,_,rfl,?_⟩)⟩))))))))⟩))))))))
  rw [cI]
  have q1:∀x mo',wdS x=true→bZ (k+20) mo'→Q (.str x) (put (put L p mo2) p mo'):=fun x mo' h h'=>by rw [cI];exact q x mo' h h'
  generalize hL1:put L p mo2=L1 at q1
  have hp1:L1 p=some mo2:=by rw [←hL1];exact aF
  have h2:bZ (k+2) mo2:=h2
  clear hL1 q
  have one:∀d,d∈cV ("abcdefghijklmnopqrstuvwxyz" :Str)→∃c,c∈abc∧d= .str (sgn c):=fun d hd=>by
   obtain ⟨c,h1,h2⟩:=DL.signs_mem hd
   exact ⟨c,h1,h2⟩
  refine aJ (cX (eU op_lt rfl (aA 1 rfl (aG (aBM ⟨_,rfl,fun hw=>aO (aX (aH d2 (hr.mono (by omega)) (aC (aA 0 rfl (aC (aR (qM rfl) B.list (aC (lA (aD (yO fun l hl=>aD ⟨p,l,mo2,k+2,_,rfl,by rw [aK (aQ hp1 hl)];exact hp1,h2,by omega,aF,(aQ hp1 hl).symm,by decide+kernel,by decide+kernel,fun d mo' hd hm=> ?_⟩)))))))))),fun hw=>bO ?_⟩)))))
  ·obtain ⟨c,hc,rfl⟩:=one d hd
   exact ⟨put L1 p mo',oF (aU hl) p mo',q1 _ _ (wW (by show 1≤1;decide) (by show 1≤8;decide) (qO fun z hz=>by rw [List.mem_singleton.mp hz];exact hc)) (hm.mono (by omega))⟩
  ·refine aJ (cX (eU op_eq rfl (aA 1 rfl (aG (aBf ⟨_,rfl,fun hw=>aO (aX (bD op_mulS (aH d2 (hr.mono (by omega)) (aC (aA 0 rfl (aC (aR (qM rfl) B.list (aC (lA (aD (yO fun l hl=>aD ⟨p,l,mo2,k+2,_,rfl,by rw [aK (aQ hp1 hl)];exact hp1,h2,by omega,aF,(aQ hp1 hl).symm,by decide+kernel,by decide+kernel,fun d mo' hd hm=> ?_⟩))))))))))),fun hw=>bO ?_⟩)))))
   ·obtain ⟨c,hc,rfl⟩:=DL.signs_mem hd
    have hc:=few_cl c hc
    have en:((1:Int)+(i:Int)).toNat=i+1:=by omega
    refine aA 2 rfl (r_mulS (by omega) (by omega) (by rw [en];show 1*(i+1)≤_;omega) ⟨put L1 p mo',oF (aU hl) p mo',q1 _ _ ?_ (hm.mono (by omega))⟩)
    have ec:cl (yC (sgn c) ((1:Int)+(i:Int)).toNat)=List.replicate (i+1) c:=by
     rw [cl_rep,en,cl_sgn]
     induction (i+1) with
     | zero=>rfl
     | succ n ih=>rw [List.replicate_succ,List.flatten_cons,ih,List.replicate_succ];rfl
    refine wW ?_ ?_ ?_ <;> rw [ec]
    ·rw [List.length_replicate];omega
    ·rw [List.length_replicate];omega
    ·exact qO fun z hz=>by rw [List.eq_of_mem_replicate hz];exact hc
   ·refine aO (aX (ae_join (lA ⟨_,rfl,yP [("_law_lap",3)] (fZ B.range (aA 2 rfl ⟨_,rfl,by omega,by omega,?_⟩))⟩)))
    have en:((1:Int)+(i:Int)).toNat=i+1:=by omega
    rw [en]
    refine ⟨fun t acc L2=> ∃ks mo,acc=(ks.map sgn).map D.str∧ks.length=t∧(∀c∈ks,c∈abc)∧L2=put L1 p mo∧bZ (k+2+t) mo,⟨[],mo2,rfl,rfl,(fun c hc=>nomatch hc),(put_self hp1).symm,h2⟩,fun _ _ _ _=>trivial,?_,?_⟩
    ·rintro t d acc L2 hd ⟨ks,mo,rfl,hks,hc,rfl,hm⟩
     have ht:=(fQ hd).1
     refine ⟨_,_,fun j hj=>hj,fun s H Cc cl fp=>⟨aM 3,jA ⟨fun _ s H Cc cl fp=> ?_,(fun z=>nomatch z)⟩⟩⟩
     refine AE.drop (aH d2 (hr.mono (by omega)) (aC (aA 0 rfl (aC (aR (qM rfl) B.list (aC (lA (aD (yO fun l hl=>aD ⟨p,l,mo,k+2+t,_,rfl,by rw [aK (fresh_ne hl).symm];exact aF,hm,by omega,aF,fresh_ne hl,by decide+kernel,by decide+kernel,fun d mo' hd hm'=> ?_⟩)))))))))
     obtain ⟨c,hc1,rfl⟩:=one d hd
     refine ⟨put L1 p mo',aBq hl,by rw [List.length_map,List.length_map,bU];omega,ks++ [c],mo',by rw [List.map_append,List.map_append];rfl,by rw [List.length_append,hks];rfl,fun z hz=> ?_,rfl,hm'.mono (by omega)⟩
     rcases List.mem_append.mp hz with z1 | z1
     ·exact hc z z1
     ·rw [List.mem_singleton.mp z1];exact hc1
    ·rintro acc L2 ⟨ks,mo,rfl,hks,hc,rfl,hm⟩ l hl
     rw [cO] at hks hm
     refine ⟨l,ks.map sgn,rfl,aF,by rw [sum_sgn,hks];show i+1+_*0≤_;omega,put L1 p mo,aU hl,q1 _ _ ?_ (hm.mono (by omega))⟩
     refine wW ?_ ?_ ?_
     ·rw [show cl (Txt.join ("" :Str) (ks.map sgn))=ks from yN ks];omega
     ·rw [show cl (Txt.join ("" :Str) (ks.map sgn))=ks from yN ks];omega
     ·rw [show cl (Txt.join ("" :Str) (ks.map sgn))=ks from yN ks]
      exact qO hc
end
end K
namespace K
open PySem PySem.Spec PyProof.Rows L2 DL
section
variable {P:Program} {w:World} {K:PySem.W.Frag} {mg:Str→Option Value} {base:Heap} {f:Addr} {fd:FuncData}
def uQ:SpA:=fun ds L Q _=> ∃(p:Addr) (mo:MO) (k m:Nat),ds= [.ptr p,.int m]∧L p=some mo∧bZ k mo∧k≤40000∧1≤m∧m≤20∧
 ∀(nl:Addr) (ys:List Str) (mo':MO),L nl=none→nl≠p→ys.length=m→(∀y∈ys,wdS y=true)→bZ (k+500) mo'→Q (.ptr nl) (St2 L p mo' nl (.lst (ys.map .str)))
theorem ok_names (F:Fun K "_law_names" "_law_names" dO f fd) (hb:Binds K fd ["_law_pot_here","_law_many"] []) (B:Bl mg) (d1:Def P w K mg base "_law_take" 1 lF) (d2:Def P w K mg base "_law_word" 3 xR):FnA P w K mg base 4 f uQ:=by
 refine fnA F sc__law_names hb (fun ds L Q R h=> ?_) fun cdv A outer s H E ds L Q R hr h=> ?_
 ·obtain ⟨_,_,_,_,rfl,_⟩:=h;rfl
 ·obtain ⟨p,mo,k,m,rfl,hp,hpot,hk,hm1,hm2,q⟩:=h
  refine gG (fun Γ' L'=> ∃st fl mo2,(cl st).length≤7∧aBC (cl st)=true∧L fl=none∧fl≠p∧bZ (k+21) mo2∧L'=St2 L p mo2 fl (.lst (([]:List Str).map .str))∧Γ'= [some (.ptr p),some (.int m),some (.str st),some (.ptr fl),none,none,none,none]) ?_ ?_
  ·refine pH (bM (aC (AE.drop (bJ ix_list (jH (aC (iI sl_str (aH d2 (hr.mono (by omega)) (aC (aA 0 rfl (aD ⟨p,mo,k,rfl,hp,hpot,by omega,fun x mo1 hx h1=>lQ (lO (aG ⟨7,rfl,aAW (aC (lA (aD ⟨by show 2≤sizeLine;decide,fun l hl=> ?_⟩)))⟩))⟩)))))))))))
   refine aH d1 (hr.mono (by omega)) (aC (aA 0 rfl (aC (aG (aD ⟨p,mo1,k+20,2,rfl,by rw [aK (fresh_ne hl).symm];exact aF,h1,by omega,by omega,by omega,fun j mo2 hj h2=> ?_⟩)))))
   have h2:bZ (k+21) mo2:=h2
   have hx2:=wdS_iff hx
   have e7:cl (cutS x none (some 7))=(cl x).take 7:=(xH x none (some 7)).trans (zQ (cl x) 7)
   have hl2:∀X,put (put (put L p mo1) l X) p mo2 l=some X:=fun X=>by rw [aK (fresh_ne hl)];exact aF
   match j,hj with
   | 0,_=>
    refine oV (hl2 _) rfl ⟨put L p mo2,aBq hl,aC (jH (aD ⟨Nat.zero_le _,fun fl hfl=>aD ⟨by show 2≤sizeLine;decide,_,_,kZ (aV (aM 2) (aV (aM 3) fV)),cutS x none (some 7),fl,mo2,?_,?_,fresh_L hfl,fresh_ne hfl,h2,rfl,rfl⟩⟩))⟩
    ·rw [e7,List.length_take];omega
    ·rw [e7];exact qO fun c hc=>rN hx2.2.2 c (List.mem_of_mem_take hc)
   | 1,_=>exact oV (hl2 _) rfl ⟨put L p mo2,aBq hl,aC (jH (aD ⟨Nat.zero_le _,fun fl hfl=>aD ⟨by show 2≤sizeLine;decide,_,_,kZ (aV (aM 2) (aV (aM 3) fV)),Str.empty,fl,mo2,by decide,by decide,fresh_L hfl,fresh_ne hfl,h2,rfl,rfl⟩⟩))⟩
  ·rintro Γ' L' ⟨st,fl,mo2,hs1,hs2,hfl,hne,h2,rfl,rfl⟩
   refine gG (fun Γ' L'=> ∃(sp:Nat) (mo3:MO),sp≤(cl st).length∧bZ (k+22) mo3∧L'=St2 L p mo3 fl (.lst (([]:List Str).map .str))∧Γ'= [some (.ptr p),some (.int m),some (.str st),some (.ptr fl),some (.int sp),none,none,none]) ?_ ?_
   ·refine aY 4 (aH d1 (hr.mono (by omega)) (aC (aA 0 rfl (aC (bD op_add (aP call_len_str B.len (aC (aA 2 rfl (aD (aAP (aG (sU (aD ⟨p,mo2,k+21,(cl st).length+1,by rw [zU];rfl,St2.p hne,h2,by omega,by omega,by omega,fun j mo3 hj h3=>⟨j,mo3,by omega,h3,St2.putP hne,rfl⟩⟩)))))))))))))
   ·rintro Γ' L' ⟨sp,mo3,hsp,h3,rfl,rfl⟩
    refine aJ (tR (fZ B.range (aA 1 rfl ⟨_,rfl,by omega,by omega,?_⟩)))
    rw [show ((m:Int)).toNat=m by omega]
    refine ⟨fun i Γ2 L2=> ∃(ys:List Str) (mo4:MO) (a b c:Option D),ys.length=i∧(∀y∈ys,wdS y=true)∧bZ (k+22+20*i) mo4∧L2=St2 L p mo4 fl (.lst (ys.map .str))∧Γ2= [some (.ptr p),some (.int m),some (.str st),some (.ptr fl),some (.int sp),a,b,c],⟨[],mo3,none,none,none,rfl,(fun y hy=>nomatch hy),h3,rfl,rfl⟩,fun _ _ _ _=>trivial,?_,?_⟩
    ·rintro i d Γ2 L2 hd ⟨ys,mo4,a,b,c,hys,hw,h4,rfl,rfl⟩
     have hi:=(fQ hd).1
     refine ⟨_,_,aM 5,?_⟩
     refine aJ (aY 6 (aH d2 (hr.mono (by omega)) (aC (aA 0 rfl (aD ⟨p,mo4,k+22+20*i,rfl,St2.p hne,h4,by omega,fun x mo5 hx h5=> ?_⟩)))))
     rw [St2.putP hne]
     have hx2:=wdS_iff hx
     refine gG (fun Γ' L'=> ∃y,wdS y=true∧L'=St2 L p mo5 fl (.lst (ys.map .str))∧Γ'= [some (.ptr p),some (.int m),some (.str st),some (.ptr fl),some (.int sp),some d,some (.str y),c]) ?_ ?_
     ·refine cX (eU op_ne rfl (aA 2 rfl (lA (r_neS ⟨_,rfl,fun hz=> ?_,fun hz=>bO ⟨x,hx,rfl,rfl⟩⟩))))
      obtain ⟨c0,r0,hc0⟩:∃c0 r0,cl x=c0::r0:=by
       cases e:cl x with
       | nil=>rw [e] at hx2;exact absurd hx2.1 (by decide)
       | cons c0 r0=>exact ⟨c0,r0,rfl⟩
      have hat:atI x.cps.toList 0=some c0:=by
       have:atI (cl x) ((0:Nat):Int)=some c0:=atI_nat (by rw [hc0];rfl)
       exact this
      have l1:(cutS st none (some (sp:Int))).length=sp:=by rw [←zU,xH,zQ,List.length_take];omega
      have l2:(cutS st (some (sp:Int)) none).length=(cl st).length - sp:=by rw [←zU,xH,lL,List.length_drop]
      refine aO (aY 6 (bD op_add_str (bD op_add_str (iI sl_str (aA 2 rfl (lQ (lO (aA 4 rfl ⟨_,rfl,aAW (bJ ix_str (aA 6 rfl (aG (r_ixS hat (aAy ?_ (iI sl_str (aA 2 rfl (lO (aA 4 rfl ⟨_,rfl,lQ (aAW (aAy ?_ ⟨_,?_,rfl,rfl⟩))⟩)))))))))⟩))))))))
      ·rw [l1,bU];show sp+1≤_;omega
      ·rw [lC,l1,l2,bU];show sp+1+_≤_;omega
      ·have ec:cl (cutS st none (some (sp:Int))++ ⟨#[c0]⟩++cutS st (some (sp:Int)) none)=(cl st).take sp++ [c0]++(cl st).drop sp:=by
        rw [cl_app,cl_app,xH,xH,zQ,lL]
       have hc0':c0∈abc:=rN hx2.2.2 c0 (by rw [hc0];exact List.mem_cons_self)
       refine wW ?_ ?_ ?_ <;> rw [ec]
       ·rw [List.length_append,List.length_append,List.length_singleton];omega
       ·rw [List.length_append,List.length_append,List.length_singleton,List.length_take,List.length_drop];omega
       ·refine qO fun z hz=> ?_
        rcases List.mem_append.mp hz with hz | hz
        ·rcases List.mem_append.mp hz with hz | hz
         ·exact rN hs2 z (List.mem_of_mem_take hz)
         ·rw [List.mem_singleton.mp hz];exact hc0'
        ·exact rN hs2 z (List.mem_of_mem_drop hz)
     ·rintro Γ' L' ⟨y,hy,rfl,rfl⟩
      refine gG (fun Γ' L'=> ∃y e,wdS y=true∧L'=St2 L p mo5 fl (.lst (ys.map .str))∧Γ'= [some (.ptr p),some (.int m),some (.str st),some (.ptr fl),some (.int sp),some d,some (.str y),e]) ?_ ?_
      ·refine cX (eU op_in_seq rfl (aA 6 rfl (aA 3 rfl (r_inL St2.n ⟨_,rfl,fun hz=> ?_,fun hz=>bO ⟨y,c,hy,rfl,rfl⟩⟩))))
       refine aO (aY 6 (AE.drop (bJ ix_list (yP [("_law_one",7)] (ai_str (lA ⟨_,rfl,fun hso=> ?_⟩))))))
       obtain ⟨k0,r0,he,hk0⟩:=abc_ne ys (by omega)
       refine ⟨fun t acc L2=>L2=St2 L p mo5 fl (.lst (ys.map .str))∧acc=(((abc.map sgn).take t).filter fun x=> !decide (x∈ys)).map D.str,⟨rfl,rfl⟩,fun _ _ _ _=>trivial,?_,?_⟩
       ·rintro t d2 acc L2 hd2 ⟨rfl,rfl⟩
        obtain ⟨kt,hkt,rfl⟩:=signs_get hd2
        have hkt:abc[t]? =some kt:=hkt
        have htk:(abc.map sgn).take (t+1)=(abc.map sgn).take t++ [sgn kt]:=by
         rw [List.take_add_one,List.getElem?_map,hkt]
         rfl
        refine ⟨_,_,fun j hj=>hj,fun s H Cc cl fp=>⟨aM 7,ats_one (eU op_notIn_seq rfl (aA 7 rfl (aA 3 rfl (r_notInL St2.n ⟨_,rfl,fun hn s H Cc cl fp=>aA 7 rfl ⟨?_,rfl,?_⟩,fun hn=>⟨rfl,?_⟩⟩))))⟩⟩
        ·rw [List.length_map]
         refine Nat.lt_of_le_of_lt (List.length_filter_le _ _) ?_
         rw [List.length_take,List.length_map,abc_len,bU]
         omega
        ·rw [htk,List.filter_append,List.map_append,List.filter_cons_of_pos (by exact hn)]
         rfl
        ·rw [htk,List.filter_append,List.filter_cons_of_neg (by rw [hn];decide),List.filter_nil,List.append_nil]
       ·rintro acc L2 ⟨rfl,rfl⟩ l hl
        have et:(abc.map sgn).take (cV ("abcdefghijklmnopqrstuvwxyz" :Str)).length=abc.map sgn:=List.take_of_length_le (by rw [List.length_map];exact Nat.le_of_eq (List.length_map ..).symm)
        rw [et,he]
        refine aG (oV aF (show atI (List.map D.str (sgn k0::r0)) ((0:Nat):Int)=some (.str (sgn k0)) from atI_nat rfl) ⟨_,aU hl,sgn k0,c,?_,rfl,rfl⟩)
        exact wW (by show 1≤1;decide) (by show 1≤8;decide) (qO fun z hz=>by rw [List.mem_singleton.mp hz];exact hk0)
      ·rintro Γ' L' ⟨y,e,hy,rfl,rfl⟩
       refine aO (wG (pK (aA 3 rfl ⟨fl,_,rfl,St2.n,aA 6 rfl ⟨_,St2.n,by rw [List.length_map,bU];omega,ys++ [y],mo5,some d,some (.str y),e,by rw [List.length_append,hys];rfl,fun z hz=> ?_,h5.mono (by omega),?_,rfl⟩⟩)))
       ·rcases List.mem_append.mp hz with z1 | z1
        ·exact hw z z1
        ·rw [List.mem_singleton.mp z1];exact hy
       ·rw [St2.putN,List.map_append]
        rfl
    ·rintro Γ2 L2 ⟨ys,mo4,a,b,c,hys,hw,h4,rfl,rfl⟩
     rw [cO] at hys h4
     exact aO (aX (aA 3 rfl ⟨_,.refl _,q fl ys mo4 hfl hne hys hw (h4.mono (by omega))⟩))
end
end K
namespace K
open PySem PySem.Spec PyProof.Rows L2 DL
structure NmOk (L:Lp) (p nl:Addr) (ys:List Str):Prop where
 at_:L nl=some (.lst (ys.map .str))
 ne:nl≠p
 lo:1≤ys.length
 hi:ys.length≤1000
 wd:∀y∈ys,wdS y=true
theorem NmOk.put {L:Lp} {p nl:Addr} {ys:List Str} (h:NmOk L p nl ys) (mo:MO):NmOk (DL.put L p mo) p nl ys:=⟨by rw [aK h.ne];exact h.at_,h.ne,h.lo,h.hi,h.wd⟩
theorem NmOk.new {L:Lp} {p nl:Addr} {ys:List Str} (h:NmOk L p nl ys) {l:Addr} (hl:L l=none) (x:MO):NmOk (DL.put L l x) p nl ys:=⟨by rw [aK (aQ h.at_ hl)];exact h.at_,h.ne,h.lo,h.hi,h.wd⟩
theorem vL {ys:List Str} {d:D} (h:d∈ys.map D.str):∃x,x∈ys∧d= .str x:=by
 obtain ⟨x,hx,rfl⟩:=List.mem_map.mp h
 exact ⟨x,hx,rfl⟩
section
variable {P:Program} {w:World} {K:PySem.W.Frag} {mg:Str→Option Value} {base:Heap} {f:Addr} {fd:FuncData}
def WIn (rs:Rl) (ys:List Str):Prop:= ∀r∈rs,(∀x∈r.1,x∈ys)∧∀z∈r.2,∀x∈z,x∈ys
def xV:SpA:=fun ds L Q _=> ∃(p nl:Addr) (mo:MO) (k:Nat) (ys:List Str),ds= [.ptr p,.ptr nl]∧L p=some mo∧bZ k mo∧k≤40000∧NmOk L p nl ys∧∀(zs:List Wd) mo',ceD (dW zs)=true→(∀z∈zs,z∈ys)→bZ (k+10) mo'→Q (dW zs) (put L p mo')
theorem ok_cell (F:Fun K "_law_cell" "_law_cell" fL f fd) (hb:Binds K fd ["_law_pot_here","_law_names_here"] []) (B:Bl mg) (d1:Def P w K mg base "_law_of" 2 xU):FnA P w K mg base 3 f xV:=by
 refine fnA F sc__law_cell hb (fun ds L Q R h=> ?_) fun cdv A outer s H E ds L Q R hr h=> ?_
 ·obtain ⟨_,_,_,_,_,rfl,_⟩:=h;rfl
 ·obtain ⟨p,nl,mo,k,ys,rfl,hp,hpot,hk,hn,q⟩:=h
  refine aJ (wF 2 [("_law_lap",3)] (fZ B.range (AE.drop (aH d1 (hr.mono (by omega)) (aC (aA 0 rfl (aC (jH (aC (aG (aC (aG (aC (aG (aC (aG (aD ⟨by show 4≤sizeLine;decide,fun l hl=>aD ⟨p,l,mo,k,_,rfl,by rw [aK (aQ hp hl)];exact hp,hpot,by omega,aF,(aQ hp hl).symm,by show 0 < 4;decide,by show 4≤1000000;decide,fun d mo1 hd h1=> ?_⟩⟩)))))))))))))))))
  obtain ⟨n,hn3,rfl⟩:∃n:Nat,n≤3∧d= .int (n:Int):=by
   simp only [List.mem_cons,List.not_mem_nil,or_false] at hd
   rcases hd with rfl | rfl | rfl | rfl
   ·exact ⟨1,by decide,rfl⟩
   ·exact ⟨2,by decide,rfl⟩
   ·exact ⟨3,by decide,rfl⟩
   ·exact ⟨0,by decide,rfl⟩
  refine ⟨put L p mo1,oF (aU hl) p mo1,_,rfl,by omega,by omega,?_⟩
  rw [show ((n:Int)).toNat=n by omega]
  refine ⟨fun t acc L2=> ∃(xs:List Str) (mo2:MO),acc=xs.map D.str∧xs.length=t∧(∀x∈xs,x∈ys)∧L2=put L p mo2∧bZ (k+1+t) mo2,⟨[],mo1,rfl,rfl,(fun x hx=>nomatch hx),rfl,h1⟩,fun _ _ _ _=>trivial,?_,?_⟩
  ·rintro t d acc L2 hd ⟨xs,mo2,rfl,hxs,hx,rfl,h2⟩
   have ht:=(fQ hd).1
   refine ⟨_,_,fun j hj=>hj,fun s H Cc cl fp=>⟨aM 3,jA ⟨fun _ s H Cc cl fp=> ?_,(fun z=>nomatch z)⟩⟩⟩
   refine aH d1 (hr.mono (by omega)) (aC (aA 0 rfl (aC (aA 1 rfl (aD ⟨p,nl,mo2,k+1+t,_,rfl,aF,h2,by omega,(hn.put mo2).at_,hn.ne,by rw [List.length_map];exact hn.lo,by rw [List.length_map];exact Nat.le_trans hn.hi (by decide),fun d mo3 hd h3=> ?_⟩)))))
   obtain ⟨x,hxy,rfl⟩:=vL hd
   rw [cI]
   refine ⟨by rw [List.length_map,bU];omega,xs++ [x],mo3,by rw [List.map_append];rfl,by rw [List.length_append,hxs];rfl,fun z hz=> ?_,rfl,h3.mono (by omega)⟩
   rcases List.mem_append.mp hz with z1 | z1
   ·exact hx z z1
   ·rw [List.mem_singleton.mp z1];exact hxy
  ·rintro acc L2 ⟨xs,mo2,rfl,hxs,hx,rfl,h2⟩ sl hsl
   rw [cO] at hxs h2
   refine aO (aX (aR call_tuple_of B.tuple (aC (aP (rH rfl (yV hr)) B.sorted (aC (aR (cr_setX rfl) B.set (aC (aA 2 rfl (aD (c_setX aF (by rw [hxs];show n+1 < scanBound;unfold scanBound;omega) fun l1 m1 hl1 hm1=>aD (vZ aF (by rw [bU];omega) fun l2 zs hl2 hrise hmem hlen=>aD (mJ aF ⟨put L p mo2,(aU hsl).trans ((aU hl1).trans (aU hl2)),q zs mo2 ?_ (fun z hz=>hx z (of_decide_eq_true ((hmem z).1 hz))) (h2.mono (by omega))⟩))))))))))))
   have hz:∀z∈zs,wdS z=true:=fun z hz=>hn.wd z (hx z (of_decide_eq_true ((hmem z).1 hz)))
   rw [zV,List.all_eq_true.mpr hz,decide_eq_true (by omega:zs.length≤3),adj_rise hrise]
   rfl
def qX:SpA:=fun ds L Q _=> ∃(p nl:Addr) (mo:MO) (k:Nat) (ys:List Str),ds= [.ptr p,.ptr nl]∧L p=some mo∧bZ k mo∧k≤30000∧NmOk L p nl ys∧∀(zs:List Cell) mo',csD (dC zs)=true→(∀z∈zs,∀x∈z,x∈ys)→bZ (k+30) mo'→Q (dC zs) (put L p mo')
theorem ok_cells (F:Fun K "_law_cells" "_law_cells" dX f fd) (hb:Binds K fd ["_law_pot_here","_law_names_here"] []) (B:Bl mg) (d1:Def P w K mg base "_law_of" 2 xU) (d2:Def P w K mg base "_law_cell" 3 xV):FnA P w K mg base 4 f qX:=by
 refine fnA F sc__law_cells hb (fun ds L Q R h=> ?_) fun cdv A outer s H E ds L Q R hr h=> ?_
 ·obtain ⟨_,_,_,_,_,rfl,_⟩:=h;rfl
 ·obtain ⟨p,nl,mo,k,ys,rfl,hp,hpot,hk,hn,q⟩:=h
  refine aO (aX (aR call_tuple_of B.tuple (aC (yP [("_law_lap",2)] (fZ B.range (AE.drop (aH d1 (hr.mono (by omega)) (aC (aA 0 rfl (aC (jH (aC (aG (aC (aG (aC (aG (aC (aG (aD ⟨by show 4≤sizeLine;decide,fun l hl=>aD ⟨p,l,mo,k,_,rfl,by rw [aK (aQ hp hl)];exact hp,hpot,by omega,aF,(aQ hp hl).symm,by show 0 < 4;decide,by show 4≤1000000;decide,fun d mo1 hd h1=> ?_⟩⟩))))))))))))))))))))
  obtain ⟨n,hn3,rfl⟩:∃n:Nat,n≤2∧d= .int (n:Int):=by
   simp only [List.mem_cons,List.not_mem_nil,or_false] at hd
   rcases hd with rfl | rfl | rfl | rfl
   ·exact ⟨1,by decide,rfl⟩
   ·exact ⟨2,by decide,rfl⟩
   ·exact ⟨0,by decide,rfl⟩
   ·exact ⟨1,by decide,rfl⟩
  refine ⟨put L p mo1,oF (aU hl) p mo1,_,rfl,by omega,by omega,?_⟩
  rw [show ((n:Int)).toNat=n by omega]
  refine ⟨fun t acc L2=> ∃(xs:List Cell) (mo2:MO),acc=xs.map dW∧xs.length=t∧(∀x∈xs,ceD (dW x)=true∧∀y∈x,y∈ys)∧L2=put L p mo2∧bZ (k+1+10*t) mo2,⟨[],mo1,rfl,rfl,(fun x hx=>nomatch hx),rfl,h1⟩,fun _ _ _ _=>trivial,?_,?_⟩
  ·rintro t d acc L2 hd ⟨xs,mo2,rfl,hxs,hx,rfl,h2⟩
   have ht:=(fQ hd).1
   refine ⟨_,_,fun j hj=>hj,fun s H Cc cl fp=>⟨aM 2,jA ⟨fun _ s H Cc cl fp=> ?_,(fun z=>nomatch z)⟩⟩⟩
   refine aH d2 (hr.mono (by omega)) (aC (aA 0 rfl (aC (aA 1 rfl (aD ⟨p,nl,mo2,k+1+10*t,ys,rfl,aF,h2,by omega,hn.put mo2,fun zs mo3 hz hzi h3=> ?_⟩)))))
   rw [cI]
   refine ⟨by rw [List.length_map,bU];omega,xs++ [zs],mo3,by rw [List.map_append];rfl,by rw [List.length_append,hxs];rfl,fun z hzz=> ?_,rfl,h3.mono (by omega)⟩
   rcases List.mem_append.mp hzz with z1 | z1
   ·exact hx z z1
   ·rw [List.mem_singleton.mp z1];exact ⟨hz,hzi⟩
  ·rintro acc L2 ⟨xs,mo2,rfl,hxs,hx,rfl,h2⟩ sl hsl
   rw [cO] at hxs h2
   refine aD (mJ aF ⟨put L p mo2,aU hsl,q xs mo2 ?_ (fun z hz=>(hx z hz).2) (h2.mono (by omega))⟩)
   show (decide ((xs.map dW).length≤2) && (xs.map dW).all ceD)=true
   rw [List.length_map,hxs,decide_eq_true hn3,List.all_map,Bool.true_and,List.all_eq_true]
   exact fun x hxx=>(hx x hxx).1
def yZ:SpA:=fun ds L Q _=> ∃(p nl:Addr) (mo:MO) (k:Nat) (ys:List Str),ds= [.ptr p,.ptr nl]∧L p=some mo∧bZ k mo∧k≤30000∧NmOk L p nl ys∧∀(zs:List Wd) mo',kyD (dW zs)=true→(∀x∈zs,x∈ys)→bZ (k+10) mo'→Q (dW zs) (put L p mo')
theorem ok_key (F:Fun K "_law_key" "_law_key" iW f fd) (hb:Binds K fd ["_law_pot_here","_law_names_here"] []) (B:Bl mg) (d1:Def P w K mg base "_law_of" 2 xU):FnA P w K mg base 3 f yZ:=by
 refine fnA F sc__law_key hb (fun ds L Q R h=> ?_) fun cdv A outer s H E ds L Q R hr h=> ?_
 ·obtain ⟨_,_,_,_,_,rfl,_⟩:=h;rfl
 ·obtain ⟨p,nl,mo,k,ys,rfl,hp,hpot,hk,hn,q⟩:=h
  refine aO (aX (aR call_tuple_of B.tuple (aC (yP [("_law_lap",2)] (fZ B.range (AE.drop (aH d1 (hr.mono (by omega)) (aC (aA 0 rfl (aC (jH (aC (aG (aC (aG (aC (aG (aC (aG (aC (aG (aD ⟨by show 5≤sizeLine;decide,fun l hl=>aD ⟨p,l,mo,k,_,rfl,by rw [aK (aQ hp hl)];exact hp,hpot,by omega,aF,(aQ hp hl).symm,by show 0 < 5;decide,by show 5≤1000000;decide,fun d mo1 hd h1=> ?_⟩⟩))))))))))))))))))))))
  obtain ⟨n,hn1,hn3,rfl⟩:∃n:Nat,1≤n∧n≤3∧d= .int (n:Int):=by
   simp only [List.mem_cons,List.not_mem_nil,or_false] at hd
   rcases hd with rfl | rfl | rfl | rfl | rfl
   ·exact ⟨1,by decide,by decide,rfl⟩
   ·exact ⟨2,by decide,by decide,rfl⟩
   ·exact ⟨1,by decide,by decide,rfl⟩
   ·exact ⟨3,by decide,by decide,rfl⟩
   ·exact ⟨2,by decide,by decide,rfl⟩
  refine ⟨put L p mo1,oF (aU hl) p mo1,_,rfl,by omega,by omega,?_⟩
  rw [show ((n:Int)).toNat=n by omega]
  refine ⟨fun t acc L2=> ∃(xs:List Str) (mo2:MO),acc=xs.map D.str∧xs.length=t∧(∀x∈xs,x∈ys)∧L2=put L p mo2∧bZ (k+1+t) mo2,⟨[],mo1,rfl,rfl,(fun x hx=>nomatch hx),rfl,h1⟩,fun _ _ _ _=>trivial,?_,?_⟩
  ·rintro t d acc L2 hd ⟨xs,mo2,rfl,hxs,hx,rfl,h2⟩
   have ht:=(fQ hd).1
   refine ⟨_,_,fun j hj=>hj,fun s H Cc cl fp=>⟨aM 2,jA ⟨fun _ s H Cc cl fp=> ?_,(fun z=>nomatch z)⟩⟩⟩
   refine aH d1 (hr.mono (by omega)) (aC (aA 0 rfl (aC (aA 1 rfl (aD ⟨p,nl,mo2,k+1+t,_,rfl,aF,h2,by omega,(hn.put mo2).at_,hn.ne,by rw [List.length_map];exact hn.lo,by rw [List.length_map];exact Nat.le_trans hn.hi (by decide),fun d mo3 hd h3=> ?_⟩)))))
   obtain ⟨x,hxy,rfl⟩:=vL hd
   rw [cI]
   refine ⟨by rw [List.length_map,bU];omega,xs++ [x],mo3,by rw [List.map_append];rfl,by rw [List.length_append,hxs];rfl,fun z hz=> ?_,rfl,h3.mono (by omega)⟩
   rcases List.mem_append.mp hz with z1 | z1
   ·exact hx z z1
   ·rw [List.mem_singleton.mp z1];exact hxy
  ·rintro acc L2 ⟨xs,mo2,rfl,hxs,hx,rfl,h2⟩ sl hsl
   rw [cO] at hxs h2
   refine aD (mJ aF ⟨put L p mo2,aU hsl,q xs mo2 ?_ hx (h2.mono (by omega))⟩)
   show ((xs.map D.str).all wdD && decide (1≤(xs.map D.str).length) && decide ((xs.map D.str).length≤3))=true
   rw [List.length_map,hxs,decide_eq_true hn3,decide_eq_true hn1,List.all_map,Bool.and_true,Bool.and_true,List.all_eq_true]
   exact fun x hxx=>hn.wd x (hx x hxx)
end
end K
namespace K
open PySem PySem.Spec PyProof.Rows L2 DL
theorem St2.nm {L:Lp} {p nl n:Addr} {ys:List Str} (h:NmOk L p nl ys) (hn:L n=none) (mo x:MO):NmOk (St2 L p mo n x) p nl ys:=⟨by unfold St2;rw [aK (aQ h.at_ hn),aK h.ne];exact h.at_,h.ne,h.lo,h.hi,h.wd⟩
section
variable {P:Program} {w:World} {K:PySem.W.Frag} {mg:Str→Option Value} {base:Heap} {f:Addr} {fd:FuncData}
def xW:SpA:=fun ds L Q _=> ∃(p nl:Addr) (mo:MO) (k m:Nat) (ys:List Str),ds= [.ptr p,.ptr nl,.int m]∧L p=some mo∧bZ k mo∧k≤20000∧m≤6∧NmOk L p nl ys∧∀(rs:Rl) mo',RuOk rs→rs.length≤m→WIn rs ys→bZ (k+500) mo'→Q (dR rs) (put L p mo')
theorem ok_book (F:Fun K "_law_book" "_law_book" fM f fd) (hb:Binds K fd ["_law_pot_here","_law_names_here","_law_most"] []) (B:Bl mg) (d1:Def P w K mg base "_law_take" 1 lF) (d2:Def P w K mg base "_law_key" 3 yZ) (d3:Def P w K mg base "_law_cells" 4 qX):FnA P w K mg base 5 f xW:=by
 refine fnA F sc__law_book hb (fun ds L Q R h=> ?_) fun cdv A outer s H E ds L Q R hr h=> ?_
 ·obtain ⟨_,_,_,_,_,_,rfl,_⟩:=h;rfl
 ·obtain ⟨p,nl,mo,k,m,ys,rfl,hp,hpot,hk,hm,hn,q⟩:=h
  refine aJ (aY 3 (wQ fun dl hdl=> ?_))
  have hne:dl≠p:=(aQ hp hdl).symm
  have e0:put L dl (.dct [])=St2 L p mo dl (.dct (tbl [])):=by
   unfold St2
   rw [put_self hp]
   rfl
  rw [e0]
  refine aJ (tR (fZ B.range (aH d1 (hr.mono (by omega)) (aC (aA 0 rfl (aC (bD op_add (aA 2 rfl (aG (sU (aD ⟨p,mo,k,m+1,rfl,St2.p hne,hpot,by omega,by omega,by omega,fun n mo1 hn1 h1=>⟨_,rfl,by omega,by omega,?_⟩⟩)))))))))))
  rw [St2.putP hne,show ((n:Int)).toNat=n by omega]
  refine ⟨fun i Γ2 L2=> ∃(rs:Rl) (mo2:MO) (a b:Option D),rs.length≤i∧(rs.map (·.1)).Nodup∧(∀r∈rs,kyD (dW r.1)=true∧csD (dC r.2)=true)∧WIn rs ys∧bZ (k+1+40*i) mo2∧L2=St2 L p mo2 dl (.dct (tbl rs))∧Γ2= [some (.ptr p),some (.ptr nl),some (.int m),some (.ptr dl),a,b],⟨[],mo1,none,none,Nat.le_refl _,List.nodup_nil,(fun r hr=>nomatch hr),(fun r hr=>nomatch hr),h1,rfl,rfl⟩,fun _ _ _ _=>trivial,?_,?_⟩
  ·rintro i d Γ2 L2 hd ⟨rs,mo2,a,b,hl,nd,hall,hwi,h2,rfl,rfl⟩
   have hi:=(fQ hd).1
   refine ⟨_,_,aM 4,?_⟩
   refine aJ (aY 5 (aH d2 (hr.mono (by omega)) (aC (aA 0 rfl (aC (aA 1 rfl (aD ⟨p,nl,mo2,k+1+40*i,ys,rfl,St2.p hne,h2,by omega,St2.nm hn hdl _ _,fun ks mo3 hks hki h3=> ?_⟩)))))))
   rw [St2.putP hne]
   refine aO (qQ (zF (u1 hr)) (aH d3 (hr.mono (by omega)) (aC (aA 0 rfl (aC (aA 1 rfl (aD ⟨p,nl,mo3,k+1+40*i+10,ys,rfl,St2.p hne,h3,by omega,St2.nm hn hdl _ _,fun zs mo4 hzs hzi h4=>aA 3 rfl (aA 5 rfl ?_)⟩)))))))
   rw [St2.putP hne]
   refine w_W St2.n (by rw [bU];omega) ?_
   rw [St2.putN]
   refine ⟨vC rs ks zs,mo4,some d,some (dW ks),?_,putR_nodup nd,fun r hr2=> ?_,fun r hr2=> ?_,h4.mono (by omega),rfl,rfl⟩
   ·have:=rE rs ks zs
    omega
   ·rcases rD hr2 with e | e
    ·rw [e];exact ⟨hks,hzs⟩
    ·exact hall r e
   ·rcases rD hr2 with e | e
    ·rw [e];exact ⟨hki,hzi⟩
    ·exact hwi r e
  ·rintro Γ2 L2 ⟨rs,mo2,a,b,hl,nd,hall,hwi,h2,rfl,rfl⟩
   rw [cO] at hl h2
   have hkne:∀r∈rs,r.1≠ []:=fun r hr2 e=>by
    have:=(qI (hall r hr2).1).2.1
    rw [e] at this
    exact absurd this (by decide)
   refine aO (aX (wJ [("_law_key_here",5)] B.tuple (uJ (aP (pA (yV hr)) B.sorted (aC (aR (lM rfl) B.list (aC (aA 3 rfl (aD (rK St2.n (by rw [pN,bU];omega) fun l1 hl1=>aD (rJ (rs:=rs) (by rw [aF,jC]) hkne fun l2 hl2=>⟨l2,_,rfl,aF,fun hz2=>⟨fun d=> .tup [d,dC ((lk rs (eO d)).getD [])],aF,hz2,yK (fun j hj=>hj) (fun i d hi s H Cc cl fp=>⟨aM 5,fun Q q=> ?_⟩),put L p mo2,?_,?_⟩⟩)))))))))))
   ·rw [List.getElem?_map] at hi
    cases e:(srt rs)[i]? with
    | none=>rw [e] at hi;cases hi
    | some r=>
     rw [e] at hi
     cases hi
     have hl3:=oE nd ((bB rs).mem_iff.mp (List.mem_of_getElem? e))
     refine bM (aC (aA 5 rfl (aC (wN (u1 hr) (aA 3 rfl (aA 5 rfl ⟨rs,r.1,r.2,rfl,.st ?_,hl3,aD ⟨by show 2≤sizeLine;decide,?_⟩⟩))))))
     ·have n1:dl≠l1:=aQ (St2.n (L:=L) (p:=p) (mo:=mo2)) hl1
      have n2:dl≠l2:=aQ (show put (St2 L p mo2 dl (.dct (tbl rs))) l1 _ dl=_ by rw [aK n1];exact St2.n) hl2
      rw [aK n2,aK n1]
      exact St2.n
     ·rw [nJ,hl3] at q
      exact q
   ·exact (St2.le hdl hne).trans ((aU hl1).trans (aU hl2))
   ·have e:((srt rs).map fun r=>dW r.1).map (fun d=>D.tup [d,dC ((lk rs (eO d)).getD [])])=(srt rs).map dRu:=by
     rw [List.map_map]
     refine List.map_congr_left fun r hr2=> ?_
     have hl3:=oE nd ((bB rs).mem_iff.mp hr2)
     show D.tup [dW r.1,dC ((lk rs (eO (dW r.1))).getD [])]=dRu r
     rw [nJ,hl3]
     rfl
    rw [e]
    refine q (srt rs) mo2 ⟨?_,fun r hr2=>(hall r ((bB rs).mem_iff.mp hr2)).1,fun r hr2=>(hall r ((bB rs).mem_iff.mp hr2)).2,uM nd⟩ ?_ (fun r hr2=>hwi r ((bB rs).mem_iff.mp hr2)) (h2.mono (by omega))
    ·rw [(bB rs).length_eq]
     omega
    ·rw [(bB rs).length_eq]
     omega
end
end K
namespace K
open PySem PySem.Spec PyProof.Rows L2 DL
section
variable {P:Program} {w:World} {K:PySem.W.Frag} {mg:Str→Option Value} {base:Heap} {f:Addr} {fd:FuncData}
abbrev g1:D→Bool:=fun d=>match d with | .tup xs=>decide ((xs.length:Int)=1) | _=>false
end
end K
namespace K
open PySem PySem.Spec PyProof.Rows L2 DL
section
variable {P:Program} {w:World} {K:PySem.W.Frag} {mg:Str→Option Value} {base:Heap} {f:Addr} {fd:FuncData}
theorem asc_wd {x:Str} (h:wdS x=true):asc x=true:=by
 unfold wdS at h
 simp only [Bool.and_eq_true] at h
 unfold asc
 refine List.all_eq_true.mpr fun c hc=>decide_eq_true ?_
 have h1:=List.all_eq_true.mp h.2 c hc
 have h2:c∈abc:=of_decide_eq_true h1
 revert h2
 have:∀c∈abc,c < 128:=by decide
 exact this c
end
end K
namespace K
open PySem PySem.Spec PyProof.Rows L2 DL
structure Side (ys:List Str) (m:Nat) (rss:List Rl):Prop where
 lo:1≤rss.length
 hi:rss.length≤2
 ok:∀r∈rss,RuOk r
 few:∀r∈rss,r.length≤m
 wds:∀r∈rss,WIn r ys
def dSd (rss:List Rl):D:= .tup (rss.map dR)
theorem nmI {L M:Lp} {p nl:Addr} {mo:MO} {ys:List Str} (h:NI L M p mo) (hn:NmOk L p nl ys):NmOk M p nl ys:=⟨h.le _ _ hn.at_ hn.ne,hn.ne,hn.lo,hn.hi,hn.wd⟩
theorem ixr {C:DL.Ctx} {L:Lp} {Q:D→Lp→Prop} {x:D} {xs:List D} {i:Int} {d:D} (h:atI xs i=some d) (hp:LR L x xs) (q:Q d L):L2R C (rIxA C.X.K) x (.int i) L Q:=aBt hp q h
theorem ixt {C:DL.Ctx} {L:Lp} {Q:D→Lp→Prop} {xs:List D} {i:Int} {d:D} (h:atI xs i=some d) (q:Q d L):L2R C (rIxA C.X.K) (.tup xs) (.int i) L Q:=aA0 q h
section
variable {P:Program} {w:World} {K:PySem.W.Frag} {mg:Str→Option Value} {base:Heap} {f:Addr} {fd:FuncData}
def xT:SpA:=fun ds L Q _=> ∃(p nl:Addr) (mo:MO) (k m c:Nat) (ys:List Str),ds= [.ptr p,.ptr nl,.int (m:Nat),.int (c:Nat)]∧L p=some mo∧bZ k mo∧k≤10000∧m≤6∧NmOk L p nl ys∧∀(ri rq:List Rl) mo',Side ys m ri→Side ys m rq→(c≤1→ri.length+rq.length≤3)→bZ (k+2010) mo'→Q (.tup [dSd ri,dSd rq]) (put L p mo')
set_option maxHeartbeats 0 in
theorem ok_plan (F:Fun K "_law_plan" "_law_plan" fK f fd) (hb:Binds K fd ["_law_pot_here","_law_names_here","_law_most","_law_chains"] []) (B:Bl mg) (d1:Def P w K mg base "_law_take" 1 lF) (d2:Def P w K mg base "_law_book" 5 xW):FnA P w K mg base 6 f xT:=by
 refine fnA F sc__law_plan hb (fun ds L Q R h=>by obtain ⟨_,_,_,_,_,_,_,rfl,_⟩:=h;rfl) fun cdv A outer s H E ds L Q R hr h=> ?_
 obtain ⟨p,nl,mo,k,m,c,ys,rfl,hp,hpot,hk,hm,hn,q⟩:=h
 have I:=NI.refl hp
 refine gG (fun Γ' L'=> ∃ll:Addr,L' ll=some (.lst ([0,0].map fun (s:Nat)=> .int (s:Int)))∧ll≠p∧L ll=none∧NI L L' p mo∧Γ'= [some (.ptr p),some (.ptr nl),some (.int (m:Nat)),some (.int (c:Nat)),some (.ptr ll),none,none,none]) ?_ ?_
 ·refine aY 4 (jH (aC (aG (aC (aG (aD ⟨Nat.le_of_ble_eq_true rfl,fun ll hl=>⟨ll,aF,I.ne hl,hl,I.new hl,rfl⟩⟩))))))
 rintro Γ' L1 ⟨ll,hl,hlp,hl0,I1,rfl⟩
 refine gG (fun Γ' L'=> ∃(e1 e2:Nat) (mo':MO),e1 < 2∧e2 < 2∧e1+e2≤1∧bZ (k+2) mo'∧L' ll=some (.lst ([e1,e2].map fun (s:Nat)=> .int (s:Int)))∧NI L L' p mo'∧Γ'= [some (.ptr p),some (.ptr nl),some (.int (m:Nat)),some (.int (c:Nat)),some (.ptr ll),none,none,none]) ?_ ?_
 ·refine cX (aA3 (aA 3 rfl (aG (aBH ⟨_,rfl,fun _=> ?_,fun _=>bO ⟨0,0,mo,by decide,by decide,by decide,hpot.mono (by omega),hl,I1,rfl⟩⟩))))
  refine aO (qQ set_list (aH d1 (hr.mono (by omega)) (aC (aA 0 rfl (aC (aG (aD ⟨p,mo,k,2,rfl,I1.p,hpot,by omega,by omega,by omega,fun e mo1 he h1=> ?_⟩)))))))
  refine aA 4 rfl (aH d1 (hr.mono (by omega)) (aC (aA 0 rfl (aC (aG (aD ⟨p,mo1,k+1,2,rfl,aF,h1,by omega,by omega,by omega,fun i mo2 hi h2=> ?_⟩))))))
  rw [cI]
  have hl2:put L1 p mo2 ll=some (.lst ([0,0].map fun (s:Nat)=> .int (s:Int))):=by rw [aK hlp];exact hl
  have I2:=I1.pot (mo':=mo2)
  match i,hi with
  | 0,_=>exact wX (j:=0) hl2 rfl ⟨e,0,mo2,he,by decide,by omega,h2,aF,(I1.pot (mo':=mo2)).own hl0 hlp,rfl⟩
  | 1,_=>exact wX (j:=1) hl2 rfl ⟨0,e,mo2,by decide,he,by omega,h2,aF,(I1.pot (mo':=mo2)).own hl0 hlp,rfl⟩
 rintro Γ' L2 ⟨e1,e2,mo2,he1,he2,he12,h2,hl2,I2,rfl⟩
 refine gG (fun Γ' L'=> ∃(lm:Addr) (e1 e2:Nat) (mo':MO),e1 < 2∧e2 < 2∧(c≤1→e1+e2≤1)∧bZ (k+4) mo'∧L' lm=some (.lst ([e1,e2].map fun (s:Nat)=> .int (s:Int)))∧lm≠p∧NI L L' p mo'∧Γ'= [some (.ptr p),some (.ptr nl),some (.int (m:Nat)),some (.int (c:Nat)),some (.ptr lm),none,none,none]) ?_ ?_
 ·refine cX (aA3 (aA 3 rfl (aG (aBH ⟨_,rfl,fun hc=> ?_,fun _=>bO ⟨ll,e1,e2,mo2,he1,he2,(fun _=>he12),h2.mono (by omega),hl2,hlp,I2,rfl⟩⟩))))
  refine aO (aY 4 (jH (aC (aH d1 (hr.mono (by omega)) (aC (aA 0 rfl (aC (aG (aD ⟨p,mo2,k+2,2,rfl,I2.p,h2,by omega,by omega,by omega,fun a mo3 ha h3=> ?_⟩)))))))))
  refine aC (aH d1 (hr.mono (by omega)) (aC (aA 0 rfl (aC (aG (aD ⟨p,mo3,k+3,2,rfl,aF,h3,by omega,by omega,by omega,fun b mo4 hb h4=>aD ⟨Nat.le_of_ble_eq_true rfl,fun lm hlm=> ?_⟩⟩))))))
  rw [cI] at hlm ⊢
  exact ⟨lm,a,b,mo4,ha,hb,(fun z=>by have:=of_decide_eq_true hc;omega),h4,aF,(I2.pot (mo':=mo4)).ne hlm,(I2.pot (mo':=mo4)).new hlm,rfl⟩
 rintro Γ' L3 ⟨lm,f1,f2,mo3,hf1,hf2,hf12,h3,hl3,hlmp,I3,rfl⟩
 clear I2 hl2 h2 I1 hl
 have N3:=nmI I3 hn
 refine gG (fun Γ' L'=> ∃(sl:Addr) (ri rq:List Rl) (mo':MO),Side ys m ri∧Side ys m rq∧(c≤1→ri.length+rq.length≤3)∧bZ (k+2010) mo'∧L' sl=some (.lst [dSd ri,dSd rq])∧NI L L' p mo'∧Γ'= [some (.ptr p),some (.ptr nl),some (.int (m:Nat)),some (.int (c:Nat)),some (.ptr lm),some (.ptr sl),none,none]) ?_ ?_
 ·refine wF 5 [("_law_extra",7)] (uJ (aA 4 rfl ⟨lm,_,rfl,hl3,fun hz=> ?_⟩))
  refine ⟨fun i acc L4=> ∃(rss:List (List Rl)) (mo':MO),acc=rss.map dSd∧rss.length=i∧(∀s∈rss,Side ys m s)∧rss.map List.length=([f1,f2].take i).map (1+ ·)∧bZ (k+4+1000*i) mo'∧NI L L4 p mo'∧NI L3 L4 p mo',⟨[],mo3,rfl,rfl,(fun _ h=>nomatch h),rfl,h3,I3,NI.refl I3.p⟩,?_,?_,?_⟩
  ·rintro i acc L4 ⟨_,_,_,_,_,_,_,_,J⟩
   exact J.le _ _ hl3 hlmp
  ·rintro i d acc L4 hd ⟨rss,mo',rfl,hl,hrs,hls,hp',I4,J⟩
   rw [List.getElem?_map] at hd
   obtain ⟨s,hs,rfl⟩:=Option.map_eq_some_iff.mp hd
   have hi2:i < 2:=(List.getElem?_eq_some_iff.mp hs).1
   have hs2:s < 2:=by
    have hm:=List.mem_of_getElem? hs
    simp only [List.mem_cons,List.not_mem_nil,or_false] at hm
    rcases hm with rfl | rfl <;> assumption
   refine ⟨_,_,fun j hj=>hj,fun s5 H Cc cl fp=>⟨aM 7,jA ⟨fun _ s6 H Cc cl fp=> ?_,(fun z=>nomatch z)⟩⟩⟩
   refine ae_tupL B.tuple (aBx [("_law_lap",6)] (fZ B.range (jM (aG (aA 7 rfl (aBy ⟨_,rfl,by omega,by omega,?_⟩))))) (ok:=by dsimp only [uF,cZ,cxOf,envOfC,compEnvC,Cx.blk];exact blkOk_by (by rfl)))
   rw [show ((1:Int)+((s:Nat):Int)).toNat=1+s by omega]
   refine ⟨fun j acc2 L5=> ∃(rs:List Rl) (mo5:MO),acc2=rs.map dR∧rs.length=j∧(∀r∈rs,RuOk r∧r.length≤m∧WIn r ys)∧bZ (k+4+1000*i+500*j) mo5∧NI L L5 p mo5∧NI L3 L5 p mo5,⟨[],mo',rfl,rfl,(fun _ h=>nomatch h),hp',I4,J⟩,fun _ _ _ _=>trivial,?_,?_⟩
   ·rintro j dd acc2 L5 hd2 ⟨rs,mo5,rfl,hl5,hrs5,hp5,I5,J5⟩
    have hj:=(fQ hd2).1
    refine ⟨_,_,fun j hj=>hj,fun s5 H Cc cl fp=>⟨aM 6,jA ⟨fun _ s6 H Cc cl fp=> ?_,(fun z=>nomatch z)⟩⟩⟩
    refine aH d2 (hr.mono (by omega)) (aC (aA 0 rfl (aC (aA 1 rfl (aC (aA 2 rfl (aD ⟨p,nl,mo5,_,m,ys,rfl,I5.p,hp5,by omega,hm,nmI I5 hn,fun r mo6 hr6 hrl hrw h6=> ?_⟩)))))))
    refine ⟨by rw [List.length_map,bU];omega,rs++ [r],mo6,by rw [List.map_append];rfl,by rw [List.length_append,hl5];rfl,fun x hx=> ?_,h6.mono (by omega),I5.pot,J5.pot⟩
    rcases List.mem_append.mp hx with h | h
    ·exact hrs5 x h
    ·rw [List.mem_singleton.mp h];exact ⟨hr6,hrl,hrw⟩
   ·rintro acc2 L5 ⟨rs,mo5,rfl,hl5,hrs5,hp5,I5,J5⟩
    rw [cO] at hl5 hp5
    refine ⟨by rw [List.length_map,bU];omega,rss++ [rs],mo5,by rw [List.map_append];rfl,by rw [List.length_append,hl];rfl,fun x hx=> ?_,?_,hp5.mono (by omega),I5,J5⟩
    rotate_left
    ·rw [List.map_append,hls,List.take_add_one,hs,List.map_append]
     show _++ [rs.length]=_++ [1+s]
     have h9:rs.length=1+s:=hl5
     rw [h9]
    rcases List.mem_append.mp hx with h | h
    ·exact hrs x h
    ·rw [List.mem_singleton.mp h]
     exact ⟨by omega,by omega,fun r h=>(hrs5 r h).1,fun r h=>(hrs5 r h).2.1,fun r h=>(hrs5 r h).2.2⟩
  ·rintro acc L4 ⟨rss,mo',rfl,hl,hrs,hls,hp',I4,J⟩ sl hsl
   have hl:rss.length=2:=hl
   obtain ⟨ri,rq,rfl⟩:∃ri rq,rss= [ri,rq]:=by
    match rss,hl with
    | [a,b],_=>exact ⟨a,b,rfl⟩
   refine ⟨sl,ri,rq,mo',hrs ri List.mem_cons_self,hrs rq (List.mem_cons_of_mem _ List.mem_cons_self),(fun z=> ?_),hp'.mono (by show k+4+1000*2≤_;omega),aF,I4.new hsl,rfl⟩
   have h9: [ri.length,rq.length]= [1+f1,1+f2]:=hls
   have:=hf12 z
   injection h9 with h9 h8
   injection h8 with h8 _
   omega
 rintro Γ' L4 ⟨sl,ri,rq,mo4,sI,sQ,sC,h4,hS,I4,rfl⟩
 have e0:atI [dSd ri,dSd rq] ((0:Nat):Int)=some (dSd ri):=atI_nat rfl
 have e1:atI [dSd ri,dSd rq] ((1:Nat):Int)=some (dSd rq):=atI_nat rfl
 exact aO (aX (bM (aC (bJ (nA (u1 hr)) (aA 5 rfl (aG (ixr e0 (.st hS) (aC (bJ (nA (u1 hr)) (aA 5 rfl (aG (ixr e1 (.st hS) (aD ⟨Nat.le_of_ble_eq_true rfl,_,I4.fin,q ri rq mo4 sI sQ sC h4⟩)))))))))))))
end
end K
namespace K
open PySem PySem.Spec PyProof.Rows L2 DL
theorem aN_wd:∀j∈List.range 8,wdS (aN j)=true:=by decide+kernel
theorem frs_ok {ys:List Wd} (h:ys.length≤7):frs ys∉ys∧wdS (frs ys)=true:=by
 cases e:(List.range 8).find? fun j=> !ys.contains (aN j) with
 | none=>
  have:=iH (xs:=(List.range 8).map aN) (ys:=ys) (List.pairwise_map.mpr (List.Pairwise.imp (fun {a b} hab z=>hab (aAU z)) List.nodup_range)) fun x hx=>by
   obtain ⟨i,hi,rfl⟩:=List.mem_map.mp hx
   have:=List.find?_eq_none.mp e i hi
   simpa using this
  rw [List.length_map,List.length_range] at this
  omega
 | some j=>
  have hj:=List.mem_of_find?_eq_some e
  have hb:=List.find?_some e
  have ef:frs ys=aN j:=by unfold frs;rw [e];rfl
  rw [ef]
  exact ⟨by simpa using hb,aN_wd j hj⟩
theorem aA8.rw {CH BK:Addr} {L:Lp} {x:D} {rss:List Rl} (h:aA8 CH BK x rss) (hR:∀rs∈rss,RuOk rs):Rw CH BK L x rss:=by
 rcases h with ⟨r,rfl,rfl⟩ | ⟨r1,r2,rfl,rfl⟩
 ·exact .inl ⟨r,rfl,fBk.bk,(hR r List.mem_cons_self).n⟩
 ·exact .inr ⟨r1,r2,rfl,fCh.ch,hR r1 List.mem_cons_self,hR r2 (List.mem_cons_of_mem _ List.mem_cons_self)⟩
theorem pys_mem:∀{ds:List D} {d:PyData},d∈pys ds→∃e∈ds,d=py e
 | [],d,h=>by rw [pys] at h;cases h
 | e::ds,d,h=>by
  rw [pys] at h
  rcases List.mem_cons.mp h with rfl | h
  ·exact ⟨e,List.mem_cons_self,rfl⟩
  ·obtain ⟨e2,h2,h3⟩:=pys_mem h
   exact ⟨e2,List.mem_cons_of_mem _ h2,h3⟩
theorem rG {ds:List D} {n:Nat} (h:∀d∈ds,(py d).depth≤n):(py (.tup ds)).depth≤n+1:=by
 rw [py]
 exact uH fun d hd=>by
  obtain ⟨e,he,rfl⟩:=pys_mem hd
  exact h e he
theorem okDs_of:∀{ds:List D},(∀d∈ds,okD d=true)→gA ds=true
 | [],_=>by rw [gA]
 | d::ds,h=>by rw [gA,h d List.mem_cons_self,okDs_of fun e he=>h e (List.mem_cons_of_mem _ he)];rfl
theorem okD_row (r:RowC):okD (bH r)=true:=by
 unfold bH
 rw [okD,gA,gA,gA,gA,gA,kW,kW,kW,kW]
 rfl
theorem yL (r:RowC):(py (bH r)).depth≤4:=rG (ds:= [dC r.p,dC r.q,dC r.a,dC r.b]) fun d hd=>by
 simp only [List.mem_cons,List.not_mem_nil,or_false] at hd
 rcases hd with rfl | rfl | rfl | rfl <;> exact dep_dC _
theorem tb_okD {T:List D} (h:∀d∈T,∃r:RowC,d=bH r):okD (.tup [.str "same",.tup T])=true∧(py (.tup [.str "same",.tup T])).depth≤64:=by
 constructor
 ·rw [okD,gA,gA,gA,okD,okD,okDs_of fun d hd=>by
   obtain ⟨r,rfl⟩:=h d hd
   exact okD_row r]
  rfl
 ·refine Nat.le_trans (rG (n:=10) fun d hd=> ?_) (by decide)
  simp only [List.mem_cons,List.not_mem_nil,or_false] at hd
  rcases hd with rfl | rfl
  ·rw [py]
   exact Nat.le_of_ble_eq_true rfl
  ·refine Nat.le_trans (rG (n:=4) fun d hd=> ?_) (by decide)
   obtain ⟨r,rfl⟩:=h d hd
   exact yL r
section
variable {P:Program} {w:World} {K:PySem.W.Frag} {mg:Str→Option Value} {base:Heap} {f:Addr} {fd:FuncData} {BK CH BT pT pF pL pW pV gT gU gW gV gI gR gC gE gY:Addr}
def sG (CH BK:Addr):SpA:=fun ds L Q _=> ∃(x y:D) (r1 r2:List Rl),aA8 CH BK x r1∧aA8 CH BK y r2∧(∀rs∈r1,RuOk rs)∧(∀rs∈r2,RuOk rs)∧
 ((∃t:List Wd,ds= [x,y,.tup [.str "different",dW t]]∧(∀x∈t,wdS x=true)∧t.length≤100000∧Q (.bl (!oG r1 r2 t)) L)∨
 (∃(nm vs:List Wd) (ts:List (RowC×List Wd)),ds= [x,y,.tup [.str "same",.tup ((ts.map fun x=>bH x.1).mergeSort leD)]]∧nm.length≤7∧(∀k,k∈cG r1∨k∈cG r2→k∈nm)∧AlOk r1 r2 vs∧gD r1 r2 vs= .inr ts∧Q (.bl true) L))
set_option maxHeartbeats 0 in
theorem ok_is_cmp (F:Fun K "is_comparison" "is_comparison" cC f fd) (hb:Binds K fd ["one","other","value"] []) (B:Bl mg) (g1:GS mg "DIFFERENT" "different") (g2:GS mg "SAME" "same") (C1:RwD P w K mg base BK CH BT pT pF pL gI gR gC gE gY) (d1:Def P w K mg base "is_text" 2 eV) (d2:Def P w K mg base "compare" 8 (jT CH BK)):FnA P w K mg base 9 f (sG CH BK):=by
 refine fnA F sc_is_comparison hb (fun ds L Q R h=>by obtain ⟨_,_,_,_,_,_,_,_,⟨_,rfl,_⟩ | ⟨_,_,_,rfl,_⟩⟩:=h <;> rfl) fun cdv A outer s H E ds L Q R hr h=> ?_
 obtain ⟨t1,g1⟩:=g1
 obtain ⟨t2,g2⟩:=g2
 obtain ⟨x,y,r1,r2,hx,hy,hR1,hR2,⟨t,rfl,hw,hl,q⟩ | ⟨nm,vs,ts,rfl,hnm,hin,hA,ec,q⟩⟩:=h
 ·have p0:atI [D.str "different",dW t] ((0:Nat):Int)=some (.str "different"):=atI_nat rfl
  have p1:atI [D.str "different",dW t] ((1:Nat):Int)=some (dW t):=atI_nat rfl
  walk
  refine ⟨(fun z=>nomatch z),fun _=> ?_⟩
  walk
  refine ⟨(fun z=>nomatch z),fun _=> ?_⟩
  walk
  refine ⟨(fun z=>nomatch z),fun _=>bO ?_⟩
  refine aJ (cX (qN (u64 hr) (bJ (nA (u1 hr)) (aA 2 rfl (aG (ixt p0 (jJ g1 (aBu ⟨_,rfl,fun h=> ?_,fun h=>absurd rfl (of_decide_eq_false h)⟩))))))))
  refine aO (aX (lB (aH d1 (hr.mono (by omega)) (aC (bJ (nA (u1 hr)) (aA 2 rfl (aG (ixt p1 (aD ⟨dW t,rfl,aAF t,_,rfl,fun _=> ?_,fun z=>absurd (aAr hw) (by rw [z];decide)⟩)))))))))
  refine pJ (yR (ae_rwCall C1 (hr.mono (by omega)) hx hR1 (fun Q q=>aA 0 rfl q) (bJ (nA (u1 hr)) (aA 2 rfl (aG (ixt p1 (.inl ⟨t,rfl,hw,hl,?_⟩)))))))
  exact ae_rwCall C1 (hr.mono (by omega)) hy hR2 (fun Q q=>aA 1 rfl q) (bJ (nA (u1 hr)) (aA 2 rfl (aG (ixt p1 (.inl ⟨t,rfl,hw,hl,j_neC (u64 hr) ⟨L,.refl L,q⟩⟩)))))
 ·generalize hT:(ts.map fun x=>bH x.1).mergeSort leD=T
  have p0:atI [D.str "same",.tup T] ((0:Nat):Int)=some (.str "same"):=atI_nat rfl
  walk
  refine ⟨(fun z=>nomatch z),fun _=> ?_⟩
  walk
  refine ⟨(fun z=>nomatch z),fun _=> ?_⟩
  walk
  refine ⟨(fun z=>nomatch z),fun _=>bO ?_⟩
  refine aJ (cX (qN (u64 hr) (bJ (nA (u1 hr)) (aA 2 rfl (aG (ixt p0 (jJ g1 (aBu ⟨_,rfl,fun h=>absurd (of_decide_eq_true h) (by decide+kernel),fun h=>bO ?_⟩))))))))
  refine aO (aX (lB (aA4 (u64 hr) (bJ (nA (u1 hr)) (aA 2 rfl (aG (ixt p0 (jJ g2 (aBu ⟨_,rfl,fun _=> ?_,fun z=>absurd rfl (of_decide_eq_false z)⟩)))))))))
  refine pJ (yR (aA 2 rfl (aH d2 (hr.mono (by omega)) (aC (aA 0 rfl (aC (aA 1 rfl (aD ⟨x,y,r1,r2,nm,rfl,hx.rw hR1,hy.rw hR2,hnm,hin,fun vs' hA'=> ?_⟩))))))))
  have ev:vs'=vs:=oR hA'.up hA.up fun k=>(hA'.mem k).trans (hA.mem k).symm
  rw [ev,ec]
  show OpJ _ _ _ _ (.tup [.str "same",.tup ((ts.map fun x=>bH x.1).mergeSort leD)]) _ _
  rw [hT]
  have ht:=tb_okD (T:=T) fun d hd=>by
   rw [←hT,List.mem_mergeSort] at hd
   obtain ⟨u,_,rfl⟩:=List.mem_map.mp hd
   exact ⟨u.1,rfl⟩
  exact j_eqX (u64 hr) ht.1 ht.2 ⟨L,.refl L,q⟩
end
end K
namespace K
open PySem PySem.Spec PyProof.Rows L2 DL
open PySem.StrLaws
theorem chr_len:∀c∈abc,(Builtin.Str.reprChar 34 c).length=1∧(Builtin.Str.reprChar 39 c).length=1:=by decide+kernel
theorem foldl_le {g:Nat→Nat}:∀(l:List Nat) (n:Nat),(∀c∈l,g c≤1)→l.foldl (fun n c=>n+g c) n≤n+l.length
 | [],n,_=>Nat.le_refl _
 | c::l,n,h=>by
  have ih:=foldl_le (g:=g) l (n+g c) fun x hx=>h x (List.mem_cons_of_mem _ hx)
  have:=h c List.mem_cons_self
  rw [List.foldl_cons,List.length_cons]
  omega
theorem repr_wd {x:Str} (h:wdS x=true):(reprText x).length≤10:=by
 unfold wdS at h
 simp only [Bool.and_eq_true] at h
 obtain ⟨⟨_,h8⟩,ha⟩:=h
 have h8:=of_decide_eq_true h8
 have ha:=List.all_eq_true.mp ha
 rw [←reprLen_eq,←Array.foldl_toList]
 have hq:reprQuote x=34∨reprQuote x=39:=by
  unfold reprQuote
  split
  ·exact .inl rfl
  ·exact .inr rfl
 have:=foldl_le (g:=fun c=>(Builtin.Str.reprChar (reprQuote x) c).length) x.cps.toList 2 fun c hc=>by
  have hm:=chr_len c (of_decide_eq_true (ha c hc))
  rcases hq with e | e <;> rw [e]
  ·exact Nat.le_of_eq hm.1
  ·exact Nat.le_of_eq hm.2
 have e:x.cps.toList.length=x.length:=by rw [Array.length_toList];rfl
 rw [e] at this
 omega
theorem vB:∀{ds:List D} {d:PyData},d∈tZ ds→∃e∈ds,d=pyE e
 | [],d,h=>by rw [tZ] at h;cases h
 | e::ds,d,h=>by
  rw [tZ] at h
  rcases List.mem_cons.mp h with rfl | h
  ·exact ⟨e,List.mem_cons_self,rfl⟩
  ·obtain ⟨e2,h2,h3⟩:=vB h
   exact ⟨e2,List.mem_cons_of_mem _ h2,h3⟩
theorem pyEs_len:∀ds:List D,(tZ ds).length=ds.length
 | []=>by rw [tZ];rfl
 | e::ds=>by rw [tZ,List.length_cons,List.length_cons,pyEs_len ds]
theorem shownAll_sum {n:Nat}:∀xs:List PyData,(∀d∈xs,d.shown.length≤n)→((PyData.shownAll xs).map (·.length)).sum+2*(PyData.shownAll xs).length≤(n+2)*xs.length
 | [],_=>by rw [PyData.shownAll];exact Nat.le_refl _
 | x::xs,h=>by
  have ih:=shownAll_sum (n:=n) xs fun d hd=>h d (List.mem_cons_of_mem _ hd)
  have:=h x List.mem_cons_self
  rw [PyData.shownAll,List.map_cons,List.sum_cons,List.length_cons,List.length_cons,Nat.mul_succ (n+2)]
  show x.shown.length+_+2*(_+1)≤_
  omega
theorem zE {ds:List D} {n:Nat} (h:∀d∈ds,(pyE d).shown.length≤n):(pyE (.tup ds)).shown.length≤(n+2)*ds.length+3:=by
 rw [pyE,PyData.shown]
 have h1:=tupleText_len_le (PyData.shownAll (tZ ds))
 have h2:=shownAll_sum (n:=n) (tZ ds) fun d hd=>by
  obtain ⟨e,he,rfl⟩:=vB hd
  exact h e he
 rw [pyEs_len] at h2
 omega
theorem sh_dW {ws:List Wd} (h:∀x∈ws,wdS x=true):(pyE (dW ws)).shown.length≤12*ws.length+3:=by
 have:=zE (ds:=ws.map D.str) (n:=10) fun d hd=>by
  obtain ⟨x,hx,rfl⟩:=List.mem_map.mp hd
  rw [pyE,PyData.shown]
  exact repr_wd (h x hx)
 rw [List.length_map] at this
 exact this
def PC (c:Cell):Prop:=c.length≤3∧∀x∈c,wdS x=true
theorem wY {cs:List Cell} (h:∀c∈cs,PC c):(pyE (dC cs)).shown.length≤41*cs.length+3:=by
 have:=zE (ds:=cs.map dW) (n:=39) fun d hd=>by
  obtain ⟨c,hc,rfl⟩:=List.mem_map.mp hd
  have h1:=sh_dW (h c hc).2
  have h2:=(h c hc).1
  omega
 rw [List.length_map] at this
 exact this
theorem shw_dW {ws:List Wd} (h:∀x∈ws,wdS x=true):shw (dW ws)=true:=by
 show shw (.tup (ws.map D.str))=true
 rw [shw]
 induction ws with
 | nil=>rfl
 | cons x ws ih=>
  rw [List.map_cons,aAu,shw,asc_wd (h x List.mem_cons_self),ih fun y hy=>h y (List.mem_cons_of_mem _ hy)]
  rfl
theorem uV:∀{ds:List D},(∀d∈ds,shw d=true)→aAu ds=true
 | [],_=>rfl
 | d::ds,h=>by rw [aAu,h d List.mem_cons_self,uV fun e he=>h e (List.mem_cons_of_mem _ he)];rfl
theorem zB {cs:List Cell} (h:∀c∈cs,PC c):shw (dC cs)=true:=by
 show shw (.tup (cs.map dW))=true
 rw [shw]
 refine uV fun d hd=> ?_
 obtain ⟨c,hc,rfl⟩:=List.mem_map.mp hd
 exact shw_dW (h c hc).2
structure RowS (r:RowC):Prop where
 p:∀c∈r.p,PC c
 q:∀c∈r.q,PC c
 a:∀c∈r.a,PC c
 b:∀c∈r.b,PC c
 lp:r.p.length≤16
 lq:r.q.length≤16
 la:r.a.length≤16
 lb:r.b.length≤16
theorem RowS.sh {r:RowC} (h:RowS r):(pyE (bH r)).shown.length≤2647∧shw (bH r)=true:=by
 have h1:=wY h.p
 have h2:=wY h.q
 have h3:=wY h.a
 have h4:=wY h.b
 have l1:=h.lp
 have l2:=h.lq
 have l3:=h.la
 have l4:=h.lb
 refine ⟨zE (ds:= [dC r.p,dC r.q,dC r.a,dC r.b]) (n:=659) fun d hd=> ?_,?_⟩
 ·simp only [List.mem_cons,List.not_mem_nil,or_false] at hd
  rcases hd with rfl | rfl | rfl | rfl <;> omega
 ·show shw (.tup [dC r.p,dC r.q,dC r.a,dC r.b])=true
  rw [shw]
  refine uV fun d hd=> ?_
  simp only [List.mem_cons,List.not_mem_nil,or_false] at hd
  rcases hd with rfl | rfl | rfl | rfl
  ·exact zB h.p
  ·exact zB h.q
  ·exact zB h.a
  ·exact zB h.b
theorem aBb {T:Cell→Prop} {rs:Rl} (hR:∀r∈rs,∀c∈r.2,T c) {cs:List Cell} (hc:∀c∈cs,T c):∀n a,∀c∈rwF rs cs n a,T c
 | 0,a,c,h=>nomatch h
 | n+1,a,c,h=>by
  by_cases ha:a < cs.length
  ·by_cases h0:gM rs cs a=0
   ·rw [rwF_0 ha h0] at h
    rcases List.mem_cons.mp h with rfl | h
    ·rw [List.getD_eq_getElem?_getD,List.getElem?_eq_getElem ha]
     exact hc _ (List.getElem_mem ha)
    ·exact aBb hR hc n _ c h
   ·obtain ⟨z,_,h2,_⟩:=mZ h0
    rw [rwF_1 ha h0 h2] at h
    rcases List.mem_append.mp h with h | h
    ·exact hR _ (xG h2) c h
    ·exact aBb hR hc n _ c h
  ·rw [rwF_end (by omega)] at h
   cases h
theorem flush_P {T:Cell→Prop}:∀{rss:List Rl},(∀rs∈rss,∀r∈rs,∀c∈r.2,T c)→∀{p:List (List Wd)},(∀ws∈p,∀x∈ws,T [x])→∀{cs:List Cell},(∀c∈cs,T c)→∀c∈(thr true (rss.zip p) cs).2,T c
 | [],_,p,_,cs,hc=>by
  rw [List.zip_nil_left]
  exact hc
 | rs::rss,h,[],_,cs,hc=>by
  rw [List.zip_nil_right]
  exact hc
 | rs::rss,h,ws::p,hp,cs,hc=>by
  rw [List.zip_cons_cons,gK,fY]
  refine flush_P (fun r hr=>h r (List.mem_cons_of_mem _ hr)) (fun x hx=>hp x (List.mem_cons_of_mem _ hx)) (aBb (h rs List.mem_cons_self) (fun c hcm=> ?_) _ 0)
  rcases List.mem_append.mp hcm with hcm | hcm
  ·obtain ⟨v,hv,rfl⟩:=List.mem_map.mp hcm
   exact hp ws List.mem_cons_self v hv
  ·exact hc c hcm
theorem pfx_wd {rs:Rl} (hR:RuOk rs) {p:List Wd} (h:p∈pfx rs):∀x∈p,wdS x=true:=fun x hx=>by
 rcases List.mem_cons.mp h with rfl | h
 ·cases hx
 ·obtain ⟨r,hr,hp⟩:=List.mem_flatMap.mp h
  have hk:=(qI (hR.key r hr)).1
  simp only [List.mem_cons,List.not_mem_nil,or_false] at hp
  rcases hp with rfl | rfl <;> exact hk x (List.mem_of_mem_take hx)
theorem pM:∀{rss:List Rl},(∀rs∈rss,RuOk rs)→∀{p:Pd},p∈tW rss→∀c∈p,PC c
 | [],_,p,h,c,hc=>by
  rw [List.mem_singleton.mp h] at hc
  cases hc
 | rs::rss,hR,p,h,c,hc=>by
  obtain ⟨x,hx,hp⟩:=List.mem_flatMap.mp h
  obtain ⟨p',hp',rfl⟩:=List.mem_map.mp hp
  rcases List.mem_cons.mp hc with rfl | hc
  ·exact ⟨Nat.le_succ_of_le ((gH h).2 _ List.mem_cons_self),pfx_wd (hR rs List.mem_cons_self) hx⟩
  ·exact pM (fun r hr=>hR r (List.mem_cons_of_mem _ hr)) hp' c hc
theorem ceD_pc {c:Cell} (h:ceD (dW c)=true):PC c:=by
 rw [zV,Bool.and_eq_true,Bool.and_eq_true] at h
 exact ⟨of_decide_eq_true h.1.2,List.all_eq_true.mp h.1.1⟩
theorem cel_pc {rs:Rl} (hR:RuOk rs):∀r∈rs,∀c∈r.2,PC c:=fun r hr c hc=>ceD_pc ((vX (hR.cel r hr)).2 c hc)
theorem flush_pc {rss:List Rl} (hR:∀rs∈rss,RuOk rs) {p:Pd} (hp:p∈tW rss):∀c∈(thr true (rss.zip p) []).2,PC c:=
 flush_P (fun rs h=>cel_pc (hR rs h)) (fun ws hws x hx=>⟨Nat.le_add_left 1 2,fun y hy=>by rw [List.mem_singleton.mp hy];exact (pM hR hp ws hws).2 x hx⟩) fun c hc=>nomatch hc
theorem row_s {r1 r2:List Rl} (l1:r1.length≤2) (l2:r2.length≤2) (h1:∀rs∈r1,RuOk rs) (h2:∀rs∈r2,RuOk rs) {r:RowC} (h:RowOk r1 r2 r):RowS r:=by
 have e:=of_decide_eq_true h.same
 have n1:=wZ h.p
 have n2:=wZ h.q
 have s1:=cY (wh:=true) l1 (fun rs h=>(h1 rs h).n) n1 (cs:= []) (Nat.zero_le 1)
 have s2:=cY (wh:=true) l2 (fun rs h=>(h2 rs h).n) n2 (cs:= []) (Nat.zero_le 1)
 have f1:=flush_pc h1 h.p
 have f2:=flush_pc h2 h.q
 have m1:=n1.len
 have m2:=n2.len
 have hl:=congrArg List.length e
 rw [List.length_append,List.length_append] at hl
 rcases h.one with z | z
 ·rw [z,List.nil_append] at e
  rw [z,List.length_nil] at hl
  exact ⟨pM h1 h.p,pM h2 h.q,(by rw [z];intro c hc;cases hc),fun c hc=>f1 c (by rw [e];exact List.mem_append_left _ hc),by omega,by omega,by rw [z];exact Nat.zero_le _,by omega⟩
 ·rw [z,List.nil_append] at e
  rw [z,List.length_nil] at hl
  exact ⟨pM h1 h.p,pM h2 h.q,fun c hc=>f2 c (by rw [←e];exact List.mem_append_left _ hc),(by rw [z];intro c hc;cases hc),by omega,by omega,by omega,by rw [z];exact Nat.zero_le _⟩
theorem oK {n:Nat}:∀rss:List Rl,(∀rs∈rss,rs.length≤n)→(tW rss).length≤(1+2*n) ^ rss.length
 | [],_=>Nat.le_refl _
 | rs::rss,h=>by
  have ih:=oK (n:=n) rss fun r hr=>h r (List.mem_cons_of_mem _ hr)
  have h0:=h rs List.mem_cons_self
  unfold tW
  rw [iY _ (tW rss).length _ (fun x _=>List.length_map ..),pfx_len,List.length_cons,Nat.pow_succ,Nat.mul_comm ((1+2*n) ^ rss.length)]
  exact Nat.mul_le_mul (by omega) ih
theorem rows_leN {a b:Nat} {r1 r2:List Rl} (h1:∀rs∈r1,rs.length≤a) (h2:∀rs∈r2,rs.length≤b) (l1:r1.length≤2) (l2:r2.length≤2) {rows:List RowC} (hn:rows.Nodup) (h:∀r∈rows,RowOk r1 r2 r):rows.length≤(1+2*a) ^ 2*(1+2*b) ^ 2:=by
 have e:(rows.map fun r=>(r.p,r.q)).Nodup:=by
  refine List.pairwise_map.mpr (List.Pairwise.imp_of_mem (fun {a b} ha hb hab=> ?_) hn)
  intro z
  injection z with z1 z2
  exact hab ((h a ha).inj (h b hb) z1 z2)
 have:=iH (ys:=(tW r1).flatMap fun p=>(tW r2).map fun q=>(p,q)) e fun x hx=>by
  obtain ⟨r,hr,rfl⟩:=List.mem_map.mp hx
  exact List.mem_flatMap.mpr ⟨r.p,(h r hr).p,List.mem_map.mpr ⟨r.q,(h r hr).q,rfl⟩⟩
 rw [List.length_map,iY _ (tW r2).length _ (fun x _=>List.length_map ..)] at this
 have a1:=oK r1 h1
 have a2:=oK r2 h2
 have b1:(1+2*a) ^ r1.length≤(1+2*a) ^ 2:=Nat.pow_le_pow_right (by omega) l1
 have b2:(1+2*b) ^ r2.length≤(1+2*b) ^ 2:=Nat.pow_le_pow_right (by omega) l2
 exact Nat.le_trans this (Nat.mul_le_mul (Nat.le_trans a1 b1) (Nat.le_trans a2 b2))
structure TbS (T:List D):Prop where
 row:∀d∈T,∃r:RowC,d=bH r∧RowS r
 len:T.length≤4096
theorem two_sum (a b:Str):(tupleText [a,b]).length≤a.length+b.length+7:=by
 have:=tupleText_len_le [a,b]
 simp only [List.map_cons,List.map_nil,List.sum_cons,List.sum_nil,List.length_cons,List.length_nil] at this
 omega
theorem oZ {ds:List D} {n:Nat} (h:∀d∈ds,(pyE d).depth≤n):(pyE (.tup ds)).depth≤n+1:=by
 rw [pyE]
 exact uH fun d hd=>by
  obtain ⟨e,he,rfl⟩:=vB hd
  exact h e he
theorem depE_dW (ws:List Wd):(pyE (dW ws)).depth≤2:=oZ (ds:=ws.map D.str) fun d hd=>by
 obtain ⟨x,hx,rfl⟩:=List.mem_map.mp hd
 rw [pyE]
 exact Nat.le_of_ble_eq_true rfl
theorem depE_dC (cs:List Cell):(pyE (dC cs)).depth≤3:=oZ (ds:=cs.map dW) fun d hd=>by
 obtain ⟨x,hx,rfl⟩:=List.mem_map.mp hd
 exact depE_dW x
theorem depE_row (r:RowC):(pyE (bH r)).depth≤4:=oZ (ds:= [dC r.p,dC r.q,dC r.a,dC r.b]) fun d hd=>by
 simp only [List.mem_cons,List.not_mem_nil,or_false] at hd
 rcases hd with rfl | rfl | rfl | rfl <;> exact depE_dC _
theorem asc_same:asc "same"=true:=by decide+kernel
end K
namespace K
open PySem PySem.Spec PyProof.Rows L2 DL
theorem lex_app (t l m:List (Int ⊕ List Nat)):PyProof.Rows.lexLt itemOrd (t++l) (t++m)=PyProof.Rows.lexLt itemOrd l m:=by
 induction t with
 | nil=>rfl
 | cons x t ih=>rw [List.cons_append,List.cons_append,lex_self,ih]
theorem lt_anti {x y:D} (hal:PySem.W.alike (py x) (py y)=true) (hx:plD x=true) (hy:plD y=true) (h1:ltD x y=false) (h2:ltD y x=false):x=y:=by
 have et:PySem.W.keyToks (py x)=PySem.W.keyToks (py y):=lex_total (O:=itemOrd) _ _ h1 h2
 cases e:PyData.eqv (py x) (py y) with
 | true=>exact (eqv_iff hx hy).mp e
 | false=>
  have h:=(PySem.W.toks_eqv _ _ hal).2 e [] [.inl 0]
  rw [et,lex_app] at h
  rw [show PyProof.Rows.lexLt itemOrd (PySem.W.keyToks (py y)) (PySem.W.keyToks (py y))=false from lex_irrefl (O:=itemOrd) _] at h
  cases h
theorem pl_row (r:RowC):plD (bH r)=true:=Enc.pl ([r.p,r.q,r.a,r.b]:List (List (List Str)))
theorem tables_same {xs ys:List RowC} (h:xs.Perm ys):(xs.map bH).mergeSort leD=(ys.map bH).mergeSort leD:=by
 refine sort_same (h.map bH) fun a ha b hb h1 h2=> ?_
 obtain ⟨r,_,rfl⟩:=List.mem_map.mp ha
 obtain ⟨s,_,rfl⟩:=List.mem_map.mp hb
 exact lt_anti (alike_row r s) (pl_row r) (pl_row s) h1 h2
end K
namespace K
open PySem PySem.Spec PyProof.Rows L2 DL
open PySem.StrLaws
def flp (r:RowC):RowC:=⟨r.q,r.p,r.b,r.a⟩
theorem flp_inj {r s:RowC} (h:flp r=flp s):r=s:=by
 cases r
 cases s
 unfold flp at h
 injection h with h1 h2 h3 h4
 simp only at h1 h2 h3 h4
 rw [h1,h2,h3,h4]
theorem cpl_comm:∀x y:List Cell,cpl x y=cpl y x
 | [],[]=>rfl
 | [],_::_=>rfl
 | _::_,[]=>rfl
 | x::xs,y::ys=>by
  unfold cpl
  by_cases e:x=y
  ·rw [if_pos e,if_pos e.symm,cpl_comm xs ys]
  ·rw [if_neg e,if_neg fun z=>e z.symm]
section
variable {r1 r2:List Rl}
theorem row_flp (t:List Wd):uE r2 r1 t=flp (uE r1 r2 t):=by
 rw [uZ,uZ]
 unfold clo flp
 rw [cpl_comm (bg r2 (DL.one t)).2]
theorem kY (t:List Wd):oG r2 r1 t=oG r1 r2 t:=decide_eq_decide.mpr eq_comm
theorem good_self (t:List Wd):oG r1 r1 t=true:=decide_eq_true rfl
theorem cmpW_len (al:List Wd):∀(m k:Nat) (ts:List (RowC×List Wd)),(∀u∈ts,u.2.length≤k)→∀t,zR r1 r2 al m k ts= .inl t→t.length≤k+m
 | 0,k,ts,_,t,h=>nomatch h
 | m+1,k,ts,hts,t,h=>by
  cases e:ts[k]? with
  | none=>
   unfold zR at h
   rw [e] at h
   cases h
  | some x=>
   have hx:=hts x (List.mem_of_getElem? e)
   obtain ⟨i1,i2⟩:=vY (r1:=r1) (r2:=r2) x.1 x.2 al ts
   unfold zR at h
   rw [e] at h
   simp only at h
   cases e2:xN r1 r2 x.1 x.2 al ts with
   | inl t'=>
    rw [e2] at h
    obtain ⟨w,_,et,_⟩:=i1 t' e2
    cases h
    rw [et,List.length_append]
    show x.2.length+1≤_
    omega
   | inr ts'=>
    rw [e2] at h
    obtain ⟨⟨us,eu,hu⟩,_⟩:=i2 ts' e2
    have:=cmpW_len al m (k+1) ts' (fun u hu2=>by
     rw [eu] at hu2
     rcases List.mem_append.mp hu2 with h2 | h2
     ·exact Nat.le_succ_of_le (hts u h2)
     ·obtain ⟨w,_,e3,_⟩:=hu u h2
      rw [e3]
      show (x.2++ [w]).length≤_
      rw [List.length_append]
      show x.2.length+1≤_
      omega) t h
    omega
theorem cmp_len {vs t:List Wd} (h:gD r1 r2 vs= .inl t):t.length≤28561:=by
 have:=cmpW_len (vs++ [frs vs]) 28561 0 [(aAg r1 r2,[])] (fun u hu=>by rw [List.mem_singleton.mp hu];exact Nat.le_refl 0) t h
 omega
theorem both_ways (h1:∀rs∈r1,rs.length≤6) (h2:∀rs∈r2,rs.length≤6) (l1:r1.length≤2) (l2:r2.length≤2) (vs:List Wd):
  (∀ts,gD r1 r2 vs= .inr ts→∃ts',gD r2 r1 vs= .inr ts'∧(ts'.map (·.1)).Perm ((ts.map (·.1)).map flp))∧(∀t,gD r1 r2 vs= .inl t→∃t',gD r2 r1 vs= .inl t'∧t'.length=t.length):=by
 obtain ⟨a1,a2⟩:=iZ h1 h2 l1 l2 vs
 obtain ⟨b1,b2⟩:=iZ h2 h1 l2 l1 vs
 refine ⟨fun ts e=> ?_,fun t e=> ?_⟩
 ·obtain ⟨c1,c2,c3⟩:=a2 ts e
  cases e':gD r2 r1 vs with
  | inl t'=>
   obtain ⟨ov,bad,_⟩:=b1 t' e'
   rw [kY,(c3 t' ov).1] at bad
   cases bad
  | inr ts'=>
   obtain ⟨d1,d2,d3⟩:=b2 ts' e'
   have nd:((ts.map (·.1)).map flp).Nodup:=List.pairwise_map.mpr (c2.imp fun hne z=>hne (flp_inj z))
   refine ⟨ts',rfl,(List.perm_ext_iff_of_nodup d2 nd).mpr fun r=>⟨fun h=> ?_,fun h=> ?_⟩⟩
   ·obtain ⟨u,hu,rfl⟩:=List.mem_map.mp h
    obtain ⟨e1,ov,_⟩:=d1 u hu
    rw [←e1,row_flp]
    exact List.mem_map.mpr ⟨_,(c3 u.2 ov).2,rfl⟩
   ·obtain ⟨s,hs,rfl⟩:=List.mem_map.mp h
    obtain ⟨u,hu,rfl⟩:=List.mem_map.mp hs
    obtain ⟨e1,ov,_⟩:=c1 u hu
    rw [←e1,←row_flp]
    exact (d3 u.2 ov).2
 ·obtain ⟨ov,bad,low⟩:=a1 t e
  cases e':gD r2 r1 vs with
  | inr ts'=>
   have:=((b2 ts' e').2.2 t ov).1
   rw [kY,bad] at this
   cases this
  | inl t'=>
   obtain ⟨ov',bad',low'⟩:=b1 t' e'
   refine ⟨t',rfl,?_⟩
   rcases Nat.lt_trichotomy t'.length t.length with h | h | h
   ·have:=low t' ov' h
    rw [kY] at bad'
    rw [bad'] at this
    cases this
   ·exact h
   ·have:=low' t ov h
    rw [kY,bad] at this
    cases this
theorem self_same (h1:∀rs∈r1,rs.length≤6) (l1:r1.length≤2) (vs:List Wd):∃ts,gD r1 r1 vs= .inr ts∧(ts.map (·.1)).Nodup∧(∀r∈ts.map (·.1),RowOk r1 r1 r∧r.q=r.p∧r.a= []∧r.b= []):=by
 obtain ⟨a1,a2⟩:=iZ h1 h1 l1 l1 vs
 cases e:gD r1 r1 vs with
 | inl t=>
  have:=(a1 t e).2.1
  rw [good_self] at this
  cases this
 | inr ts=>
  obtain ⟨c1,c2,_⟩:=a2 ts e
  refine ⟨ts,rfl,c2,fun r hr=> ?_⟩
  obtain ⟨u,hu,rfl⟩:=List.mem_map.mp hr
  obtain ⟨e1,_,k⟩:=c1 u hu
  refine ⟨k,?_⟩
  rw [←e1,uZ]
  unfold clo
  rw [cpl_self,List.drop_length]
  exact ⟨rfl,rfl,rfl⟩
theorem self_few {a:Nat} (h1:∀rs∈r1,rs.length≤a) (l1:r1.length≤2) {rows:List RowC} (nd:rows.Nodup) (h:∀r∈rows,RowOk r1 r1 r∧r.q=r.p∧r.a= []∧r.b= []):rows.length≤(1+2*a) ^ 2:=by
 have e:(rows.map fun r=>r.p).Nodup:=by
  refine List.pairwise_map.mpr (List.Pairwise.imp_of_mem (fun {x y} hx hy hne z=>hne ?_) nd)
  obtain ⟨kx,qx,_⟩:=h x hx
  obtain ⟨ky,qy,_⟩:=h y hy
  exact kx.inj ky z (by rw [qx,qy,z])
 have:=iH (ys:=tW r1) e fun p hp=>by
  obtain ⟨r,hr,rfl⟩:=List.mem_map.mp hp
  exact (h r hr).1.p
 rw [List.length_map] at this
 exact Nat.le_trans this (Nat.le_trans (oK r1 h1) (Nat.pow_le_pow_right (by omega) l1))
end
structure RowF (r:RowC):Prop where
 s:RowS r
 lp:r.p.length≤2
 lq:r.q.length≤2
 one:r.a= []∨r.b= []
theorem row_f {r1 r2:List Rl} (l1:r1.length≤2) (l2:r2.length≤2) (h1:∀rs∈r1,RuOk rs) (h2:∀rs∈r2,RuOk rs) {r:RowC} (h:RowOk r1 r2 r):RowF r:=
 ⟨row_s l1 l2 h1 h2 h,by rw [(gH h.p).1];exact l1,by rw [(gH h.q).1];exact l2,h.one⟩
theorem RowF.sh {r:RowC} (h:RowF r):(pyE (bH r)).shown.length≤850:=by
 have h1:=wY h.s.p
 have h2:=wY h.s.q
 have h3:=wY h.s.a
 have h4:=wY h.s.b
 have l1:=h.lp
 have l2:=h.lq
 have l3:=h.s.la
 have l4:=h.s.lb
 have e:(pyE (bH r)).shown=tupleText [(pyE (dC r.p)).shown,(pyE (dC r.q)).shown,(pyE (dC r.a)).shown,(pyE (dC r.b)).shown]:=by
  show (pyE (.tup [dC r.p,dC r.q,dC r.a,dC r.b])).shown=_
  simp only [pyE,tZ,PyData.shown,PyData.shownAll]
 have h5:=tupleText_len_le [(pyE (dC r.p)).shown,(pyE (dC r.q)).shown,(pyE (dC r.a)).shown,(pyE (dC r.b)).shown]
 simp only [List.map_cons,List.map_nil,List.sum_cons,List.sum_nil,List.length_cons,List.length_nil] at h5
 rw [e]
 rcases h.one with z | z
 ·rw [z] at h3 l3 h5 ⊢
  simp only [List.length_nil] at h3
  omega
 ·rw [z] at h4 l4 h5 ⊢
  simp only [List.length_nil] at h4
  omega
structure TbF (T:List D):Prop where
 row:∀d∈T,∃r:RowC,d=bH r∧RowF r
 len:T.length≤10000
theorem tb_shownF {T:List D} (h:TbF T):wV [.str "same",.tup T]=true∧(pyE (.tup [.str "same",.tup T])).showable=true∧(pyE (.tup [.str "same",.tup T])).depth≤60∧(pyE (.tup [.str "same",.tup T])).shown.length≤sizeLine∧SOk (pyE (.tup [.str "same",.tup T])).shown:=by
 have hw:shw (.tup [.str "same",.tup T])=true:=by
  rw [shw,aAu,aAu,aAu,shw,shw,asc_same,uV fun d hd=>by
   obtain ⟨r,rfl,hr⟩:=h.row d hd
   exact hr.s.sh.2]
  rfl
 obtain ⟨h1,h2,h3,h4⟩:=zA _ hw
 have hT:(pyE (.tup T)).shown.length≤8520003:=by
  have:=zE (ds:=T) (n:=850) fun d hd=>by
   obtain ⟨r,rfl,hr⟩:=h.row d hd
   exact hr.sh
  have:(850+2)*T.length≤(850+2)*10000:=Nat.mul_le_mul_left _ h.len
  omega
 have hs:(pyE (.str "same")).shown.length≤82:=by
  rw [pyE,PyData.shown]
  refine Nat.le_trans (reprText_len _ ?_) ?_
  ·decide+kernel
  ·decide+kernel
 have hz:(pyE (.tup [.str "same",.tup T])).shown.length≤sizeLine:=by
  have e:(pyE (.tup [.str "same",.tup T])).shown=tupleText [(pyE (.str "same")).shown,(pyE (.tup T)).shown]:=by
   simp only [pyE,tZ,PyData.shown,PyData.shownAll]
  rw [e,bU]
  have:=two_sum (pyE (.str "same")).shown (pyE (.tup T)).shown
  omega
 refine ⟨by rw [okE] at h1;exact h1,h4,?_,hz,⟨hz,(DL.aAc).mpr (qY _ h3)⟩⟩
 refine Nat.le_trans (oZ (n:=10) fun d hd=> ?_) (by decide)
 simp only [List.mem_cons,List.not_mem_nil,or_false] at hd
 rcases hd with rfl | rfl
 ·rw [pyE]
  exact Nat.le_of_ble_eq_true rfl
 ·refine Nat.le_trans (oZ (n:=4) fun d hd=> ?_) (by decide)
  obtain ⟨r,rfl,_⟩:=h.row d hd
  exact depE_row r
theorem pO (ms:List RowC):∃ns:List RowC,(ms.map bH).mergeSort leD=ns.map bH∧ns.Perm ms:=DV.perm_map_inv (List.mergeSort_perm _ _)
end K
namespace K
open PySem PySem.Spec PyProof.Rows L2 DL
theorem aAI {α β:Type} {f:α→β} {P:α→Prop}:∀{ds:List β},(∀d∈ds,∃r,d=f r∧P r)→∃rs:List α,ds=rs.map f∧∀r∈rs,P r
 | [],_=>⟨[],rfl,fun r hr=>nomatch hr⟩
 | d::ds,h=>by
  obtain ⟨r,rfl,hr⟩:=h d List.mem_cons_self
  obtain ⟨rs,rfl,hrs⟩:=aAI fun e he=>h e (List.mem_cons_of_mem _ he)
  refine ⟨r::rs,rfl,fun x hx=> ?_⟩
  rcases List.mem_cons.mp hx with rfl | hx
  ·exact hr
  ·exact hrs x hx
theorem set_table {ns:List RowC} (nd:ns.Nodup) (so:(ns.map bH).mergeSort leD=ns.map bH) {es:List D} (hsub:∀d∈es,d∈ns.map bH) (hnd:(es.map nk).Nodup) (hk:∀k,k∈es.map nk↔k∈(ns.map bH).map nk):es.mergeSort leD=ns.map bH:=by
 obtain ⟨qs,rfl,hq⟩:=aAI (ds:=es) (f:=bH) (P:=fun r=>r∈ns) fun d hd=>by
  obtain ⟨r,hr,rfl⟩:=List.mem_map.mp (hsub d hd)
  exact ⟨r,rfl,hr⟩
 rw [List.map_map] at hnd
 have qn:qs.Nodup:=(List.pairwise_map.mp hnd).imp fun hne e=>hne (by rw [e])
 have back:∀r∈ns,r∈qs:=fun r hr=>by
  have h:=(hk (nk (bH r))).mpr (List.mem_map_of_mem (List.mem_map_of_mem hr))
  obtain ⟨d,hd,e⟩:=List.mem_map.mp h
  obtain ⟨s,hs,rfl⟩:=List.mem_map.mp hd
  rw [←nk_row_inj e]
  exact hs
 have pm:qs.Perm ns:=(List.perm_ext_iff_of_nodup qn nd).mpr fun r=>⟨hq r,back r⟩
 rw [tables_same pm,so]
section
variable {P:Program} {w:World} {K:PySem.W.Frag} {mg:Str→Option Value} {base:Heap} {f:Addr} {fd:FuncData} {BK CH:Addr}
def rZ:SpA:=fun ds L Q _=> ∃(rss:List Rl) (nm:List Wd),ds= [dSd rss]∧1≤rss.length∧rss.length≤2∧(∀rs∈rss,RuOk rs)∧(∀rs∈rss,rs.length≤5)∧nm.length≤7∧(∀k∈cG rss,k∈nm)∧Q (.bl true) L
set_option maxHeartbeats 0 in
theorem ok_itself (F:Fun K "_law_itself_right" "_law_itself_right" bG f fd) (hb:Binds K fd ["_law_side_here"] []) (B:Bl mg) (hsy:∃o,base.get? sysModules=some o) (d6:Def P w K mg base "_law_side" 14 (uO CH BK)) (d7:Def P w K mg base "compare" 8 (jT CH BK)):FnG P w K mg base 15 f rZ:=by
 refine fnG F sc__law_itself_right hb (fun ds L Q R h=>by obtain ⟨_,_,rfl,_⟩:=h;rfl) fun cdv A outer s H E ds L Q R hr hg h=> ?_
 obtain ⟨rss,nm,rfl,lo,hi,R1,f5,hnm,hin,q⟩:=h
 have hin2:∀k,k∈cG rss∨k∈cG rss→k∈nm:=fun k h=>h.elim (hin k) (hin k)
 have x1:∀rs∈rss,rs.length≤6:=fun rs h=>(R1 rs h).len
 refine aJ (tQ 1 2 (aC (aH d6 (hr.mono (by omega)) (aC (aA 0 rfl (aD ⟨rss,rfl,lo,hi,R1,fun x hx=>aC (aH d6 (hr.mono (by omega)) (aC (aA 0 rfl (aD ⟨rss,rfl,lo,hi,R1,fun y hy=>aD ⟨_,_,rfl,?_⟩⟩))))⟩))))))
 refine aJ (aY 3 (aH d7 (hr.mono (by omega)) (aC (aA 1 rfl (aC (aA 2 rfl (aD ⟨x,y,rss,rss,nm,rfl,hx.rw R1,hy.rw R1,hnm,hin2,fun vs hA=> ?_⟩)))))))
 obtain ⟨ts,ec,nd,hrow⟩:=self_same x1 hi vs
 obtain ⟨ns,e1,pm⟩:=pO (ts.map (·.1))
 have eT:(ts.map fun x=>bH x.1).mergeSort leD=ns.map bH:=by rw [←e1,List.map_map];rfl
 have so:(ns.map bH).mergeSort leD=ns.map bH:=by rw [←e1];exact sort_twice
 have nn:ns.Nodup:=pm.nodup_iff.mpr nd
 have hrow2:∀r∈ns,RowOk rss rss r∧r.q=r.p∧r.a= []∧r.b= []:=fun r hr=>hrow r (pm.mem_iff.mp hr)
 have few:=self_few f5 hi nn hrow2
 have few:ns.length≤121:=Nat.le_trans few (by decide)
 have eC:∀vs',AlOk rss rss vs'→dCmp (gD rss rss vs')= .tup [.str "same",.tup (ns.map bH)]:=fun vs' hA'=>by
  have ev:vs'=vs:=oR hA'.up hA.up fun k=>(hA'.mem k).trans (hA.mem k).symm
  rw [ev,ec]
  show D.tup [.str "same",.tup ((ts.map fun x=>bH x.1).mergeSort leD)]=_
  rw [eT]
 rw [eC vs hA]
 have tbr:∀d∈ns.map bH,∃r:RowC,d=bH r∧RowF r:=fun d hd=>by
  obtain ⟨r,hr,rfl⟩:=List.mem_map.mp hd
  exact ⟨r,rfl,row_f hi hi R1 R1 (hrow2 r hr).1⟩
 have tb:TbF (ns.map bH):=⟨tbr,by rw [List.length_map];omega⟩
 obtain ⟨z1,z2,z3,z4,z5⟩:=tb_shownF tb
 have e0:atI [D.str "same",.tup (ns.map bH)] ((0:Nat):Int)=some (.str "same"):=atI_nat rfl
 have e2:atI [D.str "same",.tup (ns.map bH)] ((1:Nat):Int)=some (.tup (ns.map bH)):=atI_nat rfl
 obtain ⟨sh,hsh⟩:∃s,s=(pyE (.tup [.str "same",.tup (ns.map bH)])).shown:=⟨_,rfl⟩
 refine aJ (cX (aAT (uB (at_ne (u64 hr) (bJ (nA (u1 hr)) (aA 3 rfl (aG (ixt e0 (lA (aBG ⟨_,rfl,fun h=>absurd h (by decide+kernel),fun h=> ?_⟩))))))))))
 refine tM (at_ne (u64 hr) (aP (pC hg hsy) B.repr (aC (aH d7 (hr.mono (by omega)) (aC (aA 1 rfl (aC (aA 1 rfl (aD ⟨x,x,rss,rss,nm,rfl,hx.rw R1,hx.rw R1,hnm,hin2,fun vs' hA'=> ?_⟩)))))))))
 rw [eC vs' hA']
 refine aD (zW z1 z2 (u64 hr) z3 z4 z5 (aP (pC hg hsy) B.repr (aC (aA 3 rfl (aD (zW z1 z2 (u64 hr) z3 z4 z5 ?_))))))
 rw [←hsh]
 refine aBG ⟨_,rfl,fun h=> ?_,fun _=>bO ?_⟩
 ·rw [decide_eq_true rfl] at h
  cases h
 refine aJ (tR (mQ (bJ (nA (u1 hr)) (aA 3 rfl (aG (ixt e2 ⟨_,rfl,fun hz=> ?_⟩))))))
 refine ⟨fun i Γ2 L2=>L2=L∧∃g4,Γ2= [some (dSd rss),some x,some y,some (.tup [.str "same",.tup (ns.map bH)]),g4],⟨rfl,_,rfl⟩,fun _ _ _ _=>trivial,?_,?_⟩
 ·rintro i d Γ2 L2 hd ⟨rfl,g4,rfl⟩
  rw [List.getElem?_map] at hd
  obtain ⟨r,er,rfl⟩:=Option.map_eq_some_iff.mp hd
  obtain ⟨hok,eq,ea,eb⟩:=hrow2 r (List.mem_of_getElem? er)
  have hpl:=(gH hok.p).1
  obtain ⟨p0,p,a,b⟩:=r
  simp only at eq ea eb hpl
  subst eq ea eb
  have i0:atI [dC p,dC p,dC [],dC []] ((0:Nat):Int)=some (dC p):=atI_nat rfl
  have i1:atI [dC p,dC p,dC [],dC []] ((1:Nat):Int)=some (dC p):=atI_nat rfl
  have c2:cut [dC p,dC p,dC [],dC []] (some 2) none= [.tup [],.tup []]:=lL _ 2
  refine ⟨_,_,aM 4,?_⟩
  refine aO (cX (aAT (uB (at_ne (u64 hr) (bJ (nA (u1 hr)) (aA 4 rfl (aG (ixt i0 (bJ (nA (u1 hr)) (aA 4 rfl (aG (ixt i1 (aBR ⟨_,rfl,fun h=> ?_,fun h=> ?_⟩)))))))))))))
  ·rw [decide_eq_true rfl] at h
   cases h
  refine uB (at_ne (u64 hr) (iI sl_tupA (aA 4 rfl (lO (aG ⟨_,rfl,lQ (aAd (bM (aC (bM (aD ⟨Nat.le_of_ble_eq_true rfl,aC (bM (aD ⟨Nat.le_of_ble_eq_true rfl,aD ⟨Nat.le_of_ble_eq_true rfl,?_⟩⟩))⟩)))))⟩)))))
  rw [c2]
  refine ne_self rfl (Nat.le_of_ble_eq_true rfl) ⟨_,rfl,(fun z=>nomatch z),fun _=> ?_⟩
  refine tM (at_ne (u64 hr) (jL B.len (bJ (nA (u1 hr)) (aA 4 rfl (aG (ixt i0 (len_T (jL B.len (aA 0 rfl (len_T (aBQ ⟨_,rfl,fun h=> ?_,fun h=>bO ⟨rfl,_,rfl⟩⟩)))))))))))
  rw [List.length_map,List.length_map,hpl] at h
  simp at h
 ·rintro Γ2 L2 ⟨rfl,g4,rfl⟩
  obtain ⟨ok1,ok2⟩:=tb_okD (T:=ns.map bH) fun d hd=>by
   obtain ⟨r,_,rfl⟩:=List.mem_map.mp hd
   exact ⟨r,rfl⟩
  have okT:okD (.tup (ns.map bH))=true:=by
   rw [okD,gA,gA,gA,Bool.and_eq_true,Bool.and_eq_true] at ok1
   exact ok1.2.1
  have dpT:(py (.tup (ns.map bH))).depth≤64:=Nat.le_trans (rG (n:=4) fun d hd=>by
   obtain ⟨r,_,rfl⟩:=List.mem_map.mp hd
   exact yL r) (by decide)
  refine aO (aX (aA4 (u64 hr) (AE.drop (aR call_tuple_of B.tuple (aC (DV.ae_sortSetT (yV hr) B.sorted B.set (bJ (nA (u1 hr)) (aA 3 rfl (aG (ixt e2 ⟨ns.map bH,rfl,fun d hd=> ?_,by rw [List.length_map];omega,fun es hes=> ?_,fun t es ht hsub hnd hk=>aD (mJ aF ⟨L2,aU ht,?_⟩)⟩))))))))))
  ·obtain ⟨r,_,rfl⟩:=List.mem_map.mp hd
   exact ⟨⟨_,rfl⟩,qF r,qH r,okD_row r,Nat.le_trans (yL r) (by decide)⟩
  ·obtain ⟨qs,rfl,_⟩:=aAI (ds:=es) (f:=bH) (P:=fun _=>True) fun d hd=>by
    obtain ⟨r,_,rfl⟩:=List.mem_map.mp (hes d hd)
    exact ⟨r,rfl,trivial⟩
   have hk:(qs.map bH)=(dTx (qs.map fun r=>(r,([]:List Wd)))).map (·.1):=by unfold dTx;rw [List.map_map,List.map_map];rfl
   rw [hk]
   exact ⟨tL _,mH _⟩
  rw [set_table nn so hsub hnd hk]
  exact bJ (nA (u1 hr)) (aA 3 rfl (aG (ixt e2 (eq_self okT dpT ⟨_,.refl _,q⟩))))
end
end K
namespace K
open PySem PySem.Spec PyProof.Rows L2 DL
theorem csD_of {zs:List Cell} (h:zs.length≤2) (hz:∀c∈zs,ceD (dW c)=true):csD (dC zs)=true:=by
 show (decide ((zs.map dW).length≤2) && (zs.map dW).all ceD)=true
 rw [List.length_map,decide_eq_true h,List.all_map,Bool.true_and,List.all_eq_true]
 exact hz
theorem kyD_of {ks:List Wd} (hw:∀x∈ks,wdS x=true) (h1:1≤ks.length) (h3:ks.length≤3):kyD (dW ks)=true:=by
 show ((ks.map D.str).all wdD && decide (1≤(ks.map D.str).length) && decide ((ks.map D.str).length≤3))=true
 rw [List.length_map,decide_eq_true h3,decide_eq_true h1,List.all_map,Bool.and_true,Bool.and_true,List.all_eq_true]
 exact hw
theorem ceD_one {x:Str} (h:wdS x=true):ceD (dW [x])=true:=by
 rw [zV]
 simp [h,adj]
structure TbO (ys:List Str) (rs:Rl):Prop where
 nd:(rs.map (·.1)).Nodup
 all:∀r∈rs,kyD (dW r.1)=true∧csD (dC r.2)=true
 win:WIn rs ys
theorem TbO.put {ys:List Str} {rs:Rl} (h:TbO ys rs) {ks:List Str} {zs:List Cell} (h1:kyD (dW ks)=true) (h2:csD (dC zs)=true) (h3:∀x∈ks,x∈ys) (h4:∀z∈zs,∀x∈z,x∈ys):TbO ys (vC rs ks zs):=by
 refine ⟨putR_nodup h.nd,fun r hr=> ?_,fun r hr=> ?_⟩
 ·rcases rD hr with e | e
  ·rw [e];exact ⟨h1,h2⟩
  ·exact h.all r e
 ·rcases rD hr with e | e
  ·rw [e];exact ⟨h3,h4⟩
  ·exact h.win r e
theorem TbO.ne {ys:List Str} {rs:Rl} (h:TbO ys rs):∀r∈rs,r.1≠ []:=fun r hr e=>by
 have:=(qI (h.all r hr).1).2.1
 rw [e] at this
 exact absurd this (by decide)
theorem TbO.ok {ys:List Str} {rs:Rl} (h:TbO ys rs) (h6:rs.length≤6):RuOk (srt rs):=
 ⟨by rw [(bB rs).length_eq];exact h6,fun r hr=>(h.all r ((bB rs).mem_iff.mp hr)).1,fun r hr=>(h.all r ((bB rs).mem_iff.mp hr)).2,uM h.nd⟩
structure Kin (ys:List Str) (m:Nat) (rss rss':List Rl):Prop where
 lo:1≤rss'.length
 hi:rss'.length≤2
 ok:∀r∈rss',RuOk r
 few:∀r∈rss',r.length≤m+1
 wds:∀r∈rss',WIn r ys
 one:rss'.length=2→rss.length=2∨ []∈rss'
theorem ru_nil:RuOk ([]:Rl):=⟨Nat.zero_le _,(fun r h=>nomatch h),(fun r h=>nomatch h),List.Pairwise.nil⟩
theorem NI_dlt {L M:Lp} {p t:Addr} {mo:MO} (h:NI L M p mo) (ht:L t=none) (hp:t≠p):NI L (DL.del M t) p mo:=
 ⟨fun a u e ha=>by rw [DL.del_ne (aQ e ht)];exact h.le a u e ha,by rw [DL.del_ne hp.symm];exact h.p⟩
def aBD (L:Lp) (p nl:Addr) (k m wy at_:Nat) (ys:List Str) (rss:List Rl) (j:Nat) (Γ':Gm) (M:Lp):Prop:= ∃(dl:Addr) (us:Rl) (mo':MO) (g6 g7 g8:Option D),NI L M p mo'∧M dl=some (.dct (tbl us))∧L dl=none∧dl≠p∧TbO ys us∧us.length≤m+1∧(j≤wy→us.length≤m)∧bZ (k+2+50*j) mo'∧
 Γ'= [some (.ptr p),some (dSd rss),some (.ptr nl),some (.int (wy:Nat)),some (.int (at_:Nat)),some (.ptr dl),g6,g7,g8,none]
section
variable {P:Program} {w:World} {K:PySem.W.Frag} {mg:Str→Option Value} {base:Heap} {f:Addr} {fd:FuncData}
def aAt:SpA:=fun ds L Q _=> ∃(p nl:Addr) (mo:MO) (k m:Nat) (ys:List Str) (rss:List Rl),ds= [.ptr p,dSd rss,.ptr nl]∧L p=some mo∧bZ k mo∧k≤20000∧m≤5∧NmOk L p nl ys∧Side ys m rss∧∀(rss':List Rl) mo' M,NI L M p mo'→Kin ys m rss rss'→bZ (k+250) mo'→Q (dSd rss') M
set_option maxHeartbeats 0 in
theorem ok_kin (F:Fun K "_law_kin" "_law_kin" dU f fd) (hb:Binds K fd ["_law_pot_here","_law_side_here","_law_names_here"] []) (B:Bl mg) (d1:Def P w K mg base "_law_take" 1 lF) (d2:Def P w K mg base "_law_of" 2 xU) (d3:Def P w K mg base "_law_key" 3 yZ) (d4:Def P w K mg base "_law_cells" 4 qX):FnA P w K mg base 5 f aAt:=by
 refine fnA F sc__law_kin hb (fun ds L Q R h=>by obtain ⟨_,_,_,_,_,_,_,rfl,_⟩:=h;rfl) fun cdv A outer s H E ds L Q R hr h=> ?_
 obtain ⟨p,nl,mo,k,m,ys,rss,rfl,hp,hpot,hk,hm,hn,hs,q⟩:=h
 have I:=NI.refl hp
 have lo:=hs.lo
 have hi:=hs.hi
 refine aJ (tQ 3 4 (aC (aH d1 (hr.mono (by omega)) (aC (aA 0 rfl (aC (aG (aD ⟨p,mo,k,6,rfl,hp,hpot,by omega,by omega,by omega,fun wy mo1 hwy h1=> ?_⟩))))))))
 refine aC (aH d1 (hr.mono (by omega)) (aC (aA 0 rfl (aC (jL B.len (aA 1 rfl (len_T (aD ⟨p,mo1,k+1,rss.length,by rw [List.length_map],aF,h1,by omega,by omega,by omega,fun at_ mo2 hat h2=>aD ⟨_,_,rfl,?_⟩⟩))))))))
 rw [cI]
 have I2:=I.pot (mo':=mo2)
 generalize put L p mo2=M0 at I2 ⊢
 obtain ⟨rs,hrs⟩:∃rs,rss[at_]? =some rs:=⟨_,List.getElem?_eq_getElem hat⟩
 have hrm:=List.mem_of_getElem? hrs
 have hok:=hs.ok rs hrm
 have ers:atI (rss.map dR) ((at_:Nat):Int)=some (dR rs):=atI_nat (by rw [List.getElem?_map,hrs];rfl)
 -- the table
 refine gG (aBD L p nl k m wy at_ ys rss 0) ?_ ?_
 ·refine pH (aR (call_dictPT rfl (yV hr)) B.dict (aC (aR call_list_of B.list (aC (bJ (nA (u1 hr)) (aA 1 rfl (aA 4 rfl (ixt ers (aD (c_lstT fun l hl=>aD (c_dictPT (kds:=tbl rs) (by rw [tbl_pD];exact aF) fun dl hdl=>⟨_,_,aM 5,?_⟩)))))))))))
  have I3:=I2.new (o:= .lst (rs.map dRu)) hl
  rw [mergeD_tbl hok.nd]
  exact ⟨dl,rs,mo2,_,_,_,I3.new hdl,aF,I3.none hdl,I3.ne hdl,⟨hok.nd,fun r hr=>⟨hok.key r hr,hok.cel r hr⟩,hs.wds rs hrm⟩,Nat.le_succ_of_le (hs.few rs hrm),fun _=>hs.few rs hrm,h2,rfl⟩
 rintro Γ' M1 ⟨dl,us,mo3,g6,g7,g8,I3,hD3,hdl,hdp,T,hul,hum,h3,rfl⟩
 have N3:=nmI I3 hn
 -- a rule more
 refine gG (aBD L p nl k m wy at_ ys rss 1) ?_ ?_
 ·refine cX (qN (u64 hr) (aA 3 rfl (aG (aA1 ⟨_,rfl,fun hw=> ?_,fun hw=>bO ⟨dl,us,mo3,_,_,_,I3,hD3,hdl,hdp,T,hul,fun _=>hum (Nat.zero_le _),h3.mono (by omega),rfl⟩⟩))))
  have hw:=of_decide_eq_true hw
  refine aO (qQ (zF (u1 hr)) (aH d4 (hr.mono (by omega)) (aC (aA 0 rfl (aC (aA 2 rfl (aD ⟨p,nl,mo3,k+2,ys,rfl,I3.p,h3,by omega,N3,fun zs mo4 hzs hzi h4=>aA 5 rfl ?_⟩)))))))
  refine aH d3 (hr.mono (by omega)) (aC (aA 0 rfl (aC (aA 2 rfl (aD ⟨p,nl,mo4,k+32,ys,rfl,aF,h4,by omega,N3.put mo4,fun ks mo5 hks hki h5=> ?_⟩)))))
  rw [cI]
  have hD5:put M1 p mo5 dl=some (.dct (tbl us)):=by rw [aK hdp];exact hD3
  have I5:=I3.pot (mo':=mo5)
  generalize put M1 p mo5=M5 at hD5 I5 ⊢
  refine w_W hD5 (by rw [bU];omega) ⟨dl,vC us ks zs,mo5,_,_,_,I5.own hdl hdp,aF,hdl,hdp,T.put hks hzs hki hzi,?_,fun z=>by omega,h5.mono (by omega),rfl⟩
  have:=rE us ks zs
  have:=hum (Nat.zero_le _)
  omega
 clear I3 hD3 hdl hdp T hul hum h3 N3
 rintro Γ' M1 ⟨dl,us,mo3,g6,g7,g8,I3,hD3,hdl,hdp,T,hul,hum,h3,rfl⟩
 -- one rule other
 refine gG (aBD L p nl k m wy at_ ys rss 2) ?_ ?_
 ·refine cX (aAT (zX (qN (u64 hr) (aA 3 rfl (aG (aA1 ⟨_,rfl,fun hw=> ?_,fun hw=>⟨(fun z=>nomatch z),fun _=>bO ⟨dl,us,mo3,_,_,_,I3,hD3,hdl,hdp,T,hul,fun z=>hum (by omega),h3.mono (by omega),rfl⟩⟩⟩))))))
  have hw:=of_decide_eq_true hw
  have hum:=hum (by omega)
  refine wB (tO (aA 5 rfl (wQ fun el hel=> ?_)))
  have I4:=I3.new (o:= .dct []) hel
  have hD4:=aU hel (o:= .dct []) _ _ hD3
  refine j_neD0 (u1 hr) hD4 aF ⟨_,rfl,fun hne=> ?_,fun _=>bO ⟨dl,us,mo3,_,_,_,I4,hD4,hdl,hdp,T,hul,fun z=>hum,h3.mono (by omega),rfl⟩⟩
  generalize put M1 el (.dct [])=M4 at I4 hD4 ⊢
  have hu0:0 < us.length:=by
   cases us with
   | nil=>cases hne
   | cons _ _=>exact Nat.succ_pos _
  have N4:=nmI I4 hn
  refine aO (qQ (zF (u1 hr)) (aH d4 (hr.mono (by omega)) (aC (aA 0 rfl (aC (aA 2 rfl (aD ⟨p,nl,mo3,k+52,ys,rfl,I4.p,h3.mono (by omega),by omega,N4,fun zs mo4 hzs hzi h4=>aA 5 rfl ?_⟩)))))))
  have hD5:put M4 p mo4 dl=some (.dct (tbl us)):=by rw [aK hdp];exact hD4
  have I5:=I4.pot (mo':=mo4)
  generalize put M4 p mo4=M5 at hD5 I5 ⊢
  refine aH d2 (hr.mono (by omega)) (aC (aA 0 rfl (aC (aP (pA (yV hr)) B.sorted (aC (aR (lM rfl) B.list (aC (aA 5 rfl (aD (rK hD5 (by rw [pN,bU];omega) fun l1 hl1=>aD (rJ (rs:=us) (by rw [aF,jC]) T.ne fun l2 hl2=> ?_)))))))))))
  have I6:=I5.new (o:= .lst ((tbl us).map fun x=>kD x.1)) hl1
  have I7:=I6.new (o:= .lst ((srt us).map fun r=>dW r.1)) hl2
  have hD7:=aU hl2 (o:= .lst ((srt us).map fun r=>dW r.1)) _ _ (aU hl1 (o:= .lst ((tbl us).map fun x=>kD x.1)) _ _ hD5)
  refine aD ⟨p,l2,mo4,k+82,_,rfl,I7.p,h4.mono (by omega),by omega,aF,I6.ne hl2,by rw [List.length_map,(bB us).length_eq];exact hu0,by rw [List.length_map,(bB us).length_eq];omega,fun d mo5 hd h5=> ?_⟩
  obtain ⟨r,hr2,rfl⟩:=List.mem_map.mp hd
  have hru:=(bB us).mem_iff.mp hr2
  have I8:=I7.pot (mo':=mo5)
  refine w_W (L:=put _ p mo5) (by rw [aK hdp];exact hD7) (by rw [bU];omega) ⟨dl,vC us r.1 zs,mo5,_,_,_,I8.own hdl hdp,aF,hdl,hdp,T.put (T.all r hru).1 hzs (T.win r hru).1 hzi,?_,fun z=>by omega,h5.mono (by omega),rfl⟩
  have:=rE us r.1 zs
  omega
 clear I3 hD3 hdl hdp T hul hum h3
 rintro Γ' M1 ⟨dl,us,mo3,g6,g7,g8,I3,hD3,hdl,hdp,T,hul,hum,h3,rfl⟩
 -- a rule less
 refine gG (aBD L p nl k m wy at_ ys rss 3) ?_ ?_
 ·refine cX (aAT (zX (qN (u64 hr) (aA 3 rfl (aG (aA1 ⟨_,rfl,fun hw=> ?_,fun hw=>⟨(fun z=>nomatch z),fun _=>bO ⟨dl,us,mo3,_,_,_,I3,hD3,hdl,hdp,T,hul,fun z=>hum (by omega),h3.mono (by omega),rfl⟩⟩⟩))))))
  have hw:=of_decide_eq_true hw
  have hum:=hum (by omega)
  refine wB (tO (aA 5 rfl (wQ fun el hel=> ?_)))
  have I4:=I3.new (o:= .dct []) hel
  have hD4:=aU hel (o:= .dct []) _ _ hD3
  refine j_neD0 (u1 hr) hD4 aF ⟨_,rfl,fun hne=> ?_,fun _=>bO ⟨dl,us,mo3,_,_,_,I4,hD4,hdl,hdp,T,hul,fun z=>hum,h3.mono (by omega),rfl⟩⟩
  generalize put M1 el (.dct [])=M4 at I4 hD4 ⊢
  have hu0:0 < us.length:=by
   cases us with
   | nil=>cases hne
   | cons _ _=>exact Nat.succ_pos _
  refine aJ (pH (aH d2 (hr.mono (by omega)) (aC (aA 0 rfl (aC (aP (pA (yV hr)) B.sorted (aC (aR (lM rfl) B.list (aC (aA 5 rfl (aD (rK hD4 (by rw [pN,bU];omega) fun l1 hl1=>aD (rJ (rs:=us) (by rw [aF,jC]) T.ne fun l2 hl2=> ?_)))))))))))))
  have I6:=I4.new (o:= .lst ((tbl us).map fun x=>kD x.1)) hl1
  have I7:=I6.new (o:= .lst ((srt us).map fun r=>dW r.1)) hl2
  have hD7:=aU hl2 (o:= .lst ((srt us).map fun r=>dW r.1)) _ _ (aU hl1 (o:= .lst ((tbl us).map fun x=>kD x.1)) _ _ hD4)
  refine aD ⟨p,l2,mo3,k+102,_,rfl,I7.p,h3.mono (by omega),by omega,aF,I6.ne hl2,by rw [List.length_map,(bB us).length_eq];exact hu0,by rw [List.length_map,(bB us).length_eq];omega,fun d mo5 hd h5=> ?_⟩
  obtain ⟨r,hr2,rfl⟩:=List.mem_map.mp hd
  refine ⟨_,_,aM 6,?_⟩
  have I8:=I7.pot (mo':=mo5)
  have hD8:put (put (put M4 l1 (.lst ((tbl us).map fun x=>kD x.1))) l2 (.lst ((srt us).map fun r=>dW r.1))) p mo5 dl=some (.dct (tbl us)):=by rw [aK hdp];exact hD7
  generalize put (put (put M4 l1 (.lst ((tbl us).map fun x=>kD x.1))) l2 (.lst ((srt us).map fun r=>dW r.1))) p mo5=M8 at I8 hD8 ⊢
  show ASs _ _ [some (.ptr p),some (dSd rss),some (.ptr nl),some (.int (wy:Nat)),some (.int (at_:Nat)),some (.ptr dl),some (dW r.1),g7,g8,none] _ _
  refine ass_frz 5 rfl (frz_dct hD8) ?_
  have I9:=NI_dlt I8 hdl hdp
  show ASs _ _ [some (.ptr p),some (dSd rss),some (.ptr nl),some (.int (wy:Nat)),some (.int (at_:Nat)),some (.fdct (tbl us)),some (dW r.1),g7,g8,none] _ _
  generalize del M8 dl=M9 at I9 ⊢
  refine aO (pH (aR (call_dictPT rfl (yV hr)) B.dict (aC (aBI (al_filt1 7 (ai_fdct (aA 5 rfl ⟨tbl us,rfl,List Wd×List Cell,us,(fun z=>dW z.1),(fun z=> !decide (z.1=r.1)),dRu,jC us,trivial,by rw [List.length_map,pN,bU];omega,fun z hz s H Cc cl fp=>⟨fun Q q=> ?_,fun _ Q q=> ?_⟩,fun l3 hl3=> ?_⟩)))))))
  ·exact at_ne (u64 hr) (aA 7 rfl (aA 6 rfl (aBP ⟨_,rfl,q⟩)))
  ·exact bM (aC (aA 7 rfl (aC (wN (u1 hr) (aA 5 rfl (aA 7 rfl ⟨us,z.1,z.2,rfl,.fz,oE T.nd hz,aD ⟨Nat.le_of_ble_eq_true rfl,q⟩⟩))))))
  ·obtain ⟨vs,hvs⟩:∃vs,us.filter (fun z=> !decide (z.1=r.1))=vs:=⟨_,rfl⟩
   have hvm:∀z∈vs,z∈us:=fun z hz=>by rw [←hvs] at hz;exact (List.mem_filter.mp hz).1
   have hvl:vs.length≤us.length:=by rw [←hvs];exact List.length_filter_le _ _
   have hvn:(vs.map (·.1)).Nodup:=by rw [←hvs];exact T.nd.sublist (List.filter_sublist.map _)
   rw [hvs]
   refine aD (c_dictPT (kds:=tbl vs) (by rw [tbl_pD];exact aF) fun dl2 hdl2=>⟨_,_,aM 5,?_⟩)
   have I10:=I9.new (o:= .lst (vs.map dRu)) hl3
   rw [mergeD_tbl hvn]
   exact ⟨dl2,vs,mo5,_,_,_,I10.new hdl2,aF,I10.none hdl2,I10.ne hdl2,⟨hvn,fun z hz=>T.all z (hvm z hz),fun z hz=>T.win z (hvm z hz)⟩,by omega,fun _=>by omega,h5.mono (by omega),rfl⟩
 clear I3 hD3 hdl hdp T hul hum h3
 rintro Γ' M1 ⟨dl,us,mo3,g6,g7,g8,I3,hD3,hdl,hdp,T,hul,hum,h3,rfl⟩
 have N3:=nmI I3 hn
 -- a rule that changes nothing
 refine gG (aBD L p nl k m wy at_ ys rss 4) ?_ ?_
 ·refine cX (qN (u64 hr) (aA 3 rfl (aG (aA1 ⟨_,rfl,fun hw=> ?_,fun hw=>bO ⟨dl,us,mo3,_,_,_,I3,hD3,hdl,hdp,T,hul,fun z=>hum (by omega),h3.mono (by omega),rfl⟩⟩))))
  have hw:=of_decide_eq_true hw
  have hum:=hum (by omega)
  refine aJ (aY 8 (aH d2 (hr.mono (by omega)) (aC (aA 0 rfl (aC (aA 2 rfl (aD ⟨p,nl,mo3,k+152,_,rfl,I3.p,h3.mono (by omega),by omega,N3.at_,N3.ne,by rw [List.length_map];exact N3.lo,by rw [List.length_map];exact Nat.le_trans N3.hi (by decide),fun d mo4 hd h4=> ?_⟩)))))))
  obtain ⟨x,hx,rfl⟩:=vL hd
  have hxw:=hn.wd x hx
  have I4:=I3.pot (mo':=mo4)
  have hD4:put M1 p mo4 dl=some (.dct (tbl us)):=by rw [aK hdp];exact hD3
  generalize put M1 p mo4=M4 at I4 hD4 ⊢
  refine aO (qQ (zF (u1 hr)) (ae_get2W (u1 hr) (aA 5 rfl ⟨dl,tbl us,rfl,hD4,bM (aC (aA 8 rfl (aD ⟨Nat.le_of_ble_eq_true rfl,bM (aC (bM (aC (aA 8 rfl (aD ⟨Nat.le_of_ble_eq_true rfl,aD ⟨Nat.le_of_ble_eq_true rfl,us,[x],rfl,hD4,?_⟩⟩)))))⟩)))⟩)))
  have fin:∀zs:List Cell,csD (dC zs)=true→(∀z∈zs,∀y∈z,y∈ys)→aBD L p nl k m wy at_ ys rss 4 [some (.ptr p),some (dSd rss),some (.ptr nl),some (.int (wy:Nat)),some (.int (at_:Nat)),some (.ptr dl),g6,g7,some (.str x),none] (put M4 dl (.dct (tbl (vC us [x] zs)))):=fun zs hz1 hz2=>
   ⟨dl,vC us [x] zs,mo4,_,_,_,I4.own hdl hdp,aF,hdl,hdp,T.put (kyD_of (fun y hy=>by rw [List.mem_singleton.mp hy];exact hxw) (Nat.le_refl 1) (by show 1≤3;decide)) hz1 (fun y hy=>by rw [List.mem_singleton.mp hy];exact hx) hz2,by have:=rE us [x] zs;omega,fun z=>by omega,h4.mono (by omega),rfl⟩
  cases e:lk us [x] with
  | some z=>exact aA 5 rfl (bM (aC (aA 8 rfl (aD ⟨Nat.le_of_ble_eq_true rfl,w_W (k:= [x]) (z:=z) hD4 (by rw [bU];omega) (fin z (T.all _ (xG e)).2 (T.win _ (xG e)).2)⟩))))
  | none=>
   refine aA 5 rfl (bM (aC (aA 8 rfl (aD ⟨Nat.le_of_ble_eq_true rfl,w_W (k:= [x]) (z:= [[x]]) hD4 (by rw [bU];omega) (fin [[x]] (csD_of (by show 1≤2;decide) fun c hc=>by rw [List.mem_singleton.mp hc];exact ceD_one hxw) fun z hz y hy=> ?_)⟩))))
   rw [List.mem_singleton.mp hz] at hy
   rw [List.mem_singleton.mp hy]
   exact hx
 clear I3 hD3 hdl hdp T hul hum h3 N3
 rintro Γ' M1 ⟨dl,us,mo3,g6,g7,g8,I3,hD3,hdl,hdp,T,hul,hum,h3,rfl⟩
 clear hum
 have h6:us.length≤6:=by omega
 have hlu:(srt us).length=us.length:=(bB us).length_eq
 have hro:=T.ok h6
 refine aJ (aY 9 (aR call_list_of B.list (aC (aA 1 rfl (aD (c_lstT fun bl hbl=> ?_))))))
 have I4:=I3.new (o:= .lst (rss.map dR)) hbl
 have hD4:=aU hbl (o:= .lst (rss.map dR)) _ _ hD3
 have hB4:put M1 bl (.lst (rss.map dR)) bl=some (.lst (rss.map dR)):=aF
 have hbl0:=I3.none hbl
 have hblp:=I3.ne hbl
 generalize put M1 bl (.lst (rss.map dR))=M4 at I4 hD4 hB4 ⊢
 refine gG (fun Γ' M=> ∃g6':Option D,NI L M p mo3∧M bl=some (.lst ((rss.set at_ (srt us)).map dR))∧Γ'= [some (.ptr p),some (dSd rss),some (.ptr nl),some (.int (wy:Nat)),some (.int (at_:Nat)),some (.ptr dl),g6',g7,g8,some (.ptr bl)]) ?_ ?_
 ·refine cX (at_le (jL B.len (aA 5 rfl (len_D (.st hD4) (aG (le_I ⟨_,rfl,fun _=> ?_,fun z=> ?_⟩))))))
  rotate_left
  ·have z:=of_decide_eq_false z
   rw [pN] at z
   omega
  refine aO (qQ set_list (wJ [("_law_key_here",6)] B.tuple (uJ (aP (pA (yV hr)) B.sorted (aC (aR (lM rfl) B.list (aC (aA 5 rfl (aD (rK hD4 (by rw [pN,bU];omega) fun l1 hl1=>aD (rJ (rs:=us) (by rw [aF,jC]) T.ne fun l2 hl2=>⟨l2,_,rfl,aF,fun hz2=>⟨fun d=> .tup [d,dC ((lk us (eO d)).getD [])],aF,hz2,yK (fun j hj=>hj) (fun i d hi s H Cc cl fp=>⟨aM 6,fun Q q=> ?_⟩),?_⟩⟩)))))))))))
  ·rw [List.getElem?_map] at hi
   cases e:(srt us)[i]? with
   | none=>rw [e] at hi;cases hi
   | some r=>
    rw [e] at hi
    cases hi
    have hl3:=oE T.nd ((bB us).mem_iff.mp (List.mem_of_getElem? e))
    refine bM (aC (aA 6 rfl (aC (wN (u1 hr) (aA 5 rfl (aA 6 rfl ⟨us,r.1,r.2,rfl,.st ?_,hl3,aD ⟨by show 2≤sizeLine;decide,?_⟩⟩))))))
    ·exact aU hl2 _ _ (aU hl1 _ _ hD4)
    ·rw [nJ,hl3] at q
     exact q
  ·have e:((srt us).map fun r=>dW r.1).map (fun d=>D.tup [d,dC ((lk us (eO d)).getD [])])=(srt us).map dRu:=by
    rw [List.map_map]
    refine List.map_congr_left fun r hr2=> ?_
    have hl3:=oE T.nd ((bB us).mem_iff.mp hr2)
    show D.tup [dW r.1,dC ((lk us (eO (dW r.1))).getD [])]=dRu r
    rw [nJ,hl3]
    rfl
   rw [e]
   have hB5:=aU hl2 (o:= .lst ((srt us).map fun r=>dW r.1)) _ _ (aU hl1 (o:= .lst ((tbl us).map fun x=>kD x.1)) _ _ hB4)
   refine aA 9 rfl (aA 4 rfl (wX (j:=at_) hB5 (ixN_nat (by rw [List.length_map];exact hat)) ⟨_,((I4.new hl1).new hl2).own hbl0 hblp,?_,rfl⟩))
   rw [aF,List.map_set]
   rfl
 clear I4 hB4 hD4 hD3
 rintro Γ' M5 ⟨g6',I5,hB5,rfl⟩
 obtain ⟨bs,hbs⟩:∃bs,rss.set at_ (srt us)=bs:=⟨_,rfl⟩
 rw [hbs] at hB5
 have hbl:bs.length=rss.length:=by rw [←hbs,List.length_set]
 have hbm:∀r∈bs,RuOk r∧r.length≤m+1∧WIn r ys:=fun r hr=>by
  rw [←hbs] at hr
  rcases List.mem_or_eq_of_mem_set hr with hr | rfl
  ·exact ⟨hs.ok r hr,Nat.le_succ_of_le (hs.few r hr),hs.wds r hr⟩
  ·exact ⟨hro,by omega,fun z hz=>T.win z ((bB us).mem_iff.mp hz)⟩
 have k1:Kin ys m rss bs:=⟨by omega,by omega,fun r hr=>(hbm r hr).1,fun r hr=>(hbm r hr).2.1,fun r hr=>(hbm r hr).2.2,fun z=> .inl (by omega)⟩
 have fin:∀(b2:Addr) (bs2:List Rl) (M:Lp),NI L M p mo3→M b2=some (.lst (bs2.map dR))→Kin ys m rss bs2→ASs (uF P w K mg base ["_law_pot_here","_law_side_here","_law_names_here","_law_way","_law_at","_law_rules","_law_key_here","_law_one","_law_word_here","_law_books"] "_law_kin" (defScope dU) f cdv A outer s H E sc__law_kin.nd R) ((defBody dU).drop 9) [some (.ptr p),some (dSd rss),some (.ptr nl),some (.int (wy:Nat)),some (.int (at_:Nat)),some (.ptr dl),g6',g7,g8,some (.ptr b2)] M (uG Q):=fun b2 bs2 M I6 h hk2=>
  aO (aX (aR call_tuple_of B.tuple (aC (aA 9 rfl (aD (mJ h ⟨M,.refl M,q bs2 mo3 M I6 hk2 (h3.mono (by omega))⟩))))))
 refine gG (fun Γ' M=> ∃(b2:Addr) (bs2:List Rl),NI L M p mo3∧M b2=some (.lst (bs2.map dR))∧Kin ys m rss bs2∧Γ'= [some (.ptr p),some (dSd rss),some (.ptr nl),some (.int (wy:Nat)),some (.int (at_:Nat)),some (.ptr dl),g6',g7,g8,some (.ptr b2)]) ?_ ?_
 rotate_left
 ·rintro Γ' M ⟨b2,bs2,I6,h6,hk6,rfl⟩
  exact fin b2 bs2 M I6 h6 hk6
 have same:∃(b2:Addr) (bs2:List Rl),NI L M5 p mo3∧M5 b2=some (.lst (bs2.map dR))∧Kin ys m rss bs2∧ [some (.ptr p),some (dSd rss),some (.ptr nl),some (.int (wy:Nat)),some (.int (at_:Nat)),some (.ptr dl),g6',g7,g8,some (.ptr bl)]= [some (.ptr p),some (dSd rss),some (.ptr nl),some (.int (wy:Nat)),some (.int (at_:Nat)),some (.ptr dl),g6',g7,g8,some (.ptr b2)]:=⟨bl,bs,I5,hB5,k1,rfl⟩
 have krev:Kin ys m rss bs.reverse:=⟨by rw [List.length_reverse];omega,by rw [List.length_reverse];omega,fun r hr=>(hbm r (List.mem_reverse.mp hr)).1,fun r hr=>(hbm r (List.mem_reverse.mp hr)).2.1,fun r hr=>(hbm r (List.mem_reverse.mp hr)).2.2,fun z=> .inl (by rw [List.length_reverse] at z;omega)⟩
 refine cX (aAT (zX (aA3 (aA 3 rfl (aG (aBH ⟨_,rfl,fun hw=>wB (qN (u64 hr) (jL B.len (aA 1 rfl (len_T (aG (aA1 ⟨_,rfl,fun h1=> ?_,fun _=>aO (cX (qN (u64 hr) (aA 3 rfl (aG (aA1 ⟨_,rfl,fun _=>aO (aY 9 (ae_revL (aA 9 rfl ⟨bl,_,rfl,hB5,fun t ht=>⟨t,bs.reverse,I5.new ht,by rw [aF,List.map_reverse],krev,rfl⟩⟩))),fun _=>bO same⟩)))))⟩)))))),fun _=>⟨fun z=>(nomatch z),fun _=>aO (cX (qN (u64 hr) (aA 3 rfl (aG (aA1 ⟨_,rfl,fun _=>aO (aY 9 (ae_revL (aA 9 rfl ⟨bl,_,rfl,hB5,fun t ht=>⟨t,bs.reverse,I5.new ht,by rw [aF,List.map_reverse],krev,rfl⟩⟩))),fun _=>bO same⟩)))))⟩⟩))))))
 have h1:=of_decide_eq_true h1
 rw [List.length_map] at h1
 have h1:rss.length=1:=by omega
 obtain ⟨b,rfl⟩:∃b,bs= [b]:=by
  match bs,(by omega:bs.length=1) with
  | [b],_=>exact ⟨b,rfl⟩
 have eb:atI ([b].map dR) ((0:Nat):Int)=some (dR b):=atI_nat rfl
 have hb1:=hbm b List.mem_cons_self
 have two:∀bs2:List Rl,bs2= [b,[]]∨bs2= [[],b]→Kin ys m rss bs2:=fun bs2 h=>by
  have hm2:∀r∈bs2,r=b∨r= []:=fun r hr=>by
   rcases h with rfl | rfl
   ·rcases List.mem_cons.mp hr with e | hr
    ·exact .inl e
    ·exact .inr (List.mem_singleton.mp hr)
   ·rcases List.mem_cons.mp hr with e | hr
    ·exact .inr e
    ·exact .inl (List.mem_singleton.mp hr)
  have hl2:bs2.length=2:=by rcases h with rfl | rfl <;> rfl
  refine ⟨by omega,by omega,fun r hr=> ?_,fun r hr=> ?_,fun r hr=> ?_,fun _=> .inr (by rcases h with rfl | rfl <;> simp)⟩
  ·rcases hm2 r hr with rfl | rfl
   ·exact hb1.1
   ·exact ru_nil
  ·rcases hm2 r hr with rfl | rfl
   ·exact hb1.2.1
   ·exact Nat.zero_le _
  ·rcases hm2 r hr with rfl | rfl
   ·exact hb1.2.2
   ·exact fun z hz=>nomatch hz
 refine aO (aY 9 (wM (qN (u64 hr) (aA 3 rfl (aG (aA1 ⟨_,rfl,fun _=> ?_,fun _=> ?_⟩))))))
 ·exact jH (aC (bJ (nA (u1 hr)) (aA 9 rfl (aG (ixr eb (.st hB5) (aC (bM (aD ⟨Nat.zero_le _,aD ⟨Nat.le_of_ble_eq_true rfl,fun t ht=>⟨t,[b,[]],I5.new ht,aF,two _ (.inl rfl),rfl⟩⟩⟩))))))))
 ·exact jH (aC (bM (aD ⟨Nat.zero_le _,aC (bJ (nA (u1 hr)) (aA 9 rfl (aG (ixr eb (.st hB5) (aD ⟨Nat.le_of_ble_eq_true rfl,fun t ht=>⟨t,[[],b],I5.new ht,aF,two _ (.inr rfl),rfl⟩⟩)))))⟩)))
end
end K
namespace K
open PySem PySem.Spec PyProof.Rows L2 DL
theorem rwW_in {ys:List Str} {rss:List Rl} (h:∀r∈rss,WIn r ys):∀k∈cG rss,k∈ys:=fun k hk=>by
 obtain ⟨rs,hrs,hk⟩:=aAq.mp hk
 obtain ⟨c,hc,hk⟩:=List.mem_flatten.mp hk
 obtain ⟨r,hr,hc⟩:=List.mem_flatMap.mp hc
 obtain ⟨a,b⟩:=h rs hrs r hr
 rcases List.mem_cons.mp hc with e | hc
 ·rw [e] at hk;exact a k hk
 ·exact b c hc k hk
theorem row_at4 (r:RowC):atI [dC r.p,dC r.q,dC r.a,dC r.b] ((0:Nat):Int)=some (dC r.p)∧atI [dC r.p,dC r.q,dC r.a,dC r.b] ((1:Nat):Int)=some (dC r.q)∧atI [dC r.p,dC r.q,dC r.a,dC r.b] ((2:Nat):Int)=some (dC r.a)∧atI [dC r.p,dC r.q,dC r.a,dC r.b] ((3:Nat):Int)=some (dC r.b):=⟨atI_nat rfl,atI_nat rfl,atI_nat rfl,atI_nat rfl⟩
theorem rB (qs:List RowC):qs.map bH=(dTx (qs.map fun r=>(r,([]:List Wd)))).map (·.1):=by
 unfold dTx
 rw [List.map_map,List.map_map]
 rfl
section
variable {P:Program} {w:World} {K:PySem.W.Frag} {mg:Str→Option Value} {base:Heap} {f:Addr} {fd:FuncData} {BK CH:Addr}
def uP:SpA:=fun ds L Q _=> ∃(p:Addr) (mo:MO) (L0:Lp),ds= [.ptr p]∧L=put L0 p mo∧L0 p=none∧bZ 0 mo∧Q (.bl true) L0
set_option maxHeartbeats 0 in
theorem ok_right (F:Fun K "_law_right" "_law_right" dM f fd) (hb:Binds K fd ["_law_pot_here"] []) (B:Bl mg) (hsy:∃o,base.get? sysModules=some o) (d1:Def P w K mg base "_law_take" 1 lF) (d2:Def P w K mg base "_law_names" 4 uQ) (d3:Def P w K mg base "_law_plan" 6 xT) (d4:Def P w K mg base "_law_kin" 5 aAt) (d5:DefG P w K mg base "_law_itself_right" 15 rZ) (d6:Def P w K mg base "_law_side" 14 (uO CH BK)) (d7:Def P w K mg base "compare" 8 (jT CH BK)) (d8:Def P w K mg base "is_comparison" 9 (sG CH BK)):FnG P w K mg base 16 f uP:=by
 refine fnG F sc__law_right hb (fun ds L Q R h=>by obtain ⟨_,_,_,rfl,_⟩:=h;rfl) fun cdv A outer s H E ds L Q R hr hg h=> ?_
 obtain ⟨p,mo,L0,rfl,rfl,hp0,hpot,qq⟩:=h
 have hP:put L0 p mo p=some mo:=aF
 have hle0:∀{M mo'},NI (put L0 p mo) M p mo'→Le L0 M:=fun h a u e=>by
  have ha:a≠p:=fun ea=>by rw [ea,hp0] at e;cases e
  exact h.le a u (by rw [aK ha];exact e) ha
 have I0:NI (put L0 p mo) (put L0 p mo) p mo:=NI.refl hP
 generalize put L0 p mo=L3 at I0 hle0 hP ⊢
 refine aJ (aY 1 (aH d2 (hr.mono (by omega)) (aC (aA 0 rfl (aC (jM (aG (aH d1 (hr.mono (by omega)) (aC (aA 0 rfl (aC (aG (aD ⟨p,mo,0,3,rfl,hP,hpot,by omega,by omega,by omega,fun j mo1 hj h1=>aBy (aD ⟨p,mo1,1,2+j,?_,aF,h1,by omega,by omega,by omega,fun nl ys mo2 hnl0 hnp hyl hyw h2=> ?_⟩)⟩)))))))))))))
 ·show [D.ptr p,D.int ((2:Int)+((j:Nat):Int))]=_
  rw [show (2:Int)+((j:Nat):Int)=((2+j:Nat):Int) by omega]
 have I1:=((I0.pot (mo':=mo1)).pot (mo':=mo2)).new (n:=nl) (o:= .lst (ys.map .str)) (by rw [aK hnp];exact hnl0)
 have N1:NmOk (St2 (put L3 p mo1) p mo2 nl (.lst (ys.map .str))) p nl ys:=⟨aF,hnp,by omega,by omega,hyw⟩
 show ASs _ _ [some (.ptr p),some (.ptr nl),none,none,none,none,none,none,none,none] (St2 (put L3 p mo1) p mo2 nl (.lst (ys.map .str))) _
 have I1:NI L3 (St2 (put L3 p mo1) p mo2 nl (.lst (ys.map .str))) p mo2:=I1
 generalize St2 (put L3 p mo1) p mo2 nl (.lst (ys.map .str))=M1 at I1 N1 ⊢
 have p0:∀a b:D,atI [a,b] ((0:Nat):Int)=some a:=fun a b=>atI_nat rfl
 have p1:∀a b:D,atI [a,b] ((1:Nat):Int)=some b:=fun a b=>atI_nat rfl
 refine aJ (aY 2 (bJ (nA (u1 hr)) (aH d3 (hr.mono (by omega)) (aC (aA 0 rfl (aC (aA 1 rfl (aC (aG (aC (aG (aD ⟨p,nl,mo2,501,4,2,ys,rfl,I1.p,h2,by omega,by omega,N1,fun r1 rq mo3 s1 _ _ h3=>aG (ixt (p0 _ _) ?_)⟩))))))))))))
 have I3:=I1.pot (mo':=mo3)
 have N3:=N1.put mo3
 generalize put M1 p mo3=M3 at I3 N3 ⊢
 refine aJ (aY 3 (aH d4 (hr.mono (by omega)) (aC (aA 0 rfl (aC (aA 2 rfl (aC (aA 1 rfl (aD ⟨p,nl,mo3,2511,4,ys,r1,rfl,I3.p,h3,by omega,by omega,N3,s1,fun r2 mo4 M4 I4 hk h4=> ?_⟩)))))))))
 have I4:NI L3 M4 p mo4:=⟨fun a u e ha=>I4.le a u (I3.le a u e ha) ha,I4.p⟩
 have hle:=hle0 I4
 show ASs _ _ [some (.ptr p),some (.ptr nl),some (dSd r1),some (dSd r2),none,none,none,none,none,none] M4 _
 clear I4 I3 N3 I1 N1 I0 hle0 h2 h3 h4
 have in1:∀k∈cG r1,k∈ys:=rwW_in s1.wds
 have in2:∀k∈cG r2,k∈ys:=rwW_in hk.wds
 have hin:∀k,k∈cG r1∨k∈cG r2→k∈ys:=fun k h=>h.elim (in1 k) (in2 k)
 have hin':∀k,k∈cG r2∨k∈cG r1→k∈ys:=fun k h=>h.elim (in2 k) (in1 k)
 have hy7:ys.length≤7:=by omega
 have R1:=s1.ok
 have R2:=hk.ok
 have l1:=s1.hi
 have l2:=hk.hi
 have x1:∀rs∈r1,rs.length≤6:=fun rs h=>(R1 rs h).len
 have x2:∀rs∈r2,rs.length≤6:=fun rs h=>(R2 rs h).len
 refine aJ (cX (aAT (uB (mO (nR (wR d5 (hr.mono (by omega)) hg (aC (aA 2 rfl (aD ⟨r1,ys,rfl,s1.lo,l1,R1,fun r hr=>Nat.le_succ_of_le (s1.few r hr),hy7,in1,_,rfl,(fun z=>nomatch z),fun _=> ?_⟩)))))))))
 refine tM (mO (nR (wR d5 (hr.mono (by omega)) hg (aC (aA 3 rfl (aD ⟨r2,ys,rfl,hk.lo,l2,R2,hk.few,hy7,in2,_,rfl,(fun z=>nomatch z),fun _=>bO ?_⟩))))))
 refine aJ (tQ 4 5 (aC (aH d6 (hr.mono (by omega)) (aC (aA 2 rfl (aD ⟨r1,rfl,s1.lo,l1,R1,fun x hx=>aC (aH d6 (hr.mono (by omega)) (aC (aA 3 rfl (aD ⟨r2,rfl,hk.lo,l2,R2,fun y hy=>aD ⟨_,_,rfl,?_⟩⟩))))⟩))))))
 refine aJ (tQ 6 7 (aC (aH d7 (hr.mono (by omega)) (aC (aA 4 rfl (aC (aA 5 rfl (aD ⟨x,y,r1,r2,ys,rfl,hx.rw R1,hy.rw R2,hy7,hin,fun vs hA=> ?_⟩))))))))
 refine aC (aH d7 (hr.mono (by omega)) (aC (aA 5 rfl (aC (aA 4 rfl (aD ⟨y,x,r2,r1,ys,rfl,hy.rw R2,hx.rw R1,hy7,hin',fun vs' hA'=>aD ⟨_,_,rfl,?_⟩⟩))))))
 have ev:vs'=vs:=oR hA'.up hA.up fun k=>(hA'.mem k).trans (Or.comm.trans (hA.mem k).symm)
 rw [ev]
 have v7:vs.length≤7:=Nat.le_trans (iH (rise_nodup hA.up) fun k hk=>hin k ((hA.mem k).mp hk)) hy7
 obtain ⟨f1,f2⟩:=frs_ok v7
 obtain ⟨b1,b2⟩:=both_ways x1 x2 l1 l2 vs
 cases ec:gD r1 r2 vs with
 | inr ts=>
  obtain ⟨ts',ec',pm'⟩:=b1 ts ec
  rw [ec']
  obtain ⟨_,nd,hok⟩:=(iZ x1 x2 l1 l2 vs).2 ts ec
  obtain ⟨hrow,nd2,_⟩:=(iZ x2 x1 l2 l1 vs).2 ts' ec'
  obtain ⟨ns,e1,pm⟩:=pO (ts.map (·.1))
  obtain ⟨ns',e1',pmb⟩:=pO (ts'.map (·.1))
  have eT:(ts.map fun x=>bH x.1).mergeSort leD=ns.map bH:=by rw [←e1,List.map_map];rfl
  have eT':(ts'.map fun x=>bH x.1).mergeSort leD=ns'.map bH:=by rw [←e1',List.map_map];rfl
  have e3:((ns.map flp).map bH).mergeSort leD=ns'.map bH:=by
   rw [←e1']
   exact tables_same ((pm.map flp).trans pm'.symm)
  have okb:∀r∈ns',RowOk r2 r1 r:=fun r hr=>by
   obtain ⟨u,hu,rfl⟩:=List.mem_map.mp (pmb.mem_iff.mp hr)
   exact (hrow u hu).2.2
  have hl:ns'.length≤10000:=by
   have:=rows_leN (a:=5) (b:=4) hk.few s1.few l2 l1 (pmb.nodup_iff.mpr nd2) okb
   have e:(1+2*5) ^ 2*(1+2*4) ^ 2=9801:=by decide
   omega
  have tbr:∀d∈ns'.map bH,∃r:RowC,d=bH r∧RowF r:=fun d hd=>by
   obtain ⟨r,hr,rfl⟩:=List.mem_map.mp hd
   exact ⟨r,rfl,row_f l2 l1 R2 R1 (okb r hr)⟩
  have tb:TbF (ns'.map bH):=⟨tbr,by rw [List.length_map];exact hl⟩
  obtain ⟨z1,z2,z3,z4,z5⟩:=tb_shownF tb
  show ASs _ _ [some (.ptr p),some (.ptr nl),some (dSd r1),some (dSd r2),some x,some y,some (.tup [.str "same",.tup ((ts.map fun x=>bH x.1).mergeSort leD)]),some (.tup [.str "same",.tup ((ts'.map fun x=>bH x.1).mergeSort leD)]),none,none] _ _
  rw [eT,eT']
  refine aJ (cX (qN (u64 hr) (bJ (nA (u1 hr)) (aA 6 rfl (aG (ixt (p0 _ _) (lA (aBu ⟨_,rfl,fun _=> ?_,fun h=>absurd rfl (of_decide_eq_false h)⟩))))))))
  refine aJ (as_setMap 8 9 (mQ (bJ (nA (u1 hr)) (aA 6 rfl (aG (ixt (p1 _ _) ⟨_,rfl,fun hz=>⟨RowC,ns,bH,fun r=>bH (flp r),rfl,trivial,hz,fun r hr2 s H Cc cl fp Q q=> ?_,fun dl hdl=> ?_⟩⟩))))))
  ·obtain ⟨i0,i1,i2,i3⟩:=row_at4 r
   exact bM (aC (bJ (nA (u1 hr)) (aA 9 rfl (aG (ixt i1 (aC (bJ (nA (u1 hr)) (aA 9 rfl (aG (ixt i0 (aC (bJ (nA (u1 hr)) (aA 9 rfl (aG (ixt i3 (aC (bJ (nA (u1 hr)) (aA 9 rfl (aG (ixt i2 (aD ⟨Nat.le_of_ble_eq_true rfl,q⟩)))))))))))))))))))))
  have ed:(ns.map fun r=>bH (flp r))=(ns.map flp).map bH:=by rw [List.map_map];rfl
  rw [ed]
  refine aO (aX (aA4 (u64 hr) (aP (pC hg hsy) B.repr (aC (aA 7 rfl (aD (zW z1 z2 (u64 hr) z3 z4 z5 ?_)))))))
  refine aP (pC hg hsy) B.repr (aC (bM (aC (lA (aC (aR call_tuple_of B.tuple (aC (aP (pA (yV hr)) B.sorted (aC (aA 8 rfl (aD (c_sortD aF ?_ ?_ ?_ ?_ fun l2 hl2=>aD (mJ aF ?_)))))))))))))
  ·rw [rB];exact dTx_ok _
  ·rw [rB];exact tL _
  ·rw [rB];exact mH _
  ·rw [rB];exact dTx_depth _
  rw [e3]
  obtain ⟨sh,hsh⟩:∃s,s=(pyE (.tup [.str "same",.tup (ns'.map bH)])).shown:=⟨_,rfl⟩
  refine aD ⟨Nat.le_of_ble_eq_true rfl,aD (zW z1 z2 (u64 hr) z3 z4 z5 ?_)⟩
  rw [←hsh]
  refine aBu ⟨_,(hle.trans (aU hdl)).trans (aU hl2),?_⟩
  rw [decide_eq_true rfl]
  exact qq
 | inl t=>
  obtain ⟨t',ec',hl'⟩:=b2 t ec
  rw [ec']
  obtain ⟨ov,bad,_⟩:=(iZ x1 x2 l1 l2 vs).1 t ec
  obtain ⟨ov',bad',_⟩:=(iZ x2 x1 l2 l1 vs).1 t' ec'
  have wd:∀{t:List Wd},Ov (vs++ [frs vs]) t→∀x∈t,wdS x=true:=fun {t} ov x hx=>by
   rcases List.mem_append.mp (ov x hx) with h | h
   ·exact hyw x (hin x ((hA.mem x).mp h))
   ·rw [List.mem_singleton.mp h];exact f2
  have len:=cmp_len ec
  have len':=cmp_len ec'
  show ASs _ _ [some (.ptr p),some (.ptr nl),some (dSd r1),some (dSd r2),some x,some y,some (.tup [.str "different",dW t]),some (.tup [.str "different",dW t']),none,none] _ _
  refine aJ (cX (qN (u64 hr) (bJ (nA (u1 hr)) (aA 6 rfl (aG (ixt (p0 _ _) (lA (aBu ⟨_,rfl,fun h=>absurd (of_decide_eq_true h) (by decide+kernel),fun _=>bO ?_⟩))))))))
  refine aJ (cX (aAT (uB (at_ne (u64 hr) (bJ (nA (u1 hr)) (aA 7 rfl (aG (ixt (p0 _ _) (lA (aBG ⟨_,rfl,fun h=>absurd h (by decide+kernel),fun _=> ?_⟩))))))))))
  refine tM (at_ne (u64 hr) (jL B.len (bJ (nA (u1 hr)) (aA 6 rfl (aG (ixt (p1 _ _) (len_T (jL B.len (bJ (nA (u1 hr)) (aA 7 rfl (aG (ixt (p1 _ _) (len_T (aBQ ⟨_,rfl,fun h=> ?_,fun _=>bO ?_⟩))))))))))))))
  ·rw [List.length_map,List.length_map,hl'] at h
   simp at h
  refine aO (aX (lB (eQ op_isB rfl (aH d8 (hr.mono (by omega)) (aC (aA 5 rfl (aC (aA 4 rfl (aC (aA 6 rfl (aD ⟨y,x,r2,r1,hy,hx,R2,R1,.inl ⟨t,rfl,wd ov,by omega,?_⟩⟩)))))))))))
  rw [kY,bad]
  refine tV (is_B ⟨_,rfl,fun _=> ?_,fun z=>nomatch z⟩)
  refine pJ (eQ op_isB rfl (aH d8 (hr.mono (by omega)) (aC (aA 4 rfl (aC (aA 5 rfl (aC (aA 7 rfl (aD ⟨x,y,r1,r2,hx,hy,R1,R2,.inl ⟨t',rfl,wd ov',by omega,?_⟩⟩)))))))))
  rw [kY,bad']
  exact tV (is_B ⟨_,hle,qq⟩)
end
end K
set_option maxHeartbeats 2000000
namespace K
open PySem PySem.Spec PyProof.Rows L2 DL
section
variable {P:Program} {w:World} {K:PySem.W.Frag} {mg:Str→Option Value} {base:Heap} {f:Addr} {fd:FuncData}
def sp_law:SpA:=fun ds L Q _=> ∃ns:List Int,ds= [.ilst ns]∧Q (.bl true) L
theorem law_ok (F:Fun K "law" "law" aAe f fd) (hb:Binds K fd ["_law_script"] []) (B:Bl mg) (d1:Def P w K mg base "_law_pot" 1 aAs) (d2:DefG P w K mg base "_law_right" 16 uP):FnG P w K mg base 17 f sp_law:=by
 refine fnG F sc_law hb (fun ds L Q R h=>by obtain ⟨_,rfl,_⟩:=h;rfl) fun cdv A outer s H E ds L Q R hr hg h=> ?_
 obtain ⟨ns,rfl,q⟩:=h
 walk
 refine oH 1 (fZ B.range ?_)
 walk
 generalize hN:(if (if (ns.length:Int) < 3 then (ns.length:Int) else 3) > 1 then (if (ns.length:Int) < 3 then (ns.length:Int) else 3) else 1)=N
 have h1:1≤N∧N≤3:=by
  subst hN
  split <;> split at* <;> omega
 refine ⟨by omega,by omega,_,List.range N.toNat,fun k=> .int (0+(k:Nat)),fun _=> .bl true,rfl,trivial,by rw [cO,bU];omega,fun y hy s H Cc cl fp Q q=> ?_,(List.range N.toNat).map fun _=>true,by rw [List.map_map];rfl,L,.refl L,?_⟩
 ·have hy:=List.mem_range.mp hy
  refine wR d2 (hr.mono (by omega)) hg (aC (aH d1 (hr.mono (by omega)) (aC (aA 0 rfl (aC (aA 1 rfl (aD ⟨ns,0+y,?_,by omega,fun p mo hp hpot=>aD ⟨p,mo,L,rfl,rfl,hp,hpot,q⟩⟩)))))))
  rw [Int.natCast_add]
  rfl
 ·rw [show ((List.range N.toNat).map fun _=>true).all id=true by rw [List.all_map];exact List.all_eq_true.mpr fun _ _=>rfl]
  exact q
end
end K
namespace K
open PySem PySem.Spec PyProof.Rows L2 DL
set_option maxHeartbeats 0 in
theorem all_mk {l:PySem.W.OpenLaw} {w:World} {K:PySem.W.Frag} {mg:Str→Option Value} {fa:Addr} {h:Heap} (X:K.In h) (G:h.Ns mainGlobals mg) (hfa:mg "law"=some (.ref fa))
  {f0:Addr} {od0 an0:Option Addr} {sl0:Array (Option Value)} {oc0 kV0 dc0 pm0 cd0 ct0:Value} {f1:Addr} {od1 an1:Option Addr} {sl1:Array (Option Value)} {oc1 kV1 dc1 pm1 cd1 ct1:Value} {f2:Addr} {od2 an2:Option Addr} {sl2:Array (Option Value)} {oc2 kV2 dc2 pm2 cd2 ct2:Value} {f3:Addr} {od3 an3:Option Addr} {sl3:Array (Option Value)} {oc3 kV3 dc3 pm3 cd3 ct3:Value} {f4:Addr} {od4 an4:Option Addr} {sl4:Array (Option Value)} {oc4 kV4 dc4 pm4 cd4 ct4:Value} {f5:Addr} {od5 an5:Option Addr} {sl5:Array (Option Value)} {oc5 kV5 dc5 pm5 cd5 ct5:Value} {f6:Addr} {od6 an6:Option Addr} {sl6:Array (Option Value)} {oc6 kV6 dc6 pm6 cd6 ct6:Value} {f7:Addr} {od7 an7:Option Addr} {sl7:Array (Option Value)} {oc7 kV7 dc7 pm7 cd7 ct7:Value} {f8:Addr} {od8 an8:Option Addr} {sl8:Array (Option Value)} {oc8 kV8 dc8 pm8 cd8 ct8:Value} {f9:Addr} {od9 an9:Option Addr} {sl9:Array (Option Value)} {oc9 kV9 dc9 pm9 cd9 ct9:Value} {f10:Addr} {od10 an10:Option Addr} {sl10:Array (Option Value)} {oc10 kV10 dc10 pm10 cd10 ct10:Value} {f11:Addr} {od11 an11:Option Addr} {sl11:Array (Option Value)} {oc11 kV11 dc11 pm11 cd11 ct11:Value} {f12:Addr} {od12 an12:Option Addr} {sl12:Array (Option Value)} {oc12 kV12 dc12 pm12 cd12 ct12:Value} {f13:Addr} {od13 an13:Option Addr} {sl13:Array (Option Value)} {oc13 kV13 dc13 pm13 cd13 ct13:Value} {f14:Addr} {od14 an14:Option Addr} {sl14:Array (Option Value)} {oc14 kV14 dc14 pm14 cd14 ct14:Value} {f15:Addr} {od15 an15:Option Addr} {sl15:Array (Option Value)} {oc15 kV15 dc15 pm15 cd15 ct15:Value} {f16:Addr} {od16 an16:Option Addr} {sl16:Array (Option Value)} {oc16 kV16 dc16 pm16 cd16 ct16:Value} {f17:Addr} {od17 an17:Option Addr} {sl17:Array (Option Value)} {oc17 kV17 dc17 pm17 cd17 ct17:Value} {f26:Addr} {od26 an26:Option Addr} {sl26:Array (Option Value)} {oc26 kV26 dc26 pm26 cd26 ct26:Value} {f27:Addr} {od27 an27:Option Addr} {sl27:Array (Option Value)} {oc27 kV27 dc27 pm27 cd27 ct27:Value} {f28:Addr} {od28 an28:Option Addr} {sl28:Array (Option Value)} {oc28 kV28 dc28 pm28 cd28 ct28:Value} {f29:Addr} {od29 an29:Option Addr} {sl29:Array (Option Value)} {oc29 kV29 dc29 pm29 cd29 ct29:Value} {f30:Addr} {od30 an30:Option Addr} {sl30:Array (Option Value)} {oc30 kV30 dc30 pm30 cd30 ct30:Value} {f31:Addr} {od31 an31:Option Addr} {sl31:Array (Option Value)} {oc31 kV31 dc31 pm31 cd31 ct31:Value} {f32:Addr} {od32 an32:Option Addr} {sl32:Array (Option Value)} {oc32 kV32 dc32 pm32 cd32 ct32:Value} {f33:Addr} {od33 an33:Option Addr} {sl33:Array (Option Value)} {oc33 kV33 dc33 pm33 cd33 ct33:Value} {f34:Addr} {od34 an34:Option Addr} {sl34:Array (Option Value)} {oc34 kV34 dc34 pm34 cd34 ct34:Value} {f35:Addr} {od35 an35:Option Addr} {sl35:Array (Option Value)} {oc35 kV35 dc35 pm35 cd35 ct35:Value} {f36:Addr} {od36 an36:Option Addr} {sl36:Array (Option Value)} {oc36 kV36 dc36 pm36 cd36 ct36:Value} {f37:Addr} {od37 an37:Option Addr} {sl37:Array (Option Value)} {oc37 kV37 dc37 pm37 cd37 ct37:Value} {f40:Addr} {od40 an40:Option Addr} {sl40:Array (Option Value)} {oc40 kV40 dc40 pm40 cd40 ct40:Value} {f41:Addr} {od41 an41:Option Addr} {sl41:Array (Option Value)} {oc41 kV41 dc41 pm41 cd41 ct41:Value} {f42:Addr} {od42 an42:Option Addr} {sl42:Array (Option Value)} {oc42 kV42 dc42 pm42 cd42 ct42:Value} {f43:Addr} {od43 an43:Option Addr} {sl43:Array (Option Value)} {oc43 kV43 dc43 pm43 cd43 ct43:Value} {f44:Addr} {od44 an44:Option Addr} {sl44:Array (Option Value)} {oc44 kV44 dc44 pm44 cd44 ct44:Value} {f45:Addr} {od45 an45:Option Addr} {sl45:Array (Option Value)} {oc45 kV45 dc45 pm45 cd45 ct45:Value} {f46:Addr} {od46 an46:Option Addr} {sl46:Array (Option Value)} {oc46 kV46 dc46 pm46 cd46 ct46:Value} {f47:Addr} {od47 an47:Option Addr} {sl47:Array (Option Value)} {oc47 kV47 dc47 pm47 cd47 ct47:Value} {f48:Addr} {od48 an48:Option Addr} {sl48:Array (Option Value)} {oc48 kV48 dc48 pm48 cd48 ct48:Value} {f49:Addr} {od49 an49:Option Addr} {sl49:Array (Option Value)} {oc49 kV49 dc49 pm49 cd49 ct49:Value} {f50:Addr} {od50 an50:Option Addr} {sl50:Array (Option Value)} {oc50 kV50 dc50 pm50 cd50 ct50:Value} {f51:Addr} {od51 an51:Option Addr} {sl51:Array (Option Value)} {oc51 kV51 dc51 pm51 cd51 ct51:Value} {f52:Addr} {od52 an52:Option Addr} {sl52:Array (Option Value)} {oc52 kV52 dc52 pm52 cd52 ct52:Value} {t_MOST_KEY_rewriting:Tok} {t_MOST_LETTERS:Tok} {t_LETTERS:Tok} {t_MOST_KEY_words:Tok} {t_MOST_CELL:Tok} {t_MOST_CELLS:Tok} {t_MOST_RULES:Tok} {t_DIFFERENT:Tok} {t_SAME:Tok} {BK:Addr} {p_Book_table:Addr} {pp_Book_words:Addr} {rr_Book_words:List Value} {CH:Addr} {p_Chain_former:Addr} {p_Chain_latter:Addr} {pp_Chain_words:Addr} {rr_Chain_words:List Value} {TI18:Addr} {ocT18:Value} {odT18:Option Addr} {nT18:Nat} {slT18:Array (Option Value)} {dI18_0:Value} {f18:Addr} {od18 an18:Option Addr} {sl18:Array (Option Value)} {oc18 kV18 dc18 pm18 cd18 ct18:Value} {f19:Addr} {od19 an19:Option Addr} {sl19:Array (Option Value)} {oc19 kV19 dc19 pm19 cd19 ct19:Value} {f20:Addr} {od20 an20:Option Addr} {sl20:Array (Option Value)} {oc20 kV20 dc20 pm20 cd20 ct20:Value} {f21:Addr} {od21 an21:Option Addr} {sl21:Array (Option Value)} {oc21 kV21 dc21 pm21 cd21 ct21:Value} {f22:Addr} {od22 an22:Option Addr} {sl22:Array (Option Value)} {oc22 kV22 dc22 pm22 cd22 ct22:Value} {f23:Addr} {od23 an23:Option Addr} {sl23:Array (Option Value)} {oc23 kV23 dc23 pm23 cd23 ct23:Value} {f24:Addr} {od24 an24:Option Addr} {sl24:Array (Option Value)} {oc24 kV24 dc24 pm24 cd24 ct24:Value} {f25:Addr} {od25 an25:Option Addr} {sl25:Array (Option Value)} {oc25 kV25 dc25 pm25 cd25 ct25:Value} {f38:Addr} {od38 an38:Option Addr} {sl38:Array (Option Value)} {oc38 kV38 dc38 pm38 cd38 ct38:Value} {f39:Addr} {od39 an39:Option Addr} {sl39:Array (Option Value)} {oc39 kV39 dc39 pm39 cd39 ct39:Value} {BT:Addr} {TIE_WideError___init__:Addr} {ocTE_WideError___init__:Value} {odTE_WideError___init__:Option Addr} {nTE_WideError___init__:Nat} {slTE_WideError___init__:Array (Option Value)} {dIE_WideError___init__:Value} {fE_WideError___init__:Addr} {odE_WideError___init__ anE_WideError___init__:Option Addr} {slE_WideError___init__:Array (Option Value)} {ocE_WideError___init__ kVE_WideError___init__ dcE_WideError___init__ pmE_WideError___init__ cdE_WideError___init__ ctE_WideError___init__:Value} {enm_BT:Str} {eq_BT:Str} {eN_BT:Addr} {ebs_BT:List Value} {ebm_BT:List Value} {esn_BT:List Str} {esub_BT:List Value} {eab_BT:Bool} {ecol_BT:Option Bool} {edd_BT:Option Addr} {ek0_BT:Option Value} {ek1_BT:Option Value} {ek2_BT:Option Value} {ek3_BT:Option Value} {ek5_BT:Option Value}
  (a0:PySem.W.nsIn K mainGlobals "cells_of"=some (some (.ref f0)))
  (l0:K.lookup f0=some ⟨oc0,od0,.func (PySem.W.fnOf "cells_of" "cells_of" (defArgs iV) (defBody iV) (defScope iV) .none kV0 dc0 pm0 an0 cd0 ct0),sl0⟩)
  (c0:PySem.W.codeIn K cd0 "cells_of"=true)
  (k0:PySem.W.keepIn K (.ref f0)=true)
  (a1:PySem.W.nsIn K mainGlobals "words_at"=some (some (.ref f1)))
  (l1:K.lookup f1=some ⟨oc1,od1,.func (PySem.W.fnOf "words_at" "words_at" (defArgs iJ) (defBody iJ) (defScope iJ) .none kV1 dc1 pm1 an1 cd1 ct1),sl1⟩)
  (c1:PySem.W.codeIn K cd1 "words_at"=true)
  (k1:PySem.W.keepIn K (.ref f1)=true)
  (a2:PySem.W.nsIn K mainGlobals "key_at"=some (some (.ref f2)))
  (l2:K.lookup f2=some ⟨oc2,od2,.func (PySem.W.fnOf "key_at" "key_at" (defArgs mW) (defBody mW) (defScope mW) .none kV2 dc2 pm2 an2 cd2 ct2),sl2⟩)
  (c2:PySem.W.codeIn K cd2 "key_at"=true)
  (k2:PySem.W.keepIn K (.ref f2)=true)
  (a3:PySem.W.nsIn K mainGlobals "is_waiting"=some (some (.ref f3)))
  (l3:K.lookup f3=some ⟨oc3,od3,.func (PySem.W.fnOf "is_waiting" "is_waiting" (defArgs dI) (defBody dI) (defScope dI) .none kV3 dc3 pm3 an3 cd3 ct3),sl3⟩)
  (c3:PySem.W.codeIn K cd3 "is_waiting"=true)
  (k3:PySem.W.keepIn K (.ref f3)=true)
  (a4:PySem.W.nsIn K mainGlobals "rewritten"=some (some (.ref f4)))
  (l4:K.lookup f4=some ⟨oc4,od4,.func (PySem.W.fnOf "rewritten" "rewritten" (defArgs eX) (defBody eX) (defScope eX) .none kV4 dc4 pm4 an4 cd4 ct4),sl4⟩)
  (c4:PySem.W.codeIn K cd4 "rewritten"=true)
  (k4:PySem.W.keepIn K (.ref f4)=true)
  (a5:PySem.W.nsIn K mainGlobals "through"=some (some (.ref f5)))
  (l5:K.lookup f5=some ⟨oc5,od5,.func (PySem.W.fnOf "through" "through" (defArgs jV) (defBody jV) (defScope jV) .none kV5 dc5 pm5 an5 cd5 ct5),sl5⟩)
  (c5:PySem.W.codeIn K cd5 "through"=true)
  (k5:PySem.W.keepIn K (.ref f5)=true)
  (a6:PySem.W.nsIn K mainGlobals "nothing_pending"=some (some (.ref f6)))
  (l6:K.lookup f6=some ⟨oc6,od6,.func (PySem.W.fnOf "nothing_pending" "nothing_pending" (defArgs bQ) (defBody bQ) (defScope bQ) .none kV6 dc6 pm6 an6 cd6 ct6),sl6⟩)
  (c6:PySem.W.codeIn K cd6 "nothing_pending"=true)
  (k6:PySem.W.keepIn K (.ref f6)=true)
  (a7:PySem.W.nsIn K mainGlobals "written"=some (some (.ref f7)))
  (l7:K.lookup f7=some ⟨oc7,od7,.func (PySem.W.fnOf "written" "written" (defArgs jU) (defBody jU) (defScope jU) .none kV7 dc7 pm7 an7 cd7 ct7),sl7⟩)
  (c7:PySem.W.codeIn K cd7 "written"=true)
  (k7:PySem.W.keepIn K (.ref f7)=true)
  (a8:PySem.W.nsIn K mainGlobals "is_word"=some (some (.ref f8)))
  (l8:K.lookup f8=some ⟨oc8,od8,.func (PySem.W.fnOf "is_word" "is_word" (defArgs jW) (defBody jW) (defScope jW) .none kV8 dc8 pm8 an8 cd8 ct8),sl8⟩)
  (c8:PySem.W.codeIn K cd8 "is_word"=true)
  (k8:PySem.W.keepIn K (.ref f8)=true)
  (a9:PySem.W.nsIn K mainGlobals "is_text"=some (some (.ref f9)))
  (l9:K.lookup f9=some ⟨oc9,od9,.func (PySem.W.fnOf "is_text" "is_text" (defArgs jX) (defBody jX) (defScope jX) .none kV9 dc9 pm9 an9 cd9 ct9),sl9⟩)
  (c9:PySem.W.codeIn K cd9 "is_text"=true)
  (k9:PySem.W.keepIn K (.ref f9)=true)
  (a10:PySem.W.nsIn K mainGlobals "is_key"=some (some (.ref f10)))
  (l10:K.lookup f10=some ⟨oc10,od10,.func (PySem.W.fnOf "is_key" "is_key" (defArgs mX) (defBody mX) (defScope mX) .none kV10 dc10 pm10 an10 cd10 ct10),sl10⟩)
  (c10:PySem.W.codeIn K cd10 "is_key"=true)
  (k10:PySem.W.keepIn K (.ref f10)=true)
  (a11:PySem.W.nsIn K mainGlobals "is_rising"=some (some (.ref f11)))
  (l11:K.lookup f11=some ⟨oc11,od11,.func (PySem.W.fnOf "is_rising" "is_rising" (defArgs eZ) (defBody eZ) (defScope eZ) .none kV11 dc11 pm11 an11 cd11 ct11),sl11⟩)
  (c11:PySem.W.codeIn K cd11 "is_rising"=true)
  (k11:PySem.W.keepIn K (.ref f11)=true)
  (a12:PySem.W.nsIn K mainGlobals "is_words"=some (some (.ref f12)))
  (l12:K.lookup f12=some ⟨oc12,od12,.func (PySem.W.fnOf "is_words" "is_words" (defArgs iK) (defBody iK) (defScope iK) .none kV12 dc12 pm12 an12 cd12 ct12),sl12⟩)
  (c12:PySem.W.codeIn K cd12 "is_words"=true)
  (k12:PySem.W.keepIn K (.ref f12)=true)
  (a13:PySem.W.nsIn K mainGlobals "is_cell"=some (some (.ref f13)))
  (l13:K.lookup f13=some ⟨oc13,od13,.func (PySem.W.fnOf "is_cell" "is_cell" (defArgs jZ) (defBody jZ) (defScope jZ) .none kV13 dc13 pm13 an13 cd13 ct13),sl13⟩)
  (c13:PySem.W.codeIn K cd13 "is_cell"=true)
  (k13:PySem.W.keepIn K (.ref f13)=true)
  (a14:PySem.W.nsIn K mainGlobals "is_cells"=some (some (.ref f14)))
  (l14:K.lookup f14=some ⟨oc14,od14,.func (PySem.W.fnOf "is_cells" "is_cells" (defArgs iT) (defBody iT) (defScope iT) .none kV14 dc14 pm14 an14 cd14 ct14),sl14⟩)
  (c14:PySem.W.codeIn K cd14 "is_cells"=true)
  (k14:PySem.W.keepIn K (.ref f14)=true)
  (a15:PySem.W.nsIn K mainGlobals "is_rule"=some (some (.ref f15)))
  (l15:K.lookup f15=some ⟨oc15,od15,.func (PySem.W.fnOf "is_rule" "is_rule" (defArgs jY) (defBody jY) (defScope jY) .none kV15 dc15 pm15 an15 cd15 ct15),sl15⟩)
  (c15:PySem.W.codeIn K cd15 "is_rule"=true)
  (k15:PySem.W.keepIn K (.ref f15)=true)
  (a16:PySem.W.nsIn K mainGlobals "is_rules"=some (some (.ref f16)))
  (l16:K.lookup f16=some ⟨oc16,od16,.func (PySem.W.fnOf "is_rules" "is_rules" (defArgs iQ) (defBody iQ) (defScope iQ) .none kV16 dc16 pm16 an16 cd16 ct16),sl16⟩)
  (c16:PySem.W.codeIn K cd16 "is_rules"=true)
  (k16:PySem.W.keepIn K (.ref f16)=true)
  (a17:PySem.W.nsIn K mainGlobals "in_order"=some (some (.ref f17)))
  (l17:K.lookup f17=some ⟨oc17,od17,.func (PySem.W.fnOf "in_order" "in_order" (defArgs iU) (defBody iU) (defScope iU) .none kV17 dc17 pm17 an17 cd17 ct17),sl17⟩)
  (c17:PySem.W.codeIn K cd17 "in_order"=true)
  (k17:PySem.W.keepIn K (.ref f17)=true)
  (a26:PySem.W.nsIn K mainGlobals "next_word"=some (some (.ref f26)))
  (l26:K.lookup f26=some ⟨oc26,od26,.func (PySem.W.fnOf "next_word" "next_word" (defArgs eY) (defBody eY) (defScope eY) .none kV26 dc26 pm26 an26 cd26 ct26),sl26⟩)
  (c26:PySem.W.codeIn K cd26 "next_word"=true)
  (k26:PySem.W.keepIn K (.ref f26)=true)
  (a27:PySem.W.nsIn K mainGlobals "fresh_word"=some (some (.ref f27)))
  (l27:K.lookup f27=some ⟨oc27,od27,.func (PySem.W.fnOf "fresh_word" "fresh_word" (defArgs dJ) (defBody dJ) (defScope dJ) .none kV27 dc27 pm27 an27 cd27 ct27),sl27⟩)
  (c27:PySem.W.codeIn K cd27 "fresh_word"=true)
  (k27:PySem.W.keepIn K (.ref f27)=true)
  (a28:PySem.W.nsIn K mainGlobals "start"=some (some (.ref f28)))
  (l28:K.lookup f28=some ⟨oc28,od28,.func (PySem.W.fnOf "start" "start" (defArgs qC) (defBody qC) (defScope qC) .none kV28 dc28 pm28 an28 cd28 ct28),sl28⟩)
  (c28:PySem.W.codeIn K cd28 "start"=true)
  (k28:PySem.W.keepIn K (.ref f28)=true)
  (a29:PySem.W.nsIn K mainGlobals "go_on"=some (some (.ref f29)))
  (l29:K.lookup f29=some ⟨oc29,od29,.func (PySem.W.fnOf "go_on" "go_on" (defArgs qD) (defBody qD) (defScope qD) .none kV29 dc29 pm29 an29 cd29 ct29),sl29⟩)
  (c29:PySem.W.codeIn K cd29 "go_on"=true)
  (k29:PySem.W.keepIn K (.ref f29)=true)
  (a30:PySem.W.nsIn K mainGlobals "flushed"=some (some (.ref f30)))
  (l30:K.lookup f30=some ⟨oc30,od30,.func (PySem.W.fnOf "flushed" "flushed" (defArgs kE) (defBody kE) (defScope kE) .none kV30 dc30 pm30 an30 cd30 ct30),sl30⟩)
  (c30:PySem.W.codeIn K cd30 "flushed"=true)
  (k30:PySem.W.keepIn K (.ref f30)=true)
  (a31:PySem.W.nsIn K mainGlobals "common_beginning"=some (some (.ref f31)))
  (l31:K.lookup f31=some ⟨oc31,od31,.func (PySem.W.fnOf "common_beginning" "common_beginning" (defArgs bK) (defBody bK) (defScope bK) .none kV31 dc31 pm31 an31 cd31 ct31),sl31⟩)
  (c31:PySem.W.codeIn K cd31 "common_beginning"=true)
  (k31:PySem.W.keepIn K (.ref f31)=true)
  (a32:PySem.W.nsIn K mainGlobals "row_behind"=some (some (.ref f32)))
  (l32:K.lookup f32=some ⟨oc32,od32,.func (PySem.W.fnOf "row_behind" "row_behind" (defArgs dG) (defBody dG) (defScope dG) .none kV32 dc32 pm32 an32 cd32 ct32),sl32⟩)
  (c32:PySem.W.codeIn K cd32 "row_behind"=true)
  (k32:PySem.W.keepIn K (.ref f32)=true)
  (a33:PySem.W.nsIn K mainGlobals "is_same_here"=some (some (.ref f33)))
  (l33:K.lookup f33=some ⟨oc33,od33,.func (PySem.W.fnOf "is_same_here" "is_same_here" (defArgs cJ) (defBody cJ) (defScope cJ) .none kV33 dc33 pm33 an33 cd33 ct33),sl33⟩)
  (c33:PySem.W.codeIn K cd33 "is_same_here"=true)
  (k33:PySem.W.keepIn K (.ref f33)=true)
  (a34:PySem.W.nsIn K mainGlobals "_law_pot"=some (some (.ref f34)))
  (l34:K.lookup f34=some ⟨oc34,od34,.func (PySem.W.fnOf "_law_pot" "_law_pot" (defArgs dN) (defBody dN) (defScope dN) .none kV34 dc34 pm34 an34 cd34 ct34),sl34⟩)
  (c34:PySem.W.codeIn K cd34 "_law_pot"=true)
  (k34:PySem.W.keepIn K (.ref f34)=true)
  (a35:PySem.W.nsIn K mainGlobals "_law_take"=some (some (.ref f35)))
  (l35:K.lookup f35=some ⟨oc35,od35,.func (PySem.W.fnOf "_law_take" "_law_take" (defArgs fG) (defBody fG) (defScope fG) .none kV35 dc35 pm35 an35 cd35 ct35),sl35⟩)
  (c35:PySem.W.codeIn K cd35 "_law_take"=true)
  (k35:PySem.W.keepIn K (.ref f35)=true)
  (a36:PySem.W.nsIn K mainGlobals "_law_of"=some (some (.ref f36)))
  (l36:K.lookup f36=some ⟨oc36,od36,.func (PySem.W.fnOf "_law_of" "_law_of" (defArgs kJ) (defBody kJ) (defScope kJ) .none kV36 dc36 pm36 an36 cd36 ct36),sl36⟩)
  (c36:PySem.W.codeIn K cd36 "_law_of"=true)
  (k36:PySem.W.keepIn K (.ref f36)=true)
  (a37:PySem.W.nsIn K mainGlobals "compare"=some (some (.ref f37)))
  (l37:K.lookup f37=some ⟨oc37,od37,.func (PySem.W.fnOf "compare" "compare" (defArgs eG) (defBody eG) (defScope eG) .none kV37 dc37 pm37 an37 cd37 ct37),sl37⟩)
  (c37:PySem.W.codeIn K cd37 "compare"=true)
  (k37:PySem.W.keepIn K (.ref f37)=true)
  (a40:PySem.W.nsIn K mainGlobals "_law_side"=some (some (.ref f40)))
  (l40:K.lookup f40=some ⟨oc40,od40,.func (PySem.W.fnOf "_law_side" "_law_side" (defArgs fJ) (defBody fJ) (defScope fJ) .none kV40 dc40 pm40 an40 cd40 ct40),sl40⟩)
  (c40:PySem.W.codeIn K cd40 "_law_side"=true)
  (k40:PySem.W.keepIn K (.ref f40)=true)
  (a41:PySem.W.nsIn K mainGlobals "_law_word"=some (some (.ref f41)))
  (l41:K.lookup f41=some ⟨oc41,od41,.func (PySem.W.fnOf "_law_word" "_law_word" (defArgs fB) (defBody fB) (defScope fB) .none kV41 dc41 pm41 an41 cd41 ct41),sl41⟩)
  (c41:PySem.W.codeIn K cd41 "_law_word"=true)
  (k41:PySem.W.keepIn K (.ref f41)=true)
  (a42:PySem.W.nsIn K mainGlobals "_law_names"=some (some (.ref f42)))
  (l42:K.lookup f42=some ⟨oc42,od42,.func (PySem.W.fnOf "_law_names" "_law_names" (defArgs dO) (defBody dO) (defScope dO) .none kV42 dc42 pm42 an42 cd42 ct42),sl42⟩)
  (c42:PySem.W.codeIn K cd42 "_law_names"=true)
  (k42:PySem.W.keepIn K (.ref f42)=true)
  (a43:PySem.W.nsIn K mainGlobals "_law_cell"=some (some (.ref f43)))
  (l43:K.lookup f43=some ⟨oc43,od43,.func (PySem.W.fnOf "_law_cell" "_law_cell" (defArgs fL) (defBody fL) (defScope fL) .none kV43 dc43 pm43 an43 cd43 ct43),sl43⟩)
  (c43:PySem.W.codeIn K cd43 "_law_cell"=true)
  (k43:PySem.W.keepIn K (.ref f43)=true)
  (a44:PySem.W.nsIn K mainGlobals "_law_cells"=some (some (.ref f44)))
  (l44:K.lookup f44=some ⟨oc44,od44,.func (PySem.W.fnOf "_law_cells" "_law_cells" (defArgs dX) (defBody dX) (defScope dX) .none kV44 dc44 pm44 an44 cd44 ct44),sl44⟩)
  (c44:PySem.W.codeIn K cd44 "_law_cells"=true)
  (k44:PySem.W.keepIn K (.ref f44)=true)
  (a45:PySem.W.nsIn K mainGlobals "_law_key"=some (some (.ref f45)))
  (l45:K.lookup f45=some ⟨oc45,od45,.func (PySem.W.fnOf "_law_key" "_law_key" (defArgs iW) (defBody iW) (defScope iW) .none kV45 dc45 pm45 an45 cd45 ct45),sl45⟩)
  (c45:PySem.W.codeIn K cd45 "_law_key"=true)
  (k45:PySem.W.keepIn K (.ref f45)=true)
  (a46:PySem.W.nsIn K mainGlobals "_law_book"=some (some (.ref f46)))
  (l46:K.lookup f46=some ⟨oc46,od46,.func (PySem.W.fnOf "_law_book" "_law_book" (defArgs fM) (defBody fM) (defScope fM) .none kV46 dc46 pm46 an46 cd46 ct46),sl46⟩)
  (c46:PySem.W.codeIn K cd46 "_law_book"=true)
  (k46:PySem.W.keepIn K (.ref f46)=true)
  (a47:PySem.W.nsIn K mainGlobals "_law_plan"=some (some (.ref f47)))
  (l47:K.lookup f47=some ⟨oc47,od47,.func (PySem.W.fnOf "_law_plan" "_law_plan" (defArgs fK) (defBody fK) (defScope fK) .none kV47 dc47 pm47 an47 cd47 ct47),sl47⟩)
  (c47:PySem.W.codeIn K cd47 "_law_plan"=true)
  (k47:PySem.W.keepIn K (.ref f47)=true)
  (a48:PySem.W.nsIn K mainGlobals "is_comparison"=some (some (.ref f48)))
  (l48:K.lookup f48=some ⟨oc48,od48,.func (PySem.W.fnOf "is_comparison" "is_comparison" (defArgs cC) (defBody cC) (defScope cC) .none kV48 dc48 pm48 an48 cd48 ct48),sl48⟩)
  (c48:PySem.W.codeIn K cd48 "is_comparison"=true)
  (k48:PySem.W.keepIn K (.ref f48)=true)
  (a49:PySem.W.nsIn K mainGlobals "_law_itself_right"=some (some (.ref f49)))
  (l49:K.lookup f49=some ⟨oc49,od49,.func (PySem.W.fnOf "_law_itself_right" "_law_itself_right" (defArgs bG) (defBody bG) (defScope bG) .none kV49 dc49 pm49 an49 cd49 ct49),sl49⟩)
  (c49:PySem.W.codeIn K cd49 "_law_itself_right"=true)
  (k49:PySem.W.keepIn K (.ref f49)=true)
  (a50:PySem.W.nsIn K mainGlobals "_law_kin"=some (some (.ref f50)))
  (l50:K.lookup f50=some ⟨oc50,od50,.func (PySem.W.fnOf "_law_kin" "_law_kin" (defArgs dU) (defBody dU) (defScope dU) .none kV50 dc50 pm50 an50 cd50 ct50),sl50⟩)
  (c50:PySem.W.codeIn K cd50 "_law_kin"=true)
  (k50:PySem.W.keepIn K (.ref f50)=true)
  (a51:PySem.W.nsIn K mainGlobals "_law_right"=some (some (.ref f51)))
  (l51:K.lookup f51=some ⟨oc51,od51,.func (PySem.W.fnOf "_law_right" "_law_right" (defArgs dM) (defBody dM) (defScope dM) .none kV51 dc51 pm51 an51 cd51 ct51),sl51⟩)
  (c51:PySem.W.codeIn K cd51 "_law_right"=true)
  (k51:PySem.W.keepIn K (.ref f51)=true)
  (a52:PySem.W.nsIn K mainGlobals "law"=some (some (.ref f52)))
  (l52:K.lookup f52=some ⟨oc52,od52,.func (PySem.W.fnOf "law" "law" (defArgs aAe) (defBody aAe) (defScope aAe) .none kV52 dc52 pm52 an52 cd52 ct52),sl52⟩)
  (c52:PySem.W.codeIn K cd52 "law"=true)
  (k52:PySem.W.keepIn K (.ref f52)=true)
  (n_MOST_KEY_rewriting:PySem.W.nsIn K mainGlobals "MOST_KEY_rewriting"=some (some (.int 3 t_MOST_KEY_rewriting)))
  (n_MOST_LETTERS:PySem.W.nsIn K mainGlobals "MOST_LETTERS"=some (some (.int 8 t_MOST_LETTERS)))
  (n_LETTERS:PySem.W.nsIn K mainGlobals "LETTERS"=some (some (.str "abcdefghijklmnopqrstuvwxyz" t_LETTERS)))
  (n_MOST_KEY_words:PySem.W.nsIn K mainGlobals "MOST_KEY_words"=some (some (.int 3 t_MOST_KEY_words)))
  (n_MOST_CELL:PySem.W.nsIn K mainGlobals "MOST_CELL"=some (some (.int 3 t_MOST_CELL)))
  (n_MOST_CELLS:PySem.W.nsIn K mainGlobals "MOST_CELLS"=some (some (.int 2 t_MOST_CELLS)))
  (n_MOST_RULES:PySem.W.nsIn K mainGlobals "MOST_RULES"=some (some (.int 6 t_MOST_RULES)))
  (n_DIFFERENT:PySem.W.nsIn K mainGlobals "DIFFERENT"=some (some (.str "different" t_DIFFERENT)))
  (n_SAME:PySem.W.nsIn K mainGlobals "SAME"=some (some (.str "same" t_SAME)))
  (z_tuple:PySem.W.nsIn K mainGlobals "tuple"=some none)
  (z_list:PySem.W.nsIn K mainGlobals "list"=some none)
  (z_len:PySem.W.nsIn K mainGlobals "len"=some none)
  (z_any:PySem.W.nsIn K mainGlobals "any"=some none)
  (z_all:PySem.W.nsIn K mainGlobals "all"=some none)
  (z_range:PySem.W.nsIn K mainGlobals "range"=some none)
  (z_zip:PySem.W.nsIn K mainGlobals "zip"=some none)
  (z_isinstance:PySem.W.nsIn K mainGlobals "isinstance"=some none)
  (z_str:PySem.W.nsIn K mainGlobals "str"=some none)
  (z_sorted:PySem.W.nsIn K mainGlobals "sorted"=some none)
  (z_set:PySem.W.nsIn K mainGlobals "set"=some none)
  (z_dict:PySem.W.nsIn K mainGlobals "dict"=some none)
  (z_max:PySem.W.nsIn K mainGlobals "max"=some none)
  (z_min:PySem.W.nsIn K mainGlobals "min"=some none)
  (z_abs:PySem.W.nsIn K mainGlobals "abs"=some none)
  (z_int:PySem.W.nsIn K mainGlobals "int"=some none)
  (z_bool:PySem.W.nsIn K mainGlobals "bool"=some none)
  (z_sum:PySem.W.nsIn K mainGlobals "sum"=some none)
  (z_reversed:PySem.W.nsIn K mainGlobals "reversed"=some none)
  (z_repr:PySem.W.nsIn K mainGlobals "repr"=some none)
  (z_enumerate:PySem.W.nsIn K mainGlobals "enumerate"=some none)
  (A_Book:PySem.W.nsIn K mainGlobals "Book"=some (some (.ref BK)))
  (Pg_Book:PySem.W.plainGet K BK Str.empty=true)
  (Ic_Book:PySem.W.isClsIn K BK=true)
  (Po_Book:PySem.W.plainOver K BK=true)
  (Sa_Book:PySem.W.findIn K (.ref BK) "__setattr__"=some (some (.builtin "object.__setattr__")))
  (sA_Book_table:PySem.W.findIn K (.ref BK) "table"=some (some (.ref p_Book_table)))
  (sG_Book_table:PySem.W.specialIn K (.ref p_Book_table) "__get__"=some (some (.builtin "member_descriptor.__get__")))
  (sT_Book_table:PySem.W.takesIn K (.ref p_Book_table)=some true)
  (sY_Book_table:PySem.W.typeIn K (.ref p_Book_table)=some (.type "member_descriptor"))
  (sI_Book_table:PySem.W.slotIn K p_Book_table BK=some 0)
  (Ja_Book:PySem.W.findIn K (.ref BK) "__class__"=some (some (.builtin "object.__class__")))
  (Jn:PySem.W.specialIn K (.builtin "object.__class__") "__get__"=some (some (.builtin "getset_descriptor.__get__")))
  (Jt:PySem.W.takesIn K (.builtin "object.__class__")=some true)
  (Jm_Book:PySem.W.mroIn K BK (.type "object")=some true)
  (mM_Book___init__:PySem.W.makesIn K BK=true)
  (mA_Book___init__:PySem.W.findIn K (.ref BK) "__init__"=some (some (.ref f18)))
  (mF_Book___init__:PySem.W.isFn K (.ref f18)=true)
  (mK_Book___init__:PySem.W.keepIn K (.ref BK)=true)
  (mA_Book_copy:PySem.W.findIn K (.ref BK) "copy"=some (some (.ref f19)))
  (mF_Book_copy:PySem.W.isFn K (.ref f19)=true)
  (mA_Book_stages:PySem.W.findIn K (.ref BK) "stages"=some (some (.ref f21)))
  (mF_Book_stages:PySem.W.isFn K (.ref f21)=true)
  (Sf_Book:PySem.W.selfFirst K BK=true)
  (mA_Book___rshift__:PySem.W.findIn K (.ref BK) "__rshift__"=some (some (.ref f23)))
  (mF_Book___rshift__:PySem.W.isFn K (.ref f23)=true)
  (mA_Book___call__:PySem.W.findIn K (.ref BK) "__call__"=some (some (.ref f38)))
  (mF_Book___call__:PySem.W.isFn K (.ref f38)=true)
  (mI_Book___call__:PySem.W.fnIn K f38=true)
  (mA_Book_words:PySem.W.findIn K (.ref BK) "words"=some (some (.ref pp_Book_words)))
  (mG_Book_words:PySem.W.specialIn K (.ref pp_Book_words) "__get__"=some (some (.builtin "property.__get__")))
  (mT_Book_words:PySem.W.takesIn K (.ref pp_Book_words)=some true)
  (mR_Book_words:PySem.W.recIn K pp_Book_words "property"=some (.ref f20::rr_Book_words))
  (A_Chain:PySem.W.nsIn K mainGlobals "Chain"=some (some (.ref CH)))
  (Pg_Chain:PySem.W.plainGet K CH Str.empty=true)
  (Ic_Chain:PySem.W.isClsIn K CH=true)
  (Po_Chain:PySem.W.plainOver K CH=true)
  (Sa_Chain:PySem.W.findIn K (.ref CH) "__setattr__"=some (some (.builtin "object.__setattr__")))
  (sA_Chain_former:PySem.W.findIn K (.ref CH) "former"=some (some (.ref p_Chain_former)))
  (sG_Chain_former:PySem.W.specialIn K (.ref p_Chain_former) "__get__"=some (some (.builtin "member_descriptor.__get__")))
  (sT_Chain_former:PySem.W.takesIn K (.ref p_Chain_former)=some true)
  (sY_Chain_former:PySem.W.typeIn K (.ref p_Chain_former)=some (.type "member_descriptor"))
  (sI_Chain_former:PySem.W.slotIn K p_Chain_former CH=some 0)
  (sA_Chain_latter:PySem.W.findIn K (.ref CH) "latter"=some (some (.ref p_Chain_latter)))
  (sG_Chain_latter:PySem.W.specialIn K (.ref p_Chain_latter) "__get__"=some (some (.builtin "member_descriptor.__get__")))
  (sT_Chain_latter:PySem.W.takesIn K (.ref p_Chain_latter)=some true)
  (sY_Chain_latter:PySem.W.typeIn K (.ref p_Chain_latter)=some (.type "member_descriptor"))
  (sI_Chain_latter:PySem.W.slotIn K p_Chain_latter CH=some 1)
  (Ja_Chain:PySem.W.findIn K (.ref CH) "__class__"=some (some (.builtin "object.__class__")))
  (Jm_Chain:PySem.W.mroIn K CH (.type "object")=some true)
  (mM_Chain___init__:PySem.W.makesIn K CH=true)
  (mA_Chain___init__:PySem.W.findIn K (.ref CH) "__init__"=some (some (.ref f22)))
  (mF_Chain___init__:PySem.W.isFn K (.ref f22)=true)
  (mK_Chain___init__:PySem.W.keepIn K (.ref CH)=true)
  (mA_Chain_stages:PySem.W.findIn K (.ref CH) "stages"=some (some (.ref f24)))
  (mF_Chain_stages:PySem.W.isFn K (.ref f24)=true)
  (mA_Chain___call__:PySem.W.findIn K (.ref CH) "__call__"=some (some (.ref f39)))
  (mF_Chain___call__:PySem.W.isFn K (.ref f39)=true)
  (mI_Chain___call__:PySem.W.fnIn K f39=true)
  (mA_Chain_words:PySem.W.findIn K (.ref CH) "words"=some (some (.ref pp_Chain_words)))
  (mG_Chain_words:PySem.W.specialIn K (.ref pp_Chain_words) "__get__"=some (some (.builtin "property.__get__")))
  (mT_Chain_words:PySem.W.takesIn K (.ref pp_Chain_words)=some true)
  (mR_Chain_words:PySem.W.recIn K pp_Chain_words "property"=some (.ref f25::rr_Chain_words))
  (l18:K.lookup f18=some ⟨oc18,od18,.func (PySem.W.fnOf "__init__" "Book.__init__" (defArgs bF) (defBody bF) (defScope bF) (.ref TI18) kV18 dc18 pm18 an18 cd18 ct18),sl18⟩)
  (c18:PySem.W.codeIn K cd18 "Book.__init__"=true)
  (k18:PySem.W.keepIn K (.ref f18)=true)
  (lT18:K.lookup TI18=some ⟨ocT18,odT18,.seq #[dI18_0] nT18,slT18⟩)
  (l19:K.lookup f19=some ⟨oc19,od19,.func (PySem.W.fnOf "copy" "Book.copy" (defArgs fO) (defBody fO) (defScope fO) .none kV19 dc19 pm19 an19 cd19 ct19),sl19⟩)
  (c19:PySem.W.codeIn K cd19 "Book.copy"=true)
  (k19:PySem.W.keepIn K (.ref f19)=true)
  (l20:K.lookup f20=some ⟨oc20,od20,.func (PySem.W.fnOf "words" "Book.words" (defArgs dY) (defBody dY) (defScope dY) .none kV20 dc20 pm20 an20 cd20 ct20),sl20⟩)
  (c20:PySem.W.codeIn K cd20 "Book.words"=true)
  (k20:PySem.W.keepIn K (.ref f20)=true)
  (l21:K.lookup f21=some ⟨oc21,od21,.func (PySem.W.fnOf "stages" "Book.stages" (defArgs cR) (defBody cR) (defScope cR) .none kV21 dc21 pm21 an21 cd21 ct21),sl21⟩)
  (c21:PySem.W.codeIn K cd21 "Book.stages"=true)
  (k21:PySem.W.keepIn K (.ref f21)=true)
  (l22:K.lookup f22=some ⟨oc22,od22,.func (PySem.W.fnOf "__init__" "Chain.__init__" (defArgs bW) (defBody bW) (defScope bW) .none kV22 dc22 pm22 an22 cd22 ct22),sl22⟩)
  (c22:PySem.W.codeIn K cd22 "Chain.__init__"=true)
  (k22:PySem.W.keepIn K (.ref f22)=true)
  (l23:K.lookup f23=some ⟨oc23,od23,.func (PySem.W.fnOf "__rshift__" "Book.__rshift__" (defArgs bR) (defBody bR) (defScope bR) .none kV23 dc23 pm23 an23 cd23 ct23),sl23⟩)
  (c23:PySem.W.codeIn K cd23 "Book.__rshift__"=true)
  (k23:PySem.W.keepIn K (.ref f23)=true)
  (l24:K.lookup f24=some ⟨oc24,od24,.func (PySem.W.fnOf "stages" "Chain.stages" (defArgs cM) (defBody cM) (defScope cM) .none kV24 dc24 pm24 an24 cd24 ct24),sl24⟩)
  (c24:PySem.W.codeIn K cd24 "Chain.stages"=true)
  (k24:PySem.W.keepIn K (.ref f24)=true)
  (l25:K.lookup f25=some ⟨oc25,od25,.func (PySem.W.fnOf "words" "Chain.words" (defArgs cQ) (defBody cQ) (defScope cQ) .none kV25 dc25 pm25 an25 cd25 ct25),sl25⟩)
  (c25:PySem.W.codeIn K cd25 "Chain.words"=true)
  (k25:PySem.W.keepIn K (.ref f25)=true)
  (l38:K.lookup f38=some ⟨oc38,od38,.func (PySem.W.fnOf "__call__" "Book.__call__" (defArgs cD) (defBody cD) (defScope cD) .none kV38 dc38 pm38 an38 cd38 ct38),sl38⟩)
  (c38:PySem.W.codeIn K cd38 "Book.__call__"=true)
  (k38:PySem.W.keepIn K (.ref f38)=true)
  (l39:K.lookup f39=some ⟨oc39,od39,.func (PySem.W.fnOf "__call__" "Chain.__call__" (defArgs bY) (defBody bY) (defScope bY) .none kV39 dc39 pm39 an39 cd39 ct39),sl39⟩)
  (c39:PySem.W.codeIn K cd39 "Chain.__call__"=true)
  (k39:PySem.W.keepIn K (.ref f39)=true)
  (eA_BT:PySem.W.nsIn K mainGlobals "BadText"=some (some (.ref BT)))
  (eI_BT:PySem.W.findIn K (.ref BT) "__init__"=some (some (.ref fE_WideError___init__)))
  (lE_WideError___init__:K.lookup fE_WideError___init__=some ⟨ocE_WideError___init__,odE_WideError___init__,.func (PySem.W.fnOf "__init__" "WideError.__init__" (defArgs aW) (defBody aW) (defScope aW) (.ref TIE_WideError___init__) kVE_WideError___init__ dcE_WideError___init__ pmE_WideError___init__ anE_WideError___init__ cdE_WideError___init__ ctE_WideError___init__),slE_WideError___init__⟩)
  (cE_WideError___init__:PySem.W.codeIn K cdE_WideError___init__ "WideError.__init__"=true)
  (kE_WideError___init__:PySem.W.keepIn K (.ref fE_WideError___init__)=true)
  (lTE_WideError___init__:K.lookup TIE_WideError___init__=some ⟨ocTE_WideError___init__,odTE_WideError___init__,.seq #[dIE_WideError___init__] nTE_WideError___init__,slTE_WideError___init__⟩)
  (eT_E_WideError___init__:PySem.W.typeIn K (.ref fE_WideError___init__)=some (.type "function"))
  (eL_BT:K.lookup BT=some (excClassObj enm_BT eq_BT BT eN_BT ebs_BT ebm_BT true esn_BT esub_BT eab_BT ecol_BT edd_BT ek0_BT ek1_BT ek2_BT ek3_BT ek5_BT "ValueError.__new__"))
  (eR_BT:PySem.HandSPX.refsVE ebm_BT=true)
  (eS_BT:PySem.W.findIn K (.ref BT) "__setattr__"=some (some (.builtin "object.__setattr__")))
  (eX_BT:PySem.W.subIn K (.ref BT) (.type "BaseException")=some true)
  (eY_BT:PySem.W.typeIn K (.ref BT)=some (.type "type"))
  (eK_BT:PySem.W.keepIn K (.ref BT)=true)
  (eN_value_BT:PySem.W.findIn K (.ref BT) "value"=some none)
  (eG_BT:PySem.W.findIn K (.ref BT) "__getattribute__"=some (some (.builtin "BaseException.__getattribute__")))
  (eH_BT:PySem.W.findIn K (.ref BT) "__getattr__"=some none)
  (eD_BT:PySem.W.hasDictIn K BT=true)
  (eM_BT:PySem.W.subIn K (.ref BT) (.ref BT)=some true)
  (kCB:PySem.W.kitOne K (.ref CH) (.ref BK)=some false)
  :∀base:Heap,K.In base→base.Ns mainGlobals mg→(∃o,base.get? sysModules=some o)→FnG l.prog w K mg base 17 fa sp_law:=by
 have e:=hfa.symm.trans (PySem.W.mg_of X G a52)
 cases e
 intro base _ _ hsy
 have B:Bl mg:=⟨PySem.W.mg_none_of X G z_tuple,PySem.W.mg_none_of X G z_list,PySem.W.mg_none_of X G z_len,PySem.W.mg_none_of X G z_any,PySem.W.mg_none_of X G z_all,PySem.W.mg_none_of X G z_range,PySem.W.mg_none_of X G z_zip,PySem.W.mg_none_of X G z_isinstance,PySem.W.mg_none_of X G z_str,PySem.W.mg_none_of X G z_sorted,PySem.W.mg_none_of X G z_set,PySem.W.mg_none_of X G z_dict,PySem.W.mg_none_of X G z_max,PySem.W.mg_none_of X G z_min,PySem.W.mg_none_of X G z_abs,PySem.W.mg_none_of X G z_int,PySem.W.mg_none_of X G z_bool,PySem.W.mg_none_of X G z_sum,PySem.W.mg_none_of X G z_reversed,PySem.W.mg_none_of X G z_repr,PySem.W.mg_none_of X G z_enumerate⟩
 have g_MOST_KEY_rewriting:GI mg "MOST_KEY_rewriting" 3:=⟨_,PySem.W.mg_of X G n_MOST_KEY_rewriting⟩
 have g_MOST_LETTERS:GI mg "MOST_LETTERS" 8:=⟨_,PySem.W.mg_of X G n_MOST_LETTERS⟩
 have g_LETTERS:GS mg "LETTERS" "abcdefghijklmnopqrstuvwxyz" :=⟨_,PySem.W.mg_of X G n_LETTERS⟩
 have g_MOST_KEY_words:GI mg "MOST_KEY_words" 3:=⟨_,PySem.W.mg_of X G n_MOST_KEY_words⟩
 have g_MOST_CELL:GI mg "MOST_CELL" 3:=⟨_,PySem.W.mg_of X G n_MOST_CELL⟩
 have g_MOST_CELLS:GI mg "MOST_CELLS" 2:=⟨_,PySem.W.mg_of X G n_MOST_CELLS⟩
 have g_MOST_RULES:GI mg "MOST_RULES" 6:=⟨_,PySem.W.mg_of X G n_MOST_RULES⟩
 have g_DIFFERENT:GS mg "DIFFERENT" "different" :=⟨_,PySem.W.mg_of X G n_DIFFERENT⟩
 have g_SAME:GS mg "SAME" "same" :=⟨_,PySem.W.mg_of X G n_SAME⟩
 have FE_WideError___init__:FunX K "__init__" "WideError.__init__" aW fE_WideError___init__ _:=⟨⟨_,_,_,_,_,_,_,_,_,_,rfl,lE_WideError___init__,cE_WideError___init__⟩,kE_WideError___init__⟩
 have bE_WideError___init__:Binds K (PySem.W.fnOf "__init__" "WideError.__init__" (defArgs aW) (defBody aW) (defScope aW) (.ref TIE_WideError___init__) kVE_WideError___init__ dcE_WideError___init__ pmE_WideError___init__ anE_WideError___init__ cdE_WideError___init__ ctE_WideError___init__) ["self","value"] []:=binds_d lTE_WideError___init__ rfl fun us hl=>match us,hl with | [_,_],_=>⟨_,rfl,rfl⟩
 have eBT:ErX l.prog w K mg base "BadText" BT 1 ["value"]:=er_we (fn_we FE_WideError___init__ sc_WideError___init__ rfl (by decide) (by decide)) bE_WideError___init__ ⟨⟨_,_,_,_,_,_,_,_,_,_,_,_,_,_,_,eL_BT,eR_BT⟩,eS_BT,eX_BT,eY_BT,eK_BT⟩ (PySem.W.mg_of X G eA_BT) eI_BT eT_E_WideError___init__ eN_value_BT ⟨eG_BT,eH_BT,eX_BT,eD_BT⟩ (PySem.W.exm_ref eX_BT eD_BT eY_BT eM_BT)
 have bc:BkC K BK p_Book_table:=⟨⟨Pg_Book,Ic_Book,Po_Book,Sa_Book⟩,⟨sA_Book_table,sG_Book_table,sT_Book_table,sY_Book_table,sI_Book_table,by decide⟩⟩
 have cc:ChC K CH p_Chain_former p_Chain_latter:=⟨⟨Pg_Chain,Ic_Chain,Po_Chain,Sa_Chain⟩,⟨sA_Chain_former,sG_Chain_former,sT_Chain_former,sY_Chain_former,sI_Chain_former,by decide⟩,⟨sA_Chain_latter,sG_Chain_latter,sT_Chain_latter,sY_Chain_latter,sI_Chain_latter,by decide⟩⟩
 have F0:=fun_mk (st:=iV) l0 c0 k0
 have b0:=F0.binds (ps:= ["words"]) fun _ _ _ _ _ _ us hl=>match us,hl with | [_],_=>rfl
 have d_cells_of:Def l.prog w K mg base "cells_of" 1 lJ:=⟨f0,PySem.W.mg_of X G a0,k0,ok_cells_of F0 b0 B⟩
 have F1:=fun_mk (st:=iJ) l1 c1 k1
 have b1:=F1.binds (ps:= ["cells","at","many"]) fun _ _ _ _ _ _ us hl=>match us,hl with | [_,_,_],_=>rfl
 have d_words_at:Def l.prog w K mg base "words_at" 1 lE:=⟨f1,PySem.W.mg_of X G a1,k1,ok_words_at F1 b1 B⟩
 have F2:=fun_mk (st:=mW) l2 c2 k2
 have b2:=F2.binds (ps:= ["rules","cells","at"]) fun _ _ _ _ _ _ us hl=>match us,hl with | [_,_,_],_=>rfl
 have d_key_at:Def l.prog w K mg base "key_at" 2 rY:=⟨f2,PySem.W.mg_of X G a2,k2,ok_key_at F2 b2 B g_MOST_KEY_rewriting d_words_at⟩
 have F3:=fun_mk (st:=dI) l3 c3 k3
 have b3:=F3.binds (ps:= ["rules","cells","at"]) fun _ _ _ _ _ _ us hl=>match us,hl with | [_,_,_],_=>rfl
 have d_is_waiting:Def l.prog w K mg base "is_waiting" 2 lG:=⟨f3,PySem.W.mg_of X G a3,k3,ok_is_waiting F3 b3 B g_MOST_KEY_rewriting d_words_at⟩
 have F4:=fun_mk (st:=eX) l4 c4 k4
 have b4:=F4.binds (ps:= ["rules","cells","is_whole"]) fun _ _ _ _ _ _ us hl=>match us,hl with | [_,_,_],_=>rfl
 have d_rewritten:Def l.prog w K mg base "rewritten" 3 jE:=⟨f4,PySem.W.mg_of X G a4,k4,ok_rewritten F4 b4 B d_key_at d_is_waiting⟩
 have F5:=fun_mk (st:=jV) l5 c5 k5
 have b5:=F5.binds (ps:= ["stages","pending","cells","is_whole"]) fun _ _ _ _ _ _ us hl=>match us,hl with | [_,_,_,_],_=>rfl
 have d_through:Def l.prog w K mg base "through" 4 jR:=⟨f5,PySem.W.mg_of X G a5,k5,ok_through F5 b5 B d_cells_of d_rewritten⟩
 have F6:=fun_mk (st:=bQ) l6 c6 k6
 have b6:=F6.binds (ps:= ["stages"]) fun _ _ _ _ _ _ us hl=>match us,hl with | [_],_=>rfl
 have d_nothing_pending:Def l.prog w K mg base "nothing_pending" 1 cP:=⟨f6,PySem.W.mg_of X G a6,k6,ok_nothing_pending F6 b6 B⟩
 have F7:=fun_mk (st:=jU) l7 c7 k7
 have b7:=F7.binds (ps:= ["stages","text"]) fun _ _ _ _ _ _ us hl=>match us,hl with | [_,_],_=>rfl
 have d_written:Def l.prog w K mg base "written" 5 mV:=⟨f7,PySem.W.mg_of X G a7,k7,ok_written F7 b7 B d_cells_of d_nothing_pending d_through⟩
 have F8:=fun_mk (st:=jW) l8 c8 k8
 have b8:=F8.binds (ps:= ["value"]) fun _ _ _ _ _ _ us hl=>match us,hl with | [_],_=>rfl
 have d_is_word:Def l.prog w K mg base "is_word" 1 pP:=⟨f8,PySem.W.mg_of X G a8,k8,ok_is_word F8 b8 B g_MOST_LETTERS g_LETTERS⟩
 have F9:=fun_mk (st:=jX) l9 c9 k9
 have b9:=F9.binds (ps:= ["value"]) fun _ _ _ _ _ _ us hl=>match us,hl with | [_],_=>rfl
 have d_is_text:Def l.prog w K mg base "is_text" 2 eV:=⟨f9,PySem.W.mg_of X G a9,k9,ok_is_text F9 b9 B d_is_word⟩
 have F10:=fun_mk (st:=mX) l10 c10 k10
 have b10:=F10.binds (ps:= ["value"]) fun _ _ _ _ _ _ us hl=>match us,hl with | [_],_=>rfl
 have d_is_key:Def l.prog w K mg base "is_key" 3 sE:=⟨f10,PySem.W.mg_of X G a10,k10,ok_is_key F10 b10 B g_MOST_KEY_words d_is_text⟩
 have F11:=fun_mk (st:=eZ) l11 c11 k11
 have b11:=F11.binds (ps:= ["values"]) fun _ _ _ _ _ _ us hl=>match us,hl with | [_],_=>rfl
 have d_is_rising:Def l.prog w K mg base "is_rising" 1 lY:=⟨f11,PySem.W.mg_of X G a11,k11,ok_is_rising F11 b11 B⟩
 have F12:=fun_mk (st:=iK) l12 c12 k12
 have b12:=F12.binds (ps:= ["value","most"]) fun _ _ _ _ _ _ us hl=>match us,hl with | [_,_],_=>rfl
 have d_is_words:Def l.prog w K mg base "is_words" 3 nU:=⟨f12,PySem.W.mg_of X G a12,k12,ok_is_words F12 b12 B d_is_text d_is_rising⟩
 have F13:=fun_mk (st:=jZ) l13 c13 k13
 have b13:=F13.binds (ps:= ["value"]) fun _ _ _ _ _ _ us hl=>match us,hl with | [_],_=>rfl
 have d_is_cell:Def l.prog w K mg base "is_cell" 4 pU:=⟨f13,PySem.W.mg_of X G a13,k13,ok_is_cell F13 b13 g_MOST_CELL d_is_words⟩
 have F14:=fun_mk (st:=iT) l14 c14 k14
 have b14:=F14.binds (ps:= ["value"]) fun _ _ _ _ _ _ us hl=>match us,hl with | [_],_=>rfl
 have d_is_cells:Def l.prog w K mg base "is_cells" 5 nY:=⟨f14,PySem.W.mg_of X G a14,k14,ok_is_cells F14 b14 B g_MOST_CELLS d_is_cell⟩
 have F15:=fun_mk (st:=jY) l15 c15 k15
 have b15:=F15.binds (ps:= ["value"]) fun _ _ _ _ _ _ us hl=>match us,hl with | [_],_=>rfl
 have d_is_rule:Def l.prog w K mg base "is_rule" 6 pQ:=⟨f15,PySem.W.mg_of X G a15,k15,ok_is_rule F15 b15 B d_is_key d_is_cells⟩
 have F16:=fun_mk (st:=iQ) l16 c16 k16
 have b16:=F16.binds (ps:= ["value"]) fun _ _ _ _ _ _ us hl=>match us,hl with | [_],_=>rfl
 have d_is_rules:Def l.prog w K mg base "is_rules" 7 nW:=⟨f16,PySem.W.mg_of X G a16,k16,ok_is_rules F16 b16 B g_MOST_RULES d_is_rule⟩
 have F17:=fun_mk (st:=iU) l17 c17 k17
 have b17:=F17.binds (ps:= ["table"]) fun _ _ _ _ _ _ us hl=>match us,hl with | [_],_=>rfl
 have d_in_order:Def l.prog w K mg base "in_order" 1 nZ:=⟨f17,PySem.W.mg_of X G a17,k17,ok_in_order F17 b17 B⟩
 have F18:FunX K "__init__" "Book.__init__" bF f18 _:=⟨⟨_,_,_,_,_,_,_,_,_,_,rfl,l18,c18⟩,k18⟩
 have b18:Binds K (PySem.W.fnOf "__init__" "Book.__init__" (defArgs bF) (defBody bF) (defScope bF) (.ref TI18) kV18 dc18 pm18 an18 cd18 ct18) ["self","rules"] []:=binds_d lT18 rfl fun us hl=>match us,hl with | [_,_],_=>⟨_,rfl,rfl⟩
 have m18:FnA l.prog w K mg base 8 f18 (dF BK):=ok_Book_init F18 b18 bc d_is_rules
 have F19:=fun_mk (st:=fO) l19 c19 k19
 have b19:=F19.binds (ps:= ["self"]) fun _ _ _ _ _ _ us hl=>match us,hl with | [_],_=>rfl
 have m19:FnA l.prog w K mg base 10 f19 (jF BK):=ok_Book_copy F19 b19 bc ⟨mM_Book___init__,mA_Book___init__,mF_Book___init__,mK_Book___init__⟩ m18 (PySem.W.mg_of X G A_Book) d_in_order
 have F20:=fun_mk (st:=dY) l20 c20 k20
 have b20:=F20.binds (ps:= ["self"]) fun _ _ _ _ _ _ us hl=>match us,hl with | [_],_=>rfl
 have m20:FnA l.prog w K mg base 1 f20 (iG BK):=ok_Book_words F20 b20 B bc
 have F21:=fun_mk (st:=cR) l21 c21 k21
 have b21:=F21.binds (ps:= ["self"]) fun _ _ _ _ _ _ us hl=>match us,hl with | [_],_=>rfl
 have m21:FnA l.prog w K mg base 1 f21 (fW BK):=ok_Book_stages F21 b21 bc
 have F22:=fun_mk (st:=bW) l22 c22 k22
 have b22:=F22.binds (ps:= ["self","former","latter"]) fun _ _ _ _ _ _ us hl=>match us,hl with | [_,_,_],_=>rfl
 have m22:FnA l.prog w K mg base 11 f22 (iD CH BK):=ok_Chain_init F22 b22 bc cc ⟨mA_Book_copy,mF_Book_copy,k19⟩ m19
 have F23:=fun_mk (st:=bR) l23 c23 k23
 have b23:=F23.binds (ps:= ["self","other"]) fun _ _ _ _ _ _ us hl=>match us,hl with | [_,_],_=>rfl
 have m23:FnA l.prog w K mg base 13 f23 (jO BK CH):=ok_Book_rshift F23 b23 B bc ⟨Ja_Book,Jn,Jt,Jm_Book⟩ (PySem.W.mg_of X G A_Book) (PySem.W.mg_of X G A_Chain) ⟨mM_Chain___init__,mA_Chain___init__,mF_Chain___init__,mK_Chain___init__⟩ m22
 have F24:=fun_mk (st:=cM) l24 c24 k24
 have b24:=F24.binds (ps:= ["self"]) fun _ _ _ _ _ _ us hl=>match us,hl with | [_],_=>rfl
 have m24:FnA l.prog w K mg base 3 f24 (eE CH BK):=ok_Chain_stages F24 b24 bc cc ⟨mA_Book_stages,mF_Book_stages,k21⟩ m21
 have F25:=fun_mk (st:=cQ) l25 c25 k25
 have b25:=F25.binds (ps:= ["self"]) fun _ _ _ _ _ _ us hl=>match us,hl with | [_],_=>rfl
 have m25:FnA l.prog w K mg base 3 f25 (jN CH BK):=ok_Chain_words F25 b25 B bc cc ⟨mA_Book_words,mG_Book_words,mT_Book_words,_,mR_Book_words⟩ m20
 have RW:RwW l.prog w K mg base BK CH p_Book_table p_Chain_former p_Chain_latter _ _ _ _ _ _:=⟨bc,cc,⟨mA_Book_stages,mF_Book_stages,k21⟩,m21,⟨mA_Chain_stages,mF_Chain_stages,k24⟩,m24,⟨mA_Book_words,mG_Book_words,mT_Book_words,_,mR_Book_words⟩,m20,⟨mA_Chain_words,mG_Chain_words,mT_Chain_words,_,mR_Chain_words⟩,m25⟩
 have F26:=fun_mk (st:=eY) l26 c26 k26
 have b26:=F26.binds (ps:= ["word"]) fun _ _ _ _ _ _ us hl=>match us,hl with | [_],_=>rfl
 have d_next_word:Def l.prog w K mg base "next_word" 1 lX:=⟨f26,PySem.W.mg_of X G a26,k26,ok_next_word F26 b26 B g_MOST_LETTERS g_LETTERS⟩
 have F27:=fun_mk (st:=dJ) l27 c27 k27
 have b27:=F27.binds (ps:= ["words"]) fun _ _ _ _ _ _ us hl=>match us,hl with | [_],_=>rfl
 have d_fresh_word:Def l.prog w K mg base "fresh_word" 2 lH:=⟨f27,PySem.W.mg_of X G a27,k27,ok_fresh_word F27 b27 g_LETTERS d_next_word⟩
 have F28:=fun_mk (st:=qC) l28 c28 k28
 have b28:=F28.binds (ps:= ["rewriter"]) fun _ _ _ _ _ _ us hl=>match us,hl with | [_],_=>rfl
 have d_start:Def l.prog w K mg base "start" 4 (uN CH BK):=⟨f28,PySem.W.mg_of X G a28,k28,ok_start F28 b28 RW d_nothing_pending⟩
 have F29:=fun_mk (st:=qD) l29 c29 k29
 have b29:=F29.binds (ps:= ["rewriter","pending","cell"]) fun _ _ _ _ _ _ us hl=>match us,hl with | [_,_,_],_=>rfl
 have d_go_on:Def l.prog w K mg base "go_on" 5 (uR CH BK):=⟨f29,PySem.W.mg_of X G a29,k29,ok_go_on F29 b29 RW d_through⟩
 have F30:=fun_mk (st:=kE) l30 c30 k30
 have b30:=F30.binds (ps:= ["rewriter","pending"]) fun _ _ _ _ _ _ us hl=>match us,hl with | [_,_],_=>rfl
 have d_flushed:Def l.prog w K mg base "flushed" 5 (pX CH BK):=⟨f30,PySem.W.mg_of X G a30,k30,ok_flushed F30 b30 RW d_through⟩
 have F31:=fun_mk (st:=bK) l31 c31 k31
 have b31:=F31.binds (ps:= ["one","other"]) fun _ _ _ _ _ _ us hl=>match us,hl with | [_,_],_=>rfl
 have d_common_beginning:Def l.prog w K mg base "common_beginning" 1 sH:=⟨f31,PySem.W.mg_of X G a31,k31,ok_common F31 b31 B⟩
 have F32:=fun_mk (st:=dG) l32 c32 k32
 have b32:=F32.binds (ps:= ["one","other","row","word"]) fun _ _ _ _ _ _ us hl=>match us,hl with | [_,_,_,_],_=>rfl
 have d_row_behind:Def l.prog w K mg base "row_behind" 6 (gQ CH BK):=⟨f32,PySem.W.mg_of X G a32,k32,ok_row_behind F32 b32 d_go_on d_common_beginning⟩
 have F33:=fun_mk (st:=cJ) l33 c33 k33
 have b33:=F33.binds (ps:= ["one","other","row"]) fun _ _ _ _ _ _ us hl=>match us,hl with | [_,_,_],_=>rfl
 have d_is_same_here:Def l.prog w K mg base "is_same_here" 6 (jD CH BK):=⟨f33,PySem.W.mg_of X G a33,k33,ok_same_here F33 b33 d_flushed⟩
 have F34:=fun_mk (st:=dN) l34 c34 k34
 have b34:=F34.binds (ps:= ["_law_script","_law_k"]) fun _ _ _ _ _ _ us hl=>match us,hl with | [_,_],_=>rfl
 have d__law_pot:Def l.prog w K mg base "_law_pot" 1 aAs:=⟨f34,PySem.W.mg_of X G a34,k34,ok_pot F34 b34 B⟩
 have F35:=fun_mk (st:=fG) l35 c35 k35
 have b35:=F35.binds (ps:= ["_law_pot_here","_law_upto"]) fun _ _ _ _ _ _ us hl=>match us,hl with | [_,_],_=>rfl
 have d__law_take:Def l.prog w K mg base "_law_take" 1 lF:=⟨f35,PySem.W.mg_of X G a35,k35,ok_take F35 b35 B⟩
 have F36:=fun_mk (st:=kJ) l36 c36 k36
 have b36:=F36.binds (ps:= ["_law_pot_here","_law_some"]) fun _ _ _ _ _ _ us hl=>match us,hl with | [_,_],_=>rfl
 have d__law_of:Def l.prog w K mg base "_law_of" 2 xU:=⟨f36,PySem.W.mg_of X G a36,k36,ok_of F36 b36 B d__law_take⟩
 have F37:=fun_mk (st:=eG) l37 c37 k37
 have b37:=F37.binds (ps:= ["one","other"]) fun _ _ _ _ _ _ us hl=>match us,hl with | [_,_],_=>rfl
 have d_compare:Def l.prog w K mg base "compare" 8 (jT CH BK):=⟨f37,PySem.W.mg_of X G a37,k37,ok_compare F37 b37 B g_DIFFERENT g_SAME RW d_fresh_word d_start d_row_behind d_is_same_here⟩
 have F38:=fun_mk (st:=cD) l38 c38 k38
 have b38:=F38.binds (ps:= ["self","text"]) fun _ _ _ _ _ _ us hl=>match us,hl with | [_,_],_=>rfl
 have m38:FnA l.prog w K mg base 6 f38 (lZ BK BT):=ok_Book_call F38 b38 bc eBT.e d_is_text d_written
 have F39:=fun_mk (st:=bY) l39 c39 k39
 have b39:=F39.binds (ps:= ["self","text"]) fun _ _ _ _ _ _ us hl=>match us,hl with | [_,_],_=>rfl
 have m39:FnA l.prog w K mg base 6 f39 (lK CH BK BT):=ok_Chain_call F39 b39 cc eBT.e ⟨mA_Chain_stages,mF_Chain_stages,k24⟩ m24 d_is_text d_written
 have RD:RwD l.prog w K mg base BK CH BT p_Book_table p_Chain_former p_Chain_latter _ _ _ _ _:=⟨bc,cc,⟨Ja_Book,Jn,Jt,Jm_Book⟩,⟨Ja_Chain,Jn,Jt,Jm_Chain⟩,eBT,(PySem.W.mg_of X G A_Book),(PySem.W.mg_of X G A_Chain),⟨mM_Book___init__,mA_Book___init__,mF_Book___init__,mK_Book___init__⟩,m18,Sf_Book,mA_Book___rshift__,mF_Book___rshift__,m23,⟨mA_Book___call__,mF_Book___call__,mI_Book___call__⟩,m38,⟨mA_Chain___call__,mF_Chain___call__,mI_Chain___call__⟩,m39,⟨mA_Book_copy,mF_Book_copy,k19⟩,m19,kCB⟩
 have F40:=fun_mk (st:=fJ) l40 c40 k40
 have b40:=F40.binds (ps:= ["_law_side_here"]) fun _ _ _ _ _ _ us hl=>match us,hl with | [_],_=>rfl
 have d__law_side:Def l.prog w K mg base "_law_side" 14 (uO CH BK):=⟨f40,PySem.W.mg_of X G a40,k40,ok_side F40 b40 B RD⟩
 have F41:=fun_mk (st:=fB) l41 c41 k41
 have b41:=F41.binds (ps:= ["_law_pot_here"]) fun _ _ _ _ _ _ us hl=>match us,hl with | [_],_=>rfl
 have d__law_word:Def l.prog w K mg base "_law_word" 3 xR:=⟨f41,PySem.W.mg_of X G a41,k41,ok_word F41 b41 B d__law_take d__law_of⟩
 have F42:=fun_mk (st:=dO) l42 c42 k42
 have b42:=F42.binds (ps:= ["_law_pot_here","_law_many"]) fun _ _ _ _ _ _ us hl=>match us,hl with | [_,_],_=>rfl
 have d__law_names:Def l.prog w K mg base "_law_names" 4 uQ:=⟨f42,PySem.W.mg_of X G a42,k42,ok_names F42 b42 B d__law_take d__law_word⟩
 have F43:=fun_mk (st:=fL) l43 c43 k43
 have b43:=F43.binds (ps:= ["_law_pot_here","_law_names_here"]) fun _ _ _ _ _ _ us hl=>match us,hl with | [_,_],_=>rfl
 have d__law_cell:Def l.prog w K mg base "_law_cell" 3 xV:=⟨f43,PySem.W.mg_of X G a43,k43,ok_cell F43 b43 B d__law_of⟩
 have F44:=fun_mk (st:=dX) l44 c44 k44
 have b44:=F44.binds (ps:= ["_law_pot_here","_law_names_here"]) fun _ _ _ _ _ _ us hl=>match us,hl with | [_,_],_=>rfl
 have d__law_cells:Def l.prog w K mg base "_law_cells" 4 qX:=⟨f44,PySem.W.mg_of X G a44,k44,ok_cells F44 b44 B d__law_of d__law_cell⟩
 have F45:=fun_mk (st:=iW) l45 c45 k45
 have b45:=F45.binds (ps:= ["_law_pot_here","_law_names_here"]) fun _ _ _ _ _ _ us hl=>match us,hl with | [_,_],_=>rfl
 have d__law_key:Def l.prog w K mg base "_law_key" 3 yZ:=⟨f45,PySem.W.mg_of X G a45,k45,ok_key F45 b45 B d__law_of⟩
 have F46:=fun_mk (st:=fM) l46 c46 k46
 have b46:=F46.binds (ps:= ["_law_pot_here","_law_names_here","_law_most"]) fun _ _ _ _ _ _ us hl=>match us,hl with | [_,_,_],_=>rfl
 have d__law_book:Def l.prog w K mg base "_law_book" 5 xW:=⟨f46,PySem.W.mg_of X G a46,k46,ok_book F46 b46 B d__law_take d__law_key d__law_cells⟩
 have F47:=fun_mk (st:=fK) l47 c47 k47
 have b47:=F47.binds (ps:= ["_law_pot_here","_law_names_here","_law_most","_law_chains"]) fun _ _ _ _ _ _ us hl=>match us,hl with | [_,_,_,_],_=>rfl
 have d__law_plan:Def l.prog w K mg base "_law_plan" 6 xT:=⟨f47,PySem.W.mg_of X G a47,k47,ok_plan F47 b47 B d__law_take d__law_book⟩
 have F48:=fun_mk (st:=cC) l48 c48 k48
 have b48:=F48.binds (ps:= ["one","other","value"]) fun _ _ _ _ _ _ us hl=>match us,hl with | [_,_,_],_=>rfl
 have d_is_comparison:Def l.prog w K mg base "is_comparison" 9 (sG CH BK):=⟨f48,PySem.W.mg_of X G a48,k48,ok_is_cmp F48 b48 B g_DIFFERENT g_SAME RD d_is_text d_compare⟩
 have F49:=fun_mk (st:=bG) l49 c49 k49
 have b49:=F49.binds (ps:= ["_law_side_here"]) fun _ _ _ _ _ _ us hl=>match us,hl with | [_],_=>rfl
 have d__law_itself_right:DefG l.prog w K mg base "_law_itself_right" 15 rZ:=⟨f49,PySem.W.mg_of X G a49,k49,ok_itself F49 b49 B hsy d__law_side d_compare⟩
 have F50:=fun_mk (st:=dU) l50 c50 k50
 have b50:=F50.binds (ps:= ["_law_pot_here","_law_side_here","_law_names_here"]) fun _ _ _ _ _ _ us hl=>match us,hl with | [_,_,_],_=>rfl
 have d__law_kin:Def l.prog w K mg base "_law_kin" 5 aAt:=⟨f50,PySem.W.mg_of X G a50,k50,ok_kin F50 b50 B d__law_take d__law_of d__law_key d__law_cells⟩
 have F51:=fun_mk (st:=dM) l51 c51 k51
 have b51:=F51.binds (ps:= ["_law_pot_here"]) fun _ _ _ _ _ _ us hl=>match us,hl with | [_],_=>rfl
 have d__law_right:DefG l.prog w K mg base "_law_right" 16 uP:=⟨f51,PySem.W.mg_of X G a51,k51,ok_right F51 b51 B hsy d__law_take d__law_names d__law_plan d__law_kin d__law_itself_right d__law_side d_compare d_is_comparison⟩
 have FL:=fun_mk (st:=aAe) l52 c52 k52
 have bL:=FL.binds (ps:= ["_law_script"]) fun _ _ _ _ _ _ us hl=>match us,hl with | [_],_=>rfl
 exact law_ok FL bL B d__law_pot d__law_right
theorem walkL {l:PySem.W.OpenLaw} {q:Program} {loose:List Str} {XP:(Str→Option Value)→Heap→Prop} {YP:World→Heap→Prop} {d:DefRec} {K:Params→PySem.W.Frag} (hn:l.most=some 63) (hdf:d.params.defaults= [])
  (hY:∀(w:World) (h:Heap),YP w h→(K w.params).In h)
  (F:∀(w:World) (mg:Str→Option Value) (fa:Addr) (h:Heap),(K w.params).In h→h.Ns mainGlobals mg→mg d.name=some (.ref fa)→∀base:Heap,(K w.params).In base→base.Ns mainGlobals mg→(∃o,base.get? sysModules=some o)→FnG l.prog w (K w.params) mg base 17 fa sp_law) (hin:importsNone q=true):
  PySem.W.WalkO q loose XP YP l.row.toRowW d [] (fun f vs=>PySem.call f vs):=
 walk_G (n:=63) (k:=17) (sp:=sp_law) hn (by decide) hdf ⟨rfl,by decide,by decide⟩ hY F (fun ns Q R q=>⟨ns,rfl,q⟩) hin
end K
open PySem PySem.W PyProof.Rows in
set_option maxRecDepth 100000 in
set_option maxHeartbeats 0 in
theorem PySem.Challenge.cw_widenedwords_k36_comparisons_turned_abou_holds : PySem.Challenge.rw_widenedwords_k36_comparisons_turned_abou.Holds := by
 w_on;o_law;k_head;(case hw=>w_witness2)
 k_fill
 refine K.walkL (l := PySem.Challenge.rw_widenedwords_k36_comparisons_turned_abou) rfl rfl (fun w h Y => by first | exact PySem.W.kIn_of Y | exact PySem.W.km_in_of Y) ?F rfl
 case F=>
  intro w mg fa h KX G hmg
  intro base kb nb hsy
  refine' K.all_mk KX G hmg ?a0 ?l0 ?c0 ?k0 ?a1 ?l1 ?c1 ?k1 ?a2 ?l2 ?c2 ?k2 ?a3 ?l3 ?c3 ?k3 ?a4 ?l4 ?c4 ?k4 ?a5 ?l5 ?c5 ?k5 ?a6 ?l6 ?c6 ?k6 ?a7 ?l7 ?c7 ?k7 ?a8 ?l8 ?c8 ?k8 ?a9 ?l9 ?c9 ?k9 ?a10 ?l10 ?c10 ?k10 ?a11 ?l11 ?c11 ?k11 ?a12 ?l12 ?c12 ?k12 ?a13 ?l13 ?c13 ?k13 ?a14 ?l14 ?c14 ?k14 ?a15 ?l15 ?c15 ?k15 ?a16 ?l16 ?c16 ?k16 ?a17 ?l17 ?c17 ?k17 ?a26 ?l26 ?c26 ?k26 ?a27 ?l27 ?c27 ?k27 ?a28 ?l28 ?c28 ?k28 ?a29 ?l29 ?c29 ?k29 ?a30 ?l30 ?c30 ?k30 ?a31 ?l31 ?c31 ?k31 ?a32 ?l32 ?c32 ?k32 ?a33 ?l33 ?c33 ?k33 ?a34 ?l34 ?c34 ?k34 ?a35 ?l35 ?c35 ?k35 ?a36 ?l36 ?c36 ?k36 ?a37 ?l37 ?c37 ?k37 ?a40 ?l40 ?c40 ?k40 ?a41 ?l41 ?c41 ?k41 ?a42 ?l42 ?c42 ?k42 ?a43 ?l43 ?c43 ?k43 ?a44 ?l44 ?c44 ?k44 ?a45 ?l45 ?c45 ?k45 ?a46 ?l46 ?c46 ?k46 ?a47 ?l47 ?c47 ?k47 ?a48 ?l48 ?c48 ?k48 ?a49 ?l49 ?c49 ?k49 ?a50 ?l50 ?c50 ?k50 ?a51 ?l51 ?c51 ?k51 ?a52 ?l52 ?c52 ?k52 ?n_MOST_KEY_rewriting ?n_MOST_LETTERS ?n_LETTERS ?n_MOST_KEY_words ?n_MOST_CELL ?n_MOST_CELLS ?n_MOST_RULES ?n_DIFFERENT ?n_SAME ?z_tuple ?z_list ?z_len ?z_any ?z_all ?z_range ?z_zip ?z_isinstance ?z_str ?z_sorted ?z_set ?z_dict ?z_max ?z_min ?z_abs ?z_int ?z_bool ?z_sum ?z_reversed ?z_repr ?z_enumerate ?A_Book ?Pg_Book ?Ic_Book ?Po_Book ?Sa_Book ?sA_Book_table ?sG_Book_table ?sT_Book_table ?sY_Book_table ?sI_Book_table ?Ja_Book ?Jn ?Jt ?Jm_Book ?mM_Book___init__ ?mA_Book___init__ ?mF_Book___init__ ?mK_Book___init__ ?mA_Book_copy ?mF_Book_copy ?mA_Book_stages ?mF_Book_stages ?Sf_Book ?mA_Book___rshift__ ?mF_Book___rshift__ ?mA_Book___call__ ?mF_Book___call__ ?mI_Book___call__ ?mA_Book_words ?mG_Book_words ?mT_Book_words ?mR_Book_words ?A_Chain ?Pg_Chain ?Ic_Chain ?Po_Chain ?Sa_Chain ?sA_Chain_former ?sG_Chain_former ?sT_Chain_former ?sY_Chain_former ?sI_Chain_former ?sA_Chain_latter ?sG_Chain_latter ?sT_Chain_latter ?sY_Chain_latter ?sI_Chain_latter ?Ja_Chain ?Jm_Chain ?mM_Chain___init__ ?mA_Chain___init__ ?mF_Chain___init__ ?mK_Chain___init__ ?mA_Chain_stages ?mF_Chain_stages ?mA_Chain___call__ ?mF_Chain___call__ ?mI_Chain___call__ ?mA_Chain_words ?mG_Chain_words ?mT_Chain_words ?mR_Chain_words ?l18 ?c18 ?k18 ?lT18 ?l19 ?c19 ?k19 ?l20 ?c20 ?k20 ?l21 ?c21 ?k21 ?l22 ?c22 ?k22 ?l23 ?c23 ?k23 ?l24 ?c24 ?k24 ?l25 ?c25 ?k25 ?l38 ?c38 ?k38 ?l39 ?c39 ?k39 ?eA_BT ?eI_BT ?lE_WideError___init__ ?cE_WideError___init__ ?kE_WideError___init__ ?lTE_WideError___init__ ?eT_E_WideError___init__ ?eL_BT ?eR_BT ?eS_BT ?eX_BT ?eY_BT ?eK_BT ?eN_value_BT ?eG_BT ?eH_BT ?eD_BT ?eM_BT ?kCB base kb nb hsy
  (case a0=>k_is)
  (case l0=>k_is)
  (case c0=>k_is)
  (case k0=>k_is)
  (case a1=>k_is)
  (case l1=>k_is)
  (case c1=>k_is)
  (case k1=>k_is)
  (case a2=>k_is)
  (case l2=>k_is)
  (case c2=>k_is)
  (case k2=>k_is)
  (case a3=>k_is)
  (case l3=>k_is)
  (case c3=>k_is)
  (case k3=>k_is)
  (case a4=>k_is)
  (case l4=>k_is)
  (case c4=>k_is)
  (case k4=>k_is)
  (case a5=>k_is)
  (case l5=>k_is)
  (case c5=>k_is)
  (case k5=>k_is)
  (case a6=>k_is)
  (case l6=>k_is)
  (case c6=>k_is)
  (case k6=>k_is)
  (case a7=>k_is)
  (case l7=>k_is)
  (case c7=>k_is)
  (case k7=>k_is)
  (case a8=>k_is)
  (case l8=>k_is)
  (case c8=>k_is)
  (case k8=>k_is)
  (case a9=>k_is)
  (case l9=>k_is)
  (case c9=>k_is)
  (case k9=>k_is)
  (case a10=>k_is)
  (case l10=>k_is)
  (case c10=>k_is)
  (case k10=>k_is)
  (case a11=>k_is)
  (case l11=>k_is)
  (case c11=>k_is)
  (case k11=>k_is)
  (case a12=>k_is)
  (case l12=>k_is)
  (case c12=>k_is)
  (case k12=>k_is)
  (case a13=>k_is)
  (case l13=>k_is)
  (case c13=>k_is)
  (case k13=>k_is)
  (case a14=>k_is)
  (case l14=>k_is)
  (case c14=>k_is)
  (case k14=>k_is)
  (case a15=>k_is)
  (case l15=>k_is)
  (case c15=>k_is)
  (case k15=>k_is)
  (case a16=>k_is)
  (case l16=>k_is)
  (case c16=>k_is)
  (case k16=>k_is)
  (case a17=>k_is)
  (case l17=>k_is)
  (case c17=>k_is)
  (case k17=>k_is)
  (case a26=>k_is)
  (case l26=>k_is)
  (case c26=>k_is)
  (case k26=>k_is)
  (case a27=>k_is)
  (case l27=>k_is)
  (case c27=>k_is)
  (case k27=>k_is)
  (case a28=>k_is)
  (case l28=>k_is)
  (case c28=>k_is)
  (case k28=>k_is)
  (case a29=>k_is)
  (case l29=>k_is)
  (case c29=>k_is)
  (case k29=>k_is)
  (case a30=>k_is)
  (case l30=>k_is)
  (case c30=>k_is)
  (case k30=>k_is)
  (case a31=>k_is)
  (case l31=>k_is)
  (case c31=>k_is)
  (case k31=>k_is)
  (case a32=>k_is)
  (case l32=>k_is)
  (case c32=>k_is)
  (case k32=>k_is)
  (case a33=>k_is)
  (case l33=>k_is)
  (case c33=>k_is)
  (case k33=>k_is)
  (case a34=>k_is)
  (case l34=>k_is)
  (case c34=>k_is)
  (case k34=>k_is)
  (case a35=>k_is)
  (case l35=>k_is)
  (case c35=>k_is)
  (case k35=>k_is)
  (case a36=>k_is)
  (case l36=>k_is)
  (case c36=>k_is)
  (case k36=>k_is)
  (case a37=>k_is)
  (case l37=>k_is)
  (case c37=>k_is)
  (case k37=>k_is)
  (case a40=>k_is)
  (case l40=>k_is)
  (case c40=>k_is)
  (case k40=>k_is)
  (case a41=>k_is)
  (case l41=>k_is)
  (case c41=>k_is)
  (case k41=>k_is)
  (case a42=>k_is)
  (case l42=>k_is)
  (case c42=>k_is)
  (case k42=>k_is)
  (case a43=>k_is)
  (case l43=>k_is)
  (case c43=>k_is)
  (case k43=>k_is)
  (case a44=>k_is)
  (case l44=>k_is)
  (case c44=>k_is)
  (case k44=>k_is)
  (case a45=>k_is)
  (case l45=>k_is)
  (case c45=>k_is)
  (case k45=>k_is)
  (case a46=>k_is)
  (case l46=>k_is)
  (case c46=>k_is)
  (case k46=>k_is)
  (case a47=>k_is)
  (case l47=>k_is)
  (case c47=>k_is)
  (case k47=>k_is)
  (case a48=>k_is)
  (case l48=>k_is)
  (case c48=>k_is)
  (case k48=>k_is)
  (case a49=>k_is)
  (case l49=>k_is)
  (case c49=>k_is)
  (case k49=>k_is)
  (case a50=>k_is)
  (case l50=>k_is)
  (case c50=>k_is)
  (case k50=>k_is)
  (case a51=>k_is)
  (case l51=>k_is)
  (case c51=>k_is)
  (case k51=>k_is)
  (case a52=>k_is)
  (case l52=>k_is)
  (case c52=>k_is)
  (case k52=>k_is)
  (case n_MOST_KEY_rewriting=>k_is)
  (case n_MOST_LETTERS=>k_is)
  (case n_LETTERS=>k_is)
  (case n_MOST_KEY_words=>k_is)
  (case n_MOST_CELL=>k_is)
  (case n_MOST_CELLS=>k_is)
  (case n_MOST_RULES=>k_is)
  (case n_DIFFERENT=>k_is)
  (case n_SAME=>k_is)
  (case z_tuple=>k_is)
  (case z_list=>k_is)
  (case z_len=>k_is)
  (case z_any=>k_is)
  (case z_all=>k_is)
  (case z_range=>k_is)
  (case z_zip=>k_is)
  (case z_isinstance=>k_is)
  (case z_str=>k_is)
  (case z_sorted=>k_is)
  (case z_set=>k_is)
  (case z_dict=>k_is)
  (case z_max=>k_is)
  (case z_min=>k_is)
  (case z_abs=>k_is)
  (case z_int=>k_is)
  (case z_bool=>k_is)
  (case z_sum=>k_is)
  (case z_reversed=>k_is)
  (case z_repr=>k_is)
  (case z_enumerate=>k_is)
  (case A_Book=>k_is)
  (case Pg_Book=>k_is)
  (case Ic_Book=>k_is)
  (case Po_Book=>k_is)
  (case Sa_Book=>k_is)
  (case sA_Book_table=>k_is)
  (case sG_Book_table=>k_is)
  (case sT_Book_table=>k_is)
  (case sY_Book_table=>k_is)
  (case sI_Book_table=>k_is)
  (case Ja_Book=>k_is)
  (case Jn=>k_is)
  (case Jt=>k_is)
  (case Jm_Book=>k_is)
  (case mM_Book___init__=>k_is)
  (case mA_Book___init__=>k_is)
  (case mF_Book___init__=>k_is)
  (case mK_Book___init__=>k_is)
  (case mA_Book_copy=>k_is)
  (case mF_Book_copy=>k_is)
  (case mA_Book_stages=>k_is)
  (case mF_Book_stages=>k_is)
  (case Sf_Book=>k_is)
  (case mA_Book___rshift__=>k_is)
  (case mF_Book___rshift__=>k_is)
  (case mA_Book___call__=>k_is)
  (case mF_Book___call__=>k_is)
  (case mI_Book___call__=>k_is)
  (case mA_Book_words=>k_is)
  (case mG_Book_words=>k_is)
  (case mT_Book_words=>k_is)
  (case mR_Book_words=>k_is)
  (case A_Chain=>k_is)
  (case Pg_Chain=>k_is)
  (case Ic_Chain=>k_is)
  (case Po_Chain=>k_is)
  (case Sa_Chain=>k_is)
  (case sA_Chain_former=>k_is)
  (case sG_Chain_former=>k_is)
  (case sT_Chain_former=>k_is)
  (case sY_Chain_former=>k_is)
  (case sI_Chain_former=>k_is)
  (case sA_Chain_latter=>k_is)
  (case sG_Chain_latter=>k_is)
  (case sT_Chain_latter=>k_is)
  (case sY_Chain_latter=>k_is)
  (case sI_Chain_latter=>k_is)
  (case Ja_Chain=>k_is)
  (case Jm_Chain=>k_is)
  (case mM_Chain___init__=>k_is)
  (case mA_Chain___init__=>k_is)
  (case mF_Chain___init__=>k_is)
  (case mK_Chain___init__=>k_is)
  (case mA_Chain_stages=>k_is)
  (case mF_Chain_stages=>k_is)
  (case mA_Chain___call__=>k_is)
  (case mF_Chain___call__=>k_is)
  (case mI_Chain___call__=>k_is)
  (case mA_Chain_words=>k_is)
  (case mG_Chain_words=>k_is)
  (case mT_Chain_words=>k_is)
  (case mR_Chain_words=>k_is)
  (case l18=>k_is)
  (case c18=>k_is)
  (case k18=>k_is)
  (case lT18=>k_is)
  (case l19=>k_is)
  (case c19=>k_is)
  (case k19=>k_is)
  (case l20=>k_is)
  (case c20=>k_is)
  (case k20=>k_is)
  (case l21=>k_is)
  (case c21=>k_is)
  (case k21=>k_is)
  (case l22=>k_is)
  (case c22=>k_is)
  (case k22=>k_is)
  (case l23=>k_is)
  (case c23=>k_is)
  (case k23=>k_is)
  (case l24=>k_is)
  (case c24=>k_is)
  (case k24=>k_is)
  (case l25=>k_is)
  (case c25=>k_is)
  (case k25=>k_is)
  (case l38=>k_is)
  (case c38=>k_is)
  (case k38=>k_is)
  (case l39=>k_is)
  (case c39=>k_is)
  (case k39=>k_is)
  (case eA_BT=>k_is)
  (case eI_BT=>k_is)
  (case lE_WideError___init__=>k_is)
  (case cE_WideError___init__=>k_is)
  (case kE_WideError___init__=>k_is)
  (case lTE_WideError___init__=>k_is)
  (case eT_E_WideError___init__=>k_is)
  (case eL_BT=>k_is)
  (case eR_BT=>rfl)
  (case eS_BT=>k_is)
  (case eX_BT=>k_is)
  (case eY_BT=>k_is)
  (case eK_BT=>k_is)
  (case eN_value_BT=>k_is)
  (case eG_BT=>k_is)
  (case eH_BT=>k_is)
  (case eD_BT=>k_is)
  (case eM_BT=>k_is)
  (case kCB=>kit_is)
